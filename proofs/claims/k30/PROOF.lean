import PyProof.Rows.All
import Wide.All
import OpenK.AllK
import Wide.FinOn
import HandS.ForMost
import HandS.Walk
import HandS.IsInst
import HandS.Codes
import HandS.Wide
import HandS.Defaults
import HandS.MakeKwOnly
import KE.KDictList
import HandS.TupLe
import HandS.Exc
import HandS.ExcInit
import HandS.ExcField
import HandS.SortKw
import HandS.Zip
import HandS.NoneIn
import HandS.TryMany
import KE.GoesMore
import KE.KCallOwn
import HandS.TupAny
import HandS.FStr
import HandS.More
import HandS.OwnEq
import HandS.Style
import KE.DatumOrd
import KE.SortKeyHeap
import HandS.Keys
import KE.KDictCopyH
import PyProof.Rows.SortShellAny
import HandS.SortOrd
import KE.KDictZip
import KE.GoesZip
import PySem.Challenge.RW_boxinbox_k30_whole_fewest_nests
set_option Elab.async false
set_option linter.all false
set_option maxRecDepth 100000
set_option maxHeartbeats 8000000
namespace VS
open PySem L2 C8 PySem.Spec PyProof.Rows
/-! ### objects of own exception classes: their class, isinstance, == with own instances -/
section
open PySem.W
variable {prog : Program} {w : World} {A : Around} {E : Value → Shared → Prop} {s : Shared} {K : PySem.W.Frag} {x D : Addr} {ox od : Obj}
structure XcT (K : PySem.W.Frag) (D : Addr) : Prop where
  ga : PySem.W.findIn K (.ref D) "__getattribute__" = some (some (.builtin "BaseException.__getattribute__"))
  gg : PySem.W.findIn K (.ref D) "__getattr__" = some none
  exC : PySem.W.subIn K (.ref D) (.type "BaseException") = some true
  hd : PySem.W.hasDictIn K D = true
  ha : PySem.W.findIn K (.ref D) "__class__" = some (some (.builtin "object.__class__"))
  hn : PySem.W.specialIn K (.builtin "object.__class__") "__get__" = some (some (.builtin "getset_descriptor.__get__"))
  htk : PySem.W.takesIn K (.builtin "object.__class__") = some true
  hm : PySem.W.mroIn K D (.type "object") = some true
  eq : PySem.W.findIn K (.ref D) "__eq__" = some (some (.builtin "object.__eq__"))
theorem exc_class (T : XcT K D) {Q : Option Value → Shared → Prop} (X : K.In s.heap) (I : InstAt s.heap x ox D (some od)) (h : Q (some (.ref D)) { s with toks := s.toks + 1 }) : wpAny (model prog w) A (getAttr? (.ref x) "__class__") Q E s := by
  have hf : findObj K D (some od) "__class__" = some (.bind (.builtin "getset_descriptor.__get__") (.builtin "object.__class__")) := findObj_data (by obtain ⟨cd, hc, _⟩ := any_some T.hd; rw [hc]; rfl) T.ha T.hn T.htk
  obtain ⟨hp, g, d, t, os⟩ := s
  have L0 := I.type (M := model prog w)
  have L1 := looks_findIn (M := model prog w) X T.ga
  have L2 := looks_findIn (M := model prog w) X T.gg
  have L3 := looks_find (M := model prog w) X I hf
  have sub : Looks (model prog w) hp (isInstance (.ref x) (.type "BaseException")) true := L0.andThen (looks_subIn X T.exC)
  have hx2 : (Value.builtin "BaseException.__getattribute__" == Value.builtin "object.__getattribute__") = false := by decide +kernel
  have hx1 : (onTheHeap (Value.ref D) && Value.builtin "BaseException.__getattribute__" == Value.builtin "object.__getattribute__") = false := by rw [hx2]; rfl
  unfold getAttr? getAttrBy? getAttrBy
  refine wpAny_bind (wpAny_mkText (wpAny_bind (wpAny_attempt (wpAny_holding (wpAny_bind (L0.at (wpAny_bind (L1.at ?_))))))))
  show wpAny _ _ (if (onTheHeap (Value.ref D) && Value.builtin "BaseException.__getattribute__" == Value.builtin "object.__getattribute__") = true then _ else _) _ _ _
  rw [hx1, if_neg Bool.false_ne_true]
  unfold getAttrByItsOwn hookBefore
  refine wpAny_bind ?_
  rw [if_pos (show onTheHeap (Value.ref D) = true from rfl)]
  refine L2.at ?_
  refine wpAny_bind (wpAny_attempt (wpAny_holding ?_))
  unfold callGetattribute
  rw [show (false && onTheHeap (Value.builtin "BaseException.__getattribute__")) = false from rfl, if_neg Bool.false_ne_true]
  unfold boundAndCalled
  rw [PySem.F.excAttr_ValueError.ga.bind (.ref x)]
  refine wpAny_bind (wpAny_pure ?_)
  show wpAny _ _ (call (.builtin "BaseException.__getattribute__") [.ref x, .str "__class__" t]) _ _ _
  refine wpAny_call (codeAny_call_builtin PySem.F.excAttr_ValueError.ga.plain PySem.F.entry_bexc_ga ?_)
  refine @check_slot (model prog w) _ _ ⟨hp, g, d, t + 1, os⟩ "BaseException.__getattribute__" "BaseException" "__getattribute__" (.ref x) [.str "__class__" t] [] _ (by decide +kernel) (by decide +kernel) sub (PySem.F.args_bexc_ga (.ref x) (.str "__class__" t)) ?_
  unfold Builtin.«object.__getattribute__»
  refine wpAny_bind (wpAny_of_eq (a := ((Value.ref x : Value), [Value.str "__class__" t])) (by first | rfl | (simp only [slotArgs]; rfl)) ?_)
  refine wpAny_bind (wpAny_pure (wpAny_bind (L0.at (wpAny_bind (L3.at ?_)))))
  show wpAny _ _ (holding [Value.builtin "object.__class__"] (call (.builtin "getset_descriptor.__get__") [.builtin "object.__class__", .ref x, .ref D]) >>= ret) _ _ _
  refine wpAny_bind (wpAny_holding (wpAny_call (class_get (ox := ox) (od := some od) X I T.hm ?_)))
  refine wpAny_pure ?_
  show wpAny _ _ (handedOut (.ref D)) _ _ _
  rw [handedOut_of rfl]
  exact wpAny_pure (wpAny_pure h)
end
open PySem.W in
theorem kitx_exc {K : PySem.W.Frag} {x D : Addr} {ox od : Obj} (T : XcT K D) : PySem.W.KitX K (.ref x) (.ref D) (fun h => PySem.W.InstAt h x ox D (some od)) where
  ty := fun _ _ _ I => I.type
  it := fun _ _ X _ => by
    obtain ⟨cdD, hcD, _⟩ := any_some T.hd
    unfold clsIn at hcD
    split at hcD
    · rename_i c' d' cd' sl' ho
      intro A' Q' E' s' k q
      unfold isType loadHead
      exact wpAny_bind (wpAny_loadPart (k _ _ (X _ _ ho)) (wpAny_pure q))
    · cases hcD
  ne := fun h tp dd its n sl X htp => by
    obtain ⟨cdD, hcD, _⟩ := any_some T.hd
    refine Bool.eq_false_iff.mpr fun q => ?_
    have e : D = tp := Value.ref.inj (beq_iff_eq.mp q)
    subst e
    unfold clsIn at hcD
    split at hcD
    · rename_i c' d' cd' sl' ho
      have z := (X _ _ ho).symm.trans htp
      cases z
    · cases hcD
  ca := fun X I k => exc_class T X I k
section
variable {X : Cx} {pins : List (Addr × Obj)} {σ : L2.St} {H : Hp} {s : Shared}
/-- the class of a thing, also of an object of an own exception class -/
inductive TyZ (K : PySem.W.Frag) (H : Hp) : V → Value → Prop
  | x {v : V} {t : Value} (h : TyX K H v t) : TyZ K H v t
  | e {a C dd : Addr} {fs : List (Str × V)} (h : H a = some (exo a C (some dd))) (h2 : H dd = some (exd dd fs)) (T : XcT K C) : TyZ K H (.ref a) (.ref C)
theorem exo_inst {a C dd : Addr} {fs : List (Str × V)} (I : Inv X pins σ H s) (h : H a = some (exo a C (some dd))) (h2 : H dd = some (exd dd fs)) :
    ∃ ox od, PySem.W.InstAt s.heap a ox C (some od) ∧ s.heap.get? a = some ox ∧ ox.cls = .ref C := by
  obtain ⟨t1, ho⟩ := exo_at I.hok h
  obtain ⟨mA, ⟨od, es, ep, hd, _⟩, _⟩ := exd_at I.hok h2
  exact ⟨_, od, ⟨ho, rfl, rfl, hd⟩, ho, rfl⟩
theorem kit_ofZ {x : V} {u t : Value} (I : Inv X pins σ H s) (rx : RelV x u) (ty : TyZ X.K H x t) : ∃ P : Heap → Prop, PySem.W.KitX X.K u t P ∧ P s.heap ∧ u ≠ .builtin "__main__.__loader__#opaque" := by
  cases ty with
  | x h => exact kit_of I rx h
  | @e a C dd fs h h2 T =>
    cases (show u = Value.ref a from rx)
    obtain ⟨ox, od, J, _⟩ := exo_inst I h h2
    exact ⟨_, kitx_exc T, J, fun z => nomatch z⟩
def rIsiZ (K : PySem.W.Frag) : List V → Hp → VK → Prop := fun xs H Q => ∃ (x c : V) (t u : Value) (b : Bool), xs = [x, c] ∧ ClsV c u ∧ TyZ K H x t ∧ PySem.W.kitOne K t u = some b ∧ Q (.bl b) H
theorem c_isiZ : CallR X (.builtin "isinstance") (rIsiZ X.K) := by
  intro pins s σ H xs us Q I r h
  obtain ⟨x, c, t, u, b, rfl, k, ty, e, q⟩ := h
  obtain ⟨u1, u2, rfl, r1, r2⟩ := vals2 r
  have e2 := k.eq r2
  subst e2
  obtain ⟨P, Z, p, hx⟩ := kit_ofZ I r1 ty
  exact PySem.W.kia_one Z I.kIn p e hx fun tk => ⟨.bl b, H, I.tok tk, rfl, q⟩
end
end VS
namespace VS
open PySem L2
/-! values without the heap -/
inductive D where
  | non | bl (b : Bool) | int (i : Int) | str (x : Str) | ty (n : String) | ref (a : Addr)
  | rol (xs : List D) | hid | lst (xs : List D) | tup (xs : List D) | dK (kvs : List (Key × D)) | ins (C : Addr) (fs : List (Str × D)) | xcp (a dd C : Addr) (fs : List (Str × D)) | xv (C : Addr) (fs : List (Str × D))
/-- the objects that are known by reference -/
abbrev Sto := Addr → Option D
def put (S : Sto) (a : Addr) (d : D) : Sto := fun b => if b = a then some d else S b
def del (S : Sto) (a : Addr) : Sto := fun b => if b = a then none else S b
theorem put_same {S : Sto} {a : Addr} {d : D} : put S a d a = some d := by unfold put; rw [if_pos rfl]
theorem put_ne {S : Sto} {a b : Addr} {d : D} (h : b ≠ a) : put S a d b = S b := by unfold put; rw [if_neg h]
theorem put_put {S : Sto} {a : Addr} {d e : D} : put (put S a d) a e = put S a e := by
  funext b; unfold put; split <;> rfl
theorem del_same {S : Sto} {a : Addr} : del S a a = none := by unfold del; rw [if_pos rfl]
theorem del_ne {S : Sto} {a b : Addr} (h : b ≠ a) : del S a b = S b := by unfold del; rw [if_neg h]
theorem ne_at {S : Sto} {a b : Addr} {d : D} (h : S a = some d) (h' : S b = none) : a ≠ b := by
  intro e; subst e; rw [h] at h'; cases h'
abbrev Kl (K : PySem.W.Frag) (a : Addr) (xs : List V) : Prop :=
  ∃ (o : Obj) (its : Array Value) (n : Nat), K.lookup a = some o ∧ o.cls = .type "list" ∧ o.dict = none ∧ o.data = .seq its n ∧ its.size ≤ sizeLine ∧ Vals xs its.toList
abbrev Kt (K : PySem.W.Frag) (a : Addr) (xs : List V) : Prop :=
  ∃ (o : Obj) (its : Array Value) (n : Nat), K.lookup a = some o ∧ o.cls = .type "tuple" ∧ o.data = .seq its n ∧ its.size ≤ sizeLine ∧ Vals xs its.toList
section
variable (K : PySem.W.Frag) (H : Hp) (S : Sto)
mutual
/-- v is the value d, all of whose objects stand in H and are not known by reference -/
inductive Rep : V → D → Prop
  | non : Rep .non .non
  | bl (b : Bool) : Rep (.bl b) (.bl b)
  | int (i : Int) : Rep (.int i) (.int i)
  | str (x : Str) : Rep (.str x) (.str x)
  | ty (n : String) : Rep (.ty n) (.ty n)
  | ref (a : Addr) : Rep (.ref a) (.ref a)
  | rol {a : Addr} {xs : List V} {ds : List D} {o : Obj} (s : S a = none) (h : H a = some (.frz o (.lst xs))) (r : RepL xs ds) : Rep (.ref a) (.rol ds)
  | rolK {a : Addr} {xs : List V} {ds : List D} (h : Kl K a xs) (r : RepL xs ds) : Rep (.ref a) (.rol ds)
  | lst {a : Addr} {xs : List V} {ds : List D} (s : S a = none) (h : H a = some (.lst xs)) (r : RepL xs ds) : Rep (.ref a) (.lst ds)
  | tup {a : Addr} {xs : List V} {ds : List D} (s : S a = none) (h : H a = some (.tup xs)) (r : RepL xs ds) : Rep (.ref a) (.tup ds)
  | tupK {a : Addr} {xs : List V} {ds : List D} (h : Kt K a xs) (r : RepL xs ds) : Rep (.ref a) (.tup ds)
  | dK {a : Addr} {kvs : List (Key × V)} {ds : List (Key × D)} (s : S a = none) (h : Rd H a (.dK kvs)) (r : RepK kvs ds) : Rep (.ref a) (.dK ds)
  | ins {a C dx : Addr} {fs : List (Str × V)} {ds : List (Str × D)} (s : S a = none) (h : H a = some (.ins C dx fs)) (r : RepF fs ds) : Rep (.ref a) (.ins C ds)
  | xcp {a dd C : Addr} {fs : List (Str × V)} {ds : List (Str × D)} (s : S dd = none) (h : H dd = some (.xd fs)) (r : RepF fs ds) : Rep (.ref a) (.xcp a dd C ds)
  | xv {a C dd : Addr} {fs : List (Str × V)} {ds : List (Str × D)} (s : S a = none) (h : H a = some (exo a C (some dd))) (s2 : S dd = none) (h2 : H dd = some (exd dd fs)) (r : RepF fs ds) : Rep (.ref a) (.xv C ds)
inductive RepL : List V → List D → Prop
  | nil : RepL [] []
  | cons {v : V} {vs : List V} {d : D} {ds : List D} (h : Rep v d) (t : RepL vs ds) : RepL (v :: vs) (d :: ds)
inductive RepK : List (Key × V) → List (Key × D) → Prop
  | nil : RepK [] []
  | cons {k : Key} {v : V} {vs : List (Key × V)} {d : D} {ds : List (Key × D)} (h : Rep v d) (t : RepK vs ds) : RepK ((k, v) :: vs) ((k, d) :: ds)
inductive RepF : List (Str × V) → List (Str × D) → Prop
  | nil : RepF [] []
  | cons {k : Str} {v : V} {vs : List (Str × V)} {d : D} {ds : List (Str × D)} (h : Rep v d) (t : RepF vs ds) : RepF ((k, v) :: vs) ((k, d) :: ds)
end
end
/-- from (S, H) to (S', H'): what is not known by reference stays, so does what is hidden -/
structure Mk (S : Sto) (H : Hp) (S' : Sto) (H' : Hp) : Prop where
  keep : ∀ a o, S a = none → H a = some o → H' a = some o
  fresh : ∀ a, S a = none → H a ≠ none → S' a = none
structure Mv (S : Sto) (H : Hp) (S' : Sto) (H' : Hp) : Prop extends Mk S H S' H' where
  hid : ∀ a o, S a = some .hid → H a = some o → H' a = some o ∧ S' a = some .hid
theorem Mv.refl {S : Sto} {H : Hp} : Mv S H S H := ⟨⟨fun _ _ _ h => h, fun _ h _ => h⟩, fun _ _ h e => ⟨e, h⟩⟩
theorem Mv.trans {S S1 S2 : Sto} {H H1 H2 : Hp} (a : Mv S H S1 H1) (b : Mv S1 H1 S2 H2) : Mv S H S2 H2 where
  keep := fun x o s h => b.keep x o (a.fresh x s (by rw [h]; simp)) (a.keep x o s h)
  fresh := fun x s h => by
    cases q : H x with
    | none => exact absurd q h
    | some o => exact b.fresh x (a.fresh x s h) (by rw [a.keep x o s q]; simp)
  hid := fun x o s h => let ⟨e1, e2⟩ := a.hid x o s h; b.hid x o e2 e1
/-- the same, but dicts may be locked, or freed again -/
def nrm : HO → HO
  | .frz _ (.dK k) => .dK k
  | o => o
structure Ml (S : Sto) (H : Hp) (S' : Sto) (H' : Hp) : Prop where
  kp : ∀ a o, S a = none → H a = some o → ∃ o', H' a = some o' ∧ nrm o' = nrm o
  fresh : ∀ a, S a = none → H a ≠ none → S' a = none
theorem Mk.ml {S S' : Sto} {H H' : Hp} (m : Mk S H S' H') : Ml S H S' H' := ⟨fun a o s h => ⟨o, m.keep a o s h, rfl⟩, m.fresh⟩
theorem nrm_eq {o o' : HO} (e : nrm o' = nrm o) (nd : ∀ k, nrm o ≠ .dK k) : o' = nrm o := by
  unfold nrm at e
  split at e
  · exact absurd e.symm (nd _)
  · exact e
theorem Ml.keep {S S' : Sto} {H H' : Hp} (m : Ml S H S' H') (a : Addr) (o : HO) (s : S a = none) (h : H a = some o) (nd : nrm o = o ∧ ∀ k, nrm o ≠ .dK k := by exact ⟨rfl, fun _ e => by cases e⟩) : H' a = some o := by
  obtain ⟨o', h', e⟩ := m.kp a o s h
  rw [h', nrm_eq e nd.2, nd.1]
theorem Ml.keepD {S S' : Sto} {H H' : Hp} (m : Ml S H S' H') {a : Addr} {k : List (Key × V)} (s : S a = none) (h : Rd H a (.dK k)) : Rd H' a (.dK k) := by
  have fin : ∀ o, H a = some o → nrm o = .dK k → Rd H' a (.dK k) := fun o ho e => by
    obtain ⟨o', h', e'⟩ := m.kp a o s ho
    rw [e] at e'
    unfold nrm at e'
    split at e'
    · cases e'
      exact .inr ⟨_, h'⟩
    · rw [e'] at h'
      exact .inl h'
  rcases h with h | ⟨o, h⟩
  · exact fin _ h rfl
  · exact fin _ h rfl
theorem rd_ne {H : Hp} {a : Addr} {u : HO} (h : Rd H a u) : H a ≠ none := by
  rcases h with h | ⟨o, h⟩ <;> (rw [h]; simp)
section
variable {K : PySem.W.Frag} {S S' : Sto} {H H' : Hp}
mutual
theorem Rep.ml (m : Ml S H S' H') : ∀ {v : V} {d : D}, Rep K H S v d → Rep K H' S' v d
  | _, _, .non => .non
  | _, _, .bl b => .bl b
  | _, _, .int i => .int i
  | _, _, .str x => .str x
  | _, _, .ty n => .ty n
  | _, _, .ref a => .ref a
  | _, _, .rol s h r => .rol (m.fresh _ s (by rw [h]; simp)) (m.keep _ _ s h) (RepL.ml m r)
  | _, _, .rolK h r => .rolK h (RepL.ml m r)
  | _, _, .lst s h r => .lst (m.fresh _ s (by rw [h]; simp)) (m.keep _ _ s h) (RepL.ml m r)
  | _, _, .tup s h r => .tup (m.fresh _ s (by rw [h]; simp)) (m.keep _ _ s h) (RepL.ml m r)
  | _, _, .tupK h r => .tupK h (RepL.ml m r)
  | _, _, .dK s h r => .dK (m.fresh _ s (rd_ne h)) (m.keepD s h) (RepK.ml m r)
  | _, _, .ins s h r => .ins (m.fresh _ s (by rw [h]; simp)) (m.keep _ _ s h) (RepF.ml m r)
  | _, _, .xcp s h r => .xcp (m.fresh _ s (by rw [h]; simp)) (m.keep _ _ s h) (RepF.ml m r)
  | _, _, .xv s h s2 h2 r => .xv (m.fresh _ s (by rw [h]; simp)) (m.keep _ _ s h) (m.fresh _ s2 (by rw [h2]; simp)) (m.keep _ _ s2 h2) (RepF.ml m r)
theorem RepL.ml (m : Ml S H S' H') : ∀ {vs : List V} {ds : List D}, RepL K H S vs ds → RepL K H' S' vs ds
  | _, _, .nil => .nil
  | _, _, .cons h t => .cons (Rep.ml m h) (RepL.ml m t)
theorem RepK.ml (m : Ml S H S' H') : ∀ {vs : List (Key × V)} {ds : List (Key × D)}, RepK K H S vs ds → RepK K H' S' vs ds
  | _, _, .nil => .nil
  | _, _, .cons h t => .cons (Rep.ml m h) (RepK.ml m t)
theorem RepF.ml (m : Ml S H S' H') : ∀ {vs : List (Str × V)} {ds : List (Str × D)}, RepF K H S vs ds → RepF K H' S' vs ds
  | _, _, .nil => .nil
  | _, _, .cons h t => .cons (Rep.ml m h) (RepF.ml m t)
end
theorem Rep.mk (m : Mk S H S' H') {v : V} {d : D} (r : Rep K H S v d) : Rep K H' S' v d := Rep.ml m.ml r
theorem RepL.mk (m : Mk S H S' H') {vs : List V} {ds : List D} (r : RepL K H S vs ds) : RepL K H' S' vs ds := RepL.ml m.ml r
theorem RepK.mk (m : Mk S H S' H') {vs : List (Key × V)} {ds : List (Key × D)} (r : RepK K H S vs ds) : RepK K H' S' vs ds := RepK.ml m.ml r
theorem RepF.mk (m : Mk S H S' H') {vs : List (Str × V)} {ds : List (Str × D)} (r : RepF K H S vs ds) : RepF K H' S' vs ds := RepF.ml m.ml r
theorem Rep.mv {v : V} {d : D} (r : Rep K H S v d) (m : Mv S H S' H') : Rep K H' S' v d := Rep.mk m.toMk r
theorem RepL.mv {v : List V} {d : List D} (r : RepL K H S v d) (m : Mv S H S' H') : RepL K H' S' v d := RepL.mk m.toMk r
theorem RepK.mv {v : List (Key × V)} {d : List (Key × D)} (r : RepK K H S v d) (m : Mv S H S' H') : RepK K H' S' v d := RepK.mk m.toMk r
theorem RepF.mv {v : List (Str × V)} {d : List (Str × D)} (r : RepF K H S v d) (m : Mv S H S' H') : RepF K H' S' v d := RepF.mk m.toMk r
theorem RepL.length : ∀ {vs : List V} {ds : List D}, RepL K H S vs ds → vs.length = ds.length
  | _, _, .nil => rfl
  | _, _, .cons _ t => congrArg Nat.succ (RepL.length t)
theorem RepL.get : ∀ {vs : List V} {ds : List D} {i : Nat} {d : D}, RepL K H S vs ds → ds[i]? = some d → ∃ v, vs[i]? = some v ∧ Rep K H S v d
  | _, _, _, _, .nil, e => by simp at e
  | _, _, 0, _, .cons h _, e => by simp at e; subst e; exact ⟨_, rfl, h⟩
  | _, _, i + 1, d, .cons _ t, e => by
    obtain ⟨v, h1, h2⟩ := RepL.get (i := i) (d := d) t (by simpa using e)
    exact ⟨v, by simpa using h1, h2⟩
theorem RepL.append : ∀ {xs ys : List V} {us ws : List D}, RepL K H S xs us → RepL K H S ys ws → RepL K H S (xs ++ ys) (us ++ ws)
  | _, _, _, _, .nil, s => s
  | _, _, _, _, .cons r t, s => .cons r (RepL.append t s)
theorem RepL.set {x : V} {u : D} (r : Rep K H S x u) : ∀ {xs : List V} {us : List D} (i : Nat), RepL K H S xs us → RepL K H S (xs.set i x) (us.set i u)
  | _, _, _, .nil => .nil
  | _, _, 0, .cons _ t => .cons r t
  | _, _, i + 1, .cons q t => .cons q (RepL.set r i t)
theorem RepL.take : ∀ {xs : List V} {us : List D} (n : Nat), RepL K H S xs us → RepL K H S (xs.take n) (us.take n)
  | _, _, 0, _ => .nil
  | _, _, _ + 1, .nil => .nil
  | _, _, n + 1, .cons r t => .cons r (RepL.take n t)
theorem RepL.drop : ∀ {xs : List V} {us : List D} (n : Nat), RepL K H S xs us → RepL K H S (xs.drop n) (us.drop n)
  | _, _, 0, r => r
  | _, _, _ + 1, .nil => .nil
  | _, _, n + 1, .cons _ t => RepL.drop n t
theorem RepL.eraseIdx : ∀ {xs : List V} {us : List D} (n : Nat), RepL K H S xs us → RepL K H S (xs.eraseIdx n) (us.eraseIdx n)
  | _, _, _, .nil => .nil
  | _, _, 0, .cons _ t => t
  | _, _, n + 1, .cons r t => .cons r (RepL.eraseIdx n t)
theorem RepL.ints : ∀ {vs : List V} {ns : List Int}, RepL K H S vs (ns.map D.int) → vs = ns.map V.int
  | _, [], .nil => rfl
  | _, n :: ns, .cons (.int _) t => congrArg (V.int n :: ·) (RepL.ints t)
theorem RepL.strs : ∀ {vs : List V} {ns : List Str}, RepL K H S vs (ns.map D.str) → vs = ns.map V.str
  | _, [], .nil => rfl
  | _, n :: ns, .cons (.str _) t => congrArg (V.str n :: ·) (RepL.strs t)
theorem RepL.bls : ∀ {vs : List V} {ns : List Bool}, RepL K H S vs (ns.map D.bl) → vs = ns.map V.bl
  | _, [], .nil => rfl
  | _, n :: ns, .cons (.bl _) t => congrArg (V.bl n :: ·) (RepL.bls t)
theorem RepL.ofInts : ∀ {ns : List Int}, RepL K H S (ns.map V.int) (ns.map D.int)
  | [] => .nil
  | n :: _ => .cons (.int n) RepL.ofInts
theorem RepL.ofStrs : ∀ {ns : List Str}, RepL K H S (ns.map V.str) (ns.map D.str)
  | [] => .nil
  | n :: _ => .cons (.str n) RepL.ofStrs
theorem RepF.lookup {f : Str} {d : D} : ∀ {vs : List (Str × V)} {ds : List (Str × D)}, RepF K H S vs ds → ds.lookup f = some d → ∃ v, vs.lookup f = some v ∧ Rep K H S v d
  | _, _, .nil, e => by cases e
  | _, _, .cons (k := k) h t, e => by
    by_cases q : f == k
    · rw [List.lookup_cons, q] at e
      cases e
      exact ⟨_, by rw [List.lookup_cons, q], h⟩
    · have q' : (f == k) = false := by simpa using q
      rw [List.lookup_cons, q'] at e
      obtain ⟨v, h1, h2⟩ := RepF.lookup t e
      exact ⟨v, by rw [List.lookup_cons, q']; exact h1, h2⟩
theorem RepF.lookup_none {f : Str} : ∀ {vs : List (Str × V)} {ds : List (Str × D)}, RepF K H S vs ds → ds.lookup f = none → vs.lookup f = none
  | _, _, .nil, _ => rfl
  | _, _, .cons (k := k) h t, e => by
    by_cases q : f == k
    · rw [List.lookup_cons, q] at e
      cases e
    · have q' : (f == k) = false := by simpa using q
      rw [List.lookup_cons, q'] at e
      rw [List.lookup_cons, q']
      exact RepF.lookup_none t e
theorem RepF.length : ∀ {vs : List (Str × V)} {ds : List (Str × D)}, RepF K H S vs ds → vs.length = ds.length
  | _, _, .nil => rfl
  | _, _, .cons _ t => congrArg Nat.succ (RepF.length t)
def putD (f : Str) (v : D) : List (Str × D) → List (Str × D)
  | [] => [(f, v)]
  | (g, u) :: r => if g = f then (g, v) :: r else (g, u) :: putD f v r
theorem RepF.put {f : Str} {v : V} {d : D} (r : Rep K H S v d) : ∀ {vs : List (Str × V)} {ds : List (Str × D)}, RepF K H S vs ds → RepF K H S (putF f v vs) (putD f d ds)
  | _, _, .nil => .cons r .nil
  | _, _, .cons (k := k) h t => by
    unfold putD putF
    by_cases q : k = f
    · rw [if_pos q, if_pos q]; exact .cons r t
    · rw [if_neg q, if_neg q]; exact .cons h (RepF.put r t)
theorem Rep.seqL {v : V} {ds : List D} (r : Rep K H S v (.lst ds)) : ∃ a xs, v = .ref a ∧ S a = none ∧ H a = some (.lst xs) ∧ RepL K H S xs ds := by
  cases r with
  | lst s h r => exact ⟨_, _, rfl, s, h, r⟩
theorem Rep.seqR {v : V} {ds : List D} (r : Rep K H S v (.rol ds)) : ∃ a xs, v = .ref a ∧ (∀ S' H', Mv S H S' H' → SqL K H' a xs) ∧ RepL K H S xs ds := by
  cases r with
  | rol s h r => exact ⟨_, _, rfl, fun S' H' m => .inl (.inr ⟨_, m.keep _ _ s h⟩), r⟩
  | rolK h r => exact ⟨_, _, rfl, fun _ _ _ => .inr h, r⟩
theorem Rep.seqT {v : V} {ds : List D} (r : Rep K H S v (.tup ds)) : ∃ a xs, v = .ref a ∧ SqT K H a xs ∧ RepL K H S xs ds := by
  cases r with
  | tup s h r => exact ⟨_, _, rfl, .inl (.inl h), r⟩
  | tupK h r => exact ⟨_, _, rfl, .inr h, r⟩
end
/-! what is known by reference stands -/
def CellOk (K : PySem.W.Frag) (H : Hp) (S : Sto) (a : Addr) : D → Prop
  | .lst ds => ∃ xs, H a = some (.lst xs) ∧ RepL K H S xs ds
  | .dK ds => ∃ kvs, H a = some (.dK kvs) ∧ RepK K H S kvs ds
  | .ins C ds => ∃ dx fs, H a = some (.ins C dx fs) ∧ RepF K H S fs ds
  | .hid => ∃ o, H a = some o
  | _ => False
theorem cell_l {K : PySem.W.Frag} {H : Hp} {S : Sto} {a : Addr} {xs : List V} {ds : List D} (h : H a = some (.lst xs)) (r : RepL K H S xs ds) : CellOk K H S a (.lst ds) := ⟨xs, h, r⟩
theorem cell_d {K : PySem.W.Frag} {H : Hp} {S : Sto} {a : Addr} {xs : List (Key × V)} {ds : List (Key × D)} (h : H a = some (.dK xs)) (r : RepK K H S xs ds) : CellOk K H S a (.dK ds) := ⟨xs, h, r⟩
theorem cell_i {K : PySem.W.Frag} {H : Hp} {S : Sto} {a C dx : Addr} {xs : List (Str × V)} {ds : List (Str × D)} (h : H a = some (.ins C dx xs)) (r : RepF K H S xs ds) : CellOk K H S a (.ins C ds) := ⟨dx, xs, h, r⟩
/-- the whole of what is known by reference: S, and what is hidden -/
structure Cells (K : PySem.W.Frag) (H : Hp) (S T : Sto) : Prop where
  ov : ∀ a, (T a = S a ∧ T a ≠ some .hid) ∨ (S a = none ∧ T a = some .hid)
  ok : ∀ a d, T a = some d → CellOk K H T a d
section
variable {K : PySem.W.Frag} {S S' T T' : Sto} {H H' : Hp} {a p : Addr} {d : D}
theorem Cells.at (c : Cells K H S T) (h : S a = some d) : T a = some d := by
  rcases c.ov a with ⟨e, _⟩ | ⟨e, _⟩
  · rw [e]; exact h
  · rw [h] at e; cases e
theorem CellOk.mk (m : Mk S H S' H') (e : H' a = H a) : ∀ {d : D}, CellOk K H S a d → CellOk K H' S' a d
  | .lst _, ⟨xs, h, r⟩ => ⟨xs, by rw [e]; exact h, r.mk m⟩
  | .dK _, ⟨xs, h, r⟩ => ⟨xs, by rw [e]; exact h, r.mk m⟩
  | .ins _ _, ⟨dx, fs, h, r⟩ => ⟨dx, fs, by rw [e]; exact h, r.mk m⟩
  | .hid, ⟨o, h⟩ => ⟨o, by rw [e]; exact h⟩
theorem CellOk.mv (m : Mv S H S' H') (e : H' a = H a) {d : D} (h : CellOk K H S a d) : CellOk K H' S' a d := CellOk.mk m.toMk e h
theorem CellOk.there : ∀ {d : D}, CellOk K H S a d → H a ≠ none
  | .lst _, ⟨xs, h, _⟩ => by rw [h]; simp
  | .dK _, ⟨xs, h, _⟩ => by rw [h]; simp
  | .ins _ _, ⟨dx, fs, h, _⟩ => by rw [h]; simp
  | .hid, ⟨o, h⟩ => by rw [h]; simp
theorem Cells.free (c : Cells K H S T) (h : H p = none) : T p = none := by
  cases q : T p with
  | none => rfl
  | some d => exact absurd h (c.ok p d q).there
theorem Cells.freeS (c : Cells K H S T) (h : H p = none) : S p = none := by
  have q := c.free h
  rcases c.ov p with ⟨e, _⟩ | ⟨e, _⟩
  · rw [← e]; exact q
  · exact e
/-- a new object, known by value -/
theorem mv_new {o : HO} (h : H p = none) : Mv S H S (upd H p o) :=
  ⟨⟨fun _ _ _ e => by rw [upd_ne (ne_of_none e h)]; exact e, fun _ s _ => s⟩, fun _ _ s e => ⟨by rw [upd_ne (ne_of_none e h)]; exact e, s⟩⟩
theorem Cells.new {o : HO} (c : Cells K H S T) (h : H p = none) : Cells K (upd H p o) S T := ⟨c.ov, fun a d e => by
  have q := c.ok a d e
  refine CellOk.mv (mv_new h) (upd_ne fun z => ?_) q
  subst z
  exact q.there h⟩
theorem ov_put (h : ∀ a, (T a = S a ∧ T a ≠ some .hid) ∨ (S a = none ∧ T a = some .hid)) (nh : d ≠ .hid) : ∀ a, (put T p d a = put S p d a ∧ put T p d a ≠ some .hid) ∨ (put S p d a = none ∧ put T p d a = some .hid) := fun a => by
  by_cases z : a = p
  · subst z; rw [put_same, put_same]; exact .inl ⟨rfl, fun q => nh (Option.some.inj q)⟩
  · rw [put_ne z, put_ne z]; exact h a
/-- a new object, known by reference -/
theorem mv_newc {o : HO} (h : H p = none) : Mv S H (put S p d) (upd H p o) where
  keep := fun _ _ _ e => by rw [upd_ne (ne_of_none e h)]; exact e
  fresh := fun b s e => by
    rw [put_ne]
    · exact s
    · intro z; subst z; exact e h
  hid := fun b o s e => by
    have z := ne_of_none e h
    rw [upd_ne z, put_ne z]
    exact ⟨e, s⟩
theorem Cells.newc {o : HO} (c : Cells K H S T) (h : H p = none) (hd : CellOk K (upd H p o) (put T p d) p d) (nh : d ≠ .hid := by nofun) : Cells K (upd H p o) (put S p d) (put T p d) := ⟨ov_put c.ov nh, fun a e q => by
  by_cases z : a = p
  · subst z; rw [put_same] at q; cases q; exact hd
  · rw [put_ne z] at q
    have w := c.ok a e q
    exact CellOk.mv (mv_newc h) (upd_ne z) w⟩
/-- a new object, hidden -/
theorem Cells.newh {o : HO} (c : Cells K H S T) (h : H p = none) : Cells K (upd H p o) S (put T p .hid) := ⟨fun a => by
  by_cases z : a = p
  · subst z; exact .inr ⟨c.freeS h, put_same⟩
  · rw [put_ne z]; exact c.ov a, fun a e q => by
  by_cases z : a = p
  · subst z; rw [put_same] at q; cases q; exact ⟨o, upd_same⟩
  · rw [put_ne z] at q
    exact CellOk.mv (mv_newc h) (upd_ne z) (c.ok a e q)⟩
/-- the hidden object changes -/
theorem mk_hid {o : HO} (h : T p = some .hid) : Mk T H T (upd H p o) where
  keep := fun b _ s e => by
    rw [upd_ne]
    · exact e
    · intro z; subst z; rw [h] at s; cases s
  fresh := fun _ s _ => s
theorem Cells.hidw {o : HO} (c : Cells K H S T) (h : T p = some .hid) : Cells K (upd H p o) S T := ⟨c.ov, fun a e q => by
  by_cases z : a = p
  · subst z; rw [h] at q; cases q; exact ⟨o, upd_same⟩
  · exact CellOk.mk (mk_hid h) (upd_ne z) (c.ok a e q)⟩
theorem Mv.hidw {S1 : Sto} {H1 : Hp} {o : HO} (m : Mv S1 H1 T H) (n : H1 p = none) : Mv S1 H1 T (upd H p o) where
  keep := fun a u s e => by rw [upd_ne (ne_of_none e n)]; exact m.keep a u s e
  fresh := m.fresh
  hid := fun a u s e => by
    rw [upd_ne (ne_of_none e n)]
    exact m.hid a u s e
/-- the hidden object shows -/
theorem mk_show (h : T p = some .hid) : Mk T H (VS.del T p) H := ⟨fun _ _ _ h => h, fun b s _ => by
  unfold VS.del
  split
  · rfl
  · exact s⟩
theorem Cells.unhid (c : Cells K H S T) (h : T p = some .hid) : Cells K H S (VS.del T p) := ⟨fun a => by
  by_cases z : a = p
  · subst z
    rw [del_same]
    rcases c.ov a with ⟨_, e⟩ | ⟨e, _⟩
    · exact absurd h e
    · exact .inl ⟨e.symm, by simp⟩
  · rw [del_ne z]; exact c.ov a, fun a d q => by
  by_cases z : a = p
  · subst z; rw [del_same] at q; cases q
  · rw [del_ne z] at q
    exact CellOk.mk (mk_show h) rfl (c.ok a d q)⟩
/-- an object that is known by reference changes -/
theorem mv_wr {o : HO} {e : D} (h : S p = some e) (ne : e ≠ .hid := by nofun) : Mv S H (put S p d) (upd H p o) where
  keep := fun b _ s e => by
    rw [upd_ne]
    · exact e
    · intro z; subst z; rw [h] at s; cases s
  fresh := fun b s _ => by
    rw [put_ne]
    · exact s
    · intro z; subst z; rw [h] at s; cases s
  hid := fun b o s e => by
    have z : b ≠ p := by
      intro z; subst z; rw [h] at s; cases s; exact ne rfl
    rw [upd_ne z, put_ne z]
    exact ⟨e, s⟩
theorem Cells.wr {o : HO} {e : D} (c : Cells K H S T) (h : T p = some e) (hd : CellOk K (upd H p o) (put T p d) p d) (ne : e ≠ .hid := by nofun) (nh : d ≠ .hid := by nofun) : Cells K (upd H p o) (put S p d) (put T p d) := ⟨ov_put c.ov nh, fun a e q => by
  by_cases z : a = p
  · subst z; rw [put_same] at q; cases q; exact hd
  · rw [put_ne z] at q
    exact CellOk.mv (mv_wr h ne) (upd_ne z) (c.ok a e q)⟩
/-- from now on known by value -/
theorem mv_del (h : S p ≠ some .hid) : Mv S H (del S p) H := ⟨⟨fun _ _ _ h => h, fun b s _ => by
  unfold del
  split
  · rfl
  · exact s⟩, fun b o s e => ⟨e, by rw [del_ne]; exact s; intro z; subst z; exact h s⟩⟩
theorem Cells.del (c : Cells K H S T) (h : T p ≠ some .hid) : Cells K H (del S p) (del T p) := ⟨fun a => by
  by_cases z : a = p
  · subst z; rw [del_same, del_same]; exact .inl ⟨rfl, by simp⟩
  · rw [del_ne z, del_ne z]; exact c.ov a, fun a d q => by
  by_cases z : a = p
  · subst z; rw [del_same] at q; cases q
  · rw [del_ne z] at q
    exact CellOk.mv (mv_del h) rfl (c.ok a d q)⟩
theorem Cells.rep (c : Cells K H S T) (h : T p = some d) (ne : T p ≠ some .hid) : Rep K H (VS.del T p) (.ref p) d := by
  have q := c.ok p d h
  cases d with
  | lst ds => obtain ⟨xs, h1, r⟩ := q; exact .lst del_same h1 (r.mv (mv_del ne))
  | dK ds => obtain ⟨xs, h1, r⟩ := q; exact .dK del_same (.inl h1) (r.mv (mv_del ne))
  | ins C ds => obtain ⟨dx, fs, h1, r⟩ := q; exact .ins del_same h1 (r.mv (mv_del ne))
  | hid => exact absurd h ne
  | _ => exact q.elim
end
/-! ### where one stands -/
abbrev Rho := List (Option D)
/-- the written part; what is wanted of an exception, by the heap and by value (at the slots as they then are) -/
structure Ctx where
  K : PySem.W.Frag
  E : St → XK
  Y : Addr → List (Str × D) → Rho → Sto → Prop
def XRep (K : PySem.W.Frag) (H : Hp) (S : Sto) (d : Option Addr) (fs : List (Str × D)) : Prop :=
  ∃ dd fv, d = some dd ∧ S dd = none ∧ H dd = some (.xd fv) ∧ RepF K H S fv fs
/-- the slots hold what ρ says -/
structure Sl (K : PySem.W.Frag) (H : Hp) (T : Sto) (σ : St) (ρ : Rho) : Prop where
  slots : ∀ (i : Nat) (d : D), ρ[i]? = some (some d) → ∃ v, σ[i]? = some (some v) ∧ Rep K H T v d
  len : σ.length = ρ.length
structure In (c : Ctx) (σ : St) (H : Hp) (ρ : Rho) (S T : Sto) : Prop where
  cells : Cells c.K H S T
  slots : ∀ (i : Nat) (d : D), ρ[i]? = some (some d) → ∃ v, σ[i]? = some (some v) ∧ Rep c.K H T v d
  len : σ.length = ρ.length
  exc : ∀ (σ' : St) (ρ' : Rho) (C : Addr) (d : Option Addr) (fs : List (Str × D)) (S' T' : Sto) (H' : Hp), Mv T H T' H' → Cells c.K H' S' T' → Sl c.K H' T' σ' ρ' → XRep c.K H' T' d fs → c.Y C fs ρ' S' → c.E σ' (.ref C) d H'
section
variable {c : Ctx} {σ : St} {H H' : Hp} {ρ : Rho} {S S' T T' : Sto}
theorem In.mv (I : In c σ H ρ S T) (m : Mv T H T' H') (cl : Cells c.K H' S' T') : In c σ H' ρ S' T' :=
  ⟨cl, fun i d e => let ⟨v, h, r⟩ := I.slots i d e; ⟨v, h, r.mv m⟩, I.len, fun σ2 ρ2 C d fs S2 T2 H2 m2 c2 sl x y => I.exc σ2 ρ2 C d fs S2 T2 H2 (m.trans m2) c2 sl x y⟩
theorem In.sl (I : In c σ H ρ S T) : Sl c.K H T σ ρ := ⟨I.slots, I.len⟩
theorem In.set (I : In c σ H ρ S T) {v : V} {d : D} (i : Nat) (r : Rep c.K H T v d) : In c (σ.set i (some v)) H (ρ.set i (some d)) S T := by
  refine ⟨I.cells, fun j e q => ?_, by simp [I.len], I.exc⟩
  by_cases z : j = i
  · subst z
    have hj : j < ρ.length := by
      cases Nat.lt_or_ge j ρ.length with
      | inl h => exact h
      | inr h => rw [List.getElem?_eq_none (by simpa using h)] at q; cases q
    rw [List.getElem?_set_self hj] at q
    cases q
    exact ⟨v, List.getElem?_set_self (by rw [I.len]; exact hj), r⟩
  · rw [List.getElem?_set_ne (Ne.symm z)] at q
    obtain ⟨u, h1, h2⟩ := I.slots j e q
    exact ⟨u, by rw [List.getElem?_set_ne (Ne.symm z)]; exact h1, h2⟩
/-- another word for a slot's value -/
theorem In.reword (I : In c σ H ρ S T) {d d' : D} {i : Nat} (e : ρ[i]? = some (some d)) (h : ∀ v, Rep c.K H T v d → Rep c.K H T v d') : In c σ H (ρ.set i (some d')) S T := by
  refine ⟨I.cells, fun j e' q => ?_, by simp [I.len], I.exc⟩
  by_cases z : j = i
  · subst z
    have hj : j < ρ.length := (List.getElem?_eq_some_iff.mp e).1
    rw [List.getElem?_set_self hj] at q
    cases q
    obtain ⟨u, h1, h2⟩ := I.slots j d e
    exact ⟨u, h1, h u h2⟩
  · rw [List.getElem?_set_ne (Ne.symm z)] at q
    exact I.slots j e' q
end
/-! ### readings by value -/
def VE (c : Ctx) (te : TE) (ρ : Rho) (S : Sto) (F : D → Sto → Prop) : Prop := ∀ T σ H, In c σ H ρ S T → ∀ Q : VK,
  (∀ v d S' T' H', Mv T H T' H' → Cells c.K H' S' T' → Rep c.K H' T' v d → F d S' → Q v H') → te σ H Q
def VT (c : Ctx) (tt : TT) (ρ : Rho) (S : Sto) (F : Bool → Sto → Prop) : Prop := ∀ T σ H, In c σ H ρ S T → ∀ Q : Bool → Hp → Prop,
  (∀ b S' T' H', Mv T H T' H' → Cells c.K H' S' T' → F b S' → Q b H') → tt σ H Q
def VA (c : Ctx) (ta : TA) (ρ : Rho) (S : Sto) (F : List D → Sto → Prop) : Prop := ∀ T σ H, In c σ H ρ S T → ∀ Q : List V → Hp → Prop,
  (∀ vs ds S' T' H', Mv T H T' H' → Cells c.K H' S' T' → RepL c.K H' T' vs ds → F ds S' → Q vs H') → ta σ H Q
def VO (c : Ctx) (to : TO) (ρ : Rho) (S : Sto) (F : Option Int → Sto → Prop) : Prop := ∀ T σ H, In c σ H ρ S T → ∀ Q : Option Int → Hp → Prop,
  (∀ o S' T' H', Mv T H T' H' → Cells c.K H' S' T' → F o S' → Q o H') → to σ H Q
def RU (c : Ctx) (r : V → Hp → VK → Prop) (x : D) (S : Sto) (F : D → Sto → Prop) : Prop := ∀ T u H, Cells c.K H S T → Rep c.K H T u x → ∀ Q : VK,
  (∀ v d S' T' H', Mv T H T' H' → Cells c.K H' S' T' → Rep c.K H' T' v d → F d S' → Q v H') → r u H Q
def RV (c : Ctx) (r : R2) (x y : D) (S : Sto) (F : D → Sto → Prop) : Prop := ∀ T u w H, Cells c.K H S T → Rep c.K H T u x → Rep c.K H T w y → ∀ Q : VK,
  (∀ v d S' T' H', Mv T H T' H' → Cells c.K H' S' T' → Rep c.K H' T' v d → F d S' → Q v H') → r u w H Q
def RC (c : Ctx) (r : List V → Hp → VK → Prop) (ds : List D) (S : Sto) (F : D → Sto → Prop) : Prop := ∀ T us H, Cells c.K H S T → RepL c.K H T us ds → ∀ Q : VK,
  (∀ v d S' T' H', Mv T H T' H' → Cells c.K H' S' T' → Rep c.K H' T' v d → F d S' → Q v H') → r us H Q
def RM (c : Ctx) (r : V → List V → Hp → VK → Prop) (x : D) (ds : List D) (S : Sto) (F : D → Sto → Prop) : Prop := ∀ T u us H, Cells c.K H S T → Rep c.K H T u x → RepL c.K H T us ds → ∀ Q : VK,
  (∀ v d S' T' H', Mv T H T' H' → Cells c.K H' S' T' → Rep c.K H' T' v d → F d S' → Q v H') → r u us H Q
def VG (c : Ctx) (g : TG) (d : D) (ρ : Rho) (S : Sto) (F : Rho → Sto → Prop) : Prop := ∀ T v σ H, In c σ H ρ S T → Rep c.K H T v d → ∀ Q : St → Hp → Prop,
  (∀ σ' ρ' S' T' H', Mv T H T' H' → In c σ' H' ρ' S' T' → F ρ' S' → Q σ' H') → g v σ H Q
/-- what is wanted behind a statement -/
structure Po where
  nx : Rho → Sto → Prop
  rt : D → Sto → Prop
  bk : Rho → Sto → Prop
  ct : Rho → Sto → Prop
structure Bh (c : Ctx) (P : Po) (D : Ends) (T : Sto) (H : Hp) : Prop where
  nx : ∀ σ' ρ' S' T' H', Mv T H T' H' → In c σ' H' ρ' S' T' → P.nx ρ' S' → D.nx σ' H'
  rt : ∀ v d S' T' H', Mv T H T' H' → Cells c.K H' S' T' → Rep c.K H' T' v d → P.rt d S' → D.rt v H'
  bk : ∀ σ' ρ' S' T' H', Mv T H T' H' → In c σ' H' ρ' S' T' → P.bk ρ' S' → D.bk σ' H'
  ct : ∀ σ' ρ' S' T' H', Mv T H T' H' → In c σ' H' ρ' S' T' → P.ct ρ' S' → D.ct σ' H'
theorem Bh.mv {c : Ctx} {P : Po} {D : Ends} {T T' : Sto} {H H' : Hp} (b : Bh c P D T H) (m : Mv T H T' H') : Bh c P D T' H' :=
  ⟨fun σ ρ S2 T2 H2 m2 => b.nx σ ρ S2 T2 H2 (m.trans m2), fun v d S2 T2 H2 m2 => b.rt v d S2 T2 H2 (m.trans m2), fun σ ρ S2 T2 H2 m2 => b.bk σ ρ S2 T2 H2 (m.trans m2), fun σ ρ S2 T2 H2 m2 => b.ct σ ρ S2 T2 H2 (m.trans m2)⟩
def VX (c : Ctx) (t : TS) (ρ : Rho) (S : Sto) (P : Po) : Prop := ∀ T σ H, In c σ H ρ S T → ∀ D : Ends, Bh c P D T H → t D σ H
/-- an iterator: its values one by one -/
def Yl (K : PySem.W.Frag) (J : It) (ds : List D) (T : Sto) (H : Hp) : Prop := ∃ G Y, Walk J ds.length G Y ∧ (∀ T1 H1, Mv T H T1 H1 → G H1) ∧
  ∀ (i : Nat) (d : D) (S1 T1 : Sto) (H1 H2 : Hp) (x : V), ds[i]? = some d → Mv T H T1 H1 → Cells K H1 S1 T1 → Y i H1 x H2 → Mv T1 H1 T1 H2 ∧ Cells K H2 S1 T1 ∧ Rep K H2 T1 x d
def VI (c : Ctx) (wi : TI) (ρ : Rho) (S : Sto) (F : List D → Sto → Prop) : Prop := ∀ T σ H, In c σ H ρ S T → ∀ R : It → Hp → Prop,
  (∀ J ds S' T' H', Mv T H T' H' → Cells c.K H' S' T' → Yl c.K J ds T' H' → F ds S' → R J H') → wi σ H R
end VS
namespace VS
open PySem L2
/-! ### the readings that bear no name in the layer -/
abbrev CR1 := List V → Hp → VK → Prop
abbrev MR1 := V → List V → Hp → VK → Prop
def rAddStr : R2 := fun x y H Q => ∃ i j, x = .str i ∧ y = .str j ∧ i.length + j.length ≤ sizeLine ∧ Q (.str (i ++ j)) H
def rLtStr : R2 := fun x y H Q => ∃ i j, x = .str i ∧ y = .str j ∧ Q (.bl (decide (i.cps.toList < j.cps.toList))) H
def rLeStr : R2 := fun x y H Q => ∃ i j, x = .str i ∧ y = .str j ∧ Q (.bl (!decide (j.cps.toList < i.cps.toList))) H
def rInStr : R2 := fun x y H Q => ∃ i j, x = .str i ∧ y = .str j ∧ Q (.bl (!(Builtin.Str.occurrences j i 0 j.length 1).isEmpty)) H
def rNotInStr : R2 := fun x y H Q => ∃ i j, x = .str i ∧ y = .str j ∧ Q (.bl (!(!(Builtin.Str.occurrences j i 0 j.length 1).isEmpty))) H
def rLen (K : PySem.W.Frag) : CR1 := fun xs H Q => ∃ x n, xs = [x] ∧ LenV K x H n ∧ Q (.int n) H
def rAbs : CR1 := fun xs H Q => ∃ i, xs = [.int i] ∧ Q (.int (if i < 0 then -i else i)) H
def rMax2 : CR1 := fun xs H Q => ∃ i j, xs = [.int i, .int j] ∧ Q (.int (if j > i then j else i)) H
def rMin2 : CR1 := fun xs H Q => ∃ i j, xs = [.int i, .int j] ∧ Q (.int (if j < i then j else i)) H
def rInt1 : CR1 := fun xs H Q => (∃ i, xs = [.int i] ∧ Q (.int i) H) ∨ ∃ k, xs = [.bl k] ∧ Q (.int (if k then 1 else 0)) H
def rStrInt : CR1 := fun xs H Q => ∃ i, xs = [.int i] ∧ i.natAbs.log2 < 1920 ∧ Q (.str (toString i)) H
def rOrd : CR1 := fun xs H Q => ∃ x, xs = [.str x] ∧ x.length = 1 ∧ Q (.int (x.cps.getD 0 0 : Nat)) H
def rListOf (K : PySem.W.Frag) : CR1 := fun xs H Q => ∃ p ys, xs = [.ref p] ∧ (SqL K H p ys ∨ SqT K H p ys) ∧ ∀ l, H l = none → Q (.ref l) (upd H l (.lst ys))
def rTupleOf (K : PySem.W.Frag) : CR1 := fun xs H Q => ∃ p ys, xs = [.ref p] ∧ ((SqL K H p ys ∧ ∀ l, H l = none → Q (.ref l) (upd H l (.tup ys))) ∨ (SqT K H p ys ∧ Q (.ref p) H))
def rJoin (K : PySem.W.Frag) : MR1 := fun x xs H Q => ∃ a p, ∃ ys : List Str, x = .str a ∧ xs = [.ref p] ∧ (SqL K H p (ys.map V.str) ∨ SqT K H p (ys.map V.str)) ∧ (ys.map (·.length)).sum + ys.length * a.length ≤ 16777216 ∧ Q (.str (Txt.join a ys)) H
def rIsNo : R2 := fun x y H Q => y = .non ∧ Q (.bl (decide (x = .non))) H
def rNotNo : R2 := fun x y H Q => y = .non ∧ Q (.bl (!decide (x = .non))) H
section
variable {X : Cx}
theorem op_addS : OpR X (binaryOp .Add) rAddStr := op_add_str
theorem op_inStr : OpR X (compareOp .In) rInStr := op_in_str
theorem op_isNo : OpR X (compareOp .Is) rIsNo := op_isN
theorem op_notNo : OpR X (compareOp .IsNot) rNotNo := op_notN
theorem c_len : CallR X (.builtin "len") (rLen X.K) := call_len
theorem c_max2 (hc : X.calm = true) : CallR X (.builtin "max") rMax2 := call_max2 hc
theorem c_min2 (hc : X.calm = true) : CallR X (.builtin "min") rMin2 := call_min2 hc
theorem c_int1 : CallR X (.type "int") rInt1 := call_int1
theorem c_list : CallR X (.type "list") (rListOf X.K) := call_list_of
theorem c_tuple : CallR X (.type "tuple") (rTupleOf X.K) := call_tuple_of
theorem m_join : MtR X "str.join" (rJoin X.K) := mt_join
end
section
variable {c : Ctx} {ρ : Rho} {S : Sto} {F : D → Sto → Prop} {d : D}
/-! ### expressions -/
theorem ve_var {i : Nat} (h : ρ[i]? = some (some d)) (q : F d S) : VE c (tVar i) ρ S F := fun T σ H I Q k =>
  let ⟨v, e, r⟩ := I.slots i d h
  ⟨v, e, k v d S T H Mv.refl I.cells r q⟩
theorem ve_int {i : Int} (q : F (.int i) S) : VE c (tC (.int i)) ρ S F := fun T σ H I Q k => k _ _ S T H Mv.refl I.cells (.int i) q
theorem ve_bl {b : Bool} (q : F (.bl b) S) : VE c (tC (.bl b)) ρ S F := fun T σ H I Q k => k _ _ S T H Mv.refl I.cells (.bl b) q
theorem ve_str {x : Str} (q : F (.str x) S) : VE c (tC (.str x)) ρ S F := fun T σ H I Q k => k _ _ S T H Mv.refl I.cells (.str x) q
theorem ve_non (q : F .non S) : VE c (tC .non) ρ S F := fun T σ H I Q k => k _ _ S T H Mv.refl I.cells .non q
theorem ve_ty {n : String} (q : F (.ty n) S) : VE c (tC (.ty n)) ρ S F := fun T σ H I Q k => k _ _ S T H Mv.refl I.cells (.ty n) q
theorem ve_ref {a : Addr} (q : F (.ref a) S) : VE c (tC (.ref a)) ρ S F := fun T σ H I Q k => k _ _ S T H Mv.refl I.cells (.ref a) q
/-- a written thing that is a value at every heap -/
theorem ve_wr {v : V} (h : ∀ H S, Rep c.K H S v d) (q : F d S) : VE c (tC v) ρ S F := fun T σ H I Q k => k _ _ S T H Mv.refl I.cells (h H T) q
theorem ve_op {r : R2} {ta tb : TE} (h : VE c ta ρ S fun x S1 => VE c tb ρ S1 fun y S2 => RV c r x y S2 F) : VE c (tOp r ta tb) ρ S F := fun T σ H I Q k =>
  h T σ H I _ fun vx x S1 T1 H1 m1 c1 r1 h1 => h1 T1 σ H1 (I.mv m1 c1) _ fun vy y S2 T2 H2 m2 c2 r2 h2 => h2 T2 vx vy H2 c2 (r1.mv m2) r2 Q fun v d S3 T3 H3 m3 c3 r3 q => k v d S3 T3 H3 (m1.trans (m2.trans m3)) c3 r3 q
theorem ve_un {r : V → Hp → VK → Prop} {ta : TE} (h : VE c ta ρ S fun x S1 => RU c r x S1 F) : VE c (tUn r ta) ρ S F := fun T σ H I Q k =>
  h T σ H I _ fun vx x S1 T1 H1 m1 c1 r1 h1 => h1 T1 vx H1 c1 r1 Q fun v d S3 T3 H3 m3 c3 r3 q => k v d S3 T3 H3 (m1.trans m3) c3 r3 q
theorem ve_cb {r : CR1} {t : TA} (h : VA c t ρ S fun ds S1 => RC c r ds S1 F) : VE c (tCB r t) ρ S F := fun T σ H I Q k =>
  h T σ H I _ fun us ds S1 T1 H1 m1 c1 r1 h1 => h1 T1 us H1 c1 r1 Q fun v d S3 T3 H3 m3 c3 r3 q => k v d S3 T3 H3 (m1.trans m3) c3 r3 q
theorem va_nil {F : List D → Sto → Prop} (q : F [] S) : VA c tNil ρ S F := fun T σ H I Q k => k _ _ S T H Mv.refl I.cells .nil q
theorem va_cons {F : List D → Sto → Prop} {ta : TE} {t : TA} (h : VE c ta ρ S fun x S1 => VA c t ρ S1 fun xs S2 => F (x :: xs) S2) : VA c (tCons ta t) ρ S F := fun T σ H I Q k =>
  h T σ H I _ fun vx x S1 T1 H1 m1 c1 r1 h1 => h1 T1 σ H1 (I.mv m1 c1) _ fun vs ds S2 T2 H2 m2 c2 r2 h2 => k _ _ S2 T2 H2 (m1.trans m2) c2 (.cons (r1.mv m2) r2) h2
theorem ve_tup {t : TA} (h : VA c t ρ S fun ds S1 => ds.length ≤ sizeLine ∧ F (.tup ds) S1) : VE c (tTup t) ρ S F := fun T σ H I Q k =>
  h T σ H I _ fun us ds S1 T1 H1 m1 c1 r1 ⟨hl, q⟩ => ⟨by rw [r1.length]; exact hl, fun p hp => k _ _ S1 T1 _ (m1.trans (mv_new hp)) (c1.new hp) (.tup (c1.free hp) upd_same (r1.mv (mv_new hp))) q⟩
/-- a list, by value; by reference -/
theorem ve_lst {t : TA} (h : VA c t ρ S fun ds S1 => ds.length ≤ sizeLine ∧ F (.lst ds) S1) : VE c (tLst t) ρ S F := fun T σ H I Q k =>
  h T σ H I _ fun us ds S1 T1 H1 m1 c1 r1 ⟨hl, q⟩ => ⟨by rw [r1.length]; exact hl, fun p hp => k _ _ S1 T1 _ (m1.trans (mv_new hp)) (c1.new hp) (.lst (c1.free hp) upd_same (r1.mv (mv_new hp))) q⟩
theorem ve_lstc {t : TA} (h : VA c t ρ S fun ds S1 => ds.length ≤ sizeLine ∧ ∀ p, S1 p = none → F (.ref p) (put S1 p (.lst ds))) : VE c (tLst t) ρ S F := fun T σ H I Q k =>
  h T σ H I _ fun us ds S1 T1 H1 m1 c1 r1 ⟨hl, q⟩ => ⟨by rw [r1.length]; exact hl, fun p hp => k _ _ _ _ _ (m1.trans (mv_newc hp)) (c1.newc hp (cell_l upd_same (r1.mv (mv_newc hp)))) (.ref p) (q p (c1.freeS hp))⟩
theorem ve_if {t : TT} {ta tb : TE} (h : VT c t ρ S fun b S1 => (b = true → VE c ta ρ S1 F) ∧ (b = false → VE c tb ρ S1 F)) : VE c (tIf t ta tb) ρ S F := fun T σ H I Q k =>
  h T σ H I _ fun b S1 T1 H1 m1 c1 ⟨h1, h2⟩ => by
    cases b with
    | true => exact iteT (h1 rfl T1 σ H1 (I.mv m1 c1) Q fun v d S3 T3 H3 m3 => k v d S3 T3 H3 (m1.trans m3))
    | false => exact iteF (h2 rfl T1 σ H1 (I.mv m1 c1) Q fun v d S3 T3 H3 m3 => k v d S3 T3 H3 (m1.trans m3))
theorem ve_andV {ta tb : TE} (h : VE c ta ρ S fun x S1 => ∃ b, x = .bl b ∧ (b = true → VE c tb ρ S1 F) ∧ (b = false → F (.bl false) S1)) : VE c (tAndV ta tb) ρ S F := fun T σ H I Q k =>
  h T σ H I _ fun vx x S1 T1 H1 m1 c1 r1 ⟨b, e, h1, h2⟩ => by
    subst e
    cases r1
    refine ⟨b, rfl, ?_⟩
    cases b with
    | true => exact iteT (h1 rfl T1 σ H1 (I.mv m1 c1) Q fun v d S3 T3 H3 m3 => k v d S3 T3 H3 (m1.trans m3))
    | false => exact iteF (k _ _ S1 T1 H1 m1 c1 (.bl false) (h2 rfl))
theorem ve_orV {ta tb : TE} (h : VE c ta ρ S fun x S1 => ∃ b, x = .bl b ∧ (b = false → VE c tb ρ S1 F) ∧ (b = true → F (.bl true) S1)) : VE c (tOrV ta tb) ρ S F := fun T σ H I Q k =>
  h T σ H I _ fun vx x S1 T1 H1 m1 c1 r1 ⟨b, e, h1, h2⟩ => by
    subst e
    cases r1
    refine ⟨b, rfl, ?_⟩
    cases b with
    | true => exact iteT (k _ _ S1 T1 H1 m1 c1 (.bl true) (h2 rfl))
    | false => exact iteF (h1 rfl T1 σ H1 (I.mv m1 c1) Q fun v d S3 T3 H3 m3 => k v d S3 T3 H3 (m1.trans m3))
theorem ve_notV {ta : TE} (h : VE c ta ρ S fun x S1 => ∃ b, x = .bl b ∧ F (.bl (!b)) S1) : VE c (tNotV ta) ρ S F := fun T σ H I Q k =>
  h T σ H I _ fun vx x S1 T1 H1 m1 c1 r1 ⟨b, e, h1⟩ => by
    subst e
    cases r1
    exact ⟨b, rfl, k _ _ S1 T1 H1 m1 c1 (.bl _) h1⟩
theorem ve_chain {r r' : R2} {ta tb tc : TE} (h : VE c ta ρ S fun x S1 => VE c tb ρ S1 fun y S2 => RV c r x y S2 fun z S3 => ∃ k, z = .bl k ∧ (k = true → VE c tc ρ S3 fun w S4 => RV c r' y w S4 F) ∧ (k = false → F (.bl false) S3)) : VE c (tChain r r' ta tb tc) ρ S F := fun T σ H I Q k =>
  h T σ H I _ fun vx x S1 T1 H1 m1 c1 r1 h1 => h1 T1 σ H1 (I.mv m1 c1) _ fun vy y S2 T2 H2 m2 c2 r2 h2 => h2 T2 vx vy H2 c2 (r1.mv m2) r2 _ fun v d S3 T3 H3 m3 c3 r3 ⟨b, e, q1, q2⟩ => by
    subst e
    cases r3
    refine ⟨b, rfl, ?_⟩
    cases b with
    | true => exact iteT (q1 rfl T3 σ H3 (I.mv (m1.trans (m2.trans m3)) c3) _ fun vw w S4 T4 H4 m4 c4 r4 h4 => h4 T4 vy vw H4 c4 (r2.mv (m3.trans m4)) r4 Q fun v d S5 T5 H5 m5 => k v d S5 T5 H5 (m1.trans (m2.trans (m3.trans (m4.trans m5)))))
    | false => exact iteF (k _ _ S3 T3 H3 (m1.trans (m2.trans m3)) c3 (.bl false) (q2 rfl))
/-! ### tests -/
variable {G : Bool → Sto → Prop}
theorem vt_test {t : TE} (h : VE c t ρ S fun x S1 => ∃ b, x = .bl b ∧ G b S1) : VT c (tTest t) ρ S G := fun T σ H I Q k =>
  h T σ H I _ fun vx x S1 T1 H1 m1 c1 r1 ⟨b, e, h1⟩ => by
    subst e
    cases r1
    exact ⟨b, rfl, k b S1 T1 H1 m1 c1 h1⟩
theorem vt_B {t : TE} (h : VE c t ρ S fun x S1 => ∃ b, x = .bl b ∧ G b S1) : VT c (tB t) ρ S G := vt_test h
theorem vt_and {t u : TT} (h : VT c t ρ S fun b S1 => (b = true → VT c u ρ S1 G) ∧ (b = false → G false S1)) : VT c (tAnd t u) ρ S G := fun T σ H I Q k =>
  h T σ H I _ fun b S1 T1 H1 m1 c1 ⟨h1, h2⟩ => by
    cases b with
    | true => exact iteT (h1 rfl T1 σ H1 (I.mv m1 c1) Q fun b S3 T3 H3 m3 => k b S3 T3 H3 (m1.trans m3))
    | false => exact iteF (k false S1 T1 H1 m1 c1 (h2 rfl))
theorem vt_or {t u : TT} (h : VT c t ρ S fun b S1 => (b = true → G true S1) ∧ (b = false → VT c u ρ S1 G)) : VT c (tOr t u) ρ S G := fun T σ H I Q k =>
  h T σ H I _ fun b S1 T1 H1 m1 c1 ⟨h1, h2⟩ => by
    cases b with
    | true => exact iteT (k true S1 T1 H1 m1 c1 (h1 rfl))
    | false => exact iteF (h2 rfl T1 σ H1 (I.mv m1 c1) Q fun b S3 T3 H3 m3 => k b S3 T3 H3 (m1.trans m3))
theorem vt_not {t : TT} (h : VT c t ρ S fun b S1 => G (!b) S1) : VT c (tNot t) ρ S G := fun T σ H I Q k => h T σ H I _ fun b S1 T1 H1 m1 c1 h1 => k _ S1 T1 H1 m1 c1 h1
theorem vt_yes (h : G true S) : VT c tYes ρ S G := fun T σ H I Q k => k true S T H Mv.refl I.cells h
/-! ### weaker ends -/
theorem VE.imp {F' : D → Sto → Prop} {te : TE} (h : VE c te ρ S F) (i : ∀ d S, F d S → F' d S) : VE c te ρ S F' := fun T σ H I Q k => h T σ H I Q fun v d S' T' H' m cl r q => k v d S' T' H' m cl r (i _ _ q)
theorem VT.imp {G' : Bool → Sto → Prop} {te : TT} (h : VT c te ρ S G) (i : ∀ d S, G d S → G' d S) : VT c te ρ S G' := fun T σ H I Q k => h T σ H I Q fun v S' T' H' m cl q => k v S' T' H' m cl (i _ _ q)
/-! ### what a list is to be read of -/
inductive IsL (S : Sto) : D → List D → Prop
  | v {ds : List D} : IsL S (.lst ds) ds
  | r {ds : List D} : IsL S (.rol ds) ds
  | c {l : Addr} {ds : List D} (h : S l = some (.lst ds)) : IsL S (.ref l) ds
theorem IsL.rd {K : PySem.W.Frag} {H : Hp} {T : Sto} {x : D} {ds : List D} {u : V} (h : IsL S x ds) (cl : Cells K H S T) (r : Rep K H T u x) : ∃ a xs, u = .ref a ∧ SqL K H a xs ∧ RepL K H T xs ds := by
  cases h with
  | v => obtain ⟨a, xs, e, s, h, r⟩ := r.seqL; exact ⟨a, xs, e, .of h, r⟩
  | r => obtain ⟨a, xs, e, h, r⟩ := r.seqR; exact ⟨a, xs, e, h _ _ Mv.refl, r⟩
  | c h => cases r; obtain ⟨xs, h1, r⟩ := cl.ok _ _ (cl.at h); exact ⟨_, xs, rfl, .of h1, r⟩
/-- a list that may be added to another one -/
inductive IsA (S : Sto) : D → List D → Prop
  | v {ds : List D} : IsA S (.lst ds) ds
  | c {l : Addr} {ds : List D} (h : S l = some (.lst ds)) : IsA S (.ref l) ds
theorem IsA.rd {K : PySem.W.Frag} {H : Hp} {T : Sto} {x : D} {ds : List D} {u : V} (h : IsA S x ds) (cl : Cells K H S T) (r : Rep K H T u x) : ∃ a xs, u = .ref a ∧ H a = some (.lst xs) ∧ RepL K H T xs ds := by
  cases h with
  | v => obtain ⟨a, xs, e, s, h, r⟩ := r.seqL; exact ⟨a, xs, e, h, r⟩
  | c h => cases r; obtain ⟨xs, h1, r⟩ := cl.ok _ _ (cl.at h); exact ⟨_, xs, rfl, h1, r⟩
inductive IsQ (S : Sto) : D → List D → Prop
  | l {x : D} {ds : List D} (h : IsL S x ds) : IsQ S x ds
  | t {ds : List D} : IsQ S (.tup ds) ds
theorem IsQ.rd {K : PySem.W.Frag} {H : Hp} {T : Sto} {x : D} {ds : List D} {u : V} (h : IsQ S x ds) (cl : Cells K H S T) (r : Rep K H T u x) : ∃ a xs, u = .ref a ∧ (SqL K H a xs ∨ SqT K H a xs) ∧ RepL K H T xs ds := by
  cases h with
  | l h => obtain ⟨a, xs, e, s, r⟩ := h.rd cl r; exact ⟨a, xs, e, .inl s, r⟩
  | t => obtain ⟨a, xs, e, s, r⟩ := r.seqT; exact ⟨a, xs, e, .inr s, r⟩
/-! ### operations by value -/
theorem rv_II {g : Int → Int → Int} {i j : Int} (q : F (.int (g i j)) S) : RV c (rI0 fun i j => .int (g i j)) (.int i) (.int j) S F := fun T u w H cl r1 r2 Q k => by
  cases r1; cases r2; exact ⟨i, j, rfl, rfl, k _ _ S T H Mv.refl cl (.int _) q⟩
theorem rv_IB {g : Int → Int → Bool} {i j : Int} (q : F (.bl (g i j)) S) : RV c (rI0 fun i j => .bl (g i j)) (.int i) (.int j) S F := fun T u w H cl r1 r2 Q k => by
  cases r1; cases r2; exact ⟨i, j, rfl, rfl, k _ _ S T H Mv.refl cl (.bl _) q⟩
theorem rv_IC {C : Int → Int → Prop} {g : Int → Int → Int} {i j : Int} (hc : C i j) (q : F (.int (g i j)) S) : RV c (rI C fun i j => .int (g i j)) (.int i) (.int j) S F := fun T u w H cl r1 r2 Q k => by
  cases r1; cases r2; exact ⟨i, j, rfl, rfl, hc, k _ _ S T H Mv.refl cl (.int _) q⟩
theorem ru_I {g : Int → Int} {i : Int} (q : F (.int (g i)) S) : RU c (rU fun i => .int (g i)) (.int i) S F := fun T u H cl r1 Q k => by
  cases r1; exact ⟨i, rfl, k _ _ S T H Mv.refl cl (.int _) q⟩
theorem bdec {p q : Prop} [Decidable p] [Decidable q] (h : p ↔ q) : decide p = decide q := decide_eq_decide.mpr h
/-- == and != of ints, texts, truths, None -/
def sEq : D → D → Option Bool
  | .int i, .int j => some (decide (i = j))
  | .str i, .str j => some (decide (i = j))
  | .bl i, .bl j => some (decide (i = j))
  | .non, .non => some true
  | .non, .int _ => some false | .int _, .non => some false | .non, .bl _ => some false | .bl _, .non => some false
  | .non, .str _ => some false | .str _, .non => some false | .int _, .str _ => some false | .str _, .int _ => some false
  | .bl _, .str _ => some false | .str _, .bl _ => some false
  | _, _ => none
theorem sEq_ok {K : PySem.W.Frag} {H : Hp} {x y : D} {u w : V} {b : Bool} (h : sEq x y = some b) (r1 : Rep K H S u x) (r2 : Rep K H S w y) : scal u w = true ∧ decide (u = w) = b := by
  cases r1 <;> cases r2 <;> first | (cases h; done) | (cases h; refine ⟨rfl, ?_⟩; first | rfl | simp)
theorem rv_eq {x y : D} {b : Bool} (h : sEq x y = some b) (q : F (.bl b) S) : RV c rEq x y S F := fun T u w H cl r1 r2 Q k => by
  obtain ⟨h1, h2⟩ := sEq_ok h r1 r2
  exact ⟨h1, by rw [h2]; exact k _ _ S T H Mv.refl cl (.bl _) q⟩
theorem rv_ne {x y : D} {b : Bool} (h : sEq x y = some b) (q : F (.bl (!b)) S) : RV c rNe x y S F := fun T u w H cl r1 r2 Q k => by
  obtain ⟨h1, h2⟩ := sEq_ok h r1 r2
  exact ⟨h1, by rw [h2]; exact k _ _ S T H Mv.refl cl (.bl _) q⟩
def isNoD : D → Bool
  | .non => true
  | _ => false
theorem isNo_ok {K : PySem.W.Frag} {H : Hp} {x : D} {u : V} (r : Rep K H S u x) : decide (u = V.non) = isNoD x := by
  cases r <;> first | rfl | (show decide _ = false; simp)
theorem rv_isNo {x : D} (q : F (.bl (isNoD x)) S) : RV c rIsNo x .non S F := fun T u w H cl r1 r2 Q k => by
  cases r2; exact ⟨rfl, by rw [isNo_ok r1]; exact k _ _ S T H Mv.refl cl (.bl _) q⟩
theorem rv_notNo {x : D} (q : F (.bl (!isNoD x)) S) : RV c rNotNo x .non S F := fun T u w H cl r1 r2 Q k => by
  cases r2; exact ⟨rfl, by rw [isNo_ok r1]; exact k _ _ S T H Mv.refl cl (.bl _) q⟩
theorem RepL.at {K : PySem.W.Frag} {H : Hp} {xs : List V} {ds : List D} {i : Int} (r : RepL K H S xs ds) (h : atI ds i = some d) : ∃ v, atI xs i = some v ∧ Rep K H S v d := by
  unfold atI at h ⊢
  rw [r.length]
  cases e : ixN ds.length i with
  | none => rw [e] at h; cases h
  | some j => rw [e] at h; exact r.get h
theorem rv_ixL {x : D} {ds : List D} {i : Int} (h : IsL S x ds) (e : atI ds i = some d) (q : F d S) : RV c (rIxL c.K) x (.int i) S F := fun T u w H cl r1 r2 Q k => by
  cases r2
  obtain ⟨a, xs, rfl, s, r⟩ := h.rd cl r1
  obtain ⟨v, h1, h2⟩ := r.at e
  exact ⟨a, xs, i, v, rfl, rfl, s, h1, k _ _ S T H Mv.refl cl h2 q⟩
theorem rv_ixT {ds : List D} {i : Int} (e : atI ds i = some d) (q : F d S) : RV c (rIxT c.K) (.tup ds) (.int i) S F := fun T u w H cl r1 r2 Q k => by
  cases r2
  obtain ⟨a, xs, rfl, s, r⟩ := r1.seqT
  obtain ⟨v, h1, h2⟩ := r.at e
  exact ⟨a, xs, i, v, rfl, rfl, s, h1, k _ _ S T H Mv.refl cl h2 q⟩
theorem rv_ixS {z : Str} {i : Int} {n : Nat} (hz : z.length ≤ sizeLine) (e : atI z.cps.toList i = some n) (q : F (.str ⟨#[n]⟩) S) : RV c rIxS (.str z) (.int i) S F := fun T u w H cl r1 r2 Q k => by
  cases r1; cases r2; exact ⟨z, i, n, rfl, rfl, hz, e, k _ _ S T H Mv.refl cl (.str _) q⟩
theorem rv_addS {x y : Str} (h : x.length + y.length ≤ sizeLine) (q : F (.str (x ++ y)) S) : RV c rAddStr (.str x) (.str y) S F := fun T u w H cl r1 r2 Q k => by
  cases r1; cases r2; exact ⟨x, y, rfl, rfl, h, k _ _ S T H Mv.refl cl (.str _) q⟩
theorem rv_ltS {x y : Str} (q : F (.bl (decide (x.cps.toList < y.cps.toList))) S) : RV c rLtStr (.str x) (.str y) S F := fun T u w H cl r1 r2 Q k => by
  cases r1; cases r2; exact ⟨x, y, rfl, rfl, k _ _ S T H Mv.refl cl (.bl _) q⟩
theorem rv_leS {x y : Str} (q : F (.bl (!decide (y.cps.toList < x.cps.toList))) S) : RV c rLeStr (.str x) (.str y) S F := fun T u w H cl r1 r2 Q k => by
  cases r1; cases r2; exact ⟨x, y, rfl, rfl, k _ _ S T H Mv.refl cl (.bl _) q⟩
theorem found_one (x : Str) (n : Nat) : (!(Builtin.Str.occurrences x ⟨#[n]⟩ 0 x.length 1).isEmpty) = decide (n ∈ x.cps.toList) := StrLaws.found_one x n
theorem rv_inS {n : Nat} {y : Str} (q : F (.bl (decide (n ∈ y.cps.toList))) S) : RV c rInStr (.str ⟨#[n]⟩) (.str y) S F := fun T u w H cl r1 r2 Q k => by
  cases r1; cases r2; exact ⟨_, y, rfl, rfl, by rw [found_one]; exact k _ _ S T H Mv.refl cl (.bl _) q⟩
theorem rv_notInS {n : Nat} {y : Str} (q : F (.bl (!decide (n ∈ y.cps.toList))) S) : RV c rNotInStr (.str ⟨#[n]⟩) (.str y) S F := fun T u w H cl r1 r2 Q k => by
  cases r1; cases r2; exact ⟨_, y, rfl, rfl, by rw [found_one]; exact k _ _ S T H Mv.refl cl (.bl _) q⟩
theorem rv_cat {x y : D} {ds es : List D} (h1 : IsA S x ds) (h2 : IsA S y es) (hl : ds.length + es.length ≤ sizeLine) (q : F (.lst (ds ++ es)) S) : RV c rCat x y S F := fun T u w H cl r1 r2 Q k => by
  obtain ⟨a, xs, rfl, s, r⟩ := h1.rd cl r1
  obtain ⟨b, zs, rfl, s', r'⟩ := h2.rd cl r2
  exact ⟨a, b, xs, zs, rfl, rfl, s, s', by rw [r.length, r'.length]; exact hl, fun p hp => k _ _ S T _ (mv_new hp) (cl.new hp) (.lst (cl.free hp) upd_same ((r.append r').mv (mv_new hp))) q⟩
/-- flat values, in a row -/
def flatD : D → Bool
  | .non => true | .bl _ => true | .int _ => true | .str _ => true | _ => false
def eqD : D → D → Bool
  | .non, .non => true
  | .bl a, .bl b => a == b
  | .bl a, .int b => (if a then 1 else 0) == b
  | .int a, .bl b => a == (if b then 1 else 0)
  | .int a, .int b => a == b
  | .str a, .str b => a == b
  | _, _ => false
def inD (x : D) (xs : List D) : Bool := xs.any fun y => eqD y x
theorem flat_ok {K : PySem.W.Frag} {H : Hp} {x : D} {u : V} (r : Rep K H S u x) : flatV u = flatD x := by cases r <;> rfl
theorem eq_ok {K : PySem.W.Frag} {H : Hp} {x y : D} {u w : V} (r : Rep K H S u x) (r' : Rep K H S w y) : eqV u w = eqD x y := by cases r <;> cases r' <;> rfl
theorem RepL.flat {K : PySem.W.Frag} {H : Hp} : ∀ {xs : List V} {ds : List D}, RepL K H S xs ds → xs.all flatV = ds.all flatD
  | _, _, .nil => rfl
  | _, _, .cons h t => by rw [List.all_cons, List.all_cons, flat_ok h, RepL.flat t]
theorem RepL.inV {K : PySem.W.Frag} {H : Hp} {x : D} {u : V} (r : Rep K H S u x) : ∀ {xs : List V} {ds : List D}, RepL K H S xs ds → L2.inV u xs = inD x ds
  | _, _, .nil => rfl
  | _, _, .cons h t => by
    have e := RepL.inV r t
    unfold L2.inV inD at *
    rw [List.any_cons, List.any_cons, eq_ok h r, e]
theorem rv_in {neg : Bool} {x y : D} {ds : List D} (h : IsQ S y ds) (h1 : flatD x = true) (h2 : ds.all flatD = true) (q : F (.bl (if neg then !inD x ds else inD x ds)) S) : RV c (rIn c.K neg) x y S F := fun T u w H cl r1 r2 Q k => by
  obtain ⟨a, xs, rfl, s, r⟩ := h.rd cl r2
  exact ⟨a, xs, rfl, s, by rw [flat_ok r1]; exact h1, by rw [r.flat]; exact h2, by rw [RepL.inV r1 r]; exact k _ _ S T H Mv.refl cl (.bl _) q⟩
/-! ### calls of built-ins -/
theorem rc_lenQ {x : D} {ds : List D} (h : IsQ S x ds) (q : F (.int ds.length) S) : RC c (rLen c.K) [x] S F := fun T us H cl r Q k => by
  cases r with
  | cons h1 t =>
    cases t
    obtain ⟨a, xs, rfl, s, r⟩ := h.rd cl h1
    refine ⟨_, ds.length, rfl, ?_, k _ _ S T H Mv.refl cl (.int _) q⟩
    rcases s with s | s
    · exact .inl ⟨xs, s, r.length.symm⟩
    · exact .inr ⟨xs, s, r.length.symm⟩
theorem rc_lenS {x : Str} (h : x.length ≤ sizeLine) (q : F (.int x.length) S) : RC c (rLen c.K) [.str x] S F := fun T us H cl r Q k => by
  cases r with
  | cons h1 t => cases t; cases h1; exact ⟨_, _, rfl, ⟨h, rfl⟩, k _ _ S T H Mv.refl cl (.int _) q⟩
theorem rc_abs {i : Int} (q : F (.int (if i < 0 then -i else i)) S) : RC c rAbs [.int i] S F := fun T us H cl r Q k => by
  cases r with
  | cons h1 t => cases t; cases h1; exact ⟨_, rfl, k _ _ S T H Mv.refl cl (.int _) q⟩
theorem rc_max2 {i j : Int} (q : F (.int (if j > i then j else i)) S) : RC c rMax2 [.int i, .int j] S F := fun T us H cl r Q k => by
  cases r with
  | cons h1 t => cases t with
    | cons h2 t => cases t; cases h1; cases h2; exact ⟨_, _, rfl, k _ _ S T H Mv.refl cl (.int _) q⟩
theorem rc_min2 {i j : Int} (q : F (.int (if j < i then j else i)) S) : RC c rMin2 [.int i, .int j] S F := fun T us H cl r Q k => by
  cases r with
  | cons h1 t => cases t with
    | cons h2 t => cases t; cases h1; cases h2; exact ⟨_, _, rfl, k _ _ S T H Mv.refl cl (.int _) q⟩
theorem rc_int {i : Int} (q : F (.int i) S) : RC c rInt1 [.int i] S F := fun T us H cl r Q k => by
  cases r with
  | cons h1 t => cases t; cases h1; exact .inl ⟨_, rfl, k _ _ S T H Mv.refl cl (.int _) q⟩
theorem rc_intB {b : Bool} (q : F (.int (if b then 1 else 0)) S) : RC c rInt1 [.bl b] S F := fun T us H cl r Q k => by
  cases r with
  | cons h1 t => cases t; cases h1; exact .inr ⟨_, rfl, k _ _ S T H Mv.refl cl (.int _) q⟩
theorem rc_strI {i : Int} (h : i.natAbs.log2 < 1920) (q : F (.str (toString i)) S) : RC c rStrInt [.int i] S F := fun T us H cl r Q k => by
  cases r with
  | cons h1 t => cases t; cases h1; exact ⟨_, rfl, h, k _ _ S T H Mv.refl cl (.str _) q⟩
theorem rc_ord {n : Nat} (q : F (.int n) S) : RC c rOrd [.str ⟨#[n]⟩] S F := fun T us H cl r Q k => by
  cases r with
  | cons h1 t => cases t; cases h1; exact ⟨_, rfl, rfl, k _ _ S T H Mv.refl cl (.int _) q⟩
theorem rc_list {x : D} {ds : List D} (h : IsQ S x ds) (q : F (.lst ds) S) : RC c (rListOf c.K) [x] S F := fun T us H cl r Q k => by
  cases r with
  | cons h1 t =>
    cases t
    obtain ⟨a, xs, rfl, s, r⟩ := h.rd cl h1
    exact ⟨a, xs, rfl, s, fun p hp => k _ _ S T _ (mv_new hp) (cl.new hp) (.lst (cl.free hp) upd_same (r.mv (mv_new hp))) q⟩
theorem rc_listc {x : D} {ds : List D} (h : IsQ S x ds) (q : ∀ p, S p = none → F (.ref p) (put S p (.lst ds))) : RC c (rListOf c.K) [x] S F := fun T us H cl r Q k => by
  cases r with
  | cons h1 t =>
    cases t
    obtain ⟨a, xs, rfl, s, r⟩ := h.rd cl h1
    exact ⟨a, xs, rfl, s, fun p hp => k _ _ _ _ _ (mv_newc hp) (cl.newc hp (cell_l upd_same (r.mv (mv_newc hp)))) (.ref p) (q p (cl.freeS hp))⟩
theorem rc_tupleL {x : D} {ds : List D} (h : IsL S x ds) (q : F (.tup ds) S) : RC c (rTupleOf c.K) [x] S F := fun T us H cl r Q k => by
  cases r with
  | cons h1 t =>
    cases t
    obtain ⟨a, xs, rfl, s, r⟩ := h.rd cl h1
    exact ⟨a, xs, rfl, .inl ⟨s, fun p hp => k _ _ S T _ (mv_new hp) (cl.new hp) (.tup (cl.free hp) upd_same (r.mv (mv_new hp))) q⟩⟩
theorem rc_all {bs : List Bool} {x : D} (h : IsL S x (bs.map D.bl)) (q : F (.bl (bs.all id)) S) : RC c (rAll c.K) [x] S F := fun T us H cl r Q k => by
  cases r with
  | cons h1 t =>
    cases t
    obtain ⟨a, xs, rfl, s, r⟩ := h.rd cl h1
    have e := r.bls
    subst e
    exact ⟨a, bs, rfl, s, k _ _ S T H Mv.refl cl (.bl _) q⟩
/-- isinstance by a built-in class -/
inductive TyS (S : Sto) : D → String → Prop
  | non : TyS S .non "NoneType" | bl (b : Bool) : TyS S (.bl b) "bool" | int (i : Int) : TyS S (.int i) "int" | str (x : Str) : TyS S (.str x) "str"
  | rol (ds : List D) : TyS S (.rol ds) "list" | lst (ds : List D) : TyS S (.lst ds) "list" | tup (ds : List D) : TyS S (.tup ds) "tuple" | dK (ds : List (Key × D)) : TyS S (.dK ds) "dict"
  | cl {l : Addr} {ds : List D} (h : S l = some (.lst ds)) : TyS S (.ref l) "list" | cd {l : Addr} {ds : List (Key × D)} (h : S l = some (.dK ds)) : TyS S (.ref l) "dict"
theorem TyS.ok {K : PySem.W.Frag} {H : Hp} {T : Sto} {x : D} {n : String} {u : V} (t : TyS S x n) (cl : Cells K H S T) (r : Rep K H T u x) : TyX K H u (.type n) := by
  cases t with
  | non => cases r; exact .base .non
  | bl => cases r; exact .base (.bl _)
  | int => cases r; exact .base (.int _)
  | str => cases r; exact .base (.str _)
  | rol =>
    cases r with
    | rol _ h _ => exact .base (.frz h)
    | rolK h _ => obtain ⟨o, its, n, h1, h2, _⟩ := h; exact .kList h1 h2
  | lst => cases r with | lst _ h _ => exact .base (.lst h)
  | tup =>
    cases r with
    | tup _ h _ => exact .base (.tup h)
    | tupK h _ => obtain ⟨o, its, n, h1, h2, _⟩ := h; exact .kTuple h1 h2
  | dK => cases r with | dK _ h _ => exact h.elim (fun h => .base (.dK h)) fun ⟨_, h⟩ => .fDict h
  | cl h => cases r; obtain ⟨xs, h1, _⟩ := cl.ok _ _ (cl.at h); exact .base (.lst h1)
  | cd h => cases r; obtain ⟨xs, h1, _⟩ := cl.ok _ _ (cl.at h); exact .base (.dK h1)
theorem rc_isi {x : D} {n N : String} {b : Bool} (t : TyS S x n) (h : kitB n N = some b) (q : F (.bl b) S) : RC c (rIsiZ c.K) [x, .ty N] S F := fun T us H cl r Q k => by
  cases r with
  | cons h1 r => cases r with
    | cons h2 r =>
      cases r
      cases h2
      exact ⟨_, _, _, _, b, rfl, .ty N, TyZ.x (t.ok cl h1), kit_ty h, k _ _ S T H Mv.refl cl (.bl _) q⟩
/-! ### methods of built-ins -/
theorem ve_m1 {r : MR1} {to te : TE} (h : VE c to ρ S fun x S1 => ∃ z, x = .str z ∧ VE c te ρ S1 fun y S2 => RM c r (.str z) [y] S2 F) : VE c (tM1 r to te) ρ S F := fun T σ H I Q k =>
  h T σ H I _ fun vx x S1 T1 H1 m1 c1 r1 ⟨z, e, h1⟩ => by
    subst e
    cases r1
    exact ⟨⟨z, rfl⟩, h1 T1 σ H1 (I.mv m1 c1) _ fun vy y S2 T2 H2 m2 c2 r2 h2 => h2 T2 _ _ H2 c2 (.str z) (.cons r2 .nil) Q fun v d S3 T3 H3 m3 c3 r3 q => k v d S3 T3 H3 (m1.trans (m2.trans m3)) c3 r3 q⟩
theorem ve_m0 {r : MR1} {to : TE} (h : VE c to ρ S fun x S1 => ∃ z, x = .str z ∧ RM c r (.str z) [] S1 F) : VE c (tM0 r to) ρ S F := fun T σ H I Q k =>
  h T σ H I _ fun vx x S1 T1 H1 m1 c1 r1 ⟨z, e, h1⟩ => by
    subst e
    cases r1
    exact ⟨⟨z, rfl⟩, h1 T1 _ _ H1 c1 (.str z) .nil Q fun v d S3 T3 H3 m3 c3 r3 q => k v d S3 T3 H3 (m1.trans m3) c3 r3 q⟩
theorem rm_join {a : Str} {x : D} {ys : List Str} (h : IsQ S x (ys.map D.str)) (hl : (ys.map (·.length)).sum + ys.length * a.length ≤ 16777216) (q : F (.str (Txt.join a ys)) S) : RM c (rJoin c.K) (.str a) [x] S F := fun T u us H cl r1 r2 Q k => by
  cases r1
  cases r2 with
  | cons h1 t =>
    cases t
    obtain ⟨p, xs, rfl, s, r⟩ := h.rd cl h1
    have e := r.strs
    subst e
    exact ⟨a, p, ys, rfl, rfl, s, hl, k _ _ S T H Mv.refl cl (.str _) q⟩
/-- a method of a list that is known by reference -/
theorem ve_bm {r : MR1} {to : TE} {t : TA} (h : VE c to ρ S fun x S1 => ∃ l ds, x = .ref l ∧ S1 l = some (.lst ds) ∧ VA c t ρ S1 fun es S2 => RM c r (.ref l) es S2 F) : VE c (tBM c.K "list" r to t) ρ S F := fun T σ H I Q k =>
  h T σ H I _ fun vx x S1 T1 H1 m1 c1 r1 ⟨l, ds, e, hl, h1⟩ => by
    subst e
    cases r1
    obtain ⟨xs, hx, _⟩ := c1.ok _ _ (c1.at hl)
    exact ⟨.inl ⟨rfl, xs, .of hx⟩, h1 T1 σ H1 (I.mv m1 c1) _ fun vs es S2 T2 H2 m2 c2 r2 h2 => h2 T2 _ vs H2 c2 (.ref l) r2 Q fun v d S3 T3 H3 m3 c3 r3 q => k v d S3 T3 H3 (m1.trans (m2.trans m3)) c3 r3 q⟩
theorem ve_bm0 {r : MR1} {to : TE} (h : VE c to ρ S fun x S1 => ∃ l ds, x = .ref l ∧ S1 l = some (.lst ds) ∧ RM c r (.ref l) [] S1 F) : VE c (tBM0 c.K "list" r to) ρ S F := fun T σ H I Q k =>
  h T σ H I _ fun vx x S1 T1 H1 m1 c1 r1 ⟨l, ds, e, hl, h1⟩ => by
    subst e
    cases r1
    obtain ⟨xs, hx, _⟩ := c1.ok _ _ (c1.at hl)
    exact ⟨.inl ⟨rfl, xs, .of hx⟩, h1 T1 _ _ H1 c1 (.ref l) .nil Q fun v d S3 T3 H3 m3 c3 r3 q => k v d S3 T3 H3 (m1.trans m3) c3 r3 q⟩
theorem rm_append {l : Addr} {ds : List D} {x : D} (h : S l = some (.lst ds)) (hl : ds.length < sizeLine) (q : F .non (put S l (.lst (ds ++ [x])))) : RM c rAppend (.ref l) [x] S F := fun T u us H cl r1 r2 Q k => by
  cases r1
  cases r2 with
  | cons h1 t =>
    cases t
    obtain ⟨xs, hx, r⟩ := cl.ok _ _ (cl.at h)
    exact ⟨l, xs, _, rfl, rfl, hx, by rw [r.length]; exact hl, k _ _ _ _ _ (mv_wr (cl.at h)) (cl.wr (cl.at h) (cell_l upd_same ((r.append (.cons h1 .nil)).mv (mv_wr (cl.at h))))) .non q⟩
theorem rm_popAt {l : Addr} {ds : List D} {i : Int} {j : Nat} (h : S l = some (.lst ds)) (hj : i = (j : Int)) (hlt : j < 2 ^ 62) (e : ds[j]? = some d) (q : F d (put S l (.lst (ds.eraseIdx j)))) : RM c rPopAt (.ref l) [.int i] S F := fun T u us H cl r1 r2 Q k => by
  subst hj
  cases r1
  cases r2 with
  | cons h1 t =>
    cases t
    cases h1
    obtain ⟨xs, hx, r⟩ := cl.ok _ _ (cl.at h)
    obtain ⟨v, e1, e2⟩ := r.get e
    have hb : j < xs.length := (List.getElem?_eq_some_iff.mp e1).1
    have hs : seqIndex? (j : Int) xs.length = some j := (ixN_seq (by unfold ixN; rw [if_pos (by omega), if_pos (by omega)]; simp)).1
    exact ⟨l, xs, (j : Int), j, v, rfl, rfl, hx, by omega, by omega, hs, e1, k _ _ _ _ _ (mv_wr (cl.at h)) (cl.wr (cl.at h) (cell_l upd_same ((r.eraseIdx j).mv (mv_wr (cl.at h))))) (e2.mv (mv_wr (cl.at h))) q⟩
/-! ### slices -/
theorem vo_none {F : Option Int → Sto → Prop} (q : F none S) : VO c tNoPart ρ S F := fun T σ H I Q k => k none S T H Mv.refl I.cells q
theorem vo_some {F : Option Int → Sto → Prop} {te : TE} (h : VE c te ρ S fun x S1 => ∃ i, x = .int i ∧ F (some i) S1) : VO c (tPart te) ρ S F := fun T σ H I Q k =>
  h T σ H I _ fun vx x S1 T1 H1 m1 c1 r1 ⟨i, e, q⟩ => by
    subst e
    cases r1
    exact ⟨i, rfl, k _ S1 T1 H1 m1 c1 q⟩
def RS (c : Ctx) (r : V → Option Int → Option Int → Hp → VK → Prop) (x : D) (lo hi : Option Int) (S : Sto) (F : D → Sto → Prop) : Prop := ∀ T u H, Cells c.K H S T → Rep c.K H T u x → ∀ Q : VK,
  (∀ v d S' T' H', Mv T H T' H' → Cells c.K H' S' T' → Rep c.K H' T' v d → F d S' → Q v H') → r u lo hi H Q
theorem ve_sl {r : V → Option Int → Option Int → Hp → VK → Prop} {te : TE} {tl th : TO} (h : VE c te ρ S fun x S1 => VO c tl ρ S1 fun lo S2 => VO c th ρ S2 fun hi S3 => RS c r x lo hi S3 F) : VE c (tSl r te tl th) ρ S F := fun T σ H I Q k =>
  h T σ H I _ fun vx x S1 T1 H1 m1 c1 r1 h1 => h1 T1 σ H1 (I.mv m1 c1) _ fun lo S2 T2 H2 m2 c2 h2 => h2 T2 σ H2 (I.mv (m1.trans m2) c2) _ fun hi S3 T3 H3 m3 c3 h3 => h3 T3 vx H3 c3 (r1.mv (m2.trans m3)) Q fun v d S4 T4 H4 m4 => k v d S4 T4 H4 (m1.trans (m2.trans (m3.trans m4)))
theorem rs_str {z : Str} {lo hi : Option Int} (hz : z.length ≤ sizeLine) (q : F (.str (cutS z lo hi)) S) : RS c rSlS (.str z) lo hi S F := fun T u H cl r Q k => by
  cases r; exact ⟨z, rfl, hz, k _ _ S T H Mv.refl cl (.str _) q⟩
def cutD (xs : List D) (lo hi : Option Int) : List D := (xs.drop (HT.sIx xs.length 0 lo)).take (HT.sIx xs.length xs.length hi - HT.sIx xs.length 0 lo)
theorem RepL.cut {K : PySem.W.Frag} {H : Hp} {xs : List V} {ds : List D} (r : RepL K H S xs ds) (lo hi : Option Int) : RepL K H S (cutV xs lo hi) (cutD ds lo hi) := by
  unfold cutV cutD
  rw [r.length]
  exact (r.drop _).take _
theorem rs_list {x : D} {ds : List D} {lo hi : Option Int} (h : IsL S x ds) (q : F (.lst (cutD ds lo hi)) S) : RS c (rSlL c.K) x lo hi S F := fun T u H cl r Q k => by
  obtain ⟨a, xs, rfl, s, r⟩ := h.rd cl r
  exact ⟨a, xs, rfl, s, fun p hp => k _ _ S T _ (mv_new hp) (cl.new hp) (.lst (cl.free hp) upd_same ((r.cut lo hi).mv (mv_new hp))) q⟩
/-! ### calls of defs -/
/-- a def's promise by value: from the arguments and what is known by reference to what is wanted of the value, of an exception -/
abbrev Pt := List D → Sto → (D → Sto → Prop) → (Addr → List (Str × D) → Sto → Prop) → Prop
def spOf (K : PySem.W.Frag) (p : Pt) : Sp := fun vs H Q E => ∃ ds S T F Y, RepL K H T vs ds ∧ Cells K H S T ∧ p ds S F Y ∧
  (∀ v d S' T' H', Mv T H T' H' → Cells K H' S' T' → Rep K H' T' v d → F d S' → Q v H') ∧
  (∀ (C : Addr) (x : Option Addr) (fs : List (Str × D)) (S' T' : Sto) (H' : Hp), Mv T H T' H' → Cells K H' S' T' → XRep K H' T' x fs → Y C fs S' → E (.ref C) x H')
abbrev noY : Addr → List (Str × D) → Sto → Prop := fun _ _ _ => False
/-! ### statements -/
variable {P : Po}
theorem vx_next {nx bk ct : Rho → Sto → Prop} {rt : D → Sto → Prop} (q : nx ρ S) : VX c tNext ρ S ⟨nx, rt, bk, ct⟩ := fun T σ H I D b => b.nx σ ρ S T H Mv.refl I q
theorem vx_break {nx bk ct : Rho → Sto → Prop} {rt : D → Sto → Prop} (q : bk ρ S) : VX c tBreak ρ S ⟨nx, rt, bk, ct⟩ := fun T σ H I D b => b.bk σ ρ S T H Mv.refl I q
theorem vx_cont {nx bk ct : Rho → Sto → Prop} {rt : D → Sto → Prop} (q : ct ρ S) : VX c tCont ρ S ⟨nx, rt, bk, ct⟩ := fun T σ H I D b => b.ct σ ρ S T H Mv.refl I q
theorem vx_seq {t u : TS} {nx bk ct : Rho → Sto → Prop} {rt : D → Sto → Prop} (h : VX c t ρ S ⟨fun ρ1 S1 => VX c u ρ1 S1 ⟨nx, rt, bk, ct⟩, rt, bk, ct⟩) : VX c (tSeq t u) ρ S ⟨nx, rt, bk, ct⟩ := fun T σ H I D b =>
  h T σ H I _ ⟨fun σ' ρ' S' T' H' m I' q => q T' σ' H' I' D (b.mv m), b.rt, b.bk, b.ct⟩
theorem VX.imp {t : TS} {P' : Po} (h : VX c t ρ S P) (n : ∀ ρ S, P.nx ρ S → P'.nx ρ S) (r : ∀ d S, P.rt d S → P'.rt d S) (bk : ∀ ρ S, P.bk ρ S → P'.bk ρ S) (ct : ∀ ρ S, P.ct ρ S → P'.ct ρ S) : VX c t ρ S P' := fun T σ H I D b =>
  h T σ H I D ⟨fun σ' ρ' S' T' H' m I' q => b.nx σ' ρ' S' T' H' m I' (n _ _ q), fun v d S' T' H' m cl rr q => b.rt v d S' T' H' m cl rr (r _ _ q), fun σ' ρ' S' T' H' m I' q => b.bk σ' ρ' S' T' H' m I' (bk _ _ q), fun σ' ρ' S' T' H' m I' q => b.ct σ' ρ' S' T' H' m I' (ct _ _ q)⟩
theorem vx_asg {te : TE} {g : TG} {nx bk ct : Rho → Sto → Prop} {rt : D → Sto → Prop} (h : VE c te ρ S fun x S1 => VG c g x ρ S1 nx) : VX c (tAsg te g) ρ S ⟨nx, rt, bk, ct⟩ := fun T σ H I D b =>
  h T σ H I _ fun v x S1 T1 H1 m1 c1 r1 h1 => h1 T1 v σ H1 (I.mv m1 c1) r1 _ fun σ' ρ' S' T' H' m' I' q => b.nx σ' ρ' S' T' H' (m1.trans m') I' q
theorem vx_drop {te : TE} {nx bk ct : Rho → Sto → Prop} {rt : D → Sto → Prop} (h : VE c te ρ S fun _ S1 => nx ρ S1) : VX c (tDrop te) ρ S ⟨nx, rt, bk, ct⟩ := fun T σ H I D b =>
  h T σ H I _ fun v x S1 T1 H1 m1 c1 r1 h1 => b.nx σ ρ S1 T1 H1 m1 (I.mv m1 c1) h1
theorem vx_ret {te : TE} {nx bk ct : Rho → Sto → Prop} {rt : D → Sto → Prop} (h : VE c te ρ S rt) : VX c (tRet te) ρ S ⟨nx, rt, bk, ct⟩ := fun T σ H I D b => h T σ H I _ fun v x S1 T1 H1 m1 c1 r1 h1 => b.rt v x S1 T1 H1 m1 c1 r1 h1
theorem vx_retN {nx bk ct : Rho → Sto → Prop} {rt : D → Sto → Prop} (h : rt .non S) : VX c tRetN ρ S ⟨nx, rt, bk, ct⟩ := fun T σ H I D b => b.rt _ _ S T H Mv.refl I.cells .non h
theorem vx_if {tc : TT} {t u : TS} (h : VT c tc ρ S fun b S1 => (b = true → VX c t ρ S1 P) ∧ (b = false → VX c u ρ S1 P)) : VX c (tIfS tc t u) ρ S P := fun T σ H I D bb =>
  h T σ H I _ fun b S1 T1 H1 m1 c1 ⟨h1, h2⟩ => by
    cases b with
    | true => exact iteT (h1 rfl T1 σ H1 (I.mv m1 c1) D (bb.mv m1))
    | false => exact iteF (h2 rfl T1 σ H1 (I.mv m1 c1) D (bb.mv m1))
theorem Cells.nohid {K : PySem.W.Frag} {H : Hp} {S T : Sto} {l : Addr} {d : D} (cl : Cells K H S T) (hl : S l = some d) (ne : d ≠ .hid) : T l ≠ some .hid := fun z => by
  rw [cl.at hl] at z
  cases z
  exact ne rfl
/-- a slot's object is from now on known by value -/
theorem vx_freeze {t : TS} (i : Nat) {l : Addr} (h : ρ[i]? = some (some (.ref l))) (hl : S l = some d) (k : VX c t (ρ.set i (some d)) (del S l) P) (ne : d ≠ .hid := by nofun) : VX c t ρ S P := fun T σ H I D b => by
  have nh := I.cells.nohid hl ne
  have J : In c σ H ρ (del S l) (del T l) := I.mv (mv_del nh) (I.cells.del nh)
  have I' : In c σ H (ρ.set i (some d)) (del S l) (del T l) := by
    refine J.reword h fun v r => ?_
    cases r
    exact I.cells.rep (I.cells.at hl) nh
  exact k _ σ H I' D (b.mv (mv_del nh))
theorem ve_freeze {te : TE} (h : VE c te ρ S fun x S1 => ∃ l d, x = .ref l ∧ S1 l = some d ∧ d ≠ .hid ∧ F d (del S1 l)) : VE c te ρ S F := fun T σ H I Q k =>
  h T σ H I Q fun v x S1 T1 H1 m1 c1 r1 ⟨l, d, e1, hl, ne, q⟩ => by
    subst e1
    cases r1
    have nh := c1.nohid hl ne
    exact k _ d _ _ H1 (m1.trans (mv_del nh)) (c1.del nh) (c1.rep (c1.at hl) nh) q
theorem vg_name {i : Nat} {F : Rho → Sto → Prop} (q : F (ρ.set i (some d)) S) : VG c (gName i) d ρ S F := fun T v σ H I r Q k => k _ _ S T H Mv.refl (I.set i r) q
/-- several targets -/
def VGs (c : Ctx) (g : TGs) (ds : List D) (ρ : Rho) (S : Sto) (F : Rho → Sto → Prop) : Prop := ∀ T vs σ H, In c σ H ρ S T → RepL c.K H T vs ds → ∀ Q : St → Hp → Prop,
  (∀ σ' ρ' S' T' H', Mv T H T' H' → In c σ' H' ρ' S' T' → F ρ' S' → Q σ' H') → g vs σ H Q
theorem vgs_nil {F : Rho → Sto → Prop} (q : F ρ S) : VGs c gNil [] ρ S F := fun T vs σ H I r Q k => by
  cases r; exact ⟨rfl, k σ ρ S T H Mv.refl I q⟩
theorem vgs_cons {g : TG} {gs : TGs} {ds : List D} {F : Rho → Sto → Prop} (h : VG c g d ρ S fun ρ1 S1 => VGs c gs ds ρ1 S1 F) : VGs c (gCons g gs) (d :: ds) ρ S F := fun T vs σ H I r Q k => by
  cases r with
  | cons h1 t => exact ⟨_, _, rfl, h T _ σ H I h1 _ fun σ1 ρ1 S1 T1 H1 m1 I1 q => q T1 _ σ1 H1 I1 (t.mv m1) Q fun σ2 ρ2 S2 T2 H2 m2 => k σ2 ρ2 S2 T2 H2 (m1.trans m2)⟩
theorem vg_tup {n : Nat} {gs : TGs} {ds : List D} {F : Rho → Sto → Prop} (hn : ds.length = n) (h : VGs c gs ds ρ S F) : VG c (gTup c.K n gs) (.tup ds) ρ S F := fun T v σ H I r Q k => by
  obtain ⟨a, xs, rfl, s, r⟩ := r.seqT
  exact ⟨a, xs, rfl, s, by rw [r.length]; exact hn, h T xs σ H I r Q k⟩
/-- l[i] = e -/
theorem vg_subL {to ti : TE} {F : Rho → Sto → Prop} (h : VE c to ρ S fun x S1 => ∃ l, x = .ref l ∧ VE c ti ρ S1 fun y S2 => ∃ (i : Int) (j : Nat) (ds : List D), y = .int i ∧ S2 l = some (.lst ds) ∧ ixN ds.length i = some j ∧ F ρ (put S2 l (.lst (ds.set j d)))) : VG c (gSub to ti rSetL) d ρ S F := fun T v σ H I r Q k =>
  h T σ H I _ fun vx x S1 T1 H1 m1 c1 r1 ⟨l, e, h1⟩ => h1 T1 σ H1 (I.mv m1 c1) _ fun vy y S2 T2 H2 m2 c2 r2 ⟨i, j, ds, e2, hl, hj, q⟩ => by
    subst e e2
    cases r1
    cases r2
    obtain ⟨xs, hx, rr⟩ := c2.ok _ _ (c2.at hl)
    have rd : Rep c.K H2 T2 v d := r.mv (m1.trans m2)
    have w := mv_wr (H := H2) (d := .lst (ds.set j d)) (o := .lst (xs.set j v)) (c2.at hl)
    have cl' : Cells c.K (upd H2 l (.lst (xs.set j v))) (put S2 l (.lst (ds.set j d))) (put T2 l (.lst (ds.set j d))) := c2.wr (c2.at hl) (cell_l upd_same ((RepL.set rd j rr).mv w))
    exact ⟨l, xs, i, j, rfl, rfl, hx, by rw [rr.length]; exact hj, k σ ρ _ _ _ (m1.trans (m2.trans w)) (I.mv (m1.trans (m2.trans w)) cl') q⟩
end
end VS
namespace VS
open PySem L2 C8
section
variable {c : Ctx} {ρ : Rho} {S : Sto} {F : D → Sto → Prop} {d : D}
/-! ### what is walked -/
theorem yl_list {K : PySem.W.Frag} {T : Sto} {H : Hp} {a : Addr} {xs : List V} {ds : List D} (h : ∀ T1 H1, Mv T H T1 H1 → SqL K H1 a xs) (r : RepL K H T xs ds) : Yl K (Itl K a) ds T H := by
  refine ⟨fun H => SqL K H a xs, YAt xs, by rw [← r.length]; exact walk_list, fun T1 H1 m => h T1 H1 m, fun i d S1 T1 H1 H2 x e m cl y => ?_⟩
  obtain ⟨e1, e2⟩ := y
  subst e1
  obtain ⟨v, e3, r'⟩ := r.get e
  rw [e2] at e3
  cases e3
  exact ⟨Mv.refl, cl, r'.mv m⟩
theorem SqL.mv {K : PySem.W.Frag} {S S' : Sto} {H H' : Hp} {a : Addr} {xs : List V} (m : Mv S H S' H') (s : S a = none) (h : SqL K H a xs) : SqL K H' a xs := by
  rcases h with (h | ⟨o, h⟩) | h
  · exact .inl (.inl (m.keep _ _ s h))
  · exact .inl (.inr ⟨o, m.keep _ _ s h⟩)
  · exact .inr h
/-- a list by value -/
inductive IsW : D → List D → Prop
  | v {ds : List D} : IsW (.lst ds) ds
  | r {ds : List D} : IsW (.rol ds) ds
theorem IsW.rd {K : PySem.W.Frag} {H : Hp} {x : D} {ds : List D} {u : V} (h : IsW x ds) (r : Rep K H S u x) : ∃ a xs, u = .ref a ∧ (∀ S' H', Mv S H S' H' → SqL K H' a xs) ∧ RepL K H S xs ds := by
  cases h with
  | v => obtain ⟨a, xs, e, s, h, r⟩ := r.seqL; exact ⟨a, xs, e, fun S' H' m => SqL.mv m s (.of h), r⟩
  | r => exact r.seqR
theorem vi_list {te : TE} {W : List D → Sto → Prop} (h : VE c te ρ S fun x S1 => ∃ ds, IsW x ds ∧ W ds S1) : VI c (iList c.K te) ρ S W := fun T σ H I R k =>
  h T σ H I _ fun vx x S1 T1 H1 m1 c1 r1 ⟨ds, hx, q⟩ => by
    obtain ⟨a, xs, rfl, hq, r⟩ := hx.rd r1
    exact ⟨a, rfl, ⟨xs, hq _ _ Mv.refl⟩, k _ ds S1 T1 H1 m1 c1 (yl_list hq r) q⟩
theorem SqT.mv {K : PySem.W.Frag} {H H' : Hp} {a : Addr} {xs : List V} (k : ∀ o, H a = some o → H' a = some o) (h : SqT K H a xs) : SqT K H' a xs := by
  rcases h with (h | ⟨o, h⟩) | h
  · exact .inl (.inl (k _ h))
  · exact .inl (.inr ⟨o, k _ h⟩)
  · exact .inr h
theorem vi_tup {te : TE} {W : List D → Sto → Prop} (h : VE c te ρ S fun x S1 => ∃ ds, x = .tup ds ∧ W ds S1) : VI c (iTup c.K te) ρ S W := fun T σ H I R k =>
  h T σ H I _ fun vx x S1 T1 H1 m1 c1 r1 ⟨ds, hx, q⟩ => by
    subst hx
    have fin : ∀ a xs, vx = .ref a → (∀ T2 H2, Mv T1 H1 T2 H2 → SqT c.K H2 a xs) → RepL c.K H1 T1 xs ds → iTup c.K te = iTup c.K te → ∃ b, vx = .ref b ∧ (∃ xs, SqT c.K H1 b xs) ∧ R (Itt c.K b) H1 := fun a xs e hq r _ => by
      refine ⟨a, e, ⟨xs, hq T1 H1 Mv.refl⟩, k _ ds S1 T1 H1 m1 c1 ⟨fun H => SqT c.K H a xs, YAt xs, by rw [← r.length]; exact walk_tup, hq, fun i d S2 T2 H2 H3 x e m cl y => ?_⟩ q⟩
      obtain ⟨e1, e2⟩ := y
      subst e1
      obtain ⟨v, e3, r'⟩ := r.get e
      rw [e2] at e3
      cases e3
      exact ⟨Mv.refl, cl, r'.mv m⟩
    cases r1 with
    | tup s h r => exact fin _ _ rfl (fun T2 H2 m => .inl (.inl (m.keep _ _ s h))) r rfl
    | tupK h r => exact fin _ _ rfl (fun T2 H2 m => .inr h) r rfl
def rngD (lo : Int) (n : Nat) : List D := (List.range n).map fun i => .int (lo + (i : Nat))
theorem rngD_len {lo : Int} {n : Nat} : (rngD lo n).length = n := by simp [rngD]
theorem rngD_get {lo : Int} {n i : Nat} {d : D} (h : (rngD lo n)[i]? = some d) : i < n ∧ d = .int (lo + (i : Nat)) := by
  unfold rngD at h
  rw [List.getElem?_map] at h
  cases e : (List.range n)[i]? with
  | none => rw [e] at h; cases h
  | some j =>
    rw [e] at h
    obtain ⟨h1, h2⟩ := List.getElem?_eq_some_iff.mp e
    rw [List.getElem_range] at h2
    subst h2
    cases h
    rw [List.length_range] at h1
    exact ⟨h1, rfl⟩
theorem yl_rng {K : PySem.W.Frag} {T : Sto} {H : Hp} {lo : Int} {n : Nat} : Yl K (Itr lo n) (rngD lo n) T H := by
  refine ⟨fun _ => True, YFn fun i => .int (lo + (i : Nat)), by rw [rngD_len]; exact walk_range, fun _ _ _ => trivial, fun i d S1 T1 H1 H2 x e m cl y => ?_⟩
  obtain ⟨e1, e2⟩ := y
  subst e1 e2
  obtain ⟨_, e3⟩ := rngD_get e
  subst e3
  exact ⟨Mv.refl, cl, .int _⟩
theorem vi_rng1 {ta : TA} {W : List D → Sto → Prop} (h : VA c ta ρ S fun es S1 => ∃ j : Int, es = [.int j] ∧ (-(2 ^ 62) ≤ j ∧ j < 2 ^ 62) ∧ W (rngD 0 j.toNat) S1) : VI c (iRng1 ta) ρ S W := fun T σ H I R k =>
  h T σ H I _ fun vs es S1 T1 H1 m1 c1 r1 ⟨j, e, ⟨hl, hh⟩, q⟩ => by
    subst e
    cases r1 with
    | cons h1 t => cases t; cases h1; exact ⟨j, rfl, hl, hh, k _ _ S1 T1 H1 m1 c1 yl_rng q⟩
/-- a text's signs -/
def signsD (x : Str) : List D := x.cps.toList.map fun n => .str ⟨#[n]⟩
theorem vi_str {te : TE} {W : List D → Sto → Prop} (h : VE c te ρ S fun x S1 => ∃ z, x = .str z ∧ W (signsD z) S1) : VI c (iStr te) ρ S W := fun T σ H I R k =>
  h T σ H I _ fun vx x S1 T1 H1 m1 c1 r1 ⟨z, e, q⟩ => by
    subst e
    cases r1
    refine ⟨z, rfl, k _ (signsD z) S1 T1 H1 m1 c1 ⟨fun _ => True, _, by rw [show (signsD z).length = z.cps.size by simp [signsD]]; exact walk_str, fun _ _ _ => trivial, fun i d S2 T2 H2 H3 x e m cl y => ?_⟩ q⟩
    obtain ⟨e1, n, e2, e3⟩ := y
    subst e1 e3
    unfold signsD at e
    rw [List.getElem?_map, Array.getElem?_toList, e2] at e
    cases e
    exact ⟨Mv.refl, cl, .str _⟩
def enumD (ds : List D) : List D := ds.zipIdx.map fun p => .tup [.int (p.2 : Nat), p.1]
theorem enumD_len {ds : List D} : (enumD ds).length = ds.length := by simp [enumD]
theorem enumD_get {ds : List D} {i : Nat} {d : D} (h : (enumD ds)[i]? = some d) : ∃ e, ds[i]? = some e ∧ d = .tup [.int (i : Nat), e] := by
  unfold enumD at h
  rw [List.getElem?_map, List.getElem?_zipIdx] at h
  cases e : ds[i]? with
  | none => rw [e] at h; cases h
  | some x =>
    rw [e] at h
    simp at h
    exact ⟨x, rfl, h.symm⟩
def zipD (ds es : List D) : List D := (ds.zip es).map fun p => .tup [p.1, p.2]
theorem zipD_len {ds es : List D} : (zipD ds es).length = min ds.length es.length := by simp [zipD]
theorem zipD_get {ds es : List D} {i : Nat} {d : D} (h : (zipD ds es)[i]? = some d) : ∃ a b, ds[i]? = some a ∧ es[i]? = some b ∧ d = .tup [a, b] := by
  unfold zipD at h
  rw [List.getElem?_map] at h
  cases e : (ds.zip es)[i]? with
  | none => rw [e] at h; cases h
  | some p =>
    rw [e] at h
    cases h
    obtain ⟨h1, h2⟩ := List.getElem?_zip_eq_some.mp e
    exact ⟨_, _, h1, h2, rfl⟩
/-! ### for -/
theorem vx_for {wi : TI} {g : TG} {tb : TS} {nx bk ct : Rho → Sto → Prop} {rt : D → Sto → Prop}
    (h : VI c wi ρ S fun ds S1 => ∃ W : Nat → Rho → Sto → Prop, W 0 ρ S1 ∧ (∀ (i : Nat) (d : D) ρ2 S2, ds[i]? = some d → W i ρ2 S2 → VG c g d ρ2 S2 fun ρ3 S3 => VX c tb ρ3 S3 ⟨W (i + 1), rt, nx, W (i + 1)⟩) ∧ (∀ ρ2 S2, W ds.length ρ2 S2 → nx ρ2 S2)) :
    VX c (tFor wi g tb) ρ S ⟨nx, rt, bk, ct⟩ := fun T σ H I D b =>
  h T σ H I _ fun J ds S1 T1 H1 m1 c1 ⟨G, Y, w, hG, hY⟩ ⟨W, h0, hs, hd⟩ => by
    refine for_it w (fun i σ' H' => ∃ ρ2 S2 T2, Mv T1 H1 T2 H' ∧ In c σ' H' ρ2 S2 T2 ∧ W i ρ2 S2) ⟨ρ, S1, T1, Mv.refl, I.mv m1 c1, h0⟩ (fun i σ' H' _ ⟨ρ2, S2, T2, m, _, _⟩ => hG T2 H' m) ?_ ?_
    · rintro i x σ' H' H'' hi ⟨ρ2, S2, T2, m, I2, hw⟩ y
      obtain ⟨d, e⟩ : ∃ d, ds[i]? = some d := ⟨ds[i], List.getElem?_eq_getElem hi⟩
      obtain ⟨m3, c3, r3⟩ := hY i d S2 T2 H' H'' x e m I2.cells y
      refine hs i d ρ2 S2 e hw T2 x σ' H'' (I2.mv m3 c3) r3 _ fun σ3 ρ3 S3 T3 H3 m4 I3 q => ?_
      have mm := m.trans (m3.trans m4)
      have mb := m1.trans mm
      exact q T3 σ3 H3 I3 _ ⟨fun σ4 ρ4 S4 T4 H4 m5 I4 q4 => ⟨ρ4, S4, T4, mm.trans m5, I4, q4⟩, fun v d S4 T4 H4 m5 => b.rt v d S4 T4 H4 (mb.trans m5), fun σ4 ρ4 S4 T4 H4 m5 => b.nx σ4 ρ4 S4 T4 H4 (mb.trans m5), fun σ4 ρ4 S4 T4 H4 m5 I4 q4 => ⟨ρ4, S4, T4, mm.trans m5, I4, q4⟩⟩
    · rintro σ' H' ⟨ρ2, S2, T2, m, I2, hw⟩
      exact b.nx σ' ρ2 S2 T2 H' (m1.trans m) I2 (hd ρ2 S2 hw)
theorem vx_while {tc : TT} {tb : TS} {nx bk ct : Rho → Sto → Prop} {rt : D → Sto → Prop} (W : Nat → Rho → Sto → Prop) (m0 : Nat) (h0 : W m0 ρ S)
    (hs : ∀ m ρ2 S2, W m ρ2 S2 → VT c tc ρ2 S2 fun b S3 => (b = true → VX c tb ρ2 S3 ⟨fun ρ4 S4 => ∃ m', m' < m ∧ W m' ρ4 S4, rt, nx, fun ρ4 S4 => ∃ m', m' < m ∧ W m' ρ4 S4⟩) ∧ (b = false → nx ρ2 S3)) :
    VX c (tWhile tc tb) ρ S ⟨nx, rt, bk, ct⟩ := fun T σ H I D b => by
  refine ⟨fun m σ' H' => ∃ ρ2 S2 T2, Mv T H T2 H' ∧ In c σ' H' ρ2 S2 T2 ∧ W m ρ2 S2, ⟨m0, ρ, S, T, Mv.refl, I, h0⟩, fun m σ' H' ⟨ρ2, S2, T2, mm, I2, hw⟩ => ?_⟩
  refine hs m ρ2 S2 hw T2 σ' H' I2 _ fun k S3 T3 H3 m3 c3 ⟨h1, h2⟩ => ?_
  cases k with
  | true =>
    refine iteT ⟨fun σ4 H4 => ∃ ρ4 S4 T4, Mv T H T4 H4 ∧ In c σ4 H4 ρ4 S4 T4 ∧ ∃ m', m' < m ∧ W m' ρ4 S4, fun σ4 H4 ⟨ρ4, S4, T4, a, I4, m', l, w⟩ => ⟨m', l, ρ4, S4, T4, a, I4, w⟩, ?_⟩
    have mb := mm.trans m3
    exact h1 rfl T3 σ' H3 (I2.mv m3 c3) _ ⟨fun σ4 ρ4 S4 T4 H4 m5 I4 q4 => ⟨ρ4, S4, T4, mb.trans m5, I4, q4⟩, fun v d S4 T4 H4 m5 => b.rt v d S4 T4 H4 (mb.trans m5), fun σ4 ρ4 S4 T4 H4 m5 => b.nx σ4 ρ4 S4 T4 H4 (mb.trans m5), fun σ4 ρ4 S4 T4 H4 m5 I4 q4 => ⟨ρ4, S4, T4, mb.trans m5, I4, q4⟩⟩
  | false => exact iteF (b.nx σ' ρ2 S3 T3 H3 (mm.trans m3) (I2.mv m3 c3) (h2 rfl))
/-! ### comprehensions -/
def wipeR (ρ : Rho) : List Nat → Rho
  | [] => ρ
  | v :: vs => (wipeR ρ vs).set v none
theorem In.wipe {T : Sto} {σ : St} {H : Hp} (I : In c σ H ρ S T) : ∀ vs : List Nat, In c (L2.wipe σ vs) H (wipeR ρ vs) S T
  | [] => I
  | v :: vs => by
    have J := In.wipe I vs
    refine ⟨J.cells, fun j e q => ?_, by simp [L2.wipe, wipeR, J.len], J.exc⟩
    unfold wipeR at q
    by_cases z : v = j
    · subst z
      by_cases hv : v < (wipeR ρ vs).length
      · rw [List.getElem?_set_self hv] at q; cases q
      · rw [List.getElem?_eq_none (by simpa using hv)] at q; cases q
    · rw [List.getElem?_set_ne z] at q
      obtain ⟨u, h1, h2⟩ := J.slots j e q
      exact ⟨u, by unfold L2.wipe; rw [List.getElem?_set_ne z]; exact h1, h2⟩
theorem wipe_set_out {σ : St} {i : Nat} {x : Option V} : ∀ us : List Nat, i ∉ us → L2.wipe (σ.set i x) us = (L2.wipe σ us).set i x
  | [], _ => rfl
  | u :: us, hu => by
    simp only [List.mem_cons, not_or] at hu
    unfold L2.wipe
    rw [wipe_set_out us hu.2, List.set_comm _ _ hu.1]
theorem wipe_set {σ : St} {i : Nat} {x : Option V} : ∀ {vs : List Nat}, i ∈ vs → L2.wipe (σ.set i x) vs = L2.wipe σ vs
  | v :: vs, h => by
    unfold L2.wipe
    by_cases hm : i ∈ vs
    · rw [wipe_set hm]
    · have z : i = v := by
        rcases List.mem_cons.mp h with q | q
        · exact q
        · exact absurd q hm
      subst z
      rw [wipe_set_out vs hm, List.set_set]
theorem wipe_wipe {σ : St} (vs : List Nat) : ∀ us : List Nat, (∀ v ∈ us, v ∈ vs) → L2.wipe (L2.wipe σ us) vs = L2.wipe σ vs
  | [], _ => rfl
  | u :: us, h => by
    show L2.wipe ((L2.wipe σ us).set u none) vs = _
    rw [wipe_set (h u List.mem_cons_self), wipe_wipe vs us fun v hv => h v (List.mem_cons_of_mem _ hv)]
/-- the targets of a comprehension: they store its own names alone -/
def VGw (c : Ctx) (vs : List Nat) (g : TG) (d : D) (ρ : Rho) (S : Sto) (F : Rho → Sto → Prop) : Prop := ∀ T v σ H, In c σ H ρ S T → Rep c.K H T v d → ∀ Q : St → Hp → Prop,
  (∀ σ' ρ' S' T' H', L2.wipe σ' vs = L2.wipe σ vs → Mv T H T' H' → In c σ' H' ρ' S' T' → F ρ' S' → Q σ' H') → g v σ H Q
theorem vgw_name {vs : List Nat} {i : Nat} {F : Rho → Sto → Prop} (hi : i ∈ vs) (q : F (ρ.set i (some d)) S) : VGw c vs (gName i) d ρ S F := fun T v σ H I r Q k => k _ _ S T H (wipe_set hi) Mv.refl (I.set i r) q
def VGws (c : Ctx) (vs : List Nat) (g : TGs) (ds : List D) (ρ : Rho) (S : Sto) (F : Rho → Sto → Prop) : Prop := ∀ T us σ H, In c σ H ρ S T → RepL c.K H T us ds → ∀ Q : St → Hp → Prop,
  (∀ σ' ρ' S' T' H', L2.wipe σ' vs = L2.wipe σ vs → Mv T H T' H' → In c σ' H' ρ' S' T' → F ρ' S' → Q σ' H') → g us σ H Q
theorem vgws_nil {vs : List Nat} {F : Rho → Sto → Prop} (q : F ρ S) : VGws c vs gNil [] ρ S F := fun T us σ H I r Q k => by
  cases r; exact ⟨rfl, k σ ρ S T H rfl Mv.refl I q⟩
theorem vgws_cons {vs : List Nat} {g : TG} {gs : TGs} {ds : List D} {F : Rho → Sto → Prop} (h : VGw c vs g d ρ S fun ρ1 S1 => VGws c vs gs ds ρ1 S1 F) : VGws c vs (gCons g gs) (d :: ds) ρ S F := fun T us σ H I r Q k => by
  cases r with
  | cons h1 t => exact ⟨_, _, rfl, h T _ σ H I h1 _ fun σ1 ρ1 S1 T1 H1 e1 m1 I1 q => q T1 _ σ1 H1 I1 (t.mv m1) Q fun σ2 ρ2 S2 T2 H2 e2 m2 => k σ2 ρ2 S2 T2 H2 (e2.trans e1) (m1.trans m2)⟩
theorem vgw_tup {vs : List Nat} {n : Nat} {gs : TGs} {ds : List D} {F : Rho → Sto → Prop} (hn : ds.length = n) (h : VGws c vs gs ds ρ S F) : VGw c vs (gTup c.K n gs) (.tup ds) ρ S F := fun T v σ H I r Q k => by
  obtain ⟨a, xs, rfl, s, r⟩ := r.seqT
  exact ⟨a, xs, rfl, s, by rw [r.length]; exact hn, h T xs σ H I r Q k⟩
/-- the heart -/
theorem lc_heart {wi : TI} {g : TG} {tt : TT} {te : TE} {vs : List Nat} {R : List D → Sto → Prop}
    (h : VI c wi ρ S fun ds S1 => ds.length ≤ 100000 ∧ ∃ W : Nat → List D → Sto → Prop, W 0 [] S1 ∧ (∀ (i : Nat) (d : D) acc S2, ds[i]? = some d → W i acc S2 → acc.length ≤ i → VGw c vs g d (wipeR ρ vs) S2 fun ρ3 S3 => VT c tt ρ3 S3 fun b S4 => (b = true → VE c te ρ3 S4 fun y S5 => W (i + 1) (acc ++ [y]) S5) ∧ (b = false → W (i + 1) acc S4)) ∧
      (∀ acc S2, W ds.length acc S2 → acc.length ≤ ds.length → R acc S2)) {T : Sto} {σ : St} {H : Hp} (I : In c σ H ρ S T) {Q : VK}
    (k : ∀ p xs acc S' T' H' T1 H1, Mv T H T1 H1 → Mv T1 H1 T' H' → Cells c.K H' S' T' → T' p = some .hid → H1 p = none → H' p = some (.lst xs) → RepL c.K H' T' xs acc → R acc S' → Q (.ref p) H') : tLc wi g tt te vs σ H Q :=
  h T σ H I _ fun J ds S1 T1 H1 m1 c1 ⟨G, Y, w, hG, hY⟩ ⟨hl, W, h0, hs, hd⟩ => fun p hp => by
    refine lc_it w (fun i H' => ∃ S2 T2 xs acc, Mv T1 H1 T2 H' ∧ Cells c.K H' S2 T2 ∧ T2 p = some .hid ∧ H' p = some (.lst xs) ∧ RepL c.K H' T2 xs acc ∧ acc.length ≤ i ∧ W i acc S2)
      ⟨S1, put T1 p .hid, [], [], mv_newc hp, c1.newh hp, put_same, upd_same, .nil, Nat.le_refl _, h0⟩ (fun i H' _ ⟨S2, T2, _, _, m, _⟩ => hG T2 H' m) ?_ ?_
    · rintro i x H' H'' hi ⟨S2, T2, xs, acc, m, c2, s2, hx, r2, hle, hw⟩ y
      obtain ⟨d, e⟩ : ∃ d, ds[i]? = some d := ⟨ds[i], List.getElem?_eq_getElem hi⟩
      obtain ⟨m3, c3, r3⟩ := hY i d S2 T2 H' H'' x e m c2 y
      have I2 : In c σ H'' ρ S2 T2 := I.mv (m1.trans (m.trans m3)) c3
      refine hs i d acc S2 e hw hle T2 x (L2.wipe σ vs) H'' (I2.wipe vs) r3 _ fun σ3 ρ3 S3 T3 H3 ew m4 I3 q => ⟨ew.trans (wipe_wipe vs vs fun _ h => h), ?_⟩
      refine q T3 σ3 H3 I3 _ fun b S4 T4 H4 m5 c4 ⟨q1, q2⟩ => ?_
      have mm := m3.trans (m4.trans m5)
      cases b with
      | true =>
        refine iteT (q1 rfl T4 σ3 H4 (I3.mv m5 c4) _ fun v y S5 T5 H5 m6 c5 r5 q5 => ?_)
        have m7 := mm.trans m6
        obtain ⟨hx5, s5⟩ := m7.hid _ _ s2 hx
        refine ⟨xs, hx5, ?_, S5, T5, xs ++ [v], acc ++ [y], (m.trans m7).hidw hp, c5.hidw s5, s5, upd_same, ((r2.mv m7).append (.cons r5 .nil)).mk (mk_hid s5), ?_, q5⟩
        · rw [r2.length]
          exact Nat.lt_of_lt_of_le (show acc.length < 100001 by omega) (by decide)
        · rw [List.length_append, List.length_singleton]
          omega
      | false =>
        obtain ⟨hx5, s5⟩ := mm.hid _ _ s2 hx
        exact iteF ⟨S4, T4, xs, acc, m.trans mm, c4, s5, hx5, r2.mv mm, by omega, q2 rfl⟩
    · rintro H' ⟨S2, T2, xs, acc, m, c2, s2, hx, r2, hle, hw⟩
      exact k p xs acc S2 T2 H' T1 H1 m1 m c2 s2 hp hx r2 (hd acc S2 hw hle)
theorem Mv.unhid {S S' : Sto} {H H' : Hp} {p : Addr} (m : Mv S H S' H') (h : H p = none) : Mv S H (del S' p) H' where
  keep := m.keep
  fresh := fun a s e => by
    unfold del
    split
    · rfl
    · exact m.fresh a s e
  hid := fun a o s e => by
    obtain ⟨e1, e2⟩ := m.hid a o s e
    refine ⟨e1, ?_⟩
    rw [del_ne (ne_of_none e h)]
    exact e2
theorem Mv.show {S S' : Sto} {H H' : Hp} {p : Addr} {d : D} (m : Mv S H S' H') (h : H p = none) : Mv S H (put S' p d) H' where
  keep := m.keep
  fresh := fun a s e => by
    rw [put_ne]
    · exact m.fresh a s e
    · intro z; subst z; exact e h
  hid := fun a o s e => by
    obtain ⟨e1, e2⟩ := m.hid a o s e
    refine ⟨e1, ?_⟩
    rw [put_ne (ne_of_none e h)]
    exact e2
theorem Cells.show {K : PySem.W.Frag} {S T : Sto} {H : Hp} {p : Addr} {xs : List V} {ds : List D} (cl : Cells K H S T) (s : T p = some .hid) (hx : H p = some (.lst xs)) (r : RepL K H T xs ds) : Cells K H (put S p (.lst ds)) (put T p (.lst ds)) := by
  have m : Mk T H (put T p (.lst ds)) H := by
    refine ⟨fun _ _ _ h => h, fun a q _ => ?_⟩
    rw [put_ne]
    · exact q
    · intro z; subst z; rw [s] at q; cases q
  refine ⟨ov_put cl.ov (by nofun), fun a e q => ?_⟩
  by_cases z : a = p
  · subst z; rw [put_same] at q; cases q; exact cell_l hx (r.mk m)
  · rw [put_ne z] at q
    exact CellOk.mk m rfl (cl.ok a e q)
/-- [e for x in xs if t], by value -/
theorem ve_lc {wi : TI} {g : TG} {tt : TT} {te : TE} {vs : List Nat}
    (h : VI c wi ρ S fun ds S1 => ds.length ≤ 100000 ∧ ∃ W : Nat → List D → Sto → Prop, W 0 [] S1 ∧ (∀ (i : Nat) (d : D) acc S2, ds[i]? = some d → W i acc S2 → acc.length ≤ i → VGw c vs g d (wipeR ρ vs) S2 fun ρ3 S3 => VT c tt ρ3 S3 fun b S4 => (b = true → VE c te ρ3 S4 fun y S5 => W (i + 1) (acc ++ [y]) S5) ∧ (b = false → W (i + 1) acc S4)) ∧
      (∀ acc S2, W ds.length acc S2 → acc.length ≤ ds.length → F (.lst acc) S2)) : VE c (tLc wi g tt te vs) ρ S F := fun T σ H I Q k =>
  lc_heart (R := fun acc S2 => F (.lst acc) S2) h I fun p xs acc S' T' H' T1 H1 m1 m cl s n hx r q => by
    exact k _ (.lst acc) S' (del T' p) H' (m1.trans (m.unhid n)) (cl.unhid s) (.lst del_same hx (r.mk (mk_show s))) q
/-- .. by reference -/
theorem ve_lcc {wi : TI} {g : TG} {tt : TT} {te : TE} {vs : List Nat}
    (h : VI c wi ρ S fun ds S1 => ds.length ≤ 100000 ∧ ∃ W : Nat → List D → Sto → Prop, W 0 [] S1 ∧ (∀ (i : Nat) (d : D) acc S2, ds[i]? = some d → W i acc S2 → acc.length ≤ i → VGw c vs g d (wipeR ρ vs) S2 fun ρ3 S3 => VT c tt ρ3 S3 fun b S4 => (b = true → VE c te ρ3 S4 fun y S5 => W (i + 1) (acc ++ [y]) S5) ∧ (b = false → W (i + 1) acc S4)) ∧
      (∀ acc S2, W ds.length acc S2 → acc.length ≤ ds.length → ∀ p, S2 p = none → F (.ref p) (put S2 p (.lst acc)))) : VE c (tLc wi g tt te vs) ρ S F := fun T σ H I Q k =>
  lc_heart (R := fun acc S2 => ∀ p, S2 p = none → F (.ref p) (put S2 p (.lst acc))) h I fun p xs acc S' T' H' T1 H1 m1 m cl s n hx r q => by
    have sp : S' p = none := by
      rcases cl.ov p with ⟨_, e⟩ | ⟨e, _⟩
      · exact absurd s e
      · exact e
    exact k _ _ _ (put T' p (.lst acc)) H' (m1.trans (m.show n)) (cl.show s hx r) (.ref p) (q p sp)
end
end VS
namespace VS
open PySem L2 C8 PySem.Spec PyProof.Rows
/-! ### a def's promise where nothing is being shown around (repr asks that) -/
structure FnG (P : Program) (w : World) (K : PySem.W.Frag) (mg : Str → Option Value) (base : Heap) (CX : CXT) (k : Nat) (f : Addr) (fd : FuncData) (ps : List Str) (sp : Sp) : Prop where
  len : ∀ vs H Q E, sp vs H Q E → vs.length = ps.length
  run : ∀ (A : Around), A.guards = some [] → ∀ (outer : List Env) (s : Shared) (H : Hp) (args : Args) (us : List Value) (vs : List V) (Q : VK) (E : XK), Room k A →
    Env0 P w K mg base A outer s H → BindsTo s fd args (ps.zip us) → Vals vs us → sp vs H Q E → codeAny (model P w) A (.call (.ref f) args) (CR CX outer P w H s Q E) s
abbrev Fd (K : PySem.W.Frag) (x qual : Str) (st : Stmt) (dvs : List V) (f : Addr) (fd : FuncData) : Prop := FunD K x qual (defArgs st) (defBody st) (defScope st) dvs [] f fd
/-- what a callee lets out is taken, at the slots as they are -/
def PassS (CX : CXT) (X : Cx) (E : L2.St → XK) : Prop := ∀ (pins : List (Addr × Obj)) (σ : L2.St) (H : Hp) (s : Shared) (e : Value) (s' : Shared), Inv X pins σ H s → CX X.stack H s (E σ) e s' → X.xe e s'
theorem passS_of {X : Cx} {W : WX} (tk : Takes X W) : PassS (L2.CX X.prog X.w) X (fun σ cls d H => W cls d σ H) := fun _ σ _ _ e s' I c => tk e s' (XE.of_call I (fun _ _ _ h => h) c)
/-- nothing is let out -/
def noE : L2.St → XK := fun _ _ _ _ => False
theorem pass0 {X : Cx} : PassS (L2.CX X.prog X.w) X noE := fun _ _ _ _ _ _ _ h => by
  obtain ⟨_, _, _, _, _, _, _, _, _, _, _, _, z⟩ := h
  exact z.elim
section
variable {P : Program} {w : World} {K : PySem.W.Frag} {mg : Str → Option Value} {base : Heap} {CX : CXT}
/-- a def by its body -/
theorem fnG_of {x qual : Str} {st : Stmt} {dvs : List V} {f : Addr} {fd : FuncData} {N ps : List Str} {k : Nat} {sp : Sp} (F : Fd K x qual st dvs f fd) (Sc : FnScope N ps (defScope st)) (len : ∀ vs H Q E, sp vs H Q E → vs.length = ps.length)
    (body : ∀ (cdv : Value) (A : Around), A.guards = some [] → ∀ (outer : List Env) (s : Shared) (H : Hp) (vs : List V) (Q : VK) (E : XK), Room k (A.deeper (envOfC qual (defScope st) s.heap.objs.size f cdv)) → sp vs H Q E →
      ∃ t, PSs (cxOf CX P w K mg base N qual (defScope st) f cdv A outer s H E) (defBody st) t ∧ t ⟨fun _ H' => Q .non H', Q, fun _ _ => False, fun _ _ => False⟩ (L2.start N vs) H) : FnG P w K mg base CX (k + 1) f fd ps sp := by
  obtain ⟨oc, od, dV, kV, doc, pm, an, cdv, ct, osl, rfl, lk, hcd, _, _⟩ := F.ex
  refine ⟨len, fun A hgd outer s H args us vs Q E room en hb rv hsp => ?_⟩
  have heap_in : K.In s.heap := en.mod.kin.keeps fun b o e => (en.bs b o e).1
  have nolim : s.heap.NoLimit := en.mod.nolimit.keeps fun b o e => (en.bs b o e).1
  refine codeAny_call_function room.depth (heap_in _ _ lk) rfl Sc.co Sc.gen rfl (PySem.W.codeRec_of heap_in hcd) (hb _ _ _ _ ?_)
  have kinds : ∀ y ∈ ps.zip us, (defScope st).names.lookup y.1 = some .local ∨ ((defScope st).names.lookup y.1 = some .cell ∧ ((cellsFrom (s.heap.objs.size + 1) (defScope st).names []).lookup y.1).isSome = true) := by
    rintro ⟨n, v⟩ hy
    cases Sc.par n (List.of_mem_zip hy).1 with
    | inl q => exact .inl q
    | inr q => exact .inr ⟨q, PySem.W.cellsFrom_some _ _ _ (.inl q)⟩
  refine wpAny_newFunctionEnv_cells Sc.kind kinds fun env he s1 inc => ?_
  subst he
  obtain ⟨t, ht, hq⟩ := body cdv A hgd outer s H vs Q E (room.deeper _) hsp
  refine ⟨nolim.keeps inc.toInCall.keep, codeAny_func (wpAny_mono (ht.run [] s1 (L2.start N vs) H _ (inv_start Sc room.hd en (len _ _ _ _ hsp) rv inc) hq) (fun fl s2 hs => ?_) fun _ _ q => q)⟩
  cases fl with
  | next => obtain ⟨σ2, H2, J, q⟩ := hs; exact ⟨.non, H2, J.os, J.bare, J.base, J.hok, rfl, q⟩
  | ret u => obtain ⟨v, σ2, H2, J, r2, q⟩ := hs; exact ⟨v, H2, J.os, J.bare, J.base, J.hok, r2, q⟩
  | brk => obtain ⟨_, _, _, q⟩ := hs; exact q.elim
  | cont => obtain ⟨_, _, _, q⟩ := hs; exact q.elim
/-- .. by value -/
def startR (N : List Str) (ds : List D) : Rho := ds.map some ++ List.replicate (N.length - ds.length) none
theorem in_start {c : Ctx} {N : List Str} {vs : List V} {ds : List D} {S T : Sto} {H : Hp} (cl : Cells c.K H S T) (r : RepL c.K H T vs ds)
    (ex : ∀ (σ' : L2.St) (ρ' : Rho) (C : Addr) (d : Option Addr) (fs : List (Str × D)) (S' T' : Sto) (H' : Hp), Mv T H T' H' → Cells c.K H' S' T' → Sl c.K H' T' σ' ρ' → XRep c.K H' T' d fs → c.Y C fs ρ' S' → c.E σ' (.ref C) d H') : In c (L2.start N vs) H (startR N ds) S T := by
  refine ⟨cl, fun i d e => ?_, by simp [L2.start, startR, r.length], ex⟩
  unfold startR at e
  by_cases hi : i < ds.length
  · rw [List.getElem?_append_left (by simpa using hi), List.getElem?_map] at e
    cases q : ds[i]? with
    | none => rw [q] at e; cases e
    | some d' =>
      rw [q] at e
      cases e
      obtain ⟨v, h1, h2⟩ := r.get q
      refine ⟨v, ?_, h2⟩
      unfold L2.start
      rw [List.getElem?_append_left (by rw [List.length_map, r.length]; exact hi), List.getElem?_map, h1] <;> rfl
  · rw [List.getElem?_append_right (by simpa using Nat.le_of_not_lt hi), List.getElem?_replicate] at e
    split at e <;> cases e
theorem fn_val {x qual : Str} {st : Stmt} {dvs : List V} {f : Addr} {fd : FuncData} {N ps : List Str} {k : Nat} {p : Pt} (F : Fd K x qual st dvs f fd) (Sc : FnScope N ps (defScope st)) (len : ∀ ds S G Y, p ds S G Y → ds.length = ps.length)
    (body : ∀ (cdv : Value) (A : Around), A.guards = some [] → ∀ (outer : List Env) (s : Shared) (H : Hp) (E : XK), Room k (A.deeper (envOfC qual (defScope st) s.heap.objs.size f cdv)) →
      PassS (L2.CX P w) (cxOf (L2.CX P w) P w K mg base N qual (defScope st) f cdv A outer s H E) (fun _ => E) → Takes (cxOf (L2.CX P w) P w K mg base N qual (defScope st) f cdv A outer s H E) (fun cls d _ H' => E cls d H') →
      PassesOwn (model P w) (A.deeper (envOfC qual (defScope st) s.heap.objs.size f cdv)) (envOfC qual (defScope st) s.heap.objs.size f cdv) (cxOf (L2.CX P w) P w K mg base N qual (defScope st) f cdv A outer s H E).xe → ∀ ds S G Y, p ds S G Y →
      ∃ t, PSs (cxOf (L2.CX P w) P w K mg base N qual (defScope st) f cdv A outer s H E) (defBody st) t ∧ VX ⟨K, fun _ => E, fun C fs _ S' => Y C fs S'⟩ t (startR N ds) S ⟨fun _ S' => G .non S', G, fun _ _ => False, fun _ _ => False⟩) : FnG P w K mg base (L2.CX P w) (k + 1) f fd ps (spOf K p) := by
  refine fnG_of F Sc (fun vs H Q E h => ?_) fun cdv A hgd outer s H vs Q E room h => ?_
  · obtain ⟨ds, S, T, G, Y, r, _, hp, _⟩ := h
    rw [r.length]
    exact len _ _ _ _ hp
  · obtain ⟨ds, S, T, G, Y, r, cl, hp, hv, hx⟩ := h
    have tk : Takes (cxOf (L2.CX P w) P w K mg base N qual (defScope st) f cdv A outer s H E) (fun cls d _ H' => E cls d H') := takes_of rfl rfl rfl rfl
    obtain ⟨t, h1, h2⟩ := body cdv A hgd outer s H E room (passS_of tk) tk PassesOwn.leaving ds S G Y hp
    refine ⟨t, h1, h2 T _ H (in_start (c := ⟨K, fun _ => E, fun C fs _ S' => Y C fs S'⟩) cl r (fun _ _ C d fs S' T' H' m c2 _ x y => hx C d fs S' T' H' m c2 x y)) _ ⟨fun σ' ρ' S' T' H' m I' q => ?_, fun v d S' T' H' m c2 r2 q => hv v d S' T' H' m c2 r2 q, fun _ _ _ _ _ _ _ q => q.elim, fun _ _ _ _ _ _ _ q => q.elim⟩⟩
    exact hv .non .non S' T' H' m I'.cells .non q
end
/-! ### calls -/
def tCallE (sp : Sp) (dvs : List V) (E : L2.St → XK) (t : TA) : TE := fun σ H Q => t σ H fun vs H1 => sp (vs ++ dvs) H1 Q (E σ)
def tMethE (C : Addr) (m : Str) (sp : Sp) (dvs : List V) (E : L2.St → XK) (ta : TE) (t : TA) : TE := fun σ H Q => ta σ H fun y H1 => ∃ a dx fs, y = .ref a ∧ H1 a = some (.ins C dx fs) ∧ fs.lookup m = none ∧ t σ H1 fun vs H2 => sp (y :: (vs ++ dvs)) H2 Q (E σ)
def tMakeE (C : Addr) (sp : Sp) (dvs : List V) (E : L2.St → XK) (t : TA) : TE := fun σ H Q => t σ H fun vs H1 => ∀ y dx, H1 y = none → H1 dx = none → dx ≠ y →
  sp (.ref y :: (vs ++ dvs)) (upd (upd H1 dx (.own y)) y (.ins C dx [])) (fun v H2 => v = .non ∧ Q (.ref y) H2) (E σ)
section
variable {X : Cx} {CX : CXT} {k n : Nat} {f C : Addr} {fd : FuncData} {ps ks : List Str} {sp : Sp} {dvs : List V} {ds : List Value} {E : L2.St → XK} {x m : Str} {p pos apos : Pos} {e o : Expr} {es : List Expr} {kws : List Keyword} {ta : TE} {t tk : TA} {g : List Value → List Value → List Value} {gV : List V → List V → List V}
theorem call_end {pins : List (Addr × Obj)} {σ : L2.St} {H : Hp} {s s' : Shared} {Q : VK} {r : Result} (hx : PassS CX X E) (I : Inv X pins σ H s) (h : CR CX X.stack X.prog X.w H s Q (E σ) r s') :
    (match r with | .ok (.ret u) => EP X pins σ Q u s' | .ok _ => False | .error e => X.xe e s') := by
  cases r with
  | error e => exact hx pins σ H s e s' I h
  | ok fl =>
    cases fl with
    | ret u => exact I.after h
    | next => exact h
    | brk => exact h
    | cont => exact h
/-- the callee runs: us the values as handed, vs the values as bound -/
theorem callG {pins : List (Addr × Obj)} {σ : L2.St} {H : Hp} {s : Shared} {Q : VK} {us bs : List Value} {kw : List (Str × Value)} {vs : List V} (F : FnG X.prog X.w X.K X.mg X.base CX k f fd ps sp) (hgd : X.A.guards = some []) (hr : Room k X.A)
    (hb : BindsTo s fd ⟨us, kw⟩ (ps.zip bs)) (hx : PassS CX X E) (I : Inv X pins σ H s) (r : Vals vs bs) (h : sp vs H Q (E σ)) : wpAny (model X.prog X.w) X.A (call (.ref f) us kw) (EP X pins σ Q) X.xe s :=
  wpAny_call (codeAny_mono (F.run X.A hgd X.stack s H ⟨us, kw⟩ bs vs Q (E σ) hr I.env0 hb r h) fun r s' q => by
    have z := call_end hx I q
    cases r with
    | error e => exact z
    | ok fl => cases fl <;> exact z)
theorem bindsAt {fd : FuncData} {K : PySem.W.Frag} {s : Shared} {us : List Value} {vs : List V} (hb : Binds K fd ps ds) (hd : Vals dvs ds) (X : K.In s.heap) (r : Vals vs us) (hl : (vs ++ dvs).length = ps.length) : BindsTo s fd ⟨us, []⟩ (ps.zip (us ++ ds)) :=
  hb s us X ((r.append hd).length.symm.trans hl)
/-- f(e, ..) -/
theorem pe_cG (F : FnG X.prog X.w X.K X.mg X.base CX k f fd ps sp) (hgd : X.A.guards = some []) (hr : Room k X.A) (hg : Gl X x) (hm : X.mg x = some (.ref f)) (hk : PySem.W.keepIn X.K (.ref f) = true) (hb : Binds X.K fd ps ds) (hd : Vals dvs ds) (hx : PassS CX X E)
    (ha : PA X (e :: es) t) (hdb : (x == ("__debug__" : Str)) = false := by decide) (he : starEach (e :: es) X.env = (false, eval e X.env) :: starEach es X.env := by rfl) (hpl : (backTo pos (starEach es X.env)).any (·.1) = false := by rfl) :
    PE X (.Call (.Name x p) (e :: es) [] pos) (tCallE sp dvs E t) where
  run := fun pins s σ H Q I h => wpAny_Call_Name_kw (ld_glob I hg hm (PySem.W.callWith_K (h₀ := X.base) I.ok.mod.kin hk (thn (ha.run pos pins s σ H _ I h) fun us s1 ⟨vs, H1, I1, r, q⟩ =>
    ⟨I1.kIn, callG F hgd hr (bindsAt hb hd I1.kIn r (F.len _ _ _ _ q)) hx I1 (r.append hd) q⟩) he hpl) hdb)
/-- o.m(e, ..) -/
theorem pe_mG {pl : Sem Bool} (he : PE X o ta) (c : Cls X.K C) (hm : Meth X.K C m f) (F : FnG X.prog X.w X.K X.mg X.base CX k f fd ps sp) (hgd : X.A.guards = some []) (hr : Room k X.A) (hb : Binds X.K fd ps ds) (hd : Vals dvs ds) (hx : PassS CX X E) (ha : PA X (e :: es) t)
    (hst : starEach (e :: es) X.env = (false, eval e X.env) :: starEach es X.env := by rfl) (hpl : (backTo pos (starEach es X.env)).any (·.1) = false := by rfl)
    (ht : eval (.Call (.Attribute o m apos) (e :: es) [] pos) X.env = (do
      let recv ← eval o X.env
      standAt apos.atName
      let (fn, ahead) ← holding [recv] (getMethod recv m pl)
      callWith pos fn ahead (backTo pos (starEach (e :: es) X.env)) (backToKw pos (keywordEach [] X.env))) := by rfl) :
    PE X (.Call (.Attribute o m apos) (e :: es) [] pos) (tMethE C m sp dvs E ta t) where
  run := fun pins s σ H Q I h => by
    refine PySem.W.methodCall_KW (pl := pl) (thn (he.run pins s σ H _ I h) fun u s1 ⟨y, H1, I1, ry, a, dx, fs, ey, ea, l, q⟩ => ?_) ht
    subst ey
    cases ry
    refine getmeth_ok I1 ea c hm l (PySem.W.callWith_K (first := [.ref a]) (h₀ := X.base) I.ok.mod.kin hm.kp (thn (ha.run pos pins s1 σ H1 _ I1 q) fun us s2 ⟨vs, H2, I2, r, q2⟩ => ⟨I2.kIn, ?_⟩) hst hpl)
    exact callG F hgd hr (bindsAt (vs := .ref a :: vs) (us := .ref a :: us) hb hd I2.kIn (.cons rfl r) (F.len _ _ _ _ q2)) hx I2 (vs := .ref a :: (vs ++ dvs)) (.cons rfl (r.append hd)) q2
theorem pe_mG0 {pl : Sem Bool} (he : PE X o ta) (c : Cls X.K C) (hm : Meth X.K C m f) (F : FnG X.prog X.w X.K X.mg X.base CX k f fd ps sp) (hgd : X.A.guards = some []) (hr : Room k X.A) (hb : Binds X.K fd ps ds) (hd : Vals dvs ds) (hx : PassS CX X E)
    (ht : eval (.Call (.Attribute o m apos) [] [] pos) X.env = (do
      let recv ← eval o X.env
      standAt apos.atName
      let (fn, ahead) ← holding [recv] (getMethod recv m pl)
      callWith pos fn ahead (backTo pos (starEach [] X.env)) (backToKw pos (keywordEach [] X.env))) := by rfl) :
    PE X (.Call (.Attribute o m apos) [] [] pos) (tMethE C m sp dvs E ta tNil) where
  run := fun pins s σ H Q I h => by
    refine PySem.W.methodCall_KW (pl := pl) (thn (he.run pins s σ H _ I h) fun u s1 ⟨y, H1, I1, ry, a, dx, fs, ey, ea, l, q⟩ => ?_) ht
    subst ey
    cases ry
    refine getmeth_ok I1 ea c hm l ?_
    exact PySem.W.callWith_K0 (first := [.ref a]) I1.kIn hm.kp (callG F hgd hr (bindsAt (vs := [.ref a]) (us := [.ref a]) hb hd I1.kIn (.cons rfl .nil) (F.len _ _ _ _ q)) hx I1 (vs := .ref a :: dvs) (.cons rfl hd) q)
/-- C(e, ..): the instance is made, __init__ runs; bs: the values as bound -/
theorem made_guards {A : Around} {us : List Value} {kw : List (Str × Value)} (h : A.guards = some []) : (A.under (.builtin "type.__call__" ⟨.ref C :: us, kw⟩)).guards = some [] := by
  have e : (Code.builtin "type.__call__" ⟨.ref C :: us, kw⟩).guards = [] := rfl
  show pushGuards (Code.builtin "type.__call__" ⟨.ref C :: us, kw⟩).guards A.guards = some []
  rw [e, h] <;> rfl
theorem makeG {pins : List (Addr × Obj)} {σ : L2.St} {H : Hp} {s : Shared} {Q : VK} {us : List Value} {kw : List (Str × Value)} {bs : Value → List Value} {bv : V → List V} (M : L2.Mk X.K C f) (F : FnG X.prog X.w X.K X.mg X.base CX k f fd ps sp) (hgd : X.A.guards = some []) (hr : Room (k + 1) X.A)
    (hb : ∀ y s', X.K.In s'.heap → (bv (.ref y)).length = ps.length → BindsTo s' fd ⟨.ref y :: us, kw⟩ (ps.zip (bs (.ref y)))) (hx : PassS CX X E) (I : Inv X pins σ H s) (r : ∀ y, Vals (bv (.ref y)) (bs (.ref y)))
    (h : ∀ y dx, H y = none → H dx = none → dx ≠ y → sp (bv (.ref y)) (upd (upd H dx (.own y)) y (.ins C dx [])) (fun v H2 => v = .non ∧ Q (.ref y) H2) (E σ)) : wpAny (model X.prog X.w) X.A (call (.ref C) us kw) (EP X pins σ Q) X.xe s := by
  have hs := h (s.heap.objs.size + 1) s.heap.objs.size (I.hok.fresh (Nat.le_succ _)) (I.hok.fresh (Nat.le_refl _)) (Nat.ne_of_lt (Nat.lt_succ_self _))
  have J := Inv.made (C := C) I
  have bd := hb (s.heap.objs.size + 1) _ J.kIn (F.len _ _ _ _ hs)
  refine wpAny_call (make_map (f := f) I.kIn M.makes M.init (beq_iff_eq.mp M.fn) (codeAny_mono (F.run _ (made_guards hgd) X.stack _ _ ⟨Value.ref (s.heap.objs.size + 1) :: us, kw⟩ _ _ _ (E σ) (hr.make C us kw) (J.env0.make C us kw) bd (r _) hs) fun rr s' q => ?_))
  have z := call_end hx J q
  cases rr with
  | error e => exact z
  | ok fl =>
    cases fl with
    | ret u =>
      obtain ⟨v, H3, I3, rv, ev, q3⟩ := z
      subst ev
      exact ⟨rv, V.ref (s.heap.objs.size + 1), H3, I3, rfl, q3⟩
    | next => exact z
    | brk => exact z
    | cont => exact z
theorem pe_kG (M : L2.Mk X.K C f) (F : FnG X.prog X.w X.K X.mg X.base CX k f fd ps sp) (hgd : X.A.guards = some []) (hr : Room (k + 1) X.A) (hg : Gl X x) (hm : X.mg x = some (.ref C)) (hb : Binds X.K fd ps ds) (hd : Vals dvs ds) (hx : PassS CX X E)
    (ha : PA X (e :: es) t) (hdb : (x == ("__debug__" : Str)) = false := by decide) (he : starEach (e :: es) X.env = (false, eval e X.env) :: starEach es X.env := by rfl) (hpl : (backTo pos (starEach es X.env)).any (·.1) = false := by rfl) :
    PE X (.Call (.Name x p) (e :: es) [] pos) (tMakeE C sp dvs E t) where
  run := fun pins s σ H Q I h => wpAny_Call_Name_kw (ld_glob I hg hm (PySem.W.callWith_K (h₀ := X.base) I.ok.mod.kin M.kp (thn (ha.run pos pins s σ H _ I h) fun us s1 ⟨vs, H1, I1, r, q⟩ =>
    ⟨I1.kIn, makeG (bs := fun y => y :: (us ++ ds)) (bv := fun y => y :: (vs ++ dvs)) M F hgd hr (fun y s' ki hl => bindsAt (vs := .ref y :: vs) (us := .ref y :: us) hb hd ki (.cons rfl r) hl) hx I1 (fun y => .cons rfl (r.append hd)) q⟩) he hpl) hdb)
theorem pe_kG0 (M : L2.Mk X.K C f) (F : FnG X.prog X.w X.K X.mg X.base CX k f fd ps sp) (hgd : X.A.guards = some []) (hr : Room (k + 1) X.A) (hg : Gl X x) (hm : X.mg x = some (.ref C)) (hb : Binds X.K fd ps ds) (hd : Vals dvs ds) (hx : PassS CX X E)
    (hdb : (x == ("__debug__" : Str)) = false := by decide) : PE X (.Call (.Name x p) [] [] pos) (tMakeE C sp dvs E tNil) where
  run := fun pins s σ H Q I h => wpAny_Call_Name_kw (ld_glob I hg hm (PySem.W.callWith_K0 I.kIn M.kp
    (makeG (us := []) (bs := fun y => y :: ([] ++ ds)) (bv := fun y => y :: ([] ++ dvs)) M F hgd hr (fun y s' ki hl => bindsAt (vs := [.ref y]) (us := [.ref y]) hb hd ki (.cons rfl .nil) hl) hx I (fun y => .cons rfl hd) h)) hdb)
end
/-! ### calls by value -/
section
variable {c : Ctx} {ρ : Rho} {S : Sto} {F : D → Sto → Prop} {d : D}
/-- what is wanted of a callee's exception: what the caller wishes, or nothing is raised -/
inductive XOk (c : Ctx) (ρ : Rho) : (L2.St → XK) → (Addr → List (Str × D) → Sto → Prop) → Prop
  | same {Y : Addr → List (Str × D) → Sto → Prop} (h : ∀ C fs S, Y C fs S → c.Y C fs ρ S) : XOk c ρ c.E Y
  | none {E : L2.St → XK} : XOk c ρ E noY
theorem XOk.ok {c : Ctx} {E : L2.St → XK} {Y : Addr → List (Str × D) → Sto → Prop} {ρ : Rho} (x : XOk c ρ E Y) {σ : L2.St} {H : Hp} {S T : Sto} (I : In c σ H ρ S T) :
    ∀ (C : Addr) (y : Option Addr) (fs : List (Str × D)) (S' T' : Sto) (H' : Hp), Mv T H T' H' → Cells c.K H' S' T' → XRep c.K H' T' y fs → Y C fs S' → E σ (.ref C) y H' := by
  cases x with
  | same h => exact fun C y fs S' T' H' m cl x q => I.exc σ ρ C y fs S' T' H' m cl (I.mv m cl).sl x (h C fs S' q)
  | none => exact fun _ _ _ _ _ _ _ _ _ z => z.elim
theorem ve_f {p : Pt} {E : L2.St → XK} {Y} {t : TA} (x : XOk c ρ E Y) (h : VA c t ρ S fun ds S1 => p ds S1 F Y) : VE c (tCallE (spOf c.K p) [] E t) ρ S F := fun T σ H I Q k =>
  h T σ H I _ fun us ds S1 T1 H1 m1 c1 r1 h1 => ⟨ds, S1, T1, F, Y, by rw [List.append_nil]; exact r1, c1, h1, fun v d S2 T2 H2 m2 c2 r2 q => k v d S2 T2 H2 (m1.trans m2) c2 r2 q, x.ok (I.mv m1 c1)⟩
theorem ve_fd {p : Pt} {E : L2.St → XK} {Y} {t : TA} {dvs : List V} {dds : List D} (x : XOk c ρ E Y) (hd : ∀ H T, RepL c.K H T dvs dds) (h : VA c t ρ S fun ds S1 => p (ds ++ dds) S1 F Y) : VE c (tCallE (spOf c.K p) dvs E t) ρ S F := fun T σ H I Q k =>
  h T σ H I _ fun us ds S1 T1 H1 m1 c1 r1 h1 => ⟨ds ++ dds, S1, T1, F, Y, r1.append (hd _ _), c1, h1, fun v d S2 T2 H2 m2 c2 r2 q => k v d S2 T2 H2 (m1.trans m2) c2 r2 q, x.ok (I.mv m1 c1)⟩
/-- an instance, by value or by reference -/
inductive IsI (S : Sto) : D → Addr → List (Str × D) → Prop
  | v {C : Addr} {fs : List (Str × D)} : IsI S (.ins C fs) C fs
  | c {l C : Addr} {fs : List (Str × D)} (h : S l = some (.ins C fs)) : IsI S (.ref l) C fs
theorem IsI.rd {K : PySem.W.Frag} {H : Hp} {T : Sto} {x : D} {C : Addr} {ds : List (Str × D)} {u : V} (h : IsI S x C ds) (cl : Cells K H S T) (r : Rep K H T u x) : ∃ a dx fs, u = .ref a ∧ H a = some (.ins C dx fs) ∧ RepF K H T fs ds := by
  cases h with
  | v => cases r with | ins s h r => exact ⟨_, _, _, rfl, h, r⟩
  | c h => cases r; obtain ⟨dx, fs, h1, r⟩ := cl.ok _ _ (cl.at h); exact ⟨_, dx, fs, rfl, h1, r⟩
theorem ve_fld {ta : TE} {f : Str} (h : VE c ta ρ S fun x S1 => ∃ C fs e, IsI S1 x C fs ∧ Cls c.K C ∧ NoAttr c.K C f ∧ fs.lookup f = some e ∧ F e S1) : VE c (tFld c.K ta f) ρ S F := fun T σ H I Q k =>
  h T σ H I _ fun vx x S1 T1 H1 m1 c1 r1 ⟨C, fs, e, hi, hc, hn, hl, q⟩ => by
    obtain ⟨a, dx, fv, rfl, ha, r⟩ := hi.rd c1 r1
    obtain ⟨v, h1, h2⟩ := r.lookup hl
    exact ⟨a, C, dx, fv, v, rfl, ha, hc, hn, h1, k v e S1 T1 H1 m1 c1 h2 q⟩
theorem vx_fld {ta tv : TE} {f : Str} {nx bk ct : Rho → Sto → Prop} {rt : D → Sto → Prop} (h : VE c tv ρ S fun y S1 => VE c ta ρ S1 fun x S2 => ∃ l C fs, x = .ref l ∧ S2 l = some (.ins C fs) ∧ Cls c.K C ∧ NoAttr c.K C f ∧ fs.length < 1000 ∧ nx ρ (put S2 l (.ins C (putD f y fs)))) :
    VX c (sFld c.K ta tv f) ρ S ⟨nx, rt, bk, ct⟩ := fun T σ H I D b =>
  h T σ H I _ fun vy y S1 T1 H1 m1 c1 r1 h1 => h1 T1 σ H1 (I.mv m1 c1) _ fun vx x S2 T2 H2 m2 c2 r2 ⟨l, C, fs, e, hl, hc, hn, hz, q⟩ => by
    subst e
    cases r2
    obtain ⟨dx, fv, hx, rf⟩ := c2.ok _ _ (c2.at hl)
    have w := mv_wr (H := H2) (d := .ins C (putD f y fs)) (o := .ins C dx (putF f vy fv)) (c2.at hl)
    have cl' : Cells c.K (upd H2 l (.ins C dx (putF f vy fv))) (put S2 l (.ins C (putD f y fs))) (put T2 l (.ins C (putD f y fs))) := c2.wr (c2.at hl) (cell_i upd_same ((RepF.put (r1.mv m2) rf).mv w))
    exact ⟨l, C, dx, fv, rfl, hx, hc, hn, by rw [rf.length]; exact hz, b.nx σ ρ _ _ _ (m1.trans (m2.trans w)) (I.mv (m1.trans (m2.trans w)) cl') q⟩
theorem ve_mt {p : Pt} {E : L2.St → XK} {Y} {ta : TE} {t : TA} {C : Addr} {m : Str} {dvs : List V} {dds : List D} (x : XOk c ρ E Y) (hd : ∀ H T, RepL c.K H T dvs dds)
    (h : VE c ta ρ S fun y S1 => ∃ fs, IsI S1 y C fs ∧ fs.lookup m = none ∧ VA c t ρ S1 fun ds S2 => p (y :: (ds ++ dds)) S2 F Y) : VE c (tMethE C m (spOf c.K p) dvs E ta t) ρ S F := fun T σ H I Q k =>
  h T σ H I _ fun vy y S1 T1 H1 m1 c1 r1 ⟨fs, hi, hl, h1⟩ => by
    obtain ⟨a, dx, fv, rfl, ha, r⟩ := hi.rd c1 r1
    exact ⟨a, dx, fv, rfl, ha, r.lookup_none hl, h1 T1 σ H1 (I.mv m1 c1) _ fun vs ds S2 T2 H2 m2 c2 r2 h2 => ⟨y :: (ds ++ dds), S2, T2, F, Y, .cons (r1.mv m2) (r2.append (hd _ _)), c2, h2, fun v d S3 T3 H3 m3 c3 r3 q => k v d S3 T3 H3 (m1.trans (m2.trans m3)) c3 r3 q, x.ok (I.mv (m1.trans m2) c2)⟩⟩
/-- a new instance: by reference -/
theorem ve_mk {p : Pt} {E : L2.St → XK} {Y} {t : TA} {C : Addr} {dvs : List V} {dds : List D} (x : XOk c ρ E Y) (hd : ∀ H T, RepL c.K H T dvs dds)
    (h : VA c t ρ S fun ds S1 => ∀ y, S1 y = none → p (.ref y :: (ds ++ dds)) (put S1 y (.ins C [])) (fun d S2 => d = .non ∧ F (.ref y) S2) Y) : VE c (tMakeE C (spOf c.K p) dvs E t) ρ S F := fun T σ H I Q k =>
  h T σ H I _ fun vs ds S1 T1 H1 m1 c1 r1 h1 => fun y dx hy hdx ne => by
    have hy2 : upd H1 dx (.own y) y = none := by rw [upd_ne (Ne.symm ne)]; exact hy
    have n1 : Mv T1 H1 T1 (upd H1 dx (.own y)) := mv_new hdx
    have n2 := mv_newc (S := T1) (d := .ins C []) (o := .ins C dx []) hy2
    have cl := (c1.new (o := .own y) hdx).newc (d := .ins C []) (o := .ins C dx []) hy2 (cell_i upd_same .nil)
    refine ⟨.ref y :: (ds ++ dds), put S1 y (.ins C []), put T1 y (.ins C []), _, Y, .cons (.ref y) ((r1.mv (n1.trans n2)).append (hd _ _)), cl, h1 y (c1.freeS hy), fun v d S3 T3 H3 m3 c3 r3 ⟨ed, q⟩ => ?_, x.ok (I.mv (m1.trans (n1.trans n2)) cl)⟩
    subst ed
    cases r3
    exact ⟨rfl, k _ _ S3 T3 H3 (m1.trans (n1.trans (n2.trans m3))) c3 (.ref y) q⟩
end
end VS
namespace VS
open PySem L2 C8 PySem.Spec PyProof.Rows
/-! ### what is shown: repr, == of data -/
mutual
def pd : D → PyData
  | .non => .none
  | .bl b => .bool b
  | .int i => .int i
  | .str x => .str x
  | .rol xs => .list (pdL xs)
  | .lst xs => .list (pdL xs)
  | .tup xs => .tuple (pdL xs)
  | .dK kvs => .dict (pdK kvs)
  | _ => .none
def pdL : List D → List PyData
  | [] => []
  | x :: xs => pd x :: pdL xs
def pdK : List (Key × D) → List (PyData × PyData)
  | [] => []
  | (k, x) :: xs => ((match k with | .inl i => .int i | .inr z => .str z), pd x) :: pdK xs
end
mutual
def isP : D → Bool
  | .non => true
  | .bl _ => true
  | .int _ => true
  | .str _ => true
  | .lst xs => isPL xs
  | .tup xs => isPL xs
  | .dK kvs => isPK kvs
  | _ => false
def isPL : List D → Bool
  | [] => true
  | x :: xs => isP x && isPL xs
def isPK : List (Key × D) → Bool
  | [] => true
  | (_, x) :: xs => isP x && isPK xs
end
/-- sys.modules is one of the base's objects -/
def SysOk (base : Heap) : Prop := ∃ o, base.get? sysModules = some o
section
variable {X : Cx} {pins : List (Addr × Obj)} {σ : L2.St} {H : Hp} {s : Shared} {T : Sto}
theorem SysOk.ne (hs : SysOk X.base) (I : Inv X pins σ H s) {a : Addr} {o : HO} (h : H a = some o) : sysModules ≠ a := fun e => by
  obtain ⟨ob, hb⟩ := hs
  have q := (I.bs _ _ hb).2
  rw [e, h] at q
  cases q
mutual
/-- told apart from what is known by reference -/
theorem Rep.any {K : PySem.W.Frag} {H : Hp} {S : Sto} : ∀ {v : V} {d : D}, Rep K H S v d → Rep K H (fun _ => none) v d
  | _, _, .non => .non
  | _, _, .bl b => .bl b
  | _, _, .int i => .int i
  | _, _, .str x => .str x
  | _, _, .ty n => .ty n
  | _, _, .ref a => .ref a
  | _, _, .rol s h r => .rol rfl h (RepL.any r)
  | _, _, .rolK h r => .rolK h (RepL.any r)
  | _, _, .lst s h r => .lst rfl h (RepL.any r)
  | _, _, .tup s h r => .tup rfl h (RepL.any r)
  | _, _, .tupK h r => .tupK h (RepL.any r)
  | _, _, .dK s h r => .dK rfl h (RepK.any r)
  | _, _, .ins s h r => .ins rfl h (RepF.any r)
  | _, _, .xcp s h r => .xcp rfl h (RepF.any r)
  | _, _, .xv s h s2 h2 r => .xv rfl h rfl h2 (RepF.any r)
theorem RepL.any {K : PySem.W.Frag} {H : Hp} {S : Sto} : ∀ {vs : List V} {ds : List D}, RepL K H S vs ds → RepL K H (fun _ => none) vs ds
  | _, _, .nil => .nil
  | _, _, .cons h t => .cons (Rep.any h) (RepL.any t)
theorem RepK.any {K : PySem.W.Frag} {H : Hp} {S : Sto} : ∀ {vs : List (Key × V)} {ds : List (Key × D)}, RepK K H S vs ds → RepK K H (fun _ => none) vs ds
  | _, _, .nil => .nil
  | _, _, .cons h t => .cons (Rep.any h) (RepK.any t)
theorem RepF.any {K : PySem.W.Frag} {H : Hp} {S : Sto} : ∀ {vs : List (Str × V)} {ds : List (Str × D)}, RepF K H S vs ds → RepF K H (fun _ => none) vs ds
  | _, _, .nil => .nil
  | _, _, .cons h t => .cons (Rep.any h) (RepF.any t)
end
mutual
theorem Rep.reads (hs : SysOk X.base) (I : Inv X pins σ H s) : ∀ (d : D) (v : V) (u : Value), Rep X.K H T v d → isP d = true → L2.RelV v u → ∃ as, Reads s.heap u (pd d) as ∧ sysModules ∉ as
  | .non, _, _, h, _, r => by cases h; cases r; exact ⟨[], .none, by simp⟩
  | .bl b, _, _, h, _, r => by cases h; cases r; exact ⟨[], .bool b, by simp⟩
  | .int i, _, _, h, _, r => by cases h; obtain ⟨t, rfl⟩ := r; exact ⟨[], .int i t, by simp⟩
  | .str x, _, _, h, _, r => by cases h; obtain ⟨t, rfl⟩ := r; exact ⟨[], .str x t, by simp⟩
  | .lst ds, _, _, h, hp, r => by
    cases h with
    | lst st h rl =>
      cases r
      obtain ⟨its, rv, ⟨o, n, ho, hc, _, hd⟩, _⟩ := I.list (SqL.of h)
      obtain ⟨as, hr, hn⟩ := RepL.reads hs I ds _ its rl hp rv
      exact ⟨_, .list ho hc hd hr, by simp only [List.mem_cons, not_or]; exact ⟨hs.ne I h, hn⟩⟩
  | .tup ds, _, _, h, hp, r => by
    cases h with
    | tup st h rl =>
      cases r
      obtain ⟨its, rv, ⟨o, ho, hc, n, hd⟩, _⟩ := I.tuple (SqT.of h)
      obtain ⟨as, hr, hn⟩ := RepL.reads hs I ds _ its rl hp rv
      exact ⟨_, .tuple ho hc hd hr, hn⟩
    | tupK h rl =>
      cases r
      obtain ⟨its, rv, ⟨o, ho, hc, n, hd⟩, _⟩ := I.tuple (.inr h)
      obtain ⟨as, hr, hn⟩ := RepL.reads hs I ds _ its rl hp rv
      exact ⟨_, .tuple ho hc hd hr, hn⟩
  | .dK ds, _, _, h, hp, r => by
    cases h with
    | dK st h rk =>
      cases r
      obtain ⟨_, _, vs, kv, o, es, ep, ho, ex, hd, _, pr, _⟩ := h.ok I.hok
      obtain ⟨as, h1, h2, hn⟩ := RepK.reads hs I ds _ vs es.toList rk hp kv pr
      refine ⟨_, .dict ho ex.1 hd h1 h2, ?_⟩
      simp only [List.append_nil, List.mem_cons, List.mem_append, not_or]
      exact ⟨⟨h.elim (fun h => hs.ne I h) fun ⟨_, h⟩ => hs.ne I h, List.not_mem_nil⟩, hn⟩
  | .ty _, _, _, _, hp, _ => by cases hp
  | .ref _, _, _, _, hp, _ => by cases hp
  | .rol _, _, _, _, hp, _ => by cases hp
  | .hid, _, _, _, hp, _ => by cases hp
  | .ins _ _, _, _, _, hp, _ => by cases hp
  | .xcp _ _ _ _, _, _, _, hp, _ => by cases hp
  | .xv _ _, _, _, _, hp, _ => by cases hp
theorem RepL.reads (hs : SysOk X.base) (I : Inv X pins σ H s) : ∀ (ds : List D) (vs : List V) (us : List Value), RepL X.K H T vs ds → isPL ds = true → L2.Vals vs us → ∃ as, ReadsAll s.heap us (pdL ds) as ∧ sysModules ∉ as
  | [], _, _, h, _, r => by cases h; cases r; exact ⟨[], .nil, by simp⟩
  | d :: ds, _, _, h, hp, r => by
    have hp' : (isP d && isPL ds) = true := hp
    rw [Bool.and_eq_true] at hp'
    cases h with
    | cons h t =>
      cases r with
      | cons r1 r2 =>
        obtain ⟨as, q1, n1⟩ := Rep.reads hs I d _ _ h hp'.1 r1
        obtain ⟨bs, q2, n2⟩ := RepL.reads hs I ds _ _ t hp'.2 r2
        exact ⟨_, .cons q1 q2, by simp only [List.mem_append, not_or]; exact ⟨n1, n2⟩⟩
theorem RepK.reads (hs : SysOk X.base) (I : Inv X pins σ H s) : ∀ (ds : List (Key × D)) (vs : List (Key × V)) (us : List (Key × Value)) (es : List DictEntry), RepK X.K H T vs ds → isPK ds = true → KV vs us → Pairs (mixKind X.prog X.w) es us →
    ∃ as, ReadsAll s.heap (es.map (·.key)) ((pdK ds).map (·.1)) [] ∧ ReadsAll s.heap (es.map (·.val)) ((pdK ds).map (·.2)) as ∧ sysModules ∉ as
  | [], _, _, _, h, _, r, p => by cases h; cases r; cases p; exact ⟨[], .nil, .nil, by simp⟩
  | (k, d) :: ds, _, _, _, h, hp, r, p => by
    have hp' : (isP d && isPK ds) = true := hp
    rw [Bool.and_eq_true] at hp'
    cases h with
    | cons h t =>
      cases r with
      | cons r1 r2 =>
        cases p with
        | @cons e kv es kvs p1 p2 p3 =>
          obtain ⟨ek, er⟩ := r1
          obtain ⟨as, q1, n1⟩ := Rep.reads hs I d _ _ h hp'.1 er
          obtain ⟨bs, q2, q3, n2⟩ := RepK.reads hs I ds _ _ _ t hp'.2 r2 p3
          have kk : keyIs k e.key = true := by
            have ek' := ek
            dsimp only at ek'
            rw [ek']
            exact p1
          refine ⟨as ++ bs, ?_, ?_, by simp only [List.mem_append, not_or]; exact ⟨n1, n2⟩⟩
          · rcases keyIs_shape kk with ⟨i, t, e1, e2⟩ | ⟨x, t, e1, e2⟩
            · subst e1
              rw [List.map_cons, e2]
              exact ReadsAll.cons (as := []) (bs := []) (.int i t) q2
            · subst e1
              rw [List.map_cons, e2]
              exact ReadsAll.cons (as := []) (bs := []) (.str x t) q2
          · rw [List.map_cons, p2]
            exact ReadsAll.cons q1 q3
end
end
def rRepr (K : PySem.W.Frag) : CR1 := fun xs H Q => ∃ (v : V) (d : D) (T : Sto), xs = [v] ∧ Rep K H T v d ∧ isP d = true ∧ (pd d).showable = true ∧ (pd d).shown.length ≤ sizeLine ∧ (pd d).depth ≤ 50 ∧ Q (.str (pd d).shown) H
def rEqP (K : PySem.W.Frag) : R2 := fun x y H Q => ∃ (d e : D) (T : Sto), Rep K H T x d ∧ Rep K H T y e ∧ isP d = true ∧ isP e = true ∧ SeqAt.shaped (pd d) = true ∧ SeqAt.shaped (pd e) = true ∧ Q (.bl (PyData.eqv (pd d) (pd e))) H
section
variable {X : Cx} {k : Nat}
theorem repr_any {pins : List (Addr × Obj)} {σ : L2.St} {H : Hp} {s : Shared} {Q : VK} {u : Value} {d : PyData} {as : List Addr} (hgd : X.A.guards = some []) (hr : Room k X.A) (I : Inv X pins σ H s) (rd : Reads s.heap u d as) (hn : sysModules ∉ as)
    (sh : d.showable = true) (sz : d.shown.length ≤ sizeLine) (dp : d.depth ≤ 50) (q : Q (.str d.shown) H) : wpAny (model X.prog X.w) X.A (call (.builtin "repr") [u]) (EP X pins σ Q) X.xe s := by
  have hu : X.A.units + (d.depth + 1) < cLine := Nat.lt_of_le_of_lt (by omega) hr.units
  have whole : ∀ a, u = .ref a → wpAny (model X.prog X.w) X.A (call (.builtin "repr") [u]) (EP X pins σ Q) X.xe s := fun a e => by
    subst e
    exact repr_of_reads' rd sh (fun _ => hn) hgd hu (fun _ _ e => e) (fun h' u tk hk => ⟨.str d.shown, H, I.kept hk, ⟨_, rfl⟩, q⟩) sz
  cases rd with
  | none => exact PySem.P.repr_of_none ⟨.str (PyData.shown .none), H, I.tok _, ⟨_, rfl⟩, q⟩
  | bool b => exact PySem.P.repr_of_bool ⟨.str (PyData.shown (.bool b)), H, I.tok _, ⟨_, rfl⟩, q⟩
  | int i t => exact PySem.P.repr_of_int (of_decide_eq_true sh) ⟨.str (PyData.shown (.int i)), H, I.tok _, ⟨_, rfl⟩, q⟩
  | str x t => exact PySem.P.repr_of_str ⟨.str (PyData.shown (.str x)), H, I.tok _, ⟨_, rfl⟩, q⟩ sz
  | list h1 h2 h3 h4 => exact whole _ rfl
  | tuple h1 h2 h3 h4 => exact whole _ rfl
  | dict h1 h2 h3 h4 h5 => exact whole _ rfl
theorem c_repr (hgd : X.A.guards = some []) (hr : Room k X.A) (hs : SysOk X.base) : CallR X (.builtin "repr") (rRepr X.K) := by
  intro pins s σ H xs us Q I r h
  obtain ⟨v, d, T, rfl, rp, ip, sh, sz, dp, q⟩ := h
  obtain ⟨u, rfl, rv⟩ := vals1 r
  obtain ⟨as, rd, hn⟩ := Rep.reads hs I d v u rp ip rv
  exact repr_any hgd hr I rd hn sh sz dp q
theorem op_eqP (hr : Room k X.A) (hs : SysOk X.base) : OpR X (compareOp .Eq) (rEqP X.K) := by
  intro pins s σ H x y v u Q I rx ry h
  obtain ⟨d, e, T, r1, r2, i1, i2, s1, s2, q⟩ := h
  obtain ⟨as, h1, _⟩ := Rep.reads hs I d x v r1 i1 rx
  obtain ⟨bs, h2, _⟩ := Rep.reads hs I e y u r2 i2 ry
  exact SeqAt.compareEq_shaped h1 h2 s1 s2 hr.units ⟨.bl _, H, I, rfl, q⟩
end
section
variable {c : Ctx} {ρ : Rho} {S : Sto} {F : D → Sto → Prop}
/-- d, its cells read: what x is when all is known by value -/
inductive Vw (S : Sto) : D → D → Prop
  | v {d : D} : Vw S d d
  | c {l : Addr} {d : D} (h : S l = some d) (n : d ≠ .hid) : Vw S (.ref l) d
theorem Vw.rd {K : PySem.W.Frag} {H : Hp} {T : Sto} {x d : D} {u : V} (h : Vw S x d) (cl : Cells K H S T) (r : Rep K H T u x) : ∃ T', Mk T H T' H ∧ Rep K H T' u d := by
  cases h with
  | v => exact ⟨T, Mv.refl.toMk, r⟩
  | c h n => cases r; exact ⟨_, (mv_del (cl.nohid h n)).toMk, cl.rep (cl.at h) (cl.nohid h n)⟩
theorem rv_eqP {x y d e : D} (h1 : Vw S x d) (h2 : Vw S y e) (i1 : isP d = true) (i2 : isP e = true) (s1 : SeqAt.shaped (pd d) = true) (s2 : SeqAt.shaped (pd e) = true) (q : F (.bl (PyData.eqv (pd d) (pd e))) S) : RV c (rEqP c.K) x y S F := fun T u w H cl r1 r2 Q k => by
  obtain ⟨T1, m1, q1⟩ := h1.rd cl r1
  obtain ⟨T2, m2, q2⟩ := h2.rd cl r2
  exact ⟨d, e, fun _ => none, q1.any, q2.any, i1, i2, s1, s2, k _ _ S T H Mv.refl cl (.bl _) q⟩
end
/-! ### the law's own call -/
/-- the law's promise by value: told True, of any script -/
theorem law_val {P : Program} {w : World} {K : PySem.W.Frag} {mg mb : Str → Option Value} {CX : CXT} {k : Nat} {fa a : Addr} {fd : FuncData} {x : Str} {p : Pt} {s1 : Shared} {vs : List Value} {ns : List Int}
    (kin : K.In s1.heap) (hmg : s1.heap.Ns mainGlobals mg) (hmb : s1.heap.Ns builtinsNs mb) (boot : ∀ x : Str, x ≠ "__name__" → mb x = bootBuiltins x) (nolim : s1.heap.NoLimit) (sys : ∃ mm, s1.heap.Ns sysModules mm) (gens : s1.gens = #[])
    (ha : s1.heap.get? a = some { cls := .type "list", data := .seq vs.toArray }) (hi : IntsAre vs ns) (hl : ns.length ≤ sizeLine) (room : Room k callerA)
    (F : ∀ base : Heap, K.In base → base.Ns mainGlobals mg → SysOk base → FnG P w K mg base CX k fa fd [x] (spOf K p)) (bd : ∀ (s : Shared) (u : Value), BindsTo s fd ⟨[u], []⟩ [(x, u)])
    (hp : p [.rol (ns.map .int)] (fun _ => none) (fun d _ => d = .bl true) noY) (noexc : ∀ H e s', CX [] H s1 (fun _ _ _ => False) e s' → False) :
    codeAny (model P w) callerA (.call (.ref fa) ⟨[.ref a], []⟩) (fun r s' => r = .ok (.ret (.bool true)) ∧ OldK s1.heap s'.heap ∧ s'.os = s1.os ∧ AllBare s'.gens) s1 := by
  have iv := vals_ints hi
  -- whichever way the script is known: H tells it, and nothing else
  suffices go : ∀ H : Hp, (∀ b u, H b = some u → b = a ∧ u = .frz { cls := .type "list", data := .seq vs.toArray } (.lst (ns.map V.int))) → (H a ≠ none → K.lookup a = none) → Rep K H (fun _ => none) (.ref a) (.rol (ns.map .int)) →
      codeAny (model P w) callerA (.call (.ref fa) ⟨[.ref a], []⟩) (fun r s' => r = .ok (.ret (.bool true)) ∧ OldK s1.heap s'.heap ∧ s'.os = s1.os ∧ AllBare s'.gens) s1 by
    cases hk : K.lookup a with
    | none =>
      refine go (fun b => if b = a then some (.frz { cls := .type "list", data := .seq vs.toArray } (.lst (ns.map V.int))) else none) (fun b u z => ?_) (fun _ => hk) (.rol rfl (if_pos rfl) RepL.ofInts)
      by_cases e : b = a
      · have z' := (if_pos e).symm.trans z
        cases z'
        exact ⟨e, rfl⟩
      · have z' := (if_neg e).symm.trans z
        cases z'
    | some o =>
      have e := kin a o hk
      rw [ha] at e
      cases e
      exact go (fun _ => none) (fun b u z => by cases z) (fun z => absurd rfl z) (.rolK ⟨_, vs.toArray, _, hk, rfl, rfl, rfl, by simpa [hi.length] using hl, by simpa using iv⟩ RepL.ofInts)
  intro H only apart rep
  have kept : ∀ {b : Addr} {o : Obj}, s1.heap.get? b = some o → b ≠ a → (hidT s1.heap H).get? b = some o := fun {b o} e n => hidT_get e (by
    cases q : H b with
    | none => rfl
    | some u => exact absurd (only b u q).1 n)
  have nsk : ∀ {b : Addr} {m : Str → Option Value}, s1.heap.Ns b m → (hidT s1.heap H).Ns b m := fun {b m} ⟨o, es, ep, e, d, r⟩ => ⟨o, es, ep, kept e (fun z => by
    subst z
    rw [ha] at e
    have e2 := Option.some.inj e
    rw [← e2] at d
    cases d), d, r⟩
  have kinB : K.In (hidT s1.heap H) := fun b o e => hidT_get (kin b o e) (by
    cases q : H b with
    | none => rfl
    | some u =>
      have z := (only b u q).1
      subst z
      rw [apart (by rw [q]; simp)] at e
      cases e)
  have hok : HOk P w H s1.heap := fun b u z => by
    obtain ⟨e1, e2⟩ := only b u z
    subst e1 e2
    exact ⟨ha, by simpa using hl, vs, _, iv, ha⟩
  have sysB : SysOk (hidT s1.heap H) := by
    obtain ⟨mm, h⟩ := sys
    obtain ⟨o, _, _, e, _⟩ := nsk h
    exact ⟨o, e⟩
  have mod : Mod K mg (hidT s1.heap H) := ⟨kinB, nsk hmg, ⟨mb, nsk hmb, boot⟩, by obtain ⟨mc, h1, h2⟩ := nolim; exact ⟨mc, nsk h1, h2⟩⟩
  have en : Env0 P w K mg (hidT s1.heap H) callerA [] s1 H := ⟨rfl, mod, fun b o e => of_hidT e, Nat.le_of_eq (hidT_size _ _), trivial, fun b hb => absurd (show b ∈ ([] : List Addr) from hb) (by simp), hok, .of_eq gens⟩
  have cells : Cells K H (fun _ => none) (fun _ => none) := ⟨fun _ => .inl ⟨rfl, by simp⟩, fun _ _ z => by cases z⟩
  have told : spOf K p [.ref a] H (fun v _ => v = .bl true) (fun _ _ _ => False) := ⟨_, _, _, _, _, .cons rep .nil, cells, hp, fun v d S' T' H' _ _ r e => by subst e; cases r; rfl, fun _ _ _ _ _ _ _ _ _ z => z.elim⟩
  refine codeAny_mono ((F _ kinB (nsk hmg) sysB).run callerA rfl [] s1 H ⟨[.ref a], []⟩ [.ref a] [.ref a] _ _ room en (bd s1 (.ref a)) (.cons rfl .nil) told) fun r s' h => ?_
  cases r with
  | error e => exact (noexc H e s' h).elim
  | ok fl =>
    cases fl with
    | next => exact False.elim h
    | brk => exact False.elim h
    | cont => exact False.elim h
    | ret u =>
      obtain ⟨v, H', os, bare, un, hok', rv, q⟩ := h
      have q' : v = .bl true := q
      subst q'
      cases rv
      refine ⟨rfl, OldK.of_keep fun b o e => ?_, os, bare⟩
      cases z : H b with
      | none => exact un.keep b o e z (fun m => absurd (show b ∈ ([] : List Addr) from m) (by simp)) (by simp)
      | some u =>
        obtain ⟨e1, e2⟩ := only b u z
        subst e2
        have f1 := (hok b _ z).1
        have f2 := (hok' b _ (un.frzs b _ _ z)).1
        rw [e] at f1
        cases f1
        exact f2
/-- the goal that k_head leaves, from the law's promise by value -/
theorem walk_val {l : PySem.W.OpenLaw} {n k : Nat} {q : Program} {loose : List Str} {XP : (Str → Option Value) → Heap → Prop} {YP : World → Heap → Prop} {d : DefRec} {K : Params → PySem.W.Frag} {CX : World → CXT} {p : PySem.W.Frag → Pt} {x : Str}
    (hn : l.most = some n) (hn2 : n ≤ sizeLine) (hdf : d.params.defaults = []) (room : Room k callerA) (noimp : importsNone q = true) (hY : ∀ (w : World) (h : Heap), YP w h → (K w.params).In h)
    (F : ∀ (w : World) (mg : Str → Option Value) (fa : Addr) (h : Heap), (K w.params).In h → h.Ns mainGlobals mg → mg d.name = some (.ref fa) →
      ∃ fd : FuncData, (∀ (s : Shared) (u : Value), BindsTo s fd ⟨[u], []⟩ [(x, u)]) ∧ ∀ base : Heap, (K w.params).In base → base.Ns mainGlobals mg → SysOk base → FnG l.prog w (K w.params) mg base (CX w) k fa fd [x] (spOf (K w.params) (p (K w.params))))
    (hp : ∀ (K : PySem.W.Frag) (ns : List Int), ns.length ≤ n → p K [.rol (ns.map .int)] (fun _ => none) (fun d _ => d = .bl true) noY) (noexc : ∀ (w : World) (H : Hp) (s : Shared) (e : Value) (s' : Shared), CX w [] H s (fun _ _ _ => False) e s' → False) :
    PySem.W.WalkO q loose XP YP l.row.toRowW d [] (fun f vs => PySem.call f vs) :=
  Att.attach_call hn hdf fun w s₀ s₁ mg mb fa o pm cd doc a vs ns G Y ho hd hcd hmg hobj hints hlen hg => by
    obtain ⟨fd, hb, hF⟩ := F w mg fa _ (hY w _ Y) G.T.g hmg
    exact law_val (hY w _ Y) G.T.g G.T.b G.T.builtins G.T.nolimit (let ⟨mm, h, _⟩ := (G.T.seer noimp).mods; ⟨mm, h⟩) hg hobj hints (Nat.le_trans hlen hn2) room hF hb (hp _ ns hlen) fun H e s' => noexc w H s₁ e s'
end VS
namespace VS
open PySem L2 C8 PySem.Spec PyProof.Rows
/-! ### a def that may be called -/
structure Cf (P : Program) (w : World) (K : PySem.W.Frag) (mg : Str → Option Value) (base : Heap) (CX : CXT) (k : Nat) (x : Str) (st : Stmt) (dvs : List V) (ps : List Str) (p : Pt) (f : Addr) (fd : FuncData) : Prop where
  fn : FnG P w K mg base CX k f fd ps (spOf K p)
  df : Fd K x x st dvs f fd
  mg : mg x = some (.ref f)
  b : Binds K fd ps []
theorem Cf.kp {P : Program} {w : World} {K : PySem.W.Frag} {mg : Str → Option Value} {base : Heap} {CX : CXT} {k : Nat} {x : Str} {st : Stmt} {dvs : List V} {ps : List Str} {p : Pt} {f : Addr} {fd : FuncData} (c : Cf P w K mg base CX k x st dvs ps p f fd) : PySem.W.keepIn K (.ref f) = true := c.df.kp
theorem Cf.v {P : Program} {w : World} {K : PySem.W.Frag} {mg : Str → Option Value} {base : Heap} {CX : CXT} {k : Nat} {x : Str} {st : Stmt} {dvs : List V} {ps : List Str} {p : Pt} {f : Addr} {fd : FuncData} (_ : Cf P w K mg base CX k x st dvs ps p f fd) : Vals [] [] := .nil
/-- arguments by their places among the written ones -/
def pick {α : Type} (idx : List Nat) (us ws : List α) : List α := idx.filterMap fun i => (us ++ ws)[i]?
section
variable {c : Ctx} {ρ : Rho} {S : Sto} {F : D → Sto → Prop} {d : D}
/-! ### the branches of a test -/
theorem br {p A B : Prop} [Decidable p] (h1 : p → A) (h2 : ¬ p → B) : (decide p = true → A) ∧ (decide p = false → B) := ⟨fun h => h1 (of_decide_eq_true h), fun h => h2 (of_decide_eq_false h)⟩
theorem brN {p A B : Prop} [Decidable p] (h1 : ¬ p → A) (h2 : p → B) : ((!decide p) = true → A) ∧ ((!decide p) = false → B) := ⟨fun h => h1 (by simpa using h), fun h => h2 (by simpa using h)⟩
theorem brB {b : Bool} {A B : Prop} (h1 : b = false → A) (h2 : b = true → B) : ((!b) = true → A) ∧ ((!b) = false → B) := ⟨fun h => h1 (by simpa using h), fun h => h2 (by simpa using h)⟩
theorem brT {b : Bool} {A B : Prop} (h : b = true) (a : A) : (b = true → A) ∧ (b = false → B) := ⟨fun _ => a, fun z => (by rw [h] at z; cases z)⟩
theorem brF {b : Bool} {A B : Prop} (h : b = false) (a : B) : (b = true → A) ∧ (b = false → B) := ⟨fun z => (by rw [h] at z; cases z), fun _ => a⟩
/-- [e for x in xs], each by itself -/
theorem ve_lcM (f : D → D) {wi : TI} {g : TG} {tt : TT} {te : TE} {vs : List Nat}
    (h : VI c wi ρ S fun ds S1 => ds.length ≤ 100000 ∧ (∀ d ∈ ds, VGw c vs g d (wipeR ρ vs) S1 fun ρ3 S3 => VT c tt ρ3 S3 fun b S4 => b = true ∧ VE c te ρ3 S4 fun y S5 => y = f d ∧ S5 = S1) ∧ F (.lst (ds.map f)) S1) : VE c (tLc wi g tt te vs) ρ S F := by
  refine ve_lc (fun T σ H I R k => h T σ H I R fun J ds S1 T1 H1 m1 c1 w ⟨h1, h2, h3⟩ => k J ds S1 T1 H1 m1 c1 w ⟨h1, fun i acc S2 => acc = (ds.take i).map f ∧ S2 = S1, ⟨rfl, rfl⟩, ?_, ?_⟩)
  · rintro i d acc S2 hd ⟨e1, rfl⟩ hl T0 u0 σ0 H0 I0 r0 Q0 k0
    refine h2 d (List.mem_of_getElem? hd) T0 u0 σ0 H0 I0 r0 Q0 fun σ' ρ' S' T' H' hw m I' q => k0 σ' ρ' S' T' H' hw m I' ?_
    refine q.imp fun b S4 ⟨hb, hv⟩ => ?_
    subst hb
    refine ⟨fun _ => hv.imp fun y S5 ⟨e2, e3⟩ => ⟨?_, e3⟩, fun z => by cases z⟩
    rw [List.take_succ, hd, e1, e2, List.map_append] <;> rfl
  · rintro acc S2 ⟨e1, rfl⟩ _
    rw [List.take_length] at e1
    rw [e1]
    exact h3
theorem ex_bl {b : Bool} {G : Bool → Prop} (h : G b) : ∃ k, D.bl b = D.bl k ∧ G k := ⟨b, rfl, h⟩
theorem ex_ref {b : Addr} {G : Addr → Prop} (h : G b) : ∃ k, D.ref b = D.ref k ∧ G k := ⟨b, rfl, h⟩
theorem ex_str {b : Str} {G : Str → Prop} (h : G b) : ∃ k, D.str b = D.str k ∧ G k := ⟨b, rfl, h⟩
theorem ex_int {b : Int} {G : Int → Prop} (h : G b) : ∃ k, D.int b = D.int k ∧ G k := ⟨b, rfl, h⟩
theorem cpow {i j : Int} (h0 : 0 ≤ j) (h1 : j ≤ 1000000) (h2 : i.natAbs < 2 ^ 64) : CPow i j := ⟨h0, h1, h2⟩
theorem cmulW {i j : Int} (a : i.natAbs < 2 ^ 64) (b : j.natAbs < 2 ^ 64) : CMulW i j := wide_mul a b (by decide) (by decide) (by decide)
theorem cdivW {i j : Int} (a : 0 < j) (b : j < 2 ^ 128) : CDivW i j := wide_div (b := 128) a (by omega) (by decide) (by decide)
end
end VS
namespace VS
open PySem L2 C8 PySem.Spec PyProof.Rows
theorem szl : 1000000 ≤ sizeLine := by decide
/-! ### texts of plain signs -/
def Asc (n : Nat) (z : Str) : Prop := z.length ≤ n ∧ ∀ c ∈ z.cps.toList, c < 128
theorem str_len (z : Str) : z.cps.toList.length = z.length := Array.length_toList
theorem Asc.mono {n m : Nat} {z : Str} (h : Asc n z) (l : n ≤ m) : Asc m z := ⟨Nat.le_trans h.1 l, h.2⟩
theorem tl_add (x y : Str) : (x ++ y).cps.toList = x.cps.toList ++ y.cps.toList := TL.tl_append x y
theorem len_add (x y : Str) : (x ++ y).length = x.length + y.length := by
  rw [← str_len, ← str_len, ← str_len, tl_add, List.length_append]
theorem Asc.add {n m : Nat} {x y : Str} (h : Asc n x) (k : Asc m y) : Asc (n + m) (x ++ y) := by
  refine ⟨by rw [len_add]; exact Nat.add_le_add h.1 k.1, fun c hc => ?_⟩
  rw [tl_add] at hc
  exact (List.mem_append.mp hc).elim (h.2 c) (k.2 c)
theorem Asc.cut {n : Nat} {x : Str} (h : Asc n x) (lo hi : Option Int) : Asc n (cutS x lo hi) := by
  refine ⟨Nat.le_trans (cutS_length x lo hi) h.1, fun c hc => h.2 c ?_⟩
  have hc' : c ∈ (x.cps.toList.drop (HT.sIx x.length 0 lo)).take (HT.sIx x.length x.length hi - HT.sIx x.length 0 lo) := hc
  exact List.mem_of_mem_drop (List.mem_of_mem_take hc')
theorem tl_join0 (ys : List Str) : (Txt.join ("" : Str) ys).cps.toList = (ys.map fun y => y.cps.toList).flatten := by
  have e : (Txt.join ("" : Str) ys).cps.toList = TL.joinL (TL.tl ("" : Str)) (ys.map TL.tl) := (congrArg TL.tl (TL.join_eq ("" : Str) ys)).trans (TL.tl_join ("" : Str) ys)
  rw [e]
  have e0 : TL.tl ("" : Str) = [] := by decide +kernel
  rw [e0]
  have g : ∀ L : List (List Nat), TL.joinL [] L = L.flatten := by
    intro L
    induction L with
    | nil => rfl
    | cons p L ih =>
      cases L with
      | nil => simp [TL.joinL]
      | cons q r =>
        show p ++ ([] ++ TL.joinL [] (q :: r)) = _
        rw [ih]
        simp
  exact g _
theorem Asc.join0 {n : Nat} {ys : List Str} (h : ∀ y ∈ ys, Asc 1 y) (hl : ys.length ≤ n) : Asc n (Txt.join ("" : Str) ys) := by
  refine ⟨?_, fun c hc => ?_⟩
  · rw [← str_len, tl_join0, List.length_flatten, List.map_map]
    refine Nat.le_trans ?_ hl
    clear hl
    induction ys with
    | nil => exact Nat.le_refl _
    | cons y ys ih =>
      rw [List.map_cons, List.sum_cons, List.length_cons]
      have a := (h y (List.mem_cons_self ..)).1
      rw [← str_len] at a
      have b := ih fun z hz => h z (List.mem_cons_of_mem _ hz)
      show y.cps.toList.length + _ ≤ _
      omega
  · rw [tl_join0] at hc
    obtain ⟨l, hl1, hl2⟩ := List.mem_flatten.mp hc
    obtain ⟨y, hy, rfl⟩ := List.mem_map.mp hl1
    exact (h y hy).2 c hl2
theorem tl_numT (n : Nat) : (Str.ofString (toString ((n : Nat) : Int))).cps.toList = TL.numL n := TL.tl_num n
theorem Asc.one {n : Nat} (h : n < 128) : Asc 1 ⟨#[n]⟩ := ⟨Nat.le_refl _, fun c hc => by
  have : c = n := by simpa using hc
  omega⟩
theorem Asc.at {n i : Nat} {z : Str} (h : Asc n z) (hi : i < z.length) : ∃ c, atI z.cps.toList (i : Int) = some c ∧ c < 128 := by
  rw [← str_len] at hi
  exact ⟨z.cps.toList[i], atI_nat (List.getElem?_eq_getElem hi), h.2 _ (List.getElem_mem hi)⟩
theorem log_lt {i : Int} {k : Nat} (h : i.natAbs < 2 ^ k) (hk : 0 < k) : i.natAbs.log2 < k := by
  by_cases z : i.natAbs = 0
  · rw [z]
    simpa using hk
  · exact (Nat.log2_lt z).mpr h
theorem rc_strI64 {c : Ctx} {S : Sto} {F : D → Sto → Prop} {i : Int} (h : i.natAbs < 2 ^ 64) (q : F (.str (Str.ofString (toString i))) S) : RC c rStrInt [.int i] S F := rc_strI (Nat.lt_trans (log_lt h (by decide)) (by decide)) q
end VS
namespace VS
open PySem L2 C8 PySem.Spec PyProof.Rows
/-! ### enumerate over a text -/
end VS
namespace VS
open PySem L2 C8 PySem.Spec PyProof.Rows PySem.W
/-! ### list(text) -/
def rListS : CR1 := fun xs H Q => ∃ x : Str, xs = [.str x] ∧ x.length ≤ sizeLine ∧ ∀ l, H l = none → Q (.ref l) (upd H l (.lst (x.cps.toList.map fun n => V.str ⟨#[n]⟩)))
theorem repL_signs {K : PySem.W.Frag} {H : Hp} {T : Sto} : ∀ L : List Nat, RepL K H T (L.map fun n => V.str ⟨#[n]⟩) (L.map fun n => D.str ⟨#[n]⟩)
  | [] => .nil
  | _ :: L => .cons (.str _) (repL_signs L)
section
variable {c : Ctx} {S : Sto} {F : D → Sto → Prop}
theorem rc_listS {x : Str} (hz : x.length ≤ sizeLine) (q : F (.lst (signsD x)) S) : RC c rListS [.str x] S F := fun T us H cl r Q k => by
  cases r with
  | cons h1 t =>
    cases t
    cases h1
    refine ⟨x, rfl, hz, fun l hl => ?_⟩
    have hx : Rep c.K (upd H l (.lst (x.cps.toList.map fun n => V.str ⟨#[n]⟩))) T (.ref l) (.lst (signsD x)) := by
      refine .lst (cl.free hl) upd_same ?_
      exact repL_signs _
    exact k _ _ S T _ (mv_new hl) (cl.new hl) hx q
end
end VS
namespace VS
open PySem L2 C8 PySem.Spec PyProof.Rows
def keyD : Key → D
  | .inl i => .int i
  | .inr x => .str x
theorem keyD_V {K : PySem.W.Frag} {H : Hp} {T : Sto} {k : Key} {v : V} (r : Rep K H T v (keyD k)) : v = kV k := by
  cases k with
  | inl i => cases r; rfl
  | inr x => cases r; rfl
theorem putK_fresh {kvs : List (Key × V)} {k : Key} {v : V} (h : k ∉ kvs.map Prod.fst) : putK kvs k v = kvs ++ [(k, v)] := by
  unfold putK
  rw [if_neg]
  intro z
  rw [List.any_eq_true] at z
  obtain ⟨p, hp, e⟩ := z
  exact h (List.mem_map.mpr ⟨p, hp, of_decide_eq_true e⟩)
theorem mergeK_new : ∀ {more kvs : List (Key × V)}, (kvs.map Prod.fst ++ more.map Prod.fst).Nodup → mergeK kvs more = kvs ++ more
  | [], kvs, _ => (List.append_nil kvs).symm
  | p :: more, kvs, h => by
    show mergeK (putK kvs p.1 p.2) more = _
    have h1 : p.1 ∉ kvs.map Prod.fst := fun z => by
      rw [List.map_cons, List.nodup_append] at h
      exact h.2.2 _ z _ (List.mem_cons_self ..) rfl
    rw [putK_fresh h1, mergeK_new, List.append_assoc]
    · rfl
    · rw [List.map_append, List.append_assoc]
      exact h
theorem repK_keys {K : PySem.W.Frag} {H : Hp} {T : Sto} : ∀ {vs : List (Key × V)} {ds : List (Key × D)}, RepK K H T vs ds → vs.map Prod.fst = ds.map Prod.fst
  | _, _, .nil => rfl
  | _, _, .cons _ t => by rw [List.map_cons, List.map_cons, repK_keys t]
def VPs (c : Ctx) (trs : List (TE × TE)) (ρ : Rho) (S : Sto) (F : List (Key × D) → Sto → Prop) : Prop := ∀ T σ H, In c σ H ρ S T → ∀ Q : List (V × V) → Hp → Prop,
  (∀ kvs es S' T' H', Mv T H T' H' → Cells c.K H' S' T' → RepK c.K H' T' kvs es → F es S' → Q (kvs.map fun kv => (kV kv.1, kv.2)) H') → tPairs trs σ H Q
section
variable {c : Ctx} {ρ : Rho} {S : Sto} {F : D → Sto → Prop} {d : D}
theorem vps_nil {G : List (Key × D) → Sto → Prop} (q : G [] S) : VPs c [] ρ S G := fun T σ H I Q k => k [] [] S T H Mv.refl I.cells .nil q
theorem vps_cons {tk tv : TE} {trs : List (TE × TE)} {G : List (Key × D) → Sto → Prop} (h : VE c tk ρ S fun x S1 => ∃ key, x = keyD key ∧ VE c tv ρ S1 fun y S2 => VPs c trs ρ S2 fun es S3 => G ((key, y) :: es) S3) : VPs c ((tk, tv) :: trs) ρ S G := fun T σ H I Q k =>
  h T σ H I _ fun vx x S1 T1 H1 m1 c1 r1 ⟨key, e, h1⟩ => h1 T1 σ H1 (I.mv m1 c1) _ fun vy y S2 T2 H2 m2 c2 r2 h2 => h2 T2 σ H2 (I.mv (m1.trans m2) c2) _ fun kvs es S3 T3 H3 m3 c3 r3 q => by
    subst e
    cases keyD_V r1
    exact k ((key, vy) :: kvs) ((key, y) :: es) S3 T3 H3 (m1.trans (m2.trans m3)) c3 (.cons (r2.mv m3) r3) q
/-- {k: v, ..}, by value -/
theorem ve_disp {trs : List (TE × TE)} (h : VPs c trs ρ S fun es S1 => es.length ≤ 15 ∧ (es.map Prod.fst).Nodup ∧ F (.dK es) S1) : VE c (tDisp trs) ρ S F := fun T σ H I Q k => fun p hp =>
  h (put T p .hid) σ (upd H p (.dK [])) (I.mv (mv_newc hp) (I.cells.newh hp)) _ fun kvs es S' T' H' m cl r ⟨h1, h2, q⟩ => by
    obtain ⟨hx, s⟩ := m.hid p _ put_same upd_same
    have hl : kvs.length = es.length := by
      have e := congrArg List.length (repK_keys r)
      simpa using e
    refine ⟨hx, kvs, rfl, by rw [hl]; exact h1, ?_⟩
    have em : mergeK [] kvs = kvs := by
      have e := mergeK_new (kvs := []) (more := kvs) (by rw [repK_keys r]; exact h2)
      exact e
    rw [em]
    have mm : Mv T H T' (upd H' p (.dK kvs)) := ((mv_newc (d := .hid) hp).trans m).hidw hp
    refine k _ (.dK es) S' (del T' p) _ (mm.unhid hp) ((cl.hidw s).unhid s) (.dK del_same (.inl upd_same) ((r.mk (mk_hid s)).mk (mk_show s))) q
end
end VS
namespace VS
open PySem L2 C8 PySem.Spec PyProof.Rows
/-! ### how long a shown thing is -/
structure Sh (d : D) (n k : Nat) : Prop where
  p : isP d = true
  s : (pd d).showable = true
  l : (pd d).shown.length ≤ n
  d : (pd d).depth ≤ k
structure ShL (xs : List D) (n k : Nat) : Prop where
  p : isPL xs = true
  s : PyData.showableAll (pdL xs) = true
  l : piled (PyData.shownAll (pdL xs)) ≤ n
  d : PyData.depthAll (pdL xs) ≤ k
theorem Sh.non : Sh .non 4 0 := ⟨rfl, rfl, (by decide +kernel), Nat.le_refl _⟩
theorem Sh.bl (b : Bool) : Sh (.bl b) 5 0 := ⟨rfl, rfl, (by cases b <;> decide +kernel), Nat.le_refl _⟩
theorem Sh.str {n : Nat} {z : Str} (h : Asc n z) : Sh (.str z) (10 * n + 2) 0 := ⟨rfl, rfl, (by
  have q := StrLaws.reprText_len z fun c hc => Nat.lt_of_lt_of_le (h.2 c hc) (by decide)
  have := h.1
  show (reprText z).length ≤ _
  omega), Nat.le_refl _⟩
theorem Sh.int {i : Int} {k : Nat} (h : i.natAbs < 2 ^ k) (hk : 0 < k) (hk2 : k ≤ 1920) : Sh (.int i) (k + 2) 0 := ⟨rfl, (by
  show decide (i.natAbs.log2 < 1920) = true
  exact decide_eq_true (Nat.lt_of_lt_of_le (log_lt h hk) hk2)), (by
  show (Str.ofString (toString i)).length ≤ k + 2
  have up : ∀ m : Nat, m < 2 ^ k → (TL.numL m).length ≤ k := fun m hm => TL.numL_len hk (Nat.lt_of_lt_of_le hm (Nat.pow_le_pow_left (by decide) k))
  cases i with
  | ofNat m =>
    rw [← str_len]
    have e : (Str.ofString (toString (Int.ofNat m))).cps.toList = TL.numL m := tl_numT m
    rw [e]
    have := up m h
    omega
  | negSucc m =>
    have e : toString (Int.negSucc m) = "-" ++ toString (m + 1) := rfl
    rw [e, ← str_len]
    have e2 : (Str.ofString ("-" ++ toString (m + 1))).cps.toList = 45 :: TL.numL (m + 1) := by
      have a : (Str.ofString ("-" ++ toString (m + 1))).cps.toList = ("-" ++ toString (m + 1)).toList.map Char.toNat := TL.tl_ofString _
      have b : TL.numL (m + 1) = (toString (m + 1)).toList.map Char.toNat := (tl_numT (m + 1)).symm.trans (TL.tl_ofString _)
      rw [a, b, String.toList_append, List.map_append]
      rfl
    rw [e2, List.length_cons]
    have := up (m + 1) h
    omega), Nat.le_refl _⟩
theorem ShL.nil : ShL [] 0 0 := ⟨rfl, rfl, Nat.le_refl _, Nat.le_refl _⟩
theorem ShL.cons {d : D} {ds : List D} {a b i j : Nat} (h : Sh d a i) (t : ShL ds b j) : ShL (d :: ds) (a + 2 + b) (max i j) := ⟨by
  show (isP d && isPL ds) = true
  rw [h.p, t.p]; rfl, by
  show ((pd d).showable && PyData.showableAll (pdL ds)) = true
  rw [h.s, t.s]; rfl, by
  show ((pd d).shown.length + 2) + piled (PyData.shownAll (pdL ds)) ≤ _
  have := h.l
  have := t.l
  omega, by
  show max (pd d).depth (PyData.depthAll (pdL ds)) ≤ _
  have := h.d
  have := t.d
  omega⟩
theorem Sh.mono {d : D} {n m k j : Nat} (h : Sh d n k) (a : n ≤ m) (b : k ≤ j) : Sh d m j := ⟨h.p, h.s, Nat.le_trans h.l a, Nat.le_trans h.d b⟩
theorem ShL.mono {d : List D} {n m k j : Nat} (h : ShL d n k) (a : n ≤ m) (b : k ≤ j) : ShL d m j := ⟨h.p, h.s, Nat.le_trans h.l a, Nat.le_trans h.d b⟩
theorem lit1 : ("[" : Str).length = 1 ∧ ("]" : Str).length = 1 ∧ ("(" : Str).length = 1 ∧ (")" : Str).length = 1 ∧ (",)" : Str).length = 2 ∧ ("{" : Str).length = 1 ∧ ("}" : Str).length = 1 ∧ (": " : Str).length = 2 := by decide +kernel
theorem listText_len : ∀ ts : List Str, (listText ts).length ≤ piled ts + 2
  | [] => by decide +kernel
  | t :: r => by
    have h := textFrom_length_pos r 1 (("[" : Str) ++ (if (0 : Nat) > 0 then ", " else "" : String) ++ t) (Nat.succ_pos 0)
    have e : ((("[" : Str) ++ (if (0 : Nat) > 0 then ", " else "" : String) ++ t)).length = 1 + t.length := by
      rw [len_add, len_add]; rfl
    have hX : (listText (t :: r)).length = (textFrom 0 "[" (t :: r)).length + 1 := by
      show (textFrom 0 "[" (t :: r) ++ "]").length = _
      rw [len_add]; rfl
    have hY : (textFrom 0 "[" (t :: r)).length = (textFrom 1 (("[" : Str) ++ (if (0 : Nat) > 0 then ", " else "" : String) ++ t) r).length := rfl
    rw [hX, hY, h, e, piled_cons]; omega
theorem join_len : ∀ ts : List Str, (Str.join ", " ts).length ≤ piled ts
  | [] => by decide +kernel
  | t :: r => by
    have := join_length_add (t :: r) (by simp)
    omega
theorem Sh.lst {xs : List D} {n k : Nat} (h : ShL xs n k) : Sh (.lst xs) (n + 2) (k + 1) := ⟨h.p, h.s, by
  show (listText (PyData.shownAll (pdL xs))).length ≤ _
  have := listText_len (PyData.shownAll (pdL xs))
  have := h.l
  omega, Nat.succ_le_succ h.d⟩
theorem Sh.tup {xs : List D} {n k : Nat} (h : ShL xs n k) : Sh (.tup xs) (n + 3) (k + 1) := ⟨h.p, h.s, by
  show (tupleText (PyData.shownAll (pdL xs))).length ≤ _
  have := join_len (PyData.shownAll (pdL xs))
  have := h.l
  have e := lit1
  unfold tupleText
  rw [len_add, len_add]
  split <;> omega, Nat.succ_le_succ h.d⟩
end VS
namespace VS
open PySem L2 C8 PySem.Spec PyProof.Rows
theorem rngD_at {i : Nat} {d : D} {j : Int} (h : (rngD 0 j.toNat)[i]? = some d) : d = .int (i : Nat) ∧ (i : Int) < j := by
  have hi : i < j.toNat := by
    have := (List.getElem?_eq_some_iff.mp h).1
    unfold rngD at this
    simpa using this
  unfold rngD at h
  rw [List.getElem?_map, List.getElem?_range hi] at h
  cases h
  refine ⟨?_, by omega⟩
  show D.int (0 + (i : Int)) = D.int (i : Int)
  rw [Int.zero_add]
theorem mmB {a b l : Int} (h0 : 0 ≤ a) (h : a ≤ b) : 0 ≤ (if (if l < b then l else b) > a then (if l < b then l else b) else a) ∧ (if (if l < b then l else b) > a then (if l < b then l else b) else a) ≤ b := by
  split <;> (try split) <;> omega
/-- for k in range(max(a, min(b, len(script)))) : the cells of a law -/
theorem vi_cells {c : Ctx} {ρ : Rho} {S : Sto} {W : List D → Sto → Prop} {ns : List Int} {a b : Int} {i : Nat} (h0 : 0 ≤ a) (hab : a ≤ b) (hb : b < 1000) (hv : ρ[i]? = some (some (.rol (ns.map .int)))) (h : ∀ j : Int, 0 ≤ j → j ≤ b → W (rngD 0 j.toNat) S) :
    VI c (iRng1 (tCons (tCB rMax2 (tCons (tC (V.int a)) (tCons (tCB rMin2 (tCons (tC (V.int b)) (tCons (tCB (rLen c.K) (tCons (tVar i) tNil)) tNil))) tNil))) tNil)) ρ S W := by
  refine vi_rng1 (va_cons (ve_cb (va_cons (ve_int (va_cons (ve_cb (va_cons (ve_int (va_cons (ve_cb (va_cons (ve_var hv (va_nil (rc_lenQ (.l .r) (va_nil (rc_min2 (va_nil (rc_max2 (va_nil ?_)))))))))))))))))))
  have m := mmB (a := a) (b := b) (l := (((ns.map D.int).length : Nat) : Int)) h0 hab
  generalize (if (if (((ns.map D.int).length : Nat) : Int) < b then (((ns.map D.int).length : Nat) : Int) else b) > a then (if (((ns.map D.int).length : Nat) : Int) < b then (((ns.map D.int).length : Nat) : Int) else b) else a) = j at m ⊢
  exact ⟨j, rfl, by omega, h j m.1 m.2⟩
theorem ex_keyS {z : Str} {G : Key → Prop} (h : G (.inr z)) : ∃ k, D.str z = keyD k ∧ G k := ⟨.inr z, rfl, h⟩
theorem ex_keyI {z : Int} {G : Key → Prop} (h : G (.inl z)) : ∃ k, D.int z = keyD k ∧ G k := ⟨.inl z, rfl, h⟩
end VS
namespace VS
open PySem L2 C8 PySem.Spec PyProof.Rows
/-! ### words -/
def sp (w L : List Nat) : List (List Nat) := TL.spl [32] 0 w L
def W (z : Str) : List Str := Txt.split z " "
theorem joinL_mem (S : List Nat) (c : Nat) : ∀ ps : List (List Nat), c ∈ TL.joinL S ps → c ∈ S ∨ ∃ p ∈ ps, c ∈ p
  | [], h => by cases h
  | [p], h => .inr ⟨p, List.mem_cons_self .., h⟩
  | p :: q :: r, h => by
    have h' : c ∈ p ++ (S ++ TL.joinL S (q :: r)) := h
    rcases List.mem_append.mp h' with h1 | h1
    · exact .inr ⟨p, List.mem_cons_self .., h1⟩
    · rcases List.mem_append.mp h1 with h2 | h2
      · exact .inl h2
      · rcases joinL_mem S c (q :: r) h2 with h3 | ⟨p', h3, h4⟩
        · exact .inl h3
        · exact .inr ⟨p', List.mem_cons_of_mem _ h3, h4⟩
theorem joinL_len' (S : List Nat) {m : Nat} : ∀ ps : List (List Nat), (∀ p ∈ ps, p.length ≤ m) → (TL.joinL S ps).length ≤ ps.length * (m + S.length)
  | [], _ => by simp [TL.joinL]
  | [p], h => by
    have := h p (List.mem_cons_self ..)
    show p.length ≤ 1 * _
    omega
  | p :: q :: r, h => by
    have ih := joinL_len' S (q :: r) fun x hx => h x (List.mem_cons_of_mem _ hx)
    have := h p (List.mem_cons_self ..)
    show (p ++ (S ++ TL.joinL S (q :: r))).length ≤ _
    rw [List.length_append, List.length_append]
    have e : (p :: q :: r).length * (m + S.length) = (q :: r).length * (m + S.length) + (m + S.length) := by
      rw [List.length_cons, Nat.succ_mul]
    omega
theorem Asc.join {n m k : Nat} {x : Str} {ys : List Str} (hx : Asc k x) (h : ∀ y ∈ ys, Asc m y) (hl : ys.length ≤ n) : Asc (n * (m + k)) (Txt.join x ys) := by
  have e : (Txt.join x ys).cps.toList = TL.joinL (TL.tl x) (ys.map TL.tl) := (congrArg TL.tl (TL.join_eq x ys)).trans (TL.tl_join x ys)
  refine ⟨?_, fun c hc => ?_⟩
  · rw [← str_len, e]
    have q := joinL_len' (TL.tl x) (m := m) (ys.map TL.tl) fun p hp => by
      obtain ⟨y, hy, rfl⟩ := List.mem_map.mp hp
      exact Nat.le_trans (Nat.le_of_eq (str_len y)) (h y hy).1
    refine Nat.le_trans q ?_
    rw [List.length_map]
    have hk : (TL.tl x).length ≤ k := Nat.le_trans (Nat.le_of_eq (str_len x)) hx.1
    exact Nat.mul_le_mul hl (by omega)
  · rw [e] at hc
    rcases joinL_mem _ _ _ hc with q | ⟨p, hp, q⟩
    · exact hx.2 c q
    · obtain ⟨y, hy, rfl⟩ := List.mem_map.mp hp
      exact (h y hy).2 c q
/-! ### text * int, list * int, extend, split by value -/
section
variable {c : Ctx} {ρ : Rho} {S : Sto} {F : D → Sto → Prop} {d : D}
theorem RepL.rep {K : PySem.W.Frag} {H : Hp} {T : Sto} {xs : List V} {ds : List D} (r : RepL K H T xs ds) : ∀ n : Nat, RepL K H T (List.replicate n xs).flatten (List.replicate n ds).flatten
  | 0 => .nil
  | n + 1 => by
    rw [List.replicate_succ, List.replicate_succ, List.flatten_cons, List.flatten_cons]
    exact r.append (RepL.rep r n)
theorem rm_extend {l : Addr} {ds es : List D} {x : D} (h : S l = some (.lst ds)) (h2 : IsA S x es) (hl : ds.length + es.length ≤ sizeLine) (q : F .non (put S l (.lst (ds ++ es)))) : RM c rExtend (.ref l) [x] S F := fun T u us H cl r1 r2 Q k => by
  cases r1
  cases r2 with
  | cons h1 t =>
    cases t
    obtain ⟨xs, hx, rx⟩ := cl.ok _ _ (cl.at h)
    obtain ⟨b, zs, rfl, s', r'⟩ := h2.rd cl h1
    have w := mv_wr (H := H) (d := .lst (ds ++ es)) (o := .lst (xs ++ zs)) (cl.at h)
    exact ⟨l, b, xs, zs, rfl, rfl, hx, s', by rw [rx.length, r'.length]; exact hl, k _ _ _ _ _ w (cl.wr (cl.at h) (cell_l upd_same ((rx.append r').mv w))) .non q⟩
end
/-- all that was there is there -/
def Ext (S S' : Sto) : Prop := ∀ q d, S q = some d → S' q = some d
theorem Ext.trans {S S' S'' : Sto} (a : Ext S S') (b : Ext S' S'') : Ext S S'' := fun q d h => b q d (a q d h)
theorem Ext.put {S : Sto} {p : Addr} {d : D} (h : S p = none) : Ext S (put S p d) := fun q e hq => by
  rw [put_ne]
  · exact hq
  · intro z; subst z; rw [h] at hq; cases hq
theorem Ext.wr {S S' : Sto} {p : Addr} {d : D} (h : S p = none) (x : Ext S S') : Ext S (VS.put S' p d) := fun q e hq => by
  rw [put_ne]
  · exact x q e hq
  · intro z; subst z; rw [h] at hq; cases hq
theorem atI_mem {α : Type} {xs : List α} {i : Int} (h0 : 0 ≤ i) (h1 : i < xs.length) : ∃ x ∈ xs, atI xs i = some x := by
  obtain ⟨k, rfl⟩ := Int.eq_ofNat_of_zero_le h0
  have hk : k < xs.length := Int.ofNat_lt.mp h1
  exact ⟨xs[k], List.getElem_mem hk, atI_nat (List.getElem?_eq_getElem hk)⟩
/-- all that was there, but for what lies at p, is there -/
def Ex1 (p : Addr) (S S' : Sto) : Prop := ∀ q d, q ≠ p → S q = some d → S' q = some d
theorem Ex1.trans {p : Addr} {S S' S'' : Sto} (a : Ex1 p S S') (b : Ex1 p S' S'') : Ex1 p S S'' := fun q d h e => b q d h (a q d h e)
theorem Ext.ex1 {p : Addr} {S S' : Sto} (a : Ext S S') : Ex1 p S S' := fun q d _ e => a q d e
theorem Ex1.wr {S S' : Sto} {p l : Addr} {d : D} (h : S l = none) (x : Ex1 p S S') : Ex1 p S (VS.put S' l d) := fun q e n hq => by
  rw [put_ne]
  · exact x q e n hq
  · intro z; subst z; rw [h] at hq; cases hq
/-- within a comprehension's block: K named -/
theorem kC {X : Cx} {K : PySem.W.Frag} {v : Value} {r : PySem.W.Frag → CR1} (c : CallR X v (r X.K)) (h : X.K = K := by rfl) : CallR X v (r K) := h ▸ c
theorem kI {X : Cx} {K : PySem.W.Frag} {r : PySem.W.Frag → R2} (c : IxR X (r X.K)) (h : X.K = K := by rfl) : IxR X (r K) := h ▸ c
theorem kO {X : Cx} {K : PySem.W.Frag} {f : Value → Value → Sem Value} {r : PySem.W.Frag → R2} (c : OpR X f (r X.K)) (h : X.K = K := by rfl) : OpR X f (r K) := h ▸ c
theorem ShL.uncons {d : D} {ds : List D} {n k : Nat} (h : ShL (d :: ds) n k) : ∃ a b, Sh d a k ∧ ShL ds b k ∧ a + 2 + b ≤ n := by
  have hp : (isP d && isPL ds) = true := h.p
  have hs : ((pd d).showable && PyData.showableAll (pdL ds)) = true := h.s
  have hl : ((pd d).shown.length + 2) + piled (PyData.shownAll (pdL ds)) ≤ n := h.l
  have hd : max (pd d).depth (PyData.depthAll (pdL ds)) ≤ k := h.d
  rw [Bool.and_eq_true] at hp hs
  exact ⟨_, _, ⟨hp.1, hs.1, Nat.le_refl _, by omega⟩, ⟨hp.2, hs.2, Nat.le_refl _, by omega⟩, hl⟩
theorem ShL.append : ∀ {xs ys : List D} {a b k : Nat}, ShL xs a k → ShL ys b k → ShL (xs ++ ys) (a + b) k
  | [], ys, a, b, k, _, h => h.mono (by omega) (Nat.le_refl _)
  | x :: xs, ys, a, b, k, h, h2 => by
    obtain ⟨c, e, h3, h4, h5⟩ := h.uncons
    exact ((ShL.cons h3 (ShL.append h4 h2)).mono (by omega) (by omega))
end VS
namespace VS
open PySem L2 C8 PySem.Spec PyProof.Rows
/-! ### x in a tuple of data -/
theorem asc_ok {z : Str} (h : ∀ c ∈ z.cps.toList, c < 128) : (pd (.str z)).canLay0 = true := by
  show z.cps.all (· < 0x110000) = true
  rw [← Array.all_toList]
  exact List.all_eq_true.mpr fun c hc => decide_eq_true (Nat.lt_trans (h c hc) (by decide))
section
variable {c : Ctx} {ρ : Rho} {S : Sto} {F : D → Sto → Prop}
theorem ve_dnew (q : F (.dK []) S) : VE c tDNewK ρ S F := fun T σ H I Q k => fun p hp =>
  k _ (.dK []) S T _ (mv_new hp) (I.cells.new hp) (.dK (I.cells.free hp) (.inl upd_same) .nil) q
end
theorem kTup {X : Cx} {K : PySem.W.Frag} {e : Expr} {n : Nat} {t : TGs} (c : PG X e (gTup X.K n t)) (h : X.K = K := by rfl) : PG X e (gTup K n t) := h ▸ c
end VS
namespace VS
open PySem L2 PySem.Spec PyProof.Rows
/-! ### own exception classes over any exception of the language -/
/-- what the written part's chain bm of classes (made by nid) must have -/
structure BmG (bm : List Value) (nid : String) : Prop where
  fact : ∃ B ini bmB, ExcBaseFacts B nid ini bmB ∧ bm.contains (.type B) = true
  noA : bm.contains (.type "AttributeError") = false
  noN : bm.contains (.type "NameError") = false
  obj : bm.contains (.type "object") = true
  pass : ∀ self, refuseLoop self "__setattr__" bm = pure ()
theorem BmG.ne {bm : List Value} {nid : String} (b : BmG bm nid) : bm.isEmpty = false := by
  cases bm with
  | nil => exact absurd b.obj (by decide)
  | cons _ _ => rfl
theorem BmG.up {bm : List Value} {nid : String} {c : Addr} (b : BmG bm nid) : BmG (.ref c :: bm) nid := by
  have k : ∀ X : String, (Value.ref c :: bm).contains (.type X) = bm.contains (.type X) := fun X => by rw [List.contains_cons]; rfl
  obtain ⟨B, ini, bmB, F, h⟩ := b.fact
  exact ⟨⟨B, ini, bmB, F, (k B).trans h⟩, (k _).trans b.noA, (k _).trans b.noN, (k _).trans b.obj, fun self => by rw [refuseLoop_ref]; exact b.pass self⟩
theorem bmG_VE : BmG [.type "ValueError", .type "Exception", .type "BaseException", .type "object"] "ValueError.__new__" := ⟨⟨_, _, _, F.excBase_ValueError, by decide +kernel⟩, by decide +kernel, by decide +kernel, by decide +kernel, fun self => by kernel_rfl⟩
structure OexG (K : PySem.W.Frag) (C : Addr) : Prop where
  cls : ∃ nm q N bs bm sn sub ab col dd k0 k1 k2 k3 k5 nid, K.lookup C = some (excClassObj nm q C N bs bm true sn sub ab col dd k0 k1 k2 k3 k5 nid) ∧ BmG bm nid
  sa : PySem.W.findIn K (.ref C) "__setattr__" = some (some (.builtin "object.__setattr__"))
  exC : PySem.W.subIn K (.ref C) (.type "BaseException") = some true
  tyC : PySem.W.typeIn K (.ref C) = some (.type "type")
  kC : PySem.W.keepIn K (.ref C) = true
end VS
namespace PySem
namespace VSX
open VS HandSPX Builtin PySem.Calls
section
variable {M : Model} {prog : Program} {w : World} {A : Around} {E : Value → Shared → Prop} {R : Result → Shared → Prop} {h : Heap} {g : Array GenState} {d : Drawn} {t : Nat} {os : OsState}
variable {nm q : Str} {C N : Addr} {bs bm : List Value} {hdct : Bool} {sn : List Str} {sub : List Value} {ab : Bool} {col : Option Bool} {dd : Option Addr} {k0 k1 k2 k3 k5 : Option Value} {nid : String}
theorem upC {bm : List Value} {X : String} {v : Bool} {C : Addr} (e : bm.contains (.type X) = v) : (Value.ref C :: bm).contains (.type X) = v := by rw [List.contains_cons, e]; rfl
theorem new_ownG (b : BmG bm nid) {rest : List Value} (hC : h.get? C = some (excClassObj nm q C N bs bm hdct sn sub ab col dd k0 k1 k2 k3 k5 nid))
    (hq : R (.ok (.ret (.ref (h.objs.size + 1)))) ⟨(h.push (PySem.W.kdv_tup rest)).push (excO C h.objs.size), g, d, t, os⟩) (hrest : rest.length ≤ sizeLine) :
    codeAny (model prog w) A (.builtin nid ⟨.ref C :: rest, []⟩) R ⟨h, g, d, t, os⟩ := by
  obtain ⟨B, ini, bmB, F, hB⟩ := b.fact
  have hcB := upC (C := C) hB
  have hcA := upC (C := C) b.noA
  have hcN := upC (C := C) b.noN
  have hends := F.ends
  refine codeAny_builtinAt F.entry ?_
  unfold Builtin.«BaseException.__new__»
  refine wpAt_bind ?_
  show wpAt _ _ _ (stack >>= _) _ _ _
  refine wpAt_bind (wpAt_stack fun p below => wpAt_of_wpAny ?_)
  wp_walk
  refine wpAt_of_wpAny ?_
  rw [F.owner]
  repeat (first | with_reducible refine wpAny_madeHere_exc F.canon hC ?_ | with_reducible refine wpAny_loadPart_at hC ?_ | (with_reducible refine wpAny_isSubtype_exc hC ?_; first | rw [hcB] | rw [hcA] | rw [hcN]) | wp_step)
  show R _ _
  rw [Heap.size_push]
  exact hq
theorem type_callG (b : BmG bm nid) {rest : List Value} {fI : Addr} {Q : Fin → Shared → Prop}
    (hC : h.get? C = some (excClassObj nm q C N bs bm hdct sn sub ab col dd k0 k1 k2 k3 k5 nid))
    (hi : PySem.W.Looks (model prog w) h (typeLookup (.ref C) "__init__") (some (.ref fI))) (hb : ∀ self, PySem.W.Looks (model prog w) h (bindSpecial (.ref fI) self) (.ref fI, [self])) (hrest : rest.length ≤ sizeLine)
    (hq : codeAny (model prog w) A (.call (.ref fI) ⟨.ref (h.objs.size + 1) :: rest, []⟩)
      (fun r s' => match r with | .ok (.ret v) => v = .none ∧ Q (.done (.ret (.ref (h.objs.size + 1)))) s' | .ok _ => False | .error e => E e s')
      ⟨(h.push (PySem.W.kdv_tup rest)).push (excO C h.objs.size), g, d, t, os⟩) :
    wpAny (model prog w) A (Builtin.«type.__call__» ⟨.ref C :: rest, []⟩) Q E ⟨h, g, d, t, os⟩ := by
  obtain ⟨B, ini, bmB, F, hB⟩ := b.fact
  have hcB := upC (C := C) hB
  have hcA := upC (C := C) b.noA
  have hcN := upC (C := C) b.noN
  repeat (first | with_reducible refine wpAny_loadPart_at hC ?_ | with_reducible refine wpAny_madeBy_exc hC ?_ | wp_step)
  refine codeAny_call_builtin_code (Code.quiet_builtin _ F.quiet) ?_
  have hstar := F.noStar
  simp only [checkBuiltinCall, F.newKind, F.newSplit, F.newRow]
  repeat (first | refine wpAny_loadPart_at hC ?_ | (refine wpAny_isSubtype_exc hC ?_; rw [hcB]) | refine wpAny_staticBase_exc hC ?_ | refine wpAny_madeBy_exc hC ?_ | simp only [bne_self_eq_false, Bool.false_eq_true, if_false] | wp_step)
  refine new_ownG b hC ?_ hrest
  show wpAny _ _ _ _ _ _
  have k : ∀ b o, h.get? b = some o → ((h.push (PySem.W.kdv_tup rest)).push (excO C h.objs.size)).get? b = some o := fun b o e => Heap.get?_push_of_some _ (Heap.get?_push_of_some _ e)
  have hC₁ := k _ _ hC
  have hget : ((h.push (PySem.W.kdv_tup rest)).push (excO C h.objs.size)).get? (h.objs.size + 1) = some (excO C h.objs.size) := by heap_get
  have hcC : (Value.ref C :: bm).contains (.ref C) = true := by simp
  have i1 := hi.keeps k
  have b1 := (hb (.ref (h.objs.size + 1))).keeps k
  unfold isInstance
  repeat (first | with_reducible refine wpAny_loadPart_at hget ?_ | (with_reducible refine wpAny_isSubtype_exc hC₁ ?_; rw [hcC]) | wp_step)
  show wpAny _ _ (typeLookup (.ref C) _) _ _ _
  refine i1.at ?_
  refine wpAny_holding (wpAny_bind (b1.at ?_))
  refine wpAny_bind (wpAny_call (codeAny_mono hq fun r s' z => ?_))
  rcases r with e | (v | _ | _ | _) <;> first | exact z | exact z.elim | skip
  obtain ⟨rfl, z⟩ := z
  first
    | exact wpAny_pure (wpAny_pure z)
    | (wp_walk; exact z)
theorem call_ownG (b : BmG bm nid) {rest : List Value} {fI : Addr}
    (hC : h.get? C = some (excClassObj nm q C N bs bm hdct sn sub ab col dd k0 k1 k2 k3 k5 nid))
    (hi : PySem.W.Looks (model prog w) h (typeLookup (.ref C) "__init__") (some (.ref fI))) (hb : ∀ self, PySem.W.Looks (model prog w) h (bindSpecial (.ref fI) self) (.ref fI, [self])) (hrest : rest.length ≤ sizeLine)
    (hq : codeAny (model prog w) (A.under (.builtin "type.__call__" ⟨.ref C :: rest, []⟩)) (.call (.ref fI) ⟨.ref (h.objs.size + 1) :: rest, []⟩) (PySem.W.InitBack (h.objs.size + 1) R)
      ⟨(h.push (PySem.W.kdv_tup rest)).push (excO C h.objs.size), g, d, t, os⟩) :
    codeAny (model prog w) A (.call (.ref C) ⟨rest, []⟩) R ⟨h, g, d, t, os⟩ := by
  have f1 := tc_lookup
  have f2 := tc_bind (.ref C)
  have hTy : (⟨h, g, d, t, os⟩ : Shared).TypeIs (.ref C) "type" := ⟨_, hC, rfl⟩
  refine codeAny_of_tree ?_
  show wpAny _ _ (callAny (.ref C) _) _ _ _
  repeat (any_goals (first | assumption | with_reducible refine wpAny_loadPart_at hC ?_ | wp_step))
  refine ⟨rfl, ?_⟩
  refine codeAny_call_builtin_at (Code.quiet_builtin _ (by decide +kernel)) entry_typeCall (wpAny_check_type_call_sub hC (type_callG b hC hi hb hrest ?_))
  refine codeAny_mono hq fun r s' z => ?_
  rcases r with e | (v | _ | _ | _) <;> exact z
end
section
open Builtin.ObjectAttr
variable {prog : Program} {w : World} {A : Around} {E : Value → Shared → Prop} {R : Result → Shared → Prop} {hp : Heap} {g : Array GenState} {d : Drawn} {t : Nat} {os : OsState}
theorem exc_osaG {K : W.Frag} {name : Str} {tk : Tok} {v : Value} {x C : Addr} {fv : Array Value} {cd : ClassData} {nid : String} {bm : List Value}
    (X : K.In hp) (hx : hp.get? x = some { cls := .ref C, data := .fields fv }) (hcd : W.clsIn K C = some cd) (b : BmG bm nid) (hm : cd.mro = .ref C :: bm) (hh : cd.hasDict = true) (ha : W.findIn K (.ref C) name = some none)
    (hq : ∀ h' tk' dx, (∀ b o, b ≠ x → hp.get? b = some o → h'.get? b = some o) → hp.objs.size ≤ dx → dx ≠ x → h'.get? x = some { cls := .ref C, dict := some dx, data := .fields fv } →
      h'.Ns1 dx (fun y => if y = name then some v else none) → R (.ok (.ret .none)) ⟨h', g, d, tk', os⟩) :
    codeAny (model prog w) A (.call (.builtin "object.__setattr__") ⟨[.ref x, .str name tk, v], []⟩) R ⟨hp, g, d, t, os⟩ := by
  have I : W.InstAt hp x { cls := .ref C, data := .fields fv } C none := ⟨hx, rfl, rfl, trivial⟩
  have SF := F.store_object
  have ne : cd.mro.isEmpty = false := by rw [hm]; rfl
  have hob : cd.mro.contains (.type "object") = true := by rw [hm]; exact b.up.obj
  have hps : refuseLoop (.ref x) "__setattr__" cd.mro = pure () := by rw [hm]; exact b.up.pass _
  have hxs : x ≠ hp.objs.size := Nat.ne_of_lt (Heap.lt_size hx)
  have sub : W.Looks (model prog w) hp (isInstance (.ref x) (.type "object")) true := I.type.andThen (W.looks_mroIn X (by unfold W.mroIn; rw [hcd, Option.bind_some, if_neg (by rw [ne]; decide), hob]))
  refine codeAny_call_builtin SF.slot.plain SF.entry (@W.check_slot (model prog w) _ _ ⟨hp, g, d, t, os⟩ "object.__setattr__" "object" "__setattr__" (.ref x) [.str name tk, v] [] _ SF.kind SF.split sub (SF.args (.ref x) (.str name tk) v) ?_)
  have hmr : W.Looks (model prog w) hp (mroOf (.ref C)) cd.mro := (W.looks_clsIn X hcd).andThen .now
  have L3 : W.Looks (model prog w) hp (storeTaker? none) none := .now
  have hcls : W.Looks (model prog w) hp (classData C) cd := W.looks_clsIn X hcd
  rw [W.osa_eq, refuse_eq]
  refine wpAny_bind (wpAny_bind (I.type.at (wpAny_bind (hmr.at ?_))))
  rw [hps]
  refine wpAny_pure (wpAny_bind (I.type.at (wpAny_bind ((W.looks_findIn X ha).at (wpAny_bind (L3.at ?_))))))
  show wpAny _ _ (storeInOwnDict (.ref x) (.ref C) (.str name tk) name v false) _ _ _
  obtain ⟨nm, bs, mro, ns, qn, hd, sn, sb, ab, col, del⟩ := cd
  dsimp only at hh
  subst hh
  unfold storeInOwnDict ownDictForStores
  repeat (first | with_reducible refine store_in_new ?_ ?_ | with_reducible refine wpAny_loadPart_at hx ?_ | with_reducible refine hcls.at ?_ | wp_step)
  · exact ⟨_, #[], _, (Heap.get?_update_ne _ _ _ _ hxs.symm).trans (Heap.get?_push_at rfl rfl), rfl, fun e he => absurd he (by simp), fun _ => rfl⟩
  · intro h' tk' hn' hs
    have hx₁ : (hp.push { cls := .type "dict", data := .dict #[] }).get? x = some { cls := .ref C, data := .fields fv } := Heap.get?_push_of_some _ hx
    refine hq h' tk' hp.objs.size (fun b o hb ho => ?_) (Nat.le_refl _) hxs.symm ?_ hn'
    · exact (hs.2 b (Nat.ne_of_lt (Heap.lt_size ho))).trans ((Heap.get?_update_ne _ _ _ _ hb).trans (Heap.get?_push_of_some _ ho))
    · exact (hs.2 x hxs).trans (Heap.get?_update_self _ hx₁ rfl)
end
end VSX
end PySem
namespace VS
open PySem L2 PySem.Spec PyProof.Rows PySem.VSX
theorem ost_newG {X : Cx} {pins : List (Addr × Obj)} {σ : L2.St} {H : Hp} {s : Shared} {a C : Addr} {f : Str} {y : V} {u : Value} {Q : Unit → Shared → Prop} {E : Value → Shared → Prop} {A : Around} (T : OexG X.K C) (I : Inv X pins σ H s) (e : H a = some (exo a C none)) (hno : PySem.W.findIn X.K (.ref C) f = some none) (ry : RelV y u)
    (h : ∀ dx s', H dx = none → dx ≠ a → Inv X pins σ (upd (upd H dx (exd dx [(f, y)])) a (exo a C (some dx))) s' → Q () s') : wpAny (model X.prog X.w) A (setAttr (.ref a) f u) Q E s := by
  obtain ⟨nm, q, N, bs, bm, sn, sub, ab, col, dd, k0, k1, k2, k3, k5, nid, hC, hbm⟩ := T.cls
  have hcl : PySem.W.clsIn X.K C = some { name := nm, bases := bs, mro := .ref C :: bm, ns := N, qualname := q, hasDict := true, slotNames := sn, subclasses := sub, abstract := ab, collection := col, hasDel := false } := by unfold PySem.W.clsIn; rw [hC] <;> rfl
  obtain ⟨t1, ho⟩ := exo_at I.hok e
  obtain ⟨hp, g, d, t, os⟩ := s
  refine PySem.W.set_plain I.kIn (ox := { cls := .ref C, dict := none, data := .fields #[.ref t1, .none, .none, .none, .bool false, .none] }) (od := none) ⟨ho, rfl, rfl, trivial⟩ T.sa ?_
  refine exc_osaG I.kIn ho hcl hbm rfl rfl hno (fun h' tk' dx k dn dne hx hn => ?_)
  have hnd : H dx = none := I.hok.fresh dn
  have nd : ∀ {b : Addr} {o : Obj}, hp.get? b = some o → b ≠ dx := fun {b o} q => Nat.ne_of_lt (Nat.lt_of_lt_of_le (Heap.lt_size q) dn)
  have na : ∀ {b : Addr}, H b = none → b ≠ a := fun {b} n z => by
    rw [z, e] at n
    cases n
  have Un1 : Un X.fs [] H (upd (upd H dx (exd dx [(f, y)])) a (exo a C (some dx))) hp h' := {
    keep := fun b o q n _ _ => k b o (na n) q
    slot := fun b o q n _ _ => ⟨o.slots, k b o (na n) q⟩
    free := fun b o q n _ => by rw [upd_ne (na n), upd_ne (nd q)]; exact n
    there := fun b o q _ => by
      by_cases hb : b = a
      · exact ⟨_, by rw [hb]; exact hx⟩
      · exact ⟨o, k b o hb q⟩
    tups := fun b xs q => by rw [upd_ne (at_ne e q exo_tup), upd_ne (ne_of_none q hnd)]; exact q
    frzs := fun b o v q => by rw [upd_ne (at_ne e q exo_frz), upd_ne (ne_of_none q hnd)]; exact q
    tbls := fun b ps q => ⟨#[], by rw [upd_ne (at_ne e q exo_tbl), upd_ne (ne_of_none q hnd), q]; simp⟩ }
  refine h dx _ hnd dne (I.un (t' := tk') Un1 fun b o q => ?_)
  by_cases hb : b = a
  · subst hb
    rw [upd_same] at q
    cases q
    exact exo_ok hx
  · rw [upd_ne hb] at q
    by_cases hd : b = dx
    · subst hd
      rw [upd_same] at q
      cases q
      exact exd_ok hn (relO_put (fs := []) ry fun g => True.intro)
    · rw [upd_ne hd] at q
      exact (I.hok b o q).stay (fun c v hc z => k c v (by
          rcases hc with hc | hc
          · rw [hc]
            exact hb
          · exact at_ne e hc exo_own) z)
        (fun c hc => by rw [upd_ne (at_ne e hc exo_own), upd_ne (ne_of_none hc hnd)]; exact hc) (fun c xs hc => by rw [upd_ne (at_ne e hc exo_tup), upd_ne (ne_of_none hc hnd)]; exact hc)
/-- self.f = e, the only field -/
def tOstG (K : PySem.W.Frag) (f : Str) (to te : TE) : TS := fun D σ H => te σ H fun y H1 => to σ H1 fun x H2 => ∃ a C : Addr, x = .ref a ∧ OexG K C ∧ PySem.W.findIn K (.ref C) f = some none ∧
  H2 a = some (exo a C none) ∧ ∀ dx, H2 dx = none → dx ≠ a → D.nx σ (upd (upd H2 dx (exd dx [(f, y)])) a (exo a C (some dx)))
section
variable {X : Cx} {o e : Expr} {es : List Expr} {to te : TE} {ta : TA} {f : Str} {p p' p1 p2 pos : Pos}
theorem ps_ostG (ho : PE X o to) (he : PE X e te) (hs : swapsWith e (some (.Attribute o f p')) pos.line X.env = pure false := by rfl) : PS X (.Assign [.Attribute o f p'] e pos) (tOstG X.K f to te) := by
  refine ⟨fun pins s σ H D I h => ?_⟩
  refine plainObj_wpAny_Assign_Attribute (thn (he.run pins s σ H _ I h) fun v s1 ⟨y, H1, I1, r1, q1⟩ => thn (ho.run pins s1 σ H1 _ I1 q1) fun u s2 ⟨x, H2, I2, r2, a, C, ex, T, hno, ea, q⟩ => ?_) hs
  subst ex
  obtain rfl : u = Value.ref a := r2
  exact ost_newG T I2 ea hno r1 fun dx s' n ne J => ⟨σ, _, J, q dx n ne⟩
theorem pmk_oexG {CX : CXT} {x : Str} {C fI : Addr} {k : Nat} {fd : FuncData} {ps : List Str} {sp : Sp} {ds : List Value} {dvs : List V} (T : OexG X.K C) (iC : PySem.W.findIn X.K (.ref C) "__init__" = some (some (.ref fI))) (tI : PySem.W.typeIn X.K (.ref fI) = some (.type "function"))
    (F1 : FnOk X.prog X.w X.K X.mg X.base CX k fI fd ps sp) (hr : Room (k + 1) X.A) (hb : Binds X.K fd ps ds) (hd : Vals dvs ds) (hx : Passes CX X (fun _ _ _ => False)) (hg : Gl X x) (hm : X.mg x = some (.ref C)) (ha : PA X (e :: es) ta)
    (hdb : (x == ("__debug__" : Str)) = false := by decide) (he : starEach (e :: es) X.env = (false, eval e X.env) :: starEach es X.env := by rfl) (hpl : (backTo pos (starEach es X.env)).any (·.1) = false := by rfl) :
    PMk X (.Call (.Name x p) (e :: es) [] pos) (tMkO C sp dvs ta) := by
  intro pins s σ H Q I h
  obtain ⟨nm, q, N, bs, bm, sn, sub, ab, col, dd, k0, k1, k2, k3, k5, nid, hC, hbm⟩ := T.cls
  refine wpAny_Call_Name_kw (ld_glob I hg hm ?_ hdb)
  refine PySem.W.callWith_K (h₀ := X.base) I.ok.mod.kin T.kC (thn (ha.run pos pins s σ H _ I h) fun us s1 ⟨vs, H1, I1, r1, hz, q1⟩ => ⟨I1.kIn, ?_⟩) he hpl
  show wpAny _ _ (call (.ref C) us) _ _ _
  obtain ⟨hp, g, dr, tk, os⟩ := s1
  have hsz : hp.objs.size ≤ hp.objs.size + 1 := Nat.le_succ _
  have hn : H1 (hp.objs.size + 1) = none := I1.hok.fresh hsz
  have hq := q1 (hp.objs.size + 1) hn
  have kk : ∀ b o, hp.get? b = some o → ((hp.push (PySem.W.kdv_tup us)).push (PySem.HandSPX.excO C hp.objs.size)).get? b = some o := fun b o e => Heap.get?_push_of_some _ (Heap.get?_push_of_some _ e)
  have hget : ((hp.push (PySem.W.kdv_tup us)).push (PySem.HandSPX.excO C hp.objs.size)).get? (hp.objs.size + 1) = some (PySem.HandSPX.excO C hp.objs.size) := by heap_get
  have I2 : Inv X pins σ (upd H1 (hp.objs.size + 1) (exo (hp.objs.size + 1) C none)) ⟨(hp.push (PySem.W.kdv_tup us)).push (PySem.HandSPX.excO C hp.objs.size), g, dr, tk, os⟩ :=
    I1.laid (t' := tk) (a := hp.objs.size + 1) (o := exo (hp.objs.size + 1) C none) (h' := (hp.push (PySem.W.kdv_tup us)).push (PySem.HandSPX.excO C hp.objs.size)) kk hsz (exo_ok hget)
  have r2 : Vals (V.ref (hp.objs.size + 1) :: (vs ++ dvs)) (Value.ref (hp.objs.size + 1) :: (us ++ ds)) := .cons rfl (r1.append hd)
  have hl : (Value.ref (hp.objs.size + 1) :: us ++ ds).length = ps.length := by
    have e := r2.length
    rw [F1.len _ _ _ _ hq] at e
    exact e.symm
  have hus : us.length ≤ sizeLine := by
    rw [← Paired.length r1, sizeLine_eq]
    omega
  refine wpAny_call (call_ownG hbm (I1.kIn _ _ hC) (PySem.W.looks_findIn I1.kIn iC) (fun self => PySem.W.bind_fn I1.kIn self tI) hus
    (codeAny_mono (F1.run _ X.stack _ _ ⟨Value.ref (hp.objs.size + 1) :: us, []⟩ (Value.ref (hp.objs.size + 1) :: (us ++ ds)) _ _ (fun _ _ _ => False) (hr.make C us []) (I2.env0.make C us []) (hb _ (Value.ref (hp.objs.size + 1) :: us) I2.kIn hl) r2 hq) fun r s' hq' => ?_))
  cases r with
  | error er => exact hx pins σ _ _ er s' I2 hq'
  | ok fl =>
    cases fl with
    | ret u =>
      obtain ⟨v, H2, os2, bare2, un2, hok2, rv, ev, d, fs, ea, ed, hd1, q2⟩ := hq'
      subst ev
      obtain ⟨h2, g2, d2, t2, os'⟩ := s'
      exact ⟨rv, mk_end (raises_own T.exC T.tyC) I1 hsz kk un2 hok2 os2 bare2 ea ed hd1 q2⟩
    | next => exact False.elim hq'
    | brk => exact False.elim hq'
    | cont => exact False.elim hq'
end
end VS
namespace VS
open PySem L2 PySem.Spec PyProof.Rows PySem.VSX
/-! ### an own exception of one field: its class, its making, raise -/
/-- what __init__ keeps: self.f = v -/
def spXi (C : Addr) (f : Str) : Sp := fun vs H Q _ => ∃ (a : Addr) (v : V), vs = [.ref a, v] ∧ H a = some (exo a C none) ∧ ∀ dx, H dx = none → dx ≠ a → Q .non (upd (upd H dx (exd dx [(f, v)])) a (exo a C (some dx)))
/-- the class x, at C, of exceptions with the field f -/
structure Xc (P : Program) (w : World) (K : PySem.W.Frag) (mg : Str → Option Value) (base : Heap) (x : Str) (C : Addr) (f : Str) : Prop where
  ox : OexG K C
  xf : XfC K C
  no : PySem.W.findIn K (.ref C) f = some none
  at_ : mg x = some (.ref C)
  fn : ∃ (fI : Addr) (fd : FuncData) (ps : List Str), PySem.W.findIn K (.ref C) "__init__" = some (some (.ref fI)) ∧ PySem.W.typeIn K (.ref fI) = some (.type "function") ∧ FnOk P w K mg base C8.CX0 1 fI fd ps (spXi C f) ∧ Binds K fd ps []
section
variable {P : Program} {w : World} {K : PySem.W.Frag} {mg : Str → Option Value} {base : Heap}
theorem xinit_ok {qual : Str} {st : Stmt} {C fI : Addr} {fd : FuncData} {f : Str} {N ps : List Str} (F : Fd K "__init__" qual st [] fI fd) (Sc : FnScope N ps (defScope st)) (h2 : ps.length = 2) (ox : OexG K C) (no : PySem.W.findIn K (.ref C) f = some none)
    (body : ∀ (cdv : Value) (A : Around) (outer : List Env) (s : Shared) (H : Hp) (E : XK), PSs (cxOf C8.CX0 P w K mg base N qual (defScope st) fI cdv A outer s H E) (defBody st) (tOstG K f (tVar 0) (tVar 1))) :
    FnOk P w K mg base C8.CX0 1 fI fd ps (spXi C f) :=
  FunD.ok F Sc (fun vs H Q E h => by obtain ⟨a, v, rfl, _⟩ := h; exact h2.symm) fun cdv A outer s H vs Q E _ h => by
    obtain ⟨a, v, rfl, ha, q⟩ := h
    exact ⟨_, body cdv A outer s H E, v, rfl, .ref a, rfl, a, C, rfl, ox, no, ha, fun dx hn ne => q dx hn ne⟩
end
def tRz (C : Addr) (f : Str) (te : TE) (W : L2.St → XK) : TS := fun _ σ H => tMkO C (spXi C f) [] (tCons te tNil) σ H fun cls d H' => W σ cls d H'
theorem ps_rz {X : Cx} {x : Str} {C : Addr} {f : Str} {e : Expr} {te : TE} {W : L2.St → XK} {p pos pos' : Pos} (tk : Takes X (fun cls d σ H => W σ cls d H)) (xc : Xc X.prog X.w X.K X.mg X.base x C f) (hr : Room 2 X.A) (hg : Gl X x) (he : PE X e te)
    (hc : X.calm = true := by rfl) (hdb : (x == ("__debug__" : Str)) = false := by decide) (hst : starEach [e] X.env = (false, eval e X.env) :: starEach [] X.env := by rfl) : PS X (.Raise (some (.Call (.Name x p) [e] [] pos)) none pos') (tRz C f te W) := by
  obtain ⟨fI, fd, ps, iC, tI, F1, b⟩ := xc.fn
  exact ps_raise hc tk (pmk_oexG xc.ox iC tI F1 hr b .nil C8.pass0 hg xc.at_ (pa_cons he pa_nil hst) hdb hst)
section
variable {c : Ctx} {ρ : Rho} {S : Sto} {P : Po}
theorem xd_heap {H1 : Hp} {a C dx : Addr} {f : Str} {v : V} (ha : H1 a = none) : upd (L2.del (upd (upd (upd H1 a (exo a C none)) dx (exd dx [(f, v)])) a (exo a C (some dx))) a) dx (.xd [(f, v)]) = upd H1 dx (.xd [(f, v)]) := by
  funext b
  by_cases z : b = dx
  · subst z; rw [upd_same, upd_same]
  · rw [upd_ne z, upd_ne z]
    by_cases y : b = a
    · subst y; rw [L2.del_same, ha]
    · rw [L2.del_ne y, upd_ne y, upd_ne z, upd_ne y]
theorem vx_raise {C : Addr} {f : Str} {te : TE} (h : VE c te ρ S fun x S1 => c.Y C [(f, x)] ρ S1) : VX c (tRz C f te c.E) ρ S P := fun T σ H I D b =>
  h T σ H I _ fun v x S1 T1 H1 m1 c1 r1 q => by
    refine ⟨(by decide : 1 ≤ 1000), fun a na => ⟨a, v, rfl, upd_same, fun dx hdx ne => ⟨rfl, dx, [(f, v)], upd_same, ?_, ?_, ?_⟩⟩⟩
    · rw [upd_ne ne, upd_same]
    · rw [upd_ne ne] at hdx; exact hdx
    · have hd : H1 dx = none := by rw [upd_ne ne] at hdx; exact hdx
      rw [xd_heap na]
      have m2 := m1.trans (mv_new (o := .xd [(f, v)]) hd)
      have cl := c1.new (o := .xd [(f, v)]) hd
      exact I.exc σ ρ C (some dx) [(f, x)] S1 T1 _ m2 cl (I.mv m2 cl).sl ⟨dx, [(f, v)], rfl, c1.free hd, upd_same, .cons (r1.mv (mv_new hd)) .nil⟩ q
/-! ### e.f in an except suite -/
theorem ve_xf {a C : Addr} {d : Option Addr} {f : Str} {te : TE} {F : D → Sto → Prop} (h : VE c te ρ S fun x S1 => ∃ dd fs e, x = .xcp a dd C fs ∧ d = some dd ∧ fs.lookup f = some e ∧ F e S1) : VE c (tXf a (.ref C) d C f te) ρ S F := fun T σ H I Q k =>
  h T σ H I _ fun v x S1 T1 H1 m1 c1 r1 ⟨dd, fs, e, e1, e2, hl, q⟩ => by
    subst e1
    cases r1 with
    | xcp s hx r =>
      obtain ⟨v, h1, h2⟩ := r.lookup hl
      exact ⟨rfl, rfl, dd, _, v, e2, hx, h1, k v e S1 T1 H1 m1 c1 h2 q⟩
end
/-! ### try: several clauses, with names or without; what stands behind them is never looked at -/
structure Cla where
  c : Value
  i : Option Nat
  t : Addr → Value → Option Addr → TS
def inSl (i : Option Nat) (a : Addr) (σ : L2.St) : L2.St := match i with
  | none => σ
  | some i => σ.set i (some (.ref a))
def offSl (i : Option Nat) (σ : L2.St) : L2.St := match i with
  | none => σ
  | some i => σ.set i none
def offE (i : Option Nat) (D : Ends) : Ends := { nx := fun σ H => D.nx (offSl i σ) H, rt := D.rt, bk := fun σ H => D.bk (offSl i σ) H, ct := fun σ H => D.ct (offSl i σ) H }
def wCla (K : PySem.W.Frag) (D : Ends) : List Cla → WX
  | [] => fun _ _ _ _ => False
  | k :: r => fun cls d σ H => ∃ b, PySem.W.exmOne K cls k.c = some b ∧ (b = true → ∀ a, H a = none → k.t a cls d (offE k.i D) (inSl k.i a σ) H) ∧ (b = false → wCla K D r cls d σ H)
/-! ### .. by value -/
def inR (i : Option Nat) (d : D) (ρ : Rho) : Rho := match i with
  | none => ρ
  | some i => ρ.set i (some d)
def offR (i : Option Nat) (ρ : Rho) : Rho := match i with
  | none => ρ
  | some i => ρ.set i none
def offP (i : Option Nat) (P : Po) : Po := ⟨fun ρ S => P.nx (offR i ρ) S, P.rt, fun ρ S => P.bk (offR i ρ) S, fun ρ S => P.ct (offR i ρ) S⟩
def HdV (c : Ctx) (P : Po) : List Cla → Addr → List (Str × D) → Rho → Sto → Prop
  | [], _, _, _, _ => False
  | k :: r, C, fs, ρ, S => ∃ b, PySem.W.exmOne c.K (.ref C) k.c = some b ∧ (b = true → ∀ a dd, VX c (k.t a (.ref C) (some dd)) (inR k.i (.xcp a dd C fs) ρ) S (offP k.i P)) ∧ (b = false → HdV c P r C fs ρ S)
theorem In.off {c : Ctx} {σ : L2.St} {H : Hp} {ρ : Rho} {S T : Sto} (I : In c σ H ρ S T) (i : Option Nat) : In c (offSl i σ) H (offR i ρ) S T := by
  cases i with
  | none => exact I
  | some i =>
    refine ⟨I.cells, fun j e q => ?_, by show (σ.set i none).length = (ρ.set i none).length; simp [I.len], I.exc⟩
    have q' : (ρ.set i none)[j]? = some (some e) := q
    by_cases z : i = j
    · subst z
      by_cases hv : i < ρ.length
      · rw [List.getElem?_set_self hv] at q'; cases q'
      · rw [List.getElem?_eq_none (by simpa using hv)] at q'; cases q'
    · rw [List.getElem?_set_ne z] at q'
      obtain ⟨u, h1, h2⟩ := I.slots j e q'
      exact ⟨u, by show (σ.set i none)[j]? = _; rw [List.getElem?_set_ne z]; exact h1, h2⟩
theorem Bh.off {c : Ctx} {P : Po} {D : Ends} {T : Sto} {H : Hp} (b : Bh c P D T H) (i : Option Nat) : Bh c (offP i P) (offE i D) T H :=
  ⟨fun _ _ S' T' H' m I q => b.nx _ _ S' T' H' m (I.off i) q, b.rt, fun _ _ S' T' H' m I q => b.bk _ _ S' T' H' m (I.off i) q, fun _ _ S' T' H' m I q => b.ct _ _ S' T' H' m (I.off i) q⟩
theorem vx_try {c : Ctx} {ρ : Rho} {S : Sto} {P : Po} {tb : WX → TS} {l : List Cla} (h : ∀ E' : L2.St → XK, VX ⟨c.K, E', fun C fs ρ' S' => HdV c P l C fs ρ' S'⟩ (tb (fun cls d σ H => E' σ cls d H)) ρ S P) :
    VX c (fun D σ H => tb (wCla c.K D l) D σ H) ρ S P := fun T σ H I Dn b => by
  have key : ∀ (l : List Cla) (σ' : L2.St) (ρ' : Rho) (C : Addr) (d : Option Addr) (fs : List (Str × D)) (S' T' : Sto) (H' : Hp), Mv T H T' H' → Cells c.K H' S' T' → Sl c.K H' T' σ' ρ' → XRep c.K H' T' d fs → HdV c P l C fs ρ' S' → wCla c.K Dn l (.ref C) d σ' H' := by
    intro l
    induction l with
    | nil => exact fun _ _ _ _ _ _ _ _ _ _ _ _ y => y.elim
    | cons k r ih =>
      rintro σ' ρ' C d fs S' T' H' m cl sl ⟨dd, fv, rfl, sd, hd, rf⟩ ⟨bb, e, yes, no⟩
      refine ⟨bb, e, fun z a na => ?_, fun z => ih σ' ρ' C _ fs S' T' H' m cl sl ⟨dd, fv, rfl, sd, hd, rf⟩ (no z)⟩
      have I2 : In c σ' H' ρ' S' T' := ⟨cl, sl.slots, sl.len, (I.mv m cl).exc⟩
      have rx : Rep c.K H' T' (.ref a) (.xcp a dd C fs) := .xcp sd hd rf
      have I3 : In c (inSl k.i a σ') H' (inR k.i (.xcp a dd C fs) ρ') S' T' := by
        cases k.i with
        | none => exact I2
        | some i => exact I2.set i rx
      exact yes z a dd T' _ H' I3 _ ((b.mv m).off k.i)
  have I' : In ⟨c.K, fun σ cls d H => wCla c.K Dn l cls d σ H, fun C fs ρ' S' => HdV c P l C fs ρ' S'⟩ σ H ρ S T := ⟨I.cells, I.slots, I.len, fun σ' ρ' C d fs S' T' H' m cl sl x y => key l σ' ρ' C d fs S' T' H' m cl sl x y⟩
  have b' : Bh ⟨c.K, fun σ cls d H => wCla c.K Dn l cls d σ H, fun C fs ρ' S' => HdV c P l C fs ρ' S'⟩ P Dn T H :=
    ⟨fun σ' ρ' S' T' H' m J q => b.nx σ' ρ' S' T' H' m ⟨J.cells, J.slots, J.len, (I.mv m J.cells).exc⟩ q, fun v d S' T' H' m cl r q => b.rt v d S' T' H' m cl r q,
     fun σ' ρ' S' T' H' m J q => b.bk σ' ρ' S' T' H' m ⟨J.cells, J.slots, J.len, (I.mv m J.cells).exc⟩ q, fun σ' ρ' S' T' H' m J q => b.ct σ' ρ' S' T' H' m ⟨J.cells, J.slots, J.len, (I.mv m J.cells).exc⟩ q⟩
  exact h (fun σ cls d H => wCla c.K Dn l cls d σ H) T σ H I' Dn b'
end VS
namespace VS
open PySem L2 C8 PySem.Spec PyProof.Rows
/-! ### sorted of whole numbers, of a list or a tuple -/
section
variable {prog : Program} {w : World} {A : Around} {E : Value → Shared → Prop} {s : Shared}
theorem collect_tup {t : Addr} {vs : List Value} {Q : List Value → Shared → Prop} (hl : s.heap.IsTuple t vs.toArray) (hz : vs.length ≤ sizeLine)
    (h : Q vs { s with heap := (s.heap.push (seqObj "list" #[] 0)).update s.heap.objs.size (Obj.mapSeq (· ++ vs.toArray)) }) : wpAny (model prog w) A (collect (.ref t)) Q E s := by
  obtain ⟨o, ho, hc, n, hd⟩ := id hl
  have ho' : (s.heap.push (seqObj "list" #[] 0)).get? t = some o := Heap.get?_push_of_some _ ho
  have ne : t ≠ s.heap.objs.size := Nat.ne_of_lt (Heap.lt_size ho)
  unfold collect
  refine wpAny_bind (wpAny_runValue (codeAny_builtin entry_proto_collect' ?_))
  show wpAny _ _ (newList [] >>= fun l => again (.builtin "list.__iadd__" ⟨[l, .ref t], []⟩)) _ _ s
  refine wpAny_bind (wpAny_newList (wpAny_pure ⟨Code.quiet_builtin _ (by decide +kernel), codeAny_builtin entry_list_iadd' ?_⟩))
  show wpAny _ _ (Builtin.List.listExtendWith (.ref s.heap.objs.size) (.ref t) (.ref s.heap.objs.size)) _ _ { s with heap := s.heap.push (seqObj "list" #[] 0) }
  unfold Builtin.List.listExtendWith
  refine wpAny_bind (wpAny_typeOf (T := "tuple") ⟨o, ho', hc⟩ ?_)
  have h3 : (Value.type "tuple" == Value.type "tuple") = true := by decide +kernel
  rw [if_pos (by rw [h3]; simp)]
  refine wpAny_bind (listItems_at ho' hd ?_)
  refine wpAny_bind (listItems_at (xs := #[]) (n := 0) (Heap.get?_push_size _ rfl) rfl ?_)
  rw [if_neg (by simp)]
  refine wpAny_bind (listUpdate_at (xs := #[]) (n := 0) (Heap.get?_push_size _ rfl) rfl ?_ (Nat.zero_le _) (by show (#[] ++ vs.toArray).size ≤ sizeLine + 1; simp only [Array.size_append, List.size_toArray, List.length_nil]; omega))
  refine wpAny_pure ?_
  show wpAny (model prog w) A (load s.heap.objs.size >>= fun o => match o.data with
      | .seq xs _ => pure xs.toList
      | _ => unsupported "internal:collect") Q E { s with heap := (s.heap.push (seqObj "list" #[] 0)).update s.heap.objs.size (Obj.mapSeq (· ++ vs.toArray)) }
  refine wpAny_bind (wpAny_load (get?_update_seq (Heap.get?_push_size _ rfl) _) ?_)
  show wpAny _ _ (pure ((#[] : Array Value) ++ vs.toArray).toList) Q E _
  rw [show ((#[] : Array Value) ++ vs.toArray).toList = vs by simp]
  exact wpAny_pure h
/-- sorted(x, ..): whatever x is that is collected to vs -/
theorem sorted_of {x : Value} {vs : List Value} {b : Bool} {kw : List (Str × Value)} {ltv : Value → Value → Bool} {Q : Value → Shared → Prop} (hk : ∀ a, Builtin.«list.sort» ⟨[.ref a], kw⟩ = Builtin.«list.sort» ⟨[.ref a], [(Str.ofString "reverse", .bool b)]⟩)
    (ha1 : argsOk "sorted" ⟨[x], kw⟩) (ha2 : ∀ a, argsOk "list.sort" ⟨[a], kw⟩) (O : SrtO.Swo ltv) (hz : vs.length ≤ sizeLine)
    (col : ∀ {B : Around} {R : List Value → Shared → Prop} {E' : Value → Shared → Prop}, R vs { s with heap := (s.heap.push (seqObj "list" #[] 0)).update s.heap.objs.size (Obj.mapSeq (· ++ vs.toArray)) } → wpAny (model prog w) B (collect x) R E' s)
    (hS : 2 ≤ vs.length → ∀ (h₁ : Heap) (a : Addr), SrtO.SortableO prog w A.in1.in1 { s with heap := h₁ } a vs ltv)
    (h : ∀ out : List Value, SrtO.Srtd ltv out → SrtO.Stb ltv out (if b = true then vs.reverse else vs) → Q (.ref (s.heap.objs.size + 1)) { s with heap := sortedAll s.heap vs (if b = true then out.toArray.reverse else out.toArray) }) :
    wpAny (model prog w) A (call (.builtin "sorted") [x] kw) Q E s := by
  refine call_function_entry_kw kind_sorted plain_sorted entry_sorted ha1 ?_
  unfold Builtin.«sorted»
  refine wpAny_bind (m := checkCount "sorted" 1 1 _) (wpAny_pure ?_)
  refine wpAny_bind (col (wpAny_bind (wpAny_newList ?_ hz)))
  have sz : ((s.heap.push (seqObj "list" #[] 0)).update s.heap.objs.size (Obj.mapSeq (· ++ vs.toArray))).objs.size = s.heap.objs.size + 1 := by rw [Heap.size_update, size_push']
  have at1 : (((s.heap.push (seqObj "list" #[] 0)).update s.heap.objs.size (Obj.mapSeq (· ++ vs.toArray))).push (seqObj "list" vs.toArray 0)).get? (s.heap.objs.size + 1) = some (seqObj "list" vs.toArray 0) := by
    rw [← sz]; exact Heap.get?_push_size _ rfl
  show wpAny _ _ _ _ _ { s with heap := ((s.heap.push (seqObj "list" #[] 0)).update s.heap.objs.size (Obj.mapSeq (· ++ vs.toArray))).push (seqObj "list" vs.toArray 0) }
  rw [sz]
  refine wpAny_bind (wpAny_holding (wpAny_call_entry_kw slot_list_sort ⟨_, at1, rfl⟩ entry_list_sort ?_ (ha2 _)))
  rw [hk]
  exact SrtR.list_sort_ordR O at1 hz (fun h2 => hS h2 _ _) fun out h1 h2 => ⟨_, rfl, wpAny_pure ⟨_, rfl, h out h1 h2⟩⟩
end
/-- the numbers rising; falling -/
def up (ns : List Int) : List Int := ns.mergeSort (fun a b => decide (a ≤ b))
def dn (ns : List Int) : List Int := (up ns).reverse
theorem up_perm (ns : List Int) : (up ns).Perm ns := List.mergeSort_perm ..
theorem up_sorted (ns : List Int) : (up ns).Pairwise (· ≤ ·) := by
  have h := List.pairwise_mergeSort (le := fun a b : Int => decide (a ≤ b)) (fun a b c h1 h2 => decide_eq_true (Int.le_trans (of_decide_eq_true h1) (of_decide_eq_true h2))) (fun a b => by
    rcases Int.le_total a b with h | h
    · rw [decide_eq_true h]; rfl
    · rw [decide_eq_true h, Bool.or_true]) ns
  exact h.imp of_decide_eq_true
theorem up_eq {ns ms : List Int} (h : ms.Perm ns) (h2 : ms.Pairwise (· ≤ ·)) : ms = up ns :=
  List.Perm.eq_of_pairwise (le := (· ≤ ·)) (fun a b _ _ h1 h2 => Int.le_antisymm h1 h2) h2 (up_sorted ns) (h.trans (up_perm ns).symm)
theorem dn_eq {ns ms : List Int} (h : ms.Perm ns) (h2 : ms.Pairwise (· ≥ ·)) : ms = dn ns := by
  have e := up_eq (ns := ns) (ms := ms.reverse) ((List.reverse_perm ms).trans h) (by rw [List.pairwise_reverse]; exact h2)
  unfold dn
  rw [← e, List.reverse_reverse]
theorem up_len (ns : List Int) : (up ns).length = ns.length := (up_perm ns).length_eq
def srtB (b : Bool) (ns : List Int) : List Int := if b = true then dn ns else up ns
def rSorted (K : PySem.W.Frag) : CR1 := fun vs H Q => ∃ (a : Addr) (ns : List Int), vs = [V.ref a] ∧ (SqL K H a (ns.map V.int) ∨ SqT K H a (ns.map V.int)) ∧ ∀ p, H p = none → Q (.ref p) (upd H p (.lst ((up ns).map V.int)))
def rSortedR (K : PySem.W.Frag) (b : Bool) : List V → List V → Hp → VK → Prop := fun vs zs H Q => ∃ (a : Addr) (ns : List Int), vs = [V.ref a] ∧ zs = [.bl b] ∧ (SqL K H a (ns.map V.int) ∨ SqT K H a (ns.map V.int)) ∧ ∀ p, H p = none → Q (.ref p) (upd H p (.lst ((srtB b ns).map V.int)))
section
variable {X : Cx}
theorem sorted_any {b : Bool} {kw : List (Str × Value)} {pins : List (Addr × Obj)} {s : Shared} {σ : L2.St} {H : Hp} {a : Addr} {ns : List Int} {Q : VK} (I : Inv X pins σ H s) (hs : SqL X.K H a (ns.map V.int) ∨ SqT X.K H a (ns.map V.int))
    (hk : ∀ a, Builtin.«list.sort» ⟨[.ref a], kw⟩ = Builtin.«list.sort» ⟨[.ref a], [(Str.ofString "reverse", .bool b)]⟩) (ha1 : argsOk "sorted" ⟨[.ref a], kw⟩) (ha2 : ∀ a, argsOk "list.sort" ⟨[a], kw⟩)
    (q : ∀ p, H p = none → Q (.ref p) (upd H p (.lst ((srtB b ns).map V.int)))) : wpAny (model X.prog X.w) X.A (call (.builtin "sorted") [.ref a] kw) (EP X pins σ Q) X.xe s := by
  have fin : ∀ its : List Value, Vals (ns.map V.int) its → (ns.map V.int).length ≤ sizeLine →
      (∀ {B : Around} {R : List Value → Shared → Prop} {E' : Value → Shared → Prop}, R its { s with heap := (s.heap.push (seqObj "list" #[] 0)).update s.heap.objs.size (Obj.mapSeq (· ++ its.toArray)) } → wpAny (model X.prog X.w) B (collect (.ref a)) R E' s) →
      wpAny (model X.prog X.w) X.A (call (.builtin "sorted") [.ref a] kw) (EP X pins σ Q) X.xe s := fun its rv hz col => by
    have hi := rv.ints
    refine sorted_of hk ha1 ha2 SrtO.swo_int (by rw [← rv.length]; exact hz) col (fun h2 h₁ a' => SrtO.ints_sortable hi h2) fun out h1 h2 => ?_
    obtain ⟨ns', k1, k2, k3⟩ := SrtR.ints_outR hi h1 h2
    have e : ns' = srtB b ns := by
      cases b with
      | true => exact dn_eq k2 k3
      | false => exact up_eq k2 k3
    subst e
    obtain ⟨ep, he'⟩ := PyProof.Rows.sortedAll_at s.heap its (if b = true then out.toArray.reverse else out.toArray)
    have hlen : ((srtB b ns).map V.int).length ≤ sizeLine := by
      rw [List.length_map, k2.length_eq]
      rw [List.length_map] at hz
      exact hz
    have e0 : ((if b = true then out.toArray.reverse else out.toArray).toList).toArray = (if b = true then out.toArray.reverse else out.toArray) := by rw [Array.toArray_toList]
    exact ⟨.ref _, upd H (s.heap.objs.size + 1) (.lst ((srtB b ns).map V.int)), I.laid (t' := s.toks) (fun _ _ => PyProof.Rows.sortedAll_old) (Nat.le_succ _) ⟨hlen, _, ep, vals_of_ints k1, by rw [e0]; exact he'⟩, rfl, q _ (I.hok.fresh (Nat.le_succ _))⟩
  rcases hs with hs | hs
  · obtain ⟨its, rv, hl, hz⟩ := I.list hs
    exact fin its rv hz fun r => collect_list hl.isList r (by rw [← rv.length]; exact hz)
  · obtain ⟨its, rv, hl, hz⟩ := I.tuple hs
    exact fin its rv hz fun r => collect_tup hl (by rw [← rv.length]; exact hz) r
theorem sort_plain (a : Addr) : Builtin.«list.sort» ⟨[.ref a], []⟩ = Builtin.«list.sort» ⟨[.ref a], [(Str.ofString "reverse", .bool false)]⟩ := by
  first | rfl | kernel_rfl
theorem c_sorted : CallR X (.builtin "sorted") (rSorted X.K) := by
  intro pins s σ H vs us Q I r h
  obtain ⟨a, ns, rfl, hs, q⟩ := h
  rw [Vals.ref1 r]
  exact sorted_any (b := false) I hs sort_plain (args_sorted1 _) (fun _ => args_list_sort _) q
theorem c_sortedR {b : Bool} : CallRK X (.builtin "sorted") [Str.ofString "reverse"] (rSortedR X.K b) := by
  intro pins s σ H vs zs us ws Q I r rz h
  obtain ⟨a, ns, rfl, rfl, hs, q⟩ := h
  obtain rfl := Vals.ref1 r
  obtain ⟨w1, rfl, e1⟩ := vals1 rz
  obtain rfl : w1 = Value.bool b := e1
  exact sorted_any I hs (fun _ => rfl) (PyProof.Rows.args_sorted_rev _ _) (fun _ => PyProof.Rows.args_list_sort_rev _ _) q
end
section
variable {c : Ctx} {ρ : Rho} {S : Sto} {F : D → Sto → Prop}
theorem rc_sorted {x : D} {ns : List Int} (h : IsQ S x (ns.map D.int)) (q : F (.lst ((up ns).map D.int)) S) : RC c (rSorted c.K) [x] S F := fun T us H cl r Q k => by
  cases r with
  | cons h1 t =>
    cases t
    obtain ⟨a, xs, rfl, s, r⟩ := h.rd cl h1
    have e := r.ints
    subst e
    exact ⟨a, ns, rfl, s, fun p hp => k _ _ S T _ (mv_new hp) (cl.new hp) (.lst (cl.free hp) upd_same RepL.ofInts) q⟩
def RCK (c : Ctx) (r : List V → List V → Hp → VK → Prop) (ds es : List D) (S : Sto) (F : D → Sto → Prop) : Prop := ∀ T us ws H, Cells c.K H S T → RepL c.K H T us ds → RepL c.K H T ws es → ∀ Q : VK,
  (∀ v d S' T' H', Mv T H T' H' → Cells c.K H' S' T' → Rep c.K H' T' v d → F d S' → Q v H') → r us ws H Q
theorem ve_ckw {r : List V → List V → Hp → VK → Prop} {t tk : TA} (h : VA c t ρ S fun ds S1 => VA c tk ρ S1 fun es S2 => RCK c r ds es S2 F) : VE c (tCKw r t tk) ρ S F := fun T σ H I Q k =>
  h T σ H I _ fun us ds S1 T1 H1 m1 c1 r1 h1 => h1 T1 σ H1 (I.mv m1 c1) _ fun ws es S2 T2 H2 m2 c2 r2 h2 => h2 T2 us ws H2 c2 (r1.mv m2) r2 Q fun v d S3 T3 H3 m3 => k v d S3 T3 H3 (m1.trans (m2.trans m3))
theorem rck_sortedR {x : D} {b : Bool} {ns : List Int} (h : IsQ S x (ns.map D.int)) (q : F (.lst ((srtB b ns).map D.int)) S) : RCK c (rSortedR c.K b) [x] [.bl b] S F := fun T us ws H cl r r' Q k => by
  cases r with
  | cons h1 t =>
    cases t
    cases r' with
    | cons h2 t =>
      cases t
      cases h2
      obtain ⟨a, xs, rfl, s, r⟩ := h.rd cl h1
      have e := r.ints
      subst e
      exact ⟨a, ns, rfl, rfl, s, fun p hp => k _ _ S T _ (mv_new hp) (cl.new hp) (.lst (cl.free hp) upd_same RepL.ofInts) q⟩
/-! ### a list taken apart; zip of tuples or lists -/
theorem vg_unl {d : D} {n : Nat} {gs : TGs} {ds : List D} {F : Rho → Sto → Prop} (hd : IsL S d ds) (hn : ds.length = n) (h : VGs c gs ds ρ S F) : VG c (gUnl c.K n gs) d ρ S F := fun T v σ H I r Q k => by
  obtain ⟨a, xs, rfl, s, r⟩ := hd.rd I.cells r
  exact ⟨a, xs, rfl, s, by rw [r.length]; exact hn, h T xs σ H I r Q k⟩
/-- a tuple by value stays -/
theorem tup_stays {K : PySem.W.Frag} {T : Sto} {H : Hp} {u : V} {ds : List D} (r : Rep K H T u (.tup ds)) : ∃ a xs, u = .ref a ∧ (∀ T' H', Mv T H T' H' → SqT K H' a xs) ∧ RepL K H T xs ds := by
  cases r with
  | tup s h r => exact ⟨_, _, rfl, fun T2 H2 m => .inl (.inl (m.keep _ _ s h)), r⟩
  | tupK h r => exact ⟨_, _, rfl, fun T2 H2 m => .inr h, r⟩
theorem walk_zipT {K : PySem.W.Frag} {a b : Addr} {xs ys : List V} {n : Nat} (hn : n = min xs.length ys.length) : Walk (RZ.ItzT K a b) n (fun H => SqT K H a xs ∧ SqT K H b ys) (YPair (fun i => xs[i]?) (fun i => ys[i]?)) := by
  subst hn
  refine ⟨fun i H hi g => ?_, fun H g => ⟨xs, ys, g.1, g.2, by omega⟩, fun i H v H' hi g y => ?_⟩
  · exact ⟨xs, ys, xs[i]'(by omega), ys[i]'(by omega), g.1, g.2, List.getElem?_eq_getElem (by omega), List.getElem?_eq_getElem (by omega)⟩
  · obtain ⟨T, u, w, h1, h2, h3, h4, h5⟩ := y
    exact ⟨T, u, w, h1, h2, h3, h4 xs g.1, h5 ys g.2⟩
theorem vi_zipT {ta : TA} {W : List D → Sto → Prop} (h : VA c ta ρ S fun xs S1 => ∃ ds es, xs = [.tup ds, .tup es] ∧ W (zipD ds es) S1) : VI c (RZ.iZipA c.K ta) ρ S W := fun T σ H I R k =>
  h T σ H I _ fun vs es S1 T1 H1 m1 c1 r1 ⟨ds, es', e, q⟩ => by
    subst e
    cases r1 with
    | cons h1 t => cases t with
      | cons h2 t =>
        cases t
        obtain ⟨a, xs, rfl, hq, r⟩ := tup_stays h1
        obtain ⟨b, ys, rfl, hq', r2⟩ := tup_stays h2
        refine ⟨a, b, xs, ys, rfl, .inr ⟨hq _ _ Mv.refl, hq' _ _ Mv.refl, k _ (zipD ds es') S1 T1 H1 m1 c1 ⟨fun H => SqT c.K H a xs ∧ SqT c.K H b ys, _, walk_zipT (by rw [zipD_len, r.length, r2.length]), fun T2 H2 m => ⟨hq T2 H2 m, hq' T2 H2 m⟩, fun i d S2 T2 H2 H3 y e m cl yy => ?_⟩ q⟩⟩
        obtain ⟨T, u, w, e1, hT, e2, e3, e4⟩ := yy
        obtain ⟨p, p', e5, e6, e7⟩ := zipD_get e
        subst e1 e2 e7
        obtain ⟨v, e8, q1⟩ := r.get e5
        obtain ⟨v', e9, q2⟩ := r2.get e6
        have e3' : xs[i]? = some u := e3
        have e4' : ys[i]? = some w := e4
        rw [e3'] at e8
        rw [e4'] at e9
        cases e8
        cases e9
        exact ⟨mv_new hT, cl.new hT, .tup (cl.free hT) upd_same (.cons ((q1.mv m).mv (mv_new hT)) (.cons ((q2.mv m).mv (mv_new hT)) .nil))⟩
end
end VS
namespace VS
open PySem L2 C8 PySem.Spec PyProof.Rows
/-! ### enumerate over a tuple -/
end VS
namespace VS
open PySem L2 C8 PySem.Spec PyProof.Rows
/-! ### own classes: what is known of a thing's class, isinstance -/
inductive OfC (K : PySem.W.Frag) (S : Sto) : D → Value → Prop
  | p {x : D} {n : String} (h : TyS S x n) : OfC K S x (.type n)
  | i {x : D} {C : Addr} {fs : List (Str × D)} (h : IsI S x C fs) (c : InsC K C) : OfC K S x (.ref C)
  | e {C : Addr} {fs : List (Str × D)} (T : XcT K C) : OfC K S (.xv C fs) (.ref C)
theorem OfC.ok {K : PySem.W.Frag} {H : Hp} {S T : Sto} {x : D} {t : Value} {u : V} (o : OfC K S x t) (cl : Cells K H S T) (r : Rep K H T u x) : TyZ K H u t := by
  cases o with
  | e T => cases r with | xv s h s2 h2 r => exact .e h h2 T
  | p h => exact .x (h.ok cl r)
  | i h c =>
    obtain ⟨a, dx, fs, rfl, ha, _⟩ := h.rd cl r
    exact .x (.base (.ins ha c.cl c.ha c.hn c.htk c.hm))
def rIsiV (K : PySem.W.Frag) : CR1 := fun xs H Q => ∃ (x : V) (tp : Addr) (cs : List V) (t : Value) (us : List Value) (b : Bool), xs = [x, .ref tp] ∧ SqT K H tp cs ∧ Paired ClsV cs us ∧ TyZ K H x t ∧ PySem.W.kitAny K t us = some b ∧ Q (.bl b) H
theorem c_isiV {X : Cx} : CallR X (.builtin "isinstance") (rIsiV X.K) := by
  intro pins s σ H xs us Q I r h
  obtain ⟨x, tp, cs, t, ws, b, rfl, hT, k, ty, e, q⟩ := h
  obtain ⟨u1, u2, rfl, r1, r2⟩ := vals2 r
  cases (show u2 = Value.ref tp from r2)
  obtain ⟨P, Z, p, hx⟩ := kit_ofZ I r1 ty
  obtain ⟨its, rv, ⟨o, h1, h2, n, h3⟩, _⟩ := I.tuple hT
  have e3 := ClsV.all k rv
  subst e3
  obtain ⟨oc, od, dt, sl⟩ := o
  simp only at h2 h3
  subst h2 h3
  exact PySem.W.kia_tup Z I.kIn p h1 e hx fun tk => ⟨.bl b, H, I.tok tk, rfl, q⟩
section
variable {c : Ctx} {ρ : Rho} {S : Sto} {F : D → Sto → Prop}
theorem rc_isiO {x : D} {t : Value} {C : Addr} {b : Bool} (o : OfC c.K S x t) (h : PySem.W.kitOne c.K t (.ref C) = some b) (q : F (.bl b) S) : RC c (rIsiZ c.K) [x, .ref C] S F := fun T us H cl r Q k => by
  cases r with
  | cons h1 r => cases r with
    | cons h2 r =>
      cases r
      cases h2
      exact ⟨_, _, _, _, b, rfl, .own C, o.ok cl h1, h, k _ _ S T H Mv.refl cl (.bl _) q⟩
/-- an own class's name -/
theorem ve_cls {C : Addr} (q : F (.ref C) S) : VE c (tC (.ref C)) ρ S F := ve_ref q
/-- isinstance by several classes -/
inductive ClsD : D → Value → Prop
  | ty (n : String) : ClsD (.ty n) (.type n)
  | own (C : Addr) : ClsD (.ref C) (.ref C)
theorem clsD_all {K : PySem.W.Frag} {H : Hp} {T : Sto} : ∀ {cs : List V} {ds : List D} {us : List Value}, Paired ClsD ds us → RepL K H T cs ds → Paired ClsV cs us
  | _, _, _, .nil, .nil => .nil
  | _, _, _, .cons c t, .cons r rt => .cons (by
    cases c with
    | ty n => cases r; exact .ty n
    | own C => cases r; exact .own C) (clsD_all t rt)
theorem rc_isiV {x : D} {t : Value} {ds : List D} {us : List Value} {b : Bool} (o : OfC c.K S x t) (p : Paired ClsD ds us) (h : PySem.W.kitAny c.K t us = some b) (q : F (.bl b) S) : RC c (rIsiV c.K) [x, .tup ds] S F := fun T vs H cl r Q k => by
  cases r with
  | cons h1 r => cases r with
    | cons h2 r =>
      cases r
      obtain ⟨a, xs, rfl, s, rr⟩ := h2.seqT
      exact ⟨_, a, xs, t, us, b, rfl, s, clsD_all p rr, o.ok cl h1, h, k _ _ S T H Mv.refl cl (.bl _) q⟩
end
/-! ### == by an own __eq__ -/
section
variable {c : Ctx} {ρ : Rho} {S : Sto} {F : D → Sto → Prop}
/-! ### a new instance by value -/
theorem VA.imp {G G' : List D → Sto → Prop} {ta : TA} (h : VA c ta ρ S G) (i : ∀ d S, G d S → G' d S) : VA c ta ρ S G' := fun T σ H I Q k => h T σ H I Q fun v d S' T' H' m cl r q => k v d S' T' H' m cl r (i _ _ q)
theorem del_put {S : Sto} {p : Addr} {d : D} (h : S p = none) : del (put S p d) p = S := by
  funext b
  by_cases z : b = p
  · subst z; rw [del_same, h]
  · rw [del_ne z, put_ne z]
theorem del_put2 {S : Sto} {p : Addr} {d e : D} (h : S p = none) : del (put (put S p d) p e) p = S := by
  rw [put_put, del_put h]
/-- C(e, ..), known by value from then on -/
theorem ve_mkV {p : Pt} {E : L2.St → XK} {Y} {t : TA} {C : Addr} {dvs : List V} {dds : List D} (x : XOk c ρ E Y) (hd : ∀ H T, RepL c.K H T dvs dds)
    (h : VA c t ρ S fun ds S1 => ∀ y, S1 y = none → p (.ref y :: (ds ++ dds)) (put S1 y (.ins C [])) (fun d S2 => d = .non ∧ ∃ l d', D.ref y = .ref l ∧ S2 l = some d' ∧ d' ≠ .hid ∧ F d' (VS.del S2 l)) Y) : VE c (tMakeE C (spOf c.K p) dvs E t) ρ S F :=
  ve_freeze (ve_mk x hd h)
end
end VS
namespace VS
open PySem L2 C8 PySem.Spec PyProof.Rows
/-! ### what is known of a method, of a maker -/
structure Mf (P : Program) (w : World) (K : PySem.W.Frag) (mg : Str → Option Value) (base : Heap) (k : Nat) (C : Addr) (m qual : Str) (st : Stmt) (dvs : List V) (ps : List Str) (p : Pt) (f : Addr) (fd : FuncData) : Prop where
  fn : FnG P w K mg base (L2.CX P w) k f fd ps (spOf K p)
  df : Fd K m qual st dvs f fd
  cl : Cls K C
  me : Meth K C m f
  b : Binds K fd ps []
structure Kf (P : Program) (w : World) (K : PySem.W.Frag) (mg : Str → Option Value) (base : Heap) (k : Nat) (x : Str) (C : Addr) (qual : Str) (st : Stmt) (dvs : List V) (ps : List Str) (p : Pt) (f : Addr) (fd : FuncData) : Prop where
  mk_ : L2.Mk K C f
  fn : FnG P w K mg base (L2.CX P w) k f fd ps (spOf K p)
  df : Fd K "__init__" qual st dvs f fd
  mg : mg x = some (.ref C)
  b : Binds K fd ps []
/-- what a call that leaves some out fills up -/
structure Bd (K : PySem.W.Frag) (fd : FuncData) (ps : List Str) (dvs : List V) where
  ds : List Value
  v : Vals dvs ds
  b : Binds K fd ps ds
theorem bdN {K : PySem.W.Frag} {x qual : Str} {st : Stmt} {dvs : List V} {f : Addr} {fd : FuncData} {ps : List Str} (F : Fd K x qual st dvs f fd) (n j : Nat) (hd : dvs ≠ []) (hn : n + (dvs.length - j) = ps.length)
    (h : ∀ (T : Addr) (kV doc pm : Value) (an : Option Addr) (cdv ct : Value) (us its : List Value), us.length = n → its.length = dvs.length →
      ∃ k, bindArgs (PySem.W.fnOf x qual (defArgs st) (defBody st) (defScope st) (.ref T) kV doc pm an cdv ct) ⟨us, []⟩ = seqItems? (.ref T) >>= k ∧ k (some its.toArray) = pure (ps.zip (us ++ its.drop j))) : Nonempty (Bd K fd ps (dvs.drop j)) := by
  obtain ⟨ds, v, b⟩ := F.binds1 n j hd hn h
  exact ⟨⟨ds, v, b⟩⟩
theorem bd_nil {K : PySem.W.Frag} {fd : FuncData} {ps : List Str} (b : Bd K fd ps []) : Binds K fd ps [] := by
  obtain ⟨ds, v, q⟩ := b
  cases v
  exact q
/-- isinstance by an own class, from what the written part says -/
theorem kit_self {K : PySem.W.Frag} {C : Addr} : PySem.W.kitOne K (.ref C) (.ref C) = some true := by
  unfold PySem.W.kitOne
  rw [if_pos (beq_self_eq_true _)]
theorem kit_own {K : PySem.W.Frag} {v : Value} {C : Addr} {b : Bool} (n : (v == Value.ref C) = false) (h1 : PySem.W.isClsIn K C = true) (h2 : PySem.W.typeIn K (.ref C) = some (.type "type")) (h3 : PySem.W.subIn K v (.ref C) = some b) : PySem.W.kitOne K v (.ref C) = some b := by
  have h1' : (PySem.W.clsIn K C).isSome = true := h1
  unfold PySem.W.kitOne
  rw [if_neg (by rw [n]; decide)]
  show (if ((PySem.W.clsIn K C).isSome && PySem.W.typeIn K (.ref C) == some (.type "type")) = true then PySem.W.subIn K v (.ref C) else none) = some b
  rw [if_pos (by rw [h1', h2]; rfl)]
  exact h3
section
variable {c : Ctx} {ρ : Rho} {S : Sto} {F : D → Sto → Prop}
/-- o.m(), o.m(e, ..) -/
theorem ve_mt0 {p : Pt} {E : L2.St → XK} {Y} {ta : TE} {t : TA} {C : Addr} {m : Str} (x : XOk c ρ E Y) (h : VE c ta ρ S fun y S1 => ∃ fs, IsI S1 y C fs ∧ fs.lookup m = none ∧ VA c t ρ S1 fun ds S2 => p (y :: ds) S2 F Y) : VE c (tMethE C m (spOf c.K p) [] E ta t) ρ S F :=
  ve_mt (dds := []) x (fun _ _ => .nil) (h.imp fun y S1 ⟨fs, a, b, g⟩ => ⟨fs, a, b, g.imp fun ds S2 q => by rw [List.append_nil]; exact q⟩)
theorem ve_mk0 {p : Pt} {E : L2.St → XK} {Y} {t : TA} {C : Addr} (x : XOk c ρ E Y) (h : VA c t ρ S fun ds S1 => ∀ y, S1 y = none → p (.ref y :: ds) (put S1 y (.ins C [])) (fun d S2 => d = .non ∧ ∃ l d', D.ref y = .ref l ∧ S2 l = some d' ∧ d' ≠ .hid ∧ F d' (VS.del S2 l)) Y) : VE c (tMakeE C (spOf c.K p) [] E t) ρ S F :=
  ve_mkV (dds := []) x (fun _ _ => .nil) (h.imp fun ds S1 g y hy => by rw [List.append_nil]; exact g y hy)
end
end VS
namespace VS
open PySem L2 C8 PySem.Spec PyProof.Rows
/-! ### a list or a tuple walked -/
section
variable {c : Ctx} {ρ : Rho} {S : Sto} {F : D → Sto → Prop}
/-- isinstance by a built-in class, whatever is known of the thing's own class -/
theorem rc_isiP {x : D} {t : Value} {N : String} {b : Bool} (o : OfC c.K S x t) (h : PySem.W.kitOne c.K t (.type N) = some b) (q : F (.bl b) S) : RC c (rIsiZ c.K) [x, .ty N] S F := fun T us H cl r Q k => by
  cases r with
  | cons h1 r => cases r with
    | cons h2 r =>
      cases r
      cases h2
      exact ⟨_, _, _, _, b, rfl, .ty N, o.ok cl h1, h, k _ _ S T H Mv.refl cl (.bl _) q⟩
end
/-! ### a, b = e1, e2 -/
section
variable {c : Ctx} {ρ : Rho} {S : Sto}
theorem vx_par {i j : Nat} {ta : TA} {nx bk ct : Rho → Sto → Prop} {rt : D → Sto → Prop} (h : VA c ta ρ S fun ds S1 => ∃ x y, ds = [x, y] ∧ nx ((ρ.set i (some x)).set j (some y)) S1) : VX c (tPar i j ta) ρ S ⟨nx, rt, bk, ct⟩ := fun T σ H I D b =>
  h T σ H I _ fun vs ds S1 T1 H1 m1 c1 r1 ⟨x, y, e, q⟩ => by
    subst e
    cases r1 with
    | cons r t => cases t with
      | cons r' t =>
        cases t
        exact ⟨_, _, rfl, b.nx _ _ S1 T1 H1 m1 (((I.mv m1 c1).set i r).set j r') q⟩
end
/-! ### a is not b of truths -/
/-! ### == of lists of whole numbers -/
end VS
namespace VS
open PySem L2 C8 PySem.Spec PyProof.Rows
/-! ### slices of tuples, the place of a flat thing in a list -/
section
variable {c : Ctx} {ρ : Rho} {S : Sto} {F : D → Sto → Prop}
theorem rs_tupA {ds : List D} {lo hi : Option Int} (n : ¬ (HT.sIx ds.length 0 lo = 0 ∧ HT.sIx ds.length ds.length hi = ds.length)) (q : F (.tup (cutD ds lo hi)) S) : RS c (rSlA c.K) (.tup ds) lo hi S F := fun T u H cl r Q k => by
  obtain ⟨a, xs, rfl, s, rr⟩ := r.seqT
  exact ⟨a, xs, rfl, s, fun z => absurd z (by rw [rr.length]; exact n), fun _ p hp => k _ _ S T _ (mv_new hp) (cl.new hp) (.tup (cl.free hp) upd_same ((rr.cut lo hi).mv (mv_new hp))) q⟩
end
end VS
namespace VS
open PySem L2 C8 PySem.Spec PyProof.Rows
/-! ### repr and str by an own def -/
end VS
namespace VS
open PySem L2 C8 PySem.Spec PyProof.Rows
/-! ### f-strings of texts and ints -/
end VS
namespace VS
open PySem L2 C8 PySem.Spec PyProof.Rows
/-! ### a comprehension over a list known by reference: it is hidden meanwhile -/
section
variable {c : Ctx} {ρ : Rho} {S : Sto} {F : D → Sto → Prop}
theorem lc_heartAt {wi : TI} {g : TG} {tt : TT} {te : TE} {vs : List Nat} {R : List D → Sto → Prop} {T : Sto} {σ : L2.St} {H : Hp}
    (h : ∀ Q : It → Hp → Prop, (∀ J ds S1 T1 H1, Mv T H T1 H1 → Cells c.K H1 S1 T1 → Yl c.K J ds T1 H1 → (ds.length ≤ 100000 ∧ ∃ W : Nat → List D → Sto → Prop, W 0 [] S1 ∧ (∀ (i : Nat) (d : D) acc S2, ds[i]? = some d → W i acc S2 → acc.length ≤ i → VGw c vs g d (wipeR ρ vs) S2 fun ρ3 S3 => VT c tt ρ3 S3 fun b S4 => (b = true → VE c te ρ3 S4 fun y S5 => W (i + 1) (acc ++ [y]) S5) ∧ (b = false → W (i + 1) acc S4)) ∧
      (∀ acc S2, W ds.length acc S2 → acc.length ≤ ds.length → R acc S2)) → Q J H1) → wi σ H Q) (I : In c σ H ρ S T) {Q : VK}
    (k : ∀ p xs acc S' T' H' T1 H1, Mv T H T1 H1 → Mv T1 H1 T' H' → Cells c.K H' S' T' → T' p = some .hid → H1 p = none → H' p = some (.lst xs) → RepL c.K H' T' xs acc → R acc S' → Q (.ref p) H') : tLc wi g tt te vs σ H Q :=
  h _ fun J ds S1 T1 H1 m1 c1 ⟨G, Y, w, hG, hY⟩ ⟨hl, W, h0, hs, hd⟩ => fun p hp => by
    refine lc_it w (fun i H' => ∃ S2 T2 xs acc, Mv T1 H1 T2 H' ∧ Cells c.K H' S2 T2 ∧ T2 p = some .hid ∧ H' p = some (.lst xs) ∧ RepL c.K H' T2 xs acc ∧ acc.length ≤ i ∧ W i acc S2)
      ⟨S1, put T1 p .hid, [], [], mv_newc hp, c1.newh hp, put_same, upd_same, .nil, Nat.le_refl _, h0⟩ (fun i H' _ ⟨S2, T2, _, _, m, _⟩ => hG T2 H' m) ?_ ?_
    · rintro i x H' H'' hi ⟨S2, T2, xs, acc, m, c2, s2, hx, r2, hle, hw⟩ y
      obtain ⟨d, e⟩ : ∃ d, ds[i]? = some d := ⟨ds[i], List.getElem?_eq_getElem hi⟩
      obtain ⟨m3, c3, r3⟩ := hY i d S2 T2 H' H'' x e m c2 y
      have I2 : In c σ H'' ρ S2 T2 := I.mv (m1.trans (m.trans m3)) c3
      refine hs i d acc S2 e hw hle T2 x (L2.wipe σ vs) H'' (I2.wipe vs) r3 _ fun σ3 ρ3 S3 T3 H3 ew m4 I3 q => ⟨ew.trans (wipe_wipe vs vs fun _ h => h), ?_⟩
      refine q T3 σ3 H3 I3 _ fun b S4 T4 H4 m5 c4 ⟨q1, q2⟩ => ?_
      have mm := m3.trans (m4.trans m5)
      cases b with
      | true =>
        refine iteT (q1 rfl T4 σ3 H4 (I3.mv m5 c4) _ fun v y S5 T5 H5 m6 c5 r5 q5 => ?_)
        have m7 := mm.trans m6
        obtain ⟨hx5, s5⟩ := m7.hid _ _ s2 hx
        refine ⟨xs, hx5, ?_, S5, T5, xs ++ [v], acc ++ [y], (m.trans m7).hidw hp, c5.hidw s5, s5, upd_same, ((r2.mv m7).append (.cons r5 .nil)).mk (mk_hid s5), ?_, q5⟩
        · rw [r2.length]
          exact Nat.lt_of_lt_of_le (show acc.length < 100001 by omega) (by decide)
        · rw [List.length_append, List.length_singleton]
          omega
      | false =>
        obtain ⟨hx5, s5⟩ := mm.hid _ _ s2 hx
        exact iteF ⟨S4, T4, xs, acc, m.trans mm, c4, s5, hx5, r2.mv mm, by omega, q2 rfl⟩
    · rintro H' ⟨S2, T2, xs, acc, m, c2, s2, hx, r2, hle, hw⟩
      exact k p xs acc S2 T2 H' T1 H1 m1 m c2 s2 hp hx r2 (hd acc S2 hw hle)
theorem mv_hide {T : Sto} {H : Hp} {l : Addr} {d : D} (h : T l = some d) (ne : d ≠ .hid) : Mv T H (put T l .hid) H where
  keep := fun _ _ _ h => h
  fresh := fun a s _ => by
    rw [put_ne]
    · exact s
    · intro z; subst z; rw [h] at s; cases s
  hid := fun a o s e => by
    refine ⟨e, ?_⟩
    rw [put_ne]
    · exact s
    · intro z; subst z; rw [h] at s; cases s; exact absurd rfl ne
theorem Cells.hide {K : PySem.W.Frag} {S T : Sto} {H : Hp} {l : Addr} {ds : List D} {xs : List V} (cl : Cells K H S T) (h : S l = some (.lst ds)) (hx : H l = some (.lst xs)) : Cells K H (VS.del S l) (put T l .hid) := by
  have ht := cl.at h
  refine ⟨fun a => ?_, fun a e q => ?_⟩
  · by_cases z : a = l
    · subst z; exact .inr ⟨del_same, put_same⟩
    · rw [put_ne z, VS.del_ne z]; exact cl.ov a
  · by_cases z : a = l
    · subst z; rw [put_same] at q; cases q; exact ⟨_, hx⟩
    · rw [put_ne z] at q
      exact CellOk.mk (mv_hide ht (by nofun)).toMk rfl (cl.ok a e q)
end
end VS
namespace VS
open PySem L2 C8 PySem.Spec PyProof.Rows
/-! ### x in, not in a list of data -/
end VS
namespace VS
open PySem L2 C8 PySem.Spec PyProof.Rows
/-! ### an own class beside a built-in one -/
end VS
namespace VS
open PySem L2
/-! ### further words of the walk -/
section
variable {c : Ctx} {ρ : Rho} {S : Sto} {F : D → Sto → Prop}
theorem ex_ins {x : D} {C : Addr} {fs : List (Str × D)} {m : Str} {G : Prop} (i : IsI S x C fs) (h : fs.lookup m = none) (g : G) : ∃ fs, IsI S x C fs ∧ fs.lookup m = none ∧ G := ⟨fs, i, h, g⟩
theorem ex_fldI {K : PySem.W.Frag} {x : D} {C : Addr} {fs : List (Str × D)} {f : Str} {e : D} {G : D → Prop} (i : IsI S x C fs) (k : Cls K C) (n : NoAttr K C f) (h : fs.lookup f = some e) (g : G e) :
    ∃ C fs e, IsI S x C fs ∧ Cls K C ∧ NoAttr K C f ∧ fs.lookup f = some e ∧ G e := ⟨C, fs, e, i, k, n, h, g⟩
theorem ex_cell {l : Addr} {ds : List D} {G : Addr → Prop} (h : S l = some (.lst ds)) (g : G l) : ∃ l' ds, D.ref l = .ref l' ∧ S l' = some (.lst ds) ∧ G l' := ⟨l, ds, rfl, h, g⟩
end
end VS
namespace VS
theorem brYn {α : Type} {x y : α} [Decidable (x = y)] {A B : Prop} (e : x ≠ y) (b : B) : (decide (x = y) = true → A) ∧ (decide (x = y) = false → B) :=
  ⟨fun z => (by rw [decide_eq_false e] at z; cases z), fun _ => b⟩
theorem brYd {α : Type} {x y : α} [Decidable (x = y)] {A B : Prop} (e : x = y) (a : A) : (decide (x = y) = true → A) ∧ (decide (x = y) = false → B) :=
  ⟨fun _ => a, fun z => (by rw [decide_eq_true e] at z; cases z)⟩
end VS
namespace VS
open PySem L2
/-! ### data, by value or as a list or dict known by reference -/
inductive Da (S : Sto) : D → D → Prop
  | v {d : D} (p : isP d = true) : Da S d d
  | c {l : Addr} {ds : List D} (h : S l = some (.lst ds)) (p : isP (.lst ds) = true) : Da S (.ref l) (.lst ds)
  | k {l : Addr} {ds : List (Key × D)} (h : S l = some (.dK ds)) (p : isP (.dK ds) = true) : Da S (.ref l) (.dK ds)
def tyN : D → String
  | .non => "NoneType"
  | .bl _ => "bool"
  | .int _ => "int"
  | .str _ => "str"
  | .lst _ => "list"
  | .tup _ => "tuple"
  | .dK _ => "dict"
  | _ => ""
theorem tyN_all {P : String → Prop} (h1 : P "NoneType") (h2 : P "bool") (h3 : P "int") (h4 : P "str") (h5 : P "list") (h6 : P "tuple") (h7 : P "dict") : ∀ {d : D}, isP d = true → P (tyN d)
  | .non, _ => h1
  | .bl _, _ => h2
  | .int _, _ => h3
  | .str _, _ => h4
  | .lst _, _ => h5
  | .tup _, _ => h6
  | .dK _, _ => h7
  | .ty _, h => by cases h
  | .ref _, h => by cases h
  | .rol _, h => by cases h
  | .hid, h => by cases h
  | .ins _ _, h => by cases h
  | .xcp _ _ _ _, h => by cases h
  | .xv _ _, h => by cases h
section
variable {S S' : Sto} {d d' : D}
theorem Da.p (h : Da S d d') : isP d' = true := by cases h <;> assumption
theorem Da.ty (h : Da S d d') : TyS S d (tyN d') := by
  cases h with
  | v p =>
    cases d with
    | non => exact .non
    | bl b => exact .bl b
    | int i => exact .int i
    | str z => exact .str z
    | lst xs => exact .lst xs
    | tup xs => exact .tup xs
    | dK xs => exact .dK xs
    | _ => cases p
  | c h p => exact .cl h
  | k h p => exact .cd h
theorem Da.of {K : PySem.W.Frag} (h : Da S d d') : OfC K S d (.type (tyN d')) := .p h.ty
/-- all items of a list are data, one to one -/
inductive DaL (S : Sto) : List D → List D → Prop
  | nil : DaL S [] []
  | cons {d d' : D} {ds ds' : List D} (h : Da S d d') (t : DaL S ds ds') : DaL S (d :: ds) (d' :: ds')
theorem DaL.at : ∀ {xs ys : List D} {i : Nat} {d : D}, DaL S xs ys → xs[i]? = some d → ∃ d', ys[i]? = some d' ∧ Da S d d'
  | _, _, _, _, .nil, e => by simp at e
  | _, _, 0, _, .cons h _, e => by simp at e; subst e; exact ⟨_, rfl, h⟩
  | _, _, i + 1, d, .cons _ t, e => by
    obtain ⟨d', h1, h2⟩ := DaL.at (i := i) (d := d) t (by simpa using e)
    exact ⟨d', by simpa using h1, h2⟩
theorem DaL.length : ∀ {xs ys : List D}, DaL S xs ys → xs.length = ys.length
  | _, _, .nil => rfl
  | _, _, .cons _ t => congrArg Nat.succ t.length
theorem DaL.append : ∀ {xs ys us vs : List D}, DaL S xs ys → DaL S us vs → DaL S (xs ++ us) (ys ++ vs)
  | _, _, _, _, .nil, k => k
  | _, _, _, _, .cons h t, k => .cons h (t.append k)
end
end VS
namespace VS
open L2
theorem atI_zero {α : Type} {x : α} {xs : List α} : atI (x :: xs) 0 = some x := atI_nat (j := 0) rfl
end VS
namespace VS
open PySem L2 C8
section
variable {c : Ctx} {S : Sto} {F : D → Sto → Prop}
theorem rv_catA {xs ys : List D} (hl : xs.length + ys.length ≤ sizeLine) (q : F (.tup (xs ++ ys)) S) : RV c (rCatA c.K) (.tup xs) (.tup ys) S F := fun T u w H cl r1 r2 Q k => by
  obtain ⟨a, us, rfl, s1, rr1⟩ := r1.seqT
  obtain ⟨b, ws, rfl, s2, rr2⟩ := r2.seqT
  refine ⟨a, b, us, ws, rfl, rfl, s1, s2, by rw [rr1.length, rr2.length]; exact hl, fun e => ?_, fun _ e => ?_, fun _ _ p hp => ?_⟩
  · subst e
    cases rr1
    exact k _ _ S T H Mv.refl cl r2 q
  · subst e
    cases rr2
    rw [List.append_nil] at q
    exact k _ _ S T H Mv.refl cl r1 q
  · exact k _ _ S T _ (mv_new hp) (cl.new hp) (.tup (cl.free hp) upd_same ((rr1.append rr2).mv (mv_new hp))) q
theorem rs_tupG {ds : List D} {lo hi : Option Int} (q : F (.tup (cutD ds lo hi)) S) : RS c (rSlA c.K) (.tup ds) lo hi S F := by
  by_cases n : HT.sIx ds.length 0 lo = 0 ∧ HT.sIx ds.length ds.length hi = ds.length
  · have e : cutD ds lo hi = ds := by
      unfold cutD
      rw [n.1, n.2, List.drop_zero, Nat.sub_zero, List.take_length]
    rw [e] at q
    exact fun T u H cl r Q k => by
      obtain ⟨a, xs, rfl, s, rr⟩ := r.seqT
      exact ⟨a, xs, rfl, s, fun _ => k _ _ S T H Mv.refl cl r q, fun z => absurd (by rw [rr.length]; exact n) z⟩
  · exact rs_tupA n q
end
end VS
namespace VS
theorem ex_two {x y : D} {G : D → D → Prop} (g : G x y) : ∃ x' y', ([x, y] : List D) = [x', y'] ∧ G x' y' := ⟨x, y, rfl, g⟩
end VS
namespace VS
open L2
theorem ixN_in {n : Nat} {i : Int} (h0 : 0 ≤ i) (h1 : i < n) : ixN n i = some i.toNat := by
  unfold ixN
  rw [if_pos h0, if_pos h1]
end VS
namespace VS
open PySem L2
theorem keepc {S : Sto} {p a : Addr} {d x : D} (h : S a = some x) (hp : S p = none) : put S p d a = some x := (put_ne (ne_at h hp)).trans h
end VS
namespace VS
open PySem L2
theorem Da.put {S : Sto} {y : Addr} {x d d' : D} (h : Da S d d') (hy : S y = none) : Da (VS.put S y x) d d' := by
  cases h with
  | v p => exact .v p
  | c h p => exact .c (keepc h hy) p
  | k h p => exact .k (keepc h hy) p
end VS
namespace VS
end VS
namespace VS
open PySem L2 C8
/-! ### try by name -/
def tTry (K : PySem.W.Frag) (tb : WX → TS) (l : List Cla) : TS := fun D σ H => tb (wCla K D l) D σ H
theorem vx_tryD {c : Ctx} {ρ : Rho} {S : Sto} {P : Po} {tb : WX → TS} {l : List Cla} (h : ∀ E' : L2.St → XK, VX ⟨c.K, E', fun C fs ρ' S' => HdV c P l C fs ρ' S'⟩ (tb (fun cls d σ H => E' σ cls d H)) ρ S P) :
    VX c (tTry c.K tb l) ρ S P := vx_try h
end VS
namespace VS
open PySem L2 C8
theorem ex_xf {a dd C : Addr} {fs : List (Str × D)} {f : Str} {e : D} {G : D → Prop} (h : fs.lookup f = some e) (g : G e) : ∃ dd' fs' e', D.xcp a dd C fs = .xcp a dd' C fs' ∧ some dd = some dd' ∧ fs'.lookup f = some e' ∧ G e' := ⟨dd, fs, e, rfl, rfl, h, g⟩
end VS
namespace VS
open PySem L2 C8
/-! ### within a clause's suite -/
end VS
namespace VS
open PySem L2
/-! ### what is known by reference read as by value meanwhile -/
section
variable {c : Ctx} {ρ ρ' : Rho} {S : Sto} {F : D → Sto → Prop} {G : Bool → Sto → Prop}
open Classical in
/-- the cells of V by value, all others hidden -/
noncomputable def viewT (V : Addr → Prop) (T : Sto) : Sto := fun b => if V b then none else (T b).map fun _ => .hid
abbrev noS : Sto := fun _ => none
theorem viewT_none {V : Addr → Prop} {T : Sto} {a : Addr} (h : T a = none) : viewT V T a = none := by
  unfold viewT
  split
  · rfl
  · rw [h]; rfl
theorem viewT_in {V : Addr → Prop} {T : Sto} {a : Addr} (h : V a) : viewT V T a = none := by
  unfold viewT
  rw [if_pos h]
theorem viewT_out {V : Addr → Prop} {T : Sto} {a : Addr} {d : D} (h : ¬ V a) (e : T a = some d) : viewT V T a = some .hid := by
  unfold viewT
  rw [if_neg h, e]; rfl
theorem viewT_some {V : Addr → Prop} {T : Sto} {a : Addr} {d : D} (e : viewT V T a = some d) : d = .hid ∧ ∃ d', T a = some d' := by
  unfold viewT at e
  split at e
  · cases e
  · cases q : T a with
    | none => rw [q] at e; cases e
    | some d' => rw [q] at e; cases e; exact ⟨rfl, d', rfl⟩
theorem mv_view {V : Addr → Prop} {T : Sto} {H : Hp} (hV : ∀ l, V l → T l ≠ some .hid) : Mv T H (viewT V T) H where
  keep := fun _ _ _ h => h
  fresh := fun _ s _ => viewT_none s
  hid := fun a o s e => ⟨e, viewT_out (fun z => hV a z s) s⟩
theorem cells_view {K : PySem.W.Frag} {V : Addr → Prop} {T : Sto} {H : Hp} (cl : Cells K H S T) : Cells K H noS (viewT V T) where
  ov := fun a => by
    cases q : viewT V T a with
    | none => exact .inl ⟨rfl, by simp⟩
    | some d => obtain ⟨rfl, _⟩ := viewT_some q; exact .inr ⟨rfl, rfl⟩
  ok := fun a d e => by
    obtain ⟨rfl, d', h⟩ := viewT_some e
    have h' := cl.ok a d' h
    cases q : H a with
    | none => exact absurd q h'.there
    | some o => exact ⟨o, q⟩
theorem rep_flat {K : PySem.W.Frag} {H H' : Hp} {T T' : Sto} {v : V} {d : D} (f : flatD d = true) (r : Rep K H T v d) : Rep K H' T' v d := by
  cases r with
  | non => exact .non
  | bl b => exact .bl b
  | int i => exact .int i
  | str x => exact .str x
  | ty n => exact .ty n
  | ref a => exact .ref a
  | _ => cases f
/-- behind it all is as it was -/
theorem view_back {K : PySem.W.Frag} {V : Addr → Prop} {T T' : Sto} {H H' : Hp} {S' : Sto} (hV : ∀ l, V l → T l ≠ some .hid) (cl : Cells K H S T) (m : Mv (viewT V T) H T' H') (_ : Cells K H' S' T') : Mv T H T H' ∧ Cells K H' S T := by
  have same : ∀ a d, T a = some d → H' a = H a := fun a d e => by
    have th := (cl.ok a d e).there
    cases q : H a with
    | none => exact absurd q th
    | some o =>
      by_cases hv : V a
      · exact m.keep a o (viewT_in hv) q
      · exact (m.hid a o (viewT_out hv e) q).1
  have mm : Mv T H T H' := ⟨⟨fun a o s e => m.keep a o (viewT_none s) e, fun _ s _ => s⟩, fun a o s e => ⟨by rw [same a _ s]; exact e, s⟩⟩
  exact ⟨mm, cl.ov, fun a d e => CellOk.mv mm (same a d e) (cl.ok a d e)⟩
/-- the slots, some of them read -/
structure Views (V : Addr → Prop) (S : Sto) (ρ ρ' : Rho) : Prop where
  len : ρ'.length = ρ.length
  at_ : ∀ (i : Nat) (d' : D), ρ'[i]? = some (some d') → ρ[i]? = some (some d') ∨ ∃ l, ρ[i]? = some (some (.ref l)) ∧ S l = some d' ∧ d' ≠ .hid ∧ V l
  ok : ∀ l, V l → ∃ d, S l = some d ∧ d ≠ .hid
theorem Views.in {V : Addr → Prop} {T : Sto} {σ : St} {H : Hp} (w : Views V S ρ ρ') (I : In c σ H ρ S T) : (∀ l, V l → T l ≠ some .hid) ∧ In c σ H ρ' noS (viewT V T) := by
  have hV : ∀ l, V l → T l ≠ some .hid := fun l h => by
    obtain ⟨d, e, n⟩ := w.ok l h
    exact I.cells.nohid e n
  have m := mv_view (H := H) hV
  have cl := cells_view (V := V) I.cells
  refine ⟨hV, cl, fun i d' e => ?_, by rw [w.len]; exact I.len, (I.mv m cl).exc⟩
  rcases w.at_ i d' e with h | ⟨l, h, hs, n, hv⟩
  · obtain ⟨v, h1, h2⟩ := I.slots i d' h
    exact ⟨v, h1, h2.mv m⟩
  · obtain ⟨v, h1, h2⟩ := I.slots i _ h
    cases h2
    refine ⟨_, h1, ?_⟩
    have ht := I.cells.at hs
    have r := I.cells.ok l d' ht
    cases d' with
    | lst ds => obtain ⟨xs, hx, rr⟩ := r; exact .lst (viewT_in hv) hx (rr.mv m)
    | dK ds => obtain ⟨xs, hx, rr⟩ := r; exact .dK (viewT_in hv) (.inl hx) (rr.mv m)
    | ins C ds => obtain ⟨dx, fs, hx, rr⟩ := r; exact .ins (viewT_in hv) hx (rr.mv m)
    | hid => exact absurd rfl n
    | _ => exact r.elim
end
end VS
namespace VS
open PySem L2
section
variable {c : Ctx} {ρ ρ' : Rho} {S : Sto} {F : D → Sto → Prop} {G : Bool → Sto → Prop}
def isLT : D → Bool
  | .lst _ => true
  | .tup _ => true
  | _ => false
theorem rc_isiLT {d d' : D} (hd : Da S d d') (q : F (.bl (isLT d')) S) : RC c (rIsiV c.K) [d, .tup [.ty "list", .ty "tuple"]] S F := by
  have e : PySem.W.kitAny c.K (.type (tyN d')) [.type "list", .type "tuple"] = some (isLT d') := by
    have p := hd.p
    cases d' with
    | non => rfl
    | bl b => rfl
    | int i => rfl
    | str z => rfl
    | lst xs => rfl
    | tup xs => rfl
    | dK xs => rfl
    | _ => cases p
  exact rc_isiV hd.of (.cons (.ty _) (.cons (.ty _) .nil)) e q
theorem ex_self {K : PySem.W.Frag} {l C : Addr} {fs : List (Str × D)} {f : Str} {G : Addr → Addr → List (Str × D) → Prop} (h : S l = some (.ins C fs)) (k : Cls K C) (n : NoAttr K C f) (hl : fs.length < 1000) (g : G l C fs) :
    ∃ l' C' fs', D.ref l = .ref l' ∧ S l' = some (.ins C' fs') ∧ Cls K C' ∧ NoAttr K C' f ∧ fs'.length < 1000 ∧ G l' C' fs' := ⟨l, C, fs, rfl, h, k, n, hl, g⟩
end
end VS
namespace VS
open PySem L2 C8 PySem.Spec PyProof.Rows
/-! ### len and != by an own def -/
end VS
namespace VS
open PySem L2 C8
end VS
namespace VS
open PySem L2 C8 PySem.Spec PyProof.Rows
/-! ### == with an empty list, an empty tuple -/
def rEqE (K : PySem.W.Frag) : R2 := fun x y H Q => ∃ a b xs, x = .ref a ∧ y = .ref b ∧ ((SqL K H a xs ∧ SqL K H b []) ∨ (SqT K H a xs ∧ SqT K H b [])) ∧ Q (.bl xs.isEmpty) H
theorem op_eqE {X : Cx} {k : Nat} (hr : Room k X.A) : OpR X (compareOp .Eq) (rEqE X.K) := by
  intro pins s σ H x y v u Q I rx ry h
  obtain ⟨a, b, xs, rfl, rfl, hq, q⟩ := h
  cases rx
  cases ry
  have sz : ∀ {ws : List V} {us : List Value}, Vals ws us → us.toArray.size = ws.length := fun r => by rw [List.size_toArray, r.length]
  rcases hq with ⟨h1, h2⟩ | ⟨h1, h2⟩
  · obtain ⟨its, rv, p, _⟩ := I.list h1
    obtain ⟨its2, rv2, p2, _⟩ := I.list h2
    cases rv2
    cases rv with
    | nil => exact SeqAt.eq_listAt (e := fun _ => true) p.isList p2.isList rfl hr.units0 (fun j h => absurd h (by simp)) ⟨.bl true, H, I, rfl, q⟩
    | cons r rs => exact SeqAt.eq_list_lengthsAt p.isList p2.isList (by simp) hr.units0 ⟨.bl false, H, I, rfl, q⟩
  · obtain ⟨its, rv, p, _⟩ := I.tuple h1
    obtain ⟨its2, rv2, p2, _⟩ := I.tuple h2
    cases rv2
    have e : ((List.range (min its.toArray.size ([] : List Value).toArray.size)).all (fun _ => true) && its.toArray.size == ([] : List Value).toArray.size) = xs.isEmpty := by
      cases rv with
      | nil => rfl
      | cons r rs => simp
    refine SeqAt.eq_tupleAt (e := fun _ => true) (show s.heap.IsTuple a its.toArray from p) (show s.heap.IsTuple b _ from p2) hr.units0 (fun j _ h => absurd h (by simp)) ?_
    rw [e]
    exact ⟨.bl xs.isEmpty, H, I, rfl, q⟩
section
variable {c : Ctx} {S : Sto} {F : D → Sto → Prop}
theorem rv_eqEL {x : D} {xs : List D} (h : IsL S x xs) (q : F (.bl xs.isEmpty) S) : RV c (rEqE c.K) x (.lst []) S F := fun T u w H cl r1 r2 Q k => by
  obtain ⟨a, us, rfl, s1, rr⟩ := h.rd cl r1
  obtain ⟨b, ws, rfl, s2, rr2⟩ := (IsL.v (S := S) (ds := [])).rd cl r2
  cases rr2
  refine ⟨a, b, us, rfl, rfl, .inl ⟨s1, s2⟩, ?_⟩
  have e : us.isEmpty = xs.isEmpty := by cases rr <;> rfl
  rw [e]
  exact k _ _ S T H Mv.refl cl (.bl _) q
theorem rv_eqET {xs : List D} (q : F (.bl xs.isEmpty) S) : RV c (rEqE c.K) (.tup xs) (.tup []) S F := fun T u w H cl r1 r2 Q k => by
  obtain ⟨a, us, rfl, s1, rr⟩ := r1.seqT
  obtain ⟨b, ws, rfl, s2, rr2⟩ := r2.seqT
  cases rr2
  refine ⟨a, b, us, rfl, rfl, .inr ⟨s1, s2⟩, ?_⟩
  have e : us.isEmpty = xs.isEmpty := by cases rr <;> rfl
  rw [e]
  exact k _ _ S T H Mv.refl cl (.bl _) q
end
end VS
namespace VS
open PySem L2 C8 PySem.Spec PyProof.Rows
def rNeE (K : PySem.W.Frag) : R2 := fun x y H Q => ∃ a b xs, x = .ref a ∧ y = .ref b ∧ ((SqL K H a xs ∧ SqL K H b []) ∨ (SqT K H a xs ∧ SqT K H b [])) ∧ Q (.bl (!xs.isEmpty)) H
theorem op_neE {X : Cx} {k : Nat} (hr : Room k X.A) : OpR X (compareOp .NotEq) (rNeE X.K) := by
  intro pins s σ H x y v u Q I rx ry h
  obtain ⟨a, b, xs, rfl, rfl, hq, q⟩ := h
  cases rx
  cases ry
  show wpAny _ _ (richCompare .NotEq (.ref a) (.ref b)) _ _ _
  rcases hq with ⟨h1, h2⟩ | ⟨h1, h2⟩
  · obtain ⟨its, rv, p, _⟩ := I.list h1
    obtain ⟨its2, rv2, p2, _⟩ := I.list h2
    cases rv2
    cases rv with
    | nil => exact SeqAt.RcNeAt.lists (e := fun _ => true) p.isList p2.isList rfl hr.units0 (fun j h => absurd h (by simp)) _ _ _ _ ⟨.bl false, H, I, rfl, q⟩
    | cons r rs => exact SeqAt.RcNeAt.lists_lengths p.isList p2.isList (by simp) hr.units0 _ _ _ _ ⟨.bl true, H, I, rfl, q⟩
  · obtain ⟨its, rv, p, _⟩ := I.tuple h1
    obtain ⟨its2, rv2, p2, _⟩ := I.tuple h2
    cases rv2
    have e : (!((List.range (min its.toArray.size ([] : List Value).toArray.size)).all (fun _ => true) && its.toArray.size == ([] : List Value).toArray.size)) = !xs.isEmpty := by
      cases rv with
      | nil => rfl
      | cons r rs => simp
    refine SeqAt.RcNeAt.tuples (e := fun _ => true) (show s.heap.IsTuple a its.toArray from p) (show s.heap.IsTuple b _ from p2) hr.units0 (fun j _ h => absurd h (by simp)) _ _ _ _ ?_
    rw [e]
    exact ⟨.bl (!xs.isEmpty), H, I, rfl, q⟩
section
variable {c : Ctx} {S : Sto} {F : D → Sto → Prop}
theorem rv_neEL {x : D} {xs : List D} (h : IsL S x xs) (q : F (.bl (!xs.isEmpty)) S) : RV c (rNeE c.K) x (.lst []) S F := fun T u w H cl r1 r2 Q k => by
  obtain ⟨a, us, rfl, s1, rr⟩ := h.rd cl r1
  obtain ⟨b, ws, rfl, s2, rr2⟩ := (IsL.v (S := S) (ds := [])).rd cl r2
  cases rr2
  refine ⟨a, b, us, rfl, rfl, .inl ⟨s1, s2⟩, ?_⟩
  have e : us.isEmpty = xs.isEmpty := by cases rr <;> rfl
  rw [e]
  exact k _ _ S T H Mv.refl cl (.bl _) q
theorem rv_neET {xs : List D} (q : F (.bl (!xs.isEmpty)) S) : RV c (rNeE c.K) (.tup xs) (.tup []) S F := fun T u w H cl r1 r2 Q k => by
  obtain ⟨a, us, rfl, s1, rr⟩ := r1.seqT
  obtain ⟨b, ws, rfl, s2, rr2⟩ := r2.seqT
  cases rr2
  refine ⟨a, b, us, rfl, rfl, .inr ⟨s1, s2⟩, ?_⟩
  have e : us.isEmpty = xs.isEmpty := by cases rr <;> rfl
  rw [e]
  exact k _ _ S T H Mv.refl cl (.bl _) q
end
end VS
namespace VS
open PySem L2 C8 PySem.Spec PyProof.Rows
/-! ### == with an own instance on the right -/
section
variable {prog : Program} {w : World} {A : Around} {E : Value → Shared → Prop} {s : Shared} {K : PySem.W.Frag} {x C dx f : Addr} {u : Value} {T : String}
/-- the kinds that decline -/
inductive LKd : Value → String → Prop
  | non : LKd .none "NoneType" | bl (b : Bool) : LKd (.bool b) "bool" | int (i : Int) (t : Tok) : LKd (.int i t) "int" | str (x : Str) (t : Tok) : LKd (.str x t) "str"
  | lst (a : Addr) : LKd (.ref a) "list" | tup (a : Addr) : LKd (.ref a) "tuple" | dct (a : Addr) : LKd (.ref a) "dict"
end
section
variable {X : Cx} {k : Nat} {f C : Addr} {fd : FuncData} {ps : List Str} {sp : Sp}
inductive KdV : V → String → Prop
  | non : KdV .non "NoneType" | bl (b : Bool) : KdV (.bl b) "bool" | int (i : Int) : KdV (.int i) "int" | str (x : Str) : KdV (.str x) "str"
  | lst (a : Addr) : KdV (.ref a) "list" | tup (a : Addr) : KdV (.ref a) "tuple" | dct (a : Addr) : KdV (.ref a) "dict"
theorem KdV.ok {x : V} {u : Value} {T : String} (k : KdV x T) (r : RelV x u) : LKd u T := by
  cases k with
  | non => cases (show u = Value.none from r); exact .non
  | bl b => cases (show u = Value.bool b from r); exact .bl b
  | int i => obtain ⟨t, q⟩ := (show ∃ t, u = Value.int i t from r); cases q; exact .int i t
  | str y => obtain ⟨t, q⟩ := (show ∃ t, u = Value.str y t from r); cases q; exact .str y t
  | lst a => cases (show u = Value.ref a from r); exact .lst a
  | tup a => cases (show u = Value.ref a from r); exact .tup a
  | dct a => cases (show u = Value.ref a from r); exact .dct a
end
end VS
namespace VS
open PySem L2 PySem.Spec PyProof.Rows
/-! ### C(e) as a value, C an own exception class of one field -/
end VS
namespace VS
open PySem L2 C8 PySem.Spec PyProof.Rows
/-! ### reversed(a list by value) -/
end VS
namespace VS
open PySem L2 PySem.Spec PyProof.Rows
/-! ### len(set(texts)) -/
/-- how many unlike ones stand among the first i -/
def unl (xs : List Str) : Nat → Nat
  | 0 => 0
  | i + 1 => bif (xs.take i).any (· == xs.getD i Str.empty) then unl xs i else unl xs i + 1
def inI (xs : List Str) (i : Nat) (k : Str) : Bool := (xs.take i).any (· == k)
theorem unl_le {xs : List Str} : ∀ i, unl xs i ≤ i
  | 0 => Nat.le_refl _
  | i + 1 => by
    have := unl_le (xs := xs) i
    unfold unl
    cases (xs.take i).any (· == xs.getD i Str.empty)
    · simp only [cond_false]; omega
    · simp only [cond_true]; omega
theorem getD_at {xs : List Str} {i : Nat} (h : i < xs.length) : xs.getD i Str.empty = xs[i] := by
  rw [List.getD_eq_getElem?_getD, List.getElem?_eq_getElem h] <;> rfl
theorem inI_put {xs : List Str} {i : Nat} (h : i < xs.length) (k : Str) : (inI xs i k || decide (k = xs.getD i Str.empty)) = inI xs (i + 1) k := by
  unfold inI
  rw [List.take_add_one, List.getElem?_eq_getElem h, getD_at h, List.any_append]
  congr 1
  show decide (k = xs[i]) = ((xs[i] == k) || false)
  rw [Bool.or_false]
  by_cases e : k = xs[i]
  · subst e; simp
  · rw [decide_eq_false e]; exact (beq_eq_false_iff_ne.mpr (Ne.symm e)).symm
section
variable {prog : Program} {w : World} {A : Around} {E : Value → Shared → Prop} {s : Shared}
abbrev HasT (prog : Program) (w : World) (h : Heap) (a : Addr) (xs : List Str) (i : Nat) : Prop := h.SetOf (PySem.strKind prog w) a (inI xs i) (unl xs i)
theorem HasT.keep {h h' : Heap} {a : Addr} {xs : List Str} {i : Nat} (t : HasT prog w h a xs i) (k : ∀ o, h.get? a = some o → h'.get? a = some o) : HasT prog w h' a xs i := by
  obtain ⟨o, es, ep, t, g, r⟩ := t
  exact ⟨o, es, ep, t, k _ g, r⟩
theorem put_each {R : Result → Shared → Prop} {I : Addr} {fp wr : List Addr} {G : Array GenState → Array GenState → Prop} {n : Nat} {P : Nat → Value → Prop} {St : Nat → Shared → Prop}
    (W : WalksS prog w A.in1 I fp wr G n P St) {a : Addr} (na : a ∉ fp) {xs : List Str} (le : xs.length = n) (sm : n + 1 < scanBound) (vl : ∀ i v, P i v → ∃ t, v = .str (xs.getD i Str.empty) t) (k : Nat) :
    ∀ (i : Nat) (s : Shared), i + k = n → St i s → HasT prog w s.heap a xs i → (∀ s', Moved (a :: wr) G s s' → HasT prog w s'.heap a xs n → R (.ok (.ret .none)) s') →
      codeAny (model prog w) A (.builtin "set.update.loop" ⟨[.ref a, .ref I], []⟩) R s := by
  have nw : a ∉ wr := fun z => na (W.sub a z)
  have wide : ∀ {x y : Shared}, Moved wr G x y → Moved (a :: wr) G x y := fun m => ⟨fun b o z => m.heap b o fun y => z (.tail _ y), m.gens, m.drawn, m.os, m.toks⟩
  induction k with
  | zero =>
    intro i s e st t q
    obtain rfl : i = n := e
    refine codeAny_builtin F.entry_set_update_loop ?_
    rw [Around.under_plainId F.plain_set_update_loop _]
    exact wpAny_bind (m := pyNext (.ref I)) (W.done s _ _ st fun s' m => wpAny_pure (q s' (wide m) (t.keep fun o => m.heap a o nw)))
  | succ k ih =>
    intro i s e st t q
    have lt : i < n := by omega
    refine codeAny_builtin F.entry_set_update_loop ?_
    rw [Around.under_plainId F.plain_set_update_loop _]
    refine wpAny_bind (m := pyNext (.ref I)) (W.item i s _ _ lt st fun v s1 p1 st1 m1 => ?_)
    obtain ⟨tk, rfl⟩ := vl i v p1
    have t1 : HasT prog w s1.heap a xs i := t.keep fun o => m1.heap a o nw
    have up := unl_le (xs := xs) i
    show wpAny _ A.in1 (holding _ (setAdd a (.str (xs.getD i Str.empty) tk)) >>= _) _ _ s1
    refine wpAny_bind (wpAny_holding ?_)
    unfold setAdd
    refine wpAny_holding (wpAny_bind ((PySem.strKind prog w).pyHash (k := xs.getD i Str.empty) (strKind_is _ _ _ _) ?_))
    refine wpAny_setAddHashed_of (knd := PySem.strKind prog w) (s := { s1 with toks := s1.toks + 1 }) (strKind_is _ _ _ _) rfl t1 (by omega) fun h2 sb t2 => ?_
    have t3 : HasT prog w h2 a xs (i + 1) := SetOf_congr t2 (inI_put (by omega)) (by show (if inI xs i _ = true then _ else _) = bif inI xs i _ then _ else _; cases inI xs i (xs.getD i Str.empty) <;> rfl)
    have away : ∀ b, b ≠ a → ∀ o, s1.heap.get? b = some o → h2.get? b = some o := fun b ne o z => by rw [sb.2 b ne]; exact z
    refine wpAny_pure ⟨plainId_quiet F.plain_set_update_loop _, ih (i + 1) _ (by omega) (W.frame _ s1 _ _ st1 (Nat.le_succ _) fun b hb o z => away b (fun y => na (y ▸ hb)) o z) t3 fun s4 m4 t4 => ?_⟩
    exact q s4 (Moved.trans W.gtrans ((wide m1).then_heap (Nat.le_succ _) fun b o hb z => away b (fun y => hb (y ▸ .head _)) o z) m4) t4
abbrev set0 (led : Bool) : Obj := { cls := .type "set", dict := none, data := .set #[] 0 (.fresh 0 0 led) }
theorem has0 {h : Heap} {a : Addr} {led : Bool} {xs : List Str} (g : h.get? a = some (set0 led)) : HasT prog w h a xs 0 := SetOf_congr ((setObjOf_fresh (knd := PySem.strKind prog w) led).setOf g (by decide)) (fun _ => rfl) rfl
theorem strs_get : ∀ {us : List Value} {xs : List Str}, StrsAre us xs → ∀ (i : Nat) (v : Value), us[i]? = some v → ∃ t, v = .str (xs.getD i Str.empty) t
  | _, _, .nil, i, v, h => by simp at h
  | _, _, .cons y t r, 0, v, h => ⟨t, (Option.some.inj h).symm⟩
  | _, _, .cons y t r, i + 1, v, h => strs_get r i v h
theorem iter_fill {l a : Addr} {its : Array Value} {xs : List Str} {led : Bool} {Q : Value → Shared → Prop} (hh : A.handled = none) (src : s.heap.IsList l its ∨ s.heap.IsTuple l its) (ts : StrsAre its.toList xs) (sm : its.size + 1 < scanBound)
    (ga : s.heap.get? a = some (set0 led)) (q : ∀ h' tk, HasT prog w h' a xs its.size → (∀ b o, b ≠ a → s.heap.get? b = some o → h'.get? b = some o) → Q .none { s with heap := h', toks := tk }) :
    wpAny (model prog w) A (pyIter (.ref l)) (fun it s1 => wpAny (model prog w) A (runValue (.builtin "set.update.loop" ⟨[.ref a, it], []⟩)) Q E s1) E s := by
  have len : xs.length = its.size := by rw [← StrsAre.len_eq ts, Array.length_toList]
  have la : a < s.heap.objs.size := Heap.lt_size ga
  have ll : l < s.heap.objs.size := by rcases src with ⟨o, g, _⟩ | ⟨o, g, _⟩ <;> exact Heap.lt_size g
  have nl : a ≠ l := fun z => by
    subst z
    rcases src with ⟨o, g, c, _⟩ | ⟨o, g, c, _⟩ <;>
    · rw [ga] at g
      cases g
      exact absurd (Value.type.inj c) (by decide)
  have vl : ∀ (i : Nat) (v : Value), its[i]? = some v → ∃ t, v = .str (xs.getD i Str.empty) t := fun i v hv => strs_get ts i v (by rw [Array.getElem?_toList]; exact hv)
  have nw : a ≠ s.heap.objs.size := Nat.ne_of_lt la
  have na : a ∉ [s.heap.objs.size, l] := fun z => by
    rcases List.mem_cons.mp z with z | z
    · exact nw z
    · exact nl (by simpa using z)
  have h1 : A.in1.handled = none := by simpa using hh
  have fin : ∀ (o : Obj) {P : Nat → Value → Prop} {St : Nat → Shared → Prop} {G : Array GenState → Array GenState → Prop}, WalksS prog w A.in1 s.heap.objs.size [s.heap.objs.size, l] [s.heap.objs.size] G its.size P St → (∀ x y, G x y → y = x) → (∀ i v, P i v → its[i]? = some v) →
      St 0 { s with heap := s.heap.push o } → wpAny (model prog w) A (runValue (.builtin "set.update.loop" ⟨[.ref a, .ref s.heap.objs.size], []⟩)) Q E { s with heap := s.heap.push o } := fun o P St G W eg pv st => by
    refine wpAny_runValue (put_each W na len sm (fun i v z => vl i v (pv i v z)) its.size 0 _ (Nat.zero_add _) st (has0 (led := led) (Heap.get?_push_of_some _ ga)) fun s' m t => ?_)
    obtain ⟨h', g', d', tk', os'⟩ := s'
    have e1 : g' = s.gens := eg _ _ m.gens
    have e2 : d' = s.drawn := m.drawn
    have e3 : os' = s.os := m.os
    subst e1; subst e2; subst e3
    refine q h' tk' t fun b o' nb z => m.heap b o' (fun y => ?_) (Heap.get?_push_of_some _ z)
    rcases List.mem_cons.mp y with y | y
    · exact nb y
    · have : b < s.heap.objs.size := Heap.lt_size z
      have e : b = s.heap.objs.size := by simpa using y
      exact absurd e (Nat.ne_of_lt this)
  rcases src with src | src
  · refine wpAny_pyIter_list src ?_
    exact fin _ (Walks.list h1 _ l (Nat.ne_of_lt ll) its).toS (fun _ _ e => e) (fun _ _ e => e) ⟨⟨_, Heap.get?_push_size _ rfl, rfl, rfl⟩, src.push _⟩
  · refine wpAny_pyIter_tuple src ?_
    exact fin _ (Walks.tuple h1 _ l (Nat.ne_of_lt ll) its).toS (fun _ _ e => e) (fun _ _ e => e) ⟨⟨_, Heap.get?_push_size _ rfl, rfl, rfl⟩, src.push _⟩
theorem set_made {l : Addr} {its : Array Value} {xs : List Str} {Q : Value → Shared → Prop} (hh : A.handled = none) (src : s.heap.IsList l its ∨ s.heap.IsTuple l its) (ts : StrsAre its.toList xs) (sm : its.size + 1 < scanBound)
    (q : ∀ h' tk, HasT prog w h' s.heap.objs.size xs its.size → (∀ b o, s.heap.get? b = some o → h'.get? b = some o) → Q (.ref s.heap.objs.size) { s with heap := h', toks := tk }) : wpAny (model prog w) A (call (.type "set") [.ref l]) Q E s := by
  obtain ⟨c, tl, mro⟩ := PySem.F.called_set.mro
  have f1 := PySem.F.called_set.made
  have f2 := PySem.F.called_set.sub
  have f3 := PySem.F.called_set.notType
  have f4 := PySem.F.called_set.canCreate
  have f5 := PySem.F.typeCall_set_1 (.ref l)
  refine wpAny_call (codeAny_of_tree ?_)
  show wpAny _ _ (callAny (.type "set") _) _ _ _
  refine wpAny_pure ⟨Code.quiet_builtin _ (by decide +kernel), codeAny_builtin PySem.F.entry_type_call ?_⟩
  rw [Around.under_plain (weight_type_call_type "set" [.ref l] []) rfl]
  repeat (any_goals (first | assumption | wp_step))
  refine codeAny_mono (code_set_new_1 (.ref l) (E := E) (Q₁ := fun v s1 => ∃ led, v = .ref s.heap.objs.size ∧ s1 = { s with heap := s.heap.push (set0 led) }) fun led => ⟨led, rfl, rfl⟩) fun r s1 hr => ?_
  rcases r with e | fl
  · exact hr
  cases fl <;> first | exact hr.elim | skip
  obtain ⟨led, rfl, rfl⟩ := hr
  have g0 : (s.heap.push (set0 led)).get? s.heap.objs.size = some (set0 led) := Heap.get?_push_size _ rfl
  have ty : Shared.TypeIs { s with heap := s.heap.push (set0 led) } (.ref s.heap.objs.size) "set" := ⟨_, g0, rfl⟩
  have i1 := PySem.F.called_set.init.lookup
  have i2 := PySem.F.called_set.init.bind (.ref s.heap.objs.size)
  have la : ∀ b o, s.heap.get? b = some o → b ≠ s.heap.objs.size := fun b o z => Nat.ne_of_lt (Heap.lt_size z)
  have src2 : (s.heap.push (set0 led)).IsList l its ∨ (s.heap.push (set0 led)).IsTuple l its := src.imp (·.push _) (·.push _)
  repeat (any_goals (first | assumption | wp_step))
  refine codeAny_mono (codeAny_call_builtin (R := wants (fun v s2 => v = .none ∧ ∃ h' tk, s2 = { s with heap := h', toks := tk } ∧ HasT prog w h' s.heap.objs.size xs its.size ∧ ∀ b o, s.heap.get? b = some o → h'.get? b = some o) E)
    PySem.F.called_set.init.plain PySem.F.entry_set_init (check_set_init_1 ty ?_)) fun r2 s2 hr2 => ?_
  · unfold Builtin.«set.__init__» noKeywords Builtin.Frozenset.updateFrom
    generalize hz : pyIter = Z
    have h2 : A.in1.in1.handled = none := by simpa using hh
    have fin : wpAny (model prog w) A.in1.in1 (pyIter (.ref l)) (fun it s1 => wpAny (model prog w) A.in1.in1 (runValue (.builtin "set.update.loop" ⟨[.ref s.heap.objs.size, it], []⟩)) (fun v s2 => v = .none ∧ ∃ h' tk, s2 = { s with heap := h', toks := tk } ∧ HasT prog w h' s.heap.objs.size xs its.size ∧ ∀ b o, s.heap.get? b = some o → h'.get? b = some o) E s1) E { s with heap := s.heap.push (set0 led) } :=
      iter_fill (led := led) h2 src2 ts sm g0 fun h' tk t k => ⟨rfl, h', tk, rfl, t, fun b o z => k b o (la b o z) (Heap.get?_push_of_some _ z)⟩
    rw [hz] at fin
    have kind : ∃ (T : String) (od : Option Addr) (n : Nat) (oz : Array (Option Value)), (s.heap.push (set0 led)).get? l = some ⟨.type T, od, .seq its n, oz⟩ ∧ isSubtype (.type T) (.type "set") = pure false ∧ isSubtype (.type T) (.type "frozenset") = pure false ∧ (Value.type T == Value.type "dict") = false := by
      rcases src2 with ⟨⟨oc, od, ot, oz⟩, g, c, n, e⟩ | ⟨⟨oc, od, ot, oz⟩, g, c, n, e⟩ <;> (simp only at c e; subst c; subst e)
      · exact ⟨_, _, _, _, g, PySem.F.sub_list_set, PySem.F.sub_list_frozenset, by decide⟩
      · exact ⟨_, _, _, _, g, PySem.F.sub_tuple_set, PySem.F.sub_tuple_frozenset, by decide⟩
    obtain ⟨T, od, n, oz, g, b1, b2, b3⟩ := kind
    clear src src2
    wp_walk
    refine wpAny_mono fin (fun it s1 k => wpAny_bind (wpAny_mono k (fun v s2 z => ?_) fun _ _ z => z)) fun _ _ z => z
    obtain ⟨rfl, z⟩ := z
    exact wpAny_pure (wpAny_pure ⟨rfl, z⟩)
  · rcases r2 with e | fl
    · exact hr2
    cases fl <;> first | exact hr2.elim | skip
    obtain ⟨rfl, h', tk, rfl, t, k⟩ := hr2
    repeat (any_goals (first | assumption | wp_step))
    exact q _ _ t k
end
theorem strs_of : ∀ {xs : List Str} {us : List Value}, Vals (xs.map V.str) us → StrsAre us xs
  | [], _, .nil => .nil
  | y :: _, _, .cons ⟨t, e⟩ r => e ▸ .cons y t (strs_of r)
def tLenS (K : PySem.W.Frag) (ta : TE) : TE := fun σ H Q => ta σ H fun x H1 => ∃ (l : Addr) (xs : List Str), x = .ref l ∧ (SqL K H1 l (xs.map V.str) ∨ SqT K H1 l (xs.map V.str)) ∧ xs.length + 1 < scanBound ∧ Q (.int (unl xs xs.length : Nat)) H1
theorem pe_lenS {X : Cx} {e : Expr} {te : TE} {n1 n2 c1 c2 : Pos} (g1 : Gl X "len") (m1 : X.mg "len" = none) (g2 : Gl X "set") (m2 : X.mg "set" = none) (he : PE X e te) (hc : X.calm = true := by rfl)
    (hs : starEach [e] X.env = (false, eval e X.env) :: starEach [] X.env := by rfl) : PE X (.Call (.Name "len" n1) [.Call (.Name "set" n2) [e] [] c2] [] c1) (tLenS X.K te) := by
  refine ⟨fun pins s σ H Q I h => Call_ (ld_blt I g1 m1 boot_len ?_)⟩
  refine callWith_builtin1 (args_cons ?_ rfl) rfl rfl
  refine Call_ (ld_blt I g2 m2 boot_set ?_)
  refine callWith_type1 (args_cons (thn (he.run pins s σ H _ I h) fun v s1 ⟨x, H1, I1, r1, q1⟩ => args_nil ?_) hs) hs rfl
  obtain ⟨l, xs, rfl, hq, small, q1⟩ := q1
  cases r1
  have src : ∃ its : List Value, Vals (xs.map V.str) its ∧ (s1.heap.IsList l its.toArray ∨ s1.heap.IsTuple l its.toArray) := by
    rcases hq with hq | hq
    · obtain ⟨its, r, pl, _⟩ := I1.list hq
      exact ⟨its, r, .inl pl.isList⟩
    · obtain ⟨its, r, pl, _⟩ := I1.tuple hq
      exact ⟨its, r, .inr pl⟩
  obtain ⟨its, r, src⟩ := src
  have len : its.toArray.size = xs.length := by rw [List.size_toArray, ← r.length, List.length_map]
  refine set_made (I1.ok.hd hc) src (by simpa using strs_of r) (by rw [len]; exact small) fun h' tk t k => args_nil ?_
  rw [len] at t
  obtain ⟨o, es, ep, tb, ho, ex, hd, _, _, _, ft, hn⟩ := t
  have I2 : Inv X pins σ H1 { s1 with heap := h', toks := tk } := I1.kept k
  have b := unl_le (xs := xs) xs.length
  have big : scanBound < 2 ^ 62 := by decide
  exact call_len_set ho ex hd ft (by rw [hn]; omega) ⟨.int (unl xs xs.length : Nat), H1, I2.tok _, ⟨_, by rw [hn]⟩, q1⟩
theorem ve_lenS {c : Ctx} {ρ : Rho} {S : Sto} {F : D → Sto → Prop} {te : TE} (h : VE c te ρ S fun x S1 => ∃ xs : List Str, IsQ S1 x (xs.map D.str) ∧ xs.length ≤ 1000 ∧ F (.int (unl xs xs.length : Nat)) S1) : VE c (tLenS c.K te) ρ S F := fun T σ H I Q k =>
  h T σ H I _ fun v x S1 T1 H1 m1 c1 r1 ⟨xs, q, small, f⟩ => by
    obtain ⟨a, vs, rfl, s, r⟩ := q.rd c1 r1
    have e := r.strs
    subst e
    have big : 2000 < scanBound := by decide
    exact ⟨a, xs, rfl, s, by omega, k _ _ S1 T1 H1 m1 c1 (.int _) f⟩
theorem unl_nodup {xs : List Str} (h : xs.Nodup) : ∀ i, i ≤ xs.length → unl xs i = i
  | 0, _ => rfl
  | i + 1, hi => by
    have ih := unl_nodup h i (by omega)
    unfold unl
    rw [ih]
    have no : ((xs.take i).any (· == xs.getD i Str.empty)) = false := by
      rw [Bool.eq_false_iff]
      intro z
      obtain ⟨y, hy, ey⟩ := List.any_eq_true.mp z
      rw [getD_at hi] at ey
      obtain ⟨j, hj, e⟩ := List.mem_take_iff_getElem.mp hy
      have e2 : xs[j] = xs[i] := e.trans (eq_of_beq ey)
      exact List.pairwise_iff_getElem.mp h j i (by omega) hi (by omega) e2
    rw [no]
    rfl
end VS
namespace VS
open PySem L2 PySem.Spec PyProof.Rows
/-! ### min of three, min of a list, list.insert, what is never reached -/
def rMin3 : List V → Hp → VK → Prop := fun xs H Q => ∃ i j k, xs = [.int i, .int j, .int k] ∧ Q (.int (min (min i j) k)) H
theorem c_min3 {X : Cx} (hc : X.calm = true) : CallR X (.builtin "min") rMin3 := by
  intro pins s σ H xs us Q I r h
  obtain ⟨i, j, k, rfl, q⟩ := h
  obtain ⟨t1, t2, t3, rfl⟩ : ∃ t1 t2 t3, us = [.int i t1, .int j t2, .int k t3] := by
    cases r with
    | cons r1 r2 =>
      obtain ⟨v, w, rfl, ⟨t2, rfl⟩, ⟨t3, rfl⟩⟩ := L2.vals2 r2
      obtain ⟨t1, rfl⟩ := r1
      exact ⟨t1, t2, t3, rfl⟩
  refine min_three_ints (I.ok.hd hc) fun h' tk kp => ⟨_, H, I.kept kp, ?_, q⟩
  by_cases e1 : j < i
  · rw [if_pos e1]
    by_cases e2 : k < j
    · rw [if_pos e2]; exact ⟨_, by rw [show min (min i j) k = k by omega]⟩
    · rw [if_neg e2]; exact ⟨_, by rw [show min (min i j) k = j by omega]⟩
  · rw [if_neg e1]
    by_cases e2 : k < i
    · rw [if_pos e2]; exact ⟨_, by rw [show min (min i j) k = k by omega]⟩
    · rw [if_neg e2]; exact ⟨_, by rw [show min (min i j) k = i by omega]⟩
def tNevS : TS := fun _ _ _ => False
theorem ps_nev {X : Cx} {st : Stmt} : PS X st tNevS := ⟨fun _ _ _ _ _ _ h => h.elim⟩
section
variable {c : Ctx} {ρ : Rho} {S : Sto} {F : D → Sto → Prop}
theorem rc_min3 {i j k : Int} (q : F (.int (min (min i j) k)) S) : RC c rMin3 [.int i, .int j, .int k] S F := fun T us H cl r Q kk => by
  cases r with
  | cons h1 t =>
    cases t with
    | cons h2 t =>
      cases t with
      | cons h3 t => cases t; cases h1; cases h2; cases h3; exact ⟨_, _, _, rfl, kk _ _ S T H Mv.refl cl (.int _) q⟩
def rInsert : V → List V → Hp → VK → Prop := fun x vs H Q => ∃ (l : Addr) (xs : List V) (i : Int) (y : V), x = .ref l ∧ vs = [.int i, y] ∧ H l = some (.lst xs) ∧ xs.length < sizeLine ∧ 0 ≤ i ∧ i < 2 ^ 63 ∧ Q .non (upd H l (.lst (xs.take i.toNat ++ [y] ++ xs.drop i.toNat)))
theorem mt_insertV {X : Cx} : MtR X "list.insert" rInsert := L2.mt_insert
theorem rm_insert {l : Addr} {ds : List D} {x : D} {i : Int} {n : Nat} (h : S l = some (.lst ds)) (hi : i = (n : Int)) (hn : n ≤ ds.length) (hl : ds.length < sizeLine) (q : F .non (put S l (.lst (ds.take n ++ [x] ++ ds.drop n)))) : RM c rInsert (.ref l) [.int i, x] S F := fun T u us H cl r1 r2 Q k => by
  subst hi
  cases r1
  cases r2 with
  | cons h0 t =>
    cases t with
    | cons h1 t =>
      cases t
      cases h0
      obtain ⟨xs, hx, r⟩ := cl.ok _ _ (cl.at h)
      have big : sizeLine < 2 ^ 62 := by decide
      refine ⟨l, xs, n, _, rfl, rfl, hx, by rw [r.length]; exact hl, by omega, by omega, ?_⟩
      rw [show ((n : Int)).toNat = n from rfl]
      exact k _ _ _ _ _ (mv_wr (cl.at h)) (cl.wr (cl.at h) (cell_l upd_same ((((r.take n).append (.cons h1 .nil)).append (r.drop n)).mv (mv_wr (cl.at h))))) .non q
end
end VS
namespace VS
open PySem L2 C8 PySem.Spec PyProof.Rows
/-! ### a module's constant that lies in the heap -/
def tKd (a : Addr) : TE := tC (.ref a)
theorem pe_kd {X : Cx} {x : Str} {pos : Pos} {a : Addr} (hg : Gl X x) (h : ∃ u, X.mg x = some u ∧ RelV (.ref a) u) (hd : (x == ("__debug__" : Str)) = false := by decide) : PE X (.Name x pos) (tKd a) := pe_gc hg h hd
theorem ve_kd {c : Ctx} {ρ : Rho} {S : Sto} {F : D → Sto → Prop} {a : Addr} {d : D} (r : ∀ H S, Rep c.K H S (.ref a) d) (q : F d S) : VE c (tKd a) ρ S F := ve_wr (r · ·) q
theorem isPL_strs : ∀ ms : List Str, isPL (ms.map D.str) = true
  | [] => rfl
  | m :: ms => by
    show (true && isPL (ms.map D.str)) = true
    rw [isPL_strs ms]
    rfl
theorem isP_strs (ms : List Str) : isP (.lst (ms.map D.str)) = true := isPL_strs ms
end VS
namespace VS
open PySem L2 PySem.Spec PyProof.Rows
section
variable {c : Ctx} {ρ : Rho} {S : Sto} {F : D → Sto → Prop}
/-- [e for x in xs if t], each by itself -/
theorem ve_lcF (p : D → Bool) (f : D → D) {wi : TI} {g : TG} {tt : TT} {te : TE} {vs : List Nat}
    (h : VI c wi ρ S fun ds S1 => ds.length ≤ 100000 ∧ (∀ d ∈ ds, VGw c vs g d (wipeR ρ vs) S1 fun ρ3 S3 => VT c tt ρ3 S3 fun b S4 => b = p d ∧ (p d = false → S4 = S1) ∧ (p d = true → VE c te ρ3 S4 fun y S5 => y = f d ∧ S5 = S1)) ∧ F (.lst ((ds.filter p).map f)) S1) : VE c (tLc wi g tt te vs) ρ S F := by
  refine ve_lc (fun T σ H I R k => h T σ H I R fun J ds S1 T1 H1 m1 c1 w ⟨h1, h2, h3⟩ => k J ds S1 T1 H1 m1 c1 w ⟨h1, fun i acc S2 => acc = ((ds.take i).filter p).map f ∧ S2 = S1, ⟨rfl, rfl⟩, ?_, ?_⟩)
  · rintro i d acc S2 hd ⟨e1, rfl⟩ hl T0 u0 σ0 H0 I0 r0 Q0 k0
    refine h2 d (List.mem_of_getElem? hd) T0 u0 σ0 H0 I0 r0 Q0 fun σ' ρ' S' T' H' hw m I' q => k0 σ' ρ' S' T' H' hw m I' ?_
    have tk : ds.take (i + 1) = ds.take i ++ [d] := by rw [List.take_succ, hd]; rfl
    refine q.imp fun b S4 ⟨hb, hf, hv⟩ => ?_
    subst hb
    refine ⟨fun z => (hv z).imp fun y S5 ⟨e2, e3⟩ => ⟨?_, e3⟩, fun z => ⟨?_, hf z⟩⟩
    · rw [tk, e1, e2, List.filter_append, List.map_append, List.filter_cons, if_pos z]
      rfl
    · rw [tk, e1, List.filter_append, List.map_append, List.filter_cons, if_neg (by rw [z]; decide)]
      simp
  · rintro acc S2 ⟨e1, rfl⟩ _
    rw [List.take_length] at e1
    rw [e1]
    exact h3
end
end VS
namespace VS
open PySem L2 PySem.Spec PyProof.Rows
end VS
namespace VS
open PySem L2 PySem.Spec PyProof.Rows
section
variable {c : Ctx} {ρ : Rho} {S : Sto} {F : D → Sto → Prop}
/-- [e for x in xs]: Q holds of each element, J of the store -/
theorem ve_lcJ (Q : D → Prop) (J : Nat → Sto → Prop) {wi : TI} {g : TG} {tt : TT} {te : TE} {vs : List Nat}
    (h : VI c wi ρ S fun ds S1 => ds.length ≤ 100000 ∧ J 0 S1 ∧ (∀ (i : Nat) (d : D) S2, ds[i]? = some d → J i S2 → VGw c vs g d (wipeR ρ vs) S2 fun ρ3 S3 => VT c tt ρ3 S3 fun b S4 => b = true ∧ VE c te ρ3 S4 fun y S5 => Q y ∧ J (i + 1) S5) ∧
      ∀ acc S2, acc.length = ds.length → (∀ y ∈ acc, Q y) → J ds.length S2 → F (.lst acc) S2) : VE c (tLc wi g tt te vs) ρ S F := by
  refine ve_lc (fun T σ H I R k => h T σ H I R fun J1 ds S1 T1 H1 m1 c1 w ⟨h1, h0, h2, h3⟩ => k J1 ds S1 T1 H1 m1 c1 w ⟨h1, fun i acc S2 => acc.length = i ∧ (∀ y ∈ acc, Q y) ∧ J i S2, ⟨rfl, nofun, h0⟩, ?_, ?_⟩)
  · rintro i d acc S2 hd ⟨e1, e2, e3⟩ hl T0 u0 σ0 H0 I0 r0 Q0 k0
    refine h2 i d S2 hd e3 T0 u0 σ0 H0 I0 r0 Q0 fun σ' ρ' S' T' H' hw m I' q => k0 σ' ρ' S' T' H' hw m I' ?_
    refine q.imp fun b S4 ⟨hb, hv⟩ => ?_
    subst hb
    refine ⟨fun _ => hv.imp fun y S5 ⟨f2, f3⟩ => ⟨by rw [List.length_append, e1]; rfl, fun y' hy => (List.mem_append.mp hy).elim (e2 y') fun z => by rw [List.mem_singleton.mp z]; exact f2, f3⟩, fun z => by cases z⟩
  · rintro acc S2 ⟨e1, e2, e3⟩ _
    exact h3 acc S2 e1 e2 e3
/-- .. the list by reference -/
theorem ve_lccJ (Q : D → Prop) (J : Nat → Sto → Prop) {wi : TI} {g : TG} {tt : TT} {te : TE} {vs : List Nat}
    (h : VI c wi ρ S fun ds S1 => ds.length ≤ 100000 ∧ J 0 S1 ∧ (∀ (i : Nat) (d : D) S2, ds[i]? = some d → J i S2 → VGw c vs g d (wipeR ρ vs) S2 fun ρ3 S3 => VT c tt ρ3 S3 fun b S4 => b = true ∧ VE c te ρ3 S4 fun y S5 => Q y ∧ J (i + 1) S5) ∧
      ∀ acc S2, acc.length = ds.length → (∀ y ∈ acc, Q y) → J ds.length S2 → ∀ l, S2 l = none → F (.ref l) (put S2 l (.lst acc))) : VE c (tLc wi g tt te vs) ρ S F := by
  refine ve_lcc (fun T σ H I R k => h T σ H I R fun J1 ds S1 T1 H1 m1 c1 w ⟨h1, h0, h2, h3⟩ => k J1 ds S1 T1 H1 m1 c1 w ⟨h1, fun i acc S2 => acc.length = i ∧ (∀ y ∈ acc, Q y) ∧ J i S2, ⟨rfl, nofun, h0⟩, ?_, ?_⟩)
  · rintro i d acc S2 hd ⟨e1, e2, e3⟩ hl T0 u0 σ0 H0 I0 r0 Q0 k0
    refine h2 i d S2 hd e3 T0 u0 σ0 H0 I0 r0 Q0 fun σ' ρ' S' T' H' hw m I' q => k0 σ' ρ' S' T' H' hw m I' ?_
    refine q.imp fun b S4 ⟨hb, hv⟩ => ?_
    subst hb
    refine ⟨fun _ => hv.imp fun y S5 ⟨f2, f3⟩ => ⟨by rw [List.length_append, e1]; rfl, fun y' hy => (List.mem_append.mp hy).elim (e2 y') fun z => by rw [List.mem_singleton.mp z]; exact f2, f3⟩, fun z => by cases z⟩
  · rintro acc S2 ⟨e1, e2, e3⟩ _ l hl
    exact h3 acc S2 e1 e2 e3 l hl
end
theorem strs_all {Q : Str → Prop} : ∀ {xs : List D}, (∀ y ∈ xs, ∃ z, y = .str z ∧ Q z) → ∃ zs : List Str, xs = zs.map D.str ∧ ∀ z ∈ zs, Q z
  | [], _ => ⟨[], rfl, nofun⟩
  | x :: xs, h => by
    obtain ⟨z, rfl, q⟩ := h x (.head _)
    obtain ⟨zs, rfl, r⟩ := strs_all fun y hy => h y (.tail _ hy)
    exact ⟨z :: zs, rfl, fun y hy => (List.mem_cons.mp hy).elim (fun e => by rw [e]; exact q) (r y)⟩
end VS
namespace VS
open PySem L2 PySem.Spec PyProof.Rows
end VS
namespace VS
open PySem L2 C8 PySem.Spec PyProof.Rows
/-! ### x in [..] with own == -/
inductive FlK : D → String → Prop
  | non : FlK .non "NoneType" | bl (b : Bool) : FlK (.bl b) "bool" | int (i : Int) : FlK (.int i) "int" | str (z : Str) : FlK (.str z) "str"
theorem FlK.ty {S : Sto} {d : D} {n : String} (h : FlK d n) : TyS S d n := by
  cases h with
  | non => exact .non
  | bl b => exact .bl b
  | int i => exact .int i
  | str z => exact .str z
end VS
namespace VS
open PySem L2 C8 PySem.Spec PyProof.Rows
/-! ### bool of a truth; one operator, two readings -/
end VS
namespace VS
open PySem L2 PySem.Spec PyProof.Rows
/-! ### .. the list told by an expression -/
section
variable {c : Ctx} {ρ : Rho} {S : Sto} {F : D → Sto → Prop}
theorem ve_lcCellE {g : TG} {tt : TT} {te : TE} {vs : List Nat} {ti : TE} {l : Addr} {ds : List D} (hv : VE c ti ρ (VS.del S l) fun x S1 => x = .ref l ∧ S1 = VS.del S l) (hl : S l = some (.lst ds)) (hz : ds.length ≤ 100000) (W : Nat → List D → Sto → Prop) (h0 : W 0 [] (VS.del S l))
    (hs : ∀ (i : Nat) (d : D) acc S2, ds[i]? = some d → W i acc S2 → acc.length ≤ i → VGw c vs g d (wipeR ρ vs) S2 fun ρ3 S3 => VT c tt ρ3 S3 fun b S4 => (b = true → VE c te ρ3 S4 fun y S5 => W (i + 1) (acc ++ [y]) S5) ∧ (b = false → W (i + 1) acc S4))
    (hd : ∀ acc S2, W ds.length acc S2 → acc.length ≤ ds.length → F (.lst acc) (put S2 l (.lst ds))) : VE c (tLc (iList c.K ti) g tt te vs) ρ S F := fun T σ H I Q k => by
  have ht := I.cells.at hl
  obtain ⟨xs, hx, r⟩ := I.cells.ok _ _ ht
  have m0 : Mv T H (put T l .hid) H := mv_hide ht (by nofun)
  have c0 := I.cells.hide hl hx
  have I0 : In c σ H ρ (VS.del S l) (put T l .hid) := I.mv m0 c0
  refine lc_heartAt (R := fun acc S2 => F (.lst acc) (put S2 l (.lst ds))) (fun R kR => ?_) I0 fun p ys acc S' T' H' T1 H1 m1 m cl s n hp rr q => ?_
  · refine hv _ σ H I0 _ fun vx x S1 T1 H1 m1 c1 r1 ⟨e1, e2⟩ => ?_
    subst e1 e2
    cases r1
    obtain ⟨hx1, s1⟩ := m1.hid l _ put_same hx
    have rx : RepL c.K H1 T1 xs ds := (r.mk m0.toMk).mv m1
    have hq : ∀ T2 H2, Mv T1 H1 T2 H2 → SqL c.K H2 l xs := fun T2 H2 m2 => .inl (.inl (m2.hid l _ s1 hx1).1)
    exact ⟨l, rfl, ⟨xs, .inl (.inl hx1)⟩, kR _ ds _ T1 H1 m1 c1 (yl_list hq rx) ⟨hz, W, h0, hs, hd⟩⟩
  · have mm := m1.trans m
    obtain ⟨hx', s'⟩ := mm.hid l _ put_same hx
    obtain ⟨hx1, _⟩ := m1.hid l _ put_same hx
    have npl : l ≠ p := fun z => by subst z; rw [n] at hx1; cases hx1
    have rx : RepL c.K H' T' xs ds := (r.mk m0.toMk).mv mm
    have s2 : (VS.del T' p) l = some .hid := by rw [VS.del_ne npl]; exact s'
    have c2 := (cl.unhid s).show s2 hx' (rx.mk (mk_show s))
    have mk2 : Mk (VS.del T' p) H' (put (VS.del T' p) l (.lst ds)) H' := by
      refine ⟨fun _ _ _ h => h, fun a u1 _ => ?_⟩
      have nal : a ≠ l := fun z => by rw [z, s2] at u1; cases u1
      rw [put_ne nal]
      exact u1
    have m3 : Mv T H (put (VS.del T' p) l (.lst ds)) H' := by
      have ma := m0.trans mm
      refine ⟨⟨ma.keep, fun a u e => ?_⟩, fun a o u e => ?_⟩
      · have nal : a ≠ l := fun z => by subst z; rw [ht] at u; cases u
        rw [put_ne nal]
        unfold VS.del
        split
        · rfl
        · exact ma.fresh a u e
      · obtain ⟨e1, e2⟩ := ma.hid a o u e
        refine ⟨e1, ?_⟩
        have nal : a ≠ l := fun z => by subst z; rw [ht] at u; cases u
        have nap : a ≠ p := fun z => by
          subst z
          obtain ⟨e3, _⟩ := (m0.trans m1).hid a o u e
          rw [n] at e3; cases e3
        rw [put_ne nal, VS.del_ne nap]
        exact e2
    exact k _ (.lst acc) _ _ H' m3 c2 (.lst (by rw [put_ne (Ne.symm npl)]; exact del_same) hp ((rr.mk (mk_show s)).mk mk2)) q
theorem put_back {l : Addr} {d : D} (h : S l = some d) : put (VS.del S l) l d = S := by
  funext b
  by_cases e : b = l
  · subst e; rw [put_same, h]
  · rw [put_ne e, VS.del_ne e]
end
end VS
namespace VS
open PySem L2 PySem.Spec PyProof.Rows
/-! ### xs[::-1] -/
end VS
namespace VS
open PySem L2 PySem.Spec PyProof.Rows
end VS
namespace VS
open PySem L2
/-! ### what was known stays known where nothing is lost -/
section
variable {S S' : Sto}
theorem TyS.ext {d : D} {n : String} (h : TyS S d n) (x : Ext S S') : TyS S' d n := by
  cases h with
  | cl h => exact .cl (x _ _ h)
  | cd h => exact .cd (x _ _ h)
  | non => exact .non
  | bl b => exact .bl b
  | int i => exact .int i
  | str z => exact .str z
  | rol ds => exact .rol ds
  | lst ds => exact .lst ds
  | tup ds => exact .tup ds
  | dK ds => exact .dK ds
theorem IsI.ext {d : D} {C : Addr} {fs : List (Str × D)} (h : IsI S d C fs) (x : Ext S S') : IsI S' d C fs := by
  cases h with
  | v => exact .v
  | c h => exact .c (x _ _ h)
theorem OfC.ext {K : PySem.W.Frag} {d : D} {t : Value} (h : OfC K S d t) (x : Ext S S') : OfC K S' d t := by
  cases h with
  | p h => exact .p (h.ext x)
  | i h c => exact .i (h.ext x) c
  | e T => exact .e T
theorem Da.ext {d d' : D} (h : Da S d d') (x : Ext S S') : Da S' d d' := by
  cases h with
  | v p => exact .v p
  | c h p => exact .c (x _ _ h) p
  | k h p => exact .k (x _ _ h) p
theorem DaL.ext (x : Ext S S') : ∀ {ds es : List D}, DaL S ds es → DaL S' ds es
  | _, _, .nil => .nil
  | _, _, .cons h r => .cons (h.ext x) (r.ext x)
theorem Vw.ext {d d' : D} (h : Vw S d d') (x : Ext S S') : Vw S' d d' := by
  cases h with
  | v => exact .v
  | c h n => exact .c (x _ _ h) n
end
end VS
namespace VS
open PySem L2 C8 PySem.Spec PyProof.Rows
/-! ### a walk over a list known by reference: it is hidden meanwhile -/
section
variable {c : Ctx} {ρ : Rho} {S : Sto}
theorem mk_back {T : Sto} {H : Hp} {l : Addr} {d : D} (s : T l = some .hid) : Mk T H (put T l d) H := by
  refine ⟨fun _ _ _ h => h, fun a u1 _ => ?_⟩
  have nal : a ≠ l := fun z => by rw [z, s] at u1; cases u1
  rw [put_ne nal]
  exact u1
theorem mv_back {T T' : Sto} {H H' : Hp} {l : Addr} {d e : D} (ht : T l = some e) (ne : e ≠ .hid) (m : Mv (put T l .hid) H T' H') : Mv T H (put T' l d) H' := by
  have ma := (mv_hide (H := H) ht ne).trans m
  refine ⟨⟨ma.keep, fun a u e => ?_⟩, fun a o u e => ?_⟩
  · have nal : a ≠ l := fun z => by subst z; rw [ht] at u; cases u
    rw [put_ne nal]
    exact ma.fresh a u e
  · obtain ⟨e1, e2⟩ := ma.hid a o u e
    have nal : a ≠ l := fun z => by subst z; rw [ht] at u; cases u; exact ne rfl
    exact ⟨e1, by rw [put_ne nal]; exact e2⟩
/-- no exception leaves -/
abbrev Ctx.calm (c : Ctx) : Ctx := ⟨c.K, c.E, fun _ _ _ _ => False⟩
theorem vx_forCell {wi : TI} {g : TG} {tb : TS} {nx bk ct : Rho → Sto → Prop} {rt : D → Sto → Prop} {l : Addr} {ds es : List D} (hl : S l = some (.lst ds))
    (hw : ∀ T σ H xs, In c.calm σ H ρ (VS.del S l) T → T l = some .hid → H l = some (.lst xs) → RepL c.K H T xs ds → ∀ R : It → Hp → Prop, (∀ J T1 H1, Mv T H T1 H1 → Cells c.K H1 (VS.del S l) T1 → Yl c.K J es T1 H1 → R J H1) → wi σ H R)
    (W : Nat → Rho → Sto → Prop) (h0 : W 0 ρ (VS.del S l))
    (hs : ∀ (i : Nat) (d : D) ρ2 S2, es[i]? = some d → W i ρ2 S2 → VG c.calm g d ρ2 S2 fun ρ3 S3 => VX c.calm tb ρ3 S3 ⟨W (i + 1), fun d S4 => rt d (put S4 l (.lst ds)), fun ρ4 S4 => nx ρ4 (put S4 l (.lst ds)), W (i + 1)⟩)
    (hd : ∀ ρ2 S2, W es.length ρ2 S2 → nx ρ2 (put S2 l (.lst ds))) :
    VX c (tFor wi g tb) ρ S ⟨nx, rt, bk, ct⟩ := fun T σ H I D b => by
  have ht := I.cells.at hl
  obtain ⟨xs, hx, r⟩ := I.cells.ok _ _ ht
  have m0 : Mv T H (put T l .hid) H := mv_hide ht (by nofun)
  have c0 := I.cells.hide hl hx
  have I0 : In c.calm σ H ρ (VS.del S l) (put T l .hid) := ⟨c0, fun i d e => let ⟨v, h, r⟩ := I.slots i d e; ⟨v, h, r.mv m0⟩, I.len, fun _ _ _ _ _ _ _ _ _ _ _ _ z => z.elim⟩
  have r0 := r.mv m0
  -- back
  have bkI : ∀ {σ4 H4 ρ4 S4 T4}, Mv (put T l .hid) H T4 H4 → In c.calm σ4 H4 ρ4 S4 T4 → Mv T H (put T4 l (.lst ds)) H4 ∧ In c σ4 H4 ρ4 (put S4 l (.lst ds)) (put T4 l (.lst ds)) := by
    intro σ4 H4 ρ4 S4 T4 m4 I4
    obtain ⟨hx4, s4⟩ := m4.hid l _ put_same hx
    have m5 : Mv T H (put T4 l (.lst ds)) H4 := mv_back ht (by nofun) m4
    have cl := I4.cells.show s4 hx4 (r0.mv m4)
    exact ⟨m5, cl, fun i d e => let ⟨v, h, q⟩ := I4.slots i d e; ⟨v, h, Rep.mk (mk_back s4) q⟩, I4.len, fun σ2 ρ2 C d fs S2 T2 H2 m2 => I.exc σ2 ρ2 C d fs S2 T2 H2 (m5.trans m2)⟩
  have bkR : ∀ {v d H4 S4 T4}, Mv (put T l .hid) H T4 H4 → Cells c.K H4 S4 T4 → Rep c.K H4 T4 v d → Mv T H (put T4 l (.lst ds)) H4 ∧ Cells c.K H4 (put S4 l (.lst ds)) (put T4 l (.lst ds)) ∧ Rep c.K H4 (put T4 l (.lst ds)) v d := by
    intro v d H4 S4 T4 m4 cl4 q
    obtain ⟨hx4, s4⟩ := m4.hid l _ put_same hx
    exact ⟨mv_back ht (by nofun) m4, cl4.show s4 hx4 (r0.mv m4), Rep.mk (mk_back s4) q⟩
  refine hw _ σ H xs I0 put_same hx r0 _ fun J T1 H1 m1 c1 ⟨G, Y, w, hG, hY⟩ => ?_
  refine for_it w (fun i σ' H' => ∃ ρ2 S2 T2, Mv T1 H1 T2 H' ∧ In c.calm σ' H' ρ2 S2 T2 ∧ W i ρ2 S2) ⟨ρ, _, T1, Mv.refl, I0.mv m1 c1, h0⟩ (fun i σ' H' _ ⟨ρ2, S2, T2, m, _, _⟩ => hG T2 H' m) ?_ ?_
  · rintro i x σ' H' H'' hi ⟨ρ2, S2, T2, m, I2, hw2⟩ y
    obtain ⟨d, e⟩ : ∃ d, es[i]? = some d := ⟨es[i], List.getElem?_eq_getElem hi⟩
    obtain ⟨m3, c3, r3⟩ := hY i d S2 T2 H' H'' x e m I2.cells y
    refine hs i d ρ2 S2 e hw2 T2 x σ' H'' (I2.mv m3 c3) r3 _ fun σ3 ρ3 S3 T3 H3 m4 I3 q => ?_
    have mm := m.trans (m3.trans m4)
    have mb := m1.trans mm
    refine q T3 σ3 H3 I3 _ ⟨fun σ4 ρ4 S4 T4 H4 m5 I4 q4 => ⟨ρ4, S4, T4, mm.trans m5, I4, q4⟩, fun v d S4 T4 H4 m5 c4 r4 q4 => ?_, fun σ4 ρ4 S4 T4 H4 m5 I4 q4 => ?_, fun σ4 ρ4 S4 T4 H4 m5 I4 q4 => ⟨ρ4, S4, T4, mm.trans m5, I4, q4⟩⟩
    · obtain ⟨a1, a2, a3⟩ := bkR (mb.trans m5) c4 r4
      exact b.rt v d _ _ H4 a1 a2 a3 q4
    · obtain ⟨a1, a2⟩ := bkI (mb.trans m5) I4
      exact b.nx σ4 ρ4 _ _ H4 a1 a2 q4
  · rintro σ' H' ⟨ρ2, S2, T2, m, I2, hw2⟩
    obtain ⟨a1, a2⟩ := bkI (m1.trans m) I2
    exact b.nx σ' ρ2 _ _ H' a1 a2 (hd ρ2 S2 hw2)
/-- for x in e, e a list known by reference -/
theorem vx_forCellL {te : TE} {g : TG} {tb : TS} {nx bk ct : Rho → Sto → Prop} {rt : D → Sto → Prop} {l : Addr} {ds : List D} (hl : S l = some (.lst ds))
    (he : VE c.calm te ρ (VS.del S l) fun x S1 => x = .ref l ∧ S1 = VS.del S l)
    (W : Nat → Rho → Sto → Prop) (h0 : W 0 ρ (VS.del S l))
    (hs : ∀ (i : Nat) (d : D) ρ2 S2, ds[i]? = some d → W i ρ2 S2 → VG c.calm g d ρ2 S2 fun ρ3 S3 => VX c.calm tb ρ3 S3 ⟨W (i + 1), fun d S4 => rt d (put S4 l (.lst ds)), fun ρ4 S4 => nx ρ4 (put S4 l (.lst ds)), W (i + 1)⟩)
    (hd : ∀ ρ2 S2, W ds.length ρ2 S2 → nx ρ2 (put S2 l (.lst ds))) :
    VX c (tFor (iList c.K te) g tb) ρ S ⟨nx, rt, bk, ct⟩ := by
  refine vx_forCell hl (fun T σ H xs I s hx r R k => ?_) W h0 hs hd
  refine he T σ H I _ fun vx x S1 T1 H1 m1 c1 r1 ⟨e1, e2⟩ => ?_
  subst e1 e2
  cases r1
  obtain ⟨hx1, s1⟩ := m1.hid l _ s hx
  have hq : ∀ T2 H2, Mv T1 H1 T2 H2 → SqL c.K H2 l xs := fun T2 H2 m2 => .inl (.inl (m2.hid l _ s1 hx1).1)
  exact ⟨l, rfl, ⟨xs, .inl (.inl hx1)⟩, k _ T1 H1 m1 c1 (yl_list hq (r.mv m1))⟩
/-- for i, x in enumerate(e), e a list known by reference -/
theorem vx_forCellE {te : TE} {g : TG} {tb : TS} {nx bk ct : Rho → Sto → Prop} {rt : D → Sto → Prop} {l : Addr} {ds : List D} (hl : S l = some (.lst ds))
    (he : VE c.calm te ρ (VS.del S l) fun x S1 => x = .ref l ∧ S1 = VS.del S l)
    (W : Nat → Rho → Sto → Prop) (h0 : W 0 ρ (VS.del S l))
    (hs : ∀ (i : Nat) (d : D) ρ2 S2, ds[i]? = some d → W i ρ2 S2 → VG c.calm g (.tup [.int (i : Nat), d]) ρ2 S2 fun ρ3 S3 => VX c.calm tb ρ3 S3 ⟨W (i + 1), fun d S4 => rt d (put S4 l (.lst ds)), fun ρ4 S4 => nx ρ4 (put S4 l (.lst ds)), W (i + 1)⟩)
    (hd : ∀ ρ2 S2, W ds.length ρ2 S2 → nx ρ2 (put S2 l (.lst ds))) :
    VX c (tFor (iEnum c.K (tCons te tNil)) g tb) ρ S ⟨nx, rt, bk, ct⟩ := by
  refine vx_forCell (es := enumD ds) hl (fun T σ H xs I s hx r R k => ?_) W h0 (fun i d ρ2 S2 hi hw => ?_) (by rw [enumD_len]; exact hd)
  · refine he T σ H I _ fun vx x S1 T1 H1 m1 c1 r1 ⟨e1, e2⟩ => ?_
    subst e1 e2
    cases r1
    obtain ⟨hx1, s1⟩ := m1.hid l _ s hx
    have hq : ∀ T2 H2, Mv T1 H1 T2 H2 → SqL c.K H2 l xs := fun T2 H2 m2 => .inl (.inl (m2.hid l _ s1 hx1).1)
    refine ⟨l, xs, rfl, hq _ _ Mv.refl, k _ T1 H1 m1 c1 ⟨fun H => SqL c.K H l xs, _, by rw [enumD_len, ← r.length]; exact walk_enum, hq, fun i d S2 T2 H2 H3 y e m cl yy => ?_⟩⟩
    obtain ⟨T, u, w, e1, hT, e2, e3, e4⟩ := yy
    obtain ⟨y', e5, e6⟩ := enumD_get e
    subst e1 e2 e6
    obtain ⟨v, e7, r'⟩ := (r.mv m1).get e5
    have e4' : xs[i]? = some w := e4
    rw [e4'] at e7
    cases e7
    cases e3
    exact ⟨mv_new hT, cl.new hT, .tup (cl.free hT) upd_same (.cons (.int _) (.cons ((r'.mv m).mv (mv_new hT)) .nil))⟩
  · obtain ⟨y, e5, rfl⟩ := enumD_get hi
    exact hs i y ρ2 S2 e5 hw
end
end VS
namespace VS
open PySem L2 C8 PySem.Spec PyProof.Rows
section
variable {c : Ctx} {ρ : Rho} {S : Sto}
/-- a statement, what is known behind it, and the rest: where ways meet -/
theorem vx_join {a b : TS} {nx bk ct : Rho → Sto → Prop} {rt : D → Sto → Prop} (W : Rho → Sto → Prop) (h1 : VX c a ρ S ⟨W, rt, bk, ct⟩) (h2 : ∀ ρ' S', W ρ' S' → VX c b ρ' S' ⟨nx, rt, bk, ct⟩) : VX c (tSeq a b) ρ S ⟨nx, rt, bk, ct⟩ :=
  vx_seq (fun T σ H I D k => h1 T σ H I D ⟨fun σ' ρ' S' T' H' m I' q => k.nx σ' ρ' S' T' H' m I' (h2 ρ' S' q), k.rt, k.bk, k.ct⟩)
/-- an if: the test's ways meet -/
theorem vx_ifJ {tc : TT} {t u : TS} {P : Po} (J : Bool → Sto → Prop) (hc : VT c tc ρ S J) (h1 : ∀ S1, J true S1 → VX c t ρ S1 P) (h2 : ∀ S1, J false S1 → VX c u ρ S1 P) : VX c (tIfS tc t u) ρ S P :=
  vx_if (hc.imp fun b S1 j => ⟨fun e => h1 _ (by rw [← e]; exact j), fun e => h2 _ (by rw [← e]; exact j)⟩)
end
end VS
namespace VS
open PySem L2 C8 PySem.Spec PyProof.Rows
/-! ### min and max of a tuple of whole numbers -/
end VS
namespace VS
open PySem L2 C8 PySem.Spec PyProof.Rows
/-! ### dicts whose keys are numbers and texts: d[k], d[k] = v, {} by reference -/
def valD (ds : List (Key × D)) (k : Key) : Option D := (ds.find? fun kv => decide (kv.1 = k)).map (·.2)
def dkPut (ds : List (Key × D)) (k : Key) (d : D) : List (Key × D) :=
  if (ds.any fun kv => decide (kv.1 = k)) = true then ds.map (fun kv => if kv.1 = k then (kv.1, d) else kv) else ds ++ [(k, d)]
def kD : Key → D
  | .inl i => .int i
  | .inr x => .str x
theorem kD_rep {K : PySem.W.Frag} {H : Hp} {S : Sto} {k : Key} {v : V} (r : Rep K H S v (kD k)) : v = kV k := by
  cases k with
  | inl i => cases r; rfl
  | inr x => cases r; rfl
theorem valD_pos {p : Key × D} {r : List (Key × D)} {k : Key} (e : p.1 = k) : valD (p :: r) k = some p.2 := by simp [valD, List.find?_cons, e]
theorem valD_neg {p : Key × D} {r : List (Key × D)} {k : Key} (e : ¬ p.1 = k) : valD (p :: r) k = valD r k := by simp [valD, List.find?_cons, e]
section
variable {K : PySem.W.Frag} {H : Hp} {S : Sto}
theorem RepK.val {k : Key} : ∀ {vs : List (Key × V)} {ds : List (Key × D)}, RepK K H S vs ds → (valV vs k = none ∧ valD ds k = none) ∨ ∃ v d, valV vs k = some v ∧ valD ds k = some d ∧ Rep K H S v d
  | _, _, .nil => .inl ⟨rfl, rfl⟩
  | _, _, .cons (k := k') h t => by
    by_cases e : k' = k
    · exact .inr ⟨_, _, valV_pos e, valD_pos e, h⟩
    · rw [valV_neg e, valD_neg e]
      exact RepK.val t
theorem RepK.anyK {k : Key} : ∀ {vs : List (Key × V)} {ds : List (Key × D)}, RepK K H S vs ds → (vs.any fun kv => decide (kv.1 = k)) = ds.any fun kv => decide (kv.1 = k)
  | _, _, .nil => rfl
  | _, _, .cons h t => by rw [List.any_cons, List.any_cons, RepK.anyK t]
theorem RepK.rep {k : Key} {v : V} {d : D} (r : Rep K H S v d) : ∀ {vs : List (Key × V)} {ds : List (Key × D)}, RepK K H S vs ds → RepK K H S (vs.map fun kv => if kv.1 = k then (kv.1, v) else kv) (ds.map fun kv => if kv.1 = k then (kv.1, d) else kv)
  | _, _, .nil => .nil
  | _, _, .cons (k := k') h t => by
    rw [List.map_cons, List.map_cons]
    by_cases e : k' = k
    · rw [if_pos e, if_pos e]; exact .cons r (RepK.rep r t)
    · rw [if_neg e, if_neg e]; exact .cons h (RepK.rep r t)
theorem RepK.app {k : Key} {v : V} {d : D} (r : Rep K H S v d) : ∀ {vs : List (Key × V)} {ds : List (Key × D)}, RepK K H S vs ds → RepK K H S (vs ++ [(k, v)]) (ds ++ [(k, d)])
  | _, _, .nil => .cons r .nil
  | _, _, .cons h t => .cons h (RepK.app r t)
theorem RepK.put {k : Key} {v : V} {d : D} {vs : List (Key × V)} {ds : List (Key × D)} (r : Rep K H S v d) (h : RepK K H S vs ds) : RepK K H S (putK vs k v) (dkPut ds k d) := by
  unfold putK dkPut
  rw [h.anyK]
  by_cases e : (ds.any fun kv => decide (kv.1 = k)) = true
  · rw [if_pos e, if_pos e]; exact RepK.rep r h
  · rw [if_neg e, if_neg e]; exact RepK.app r h
theorem RepK.length : ∀ {vs : List (Key × V)} {ds : List (Key × D)}, RepK K H S vs ds → vs.length = ds.length
  | _, _, .nil => rfl
  | _, _, .cons h t => congrArg (· + 1) (RepK.length t)
theorem RepK.keys : ∀ {vs : List (Key × V)} {ds : List (Key × D)}, RepK K H S vs ds → vs.map (·.1) = ds.map (·.1)
  | _, _, .nil => rfl
  | _, _, .cons h t => by rw [List.map_cons, List.map_cons, RepK.keys t]
end
inductive IsDk (S : Sto) : D → List (Key × D) → Prop
  | v {ds : List (Key × D)} : IsDk S (.dK ds) ds
  | c {l : Addr} {ds : List (Key × D)} (h : S l = some (.dK ds)) : IsDk S (.ref l) ds
theorem IsDk.rd {K : PySem.W.Frag} {H : Hp} {S T : Sto} {x : D} {ds : List (Key × D)} {u : V} (h : IsDk S x ds) (cl : Cells K H S T) (r : Rep K H T u x) : ∃ a vs, u = .ref a ∧ Rd H a (.dK vs) ∧ RepK K H T vs ds := by
  cases h with
  | v => cases r with
    | dK s h r => exact ⟨_, _, rfl, h, r⟩
  | c h => cases r; obtain ⟨xs, h1, r⟩ := cl.ok _ _ (cl.at h); exact ⟨_, xs, rfl, .inl h1, r⟩
theorem DGet.r {H : Hp} {a : Addr} {kvs : List (Key × V)} {k : Key} (e : Rd H a (.dK kvs)) : DGet H a (kV k) (valV kvs k) := .inl ⟨kvs, k, e, rfl, rfl⟩
section
variable {c : Ctx} {ρ : Rho} {S : Sto} {F : D → Sto → Prop}
/-- {}, by reference -/
theorem ve_dnewc (q : ∀ p, S p = none → F (.ref p) (put S p (.dK []))) : VE c tDNewK ρ S F := fun T σ H I Q k => fun p hp =>
  k _ _ _ _ _ (mv_newc hp) (I.cells.newc hp (cell_d upd_same .nil)) (.ref p) (q p (I.cells.freeS hp))
/-- d[k] -/
theorem ve_dget {td ty : TE} (h : VE c td ρ S fun x S1 => VE c ty ρ S1 fun y S2 => ∃ (ds : List (Key × D)) (k : Key) (d : D), IsDk S2 x ds ∧ y = kD k ∧ valD ds k = some d ∧ F d S2) : VE c (tDGet td ty) ρ S F := fun T σ H I Q kk =>
  h T σ H I _ fun vx x S1 T1 H1 m1 c1 r1 h1 => h1 T1 σ H1 (I.mv m1 c1) _ fun vy y S2 T2 H2 m2 c2 r2 ⟨ds, k, d, hd, ey, hv, q⟩ => by
    subst ey
    obtain rfl := kD_rep r2
    obtain ⟨a, vs, rfl, ha, rk⟩ := hd.rd c2 (r1.mv m2)
    rcases rk.val (k := k) with ⟨_, e⟩ | ⟨v, d', e1, e2, rv⟩
    · rw [hv] at e; cases e
    · rw [hv] at e2
      cases e2
      exact ⟨a, v, rfl, by rw [← e1]; exact DGet.r ha, kk v d S2 T2 H2 (m1.trans m2) c2 rv q⟩
/-- d[k] = v -/
theorem vx_dput {td ty tv : TE} {nx bk ct : Rho → Sto → Prop} {rt : D → Sto → Prop} (h : VE c tv ρ S fun d S1 => VE c td ρ S1 fun x S2 => ∃ l, x = .ref l ∧ VE c ty ρ S2 fun y S3 => ∃ (ds : List (Key × D)) (k : Key), S3 l = some (.dK ds) ∧ y = kD k ∧ ds.length < sizeLine ∧ nx ρ (put S3 l (.dK (dkPut ds k d)))) : VX c (sDPut td ty tv) ρ S ⟨nx, rt, bk, ct⟩ := fun T σ H I D b =>
  h T σ H I _ fun v d S1 T1 H1 m1 c1 r1 h1 => h1 T1 σ H1 (I.mv m1 c1) _ fun vx x S2 T2 H2 m2 c2 r2 ⟨l, ex, h2⟩ => h2 T2 σ H2 ((I.mv m1 c1).mv m2 c2) _ fun vy y S3 T3 H3 m3 c3 r3 ⟨ds, k, hl, ey, hs, q⟩ => by
    subst ex ey
    obtain rfl := kD_rep r3
    cases r2
    obtain ⟨vs, hx, rr⟩ := c3.ok _ _ (c3.at hl)
    have rd : Rep c.K H3 T3 v d := r1.mv (m2.trans m3)
    have w := mv_wr (H := H3) (d := .dK (dkPut ds k d)) (o := .dK (putK vs k v)) (c3.at hl)
    have cl' : Cells c.K (upd H3 l (.dK (putK vs k v))) (put S3 l (.dK (dkPut ds k d))) (put T3 l (.dK (dkPut ds k d))) := c3.wr (c3.at hl) (cell_d upd_same ((RepK.put rd rr).mv w))
    exact ⟨l, _, rfl, DPut.k hx (by rw [rr.length]; exact hs), b.nx σ ρ _ _ _ (m1.trans (m2.trans (m3.trans w))) (I.mv (m1.trans (m2.trans (m3.trans w))) cl') q⟩
/-- k in d -/
theorem ve_din {ty td : TE} (h : VE c ty ρ S fun y S1 => VE c td ρ S1 fun x S2 => ∃ (ds : List (Key × D)) (k : Key), IsDk S2 x ds ∧ y = kD k ∧ F (.bl (valD ds k).isSome) S2) : VE c (tDIn ty td) ρ S F := fun T σ H I Q kk =>
  h T σ H I _ fun vy y S1 T1 H1 m1 c1 r1 h1 => h1 T1 σ H1 (I.mv m1 c1) _ fun vx x S2 T2 H2 m2 c2 r2 ⟨ds, k, hd, ey, q⟩ => by
    subst ey
    obtain rfl := kD_rep r1
    obtain ⟨a, vs, rfl, ha, rk⟩ := hd.rd c2 r2
    refine ⟨a, _, rfl, DGet.r (k := k) ha, ?_⟩
    have e : (valV vs k).isSome = (valD ds k).isSome := by
      rcases rk.val (k := k) with ⟨e1, e2⟩ | ⟨v, d', e1, e2, _⟩ <;> rw [e1, e2] <;> rfl
    rw [e]
    exact kk _ _ S2 T2 H2 (m1.trans m2) c2 (.bl _) q
end
/-! ### lists or tuples: s[i], s[i:j] -/
end VS
namespace VS
open PySem L2 PySem.Spec PyProof.Rows
/-! ### comprehensions over a list known by reference, once more: the result by reference; each element by itself -/
section
variable {c : Ctx} {ρ : Rho} {S : Sto} {F : D → Sto → Prop}
/-- [e for x in xs], each by itself, nothing changed -/
theorem ve_lcCellM (f : D → D) {g : TG} {tt : TT} {te : TE} {vs : List Nat} {ti : TE} {l : Addr} {ds : List D} (hv : VE c ti ρ (VS.del S l) fun x S1 => x = .ref l ∧ S1 = VS.del S l) (hl : S l = some (.lst ds)) (hz : ds.length ≤ 100000)
    (hs : ∀ d ∈ ds, VGw c vs g d (wipeR ρ vs) (VS.del S l) fun ρ3 S3 => VT c tt ρ3 S3 fun b S4 => b = true ∧ VE c te ρ3 S4 fun y S5 => y = f d ∧ S5 = VS.del S l)
    (hd : F (.lst (ds.map f)) S) : VE c (tLc (iList c.K ti) g tt te vs) ρ S F := by
  refine ve_lcCellE hv hl hz (fun i acc S2 => acc = (ds.take i).map f ∧ S2 = VS.del S l) ⟨rfl, rfl⟩ ?_ ?_
  · rintro i d acc S2 hd ⟨e1, rfl⟩ hl T0 u0 σ0 H0 I0 r0 Q0 k0
    refine hs d (List.mem_of_getElem? hd) T0 u0 σ0 H0 I0 r0 Q0 fun σ' ρ' S' T' H' hw m I' q => k0 σ' ρ' S' T' H' hw m I' ?_
    refine q.imp fun b S4 ⟨hb, hv⟩ => ?_
    subst hb
    refine ⟨fun _ => hv.imp fun y S5 ⟨e2, e3⟩ => ⟨?_, e3⟩, fun z => by cases z⟩
    rw [List.take_succ, hd, e1, e2, List.map_append] <;> rfl
  · rintro acc S2 ⟨e1, rfl⟩ _
    rw [List.take_length] at e1
    rw [e1, put_back hl]
    exact hd
end
end VS
namespace VS
open PySem L2 C8 PySem.Spec PyProof.Rows
/-! ### sorted(xs, key=f, reverse=b), f an own def -/
end VS
namespace VS
open PySem L2 PySem.Spec PyProof.Rows
/-! ### things seen whole: what is known by reference within them, too -/
mutual
inductive Vd (S : Sto) : D → D → Prop
  | v {d : D} : Vd S d d
  | c {l : Addr} {d d' : D} (h : S l = some d) (n : d ≠ .hid) (k : Vd S d d') : Vd S (.ref l) d'
  | lst {xs ys : List D} (h : VdL S xs ys) : Vd S (.lst xs) (.lst ys)
  | tup {xs ys : List D} (h : VdL S xs ys) : Vd S (.tup xs) (.tup ys)
  | dK {xs ys : List (Key × D)} (h : VdK S xs ys) : Vd S (.dK xs) (.dK ys)
  | ins {C : Addr} {fs gs : List (Str × D)} (h : VdF S fs gs) : Vd S (.ins C fs) (.ins C gs)
inductive VdL (S : Sto) : List D → List D → Prop
  | nil : VdL S [] []
  | cons {x y : D} {xs ys : List D} (h : Vd S x y) (t : VdL S xs ys) : VdL S (x :: xs) (y :: ys)
inductive VdK (S : Sto) : List (Key × D) → List (Key × D) → Prop
  | nil : VdK S [] []
  | cons {k : Key} {x y : D} {xs ys : List (Key × D)} (h : Vd S x y) (t : VdK S xs ys) : VdK S ((k, x) :: xs) ((k, y) :: ys)
inductive VdF (S : Sto) : List (Str × D) → List (Str × D) → Prop
  | nil : VdF S [] []
  | cons {k : Str} {x y : D} {xs ys : List (Str × D)} (h : Vd S x y) (t : VdF S xs ys) : VdF S ((k, x) :: xs) ((k, y) :: ys)
end
section
variable {K : PySem.W.Frag} {H : Hp} {S T : Sto}
mutual
theorem Vd.rd (cl : Cells K H S T) : ∀ {x d : D} {u : V} {T' : Sto}, Vd S x d → Rep K H T' u x → Rep K H (fun _ => none) u d
  | _, _, _, _, .v, r => r.any
  | _, _, _, _, .c h n k, r => by
    cases r
    exact Vd.rd cl k (cl.rep (cl.at h) (cl.nohid h n))
  | _, _, _, _, .lst h, r => by
    cases r with
    | lst s e r => exact .lst rfl e (VdL.rd cl h r)
  | _, _, _, _, .tup h, r => by
    cases r with
    | tup s e r => exact .tup rfl e (VdL.rd cl h r)
    | tupK e r => exact .tupK e (VdL.rd cl h r)
  | _, _, _, _, .dK h, r => by
    cases r with
    | dK s e r => exact .dK rfl e (VdK.rd cl h r)
  | _, _, _, _, .ins h, r => by
    cases r with
    | ins s e r => exact .ins rfl e (VdF.rd cl h r)
theorem VdL.rd (cl : Cells K H S T) : ∀ {xs ds : List D} {us : List V} {T' : Sto}, VdL S xs ds → RepL K H T' us xs → RepL K H (fun _ => none) us ds
  | _, _, _, _, .nil, r => by cases r; exact .nil
  | _, _, _, _, .cons h t, r => by
    cases r with
    | cons r1 r2 => exact .cons (Vd.rd cl h r1) (VdL.rd cl t r2)
theorem VdK.rd (cl : Cells K H S T) : ∀ {xs ds : List (Key × D)} {us : List (Key × V)} {T' : Sto}, VdK S xs ds → RepK K H T' us xs → RepK K H (fun _ => none) us ds
  | _, _, _, _, .nil, r => by cases r; exact .nil
  | _, _, _, _, .cons h t, r => by
    cases r with
    | cons r1 r2 => exact .cons (Vd.rd cl h r1) (VdK.rd cl t r2)
theorem VdF.rd (cl : Cells K H S T) : ∀ {xs ds : List (Str × D)} {us : List (Str × V)} {T' : Sto}, VdF S xs ds → RepF K H T' us xs → RepF K H (fun _ => none) us ds
  | _, _, _, _, .nil, r => by cases r; exact .nil
  | _, _, _, _, .cons h t, r => by
    cases r with
    | cons r1 r2 => exact .cons (Vd.rd cl h r1) (VdF.rd cl t r2)
end
end
section
variable {c : Ctx} {ρ : Rho} {S : Sto} {F : D → Sto → Prop}
theorem rc_reprD2 {x d : D} (h : Vd S x d) (ip : isP d = true) (sh : (pd d).showable = true) (sz : (pd d).shown.length ≤ sizeLine) (dp : (pd d).depth ≤ 50) (q : F (.str (pd d).shown) S) : RC c (rRepr c.K) [x] S F := fun T us H cl r Q k => by
  cases r with
  | cons h1 t =>
    cases t
    exact ⟨_, d, _, rfl, h.rd cl h1, ip, sh, sz, dp, k _ _ S T H Mv.refl cl (.str _) q⟩
theorem rc_reprV {x d : D} {n k : Nat} (h : Vd S x d) (sh : Sh d n k) (hn : n ≤ 1000000) (hk : k ≤ 50) (q : F (.str (pd d).shown) S) : RC c (rRepr c.K) [x] S F :=
  rc_reprD2 h sh.p sh.s (Nat.le_trans sh.l (Nat.le_trans hn szl)) (Nat.le_trans sh.d hk) q
end
end VS
namespace VS
open PySem L2
/-! ### a pure test or expression, all cells read as by value meanwhile -/
section
variable {K : PySem.W.Frag} {H : Hp} {S T : Sto}
/-- the cells that are known -/
def Kn (S : Sto) : Addr → Prop := fun a => ∃ d, S a = some d ∧ d ≠ .hid
theorem kn_hid (cl : Cells K H S T) : ∀ l, Kn S l → T l ≠ some .hid := fun l ⟨_, e, n⟩ => cl.nohid e n
mutual
theorem Vd.rdV (cl : Cells K H S T) : ∀ {x d : D} {u : V} {T' : Sto}, (∀ a, T' a = none → viewT (Kn S) T a = none) → Vd S x d → Rep K H T' u x → Rep K H (viewT (Kn S) T) u d
  | _, _, _, _, hT, .v, r => r.mk ⟨fun _ _ _ h => h, fun a s _ => hT a s⟩
  | _, _, _, _, hT, .c (l := l) h n k, r => by
    cases r
    refine Vd.rdV cl (T' := VS.del T l) (fun a e => ?_) k (cl.rep (cl.at h) (cl.nohid h n))
    by_cases z : a = l
    · subst z; exact viewT_in ⟨_, h, n⟩
    · rw [VS.del_ne z] at e; exact viewT_none e
  | _, _, _, _, hT, .lst h, r => by
    cases r with
    | lst s e r => exact .lst (hT _ s) e (VdL.rdV cl hT h r)
  | _, _, _, _, hT, .tup h, r => by
    cases r with
    | tup s e r => exact .tup (hT _ s) e (VdL.rdV cl hT h r)
    | tupK e r => exact .tupK e (VdL.rdV cl hT h r)
  | _, _, _, _, hT, .dK h, r => by
    cases r with
    | dK s e r => exact .dK (hT _ s) e (VdK.rdV cl hT h r)
  | _, _, _, _, hT, .ins h, r => by
    cases r with
    | ins s e r => exact .ins (hT _ s) e (VdF.rdV cl hT h r)
theorem VdL.rdV (cl : Cells K H S T) : ∀ {xs ds : List D} {us : List V} {T' : Sto}, (∀ a, T' a = none → viewT (Kn S) T a = none) → VdL S xs ds → RepL K H T' us xs → RepL K H (viewT (Kn S) T) us ds
  | _, _, _, _, _, .nil, r => by cases r; exact .nil
  | _, _, _, _, hT, .cons h t, r => by
    cases r with
    | cons r1 r2 => exact .cons (Vd.rdV cl hT h r1) (VdL.rdV cl hT t r2)
theorem VdK.rdV (cl : Cells K H S T) : ∀ {xs ds : List (Key × D)} {us : List (Key × V)} {T' : Sto}, (∀ a, T' a = none → viewT (Kn S) T a = none) → VdK S xs ds → RepK K H T' us xs → RepK K H (viewT (Kn S) T) us ds
  | _, _, _, _, _, .nil, r => by cases r; exact .nil
  | _, _, _, _, hT, .cons h t, r => by
    cases r with
    | cons r1 r2 => exact .cons (Vd.rdV cl hT h r1) (VdK.rdV cl hT t r2)
theorem VdF.rdV (cl : Cells K H S T) : ∀ {xs ds : List (Str × D)} {us : List (Str × V)} {T' : Sto}, (∀ a, T' a = none → viewT (Kn S) T a = none) → VdF S xs ds → RepF K H T' us xs → RepF K H (viewT (Kn S) T) us ds
  | _, _, _, _, _, .nil, r => by cases r; exact .nil
  | _, _, _, _, hT, .cons h t, r => by
    cases r with
    | cons r1 r2 => exact .cons (Vd.rdV cl hT h r1) (VdF.rdV cl hT t r2)
end
end
section
variable {c : Ctx} {ρ ρ' : Rho} {S : Sto} {F : D → Sto → Prop} {G : Bool → Sto → Prop}
structure VdR (S : Sto) (ρ ρ' : Rho) : Prop where
  len : ρ'.length = ρ.length
  at_ : ∀ (i : Nat) (d' : D), ρ'[i]? = some (some d') → ∃ d, ρ[i]? = some (some d) ∧ Vd S d d'
theorem VdR.refl : VdR S ρ ρ := ⟨rfl, fun _ d h => ⟨d, h, .v⟩⟩
theorem VdR.set (w : VdR S ρ ρ') (i : Nat) {d d' : D} (h : ρ[i]? = some (some d)) (hd : Vd S d d') : VdR S ρ (ρ'.set i (some d')) := ⟨by rw [List.length_set]; exact w.len, fun j e q => by
  by_cases z : i = j
  · subst z
    rw [List.getElem?_set_self (by rw [w.len]; exact (List.getElem?_eq_some_iff.mp h).1)] at q
    cases q
    exact ⟨d, h, hd⟩
  · rw [List.getElem?_set_ne z] at q
    exact w.at_ j e q⟩
theorem VdR.in {T : Sto} {σ : St} {H : Hp} (w : VdR S ρ ρ') (I : In c σ H ρ S T) : In c σ H ρ' noS (viewT (Kn S) T) := by
  have m := mv_view (H := H) (kn_hid I.cells)
  have cl := cells_view (V := Kn S) I.cells
  refine ⟨cl, fun i d' e => ?_, by rw [w.len]; exact I.len, (I.mv m cl).exc⟩
  obtain ⟨d, h, hv⟩ := w.at_ i d' e
  obtain ⟨v, h1, h2⟩ := I.slots i d h
  exact ⟨v, h1, hv.rdV I.cells (fun a e => viewT_none e) h2⟩
theorem ve_pureR {te : TE} (w : VdR S ρ ρ') (h : VE c te ρ' noS fun d _ => flatD d = true ∧ F d S) : VE c te ρ S F := fun T σ H I Q k => by
  refine h _ σ H (w.in I) Q fun v d S' T' H' m cl r ⟨f, q⟩ => ?_
  obtain ⟨m', cl'⟩ := view_back (kn_hid I.cells) I.cells m cl
  exact k v d S T H' m' cl' (rep_flat f r) q
end
end VS
namespace VS
open PySem L2 C8 PySem.Spec PyProof.Rows
/-! ### xs.index(x) of a list by value -/
end VS
namespace VS
open PySem L2 C8 PySem.Spec PyProof.Rows
/-! ### list(d), the keys texts -/
theorem is_str {P : Program} {w : World} {x : Str} {v : Value} (h : (mixKind P w).is (.inr x) v = true) : ∃ t, v = .str x t := by
  have h : keyIs (.inr x) v = true := h
  cases v with
  | str y t =>
    have : y = x := by simpa [keyIs, Value.isStr, Value.isStrOf] using h
    exact ⟨t, by rw [this]⟩
  | _ => exact absurd h (by simp [keyIs, Value.isStr, Value.isStrOf])
theorem vals_keys : ∀ (ns : List Str) (us : List Value), us.length = ns.length → (∀ (i : Nat) (v : Value), us[i]? = some v → ∃ x t, ns[i]? = some x ∧ v = .str x t) → Vals (ns.map V.str) us
  | [], [], _, _ => .nil
  | [], _ :: _, h, _ => by simp at h
  | _ :: _, [], h, _ => by simp at h
  | n :: ns, v :: us, h, k => by
    obtain ⟨x, t, h1, h2⟩ := k 0 v rfl
    cases h1
    exact .cons ⟨t, h2⟩ (vals_keys ns us (by simpa using h) fun i v hv => k (i + 1) v hv)
theorem kv_keys : ∀ {kvs : List (Key × V)} {vs : List (Key × Value)}, KV kvs vs → vs.map Prod.fst = kvs.map Prod.fst := by
  intro kvs vs h
  induction h <;> simp_all
def rListDk (_ : PySem.W.Frag) : CR1 := fun xs H Q => ∃ p kvs, ∃ ns : List Str, xs = [.ref p] ∧ Rd H p (.dK kvs) ∧ kvs.map Prod.fst = ns.map .inr ∧ ∀ l, H l = none → Q (.ref l) (upd H l (.lst (ns.map V.str)))
theorem c_listDk {X : Cx} (hc : X.calm = true) : CallR X (.type "list") (rListDk X.K) := by
  intro pins s σ H xs us Q I r h
  obtain ⟨p, kvs, ns, rfl, hp, hk, q⟩ := h
  obtain ⟨u, rfl, rx⟩ := vals1 r
  cases (show u = Value.ref p from rx)
  obtain ⟨h1, h2, vs, h3, h4⟩ := (show ObjOk X.prog X.w H s.heap p (.dK kvs) from hp.ok I.hok)
  obtain ⟨es, ep, hr, hz, he⟩ := Heap.DictOf.raw h4
  have hkv := kv_keys h3
  have hl : vs.length = kvs.length := by
    have := congrArg List.length hkv
    simpa using this
  have hn : ns.length = kvs.length := by
    have := congrArg List.length hk
    simpa using this.symm
  refine PySem.W.kdl_call (PySem.KdlSrc.rawDict h2) (I.ok.hd hc) hr (by rw [hz, hl]; exact h1) fun h' tk acc' c' kp e hacc => ?_
  have hv : Vals (ns.map V.str) acc'.toList := by
    refine vals_keys _ _ (by rw [Array.length_toList, hacc.1, hz, hl, hn]) fun i v hv => ?_
    rw [Array.getElem?_toList] at hv
    obtain ⟨hi, rfl⟩ := hacc.2 i v hv
    have hi' : i < vs.length := by rw [← hz]; exact hi
    have hin : i < ns.length := by rw [hn, ← hl]; exact hi'
    have ek : (vs[i]'hi').1 = .inr ns[i] := by
      have e1 : (vs.map Prod.fst)[i]? = (ns.map (Sum.inr : Str → Key))[i]? := by rw [hkv, hk]
      rw [List.getElem?_map, List.getElem?_map, List.getElem?_eq_getElem hi', List.getElem?_eq_getElem hin] at e1
      injection e1
    obtain ⟨t, ht⟩ := is_str (he i hi (.inr ns[i]) (vs[i]'hi').2 (by rw [List.getElem?_eq_getElem hi', ← ek])).1
    exact ⟨ns[i], t, List.getElem?_eq_getElem hin, ht⟩
  exact ⟨.ref s.heap.objs.size, _, I.laid (t' := tk) kp (Nat.le_refl _) (show ObjOk X.prog X.w _ h' _ (.lst _) from ⟨by rw [List.length_map, hn]; exact h1, acc'.toList, c', hv, by rw [Array.toArray_toList]; exact e⟩), rfl, q _ (I.hok.fresh (Nat.le_refl _))⟩
section
variable {c : Ctx} {S : Sto} {F : D → Sto → Prop}
theorem rc_listDk {x : D} {ds : List (Key × D)} {ns : List Str} (h : IsDk S x ds) (hk : ds.map Prod.fst = ns.map .inr) (q : F (.lst (ns.map D.str)) S) : RC c (rListDk c.K) [x] S F := fun T us H cl r Q k => by
  cases r with
  | cons h1 t =>
    cases t
    obtain ⟨a, vs, rfl, ha, rk⟩ := h.rd cl h1
    exact ⟨a, vs, ns, rfl, ha, by rw [RepK.keys rk]; exact hk, fun l hl => k _ _ S T _ (mv_new hl) (cl.new hl) (.lst (cl.free hl) upd_same (RepL.ofStrs)) q⟩
end
/-! ### a comprehension in a comprehension -/
theorem lookup_rel {f : Str × NameKind → Str × NameKind} (hf : ∀ x, (f x).1 = x.1 ∧ ((f x).2 = x.2 ∨ (f x).2 = .cell)) {k : Str} : ∀ {ns : List (Str × NameKind)}, (ns.lookup k = some .cell ∨ ns.lookup k = some .free) → ((ns.map f).lookup k = some .cell ∨ (ns.map f).lookup k = some .free)
  | [], h => h
  | (n, m) :: ns, h => by
    obtain ⟨h1, h2⟩ := hf (n, m)
    rw [List.map_cons]
    rcases hx : f (n, m) with ⟨n', m'⟩
    rw [hx] at h1 h2
    obtain rfl : n' = n := h1
    by_cases e : (k == n') = true
    · rw [List.lookup_cons, e] at h ⊢
      rcases h2 with h2 | h2
      · rw [show m' = m from h2]; exact h
      · rw [show m' = .cell from h2]; exact .inl rfl
    · have e : (k == n') = false := by simpa using e
      rw [List.lookup_cons, e] at h ⊢
      exact lookup_rel hf h
theorem blkOk_c {N : List Str} {sc scope : Scope} {cl : List (Str × Addr)} {C : Addr} {env : Env} {own : List (Str × Nat)} (h : blkC N sc scope own = true) : BlkOk N (compEnvC sc cl C env).scope scope own := by
  have b : BlkOk N sc scope own := blkOk_by h
  refine ⟨b.kind, b.uniq, b.ix, fun y hy e => ?_, b.own⟩
  have := b.free y hy e
  show List.lookup y.1 (relabel sc env).names = _ ∨ List.lookup y.1 (relabel sc env).names = _
  unfold relabel
  refine lookup_rel (fun x => ?_) this
  obtain ⟨n, k⟩ := x
  dsimp only
  split
  · exact ⟨rfl, .inr rfl⟩
  · exact ⟨rfl, .inl rfl⟩
end VS
namespace VS
open PySem L2 C8 PySem.Spec PyProof.Rows
/-! ### a module's dict of own defs, by texts -/
structure KDct (P : Program) (w : World) (K : PySem.W.Frag) (a : Addr) (kvs : List (Str × Addr)) : Prop where
  sys : (a == sysModules) = false
  nd : (kvs.map Prod.fst).Nodup
  ob : ∃ o es ep, K.lookup a = some o ∧ o.ExactDict ∧ o.data = .dict es ep ∧ KeysOf (PySem.strKind P w) es ∧ Pairs (PySem.strKind P w) es.toList (kvs.map fun x => (x.1, Value.ref x.2))
theorem KDct.map {P : Program} {w : World} {K : PySem.W.Frag} {a : Addr} {kvs : List (Str × Addr)} (h : KDct P w K a kvs) {hp : Heap} (i : K.In hp) : Heap.MapOf (PySem.strKind P w) hp a (valueAt (kvs.map fun x => (x.1, Value.ref x.2))) := by
  obtain ⟨o, es, ep, h1, h2, h3, h4, h5⟩ := h.ob
  refine Heap.DictOf.mapOf ⟨o, es, ep, i _ _ h1, h2, h3, h4, h5, ?_⟩
  rw [List.map_map]
  exact h.nd
def entK (w : World) (x : Str × Addr × Tok) : DictEntry := ⟨hashStr w x.1, .str x.1 x.2.2, .ref x.2.1⟩
theorem pairs_ents {P : Program} {w : World} : ∀ ents : List (Str × Addr × Tok), Pairs (PySem.strKind P w) (ents.map (entK w)) ((ents.map fun x => (x.1, x.2.1)).map fun x => (x.1, Value.ref x.2))
  | [] => .nil
  | (z, f, t) :: es => .cons (show Value.isStrOf z (Value.str z t) = true by simp [Value.isStrOf]) rfl (pairs_ents es)
theorem KDct.of {P : Program} {w : World} {K : PySem.W.Frag} {a : Addr} {ep : Nat} (ents : List (Str × Addr × Tok)) (h : K.lookup a = some ⟨.type "dict", none, .dict (ents.map (entK w)).toArray ep, #[]⟩) (nd : (ents.map Prod.fst).Nodup) (sy : (a == sysModules) = false) : KDct P w K a (ents.map fun x => (x.1, x.2.1)) := by
  refine ⟨sy, by rw [List.map_map]; exact nd, _, _, _, h, ⟨rfl, rfl, rfl⟩, rfl, fun e he => ?_, by rw [List.toList_toArray]; exact pairs_ents ents⟩
  have he : e ∈ ents.map (entK w) := by simpa using he
  obtain ⟨x, hx, rfl⟩ := List.mem_map.mp he
  exact ⟨x.1, (show Value.isStrOf x.1 (Value.str x.1 x.2.2) = true by simp [Value.isStrOf]), rfl⟩
/-! ### sorted(xs, key=f): one of several f -/
end VS
namespace VS
open PySem L2 PySem.Spec PyProof.Rows
/-! ### max of three -/
end VS
namespace VS
open PySem L2 C8 PySem.Spec PyProof.Rows
/-! ### sorted of a list of texts -/
def rSortedS (K : PySem.W.Frag) : CR1 := fun vs H Q => ∃ (a : Addr) (ss : List Str), vs = [V.ref a] ∧ SqL K H a (ss.map V.str) ∧ ∀ (ss' : List Str) p, ss'.Perm ss → PyProof.Rows.sortedS ss' = true → H p = none → Q (.ref p) (upd H p (.lst (ss'.map V.str)))
theorem vals_strsAre {ss : List Str} {its : List Value} (h : Vals (ss.map V.str) its) : StrsAre its ss := by
  induction ss generalizing its with
  | nil => cases h; exact .nil
  | cons z ss ih =>
    cases h with
    | cons r t =>
      obtain ⟨tk, rfl⟩ := r
      exact .cons _ _ (ih t)
theorem strsAre_vals {ss : List Str} {its : List Value} (h : StrsAre its ss) : Vals (ss.map V.str) its := by
  induction h with
  | nil => exact .nil
  | cons _ _ _ ih => exact .cons ⟨_, rfl⟩ ih
theorem c_sortedS {X : Cx} : CallR X (.builtin "sorted") (rSortedS X.K) := by
  intro pins s σ H vs us Q I r h
  obtain ⟨a, ss, rfl, hs, q⟩ := h
  rw [Vals.ref1 r]
  obtain ⟨its, rv, hl, hz⟩ := I.list hs
  have hi := vals_strsAre rv
  refine sorted_strsAny hl.isList hi (by rw [← rv.length]; exact hz) fun out ss' h1 h2 h3 => ?_
  obtain ⟨ep, he'⟩ := PyProof.Rows.sortedAll_at s.heap its out
  have hlen : (ss'.map V.str).length ≤ sizeLine := by
    rw [List.length_map, h2.length_eq]
    rw [List.length_map] at hz
    exact hz
  exact ⟨.ref _, upd H (s.heap.objs.size + 1) (.lst (ss'.map V.str)), I.laid (t' := s.toks) (fun _ _ => PyProof.Rows.sortedAll_old) (Nat.le_succ _) ⟨hlen, _, ep, strsAre_vals h1, by rw [Array.toArray_toList]; exact he'⟩, rfl, q ss' _ h2 h3 (I.hok.fresh (Nat.le_succ _))⟩
section
variable {c : Ctx} {S : Sto} {F : D → Sto → Prop}
theorem rc_sortedS {x : D} {ss : List Str} (h : IsL S x (ss.map D.str)) (q : ∀ ss' : List Str, ss'.Perm ss → PyProof.Rows.sortedS ss' = true → F (.lst (ss'.map D.str)) S) : RC c (rSortedS c.K) [x] S F := fun T us H cl r Q k => by
  cases r with
  | cons h1 t =>
    cases t
    obtain ⟨a, xs, rfl, s, r⟩ := h.rd cl h1
    have e := r.strs
    subst e
    exact ⟨a, ss, rfl, s, fun ss' p h1 h2 hp => k _ _ S T _ (mv_new hp) (cl.new hp) (.lst (cl.free hp) upd_same RepL.ofStrs) (q ss' h1 h2)⟩
end
end VS
namespace VS
open PySem L2 C8 PySem.Spec PyProof.Rows
/-! ### sorted of a list of pairs of whole numbers -/
end VS
namespace VS
/-! ### pairs (number, place) sorted: the things sorted by the number, alike ones as they stood -/
end VS
namespace VS
open PySem L2 C8 PySem.Spec PyProof.Rows
/-! ### several lists known by reference, hidden for the time of a walk -/
theorem Mk.trans {S S1 S2 : Sto} {H H1 H2 : Hp} (a : Mk S H S1 H1) (b : Mk S1 H1 S2 H2) : Mk S H S2 H2 :=
  ⟨fun x o h1 h2 => b.keep x o (a.fresh x h1 (by rw [h2]; nofun)) (a.keep x o h1 h2), fun x h1 h2 => by
    cases e : H x with
    | none => exact absurd e h2
    | some o => exact b.fresh x (a.fresh x h1 h2) (by rw [a.keep x o h1 e]; nofun)⟩
end VS
namespace VS
open PySem L2 C8 PySem.Spec PyProof.Rows
/-! ### list.reverse; texts sorted, as the mergeSort of things by a text -/
def leS (a b : Str) : Prop := a.cps.toList ≤ b.cps.toList
theorem leS_anti {a b : Str} (h1 : leS a b) (h2 : leS b a) : a = b := by
  have e : a.cps.toList = b.cps.toList := List.le_antisymm h1 h2
  cases a
  cases b
  congr
  exact Array.toList_inj.mp e
theorem rising_pw : ∀ (r : List Str) (p : Str), PyProof.Rows.risingS p r = true → (p :: r).Pairwise leS
  | [], p, _ => List.pairwise_singleton ..
  | x :: r, p, h => by
    have h' : (!ltCps x.cps.toList p.cps.toList && PyProof.Rows.risingS x r) = true := h
    rw [Bool.and_eq_true, PyProof.Rows.ltCps_eq, Bool.not_eq_true', decide_eq_false_iff_not] at h'
    have hx : leS p x := List.not_lt.mp h'.1
    have ih := rising_pw r x h'.2
    rw [List.pairwise_cons]
    refine ⟨fun y hy => ?_, ih⟩
    rcases List.mem_cons.mp hy with rfl | hy
    · exact hx
    · exact List.le_trans hx ((List.pairwise_cons.mp ih).1 y hy)
theorem sortedS_pw {ss : List Str} (h : PyProof.Rows.sortedS ss = true) : ss.Pairwise leS := by
  cases ss with
  | nil => exact .nil
  | cons x r => exact rising_pw r x h
theorem sort_texts {α : Type} (f : α → Str) (cs : List α) {ss : List Str} (hp : ss.Perm (cs.map f)) (hs : PyProof.Rows.sortedS ss = true) : ss = (cs.mergeSort fun a b => decide ((f a).cps.toList ≤ (f b).cps.toList)).map f := by
  have sz := List.pairwise_mergeSort (le := fun a b => decide ((f a).cps.toList ≤ (f b).cps.toList)) (fun a b c h1 h2 => decide_eq_true (List.le_trans (of_decide_eq_true h1) (of_decide_eq_true h2))) (fun a b => by
    rcases List.le_total (f a).cps.toList (f b).cps.toList with h | h
    · rw [decide_eq_true h]; rfl
    · rw [decide_eq_true h, Bool.or_true]) cs
  refine List.Perm.eq_of_pairwise (le := leS) (fun a b _ _ h1 h2 => leS_anti h1 h2) (sortedS_pw hs) ?_ (hp.trans ((List.mergeSort_perm ..).symm.map f))
  rw [List.pairwise_map]
  exact sz.imp fun h => of_decide_eq_true h
end VS
namespace VS
open PySem L2 C8 PySem.Spec PyProof.Rows
/-! ### max(xs, default=d); list(d.values()) -/
theorem kv_vals : ∀ {kvs : List (Key × V)} {vs : List (Key × Value)}, KV kvs vs → Vals (kvs.map (·.2)) (vs.map (·.2)) := by
  intro kvs vs h
  unfold KV at h
  induction h with
  | nil => exact .nil
  | cons r t ih => exact .cons r.2 ih
def tListVals (td : TE) : TE := fun σ H Q => td σ H fun x H1 => ∃ a kvs, x = V.ref a ∧ Rd H1 a (.dK kvs) ∧ ∀ l, H1 l = none → Q (.ref l) (upd H1 l (.lst (kvs.map (·.2))))
theorem pe_listVals {X : Cx} {o : Expr} {p pos apos mpos : Pos} {td : TE} (hg : Gl X "list") (hm : X.mg "list" = none) (hd : PE X o td) (hc : X.calm = true := by rfl) (hbase : attributeBase o "values" X.env (eval o X.env) = eval o X.env := by rfl) (hline : (apos.endLine == mpos.line) = true := by rfl)
    (hse : starEach [Expr.Call (.Attribute o "values" apos) [] [] mpos] X.env = [(false, eval (Expr.Call (.Attribute o "values" apos) [] [] mpos) X.env)] := by rfl) :
    PE X (.Call (.Name "list" p) [.Call (.Attribute o "values" apos) [] [] mpos] [] pos) (tListVals td) := by
  refine ⟨fun pins s σ H Q I h => ?_⟩
  refine wpAny_Call_Name_kw (ld_blt I hg hm (u := .type "list") (by first | rfl | decide +kernel) ?_ (by first | decide +kernel | decide) (by first | decide +kernel | decide))
  refine PyProof.Rows.callWith_type1 ?_ (by rw [hse]; rfl) (by rfl)
  refine args_cons (wpAny_Call_method0_late hbase hline (thn (hd.run pins s σ H _ I h) fun v s1 ⟨x, H1, I1, r1, a, kvs, ex, ha, q⟩ => ?_)) (by rw [hse]; rfl)
  subst ex
  obtain rfl : v = Value.ref a := r1
  obtain ⟨hk1, hsys, vs, rel, dof⟩ := (show ObjOk X.prog X.w H1 s1.heap a (.dK kvs) from ha.ok I1.hok)
  obtain ⟨ep, dat⟩ := dof.dictAt
  have dat' := dat
  obtain ⟨ob, es0, ho, ex, hdat, hko, hpr, hnd⟩ := dat'
  refine ⟨"dict", "dict.values", F.plainAttrs_dict, F.slot_dict_values, F.type_dict_values, ⟨ob, ho, ex.1⟩, fun b e => ?_, Calls.callWith_builtin rfl (PySem.evalArgs_none ?_)⟩
  · cases e
    exact ⟨ob, ho, ex.2.1⟩
  refine call_meetsIn F.slot_dict_values ⟨ob, ho, ex.1⟩ F.entry_dict_values (F.args_dict_values_1 _) (meets_dict_values (mixKind X.prog X.w) a hsys) ⟨⟨vs, dof⟩, args_nil ?_⟩
  obtain ⟨es, ep2, hr, hz, he⟩ := Heap.DictOf.raw dof
  have hl : vs.length = kvs.length := (KV.length rel).symm
  refine PySem.W.kdl_call (PySem.KdlSrc.rawValues (r := s1.heap.objs.size) (d := a)) (I.ok.hd hc) ⟨⟨_, Heap.get?_push_size _ rfl, rfl, rfl⟩, hr.push _⟩ (by rw [hz, hl]; exact hk1) fun h' tk acc' c' kp e hacc => ?_
  have hsz : (s1.heap.push { cls := .type "dict_values", data := .fields #[.ref a] }).objs.size = s1.heap.objs.size + 1 := Heap.size_push _ _
  have hv : Vals (kvs.map (·.2)) acc'.toList := by
    have e2 : acc'.toList = vs.map (·.2) := by
      refine List.ext_getElem? fun i => ?_
      rw [Array.getElem?_toList, List.getElem?_map]
      by_cases hi : i < es.size
      · have hi' : i < vs.length := by rw [← hz]; exact hi
        have ha' : i < acc'.size := by rw [hacc.1]; exact hi
        obtain ⟨hi2, e3⟩ := hacc.2 i acc'[i] (Array.getElem?_eq_getElem ha')
        rw [Array.getElem?_eq_getElem ha', e3, List.getElem?_eq_getElem hi', (he i hi2 (vs[i]'hi').1 (vs[i]'hi').2 (List.getElem?_eq_getElem hi')).2]
        rfl
      · rw [Array.getElem?_eq_none (by rw [hacc.1]; omega), List.getElem?_eq_none (by omega)]
        rfl
    rw [e2]
    exact kv_vals rel
  have k1 : ∀ b u, s1.heap.get? b = some u → (s1.heap.push { cls := .type "dict_values", data := .fields #[.ref a] }).get? b = some u := fun b u e => Heap.get?_push_of_some _ e
  exact ⟨.ref _, _, I1.laid (t' := tk) (fun b u x => kp b u (k1 b u x)) (by rw [hsz]; exact Nat.le_succ _) (show ObjOk X.prog X.w _ h' _ (.lst _) from ⟨by rw [List.length_map]; exact hk1, acc'.toList, c', hv, by rw [Array.toArray_toList]; exact e⟩), rfl, q _ (I1.hok.fresh (by rw [hsz]; exact Nat.le_succ _))⟩
section
variable {c : Ctx} {ρ : Rho} {S : Sto} {F : D → Sto → Prop}
theorem RepK.vals {K : PySem.W.Frag} {H : Hp} {T : Sto} : ∀ {vs : List (Key × V)} {ds : List (Key × D)}, RepK K H T vs ds → RepL K H T (vs.map (·.2)) (ds.map (·.2))
  | _, _, .nil => .nil
  | _, _, .cons h t => .cons h (RepK.vals t)
theorem ve_listVals {td : TE} (h : VE c td ρ S fun x S1 => ∃ ds, IsDk S1 x ds ∧ F (.lst (ds.map (·.2))) S1) : VE c (tListVals td) ρ S F := fun T σ H I Q k =>
  h T σ H I _ fun v x S1 T1 H1 m1 c1 r1 ⟨ds, hd, f⟩ => by
    obtain ⟨a, vs, rfl, ha, rk⟩ := hd.rd c1 r1
    exact ⟨a, vs, rfl, ha, fun l hl => k _ _ S1 T1 _ (m1.trans (mv_new hl)) (c1.new hl) (.lst (c1.free hl) upd_same ((RepK.vals rk).mv (mv_new hl))) f⟩
end
end VS
namespace VS
open PySem L2 C8 PySem.Spec PyProof.Rows
/-! ### for k in d, d a dict by value: it is locked meanwhile, where it is not locked as yet -/
theorem CellOk.ml {K : PySem.W.Frag} {S S' : Sto} {H H' : Hp} {a : Addr} (m : Ml S H S' H') (e : H' a = H a) : ∀ {d : D}, CellOk K H S a d → CellOk K H' S' a d
  | .lst _, ⟨xs, h, r⟩ => ⟨xs, by rw [e]; exact h, r.ml m⟩
  | .dK _, ⟨xs, h, r⟩ => ⟨xs, by rw [e]; exact h, r.ml m⟩
  | .ins _ _, ⟨dx, fs, h, r⟩ => ⟨dx, fs, by rw [e]; exact h, r.ml m⟩
  | .hid, ⟨o, h⟩ => ⟨o, by rw [e]; exact h⟩
theorem Cells.ml {K : PySem.W.Frag} {S T : Sto} {H H' : Hp} {a : Addr} (c : Cells K H S T) (s : T a = none) (m : Ml T H T H') (e : ∀ b, b ≠ a → H' b = H b) : Cells K H' S T :=
  ⟨c.ov, fun b d q => CellOk.ml m (e b (fun z => by subst z; rw [s] at q; cases q)) (c.ok b d q)⟩
theorem RepK.key {K : PySem.W.Frag} {H : Hp} {S : Sto} {k : Key} {v : V} : ∀ {vs : List (Key × V)} {ds : List (Key × D)} {i : Nat}, RepK K H S vs ds → vs[i]? = some (k, v) → ∃ d, ds[i]? = some (k, d)
  | _, _, _, .nil, e => by simp at e
  | _, _, 0, .cons _ _, e => by simp at e; obtain ⟨rfl, _⟩ := e; exact ⟨_, rfl⟩
  | _, _, i + 1, .cons _ t, e => by simpa using RepK.key (i := i) t (by simpa using e)
end VS
namespace VS
open PySem L2 C8 PySem.Spec PyProof.Rows
/-! ### [e for k in d if t], d a dict by value -/
end VS
namespace VS
open PySem L2
/-! ### some cells are known by value from now on -/
section
variable {K : PySem.W.Frag} {H : Hp} {S T : Sto} {A : Addr → Prop}
open Classical in
noncomputable def cutA (A : Addr → Prop) (T : Sto) : Sto := fun b => if A b then none else T b
open Classical in
noncomputable def onlyA (A : Addr → Prop) (T : Sto) : Sto := fun b => if A b then T b else none
theorem cutA_in {a : Addr} (h : A a) : cutA A T a = none := if_pos h
theorem cutA_out {a : Addr} (h : ¬ A a) : cutA A T a = T a := if_neg h
theorem cutA_none {a : Addr} (h : T a = none) : cutA A T a = none := by
  unfold cutA
  split
  · rfl
  · exact h
theorem onlyA_in {a : Addr} (h : A a) : onlyA A T a = T a := if_pos h
theorem onlyA_some {a : Addr} {d : D} (e : onlyA A T a = some d) : A a ∧ T a = some d := by
  unfold onlyA at e
  split at e
  · rename_i h; exact ⟨h, e⟩
  · cases e
theorem cutA_some {a : Addr} {d : D} (e : cutA A T a = some d) : ¬ A a ∧ T a = some d := by
  unfold cutA at e
  split at e
  · cases e
  · rename_i h; exact ⟨h, e⟩
theorem mv_cut (hA : ∀ a, A a → T a ≠ some .hid) : Mv T H (cutA A T) H :=
  ⟨⟨fun _ _ _ h => h, fun _ s _ => cutA_none s⟩, fun a o s e => ⟨e, by rw [cutA_out (fun z => hA a z s)]; exact s⟩⟩
theorem Cells.cut (cl : Cells K H S T) (hA : ∀ a, A a → T a ≠ some .hid) : Cells K H (cutA A S) (cutA A T) := by
  refine ⟨fun a => ?_, fun a d e => ?_⟩
  · by_cases z : A a
    · exact .inl ⟨by rw [cutA_in z, cutA_in z], by rw [cutA_in z]; nofun⟩
    · rw [cutA_out z, cutA_out z]; exact cl.ov a
  · exact CellOk.mk (mv_cut hA).toMk rfl (cl.ok a d (cutA_some e).2)
mutual
theorem Vd.rdA (cl : Cells K H S T) (hA : ∀ a, A a → T a ≠ some .hid) : ∀ {x d : D} {u : V} {T' : Sto}, (∀ a, T' a = none → cutA A T a = none) → Vd (onlyA A S) x d → Rep K H T' u x → Rep K H (cutA A T) u d
  | _, _, _, _, hT, .v, r => r.mk ⟨fun _ _ _ h => h, fun a s _ => hT a s⟩
  | _, _, _, _, hT, .c (l := l) h n k, r => by
    cases r
    obtain ⟨hl, h⟩ := onlyA_some h
    refine Vd.rdA cl hA (T' := VS.del T l) (fun a e => ?_) k (cl.rep (cl.at h) (cl.nohid h n))
    by_cases z : a = l
    · subst z; exact cutA_in hl
    · rw [VS.del_ne z] at e; exact cutA_none e
  | _, _, _, _, hT, .lst h, r => by
    cases r with
    | lst s e r => exact .lst (hT _ s) e (VdL.rdA cl hA hT h r)
  | _, _, _, _, hT, .tup h, r => by
    cases r with
    | tup s e r => exact .tup (hT _ s) e (VdL.rdA cl hA hT h r)
    | tupK e r => exact .tupK e (VdL.rdA cl hA hT h r)
  | _, _, _, _, hT, .dK h, r => by
    cases r with
    | dK s e r => exact .dK (hT _ s) e (VdK.rdA cl hA hT h r)
  | _, _, _, _, hT, .ins h, r => by
    cases r with
    | ins s e r => exact .ins (hT _ s) e (VdF.rdA cl hA hT h r)
theorem VdL.rdA (cl : Cells K H S T) (hA : ∀ a, A a → T a ≠ some .hid) : ∀ {xs ds : List D} {us : List V} {T' : Sto}, (∀ a, T' a = none → cutA A T a = none) → VdL (onlyA A S) xs ds → RepL K H T' us xs → RepL K H (cutA A T) us ds
  | _, _, _, _, _, .nil, r => by cases r; exact .nil
  | _, _, _, _, hT, .cons h t, r => by
    cases r with
    | cons r1 r2 => exact .cons (Vd.rdA cl hA hT h r1) (VdL.rdA cl hA hT t r2)
theorem VdK.rdA (cl : Cells K H S T) (hA : ∀ a, A a → T a ≠ some .hid) : ∀ {xs ds : List (Key × D)} {us : List (Key × V)} {T' : Sto}, (∀ a, T' a = none → cutA A T a = none) → VdK (onlyA A S) xs ds → RepK K H T' us xs → RepK K H (cutA A T) us ds
  | _, _, _, _, _, .nil, r => by cases r; exact .nil
  | _, _, _, _, hT, .cons h t, r => by
    cases r with
    | cons r1 r2 => exact .cons (Vd.rdA cl hA hT h r1) (VdK.rdA cl hA hT t r2)
theorem VdF.rdA (cl : Cells K H S T) (hA : ∀ a, A a → T a ≠ some .hid) : ∀ {xs ds : List (Str × D)} {us : List (Str × V)} {T' : Sto}, (∀ a, T' a = none → cutA A T a = none) → VdF (onlyA A S) xs ds → RepF K H T' us xs → RepF K H (cutA A T) us ds
  | _, _, _, _, _, .nil, r => by cases r; exact .nil
  | _, _, _, _, hT, .cons h t, r => by
    cases r with
    | cons r1 r2 => exact .cons (Vd.rdA cl hA hT h r1) (VdF.rdA cl hA hT t r2)
end
end
section
variable {c : Ctx} {ρ ρ' : Rho} {S : Sto} {F : D → Sto → Prop} {P : Po}
/-- what stands in the cells of A is by value from here on; they are known no more -/
theorem vx_see (A : Addr → Prop) {t : TS} (hA : ∀ a, A a → ∃ d, S a = some d ∧ d ≠ .hid) (w : VdR (onlyA A S) ρ ρ') (h : VX c t ρ' (cutA A S) P) : VX c t ρ S P := fun T σ H I D b => by
  have nh : ∀ a, A a → T a ≠ some .hid := fun a z => let ⟨_, e, n⟩ := hA a z; I.cells.nohid e n
  have m := mv_cut (H := H) nh
  have cl := I.cells.cut nh
  refine h _ σ H ⟨cl, fun i d' e => ?_, by rw [w.len]; exact I.len, (I.mv m cl).exc⟩ D (b.mv m)
  obtain ⟨d, h1, hv⟩ := w.at_ i d' e
  obtain ⟨v, h2, h3⟩ := I.slots i d h1
  exact ⟨v, h2, hv.rdA I.cells nh (fun a e => cutA_none e) h3⟩
theorem ext_cut {S0 : Sto} {A : Addr → Prop} (x : Ext S0 S) (h : ∀ a, A a → S0 a = none) : Ext S0 (cutA A S) := fun a d e => by
  rw [cutA_out (fun z => by rw [h a z] at e; cases e)]
  exact x a d e
end
end VS
namespace VS
open PySem L2 C8 PySem.Spec PyProof.Rows
/-! ### d != {}, d == {} -/
end VS
namespace VS
open PySem L2 C8 PySem.Spec PyProof.Rows
/-! ### k not in d, len(d) -/
section
variable {c : Ctx} {ρ : Rho} {S : Sto} {F : D → Sto → Prop}
theorem ve_dnotin {ty td : TE} (h : VE c ty ρ S fun y S1 => VE c td ρ S1 fun x S2 => ∃ (ds : List (Key × D)) (k : Key), IsDk S2 x ds ∧ y = kD k ∧ F (.bl (!(valD ds k).isSome)) S2) : VE c (tDNotIn ty td) ρ S F := fun T σ H I Q kk =>
  h T σ H I _ fun vy y S1 T1 H1 m1 c1 r1 h1 => h1 T1 σ H1 (I.mv m1 c1) _ fun vx x S2 T2 H2 m2 c2 r2 ⟨ds, k, hd, ey, q⟩ => by
    subst ey
    obtain rfl := kD_rep r1
    obtain ⟨a, vs, rfl, ha, rk⟩ := hd.rd c2 r2
    refine ⟨a, _, rfl, DGet.r (k := k) ha, ?_⟩
    have e : (valV vs k).isSome = (valD ds k).isSome := by
      rcases rk.val (k := k) with ⟨e1, e2⟩ | ⟨v, d', e1, e2, _⟩ <;> rw [e1, e2] <;> rfl
    rw [e]
    exact kk _ _ S2 T2 H2 (m1.trans m2) c2 (.bl _) q
end
end VS
namespace VS
open PySem L2 C8 PySem.Spec PyProof.Rows
/-! ### how long a shown dict is -/
structure ShK (xs : List (Key × D)) (n k : Nat) : Prop where
  p : isPK xs = true
  s : PyData.showableKv (pdK xs) = true
  l : piled (PyData.shownKv (pdK xs)) ≤ n
  d : PyData.depthKv (pdK xs) ≤ k
theorem ShK.nil : ShK [] 0 0 := ⟨rfl, rfl, Nat.le_refl _, Nat.le_refl _⟩
theorem ShK.cons {z : Str} {d : D} {ds : List (Key × D)} {n a b i j : Nat} (hz : Asc n z) (h : Sh d a i) (t : ShK ds b j) : ShK ((.inr z, d) :: ds) (10 * n + a + 6 + b) (max i j) := ⟨by
  show (isP d && isPK ds) = true
  rw [h.p, t.p]; rfl, by
  show (true && (pd d).showable && PyData.showableKv (pdK ds)) = true
  rw [h.s, t.s]; rfl, by
  show ((reprText z ++ ": " ++ (pd d).shown).length + 2) + piled (PyData.shownKv (pdK ds)) ≤ _
  have := h.l
  have := t.l
  have e := lit1
  have q : (reprText z).length ≤ 10 * n + 2 := (Sh.str hz).l
  rw [len_add, len_add]
  omega, by
  show max (max 0 (pd d).depth) (PyData.depthKv (pdK ds)) ≤ _
  have := h.d
  have := t.d
  omega⟩
/-- a slice, K named -/
theorem kSl {X : Cx} {K : PySem.W.Frag} {r : PySem.W.Frag → V → Option Int → Option Int → Hp → VK → Prop} (h : SlR X (r X.K)) (e : X.K = K := by rfl) : SlR X (r K) := e ▸ h
/-- a walk over a list, K named (within comprehensions) -/
theorem pi_listK {X : Cx} {K : PySem.W.Frag} {tg l : Expr} {tl : TE} (hl : PE X l tl) (h : X.K = K := by rfl) : PI X tg l (iList K tl) := h ▸ pi_list hl
end VS
namespace VS
open PySem L2 C8 PySem.Spec PyProof.Rows
/-! ### defs that call themselves; a local name that holds one of some defs -/
section
variable {P : Program} {w : World} {K : PySem.W.Frag} {mg : Str → Option Value} {base : Heap} {CX : CXT} {k : Nat} {x : Str} {st : Stmt} {dvs : List V} {f : Addr} {fd : FuncData} {ps : List Str}
theorem fn_vac {p : Pt} (h : ∀ ds S G Y, ¬ p ds S G Y) : FnG P w K mg base CX k f fd ps (spOf K p) where
  len := fun vs H Q E z => by obtain ⟨ds, S, T, F, Y, _, _, hp, _⟩ := z; exact (h _ _ _ _ hp).elim
  run := fun A _ outer s H args us vs Q E _ _ _ _ z => by obtain ⟨ds, S, T, F, Y, _, _, hp, _⟩ := z; exact (h _ _ _ _ hp).elim
theorem rec_mk {p : Nat → Pt} {B : Nat} (df : Fd K x x st dvs f fd) (hm : mg x = some (.ref f)) (b : Binds K fd ps []) (h0 : ∀ ds S G Y, ¬ p 0 ds S G Y)
    (hs : ∀ k, Cf P w K mg base CX (B + k) x st dvs ps (p k) f fd → FnG P w K mg base CX (B + k + 1) f fd ps (spOf K (p (k + 1)))) : ∀ k, Cf P w K mg base CX (B + k) x st dvs ps (p k) f fd
  | 0 => ⟨fn_vac h0, df, hm, b⟩
  | k + 1 => ⟨hs k (rec_mk df hm b h0 hs k), df, hm, b⟩
end
section
variable {c : Ctx} {S : Sto} {F : D → Sto → Prop}
/-- l.pop() -/
theorem rm_pop {l : Addr} {ds : List D} {d : D} (h : S l = some (.lst (ds ++ [d]))) (q : F d (put S l (.lst ds))) : RM c rPop (.ref l) [] S F := fun T u us H cl r1 r2 Q k => by
  cases r1
  cases r2
  obtain ⟨xs, hx, r⟩ := cl.ok _ _ (cl.at h)
  have hl : xs.length = ds.length + 1 := by rw [r.length, List.length_append]; rfl
  obtain ⟨v, e1, e2⟩ := r.get (i := ds.length) (d := d) (by rw [List.getElem?_append_right (Nat.le_refl _), Nat.sub_self]; rfl)
  have rt := r.take ds.length
  rw [List.take_left] at rt
  refine ⟨l, xs, v, rfl, rfl, hx, by rw [hl]; exact e1, ?_⟩
  rw [List.dropLast_eq_take, hl, Nat.add_sub_cancel]
  exact k _ _ _ _ _ (mv_wr (cl.at h)) (cl.wr (cl.at h) (cell_l upd_same (rt.mv (mv_wr (cl.at h))))) (e2.mv (mv_wr (cl.at h))) q
end
end VS
namespace VS
open PySem L2 C8 PySem.Spec PyProof.Rows
/-! ### xs.remove(x), flat items -/
end VS
open PySem L2 C8 PySem.Spec PyProof.Rows VS
local macro_rules | `(tactic| walk_at "g1") => `(tactic| with_reducible first
  | refine vx_seq ?_ | refine vx_next ?_ | refine vx_asg ?_ | refine vx_drop ?_ | refine vx_ret ?_ | refine vx_retN ?_ | refine vx_if ?_ | refine vx_break ?_ | refine vx_cont ?_ | refine vx_fld ?_
  | refine ve_int ?_ | refine ve_bl ?_ | refine ve_str ?_ | refine ve_non ?_ | refine ve_ty ?_ | refine ve_op ?_ | refine ve_un ?_ | refine ve_cb ?_ | refine ve_tup ?_
  | refine ve_if ?_ | refine ve_andV ?_ | refine ve_orV ?_ | refine ve_notV ?_ | refine ve_chain ?_ | refine ve_m1 ?_ | refine ve_m0 ?_ | refine ve_bm ?_ | refine ve_bm0 ?_ | refine ve_sl ?_ | refine ve_fld ?_
  | refine va_nil ?_ | refine va_cons ?_ | refine vo_none ?_ | refine vo_some ?_
  | refine vt_test ?_ | refine vt_B ?_ | refine vt_and ?_ | refine vt_or ?_ | refine vt_not ?_ | refine vt_yes ?_
  | refine vg_name ?_ | refine vg_subL ?_ | refine ex_ref ?_ | refine vgw_name (by simp) ?_ | refine vgs_nil ?_ | refine vgs_cons ?_ | refine vgws_nil ?_ | refine vgws_cons ?_
  | refine rv_II ?_ | refine rv_IB ?_ | refine rv_isNo ?_ | refine rv_notNo ?_ | refine rv_inS ?_ | refine rv_notInS ?_ | refine rv_ltS ?_ | refine rv_leS ?_
  | refine rc_max2 ?_ | refine rc_min2 ?_ | refine rc_int ?_ | refine rc_intB ?_ | refine rc_ord ?_ | refine rc_abs ?_ | refine ru_I ?_
  | refine ex_bl ?_ | refine ex_str ?_ | refine ex_int ?_)
local macro_rules | `(tactic| walk_at "g2") => `(tactic| first
  | ((with_reducible apply ve_var); · rfl)
  | ((with_reducible refine brT ?_ ?_); · rfl)
  | ((with_reducible refine brF ?_ ?_); · rfl)
  | ((with_reducible apply rv_eq); · rfl)
  | ((with_reducible apply rv_ne); · rfl)
  | ((with_reducible refine rc_lenS ?_ ?_); (· first | assumption | (have q := szl; omega)))
  | ((with_reducible refine rv_IC ?_ ?_); · (first | decide | (show (0 : Int) < _; omega) | (refine cpow ?_ ?_ ?_ <;> first | decide | omega) | (refine cmulW ?_ ?_ <;> first | omega | decide) | (refine cdivW ?_ ?_ <;> first | omega | decide)))
  | ((with_reducible apply rv_ixL); (· first | exact .c (by assumption) | exact .c put_same | exact .v | exact .r); (· rfl))
  | ((with_reducible apply rc_strI64); (· omega))
  | ((with_reducible refine rs_str ?_ ?_); (· first | assumption | (have q := szl; omega)))
  | ((with_reducible refine rv_addS ?_ ?_); (· first | assumption | (have q := szl; omega)))
  | ((with_reducible apply rc_isi); (· first | assumption | constructor | exact .cl (by assumption)); (· first | assumption | rfl))
  | (with_reducible refine ve_f (XOk.none (E := noE)) ?_)
  | (with_reducible refine vg_tup rfl ?_) | (with_reducible refine vgw_tup rfl ?_))
local macro_rules | `(tactic| walk_at "go") => `(tactic| repeat (first | walk_at "g1" | walk_at "g2"))
local macro_rules | `(tactic| walk_at "g7") => `(tactic| first
  | ((with_reducible refine ve_lst ?_); refine va_cons ?_)
  | with_reducible refine ve_lst ?_)
local macro_rules | `(tactic| walk_at "g3") => `(tactic| first
  | with_reducible refine ve_disp ?_
  | with_reducible refine ve_dnew ?_
  | with_reducible refine vps_cons ?_
  | with_reducible refine vps_nil ?_
  | with_reducible refine ex_keyS ?_
  | with_reducible refine ex_keyI ?_
  | ((with_reducible refine rc_listS ?_ ?_); (· first | assumption | (have q := szl; omega)))
  | ((with_reducible refine ⟨?_, ?_, ?_⟩); (· (show _ ≤ 15; simp; done)); (· (show List.Nodup _; simp; done)))
  | ((with_reducible refine ⟨?_, ?_⟩); (· (show _ ≤ sizeLine; have q := szl; simp only [List.length_append, List.length_map, List.length_cons, List.length_nil]; omega))))
local macro_rules | `(tactic| walk_at "g5") => `(tactic| first
  | ((with_reducible apply rv_cat); (· first | exact .v | exact .c put_same | exact .c (by assumption)); (· first | exact .v | exact .c put_same | exact .c (by assumption)); (· (have q := szl; simp only [List.length_append, List.length_map, List.length_cons, List.length_nil]; omega))))
local macro_rules | `(tactic| walk_at "gv") => `(tactic| repeat (first | walk_at "g1" | walk_at "g2" | walk_at "g3" | walk_at "g7" | walk_at "g5"))
local macro_rules | `(tactic| walk_at "ii") => `(tactic| first | exact .v | exact .c put_same | exact .c (by assumption))
local macro_rules | `(tactic| walk_at "g4") => `(tactic| first
  | ((with_reducible apply ex_ins); (· walk_at "ii"); (· rfl))
  | ((with_reducible apply ex_fldI); (· walk_at "ii"); (· assumption); (· assumption); (· rfl))
  | ((with_reducible apply ex_cell); (· first | exact put_same | assumption))
  | ((with_reducible apply ex_self); (· first | exact put_same | assumption); (· assumption); (· assumption); (· decide))
  | with_reducible refine ve_cls ?_
  | with_reducible refine vx_par ?_
  | with_reducible refine ex_two ?_
  | with_reducible refine ve_mt0 (XOk.none (E := noE)) ?_
  | ((with_reducible apply rv_ixT); (· first | rfl | exact atI_zero))
  | with_reducible refine ve_mk0 (XOk.none (E := noE)) ?_
  | with_reducible refine ve_mk0 (XOk.same fun _ _ _ h => h) ?_
  | with_reducible refine ve_f (XOk.same fun _ _ _ h => h) ?_
  | with_reducible refine ve_mt0 (XOk.same fun _ _ _ h => h) ?_
  | with_reducible refine vx_raise ?_
  | with_reducible refine ve_xf ?_
  | ((with_reducible apply ex_xf); (· rfl))
  | with_reducible refine vx_tryD fun E' => ?_
  | with_reducible refine rv_eqET ?_
  | with_reducible refine rv_neET ?_
  | ((with_reducible apply rv_eqEL); (· first | exact .v | exact .r | exact .c put_same | exact .c (by assumption)))
  | ((with_reducible apply rv_neEL); (· first | exact .v | exact .r | exact .c put_same | exact .c (by assumption)))
  | with_reducible refine rs_tupG ?_
  | ((with_reducible refine rv_catA ?_ ?_); (· (have q := szl; simp only [List.length_append, List.length_map, List.length_cons, List.length_nil]; omega)))
  | ((with_reducible apply rc_tupleL); (· first | exact .v | exact .r | exact .c put_same | exact .c (by assumption)))
  | ((with_reducible apply rc_lenQ); (· first | exact .t | exact .l .v | exact .l .r | exact .l (.c put_same) | exact .l (.c (by assumption)))))
local macro_rules | `(tactic| walk_at "g8") => `(tactic| first
  | ((with_reducible apply rs_list); (· first | exact .v | exact .r | exact .c put_same | exact .c (by assumption)))
  | ((with_reducible apply rc_list); (· first | exact .t | exact .l .v | exact .l .r | exact .l (.c put_same) | exact .l (.c (by assumption)))))
local macro_rules | `(tactic| walk_at "gr") => `(tactic| repeat (first | walk_at "g1" | walk_at "gp" | walk_at "g2" | walk_at "g4" | walk_at "g3"))
local macro_rules | `(tactic| walk_at "ga") => `(tactic| repeat (first | walk_at "g1" | walk_at "gp" | walk_at "g2" | walk_at "g4" | walk_at "g8" | walk_at "g3" | walk_at "g7" | walk_at "g5"))
local macro_rules | `(tactic| walk_at "gn") => `(tactic| repeat (first | walk_at "g1" | walk_at "gp" | walk_at "g2" | walk_at "g4" | walk_at "g8" | walk_at "g3" | walk_at "g7"))
local macro_rules | `(tactic| walk_at "gl") => `(tactic| repeat (first | walk_at "g1" | walk_at "gp" | walk_at "g2" | walk_at "g4" | walk_at "g8" | walk_at "g3" | walk_at "g5"))
local macro_rules | `(tactic| walk_at "gp") => `(tactic| ((with_reducible apply ve_kd); · assumption))
namespace LW
open PySem L2 C8 PySem.Spec PyProof.Rows VS
def top (i : Nat) : Stmt := PySem.Challenge.pw_boxinbox_k30_whole_fewest_nests.main.body.getD i (.Pass ⟨0, 0, 0, 0⟩)
def inClass (st : Stmt) (j : Nat) : Stmt := match st with
  | .ClassDef (body := b) .. => b.getD j (.Pass ⟨0, 0, 0, 0⟩)
  | _ => .Pass ⟨0, 0, 0, 0⟩
abbrev s_is_whole : Stmt := top 17
abbrev n_is_whole : List Str := ["thing", "low", "high"]
abbrev a_is_whole : List Str := ["thing", "low", "high"]
theorem sc_is_whole : FnScope n_is_whole a_is_whole (defScope s_is_whole) := ⟨rfl, rfl, rfl, by decide +kernel, rfl, by decide +kernel, by decide +kernel⟩
abbrev s_is_name : Stmt := top 18
abbrev n_is_name : List Str := ["thing", "sign"]
abbrev a_is_name : List Str := ["thing"]
theorem sc_is_name : FnScope n_is_name a_is_name (defScope s_is_name) := ⟨rfl, rfl, rfl, by decide +kernel, rfl, by decide +kernel, by decide +kernel⟩
abbrev s_Sides___init__ : Stmt := inClass (top 22) 0
abbrev n_Sides___init__ : List Str := ["self", "one", "other", "third", "side"]
abbrev a_Sides___init__ : List Str := ["self", "one", "other", "third"]
theorem sc_Sides___init__ : FnScope n_Sides___init__ a_Sides___init__ (defScope s_Sides___init__) := ⟨rfl, rfl, rfl, by decide +kernel, rfl, by decide +kernel, by decide +kernel⟩
abbrev s_Sides_told : Stmt := inClass (top 22) 1
abbrev n_Sides_told : List Str := ["self"]
abbrev a_Sides_told : List Str := ["self"]
theorem sc_Sides_told : FnScope n_Sides_told a_Sides_told (defScope s_Sides_told) := ⟨rfl, rfl, rfl, by decide +kernel, rfl, by decide +kernel, by decide +kernel⟩
abbrev s_Sides_ranked : Stmt := inClass (top 22) 2
abbrev n_Sides_ranked : List Str := ["self"]
abbrev a_Sides_ranked : List Str := ["self"]
theorem sc_Sides_ranked : FnScope n_Sides_ranked a_Sides_ranked (defScope s_Sides_ranked) := ⟨rfl, rfl, rfl, by decide +kernel, rfl, by decide +kernel, by decide +kernel⟩
abbrev s_need_spare : Stmt := top 25
abbrev n_need_spare : List Str := ["spare"]
abbrev a_need_spare : List Str := ["spare"]
theorem sc_need_spare : FnScope n_need_spare a_need_spare (defScope s_need_spare) := ⟨rfl, rfl, rfl, by decide +kernel, rfl, by decide +kernel, by decide +kernel⟩
abbrev s_are_labels : Stmt := top 40
abbrev n_are_labels : List Str := ["thing", "word"]
abbrev a_are_labels : List Str := ["thing"]
theorem sc_are_labels : FnScope n_are_labels a_are_labels (defScope s_are_labels) := ⟨rfl, rfl, rfl, by decide +kernel, rfl, by decide +kernel, by decide +kernel⟩
abbrev s_room_in : Stmt := top 41
abbrev n_room_in : List Str := ["sides", "wall", "one", "other", "third", "side"]
abbrev a_room_in : List Str := ["sides", "wall"]
theorem sc_room_in : FnScope n_room_in a_room_in (defScope s_room_in) := ⟨rfl, rfl, rfl, by decide +kernel, rfl, by decide +kernel, by decide +kernel⟩
abbrev s_Parcel___init__ : Stmt := inClass (top 42) 0
abbrev n_Parcel___init__ : List Str := ["self", "name", "sides", "wall", "weight", "bears", "labels", "number", "word"]
abbrev a_Parcel___init__ : List Str := ["self", "name", "sides", "wall", "weight", "bears", "labels"]
theorem sc_Parcel___init__ : FnScope n_Parcel___init__ a_Parcel___init__ (defScope s_Parcel___init__) := ⟨rfl, rfl, rfl, by decide +kernel, rfl, by decide +kernel, by decide +kernel⟩
abbrev s_Parcel_name : Stmt := inClass (top 42) 1
abbrev n_Parcel_name : List Str := ["self"]
abbrev a_Parcel_name : List Str := ["self"]
theorem sc_Parcel_name : FnScope n_Parcel_name a_Parcel_name (defScope s_Parcel_name) := ⟨rfl, rfl, rfl, by decide +kernel, rfl, by decide +kernel, by decide +kernel⟩
abbrev s_Parcel_sides : Stmt := inClass (top 42) 2
abbrev n_Parcel_sides : List Str := ["self"]
abbrev a_Parcel_sides : List Str := ["self"]
theorem sc_Parcel_sides : FnScope n_Parcel_sides a_Parcel_sides (defScope s_Parcel_sides) := ⟨rfl, rfl, rfl, by decide +kernel, rfl, by decide +kernel, by decide +kernel⟩
abbrev s_Parcel_labels : Stmt := inClass (top 42) 6
abbrev n_Parcel_labels : List Str := ["self"]
abbrev a_Parcel_labels : List Str := ["self"]
theorem sc_Parcel_labels : FnScope n_Parcel_labels a_Parcel_labels (defScope s_Parcel_labels) := ⟨rfl, rfl, rfl, by decide +kernel, rfl, by decide +kernel, by decide +kernel⟩
abbrev s_Parcel_weight : Stmt := inClass (top 42) 4
abbrev n_Parcel_weight : List Str := ["self"]
abbrev a_Parcel_weight : List Str := ["self"]
theorem sc_Parcel_weight : FnScope n_Parcel_weight a_Parcel_weight (defScope s_Parcel_weight) := ⟨rfl, rfl, rfl, by decide +kernel, rfl, by decide +kernel, by decide +kernel⟩
abbrev s_Parcel_bears : Stmt := inClass (top 42) 5
abbrev n_Parcel_bears : List Str := ["self"]
abbrev a_Parcel_bears : List Str := ["self"]
theorem sc_Parcel_bears : FnScope n_Parcel_bears a_Parcel_bears (defScope s_Parcel_bears) := ⟨rfl, rfl, rfl, by decide +kernel, rfl, by decide +kernel, by decide +kernel⟩
abbrev s_Parcel_room : Stmt := inClass (top 42) 7
abbrev n_Parcel_room : List Str := ["self"]
abbrev a_Parcel_room : List Str := ["self"]
theorem sc_Parcel_room : FnScope n_Parcel_room a_Parcel_room (defScope s_Parcel_room) := ⟨rfl, rfl, rfl, by decide +kernel, rfl, by decide +kernel, by decide +kernel⟩
abbrev s_Heap___init__ : Stmt := inClass (top 45) 0
abbrev n_Heap___init__ : List Str := ["self"]
abbrev a_Heap___init__ : List Str := ["self"]
theorem sc_Heap___init__ : FnScope n_Heap___init__ a_Heap___init__ (defScope s_Heap___init__) := ⟨rfl, rfl, rfl, by decide +kernel, rfl, by decide +kernel, by decide +kernel⟩
abbrev s_Heap_names : Stmt := inClass (top 45) 5
abbrev n_Heap_names : List Str := ["self", "parcel"]
abbrev a_Heap_names : List Str := ["self"]
theorem sc_Heap_names : FnScope n_Heap_names a_Heap_names (defScope s_Heap_names) := ⟨rfl, rfl, rfl, by decide +kernel, rfl, by decide +kernel, by decide +kernel⟩
abbrev s_Heap_place_of : Stmt := inClass (top 45) 1
abbrev n_Heap_place_of : List Str := ["self", "name", "place", "parcel"]
abbrev a_Heap_place_of : List Str := ["self", "name"]
theorem sc_Heap_place_of : FnScope n_Heap_place_of a_Heap_place_of (defScope s_Heap_place_of) := ⟨rfl, rfl, rfl, by decide +kernel, rfl, by decide +kernel, by decide +kernel⟩
abbrev s_Heap_put : Stmt := inClass (top 45) 2
abbrev n_Heap_put : List Str := ["self", "parcel", "ahead", "place"]
abbrev a_Heap_put : List Str := ["self", "parcel", "ahead"]
theorem sc_Heap_put : FnScope n_Heap_put a_Heap_put (defScope s_Heap_put) := ⟨rfl, rfl, rfl, by decide +kernel, rfl, by decide +kernel, by decide +kernel⟩
abbrev s_Heap_out : Stmt := inClass (top 45) 3
abbrev n_Heap_out : List Str := ["self", "name"]
abbrev a_Heap_out : List Str := ["self", "name"]
theorem sc_Heap_out : FnScope n_Heap_out a_Heap_out (defScope s_Heap_out) := ⟨rfl, rfl, rfl, by decide +kernel, rfl, by decide +kernel, by decide +kernel⟩
abbrev s_Heap_parcels : Stmt := inClass (top 45) 6
abbrev n_Heap_parcels : List Str := ["self"]
abbrev a_Heap_parcels : List Str := ["self"]
theorem sc_Heap_parcels : FnScope n_Heap_parcels a_Heap_parcels (defScope s_Heap_parcels) := ⟨rfl, rfl, rfl, by decide +kernel, rfl, by decide +kernel, by decide +kernel⟩
abbrev s_shape_of : Stmt := top 27
abbrev n_shape_of : List Str := ["parcel", "room"]
abbrev a_shape_of : List Str := ["parcel"]
theorem sc_shape_of : FnScope n_shape_of a_shape_of (defScope s_shape_of) := ⟨rfl, rfl, rfl, by decide +kernel, rfl, by decide +kernel, by decide +kernel⟩
abbrev s_shape_goes : Stmt := top 28
abbrev n_shape_goes : List Str := ["sides", "room", "spare", "side", "most"]
abbrev a_shape_goes : List Str := ["sides", "room", "spare"]
theorem sc_shape_goes : FnScope n_shape_goes a_shape_goes (defScope s_shape_goes) := ⟨rfl, rfl, rfl, by decide +kernel, rfl, by decide +kernel, by decide +kernel⟩
abbrev s_inside : Stmt := top 29
abbrev n_inside : List Str := ["heap", "spare", "rows", "parcel", "sides", "room", "found", "name", "row"]
abbrev a_inside : List Str := ["heap", "spare"]
theorem sc_inside : FnScope n_inside a_inside (defScope s_inside) := ⟨rfl, rfl, rfl, by decide +kernel, rfl, by decide +kernel, by decide +kernel⟩
abbrev s_grown : Stmt := top 31
abbrev n_grown : List Str := ["outwards", "name", "within", "tried", "other"]
abbrev a_grown : List Str := ["outwards", "name", "within", "tried"]
theorem sc_grown : FnScope n_grown a_grown (defScope s_grown) := ⟨rfl, rfl, rfl, by decide +kernel, rfl, by decide +kernel, by decide +kernel⟩
abbrev s_matched : Stmt := top 32
abbrev n_matched : List Str := ["outwards", "names", "within", "name"]
abbrev a_matched : List Str := ["outwards", "names"]
theorem sc_matched : FnScope n_matched a_matched (defScope s_matched) := ⟨rfl, rfl, rfl, by decide +kernel, rfl, by decide +kernel, by decide +kernel⟩
abbrev s_reached : Stmt := top 33
abbrev n_reached : List Str := ["outwards", "names", "within", "inner", "ones", "others", "waiting", "other", "name"]
abbrev a_reached : List Str := ["outwards", "names", "within"]
theorem sc_reached : FnScope n_reached a_reached (defScope s_reached) := ⟨rfl, rfl, rfl, by decide +kernel, rfl, by decide +kernel, by decide +kernel⟩
abbrev s_nests_by : Stmt := top 34
abbrev n_nests_by : List Str := ["names", "within", "inner", "found", "name", "nest"]
abbrev a_nests_by : List Str := ["names", "within"]
theorem sc_nests_by : FnScope n_nests_by a_nests_by (defScope s_nests_by) := ⟨rfl, rfl, rfl, by decide +kernel, rfl, by decide +kernel, by decide +kernel⟩
abbrev s_fewest : Stmt := top 35
abbrev n_fewest : List Str := ["heap", "spare", "outwards", "names", "within", "ones", "others", "name"]
abbrev a_fewest : List Str := ["heap", "spare"]
theorem sc_fewest : FnScope n_fewest a_fewest (defScope s_fewest) := ⟨rfl, rfl, rfl, by decide +kernel, rfl, by decide +kernel, by decide +kernel⟩
abbrev s__law_cell : Stmt := top 47
abbrev n__law_cell : List Str := ["_law_script", "_law_k"]
abbrev a__law_cell : List Str := ["_law_script", "_law_k"]
theorem sc__law_cell : FnScope n__law_cell a__law_cell (defScope s__law_cell) := ⟨rfl, rfl, rfl, by decide +kernel, rfl, by decide +kernel, by decide +kernel⟩
abbrev s__law_purse : Stmt := top 48
abbrev n__law_purse : List Str := ["_law_cell_here"]
abbrev a__law_purse : List Str := ["_law_cell_here"]
theorem sc__law_purse : FnScope n__law_purse a__law_purse (defScope s__law_purse) := ⟨rfl, rfl, rfl, by decide +kernel, rfl, by decide +kernel, by decide +kernel⟩
abbrev s__law_take : Stmt := top 49
abbrev n__law_take : List Str := ["_law_purse_here", "_law_below", "_law_digit", "_law_left", "_law_right_here"]
abbrev a__law_take : List Str := ["_law_purse_here", "_law_below"]
theorem sc__law_take : FnScope n__law_take a__law_take (defScope s__law_take) := ⟨rfl, rfl, rfl, by decide +kernel, rfl, by decide +kernel, by decide +kernel⟩
abbrev s__law_names : Stmt := top 50
abbrev n__law_names : List Str := ["_law_purse_here", "_law_size", "_law_letters", "_law_way", "_law_first", "_law_step", "_law_words", "_law_stem", "_law_at", "_law_head", "_law_tail", "_law_found", "_law_k", "_law_same", "_law_name"]
abbrev a__law_names : List Str := ["_law_purse_here", "_law_size"]
theorem sc__law_names : FnScope n__law_names a__law_names (defScope s__law_names) := ⟨rfl, rfl, rfl, by decide +kernel, rfl, by decide +kernel, by decide +kernel⟩
abbrev s__law_sides : Stmt := top 51
abbrev n__law_sides : List Str := ["_law_purse_here", "_law_base", "_law_more", "_law_deep", "_law_way", "_law_great", "_law_menu", "_law_first", "_law_second", "_law_found", "_law_at", "_law_side", "_law_k"]
abbrev a__law_sides : List Str := ["_law_purse_here", "_law_base", "_law_more", "_law_deep"]
theorem sc__law_sides : FnScope n__law_sides a__law_sides (defScope s__law_sides) := ⟨rfl, rfl, rfl, by decide +kernel, rfl, by decide +kernel, by decide +kernel⟩
abbrev s__law_row : Stmt := top 52
abbrev n__law_row : List Str := ["_law_purse_here", "_law_name", "_law_made_here", "_law_spare_here", "_law_deep", "_law_shut", "_law_base", "_law_sides_here", "_law_weight", "_law_bears", "_law_labels", "_law_word"]
abbrev a__law_row : List Str := ["_law_purse_here", "_law_name", "_law_made_here", "_law_spare_here", "_law_deep"]
theorem sc__law_row : FnScope n__law_row a__law_row (defScope s__law_row) := ⟨rfl, rfl, rfl, by decide +kernel, rfl, by decide +kernel, by decide +kernel⟩
abbrev s__law_rows : Stmt := top 53
abbrev n__law_rows : List Str := ["_law_purse_here", "_law_spare_here", "_law_size", "_law_deep", "_law_made_here", "_law_found", "_law_name", "_law_row_here"]
abbrev a__law_rows : List Str := ["_law_purse_here", "_law_spare_here"]
theorem sc__law_rows : FnScope n__law_rows a__law_rows (defScope s__law_rows) := ⟨rfl, rfl, rfl, by decide +kernel, rfl, by decide +kernel, by decide +kernel⟩
abbrev s__law_spare : Stmt := top 54
abbrev n__law_spare : List Str := ["_law_purse_here"]
abbrev a__law_spare : List Str := ["_law_purse_here"]
theorem sc__law_spare : FnScope n__law_spare a__law_spare (defScope s__law_spare) := ⟨rfl, rfl, rfl, by decide +kernel, rfl, by decide +kernel, by decide +kernel⟩
abbrev s__law_made : Stmt := top 55
abbrev n__law_made : List Str := ["_law_row_here", "_law_sides_here"]
abbrev a__law_made : List Str := ["_law_row_here"]
theorem sc__law_made : FnScope n__law_made a__law_made (defScope s__law_made) := ⟨rfl, rfl, rfl, by decide +kernel, rfl, by decide +kernel, by decide +kernel⟩
abbrev s__law_heap : Stmt := top 56
abbrev n__law_heap : List Str := ["_law_rows_here", "_law_heap_here", "_law_row_here"]
abbrev a__law_heap : List Str := ["_law_rows_here"]
theorem sc__law_heap : FnScope n__law_heap a__law_heap (defScope s__law_heap) := ⟨rfl, rfl, rfl, by decide +kernel, rfl, by decide +kernel, by decide +kernel⟩
abbrev s__law_goes : Stmt := top 57
abbrev n__law_goes : List Str := ["_law_one", "_law_other", "_law_spare_here", "_law_lesser", "_law_greater", "_law_k"]
abbrev a__law_goes : List Str := ["_law_one", "_law_other", "_law_spare_here"]
theorem sc__law_goes : FnScope n__law_goes a__law_goes (defScope s__law_goes) := ⟨rfl, rfl, rfl, by decide +kernel, rfl, by decide +kernel, by decide +kernel⟩
abbrev s__law_outwards : Stmt := top 58
abbrev n__law_outwards : List Str := ["_law_rows_here", "_law_spare_here", "_law_found", "_law_one", "_law_other"]
abbrev a__law_outwards : List Str := ["_law_rows_here", "_law_spare_here"]
theorem sc__law_outwards : FnScope n__law_outwards a__law_outwards (defScope s__law_outwards) := ⟨rfl, rfl, rfl, by decide +kernel, rfl, by decide +kernel, by decide +kernel⟩
abbrev s__law_unlike : Stmt := top 59
abbrev n__law_unlike : List Str := ["_law_thing", "_law_known", "_law_name"]
abbrev a__law_unlike : List Str := ["_law_thing", "_law_known"]
theorem sc__law_unlike : FnScope n__law_unlike a__law_unlike (defScope s__law_unlike) := ⟨rfl, rfl, rfl, by decide +kernel, rfl, by decide +kernel, by decide +kernel⟩
abbrev s__law_is_nest : Stmt := top 60
abbrev n__law_is_nest : List Str := ["_law_outwards_here", "_law_thing", "_law_k"]
abbrev a__law_is_nest : List Str := ["_law_outwards_here", "_law_thing"]
theorem sc__law_is_nest : FnScope n__law_is_nest a__law_is_nest (defScope s__law_is_nest) := ⟨rfl, rfl, rfl, by decide +kernel, rfl, by decide +kernel, by decide +kernel⟩
abbrev s__law_nests_of : Stmt := top 61
abbrev n__law_nests_of : List Str := ["_law_outwards_here", "_law_thing", "_law_every", "_law_nest"]
abbrev a__law_nests_of : List Str := ["_law_outwards_here", "_law_thing"]
theorem sc__law_nests_of : FnScope n__law_nests_of a__law_nests_of (defScope s__law_nests_of) := ⟨rfl, rfl, rfl, by decide +kernel, rfl, by decide +kernel, by decide +kernel⟩
abbrev s__law_shown : Stmt := top 62
abbrev n__law_shown : List Str := ["_law_outwards_here", "_law_nests", "_law_lot", "_law_name", "_law_other"]
abbrev a__law_shown : List Str := ["_law_outwards_here", "_law_nests", "_law_lot"]
theorem sc__law_shown : FnScope n__law_shown a__law_shown (defScope s__law_shown) := ⟨rfl, rfl, rfl, by decide +kernel, rfl, by decide +kernel, by decide +kernel⟩
abbrev s__law_exchanged : Stmt := top 63
abbrev n__law_exchanged : List Str := ["_law_purse_here", "_law_rows_here", "_law_heap_here", "_law_spare_here", "_law_at", "_law_row_here", "_law_other"]
abbrev a__law_exchanged : List Str := ["_law_purse_here", "_law_rows_here", "_law_heap_here", "_law_spare_here"]
theorem sc__law_exchanged : FnScope n__law_exchanged a__law_exchanged (defScope s__law_exchanged) := ⟨rfl, rfl, rfl, by decide +kernel, rfl, by decide +kernel, by decide +kernel⟩
abbrev s__law_deed : Stmt := top 64
abbrev n__law_deed : List Str := ["_law_purse_here", "_law_rows_here", "_law_heap_here", "_law_names_here", "_law_spare_here", "_law_left", "_law_row_here", "_law_to", "_law_name", "_law_other"]
abbrev a__law_deed : List Str := ["_law_purse_here", "_law_rows_here", "_law_heap_here", "_law_names_here", "_law_spare_here"]
theorem sc__law_deed : FnScope n__law_deed a__law_deed (defScope s__law_deed) := ⟨rfl, rfl, rfl, by decide +kernel, rfl, by decide +kernel, by decide +kernel⟩
abbrev s__law_right : Stmt := top 65
abbrev n__law_right : List Str := ["_law_rows_here", "_law_spare_here", "_law_found"]
abbrev a__law_right : List Str := ["_law_rows_here", "_law_spare_here", "_law_found"]
theorem sc__law_right : FnScope n__law_right a__law_right (defScope s__law_right) := ⟨rfl, rfl, rfl, by decide +kernel, rfl, by decide +kernel, by decide +kernel⟩
abbrev s__law_asked_again : Stmt := top 66
abbrev n__law_asked_again : List Str := ["_law_rows_here", "_law_heap_here", "_law_spare_here", "_law_found", "_law_kept", "_law_nest", "_law_row_here"]
abbrev a__law_asked_again : List Str := ["_law_rows_here", "_law_heap_here", "_law_spare_here", "_law_found"]
theorem sc__law_asked_again : FnScope n__law_asked_again a__law_asked_again (defScope s__law_asked_again) := ⟨rfl, rfl, rfl, by decide +kernel, rfl, by decide +kernel, by decide +kernel⟩
abbrev s_law : Stmt := top 67
abbrev n_law : List Str := ["_law_script", "_law_k", "_law_purse_here", "_law_spares", "_law_held", "_law_heaps", "_law_called", "_law_turn", "_law_at", "_law_spare_here", "_law_found", "_law_row_here"]
abbrev a_law : List Str := ["_law_script"]
theorem sc_law : FnScope n_law a_law (defScope s_law) := ⟨rfl, rfl, rfl, by decide +kernel, rfl, by decide +kernel, by decide +kernel⟩
abbrev s_NoNumber___init__ : Stmt := inClass (top 4) 0
abbrev n_NoNumber___init__ : List Str := ["self", "found"]
abbrev a_NoNumber___init__ : List Str := ["self", "found"]
theorem sc_NoNumber___init__ : FnScope n_NoNumber___init__ a_NoNumber___init__ (defScope s_NoNumber___init__) := ⟨rfl, rfl, rfl, by decide +kernel, rfl, by decide +kernel, by decide +kernel⟩
abbrev s_NoSide___init__ : Stmt := inClass (top 6) 0
abbrev n_NoSide___init__ : List Str := ["self", "found"]
abbrev a_NoSide___init__ : List Str := ["self", "found"]
theorem sc_NoSide___init__ : FnScope n_NoSide___init__ a_NoSide___init__ (defScope s_NoSide___init__) := ⟨rfl, rfl, rfl, by decide +kernel, rfl, by decide +kernel, by decide +kernel⟩
def perms : List (List Int) := [[0, 1, 2], [0, 2, 1], [1, 0, 2], [1, 2, 0], [2, 0, 1], [2, 1, 0]]
structure Tx (K : PySem.W.Frag) (mg : Str → Option Value) : Prop where
  b_all : mg "all" = none
  b_bool : mg "bool" = none
  b_enumerate : mg "enumerate" = none
  b_int : mg "int" = none
  b_isinstance : mg "isinstance" = none
  b_len : mg "len" = none
  b_list : mg "list" = none
  b_max : mg "max" = none
  b_min : mg "min" = none
  b_range : mg "range" = none
  b_repr : mg "repr" = none
  b_set : mg "set" = none
  b_sorted : mg "sorted" = none
  b_str : mg "str" = none
  b_tuple : mg "tuple" = none
  b_zip : mg "zip" = none
  c_LETTERS : ∃ u, mg "LETTERS" = some u ∧ RelV (.str "abcdefghijklmnopqrstuvwxyz") u
  c_MOST_PARCELS : ∃ u, mg "MOST_PARCELS" = some u ∧ RelV (.int 12) u
  c_MOST_SIDE : ∃ u, mg "MOST_SIDE" = some u ∧ RelV (.int 100000) u
  c_MOST_SPARE : ∃ u, mg "MOST_SPARE" = some u ∧ RelV (.int 1000) u
  c_MOST_WALL : ∃ u, mg "MOST_WALL" = some u ∧ RelV (.int 1000) u
  c_MOST_WEIGHT : ∃ u, mg "MOST_WEIGHT" = some u ∧ RelV (.int 100000) u
  c_ORDERS : ∃ a : Addr, (∃ u, mg "ORDERS" = some u ∧ RelV (.ref a) u) ∧ ∀ H S, Rep K H S (.ref a) (.tup (perms.map fun p => .tup (p.map .int)))
  c_LABELS : ∃ a : Addr, (∃ u, mg "LABELS" = some u ∧ RelV (.ref a) u) ∧ ∀ H S, Rep K H S (.ref a) (.tup [.str "alone", .str "top", .str "upright"])
structure Kl_Sides (K : PySem.W.Frag) (mg : Str → Option Value) (C : Addr) : Prop where
  at_ : mg "Sides" = some (.ref C)
  ins : C8.InsC K C
  a_three : NoAttr K C "three"
  t_int : PySem.W.kitOne K (.type "int") (.ref C) = some false
  t_bool : PySem.W.kitOne K (.type "bool") (.ref C) = some false
  t_str : PySem.W.kitOne K (.type "str") (.ref C) = some false
  t_NoneType : PySem.W.kitOne K (.type "NoneType") (.ref C) = some false
  t_list : PySem.W.kitOne K (.type "list") (.ref C) = some false
  t_tuple : PySem.W.kitOne K (.type "tuple") (.ref C) = some false
  t_dict : PySem.W.kitOne K (.type "dict") (.ref C) = some false
theorem Kl_Sides.no {K : PySem.W.Frag} {mg : Str → Option Value} {C : Addr} (k : Kl_Sides K mg C) {d : D} (h : isP d = true) : PySem.W.kitOne K (.type (tyN d)) (.ref C) = some false :=
  tyN_all (P := fun n => PySem.W.kitOne K (.type n) (.ref C) = some false) k.t_NoneType k.t_bool k.t_int k.t_str k.t_list k.t_tuple k.t_dict h
structure Kl_Parcel (K : PySem.W.Frag) (mg : Str → Option Value) (C : Addr) : Prop where
  at_ : mg "Parcel" = some (.ref C)
  ins : C8.InsC K C
  a_called : NoAttr K C "called"
  a_outside : NoAttr K C "outside"
  a_thick : NoAttr K C "thick"
  a_heavy : NoAttr K C "heavy"
  a_strong : NoAttr K C "strong"
  a_marks : NoAttr K C "marks"
  a_told : NoAttr K C "told"
  a_names : NoAttr K C "names"
  t_int : PySem.W.kitOne K (.type "int") (.ref C) = some false
  t_bool : PySem.W.kitOne K (.type "bool") (.ref C) = some false
  t_str : PySem.W.kitOne K (.type "str") (.ref C) = some false
  t_NoneType : PySem.W.kitOne K (.type "NoneType") (.ref C) = some false
  t_list : PySem.W.kitOne K (.type "list") (.ref C) = some false
  t_tuple : PySem.W.kitOne K (.type "tuple") (.ref C) = some false
  t_dict : PySem.W.kitOne K (.type "dict") (.ref C) = some false
theorem Kl_Parcel.no {K : PySem.W.Frag} {mg : Str → Option Value} {C : Addr} (k : Kl_Parcel K mg C) {d : D} (h : isP d = true) : PySem.W.kitOne K (.type (tyN d)) (.ref C) = some false :=
  tyN_all (P := fun n => PySem.W.kitOne K (.type n) (.ref C) = some false) k.t_NoneType k.t_bool k.t_int k.t_str k.t_list k.t_tuple k.t_dict h
structure Kl_Heap (K : PySem.W.Frag) (mg : Str → Option Value) (C : Addr) : Prop where
  at_ : mg "Heap" = some (.ref C)
  ins : C8.InsC K C
  a_held : NoAttr K C "held"
  a_told : NoAttr K C "told"
  a_kind : NoAttr K C "kind"
end LW
namespace LW
open PySem L2 C8 PySem.Spec PyProof.Rows VS
/-- what a thing is, as far as whole numbers go -/
inductive Wh (K : PySem.W.Frag) (S : Sto) : D → Option Int → Prop
  | i (i : Int) : Wh K S (.int i) (some i)
  | b (b : Bool) : Wh K S (.bl b) none
  | o {d : D} {t : Value} (h : OfC K S d t) (k : PySem.W.kitOne K t (.type "int") = some false) (n : ∀ i, d ≠ .int i) : Wh K S d none
def whB (o : Option Int) (lo hi : Int) : Bool := match o with
  | some i => decide (lo ≤ i) && decide (i ≤ hi)
  | none => false
theorem whB_of {i lo hi : Int} (h : lo ≤ i ∧ i ≤ hi) : whB (some i) lo hi = true := by
  show (decide (lo ≤ i) && decide (i ≤ hi)) = true
  rw [decide_eq_true h.1, decide_eq_true h.2]; rfl
theorem Wh.some {K : PySem.W.Frag} {S : Sto} {d : D} {i : Int} (h : Wh K S d (some i)) : d = .int i := by cases h; rfl
def p_is_whole (K : PySem.W.Frag) : Pt := fun ds S G _ => ∃ d o lo hi, ds = [d, .int lo, .int hi] ∧ Wh K S d o ∧ G (.bl (whB o lo hi)) S
section
variable {P : Program} {w : World} {K : PySem.W.Frag} {mg : Str → Option Value} {base : Heap}
theorem ok_is_whole {f : Addr} {fd : FuncData} {C_Sides C_Parcel C_Heap C_NoNumber C_NoSide : Addr}
    (F : Fd K "is_whole" "is_whole" s_is_whole [] f fd) (T : Tx K mg) (hsys : SysOk base) :
    FnG P w K mg base (L2.CX P w) 1 f fd a_is_whole (spOf K (p_is_whole K)) := by
  refine fn_val F sc_is_whole (fun ds S G Y h => ?_) (fun cdv A hgd outer s H E hr px tk po ds S G Y h => ?_)
  · obtain ⟨d, o, lo, hi, rfl, _⟩ := h
    rfl
  · obtain ⟨d, o, lo, hi, rfl, h, q⟩ := h
    refine ⟨_, (pss_one (ps_ret (pe_and (pe_callB c_isiZ (by rfl) T.b_isinstance (by decide +kernel) (pa_cons (pv 0) (pa_cons (pe_bltn (v := .ty "int") (by rfl) T.b_int (by decide +kernel) rfl) pa_nil))) (pe_and (pe_not (pe_callB c_isiZ (by rfl) T.b_isinstance (by decide +kernel) (pa_cons (pv 0) (pa_cons (pe_bltn (v := .ty "bool") (by rfl) T.b_bool (by decide +kernel) rfl) pa_nil)))) (pe_one (pe_chain op_le op_le (pv 1) (pv 0) (pv 2))))))), ?_⟩
    dsimp only [cxOf, List.map]
    show VX _ _ [_, _, _] _ _
    cases h with
    | i i =>
      walk_at "go"
      refine br (fun h1 => ?_) (fun h1 => ?_)
      · walk_at "go"
        have e : whB (some i) lo hi = decide (i ≤ hi) := by show (decide (lo ≤ i) && decide (i ≤ hi)) = _; rw [decide_eq_true h1]; rfl
        rw [← e]
        exact q
      · have e : whB (some i) lo hi = false := by show (decide (lo ≤ i) && decide (i ≤ hi)) = _; rw [decide_eq_false h1]; rfl
        rw [← e]
        exact q
    | b b =>
      walk_at "go"
      exact q
    | o ht hk hn =>
      walk_at "go"
      refine rc_isiP ht hk ?_
      walk_at "go"
      exact q
end
/-! ### orders -/
def ordB : List D → Bool
  | [.int a, .int b, .int c] => perms.contains [a, b, c]
  | _ => false
theorem ordB_of {p : List Int} (h : p ∈ perms) : ordB (p.map D.int) = true := by
  simp only [perms, List.mem_cons, List.not_mem_nil, or_false] at h
  rcases h with rfl | rfl | rfl | rfl | rfl | rfl <;> rfl
/-- what a thing is, as far as orders go -/
inductive Od (K : PySem.W.Frag) (S : Sto) : D → Bool → Prop
  | t {xs : List D} (hl : xs.length ≤ 1000) (h : ∀ x ∈ xs, ∃ o, Wh K S x o) : Od K S (.tup xs) (ordB xs)
  | o {d : D} {t : Value} (h : OfC K S d t) (k : PySem.W.kitOne K t (.type "tuple") = some false) : Od K S d false
theorem Od.perm {K : PySem.W.Frag} {S : Sto} {p : List Int} (h : p ∈ perms) : Od K S (.tup (p.map D.int)) true := by
  rw [← ordB_of h]
  refine .t ?_ fun x hx => ?_
  · simp only [perms, List.mem_cons, List.not_mem_nil, or_false] at h
    rcases h with rfl | rfl | rfl | rfl | rfl | rfl <;> decide
  · obtain ⟨i, _, rfl⟩ := List.mem_map.mp hx
    exact ⟨_, .i i⟩
end LW
namespace LW
open PySem L2 C8 PySem.Spec PyProof.Rows VS
/-! ### Sides by value -/
def fD (t : D) : List (Str × D) := [("three", t)]
def sd (C : Addr) (a b c : Int) : D := .ins C (fD (.tup [.int a, .int b, .int c]))
def In1 (a : Int) : Prop := 1 ≤ a ∧ a ≤ 100000
/-- the first thing that is no side -/
def bad : List (D × Option Int) → Option D
  | [] => none
  | (d, o) :: r => if whB o 1 100000 = true then bad r else some d
def p_Sides_init (K : PySem.W.Frag) (CS CX : Addr) : Pt := fun ds S G Y => ∃ y d1 d2 d3 o1 o2 o3, ds = [.ref y, d1, d2, d3] ∧ S y = some (.ins CS []) ∧ Wh K S d1 o1 ∧ Wh K S d2 o2 ∧ Wh K S d3 o3 ∧
  (bad [(d1, o1), (d2, o2), (d3, o3)] = none → G .non (put S y (.ins CS (fD (.tup [d1, d2, d3]))))) ∧ ∀ d, bad [(d1, o1), (d2, o2), (d3, o3)] = some d → Y CX [("found", d)] S
theorem bad_of {a b c : Int} {d1 d2 d3 : D} (ha : In1 a) (hb : In1 b) (hc : In1 c) : bad [(d1, some a), (d2, some b), (d3, some c)] = none := by
  unfold bad
  rw [if_pos (whB_of ha)]
  unfold bad
  rw [if_pos (whB_of hb)]
  unfold bad
  rw [if_pos (whB_of hc)]
  rfl
/-- the call of the maker where all is good -/
theorem init_ok {K : PySem.W.Frag} {CS CX : Addr} {a b c : Int} (ha : In1 a) (hb : In1 b) (hc : In1 c) {y : Addr} {S : Sto} (hy : S y = none) {G : D → Sto → Prop} {Y : Addr → List (Str × D) → Sto → Prop} (q : G .non (put (put S y (.ins CS [])) y (sd CS a b c))) :
    p_Sides_init K CS CX [.ref y, .int a, .int b, .int c] (put S y (.ins CS [])) G Y :=
  ⟨y, _, _, _, _, _, _, rfl, put_same, .i a, .i b, .i c, fun _ => q, fun d h => by rw [bad_of ha hb hc] at h; cases h⟩
def p_told (CS : Addr) : Pt := fun ds S G _ => ∃ a b c, ds = [sd CS a b c] ∧ G (.tup [.int a, .int b, .int c]) S
def p_ranked (CS : Addr) : Pt := fun ds S G _ => ∃ a b c, ds = [sd CS a b c] ∧ G (.tup ((dn [a, b, c]).map D.int)) S
/-- the side of a number -/
def tn (a b c i : Int) : Int := if i = 0 then a else if i = 1 then b else c
def tnl (a b c : Int) (p : List Int) : List Int := p.map (tn a b c)
section
variable {P : Program} {w : World} {K : PySem.W.Frag} {mg : Str → Option Value} {base : Heap}
theorem ok_Sides___init__ {f : Addr} {fd : FuncData} {C_Sides C_Parcel C_Heap C_NoNumber C_NoSide : Addr} {f_is_whole : Addr} {g_is_whole : FuncData}
    (F : Fd K "__init__" "Sides.__init__" s_Sides___init__ [] f fd) (T : Tx K mg) (hsys : SysOk base)
    (c_is_whole : Cf P w K mg base (L2.CX P w) 1 "is_whole" s_is_whole [] a_is_whole (p_is_whole K) f_is_whole g_is_whole)
    (x_NoSide : Xc P w K mg base "NoSide" C_NoSide "found")
    (k_Sides : Kl_Sides K mg C_Sides) :
    FnG P w K mg base (L2.CX P w) 3 f fd a_Sides___init__ (spOf K (p_Sides_init K C_Sides C_NoSide)) := by
  have kc_Sides := k_Sides.ins.cl
  have ka_Sides_three := k_Sides.a_three
  refine fn_val F sc_Sides___init__ (fun ds S G Y h => ?_) (fun cdv A hgd outer s H E hr px tk po ds S G Y h => ?_)
  · obtain ⟨y, d1, d2, d3, o1, o2, o3, rfl, _⟩ := h
    rfl
  · obtain ⟨y, d1, d2, d3, o1, o2, o3, rfl, hy, w1, w2, w3, q, qx⟩ := h
    refine ⟨_, (pss_cons (ps_for po rfl (pi_tup (pe_tup (pa_cons (pv 1) (pa_cons (pv 2) (pa_cons (pv 3) pa_nil))))) (pg_name (i := 4) sc_Sides___init__.nd rfl (Or.inl rfl))
      (pss_one (ps_if (pt_not (pt_val (pe_cG c_is_whole.fn hgd (hr.mono (by decide)) (by rfl) c_is_whole.mg c_is_whole.kp c_is_whole.b .nil VS.pass0 (pa_cons (pv 4) (pa_cons pe_int (pa_cons (pe_gc (by rfl) T.c_MOST_SIDE) pa_nil)))))) (pss_one (ps_rz tk x_NoSide (hr.mono (by decide)) (by rfl) (pv 4)))
      pss_nil)))
      (pss_one (ps_fld (pv 0) (pe_tup (pa_cons (pv 1) (pa_cons (pv 2) (pa_cons (pv 3) pa_nil)))) rfl))), ?_⟩
    dsimp only [cxOf, List.map]
    show VX _ _ [_, _, _, _, _] _ _
    walk_at "go"
    refine vx_for (vi_tup ?_)
    walk_at "go"
    refine ⟨by show 3 ≤ sizeLine; decide, ?_⟩
    have step : ∀ (d : D) (o : Option Int) (ρ4 : Option D) (W : Nat → Rho → Sto → Prop) (i : Nat), Wh K S d o → (whB o 1 100000 = true → ∀ x, W (i + 1) [some (.ref y), some d1, some d2, some d3, x] S) → (whB o 1 100000 = false → Y C_NoSide [("found", d)] S) → True := fun _ _ _ _ _ _ _ _ => trivial
    refine ⟨_, rfl, fun i ρ2 S2 => S2 = S ∧ ∃ x, ρ2 = [some (.ref y), some d1, some d2, some d3, x] ∧ bad (([(d1, o1), (d2, o2), (d3, o3)]).drop i) = bad [(d1, o1), (d2, o2), (d3, o3)], ⟨rfl, _, rfl, rfl⟩, ?_, ?_⟩
    · rintro i d ρ2 S2 hd ⟨rfl, x, rfl, hb⟩
      walk_at "go"
      have hk : ∃ o, Wh K S2 d o ∧ ([(d1, o1), (d2, o2), (d3, o3)] : List (D × Option Int)).drop i = (d, o) :: ([(d1, o1), (d2, o2), (d3, o3)]).drop (i + 1) := by
        have hi := (List.getElem?_eq_some_iff.mp hd).1
        match i, hi, hd with
        | 0, _, hd => cases hd; exact ⟨o1, w1, rfl⟩
        | 1, _, hd => cases hd; exact ⟨o2, w2, rfl⟩
        | 2, _, hd => cases hd; exact ⟨o3, w3, rfl⟩
      obtain ⟨o, wo, ed⟩ := hk
      rw [ed] at hb
      refine ⟨d, o, 1, 100000, rfl, wo, ?_⟩
      walk_at "go"
      refine brB (fun h1 => ?_) (fun h1 => ?_)
      · walk_at "go"
        refine vx_raise ?_
        walk_at "go"
        refine qx d ?_
        rw [← hb]
        unfold bad
        rw [if_neg (by rw [h1]; decide)]
      · walk_at "go"
        refine ⟨rfl, _, rfl, ?_⟩
        rw [← hb]
        conv => rhs; unfold bad
        rw [if_pos h1]
    · rintro ρ2 S2 ⟨rfl, x, rfl, hb⟩
      walk_at "go"
      refine ⟨by show 3 ≤ sizeLine; decide, ?_⟩
      walk_at "go"
      refine ⟨_, _, _, rfl, hy, k_Sides.ins.cl, k_Sides.a_three, by decide, ?_⟩
      walk_at "go"
      exact q hb.symm
theorem ok_Sides_told {f : Addr} {fd : FuncData} {C_Sides C_Parcel C_Heap C_NoNumber C_NoSide : Addr}
    (F : Fd K "told" "Sides.told" s_Sides_told [] f fd) (T : Tx K mg) (hsys : SysOk base)
    (k_Sides : Kl_Sides K mg C_Sides) :
    FnG P w K mg base (L2.CX P w) 1 f fd a_Sides_told (spOf K (p_told C_Sides)) := by
  have kc_Sides := k_Sides.ins.cl
  have ka_Sides_three := k_Sides.a_three
  refine fn_val F sc_Sides_told (fun ds S G Y h => ?_) (fun cdv A hgd outer s H E hr px tk po ds S G Y h => ?_)
  · obtain ⟨a, b, c, rfl, _⟩ := h
    rfl
  · obtain ⟨a, b, c, rfl, q⟩ := h
    refine ⟨_, (pss_one (ps_ret (pe_fld (pv 0) rfl))), ?_⟩
    dsimp only [cxOf, List.map]
    show VX _ _ [_] _ _
    walk_at "go"
    exact ⟨_, _, _, .v, k_Sides.ins.cl, k_Sides.a_three, rfl, q⟩
theorem ok_Sides_ranked {f : Addr} {fd : FuncData} {C_Sides C_Parcel C_Heap C_NoNumber C_NoSide : Addr}
    (F : Fd K "ranked" "Sides.ranked" s_Sides_ranked [] f fd) (T : Tx K mg) (hsys : SysOk base)
    (k_Sides : Kl_Sides K mg C_Sides) :
    FnG P w K mg base (L2.CX P w) 1 f fd a_Sides_ranked (spOf K (p_ranked C_Sides)) := by
  have kc_Sides := k_Sides.ins.cl
  have ka_Sides_three := k_Sides.a_three
  refine fn_val F sc_Sides_ranked (fun ds S G Y h => ?_) (fun cdv A hgd outer s H E hr px tk po ds S G Y h => ?_)
  · obtain ⟨a, b, c, rfl, _⟩ := h
    rfl
  · obtain ⟨a, b, c, rfl, q⟩ := h
    refine ⟨_, (pss_one (ps_ret (pe_callTy c_tuple (by rfl) T.b_tuple (by decide +kernel) (pa_cons (pe_callBK (c_sortedR (b := true)) (by rfl) T.b_sorted (by decide +kernel) (pa_cons (pe_fld (pv 0) rfl) pa_nil) (pk_cons pe_bl pk_nil)) pa_nil)))), ?_⟩
    dsimp only [cxOf, List.map]
    show VX _ _ [_] _ _
    walk_at "go"
    refine ve_ckw ?_
    walk_at "go"
    refine ⟨_, _, _, .v, k_Sides.ins.cl, k_Sides.a_three, rfl, ?_⟩
    walk_at "go"
    refine rck_sortedR (ns := [a, b, c]) .t ?_
    walk_at "go"
    exact rc_tupleL .v q
end
end LW
namespace LW
open PySem L2 C8 PySem.Spec PyProof.Rows VS
def p_need_spare (K : PySem.W.Frag) (CN : Addr) : Pt := fun ds S G Y => ∃ d o, ds = [d] ∧ Wh K S d o ∧ (whB o 0 1000 = true → G .non S) ∧ (whB o 0 1000 = false → Y CN [("found", d)] S)
def fitB (l m : List Int) (sp : Int) : Bool := (l.zip m).all fun q => decide (q.1 + sp ≤ q.2)
section
variable {P : Program} {w : World} {K : PySem.W.Frag} {mg : Str → Option Value} {base : Heap}
theorem ok_need_spare {f : Addr} {fd : FuncData} {C_Sides C_Parcel C_Heap C_NoNumber C_NoSide : Addr} {f_is_whole : Addr} {g_is_whole : FuncData}
    (F : Fd K "need_spare" "need_spare" s_need_spare [] f fd) (T : Tx K mg) (hsys : SysOk base)
    (c_is_whole : Cf P w K mg base (L2.CX P w) 1 "is_whole" s_is_whole [] a_is_whole (p_is_whole K) f_is_whole g_is_whole)
    (x_NoNumber : Xc P w K mg base "NoNumber" C_NoNumber "found") :
    FnG P w K mg base (L2.CX P w) 3 f fd a_need_spare (spOf K (p_need_spare K C_NoNumber)) := by
  refine fn_val F sc_need_spare (fun ds S G Y h => ?_) (fun cdv A hgd outer s H E hr px tk po ds S G Y h => ?_)
  · obtain ⟨d, o, rfl, _⟩ := h
    rfl
  · obtain ⟨d, o, rfl, wd, q, qx⟩ := h
    refine ⟨_, (pss_one (ps_if (pt_not (pt_val (pe_cG c_is_whole.fn hgd (hr.mono (by decide)) (by rfl) c_is_whole.mg c_is_whole.kp c_is_whole.b .nil VS.pass0 (pa_cons (pv 0) (pa_cons pe_int (pa_cons (pe_gc (by rfl) T.c_MOST_SPARE) pa_nil)))))) (pss_one (ps_rz tk x_NoNumber (hr.mono (by decide)) (by rfl) (pv 0)))
      pss_nil)), ?_⟩
    (try dsimp only [cxOf, List.map])
    show VX _ _ [_] _ _
    walk_at "go"
    refine ⟨d, o, 0, 1000, rfl, wd, ?_⟩
    walk_at "go"
    refine brB (fun h1 => ?_) (fun h1 => ?_)
    · walk_at "go"
      refine vx_raise ?_
      walk_at "go"
      exact qx h1
    · walk_at "go"
      exact q h1
end
end LW
namespace LW
open PySem L2 C8 PySem.Spec PyProof.Rows VS
/-! ### turning and ranking, plain -/
/-- two numbers the same but for their order -/
theorem perm2 {a b x y : Int} (h : [a, b].Perm [x, y]) : (x = a ∧ y = b) ∨ (x = b ∧ y = a) := by
  have hx : x ∈ [a, b] := h.mem_iff.mpr (List.mem_cons_self ..)
  simp only [List.mem_cons, List.not_mem_nil, or_false] at hx
  rcases hx with rfl | rfl
  · have := h.cons_inv
    exact .inl ⟨rfl, (List.singleton_perm_singleton.mp this).symm⟩
  · have := ((List.Perm.swap _ _ _).symm.trans h).cons_inv
    exact .inr ⟨rfl, (List.singleton_perm_singleton.mp this).symm⟩
theorem perm3 {a b c x y z : Int} (h : [a, b, c].Perm [x, y, z]) : ∃ p ∈ perms, [x, y, z] = tnl a b c p := by
  have hx : x ∈ [a, b, c] := h.mem_iff.mpr (List.mem_cons_self ..)
  simp only [List.mem_cons, List.not_mem_nil, or_false] at hx
  rcases hx with rfl | rfl | rfl
  · rcases perm2 h.cons_inv with ⟨rfl, rfl⟩ | ⟨rfl, rfl⟩
    · exact ⟨[0, 1, 2], by decide, rfl⟩
    · exact ⟨[0, 2, 1], by decide, rfl⟩
  · have h2 : [a, c].Perm [y, z] := ((List.Perm.swap a x [c]).trans h).cons_inv
    rcases perm2 h2 with ⟨rfl, rfl⟩ | ⟨rfl, rfl⟩
    · exact ⟨[1, 0, 2], by decide, rfl⟩
    · exact ⟨[1, 2, 0], by decide, rfl⟩
  · have h1 : [x, a, b].Perm [a, b, x] := List.perm_append_comm (l₁ := [x]) (l₂ := [a, b])
    have h2 : [a, b].Perm [y, z] := (h1.trans h).cons_inv
    rcases perm2 h2 with ⟨rfl, rfl⟩ | ⟨rfl, rfl⟩
    · exact ⟨[2, 0, 1], by decide, rfl⟩
    · exact ⟨[2, 1, 0], by decide, rfl⟩
theorem up3 (a b c : Int) : ∃ u v w, up [a, b, c] = [u, v, w] ∧ u ≤ v ∧ v ≤ w ∧ ∃ p ∈ perms, [a, b, c] = tnl u v w p := by
  have hp := up_perm [a, b, c]
  have hs := up_sorted [a, b, c]
  have hl := up_len [a, b, c]
  match e : up [a, b, c], hl, hs, hp with
  | [u, v, w], _, hs, hp =>
    refine ⟨u, v, w, rfl, ?_, ?_, perm3 hp⟩
    · exact (List.pairwise_cons.mp hs).1 v (by simp)
    · exact (List.pairwise_cons.mp (List.pairwise_cons.mp hs).2).1 w (by simp)
def go (a b c x y z sp : Int) : Bool := perms.any fun p => fitB (tnl a b c p) [x, y, z] sp
/-- rank by rank -/
def rk (l m : List Int) (sp : Int) : Bool := match l, m with
  | [u, v, w], [x, y, z] => decide (u + sp ≤ x) && (decide (v + sp ≤ y) && decide (w + sp ≤ z))
  | _, _ => false
end LW
namespace LW
open PySem L2 C8 PySem.Spec PyProof.Rows VS
/-- a purse: after n draws at most -/
def Pu (S : Sto) (p : Addr) (n : Int) : Prop := ∃ a b c : Int, S p = some (.lst [.int a, .int b, .int c]) ∧ 0 ≤ b ∧ b < 2147483648 ∧ 0 ≤ c ∧ c ≤ n
def Off (p : Addr) (S S' : Sto) : Prop := ∀ q, q ≠ p → S' q = S q
theorem Off.trans {p : Addr} {S S' S'' : Sto} (a : Off p S S') (b : Off p S' S'') : Off p S S'' := fun q h => (b q h).trans (a q h)
theorem Off.put {p : Addr} {S : Sto} {d : D} : Off p S (put S p d) := fun _ h => put_ne h
theorem Off.ex1 {p : Addr} {S S' : Sto} (o : Off p S S') : Ex1 p S S' := fun q d n h => (o q n).trans h
theorem Pu.mono {S : Sto} {p : Addr} {n m : Int} (h : Pu S p n) (l : n ≤ m) : Pu S p m := by
  obtain ⟨a, b, c, h1, h2, h3, h4, h5⟩ := h
  exact ⟨a, b, c, h1, h2, h3, h4, by omega⟩
theorem Pu.off {S S' : Sto} {p q : Addr} {n : Int} (h : Pu S p n) (o : Off q S S') (ne : p ≠ q) : Pu S' p n := by
  obtain ⟨a, b, c, h1, h2⟩ := h
  exact ⟨a, b, c, (o p ne).trans h1, h2⟩
def p__law_take : Pt := fun ds S G _ => ∃ (p : Addr) (n m : Int), ds = [.ref p, .int m] ∧ Pu S p n ∧ n < 1000000 ∧ 0 < m ∧ m < 2 ^ 64 ∧ ∀ (d : Int) (S' : Sto), 0 ≤ d → d < m → Pu S' p (n + 1) → Off p S S' → G (.int d) S'
def p__law_cell : Pt := fun ds S G _ => ∃ (ns : List Int) (k : Nat), ds = [.rol (ns.map .int), .int k] ∧ k < 1000 ∧ ∀ z : Int, G (.int z) S
def p__law_purse : Pt := fun ds S G _ => ∃ z : Int, ds = [.int z] ∧ ∀ (p : Addr) (S' : Sto), S p = none → Pu S' p 0 → Off p S S' → G (.ref p) S'
section
variable {P : Program} {w : World} {K : PySem.W.Frag} {mg : Str → Option Value} {base : Heap}
theorem ok__law_cell {f : Addr} {fd : FuncData} {C_Sides C_Parcel C_Heap C_NoNumber C_NoSide : Addr}
    (F : Fd K "_law_cell" "_law_cell" s__law_cell [] f fd) (T : Tx K mg) (hsys : SysOk base) :
    FnG P w K mg base (L2.CX P w) 1 f fd a__law_cell (spOf K p__law_cell) := by
  refine fn_val F sc__law_cell (fun ds S G Y h => ?_) (fun cdv A hgd outer s H E hr px tk po ds S G Y h => ?_)
  · obtain ⟨ns, k, rfl, _⟩ := h
    rfl
  · obtain ⟨ns, k, rfl, hk, q⟩ := h
    refine ⟨_, (pss_cons (ps_if (pt_cmpR op_lt (pv 1) (pe_callB c_len (by rfl) T.b_len (by decide +kernel) (pa_cons (pv 0) pa_nil)) (nomark _)) (pss_one (ps_ret (pe_ix ix_list (pv 0) (pv 1) (fun _ _ => rfl))))
      pss_nil)
      (pss_one (ps_ret (pe_op op_add (pe_op op_mulW pe_int (pv 1)) pe_int)))), ?_⟩
    (try dsimp only [cxOf, List.map])
    show VX _ _ [_, _] _ _
    walk_at "go"
    refine rc_lenQ (.l .r) ?_
    walk_at "go"
    refine br (fun h1 => ?_) (fun h1 => ?_)
    · walk_at "go"
      have hl : k < ns.length := by
        rw [List.length_map] at h1
        omega
      refine rv_ixL .r (atI_nat (j := k) (by rw [List.getElem?_map, List.getElem?_eq_getElem hl]; rfl)) ?_
      exact q _
    · walk_at "go"
      exact q _
theorem ok__law_purse {f : Addr} {fd : FuncData} {C_Sides C_Parcel C_Heap C_NoNumber C_NoSide : Addr}
    (F : Fd K "_law_purse" "_law_purse" s__law_purse [] f fd) (T : Tx K mg) (hsys : SysOk base) :
    FnG P w K mg base (L2.CX P w) 1 f fd a__law_purse (spOf K p__law_purse) := by
  refine fn_val F sc__law_purse (fun ds S G Y h => ?_) (fun cdv A hgd outer s H E hr px tk po ds S G Y h => ?_)
  · obtain ⟨z, rfl, _⟩ := h
    rfl
  · obtain ⟨z, rfl, q⟩ := h
    refine ⟨_, (pss_one (ps_ret (pe_lst (pa_cons (pe_callB (c_max2 rfl) (by rfl) T.b_max (by decide +kernel) (pa_cons pe_int (pa_cons (pe_op op_sub (pv 0) (pe_op op_pow pe_int pe_int)) pa_nil))) (pa_cons (pe_op op_mod (pv 0) pe_int) (pa_cons pe_int pa_nil)))))), ?_⟩
    show VX _ _ [_] _ _
    walk_at "go"
    refine ve_lstc ?_
    walk_at "go"
    refine ⟨(by show 3 ≤ sizeLine; decide), fun p hp => q p _ hp ⟨_, _, _, put_same, Int.emod_nonneg _ (by decide), ?_, Int.le_refl _, Int.le_refl _⟩ .put⟩
    exact Int.lt_trans (Int.emod_lt_of_pos _ (by decide)) (by decide)
theorem ok__law_take {f : Addr} {fd : FuncData} {C_Sides C_Parcel C_Heap C_NoNumber C_NoSide : Addr}
    (F : Fd K "_law_take" "_law_take" s__law_take [] f fd) (T : Tx K mg) (hsys : SysOk base) :
    FnG P w K mg base (L2.CX P w) 1 f fd a__law_take (spOf K p__law_take) := by
  refine fn_val F sc__law_take (fun ds S G Y h => ?_) (fun cdv A hgd outer s H E hr px tk po ds S G Y h => ?_)
  · obtain ⟨p, n, m, rfl, _⟩ := h
    rfl
  · obtain ⟨p, n, m, rfl, ⟨a, b, c, hp, b0, b1, c0, c1⟩, hn, m0, m1, q⟩ := h
    refine ⟨_, (pss_cons (ps_if (pt_cmpR op_gt (pe_ix ix_list (pv 0) pe_int (fun _ _ => rfl)) pe_int (nomark _)) (pss_cons (ps_set (i := 2) sc__law_take.nd rfl (Or.inl rfl) (pe_op op_mod (pe_ix ix_list (pv 0) pe_int (fun _ _ => rfl)) (pv 1)))
      (pss_cons (ps_asg (pe_op op_fdivW (pe_ix ix_list (pv 0) pe_int (fun _ _ => rfl)) (pv 1)) (pg_sub (pv 0) pe_int set_list))
      (pss_one (ps_ret (pv 2)))))
      pss_nil)
      (pss_cons (ps_asg (pe_op op_add (pe_ix ix_list (pv 0) pe_int (fun _ _ => rfl)) pe_int) (pg_sub (pv 0) pe_int set_list))
      (pss_cons (ps_set (i := 3) sc__law_take.nd rfl (Or.inl rfl) (pe_op op_mod (pe_op op_pow (pe_op op_add (pe_op op_add (pe_ix ix_list (pv 0) pe_int (fun _ _ => rfl)) (pe_op op_mulW pe_int (pe_ix ix_list (pv 0) pe_int (fun _ _ => rfl)))) pe_int) pe_int) pe_int))
      (pss_cons (ps_set (i := 4) sc__law_take.nd rfl (Or.inl rfl) (pe_op op_mod (pe_op op_pow (pe_op op_add (pe_op op_mulW (pe_ix ix_list (pv 0) pe_int (fun _ _ => rfl)) (pe_ix ix_list (pv 0) pe_int (fun _ _ => rfl))) pe_int) pe_int) pe_int))
      (pss_one (ps_ret (pe_op op_mod (pe_op op_fdivW (pe_op op_add (pv 3) (pe_op op_mulW pe_int (pv 4))) pe_int) (pv 1)))))))), ?_⟩
    (try dsimp only [cxOf, List.map])
    show VX _ _ [_, _, _, _, _] _ _
    walk_at "go"
    refine br (fun h1 => ?_) (fun h1 => ?_)
    · walk_at "go"
      refine ⟨_, 0, _, rfl, hp, rfl, ?_⟩
      walk_at "go"
      exact q _ _ (Int.emod_nonneg _ (by omega)) (Int.emod_lt_of_pos _ m0) ⟨_, _, _, put_same, b0, b1, c0, by omega⟩ .put
    · walk_at "go"
      refine ⟨_, 2, _, rfl, hp, rfl, ?_⟩
      have g1 : 0 ≤ b * (c + 1) := Int.mul_nonneg b0 (by omega)
      have g2 : b * (c + 1) ≤ 2147483648 * 1000001 := Int.mul_le_mul (by omega) (by omega) (by omega) (by decide)
      walk_at "go"
      exact q _ _ (Int.emod_nonneg _ (by omega)) (Int.emod_lt_of_pos _ m0) ⟨_, _, _, put_same, b0, b1, by omega, by omega⟩ .put
end
end LW
namespace LW
open PySem L2 C8 PySem.Spec PyProof.Rows VS
/-! ### the purse, further -/
theorem Pu.ne {S : Sto} {p l : Addr} {n : Int} (h : Pu S p n) (hl : S l = none) : p ≠ l := by
  obtain ⟨a, b, c, e, _⟩ := h
  exact ne_at e hl
theorem Pu.put {S : Sto} {p l : Addr} {n : Int} {d : D} (h : Pu S p n) (hl : S l = none) : Pu (put S l d) p n := by
  have ne := h.ne hl
  obtain ⟨a, b, c, e, r⟩ := h
  exact ⟨a, b, c, by rw [put_ne ne]; exact e, r⟩
theorem Pu.wr {S : Sto} {p l : Addr} {n : Int} {d : D} (h : Pu S p n) (ne : p ≠ l) : Pu (VS.put S l d) p n := by
  obtain ⟨a, b, c, e, r⟩ := h
  exact ⟨a, b, c, by rw [put_ne ne]; exact e, r⟩
theorem _root_.VS.Ex1.new {p l : Addr} {S S' : Sto} {d : D} (x : Ex1 p S S') (hl : S' l = none) : Ex1 p S (put S' l d) := fun q e n h => by
  have h' := x q e n h
  rw [put_ne]
  · exact h'
  · intro z; subst z; rw [hl] at h'; cases h'
theorem _root_.VS.Ex1.wr2 {p l : Addr} {S S' : Sto} {d : D} (x : Ex1 p S S') (hl : S l = none) : Ex1 p S (VS.put S' l d) := fun q e n h => by
  rw [put_ne]
  · exact x q e n h
  · intro z; subst z; rw [hl] at h; cases h
theorem _root_.VS.Ex1.dl {p l : Addr} {S S' : Sto} (x : Ex1 p S S') (hl : S l = none) : Ex1 p S (VS.del S' l) := fun q e n h => by
  rw [VS.del_ne]
  · exact x q e n h
  · intro z; subst z; rw [hl] at h; cases h
theorem list3 {α : Type} {xs : List α} (h : xs.length = 3) : ∃ a b c, xs = [a, b, c] := by
  match xs, h with
  | [a, b, c], _ => exact ⟨a, b, c, rfl⟩
theorem take_ok {S : Sto} {p : Addr} {n m : Int} {G : D → Sto → Prop} {Y : Addr → List (Str × D) → Sto → Prop} (h : Pu S p n) (hn : n < 1000000) (h0 : 0 < m) (h1 : m < 2 ^ 64)
    (q : ∀ (d : Int) (S' : Sto), 0 ≤ d → d < m → Pu S' p (n + 1) → Off p S S' → G (.int d) S') : p__law_take [.ref p, .int m] S G Y := ⟨p, n, m, rfl, h, hn, h0, h1, q⟩
theorem cell_ok {ns : List Int} {k : Nat} {S : Sto} {G : D → Sto → Prop} {Y : Addr → List (Str × D) → Sto → Prop} (hk : k < 1000) (q : ∀ z : Int, G (.int z) S) : p__law_cell [.rol (ns.map .int), .int k] S G Y := ⟨ns, k, rfl, hk, q⟩
theorem purse_ok {z : Int} {S : Sto} {G : D → Sto → Prop} {Y : Addr → List (Str × D) → Sto → Prop} (q : ∀ (p : Addr) (S' : Sto), S p = none → Pu S' p 0 → Off p S S' → G (.ref p) S') : p__law_purse [.int z] S G Y := ⟨z, rfl, q⟩
end LW
open LW
local macro_rules | `(tactic| walk_at "gp") => `(tactic| ((with_reducible apply take_ok); (· assumption); (· first | decide | omega); (· first | decide | omega); (· first | decide | omega)))
local macro_rules | `(tactic| walk_at "gp") => `(tactic| ((with_reducible apply cell_ok); (· omega); intro cell))
local macro_rules | `(tactic| walk_at "gp") => `(tactic| with_reducible refine purse_ok ?_)
namespace LW
open PySem L2 C8 PySem.Spec PyProof.Rows VS
/-- three sides as a list -/
def li (a b c : Int) : D := .lst [.int a, .int b, .int c]
def p__law_three : Pt := fun ds S G _ => ∃ (p : Addr) (n : Int), ds = [.ref p] ∧ Pu S p n ∧ n < 900000 ∧ ∀ a b c S', In1 a → In1 b → In1 c → Pu S' p (n + 20) → Ex1 p S S' → G (li a b c) S'
def p__law_turned : Pt := fun ds S G _ => ∃ a b c p, ds = [li a b c, .tup (p.map D.int)] ∧ p ∈ perms ∧ G (.lst ((tnl a b c p).map D.int)) S
def ordsD : List D := perms.map fun p => .tup (p.map D.int)
def p__law_orders : Pt := fun ds S G _ => ds = [] ∧ G (.lst ordsD) S
end LW
namespace LW
open PySem L2 C8 PySem.Spec PyProof.Rows VS
/-! ### data as whole numbers, orders, Sides -/
end LW
namespace LW
open PySem L2 C8 PySem.Spec PyProof.Rows VS
/-! ### promises met at once -/
theorem told_ok {CS : Addr} {a b c : Int} {S : Sto} {G : D → Sto → Prop} {Y : Addr → List (Str × D) → Sto → Prop} (q : G (.tup [.int a, .int b, .int c]) S) : p_told CS [sd CS a b c] S G Y := ⟨a, b, c, rfl, q⟩
theorem ranked_ok {CS : Addr} {a b c : Int} {S : Sto} {G : D → Sto → Prop} {Y : Addr → List (Str × D) → Sto → Prop} (q : G (.tup ((dn [a, b, c]).map D.int)) S) : p_ranked CS [sd CS a b c] S G Y := ⟨a, b, c, rfl, q⟩
/-- Sides made of good numbers, by value -/
theorem ve_mkSd {c : VS.Ctx} {ρ : Rho} {S : Sto} {F : D → Sto → Prop} {t : TA} {E : L2.St → XK} {CS CX : Addr}
    (h : VA c t ρ S fun ds S1 => ∃ a b d, ds = [.int a, .int b, .int d] ∧ In1 a ∧ In1 b ∧ In1 d ∧ F (sd CS a b d) S1) : VE c (tMakeE CS (spOf c.K (p_Sides_init c.K CS CX)) [] E t) ρ S F :=
  ve_mk0 XOk.none (h.imp fun ds S1 ⟨a, b, d, e, ha, hb, hd, q⟩ y hy => by
    subst e
    exact init_ok ha hb hd hy ⟨rfl, y, _, rfl, put_same, nofun, by rw [del_put2 hy]; exact q⟩)
theorem ex_sd {a b d : Int} {G : Int → Int → Int → Prop} (ha : In1 a) (hb : In1 b) (hd : In1 d) (q : G a b d) : ∃ a' b' d', ([.int a, .int b, .int d] : List D) = [.int a', .int b', .int d'] ∧ In1 a' ∧ In1 b' ∧ In1 d' ∧ G a' b' d' := ⟨a, b, d, rfl, ha, hb, hd, q⟩
theorem lturn_ok {a b c : Int} {o : List Int} {S : Sto} {G : D → Sto → Prop} {Y : Addr → List (Str × D) → Sto → Prop} (ho : o ∈ perms) (q : G (.lst ((tnl a b c o).map D.int)) S) : p__law_turned [li a b c, .tup (o.map D.int)] S G Y := ⟨a, b, c, o, rfl, ho, q⟩
theorem lords_ok {S : Sto} {G : D → Sto → Prop} {Y : Addr → List (Str × D) → Sto → Prop} (q : G (.lst ordsD) S) : p__law_orders [] S G Y := ⟨rfl, q⟩
theorem lthree_ok {S : Sto} {p : Addr} {n : Int} {G : D → Sto → Prop} {Y : Addr → List (Str × D) → Sto → Prop} (h : Pu S p n) (hn : n < 900000) (q : ∀ a b c S', In1 a → In1 b → In1 c → Pu S' p (n + 20) → Ex1 p S S' → G (li a b c) S') : p__law_three [.ref p] S G Y := ⟨p, n, rfl, h, hn, q⟩
theorem li_at {a b c : Int} : atI [D.int a, .int b, .int c] 0 = some (.int a) ∧ atI [D.int a, .int b, .int c] 1 = some (.int b) ∧ atI [D.int a, .int b, .int c] 2 = some (.int c) := ⟨rfl, rfl, rfl⟩
section
variable {c : VS.Ctx} {S : Sto} {F : D → Sto → Prop}
theorem isi_sd {mg : Str → Option Value} {CS : Addr} {a b d : Int} (k : Kl_Sides c.K mg CS) (q : F (.bl true) S) : RC c (rIsiZ c.K) [sd CS a b d, .ref CS] S F := rc_isiO (.i .v k.ins) k.ins.me q
end
end LW
open LW
local macro_rules | `(tactic| walk_at "gp") => `(tactic| with_reducible refine told_ok ?_)
local macro_rules | `(tactic| walk_at "gp") => `(tactic| with_reducible refine ranked_ok ?_)
local macro_rules | `(tactic| walk_at "gp") => `(tactic| with_reducible refine ve_mkSd ?_)
local macro_rules | `(tactic| walk_at "gp") => `(tactic| ((with_reducible refine ex_sd ?_ ?_ ?_ ?_); (· first | assumption | (unfold In1 at *; omega)); (· first | assumption | (unfold In1 at *; omega)); (· first | assumption | (unfold In1 at *; omega))))
local macro_rules | `(tactic| walk_at "gp") => `(tactic| ((with_reducible refine lturn_ok ?_ ?_); (· assumption)))
local macro_rules | `(tactic| walk_at "gp") => `(tactic| with_reducible refine lords_ok ?_)
local macro_rules | `(tactic| walk_at "gp") => `(tactic| ((with_reducible apply lthree_ok); (· assumption); (· first | decide | omega)))
local macro_rules | `(tactic| walk_at "gp") => `(tactic| ((with_reducible apply isi_sd); (· assumption)))
local macro_rules | `(tactic| walk_at "gp") => `(tactic| ((with_reducible apply rv_ixL); (· exact .v); (· with_reducible exact li_at.1)))
local macro_rules | `(tactic| walk_at "gp") => `(tactic| ((with_reducible apply rv_ixL); (· exact .v); (· with_reducible exact li_at.2.1)))
local macro_rules | `(tactic| walk_at "gp") => `(tactic| ((with_reducible apply rv_ixL); (· exact .v); (· with_reducible exact li_at.2.2)))
namespace LW
open PySem L2 C8 PySem.Spec PyProof.Rows VS
theorem li_pick {a b c t : Int} (h0 : 0 ≤ t) (h1 : t < 3) {Q : Int → Prop} (ha : Q a) (hb : Q b) (hc : Q c) : ∃ r, atI [D.int a, .int b, .int c] t = some (.int r) ∧ Q r := by
  have : t = 0 ∨ t = 1 ∨ t = 2 := by omega
  rcases this with rfl | rfl | rfl
  · exact ⟨a, rfl, ha⟩
  · exact ⟨b, rfl, hb⟩
  · exact ⟨c, rfl, hc⟩
end LW
namespace LW
open PySem L2 C8 PySem.Spec PyProof.Rows VS
end LW
namespace LW
open PySem L2 C8 PySem.Spec PyProof.Rows VS
/-! ### data that may be shown and compared -/
structure Ok (d : D) (n k : Nat) : Prop where
  sh : Sh d n k
  s : SeqAt.shaped (pd d) = true
  l : ∀ zs, d = .tup zs → zs.length ≤ 1000
theorem Ok.mono {d : D} {n m k j : Nat} (h : Ok d n k) (a : n ≤ m) (b : k ≤ j) : Ok d m j := ⟨h.sh.mono a b, h.s, h.l⟩
theorem ok_all {n k : Nat} : ∀ {ys : List D}, (∀ y ∈ ys, Ok y n k) → ShL ys (ys.length * (n + 2)) k ∧ PyData.canLayAll0 (pdL ys) = true ∧ PyData.depthAll (pdL ys) ≤ k
  | [], _ => ⟨ShL.nil.mono (Nat.zero_le _) (Nat.zero_le _), rfl, Nat.zero_le _⟩
  | y :: ys, h => by
    obtain ⟨a, b, c⟩ := ok_all (ys := ys) fun z hz => h z (List.mem_cons_of_mem _ hz)
    have hy := h y (List.mem_cons_self ..)
    have s' : ((pd y).canLay0 && decide ((pd y).depth ≤ 64)) = true := hy.s
    rw [Bool.and_eq_true] at s'
    refine ⟨(ShL.cons hy.sh a).mono (by rw [List.length_cons, Nat.succ_mul]; omega) (Nat.max_le.mpr ⟨Nat.le_refl _, Nat.le_refl _⟩), ?_, Nat.max_le.mpr ⟨hy.sh.d, c⟩⟩
    show ((pd y).canLay0 && PyData.canLayAll0 (pdL ys)) = true
    rw [s'.1, b]; rfl
theorem Ok.tup {ys : List D} {n k : Nat} (m : Nat) (h : ∀ y ∈ ys, Ok y n k) (hl : ys.length ≤ m) (hm : m ≤ 1000) (hk : k + 1 ≤ 64) : Ok (.tup ys) (m * (n + 2) + 3) (k + 1) := by
  obtain ⟨a, b, c⟩ := ok_all h
  refine ⟨Sh.tup (a.mono (Nat.mul_le_mul_right _ hl) (Nat.le_refl _)), ?_, fun zs e => by injection e with e; rw [← e]; omega⟩
  show (PyData.canLayAll0 (pdL ys) && decide (PyData.depthAll (pdL ys) + 1 ≤ 64)) = true
  rw [b, decide_eq_true (by omega)]; rfl
theorem Ok.lst {ys : List D} {n k : Nat} (m : Nat) (h : ∀ y ∈ ys, Ok y n k) (hl : ys.length ≤ m) (hk : k + 1 ≤ 64) : Ok (.lst ys) (m * (n + 2) + 2) (k + 1) := by
  obtain ⟨a, b, c⟩ := ok_all h
  refine ⟨Sh.lst (a.mono (Nat.mul_le_mul_right _ hl) (Nat.le_refl _)), ?_, nofun⟩
  show (PyData.canLayAll0 (pdL ys) && decide (PyData.depthAll (pdL ys) + 1 ≤ 64)) = true
  rw [b, decide_eq_true (by omega)]; rfl
theorem all3 {Q : D → Prop} {a b c : D} (h1 : Q a) (h2 : Q b) (h3 : Q c) : ∀ y ∈ [a, b, c], Q y := fun y hy => by
  simp only [List.mem_cons, List.not_mem_nil, or_false] at hy
  rcases hy with rfl | rfl | rfl <;> assumption
end LW
namespace LW
open PySem L2 C8 PySem.Spec PyProof.Rows VS
end LW
namespace LW
open PySem L2 C8 PySem.Spec PyProof.Rows VS
/-! ### names -/
def lcN (n : Nat) : Bool := decide (n ∈ ("abcdefghijklmnopqrstuvwxyz" : Str).cps.toList)
def lcs (x : Str) : Bool := x.cps.toList.all lcN
def nmB (x : Str) : Bool := (decide (1 ≤ (x.length : Int)) && decide ((x.length : Int) ≤ 8)) && lcs x
def p_is_name (K : PySem.W.Frag) : Pt := fun ds S G _ => ∃ d, ds = [d] ∧ ((∃ x : Str, d = .str x ∧ x.length ≤ 100000 ∧ G (.bl (nmB x)) S) ∨ ∃ t, OfC K S d t ∧ PySem.W.kitOne K t (.type "str") = some false ∧ G (.bl false) S)
theorem lcN_iff {n : Nat} : lcN n = true ↔ 97 ≤ n ∧ n ≤ 122 := by
  unfold lcN
  rw [decide_eq_true_eq]
  have e : ("abcdefghijklmnopqrstuvwxyz" : Str).cps.toList = [97, 98, 99, 100, 101, 102, 103, 104, 105, 106, 107, 108, 109, 110, 111, 112, 113, 114, 115, 116, 117, 118, 119, 120, 121, 122] := by decide +kernel
  rw [e]
  simp only [List.mem_cons, List.not_mem_nil, or_false]
  omega
theorem sum_le {n : Nat} : ∀ {ys : List Str}, (∀ y ∈ ys, y.length ≤ n) → (ys.map (·.length)).sum ≤ n * ys.length
  | [], _ => Nat.zero_le _
  | y :: ys, h => by
    have a := h y (.head _)
    have b := sum_le fun z hz => h z (.tail _ hz)
    rw [List.map_cons, List.sum_cons, List.length_cons, Nat.mul_succ]
    omega
/-- a word: small letters alone -/
def Lw (n : Nat) (z : Str) : Prop := z.length ≤ n ∧ ∀ c ∈ z.cps.toList, lcN c = true
theorem Lw.asc {n : Nat} {z : Str} (h : Lw n z) : Asc n z := ⟨h.1, fun c hc => by have := (lcN_iff.mp (h.2 c hc)).2; omega⟩
theorem Lw.mono {n m : Nat} {z : Str} (h : Lw n z) (l : n ≤ m) : Lw m z := ⟨Nat.le_trans h.1 l, h.2⟩
theorem Lw.add {n m : Nat} {x y : Str} (h : Lw n x) (k : Lw m y) : Lw (n + m) (x ++ y) := by
  refine ⟨by rw [len_add]; exact Nat.add_le_add h.1 k.1, fun c hc => ?_⟩
  rw [tl_add] at hc
  exact (List.mem_append.mp hc).elim (h.2 c) (k.2 c)
theorem Lw.cut {n : Nat} {x : Str} (h : Lw n x) (lo hi : Option Int) : Lw n (cutS x lo hi) := by
  refine ⟨Nat.le_trans (cutS_length x lo hi) h.1, fun c hc => h.2 c ?_⟩
  have hc' : c ∈ (x.cps.toList.drop (HT.sIx x.length 0 lo)).take (HT.sIx x.length x.length hi - HT.sIx x.length 0 lo) := hc
  exact List.mem_of_mem_drop (List.mem_of_mem_take hc')
theorem Lw.join0 {n : Nat} {ys : List Str} (h : ∀ y ∈ ys, Lw 1 y) (hl : ys.length ≤ n) : Lw n (Txt.join ("" : Str) ys) := by
  refine ⟨(Asc.join0 (fun y hy => (h y hy).asc) hl).1, fun c hc => ?_⟩
  rw [tl_join0] at hc
  obtain ⟨l, hl1, hl2⟩ := List.mem_flatten.mp hc
  obtain ⟨y, hy, rfl⟩ := List.mem_map.mp hl1
  exact (h y hy).2 c hl2
theorem Lw.one {n : Nat} (h : lcN n = true) : Lw 1 ⟨#[n]⟩ := ⟨Nat.le_refl _, fun c hc => by
  have : c = n := by simpa using hc
  rw [this]; exact h⟩
theorem Lw.lit {n : Nat} {z : Str} (h : (decide (z.length ≤ n) && z.cps.toList.all lcN) = true) : Lw n z := by
  rw [Bool.and_eq_true, decide_eq_true_eq, List.all_eq_true] at h
  exact ⟨h.1, fun c hc => h.2 c hc⟩
/-- a good name -/
def Nm (z : Str) : Prop := Lw 8 z ∧ 1 ≤ z.length
theorem Nm.ok {z : Str} (h : Nm z) : nmB z = true := by
  unfold nmB lcs
  rw [decide_eq_true (by have := h.2; omega), decide_eq_true (by have := h.1.1; omega), List.all_eq_true.mpr h.1.2]
  rfl
theorem lett_at {i : Int} (h0 : 0 ≤ i) (h1 : i < 26) : ∃ n, atI ("abcdefghijklmnopqrstuvwxyz" : Str).cps.toList i = some n ∧ lcN n = true := by
  obtain ⟨n, hn, e⟩ := atI_mem (xs := ("abcdefghijklmnopqrstuvwxyz" : Str).cps.toList) h0 (by rw [show ("abcdefghijklmnopqrstuvwxyz" : Str).cps.toList.length = 26 from by decide +kernel]; exact h1)
  exact ⟨n, e, decide_eq_true hn⟩
def lcD : D → D
  | .str y => .bl (lcN (y.cps.toList.headD 0))
  | _ => .non
theorem lcD_signs (x : Str) : (signsD x).map lcD = (x.cps.toList.map lcN).map D.bl := by
  unfold signsD
  rw [List.map_map, List.map_map]
  rfl
theorem lcs_all (x : Str) : (x.cps.toList.map lcN).all id = lcs x := by
  unfold lcs
  rw [List.all_map]
  rfl
theorem name_ok {K : PySem.W.Frag} {x : Str} {S : Sto} {G : D → Sto → Prop} {Y : Addr → List (Str × D) → Sto → Prop} (h : nmB x = true) (hl : x.length ≤ 100000) (q : G (.bl true) S) : p_is_name K [.str x] S G Y :=
  ⟨_, rfl, .inl ⟨x, rfl, hl, by rw [h]; exact q⟩⟩
section
variable {P : Program} {w : World} {K : PySem.W.Frag} {mg : Str → Option Value} {base : Heap}
theorem ok_is_name {f : Addr} {fd : FuncData} {C_Sides C_Parcel C_Heap C_NoNumber C_NoSide : Addr}
    (F : Fd K "is_name" "is_name" s_is_name [] f fd) (T : Tx K mg) (hsys : SysOk base) :
    FnG P w K mg base (L2.CX P w) 1 f fd a_is_name (spOf K (p_is_name K)) := by
  refine fn_val F sc_is_name (fun ds S G Y h => ?_) (fun cdv A hgd outer s H E hr px tk po ds S G Y h => ?_)
  · obtain ⟨d, rfl, _⟩ := h
    rfl
  · obtain ⟨d, rfl, h⟩ := h
    refine ⟨_, (pss_cons (ps_if (PW.pt (pw_or (pt_not (pt_val (pe_callB c_isiZ (by rfl) T.b_isinstance (by decide +kernel) (pa_cons (pv 0) (pa_cons (pe_bltn (v := .ty "str") (by rfl) T.b_str (by decide +kernel) rfl) pa_nil))))) (pw_or1 (pt_not (pt_chain op_le op_le pe_int (pe_callB c_len (by rfl) T.b_len (by decide +kernel) (pa_cons (pv 0) pa_nil)) pe_int))))) (pss_one (ps_ret pe_bl))
      pss_nil)
      (pss_one (ps_ret (pe_callB (cr_all rfl) (by rfl) T.b_all (by decide +kernel) (pa_cons (pe_lc (own := [("sign", 1)]) rfl sc_is_name.nd (pi_str (pv 0)) (blkOk_by (own := [("sign", 1)]) (N := n_is_name) (sc := defScope s_is_name) (by decide +kernel)) (fun _ _ _ _ _ => (pg_name (i := 1) sc_is_name.nd rfl (Or.inl rfl))) (fun _ _ _ _ _ => pts_nil) (fun _ _ _ _ _ => (pe_cmpR op_inStr (pv 1) (pe_gc (by rfl) T.c_LETTERS) (by rfl)))) pa_nil))))), ?_⟩
    (try dsimp only [cxOf, List.map])
    show VX _ _ [_, _] _ _
    walk_at "ga"
    rcases h with ⟨x, rfl, hl, q⟩ | ⟨t, ot, kt, q⟩
    · walk_at "ga"
      have no : ¬ (1 ≤ (x.length : Int) ∧ (x.length : Int) ≤ 8) → nmB x = false := fun z => by
        unfold nmB
        by_cases z1 : 1 ≤ (x.length : Int)
        · by_cases z2 : (x.length : Int) ≤ 8
          · exact absurd ⟨z1, z2⟩ z
          · rw [decide_eq_false z2, Bool.and_false, Bool.false_and]
        · rw [decide_eq_false z1, Bool.false_and, Bool.false_and]
      refine br (fun h1 => ?_) (fun h1 => ?_)
      · walk_at "ga"
        refine brN (fun h2 => ?_) (fun h2 => ?_)
        · walk_at "ga"
          rw [no (fun z => h2 z.2)] at q
          exact q
        · walk_at "ga"
          refine ve_lcM lcD (vi_str ?_)
          walk_at "ga"
          refine ⟨by unfold signsD; rw [List.length_map]; show x.cps.size ≤ 100000; exact hl, fun d hd => ?_, ?_⟩
          · obtain ⟨n, _, rfl⟩ := List.mem_map.mp hd
            walk_at "ga"
            refine ⟨rfl, ?_⟩
            walk_at "ga"
            exact ⟨rfl, rfl⟩
          · rw [lcD_signs]
            walk_at "ga"
            refine rc_all (bs := x.cps.toList.map lcN) .v ?_
            walk_at "ga"
            rw [lcs_all]
            have e : nmB x = lcs x := by
              unfold nmB
              rw [decide_eq_true h1, decide_eq_true h2, Bool.true_and, Bool.true_and]
            rw [← e]
            exact q
      · walk_at "ga"
        rw [no (fun z => h1 z.1)] at q
        exact q
    · refine rc_isiP ot kt ?_
      walk_at "ga"
      exact q
end
end LW
namespace LW
open PySem L2 C8 PySem.Spec PyProof.Rows VS
/-! ### parcels by value, well made -/
def labs : List Str := ["alone", "top", "upright"]
/-- good labels -/
structure Mk (ms : List Str) : Prop where
  l : ms.length ≤ 3
  e : ∀ m ∈ ms, m ∈ labs
  n : ms.Nodup
def mksOf (ms : List Str) : List Str := labs.filter fun m => decide (m ∈ ms)
def pcD (CP CS : Addr) (nm : Str) (a b c wl wt br : Int) (mk : List Str) : D := .ins CP [("called", .str nm), ("outside", sd CS a b c), ("thick", .int wl), ("heavy", .int wt), ("strong", .int br), ("marks", .lst (mk.map D.str))]
structure Pg (nm : Str) (a b c wl wt br : Int) (mk : List Str) : Prop where
  gn : nmB nm = true
  ln : nm.length ≤ 8
  a : In1 a
  b : In1 b
  c : In1 c
  wl : 1 ≤ wl ∧ wl ≤ 1000
  wt : 0 ≤ wt ∧ wt ≤ 100000
  br : 0 ≤ br ∧ br ≤ 100000
  lb : Mk mk
def p_are_labels : Pt := fun ds S G _ => ∃ ms : List Str, ds = [.lst (ms.map D.str)] ∧ Mk ms ∧ G (.bl true) S
def p_room_in (CS : Addr) : Pt := fun ds S G _ => ∃ a b c w, ds = [sd CS a b c, .int w] ∧ In1 a ∧ In1 b ∧ In1 c ∧ 1 ≤ w ∧ w ≤ 1000 ∧
  (min (min (a - 2 * w) (b - 2 * w)) (c - 2 * w) < 1 → G .non S) ∧ (¬ min (min (a - 2 * w) (b - 2 * w)) (c - 2 * w) < 1 → G (sd CS (a - 2 * w) (b - 2 * w) (c - 2 * w)) S)
def p_Pc_init (CP CS : Addr) : Pt := fun ds S G _ => ∃ y nm a b c wl wt br mk, ds = [.ref y, .str nm, sd CS a b c, .int wl, .int wt, .int br, .lst (mk.map D.str)] ∧ S y = some (.ins CP []) ∧ Pg nm a b c wl wt br mk ∧
  G .non (put S y (pcD CP CS nm a b c wl wt br (mksOf mk)))
def p_Pc_name (CP CS : Addr) : Pt := fun ds S G _ => ∃ nm a b c wl wt br mk, ds = [pcD CP CS nm a b c wl wt br mk] ∧ G (.str nm) S
def p_Pc_sides (CP CS : Addr) : Pt := fun ds S G _ => ∃ nm a b c wl wt br mk, ds = [pcD CP CS nm a b c wl wt br mk] ∧ G (sd CS a b c) S
abbrev noRoom (a b c w : Int) : Prop := min (min (a - 2 * w) (b - 2 * w)) (c - 2 * w) < 1
def p_Pc_room (CP CS : Addr) : Pt := fun ds S G _ => ∃ nm a b c wl wt br mk, ds = [pcD CP CS nm a b c wl wt br mk] ∧ Pg nm a b c wl wt br mk ∧ (noRoom a b c wl → G .non S) ∧ (¬ noRoom a b c wl → G (sd CS (a - 2 * wl) (b - 2 * wl) (c - 2 * wl)) S)
theorem flat_strs : ∀ ms : List Str, (ms.map D.str).all flatD = true
  | [] => rfl
  | m :: ms => by
    rw [List.map_cons, List.all_cons, flat_strs ms]
    rfl
theorem inD_strs {m : Str} (ms : List Str) : inD (.str m) (ms.map D.str) = decide (m ∈ ms) := by
  unfold inD
  rw [List.any_map, Bool.eq_iff_iff, List.any_eq_true, decide_eq_true_eq]
  exact ⟨fun ⟨x, hx, e⟩ => by have e : (x == m) = true := e; rw [← eq_of_beq e]; exact hx, fun h => ⟨m, h, by show (m == m) = true; exact beq_self_eq_true m⟩⟩
theorem Pg.asc {nm : Str} {a b c wl wt br : Int} {mk : List Str} (g : Pg nm a b c wl wt br mk) : Asc 8 nm := by
  refine ⟨g.ln, fun c hc => ?_⟩
  have h := g.gn
  unfold nmB at h
  rw [Bool.and_eq_true] at h
  have h2 := List.all_eq_true.mp h.2 c hc
  have := (lcN_iff.mp h2).2
  omega
theorem labs_in {m : Str} : inD (.str m) [.str "alone", .str "top", .str "upright"] = decide (m ∈ labs) := by
  unfold inD labs
  simp only [List.any_cons, List.any_nil, Bool.or_false, List.mem_cons, List.not_mem_nil, or_false]
  rw [Bool.eq_iff_iff]
  simp only [eqD, Bool.or_eq_true, beq_iff_eq, decide_eq_true_eq]
  exact ⟨fun h => h.imp Eq.symm (·.imp Eq.symm Eq.symm), fun h => h.imp Eq.symm (·.imp Eq.symm Eq.symm)⟩
theorem wh_ok {K : PySem.W.Frag} {i lo hi : Int} (h : lo ≤ i ∧ i ≤ hi) {S : Sto} {G : D → Sto → Prop} {Y : Addr → List (Str × D) → Sto → Prop} (q : G (.bl true) S) : p_is_whole K [.int i, .int lo, .int hi] S G Y :=
  ⟨_, _, lo, hi, rfl, .i i, by rw [whB_of h]; exact q⟩
section
variable {P : Program} {w : World} {K : PySem.W.Frag} {mg : Str → Option Value} {base : Heap}
theorem ok_are_labels {f : Addr} {fd : FuncData} {C_Sides C_Parcel C_Heap C_NoNumber C_NoSide : Addr}
    (F : Fd K "are_labels" "are_labels" s_are_labels [] f fd) (T : Tx K mg) (hsys : SysOk base) :
    FnG P w K mg base (L2.CX P w) 1 f fd a_are_labels (spOf K p_are_labels) := by
  refine fn_val F sc_are_labels (fun ds S G Y h => ?_) (fun cdv A hgd outer s H E hr px tk po ds S G Y h => ?_)
  · obtain ⟨ms, rfl, _⟩ := h
    rfl
  · obtain ⟨ms, rfl, hm, q⟩ := h
    obtain ⟨aL, hL, rL⟩ := T.c_LABELS
    refine ⟨_, (pss_cons (ps_if (pt_cmpR op_isNo (pv 0) pe_non (nomark _)) (pss_one (ps_ret pe_bl))
      pss_nil)
      (pss_cons (ps_if (PW.pt (pw_or (pt_not (pt_val (pe_callB c_isiV (by rfl) T.b_isinstance (by decide +kernel) (pa_cons (pv 0) (pa_cons (pe_tup (pa_cons (pe_bltn (v := .ty "list") (by rfl) T.b_list (by decide +kernel) rfl) (pa_cons (pe_bltn (v := .ty "tuple") (by rfl) T.b_tuple (by decide +kernel) rfl) pa_nil))) pa_nil))))) (pw_or1 (pt_cmpR op_gt (pe_callB c_len (by rfl) T.b_len (by decide +kernel) (pa_cons (pv 0) pa_nil)) (pe_callB c_len (by rfl) T.b_len (by decide +kernel) (pa_cons (pe_kd (by rfl) hL) pa_nil)) (nomark _))))) (pss_one (ps_ret pe_bl))
      pss_nil)
      (pss_cons (ps_if (pt_not (pt_val (pe_callB (cr_all rfl) (by rfl) T.b_all (by decide +kernel) (pa_cons (pe_lc (own := [("word", 1)]) rfl sc_are_labels.nd (pi_list (pv 0)) (blkOk_by (own := [("word", 1)]) (N := n_are_labels) (sc := defScope s_are_labels) (by decide +kernel)) (fun _ _ _ _ _ => (pg_name (i := 1) sc_are_labels.nd rfl (Or.inl rfl))) (fun _ _ _ _ _ => pts_nil) (fun _ _ _ _ _ => (pe_and (pe_callB (kC (K := K) (r := rIsiZ) c_isiZ) (by rfl) T.b_isinstance (by decide +kernel) (pa_cons (pv 1) (pa_cons (pe_bltn (v := .ty "str") (by rfl) T.b_str (by decide +kernel) rfl) pa_nil))) (pe_one (pe_cmpR (kO (K := K) (r := (fun K => rIn K false)) op_in_seq) (pv 1) (pe_kd (by rfl) hL) (by rfl)))))) pa_nil)))) (pss_one (ps_ret pe_bl))
      pss_nil)
      (pss_one (ps_ret (pe_cmpR op_eq (pe_lenS (by rfl) T.b_len (by rfl) T.b_set (pv 0)) (pe_callB c_len (by rfl) T.b_len (by decide +kernel) (pa_cons (pv 0) pa_nil)) (nomark _))))))), ?_⟩
    (try dsimp only [cxOf, List.map])
    show VX _ _ [_, _] _ _
    walk_at "ga"
    refine rc_isiLT (.v (isP_strs ms)) ?_
    walk_at "ga"
    refine br (fun h => ?_) (fun _ => ?_)
    · have := hm.l
      simp only [List.length_map] at h
      have h : (ms.length : Int) > 3 := h
      omega
    walk_at "ga"
    refine ve_lcM (fun _ => .bl true) (vi_list ?_)
    walk_at "ga"
    refine ⟨_, .v, ?_⟩
    have len := hm.l
    refine ⟨by rw [List.length_map]; omega, fun d hd => ?_, ?_⟩
    · obtain ⟨m, hm', rfl⟩ := List.mem_map.mp hd
      have el := hm.e m hm'
      walk_at "ga"
      refine ⟨rfl, ?_⟩
      walk_at "ga"
      refine rv_in .t rfl rfl ?_
      rw [labs_in, decide_eq_true el]
      exact ⟨rfl, rfl⟩
    walk_at "ga"
    refine rc_all (bs := ms.map fun _ => true) (by rw [List.map_map, List.map_map]; exact .v) ?_
    walk_at "ga"
    have al : (ms.map fun _ => true).all id = true := by
      rw [List.all_eq_true]
      intro b hb
      obtain ⟨_, _, rfl⟩ := List.mem_map.mp hb
      rfl
    rw [al]
    walk_at "ga"
    refine ve_lenS ?_
    walk_at "ga"
    refine ⟨ms, .l .v, by omega, ?_⟩
    walk_at "ga"
    rw [unl_nodup hm.n _ (Nat.le_refl _), List.length_map, decide_eq_true rfl]
    exact q
theorem ok_room_in {f : Addr} {fd : FuncData} {C_Sides C_Parcel C_Heap C_NoNumber C_NoSide : Addr} {f_Sides f_Sides_told : Addr} {g_Sides g_Sides_told : FuncData}
    (F : Fd K "room_in" "room_in" s_room_in [] f fd) (T : Tx K mg) (hsys : SysOk base)
    (c_Sides : Kf P w K mg base 3 "Sides" C_Sides "Sides.__init__" s_Sides___init__ [] a_Sides___init__ (p_Sides_init K C_Sides C_NoSide) f_Sides g_Sides)
    (c_Sides_told : Mf P w K mg base 1 C_Sides "told" "Sides.told" s_Sides_told [] a_Sides_told (p_told C_Sides) f_Sides_told g_Sides_told)
    (k_Sides : Kl_Sides K mg C_Sides) :
    FnG P w K mg base (L2.CX P w) 5 f fd a_room_in (spOf K (p_room_in C_Sides)) := by
  have kc_Sides := k_Sides.ins.cl
  have ka_Sides_three := k_Sides.a_three
  refine fn_val F sc_room_in (fun ds S G Y h => ?_) (fun cdv A hgd outer s H E hr px tk po ds S G Y h => ?_)
  · obtain ⟨a, b, c, wl, rfl, _⟩ := h
    rfl
  · obtain ⟨a, b, c, wl, rfl, ha, hb, hc, h1, h2, q1, q2⟩ := h
    refine ⟨_, (pss_cons (ps_asg (pe_lc (own := [("side", 5)]) rfl sc_room_in.nd (pi_tup (pe_mG0 (pv 0) c_Sides_told.cl c_Sides_told.me c_Sides_told.fn hgd (hr.mono (by decide)) c_Sides_told.b .nil VS.pass0)) (blkOk_by (own := [("side", 5)]) (N := n_room_in) (sc := defScope s_room_in) (by decide +kernel)) (fun _ _ _ _ _ => (pg_name (i := 5) sc_room_in.nd rfl (Or.inl rfl))) (fun _ _ _ _ _ => pts_nil) (fun _ _ _ _ _ => (pe_op op_sub (pv 5) (pe_op op_mulW pe_int (pv 1))))) (pg_unl (n := 3) rfl (pgs_cons (pg_name (i := 2) sc_room_in.nd rfl (Or.inl rfl)) (pgs_cons (pg_name (i := 3) sc_room_in.nd rfl (Or.inl rfl)) (pgs_cons (pg_name (i := 4) sc_room_in.nd rfl (Or.inl rfl)) pgs_nil)))))
      (pss_cons (ps_if (pt_cmpR op_lt (pe_callB (c_min3 rfl) (by rfl) T.b_min (by decide +kernel) (pa_cons (pv 2) (pa_cons (pv 3) (pa_cons (pv 4) pa_nil)))) pe_int (nomark _)) (pss_one (ps_ret pe_non))
      pss_nil)
      (pss_one (ps_ret (pe_kG c_Sides.mk_ c_Sides.fn hgd (hr.mono (by decide)) (by rfl) c_Sides.mg  c_Sides.b .nil VS.pass0 (pa_cons (pv 2) (pa_cons (pv 3) (pa_cons (pv 4) pa_nil)))))))), ?_⟩
    (try dsimp only [cxOf, List.map])
    show VX _ _ [_, _, _, _, _, _] _ _
    walk_at "ga"
    refine ve_lcM (fun d => match d with | .int i => .int (i - 2 * wl) | _ => .non) (vi_tup ?_)
    walk_at "ga"
    have step : ∀ i : Int, In1 i → i - 2 * wl < 2 ^ 63 := fun i hi => by unfold In1 at hi; omega
    refine ⟨_, rfl, by show 3 ≤ 100000; decide, all3 ?_ ?_ ?_, ?_⟩
    · walk_at "ga"
      refine ⟨rfl, ?_⟩
      walk_at "ga"
      exact ⟨rfl, rfl⟩
    · walk_at "ga"
      refine ⟨rfl, ?_⟩
      walk_at "ga"
      exact ⟨rfl, rfl⟩
    · walk_at "ga"
      refine ⟨rfl, ?_⟩
      walk_at "ga"
      exact ⟨rfl, rfl⟩
    refine vg_unl .v rfl ?_
    show VGs _ _ [.int (a - 2 * wl), .int (b - 2 * wl), .int (c - 2 * wl)] _ _ _
    walk_at "ga"
    refine rc_min3 ?_
    walk_at "ga"
    refine br (fun h => ?_) (fun h => ?_)
    · walk_at "ga"
      exact q1 h
    · walk_at "ga"
      exact q2 h
theorem ok_Parcel___init__ {f : Addr} {fd : FuncData} {C_Sides C_Parcel C_Heap C_NoNumber C_NoSide : Addr} {f_is_name f_is_whole f_are_labels : Addr} {g_is_name g_is_whole g_are_labels : FuncData}
    (F : Fd K "__init__" "Parcel.__init__" s_Parcel___init__ [.int 1, .int 0, .int 0, .non] f fd) (T : Tx K mg) (hsys : SysOk base)
    (c_is_name : Cf P w K mg base (L2.CX P w) 1 "is_name" s_is_name [] a_is_name (p_is_name K) f_is_name g_is_name)
    (c_is_whole : Cf P w K mg base (L2.CX P w) 1 "is_whole" s_is_whole [] a_is_whole (p_is_whole K) f_is_whole g_is_whole)
    (c_are_labels : Cf P w K mg base (L2.CX P w) 1 "are_labels" s_are_labels [] a_are_labels p_are_labels f_are_labels g_are_labels)
    (k_Sides : Kl_Sides K mg C_Sides)
    (k_Parcel : Kl_Parcel K mg C_Parcel) :
    FnG P w K mg base (L2.CX P w) 3 f fd a_Parcel___init__ (spOf K (p_Pc_init C_Parcel C_Sides)) := by
  have kc_Sides := k_Sides.ins.cl
  have ka_Sides_three := k_Sides.a_three
  have kc_Parcel := k_Parcel.ins.cl
  have ka_Parcel_called := k_Parcel.a_called
  have ka_Parcel_outside := k_Parcel.a_outside
  have ka_Parcel_thick := k_Parcel.a_thick
  have ka_Parcel_heavy := k_Parcel.a_heavy
  have ka_Parcel_strong := k_Parcel.a_strong
  have ka_Parcel_marks := k_Parcel.a_marks
  have ka_Parcel_told := k_Parcel.a_told
  have ka_Parcel_names := k_Parcel.a_names
  refine fn_val F sc_Parcel___init__ (fun ds S G Y h => ?_) (fun cdv A hgd outer s H E hr px tk po ds S G Y h => ?_)
  · obtain ⟨y, nm, a, b, c, wl, wt, br, mk, rfl, _⟩ := h
    rfl
  · obtain ⟨y, nm, a, b, c, wl, wt, br, mk, rfl, hy, g, q⟩ := h
    obtain ⟨aL, hL, rL⟩ := T.c_LABELS
    refine ⟨_, (pss_cons (ps_if (pt_not (pt_val (pe_cG c_is_name.fn hgd (hr.mono (by decide)) (by rfl) c_is_name.mg c_is_name.kp c_is_name.b .nil VS.pass0 (pa_cons (pv 1) pa_nil)))) (pss_one ps_nev)
      pss_nil)
      (pss_cons (ps_if (pt_not (pt_val (pe_callB c_isiZ (by rfl) T.b_isinstance (by decide +kernel) (pa_cons (pv 2) (pa_cons (pe_gc (v := .ref C_Sides) (by rfl) ⟨_, k_Sides.at_, rfl⟩) pa_nil))))) (pss_one ps_nev)
      pss_nil)
      (pss_cons (ps_if (pt_not (pt_val (pe_cG c_is_whole.fn hgd (hr.mono (by decide)) (by rfl) c_is_whole.mg c_is_whole.kp c_is_whole.b .nil VS.pass0 (pa_cons (pv 3) (pa_cons pe_int (pa_cons (pe_gc (by rfl) T.c_MOST_WALL) pa_nil)))))) (pss_one ps_nev)
      pss_nil)
      (pss_cons (ps_for po rfl (pi_tup (pe_tup (pa_cons (pv 4) (pa_cons (pv 5) pa_nil)))) (pg_name (i := 7) sc_Parcel___init__.nd rfl (Or.inl rfl))
      (pss_one (ps_if (pt_not (pt_val (pe_cG c_is_whole.fn hgd (hr.mono (by decide)) (by rfl) c_is_whole.mg c_is_whole.kp c_is_whole.b .nil VS.pass0 (pa_cons (pv 7) (pa_cons pe_int (pa_cons (pe_gc (by rfl) T.c_MOST_WEIGHT) pa_nil)))))) (pss_one ps_nev)
      pss_nil)))
      (pss_cons (ps_if (pt_not (pt_val (pe_cG c_are_labels.fn hgd (hr.mono (by decide)) (by rfl) c_are_labels.mg c_are_labels.kp c_are_labels.b .nil VS.pass0 (pa_cons (pv 6) pa_nil)))) (pss_one ps_nev)
      pss_nil)
      (pss_cons (ps_fld (pv 0) (pv 1) rfl)
      (pss_cons (ps_fld (pv 0) (pv 2) rfl)
      (pss_cons (ps_fld (pv 0) (pv 3) rfl)
      (pss_cons (ps_fld (pv 0) (pv 4) rfl)
      (pss_cons (ps_fld (pv 0) (pv 5) rfl)
      (pss_one (ps_fld (pv 0) (pe_lc (own := [("word", 8)]) rfl sc_Parcel___init__.nd (pi_tup (pe_kd (by rfl) hL)) (blkOk_by (own := [("word", 8)]) (N := n_Parcel___init__) (sc := defScope s_Parcel___init__) (by decide +kernel)) (fun _ _ _ _ _ => (pg_name (i := 8) sc_Parcel___init__.nd rfl (Or.inl rfl))) (fun _ _ _ _ _ => (pts_one (PW.pt (pw_and (pt_cmpR op_notNo (pv 6) pe_non (nomark _)) (pw_and1 (pt_cmpR (kO (K := K) (r := (fun K => rIn K false)) op_in_seq) (pv 8) (pv 6) (by rfl))))))) (fun _ _ _ _ _ => (pv 8))) rfl)))))))))))), ?_⟩
    (try dsimp only [cxOf, List.map])
    show VX _ _ [_, _, _, _, _, _, _, _, _] _ _
    walk_at "ga"
    refine name_ok g.gn (Nat.le_trans g.ln (by decide)) ?_
    walk_at "ga"
    refine wh_ok g.wl ?_
    walk_at "ga"
    refine vx_for (vi_tup ?_)
    walk_at "ga"
    refine ⟨_, rfl, fun i ρ2 S2 => S2 = S ∧ ∃ x, ρ2 = [some (.ref y), some (.str nm), some (sd C_Sides a b c), some (.int wl), some (.int wt), some (.int br), some (.lst (mk.map D.str)), x, none], ⟨rfl, _, rfl⟩, ?_, ?_⟩
    · rintro i d ρ2 S2 hd ⟨rfl, x, rfl⟩
      obtain ⟨n, rfl, hn⟩ : ∃ n, d = .int n ∧ 0 ≤ n ∧ n ≤ 100000 := by
        have := List.mem_of_getElem? hd
        simp only [List.mem_cons, List.not_mem_nil, or_false] at this
        rcases this with rfl | rfl
        · exact ⟨_, rfl, g.wt⟩
        · exact ⟨_, rfl, g.br⟩
      walk_at "ga"
      refine wh_ok hn ?_
      walk_at "ga"
      exact ⟨rfl, _, rfl⟩
    · rintro ρ2 S2 ⟨rfl, x, rfl⟩
      walk_at "ga"
      refine ⟨mk, rfl, g.lb, ?_⟩
      walk_at "ga"
      refine ⟨y, C_Parcel, _, rfl, put_same, kc_Parcel, ka_Parcel_outside, by show 1 < 1000; decide, ?_⟩
      walk_at "ga"
      refine ⟨y, C_Parcel, _, rfl, put_same, kc_Parcel, ka_Parcel_thick, by show 2 < 1000; decide, ?_⟩
      walk_at "ga"
      refine ⟨y, C_Parcel, _, rfl, put_same, kc_Parcel, ka_Parcel_heavy, by show 3 < 1000; decide, ?_⟩
      walk_at "ga"
      refine ⟨y, C_Parcel, _, rfl, put_same, kc_Parcel, ka_Parcel_strong, by show 4 < 1000; decide, ?_⟩
      walk_at "ga"
      simp only [put_put]
      generalize hS : VS.put S2 y _ = S3
      refine ve_lcF (fun d => inD d (mk.map D.str)) id (vi_tup ?_)
      walk_at "ga"
      refine ⟨_, rfl, by show 3 ≤ 100000; decide, all3 ?_ ?_ ?_, ?_⟩
      · walk_at "ga"
        refine rv_in (.l .v) rfl (flat_strs mk) ?_
        walk_at "ga"
        exact ⟨rfl, fun _ => rfl, fun _ => by walk_at "ga"; exact ⟨rfl, rfl⟩⟩
      · walk_at "ga"
        refine rv_in (.l .v) rfl (flat_strs mk) ?_
        walk_at "ga"
        exact ⟨rfl, fun _ => rfl, fun _ => by walk_at "ga"; exact ⟨rfl, rfl⟩⟩
      · walk_at "ga"
        refine rv_in (.l .v) rfl (flat_strs mk) ?_
        walk_at "ga"
        exact ⟨rfl, fun _ => rfl, fun _ => by walk_at "ga"; exact ⟨rfl, rfl⟩⟩
      subst hS
      walk_at "ga"
      refine ⟨y, C_Parcel, _, rfl, put_same, kc_Parcel, ka_Parcel_marks, by show 5 < 1000; decide, ?_⟩
      rw [put_put]
      have e : List.map id (List.filter (fun d => inD d (mk.map D.str)) [D.str "alone", D.str "top", D.str "upright"]) = (mksOf mk).map D.str := by
        rw [List.map_id]
        show (labs.map D.str).filter _ = _
        rw [List.filter_map]
        unfold mksOf
        congr 1
        apply List.filter_congr
        intro m _
        exact inD_strs mk
      rw [e]
      exact q
theorem ok_Parcel_name {f : Addr} {fd : FuncData} {C_Sides C_Parcel C_Heap C_NoNumber C_NoSide : Addr}
    (F : Fd K "name" "Parcel.name" s_Parcel_name [] f fd) (T : Tx K mg) (hsys : SysOk base)
    (k_Parcel : Kl_Parcel K mg C_Parcel)
    (k_Sides : Kl_Sides K mg C_Sides) :
    FnG P w K mg base (L2.CX P w) 1 f fd a_Parcel_name (spOf K (p_Pc_name C_Parcel C_Sides)) := by
  have kc_Parcel := k_Parcel.ins.cl
  have ka_Parcel_called := k_Parcel.a_called
  have ka_Parcel_outside := k_Parcel.a_outside
  have ka_Parcel_thick := k_Parcel.a_thick
  have ka_Parcel_heavy := k_Parcel.a_heavy
  have ka_Parcel_strong := k_Parcel.a_strong
  have ka_Parcel_marks := k_Parcel.a_marks
  have ka_Parcel_told := k_Parcel.a_told
  have ka_Parcel_names := k_Parcel.a_names
  have kc_Sides := k_Sides.ins.cl
  have ka_Sides_three := k_Sides.a_three
  refine fn_val F sc_Parcel_name (fun ds S G Y h => ?_) (fun cdv A hgd outer s H E hr px tk po ds S G Y h => ?_)
  · obtain ⟨nm, a, b, c, wl, wt, br, mk, rfl, _⟩ := h
    rfl
  · obtain ⟨nm, a, b, c, wl, wt, br, mk, rfl, q⟩ := h
    refine ⟨_, (pss_one (ps_ret (pe_fld (pv 0) rfl))), ?_⟩
    (try dsimp only [cxOf, List.map])
    show VX _ _ [_] _ _
    walk_at "ga"
    exact q
theorem ok_Parcel_sides {f : Addr} {fd : FuncData} {C_Sides C_Parcel C_Heap C_NoNumber C_NoSide : Addr}
    (F : Fd K "sides" "Parcel.sides" s_Parcel_sides [] f fd) (T : Tx K mg) (hsys : SysOk base)
    (k_Parcel : Kl_Parcel K mg C_Parcel)
    (k_Sides : Kl_Sides K mg C_Sides) :
    FnG P w K mg base (L2.CX P w) 1 f fd a_Parcel_sides (spOf K (p_Pc_sides C_Parcel C_Sides)) := by
  have kc_Parcel := k_Parcel.ins.cl
  have ka_Parcel_called := k_Parcel.a_called
  have ka_Parcel_outside := k_Parcel.a_outside
  have ka_Parcel_thick := k_Parcel.a_thick
  have ka_Parcel_heavy := k_Parcel.a_heavy
  have ka_Parcel_strong := k_Parcel.a_strong
  have ka_Parcel_marks := k_Parcel.a_marks
  have ka_Parcel_told := k_Parcel.a_told
  have ka_Parcel_names := k_Parcel.a_names
  have kc_Sides := k_Sides.ins.cl
  have ka_Sides_three := k_Sides.a_three
  refine fn_val F sc_Parcel_sides (fun ds S G Y h => ?_) (fun cdv A hgd outer s H E hr px tk po ds S G Y h => ?_)
  · obtain ⟨nm, a, b, c, wl, wt, br, mk, rfl, _⟩ := h
    rfl
  · obtain ⟨nm, a, b, c, wl, wt, br, mk, rfl, q⟩ := h
    refine ⟨_, (pss_one (ps_ret (pe_fld (pv 0) rfl))), ?_⟩
    (try dsimp only [cxOf, List.map])
    show VX _ _ [_] _ _
    walk_at "ga"
    exact q
theorem ok_Parcel_room {f : Addr} {fd : FuncData} {C_Sides C_Parcel C_Heap C_NoNumber C_NoSide : Addr} {f_room_in : Addr} {g_room_in : FuncData}
    (F : Fd K "room" "Parcel.room" s_Parcel_room [] f fd) (T : Tx K mg) (hsys : SysOk base)
    (c_room_in : Cf P w K mg base (L2.CX P w) 5 "room_in" s_room_in [] a_room_in (p_room_in C_Sides) f_room_in g_room_in)
    (k_Parcel : Kl_Parcel K mg C_Parcel)
    (k_Sides : Kl_Sides K mg C_Sides) :
    FnG P w K mg base (L2.CX P w) 6 f fd a_Parcel_room (spOf K (p_Pc_room C_Parcel C_Sides)) := by
  have kc_Parcel := k_Parcel.ins.cl
  have ka_Parcel_called := k_Parcel.a_called
  have ka_Parcel_outside := k_Parcel.a_outside
  have ka_Parcel_thick := k_Parcel.a_thick
  have ka_Parcel_heavy := k_Parcel.a_heavy
  have ka_Parcel_strong := k_Parcel.a_strong
  have ka_Parcel_marks := k_Parcel.a_marks
  have ka_Parcel_told := k_Parcel.a_told
  have ka_Parcel_names := k_Parcel.a_names
  have kc_Sides := k_Sides.ins.cl
  have ka_Sides_three := k_Sides.a_three
  refine fn_val F sc_Parcel_room (fun ds S G Y h => ?_) (fun cdv A hgd outer s H E hr px tk po ds S G Y h => ?_)
  · obtain ⟨nm, a, b, c, wl, wt, br, mk, rfl, _⟩ := h
    rfl
  · obtain ⟨nm, a, b, c, wl, wt, br, mk, rfl, g, q1, q2⟩ := h
    refine ⟨_, (pss_one (ps_ret (pe_cG c_room_in.fn hgd (hr.mono (by decide)) (by rfl) c_room_in.mg c_room_in.kp c_room_in.b .nil VS.pass0 (pa_cons (pe_fld (pv 0) rfl) (pa_cons (pe_fld (pv 0) rfl) pa_nil))))), ?_⟩
    (try dsimp only [cxOf, List.map])
    show VX _ _ [_] _ _
    walk_at "ga"
    exact ⟨a, b, c, wl, rfl, g.a, g.b, g.c, g.wl.1, g.wl.2, q1, q2⟩
end
end LW
namespace LW
open PySem L2 C8 PySem.Spec PyProof.Rows VS
/-! ### a parcel's labels -/
def p_Pc_labels (CP CS : Addr) : Pt := fun ds S G _ => ∃ nm a b c wl wt br mk, ds = [pcD CP CS nm a b c wl wt br mk] ∧ ∀ l, S l = none → G (.ref l) (put S l (.lst (mk.map D.str)))
section
variable {P : Program} {w : World} {K : PySem.W.Frag} {mg : Str → Option Value} {base : Heap}
theorem ok_Parcel_labels {f : Addr} {fd : FuncData} {C_Sides C_Parcel C_Heap C_NoNumber C_NoSide : Addr}
    (F : Fd K "labels" "Parcel.labels" s_Parcel_labels [] f fd) (T : Tx K mg) (hsys : SysOk base)
    (k_Parcel : Kl_Parcel K mg C_Parcel)
    (k_Sides : Kl_Sides K mg C_Sides) :
    FnG P w K mg base (L2.CX P w) 1 f fd a_Parcel_labels (spOf K (p_Pc_labels C_Parcel C_Sides)) := by
  have kc_Parcel := k_Parcel.ins.cl
  have ka_Parcel_called := k_Parcel.a_called
  have ka_Parcel_outside := k_Parcel.a_outside
  have ka_Parcel_thick := k_Parcel.a_thick
  have ka_Parcel_heavy := k_Parcel.a_heavy
  have ka_Parcel_strong := k_Parcel.a_strong
  have ka_Parcel_marks := k_Parcel.a_marks
  have ka_Parcel_told := k_Parcel.a_told
  have ka_Parcel_names := k_Parcel.a_names
  have kc_Sides := k_Sides.ins.cl
  have ka_Sides_three := k_Sides.a_three
  refine fn_val F sc_Parcel_labels (fun ds S G Y h => ?_) (fun cdv A hgd outer s H E hr px tk po ds S G Y h => ?_)
  · obtain ⟨nm, a, b, c, wl, wt, br, mk, rfl, _⟩ := h
    rfl
  · obtain ⟨nm, a, b, c, wl, wt, br, mk, rfl, q⟩ := h
    refine ⟨_, (pss_one (ps_ret (pe_callTy c_list (by rfl) T.b_list (by decide +kernel) (pa_cons (pe_fld (pv 0) rfl) pa_nil)))), ?_⟩
    (try dsimp only [cxOf, List.map])
    show VX _ _ [_] _ _
    walk_at "gr"
    exact rc_listc (.l .v) q
end
end LW
namespace LW
open PySem L2 C8 PySem.Spec PyProof.Rows VS
/-! ### a parcel's numbers -/
def p_Pc_weight (CP CS : Addr) : Pt := fun ds S G _ => ∃ nm a b c wl wt br mk, ds = [pcD CP CS nm a b c wl wt br mk] ∧ G (.int wt) S
def p_Pc_bears (CP CS : Addr) : Pt := fun ds S G _ => ∃ nm a b c wl wt br mk, ds = [pcD CP CS nm a b c wl wt br mk] ∧ G (.int br) S
section
variable {P : Program} {w : World} {K : PySem.W.Frag} {mg : Str → Option Value} {base : Heap}
theorem ok_Parcel_weight {f : Addr} {fd : FuncData} {C_Sides C_Parcel C_Heap C_NoNumber C_NoSide : Addr}
    (F : Fd K "weight" "Parcel.weight" s_Parcel_weight [] f fd) (T : Tx K mg) (hsys : SysOk base)
    (k_Parcel : Kl_Parcel K mg C_Parcel)
    (k_Sides : Kl_Sides K mg C_Sides) :
    FnG P w K mg base (L2.CX P w) 1 f fd a_Parcel_weight (spOf K (p_Pc_weight C_Parcel C_Sides)) := by
  have kc_Parcel := k_Parcel.ins.cl
  have ka_Parcel_called := k_Parcel.a_called
  have ka_Parcel_outside := k_Parcel.a_outside
  have ka_Parcel_thick := k_Parcel.a_thick
  have ka_Parcel_heavy := k_Parcel.a_heavy
  have ka_Parcel_strong := k_Parcel.a_strong
  have ka_Parcel_marks := k_Parcel.a_marks
  have ka_Parcel_told := k_Parcel.a_told
  have ka_Parcel_names := k_Parcel.a_names
  have kc_Sides := k_Sides.ins.cl
  have ka_Sides_three := k_Sides.a_three
  refine fn_val F sc_Parcel_weight (fun ds S G Y h => ?_) (fun cdv A hgd outer s H E hr px tk po ds S G Y h => ?_)
  · obtain ⟨nm, a, b, c, wl, wt, br, mk, rfl, _⟩ := h
    rfl
  · obtain ⟨nm, a, b, c, wl, wt, br, mk, rfl, q⟩ := h
    refine ⟨_, (pss_one (ps_ret (pe_fld (pv 0) rfl))), ?_⟩
    (try dsimp only [cxOf, List.map])
    show VX _ _ [_] _ _
    walk_at "ga"
    exact q
theorem ok_Parcel_bears {f : Addr} {fd : FuncData} {C_Sides C_Parcel C_Heap C_NoNumber C_NoSide : Addr}
    (F : Fd K "bears" "Parcel.bears" s_Parcel_bears [] f fd) (T : Tx K mg) (hsys : SysOk base)
    (k_Parcel : Kl_Parcel K mg C_Parcel)
    (k_Sides : Kl_Sides K mg C_Sides) :
    FnG P w K mg base (L2.CX P w) 1 f fd a_Parcel_bears (spOf K (p_Pc_bears C_Parcel C_Sides)) := by
  have kc_Parcel := k_Parcel.ins.cl
  have ka_Parcel_called := k_Parcel.a_called
  have ka_Parcel_outside := k_Parcel.a_outside
  have ka_Parcel_thick := k_Parcel.a_thick
  have ka_Parcel_heavy := k_Parcel.a_heavy
  have ka_Parcel_strong := k_Parcel.a_strong
  have ka_Parcel_marks := k_Parcel.a_marks
  have ka_Parcel_told := k_Parcel.a_told
  have ka_Parcel_names := k_Parcel.a_names
  have kc_Sides := k_Sides.ins.cl
  have ka_Sides_three := k_Sides.a_three
  refine fn_val F sc_Parcel_bears (fun ds S G Y h => ?_) (fun cdv A hgd outer s H E hr px tk po ds S G Y h => ?_)
  · obtain ⟨nm, a, b, c, wl, wt, br, mk, rfl, _⟩ := h
    rfl
  · obtain ⟨nm, a, b, c, wl, wt, br, mk, rfl, q⟩ := h
    refine ⟨_, (pss_one (ps_ret (pe_fld (pv 0) rfl))), ?_⟩
    (try dsimp only [cxOf, List.map])
    show VX _ _ [_] _ _
    walk_at "ga"
    exact q
end
end LW
namespace LW
open PySem L2 C8 PySem.Spec PyProof.Rows VS
/-! ### heaps, known by reference -/
structure Pc where
  of ::
  nm : Str
  a : Int
  b : Int
  c : Int
  wl : Int
  wt : Int
  br : Int
  mk : List Str
def Pc.d (CP CS : Addr) (p : Pc) : D := pcD CP CS p.nm p.a p.b p.c p.wl p.wt p.br p.mk
def Pc.g (p : Pc) : Prop := Pg p.nm p.a p.b p.c p.wl p.wt p.br p.mk
/-- parcels that stand in a heap -/
structure Hps (ps : List Pc) : Prop where
  g : ∀ p ∈ ps, p.g
  n : (ps.map Pc.nm).Nodup
  l : ps.length ≤ 12
def HpS (S : Sto) (CH CP CS h l : Addr) (ps : List Pc) : Prop := S h = some (.ins CH [("held", .ref l)]) ∧ S l = some (.lst (ps.map (Pc.d CP CS)))
/-- p is the first one of its name -/
def Frs (ps : List Pc) (i : Nat) (p : Pc) : Prop := ps[i]? = some p ∧ ∀ j q, j < i → ps[j]? = some q → q.nm ≠ p.nm
theorem HpS.ext {S S' : Sto} {CH CP CS h l : Addr} {ps : List Pc} (x : HpS S CH CP CS h l ps) (e : Ext S S') : HpS S' CH CP CS h l ps := ⟨e _ _ x.1, e _ _ x.2⟩
theorem HpS.ne {S : Sto} {CH CP CS h l : Addr} {ps : List Pc} (x : HpS S CH CP CS h l ps) : h ≠ l := fun z => by
  have := x.1
  rw [z, x.2] at this
  cases this
theorem HpS.wr {S : Sto} {CH CP CS h l a : Addr} {ps : List Pc} {d : D} (x : HpS S CH CP CS h l ps) (n1 : h ≠ a) (n2 : l ≠ a) : HpS (VS.put S a d) CH CP CS h l ps := ⟨(put_ne n1).trans x.1, (put_ne n2).trans x.2⟩
theorem HpS.set {S : Sto} {CH CP CS h l : Addr} {ps qs : List Pc} (x : HpS S CH CP CS h l ps) : HpS (VS.put S l (.lst (qs.map (Pc.d CP CS)))) CH CP CS h l qs := ⟨(put_ne x.ne).trans x.1, put_same⟩
theorem Hps.frs {ps : List Pc} (h : (ps.map Pc.nm).Nodup) {i : Nat} {p : Pc} (e : ps[i]? = some p) : Frs ps i p := by
  refine ⟨e, fun j q hj hq en => ?_⟩
  have hi : i < ps.length := (List.getElem?_eq_some_iff.mp e).1
  have e1 : (ps.map Pc.nm)[i]? = some p.nm := by rw [List.getElem?_map, e]; rfl
  have e2 : (ps.map Pc.nm)[j]? = some p.nm := by rw [List.getElem?_map, hq]; exact congrArg some en
  have hi' : i < (ps.map Pc.nm).length := by rw [List.length_map]; exact hi
  have := (List.getElem?_inj hi' h).mp (e1.trans e2.symm)
  omega
theorem Hps.erase {ps : List Pc} (h : Hps ps) (i : Nat) : Hps (ps.eraseIdx i) := by
  refine ⟨fun p hp => h.g p (List.mem_of_mem_eraseIdx hp), ?_, Nat.le_trans (List.length_eraseIdx_le ..) h.l⟩
  exact h.n.sublist ((List.eraseIdx_sublist ..).map _)
theorem map_erase {α β : Type} (f : α → β) : ∀ (xs : List α) (i : Nat), (xs.eraseIdx i).map f = (xs.map f).eraseIdx i
  | [], _ => rfl
  | x :: xs, 0 => rfl
  | x :: xs, i + 1 => by
    show f x :: (xs.eraseIdx i).map f = f x :: (xs.map f).eraseIdx i
    rw [map_erase f xs i]
def p_Hp_init (CH : Addr) : Pt := fun ds S G _ => ∃ y, ds = [.ref y] ∧ S y = some (.ins CH []) ∧ ∀ l, S l = none → G .non (put (put S l (.lst [])) y (.ins CH [("held", .ref l)]))
def p_Hp_names (CH CP CS : Addr) : Pt := fun ds S G _ => ∃ h l ps, ds = [.ref h] ∧ HpS S CH CP CS h l ps ∧ ps.length ≤ 12 ∧ G (.lst ((ps.map Pc.nm).map D.str)) S
def p_Hp_place (CH CP CS : Addr) : Pt := fun ds S G _ => ∃ (h l : Addr) (ps : List Pc) (i : Nat) (p : Pc), ds = [.ref h, .str p.nm] ∧ HpS S CH CP CS h l ps ∧ ps.length ≤ 12 ∧ Frs ps i p ∧ G (.int i) S
def p_Hp_out (CH CP CS : Addr) : Pt := fun ds S G _ => ∃ (h l : Addr) (ps : List Pc) (i : Nat) (p : Pc), ds = [.ref h, .str p.nm] ∧ HpS S CH CP CS h l ps ∧ ps.length ≤ 12 ∧ Frs ps i p ∧ G (p.d CP CS) (put S l (.lst ((ps.eraseIdx i).map (Pc.d CP CS))))
def p_Hp_put (CH CP CS : Addr) : Pt := fun ds S G _ => ∃ (h l : Addr) (ps : List Pc) (p : Pc), ds = [.ref h, p.d CP CS, .non] ∧ HpS S CH CP CS h l ps ∧ ps.length < 12 ∧ p.nm ∉ ps.map Pc.nm ∧ G .non (put S l (.lst ((ps ++ [p]).map (Pc.d CP CS))))
/-- a heap made, known by reference -/
theorem ve_mkHp {c : VS.Ctx} {ρ : Rho} {S : Sto} {F : D → Sto → Prop} {t : TA} {E : L2.St → XK} {CH : Addr}
    (h : VA c t ρ S fun ds S1 => ds = [] ∧ ∀ h l S2, S1 h = none → S1 l = none → Ext S1 S2 → S2 h = some (.ins CH [("held", .ref l)]) → S2 l = some (.lst []) → F (.ref h) S2) : VE c (tMakeE CH (spOf c.K (p_Hp_init CH)) [] E t) ρ S F :=
  ve_mk (dds := []) XOk.none (fun _ _ => .nil) (h.imp fun ds S1 ⟨e, q⟩ y hy => by
    subst e
    refine ⟨y, rfl, put_same, fun l hl => ⟨rfl, ?_⟩⟩
    have ne : l ≠ y := fun z => by subst z; rw [put_same] at hl; cases hl
    rw [put_ne ne] at hl
    refine q y l _ hy hl (fun a d ha => ?_) put_same ((put_ne ne).trans put_same)
    have n1 : a ≠ y := fun z => by subst z; rw [hy] at ha; cases ha
    have n2 : a ≠ l := fun z => by subst z; rw [hl] at ha; cases ha
    rw [put_ne n1, put_ne n2, put_ne n1]
    exact ha)
section
variable {P : Program} {w : World} {K : PySem.W.Frag} {mg : Str → Option Value} {base : Heap}
theorem ok_Heap___init__ {f : Addr} {fd : FuncData} {C_Sides C_Parcel C_Heap C_NoNumber C_NoSide : Addr}
    (F : Fd K "__init__" "Heap.__init__" s_Heap___init__ [] f fd) (T : Tx K mg) (hsys : SysOk base)
    (k_Heap : Kl_Heap K mg C_Heap) :
    FnG P w K mg base (L2.CX P w) 1 f fd a_Heap___init__ (spOf K (p_Hp_init C_Heap)) := by
  have kc_Heap := k_Heap.ins.cl
  have ka_Heap_held := k_Heap.a_held
  have ka_Heap_told := k_Heap.a_told
  have ka_Heap_kind := k_Heap.a_kind
  refine fn_val F sc_Heap___init__ (fun ds S G Y h => ?_) (fun cdv A hgd outer s H E hr px tk po ds S G Y h => ?_)
  · obtain ⟨y, rfl, _⟩ := h
    rfl
  · obtain ⟨y, rfl, hy, q⟩ := h
    refine ⟨_, (pss_one (ps_fld (pv 0) (pe_lst pa_nil) rfl)), ?_⟩
    (try dsimp only [cxOf, List.map])
    show VX _ _ [_] _ _
    walk_at "gr"
    refine ve_lstc ?_
    walk_at "gr"
    intro l hl
    have hy2 : VS.put S l (.lst []) y = some (.ins C_Heap []) := by rw [put_ne (ne_at hy hl)]; exact hy
    walk_at "gr"
    exact q l hl
theorem ok_Heap_names {f : Addr} {fd : FuncData} {C_Sides C_Parcel C_Heap C_NoNumber C_NoSide : Addr} {f_Parcel_name : Addr} {g_Parcel_name : FuncData}
    (F : Fd K "names" "Heap.names" s_Heap_names [] f fd) (T : Tx K mg) (hsys : SysOk base)
    (c_Parcel_name : Mf P w K mg base 1 C_Parcel "name" "Parcel.name" s_Parcel_name [] a_Parcel_name (p_Pc_name C_Parcel C_Sides) f_Parcel_name g_Parcel_name)
    (k_Heap : Kl_Heap K mg C_Heap)
    (k_Parcel : Kl_Parcel K mg C_Parcel)
    (k_Sides : Kl_Sides K mg C_Sides) :
    FnG P w K mg base (L2.CX P w) 2 f fd a_Heap_names (spOf K (p_Hp_names C_Heap C_Parcel C_Sides)) := by
  have kc_Heap := k_Heap.ins.cl
  have ka_Heap_held := k_Heap.a_held
  have ka_Heap_told := k_Heap.a_told
  have ka_Heap_kind := k_Heap.a_kind
  have kc_Parcel := k_Parcel.ins.cl
  have ka_Parcel_called := k_Parcel.a_called
  have ka_Parcel_outside := k_Parcel.a_outside
  have ka_Parcel_thick := k_Parcel.a_thick
  have ka_Parcel_heavy := k_Parcel.a_heavy
  have ka_Parcel_strong := k_Parcel.a_strong
  have ka_Parcel_marks := k_Parcel.a_marks
  have ka_Parcel_told := k_Parcel.a_told
  have ka_Parcel_names := k_Parcel.a_names
  have kc_Sides := k_Sides.ins.cl
  have ka_Sides_three := k_Sides.a_three
  refine fn_val F sc_Heap_names (fun ds S G Y h => ?_) (fun cdv A hgd outer s H E hr px tk po ds S G Y h => ?_)
  · obtain ⟨hh, l, ps, rfl, _⟩ := h
    rfl
  · obtain ⟨hh, l, ps, rfl, ⟨h1, h2⟩, hl, q⟩ := h
    refine ⟨_, (pss_one (ps_ret (pe_lc (own := [("parcel", 1)]) rfl sc_Heap_names.nd (pi_list (pe_fld (pv 0) rfl)) (blkOk_by (own := [("parcel", 1)]) (N := n_Heap_names) (sc := defScope s_Heap_names) (by decide +kernel)) (fun _ _ _ _ _ => (pg_name (i := 1) sc_Heap_names.nd rfl (Or.inl rfl))) (fun _ _ _ _ _ => pts_nil) (fun _ _ _ _ _ => (pe_mG0 (pv 1) c_Parcel_name.cl c_Parcel_name.me c_Parcel_name.fn hgd (hr.mono (by decide)) c_Parcel_name.b .nil VS.pass0))))), ?_⟩
    (try dsimp only [cxOf, List.map])
    show VX _ _ [_, _] _ _
    walk_at "gr"
    have ne : hh ≠ l := HpS.ne ⟨h1, h2⟩
    have h3 : (VS.del S l) hh = some (.ins C_Heap [("held", .ref l)]) := by rw [VS.del_ne ne]; exact h1
    refine ve_lcCellE (l := l) ?_ h2 (by rw [List.length_map]; omega) (fun i acc S2 => acc = ((ps.map Pc.nm).map D.str).take i ∧ S2 = VS.del S l) ⟨rfl, rfl⟩ (fun i d acc S2 hd hw _ => ?_) ?_
    · walk_at "gr"
      exact ⟨rfl, rfl⟩
    · obtain ⟨rfl, rfl⟩ := hw
      rw [List.getElem?_map] at hd
      cases e : ps[i]? with
      | none => rw [e] at hd; cases hd
      | some p =>
        rw [e] at hd
        cases hd
        walk_at "gr"
        refine ⟨p.nm, p.a, p.b, p.c, p.wl, p.wt, p.br, p.mk, rfl, ?_, rfl⟩
        rw [List.take_succ]
        congr 1
        rw [List.getElem?_map, List.getElem?_map, e]
        rfl
    · rintro acc S2 ⟨rfl, rfl⟩ _
      rw [put_back h2]
      rw [List.take_of_length_le (by simp)]
      exact q
theorem ok_Heap_place_of {f : Addr} {fd : FuncData} {C_Sides C_Parcel C_Heap C_NoNumber C_NoSide : Addr} {f_Parcel_name : Addr} {g_Parcel_name : FuncData}
    (F : Fd K "place_of" "Heap.place_of" s_Heap_place_of [] f fd) (T : Tx K mg) (hsys : SysOk base)
    (c_Parcel_name : Mf P w K mg base 1 C_Parcel "name" "Parcel.name" s_Parcel_name [] a_Parcel_name (p_Pc_name C_Parcel C_Sides) f_Parcel_name g_Parcel_name)
    (k_Heap : Kl_Heap K mg C_Heap)
    (k_Parcel : Kl_Parcel K mg C_Parcel)
    (k_Sides : Kl_Sides K mg C_Sides) :
    FnG P w K mg base (L2.CX P w) 2 f fd a_Heap_place_of (spOf K (p_Hp_place C_Heap C_Parcel C_Sides)) := by
  have kc_Heap := k_Heap.ins.cl
  have ka_Heap_held := k_Heap.a_held
  have ka_Heap_told := k_Heap.a_told
  have ka_Heap_kind := k_Heap.a_kind
  have kc_Parcel := k_Parcel.ins.cl
  have ka_Parcel_called := k_Parcel.a_called
  have ka_Parcel_outside := k_Parcel.a_outside
  have ka_Parcel_thick := k_Parcel.a_thick
  have ka_Parcel_heavy := k_Parcel.a_heavy
  have ka_Parcel_strong := k_Parcel.a_strong
  have ka_Parcel_marks := k_Parcel.a_marks
  have ka_Parcel_told := k_Parcel.a_told
  have ka_Parcel_names := k_Parcel.a_names
  have kc_Sides := k_Sides.ins.cl
  have ka_Sides_three := k_Sides.a_three
  refine fn_val F sc_Heap_place_of (fun ds S G Y h => ?_) (fun cdv A hgd outer s H E hr px tk po ds S G Y h => ?_)
  · obtain ⟨hh, l, ps, i, p, rfl, _⟩ := h
    rfl
  · obtain ⟨hh, l, ps, i, p, rfl, ⟨h1, h2⟩, hl, ⟨hi, hf⟩, q⟩ := h
    refine ⟨_, (pss_cons (ps_for po rfl (pi_enum (by rfl) T.b_enumerate (pa_cons (pe_fld (pv 0) rfl) pa_nil)) (pg_tup (n := 2) rfl (pgs_cons (pg_name (i := 2) sc_Heap_place_of.nd rfl (Or.inl rfl)) (pgs_cons (pg_name (i := 3) sc_Heap_place_of.nd rfl (Or.inl rfl)) pgs_nil)))
      (pss_one (ps_if (PW.pt (pw_and (pt_val (pe_callB c_isiZ (by rfl) T.b_isinstance (by decide +kernel) (pa_cons (pv 1) (pa_cons (pe_bltn (v := .ty "str") (by rfl) T.b_str (by decide +kernel) rfl) pa_nil)))) (pw_and1 (pt_cmpR op_eq (pe_mG0 (pv 3) c_Parcel_name.cl c_Parcel_name.me c_Parcel_name.fn hgd (hr.mono (by decide)) c_Parcel_name.b .nil VS.pass0) (pv 1) (nomark _))))) (pss_one (ps_ret (pv 2)))
      pss_nil)))
      (pss_one ps_nev)), ?_⟩
    (try dsimp only [cxOf, List.map])
    show VX _ _ [_, _, _, _] _ _
    walk_at "gr"
    have ne : hh ≠ l := HpS.ne ⟨h1, h2⟩
    have h3 : (VS.del S l) hh = some (.ins C_Heap [("held", .ref l)]) := by rw [VS.del_ne ne]; exact h1
    refine vx_forCellE h2 ?_ (fun k ρ2 S2 => k ≤ i ∧ S2 = VS.del S l ∧ ∃ x2 x3, ρ2 = [some (.ref hh), some (.str p.nm), x2, x3]) ⟨Nat.zero_le _, rfl, _, _, rfl⟩ (fun k d ρ2 S2 hd hw => ?_) (fun ρ2 S2 hw => ?_)
    · walk_at "gr"
      exact ⟨rfl, rfl⟩
    · obtain ⟨hk, rfl, x2, x3, rfl⟩ := hw
      rw [List.getElem?_map] at hd
      cases e : ps[k]? with
      | none => rw [e] at hd; cases hd
      | some r =>
        rw [e] at hd
        cases hd
        walk_at "gr"
        refine ⟨r.nm, r.a, r.b, r.c, r.wl, r.wt, r.br, r.mk, rfl, ?_⟩
        walk_at "gr"
        refine VS.br (fun en => ?_) (fun en => ?_)
        · walk_at "gr"
          have : k = i := by
            have n : ¬ k < i := fun z => hf k r z e en
            omega
          subst this
          rw [put_back h2]
          exact q
        · walk_at "gr"
          refine ⟨?_, rfl, _, _, rfl⟩
          have : k ≠ i := fun z => by
            subst z
            rw [hi] at e
            cases e
            exact en rfl
          omega
    · obtain ⟨hk, rfl, x2, x3, rfl⟩ := hw
      rw [List.length_map] at hk
      have := (List.getElem?_eq_some_iff.mp hi).1
      omega
theorem ok_Heap_out {f : Addr} {fd : FuncData} {C_Sides C_Parcel C_Heap C_NoNumber C_NoSide : Addr} {f_Heap_place_of : Addr} {g_Heap_place_of : FuncData}
    (F : Fd K "out" "Heap.out" s_Heap_out [] f fd) (T : Tx K mg) (hsys : SysOk base)
    (c_Heap_place_of : Mf P w K mg base 2 C_Heap "place_of" "Heap.place_of" s_Heap_place_of [] a_Heap_place_of (p_Hp_place C_Heap C_Parcel C_Sides) f_Heap_place_of g_Heap_place_of)
    (k_Heap : Kl_Heap K mg C_Heap)
    (k_Parcel : Kl_Parcel K mg C_Parcel)
    (k_Sides : Kl_Sides K mg C_Sides) :
    FnG P w K mg base (L2.CX P w) 3 f fd a_Heap_out (spOf K (p_Hp_out C_Heap C_Parcel C_Sides)) := by
  have kc_Heap := k_Heap.ins.cl
  have ka_Heap_held := k_Heap.a_held
  have ka_Heap_told := k_Heap.a_told
  have ka_Heap_kind := k_Heap.a_kind
  have kc_Parcel := k_Parcel.ins.cl
  have ka_Parcel_called := k_Parcel.a_called
  have ka_Parcel_outside := k_Parcel.a_outside
  have ka_Parcel_thick := k_Parcel.a_thick
  have ka_Parcel_heavy := k_Parcel.a_heavy
  have ka_Parcel_strong := k_Parcel.a_strong
  have ka_Parcel_marks := k_Parcel.a_marks
  have ka_Parcel_told := k_Parcel.a_told
  have ka_Parcel_names := k_Parcel.a_names
  have kc_Sides := k_Sides.ins.cl
  have ka_Sides_three := k_Sides.a_three
  refine fn_val F sc_Heap_out (fun ds S G Y h => ?_) (fun cdv A hgd outer s H E hr px tk po ds S G Y h => ?_)
  · obtain ⟨hh, l, ps, i, p, rfl, _⟩ := h
    rfl
  · obtain ⟨hh, l, ps, i, p, rfl, ⟨h1, h2⟩, hl, hf, q⟩ := h
    refine ⟨_, (pss_one (ps_ret (pe_bm PySem.F.plainAttrs_list PySem.F.slot_list_pop PySem.F.type_list_pop mt_popAt (pe_fld (pv 0) rfl) (pa_cons (pe_mG (pv 0) c_Heap_place_of.cl c_Heap_place_of.me c_Heap_place_of.fn hgd (hr.mono (by decide)) c_Heap_place_of.b .nil VS.pass0 (pa_cons (pv 1) pa_nil)) pa_nil)))), ?_⟩
    (try dsimp only [cxOf, List.map])
    show VX _ _ [_, _] _ _
    walk_at "gr"
    refine ⟨hh, l, ps, i, p, rfl, ⟨h1, h2⟩, hl, hf, ?_⟩
    have hi : i < ps.length := (List.getElem?_eq_some_iff.mp hf.1).1
    walk_at "gr"
    exact rm_popAt (j := i) h2 rfl (by omega) (by rw [List.getElem?_map, hf.1]; rfl) (by rw [← map_erase]; exact q)
end
end LW
namespace LW
open PySem L2 C8 PySem.Spec PyProof.Rows VS
/-! ### a parcel put at the end, or ahead of one that is there -/
def p_Hp_putA (CH CP CS : Addr) : Pt := fun ds S G _ => ∃ (h l : Addr) (ps : List Pc) (p : Pc) (i : Nat) (a : D), ds = [.ref h, p.d CP CS, a] ∧ HpS S CH CP CS h l ps ∧ ps.length < 12 ∧ p.nm ∉ ps.map Pc.nm ∧ ((a = .non ∧ i = ps.length) ∨ ∃ q, a = .str q.nm ∧ Frs ps i q) ∧ G .non (put S l (.lst ((ps.take i ++ [p] ++ ps.drop i).map (Pc.d CP CS))))
theorem put_end {CH CP CS : Addr} {ds : List D} {S : Sto} {G : D → Sto → Prop} {Y : Addr → List (Str × D) → Sto → Prop} (h : p_Hp_put CH CP CS ds S G Y) : p_Hp_putA CH CP CS ds S G Y := by
  obtain ⟨h, l, ps, p, rfl, hs, hl, hn, q⟩ := h
  refine ⟨h, l, ps, p, ps.length, .non, rfl, hs, hl, hn, .inl ⟨rfl, rfl⟩, ?_⟩
  rw [List.take_length, List.drop_length, List.append_nil]
  exact q
section
variable {P : Program} {w : World} {K : PySem.W.Frag} {mg : Str → Option Value} {base : Heap}
theorem ok_Heap_put {f : Addr} {fd : FuncData} {C_Sides C_Parcel C_Heap C_NoNumber C_NoSide : Addr} {f_Heap_names f_Parcel_name f_Heap_place_of : Addr} {g_Heap_names g_Parcel_name g_Heap_place_of : FuncData}
    (F : Fd K "put" "Heap.put" s_Heap_put [.non] f fd) (T : Tx K mg) (hsys : SysOk base)
    (c_Heap_names : Mf P w K mg base 2 C_Heap "names" "Heap.names" s_Heap_names [] a_Heap_names (p_Hp_names C_Heap C_Parcel C_Sides) f_Heap_names g_Heap_names)
    (c_Parcel_name : Mf P w K mg base 1 C_Parcel "name" "Parcel.name" s_Parcel_name [] a_Parcel_name (p_Pc_name C_Parcel C_Sides) f_Parcel_name g_Parcel_name)
    (k_Heap : Kl_Heap K mg C_Heap)
    (k_Parcel : Kl_Parcel K mg C_Parcel)
    (k_Sides : Kl_Sides K mg C_Sides)
    (c_Heap_place_of : Mf P w K mg base 2 C_Heap "place_of" "Heap.place_of" s_Heap_place_of [] a_Heap_place_of (p_Hp_place C_Heap C_Parcel C_Sides) f_Heap_place_of g_Heap_place_of) :
    FnG P w K mg base (L2.CX P w) 3 f fd a_Heap_put (spOf K (p_Hp_putA C_Heap C_Parcel C_Sides)) := by
  have kc_Heap := k_Heap.ins.cl
  have ka_Heap_held := k_Heap.a_held
  have ka_Heap_told := k_Heap.a_told
  have ka_Heap_kind := k_Heap.a_kind
  have kc_Parcel := k_Parcel.ins.cl
  have ka_Parcel_called := k_Parcel.a_called
  have ka_Parcel_outside := k_Parcel.a_outside
  have ka_Parcel_thick := k_Parcel.a_thick
  have ka_Parcel_heavy := k_Parcel.a_heavy
  have ka_Parcel_strong := k_Parcel.a_strong
  have ka_Parcel_marks := k_Parcel.a_marks
  have ka_Parcel_told := k_Parcel.a_told
  have ka_Parcel_names := k_Parcel.a_names
  have kc_Sides := k_Sides.ins.cl
  have ka_Sides_three := k_Sides.a_three
  refine fn_val F sc_Heap_put (fun ds S G Y h => ?_) (fun cdv A hgd outer s H E hr px tk po ds S G Y h => ?_)
  · obtain ⟨hh, l, ps, p, i, a, rfl, _⟩ := h
    rfl
  · obtain ⟨hh, l, ps, p, i, a, rfl, ⟨h1, h2⟩, hl, hn, ha, q⟩ := h
    refine ⟨_, (pss_cons (ps_if (pt_not (pt_val (pe_callB c_isiZ (by rfl) T.b_isinstance (by decide +kernel) (pa_cons (pv 1) (pa_cons (pe_gc (v := .ref C_Parcel) (by rfl) ⟨_, k_Parcel.at_, rfl⟩) pa_nil))))) (pss_one ps_nev)
      pss_nil)
      (pss_cons (ps_if (pt_cmpR op_in_seq (pe_mG0 (pv 1) c_Parcel_name.cl c_Parcel_name.me c_Parcel_name.fn hgd (hr.mono (by decide)) c_Parcel_name.b .nil VS.pass0) (pe_mG0 (pv 0) c_Heap_names.cl c_Heap_names.me c_Heap_names.fn hgd (hr.mono (by decide)) c_Heap_names.b .nil VS.pass0) (by rfl)) (pss_one ps_nev)
      pss_nil)
      (pss_cons (ps_set (i := 3) sc_Heap_put.nd rfl (Or.inl rfl) (pe_callB c_len (by rfl) T.b_len (by decide +kernel) (pa_cons (pe_fld (pv 0) rfl) pa_nil)))
      (pss_cons (ps_if (pt_cmpR op_notNo (pv 2) pe_non (nomark _)) (pss_one (ps_set (i := 3) sc_Heap_put.nd rfl (Or.inl rfl) (pe_mG (pv 0) c_Heap_place_of.cl c_Heap_place_of.me c_Heap_place_of.fn hgd (hr.mono (by decide)) c_Heap_place_of.b .nil VS.pass0 (pa_cons (pv 2) pa_nil))))
      pss_nil)
      (pss_cons (ps_if (pt_cmpR op_eq (pe_callB c_len (by rfl) T.b_len (by decide +kernel) (pa_cons (pe_fld (pv 0) rfl) pa_nil)) (pe_gc (by rfl) T.c_MOST_PARCELS) (nomark _)) (pss_one ps_nev)
      pss_nil)
      (pss_one (ps_expr (pe_bm PySem.F.plainAttrs_list PySem.F.slot_list_insert PySem.F.type_list_insert mt_insertV (pe_fld (pv 0) rfl) (pa_cons (pv 3) (pa_cons (pv 1) pa_nil)))))))))), ?_⟩
    (try dsimp only [cxOf, List.map])
    show VX _ _ [_, _, _, _] _ _
    unfold Pc.d
    walk_at "ga"
    refine rc_isiO (.i .v k_Parcel.ins) k_Parcel.ins.me ?_
    walk_at "ga"
    refine ⟨p.nm, p.a, p.b, p.c, p.wl, p.wt, p.br, p.mk, rfl, ?_⟩
    walk_at "ga"
    refine ⟨hh, l, ps, rfl, ⟨h1, h2⟩, by omega, ?_⟩
    refine rv_in (.l .v) rfl (flat_strs _) ?_
    rw [inD_strs, decide_eq_false hn]
    walk_at "ga"
    rcases ha with ⟨rfl, rfl⟩ | ⟨q0, rfl, fr⟩
    · walk_at "ga"
      refine brYn (fun z => by rw [List.length_map] at z; omega) ?_
      walk_at "ga"
      refine rm_insert (n := ps.length) h2 (by rw [List.length_map]) (by rw [List.length_map]; exact Nat.le_refl _) (by rw [List.length_map]; have := szl; omega) ?_
      rw [List.map_append, List.map_append, List.map_take, List.map_drop] at q
      exact q
    · walk_at "ga"
      refine ⟨hh, l, ps, i, q0, rfl, ⟨h1, h2⟩, by omega, fr, ?_⟩
      have hi := (List.getElem?_eq_some_iff.mp fr.1).1
      walk_at "ga"
      refine brYn (fun z => by rw [List.length_map] at z; omega) ?_
      walk_at "ga"
      refine rm_insert (n := i) h2 rfl (by rw [List.length_map]; omega) (by rw [List.length_map]; have := szl; omega) ?_
      rw [List.map_append, List.map_append, List.map_take, List.map_drop] at q
      exact q
end
end LW
namespace LW
open PySem L2 C8 PySem.Spec PyProof.Rows VS
/-! ### the numbers by which a heap is ordered -/
def lonI (p : Pc) : Int := match dn [p.a, p.b, p.c] with
  | u :: _ => u
  | [] => 0
def rmI (p : Pc) : Int := if noRoom p.a p.b p.c p.wl then 0 else (p.a - 2 * p.wl) * (p.b - 2 * p.wl) * (p.c - 2 * p.wl)
def kyW (z : Str) (p : Pc) : PyData := if z = "name" then .str p.nm else if z = "long" then .int (lonI p) else if z = "volume" then .int (p.a * p.b * p.c) else if z = "weight" then .int p.wt else if z = "bears" then .int p.br else .int (rmI p)
/-- the parcels in the order of a word -/
def rkP (b : Bool) (z : Str) (ps : List Pc) : List Pc := ps.mergeSort (PySem.W.dataLe b (kyW z))
/-- a heap whose list is a list, by value or by reference -/
def IsHl (S : Sto) (CH CP CS : Addr) (x : D) (ps : List Pc) : Prop := ∃ d, IsI S x CH [("held", d)] ∧ IsL S d (ps.map (Pc.d CP CS))
theorem IsHl.v {S : Sto} {CH CP CS : Addr} {ps : List Pc} : IsHl S CH CP CS (.ins CH [("held", .lst (ps.map (Pc.d CP CS)))]) ps := ⟨_, .v, .v⟩
theorem IsHl.ext {S S' : Sto} {CH CP CS : Addr} {x : D} {ps : List Pc} (s : IsHl S CH CP CS x ps) (e : Ext S S') : IsHl S' CH CP CS x ps := by
  obtain ⟨d, h1, h2⟩ := s
  refine ⟨d, h1.ext e, ?_⟩
  cases h2 with
  | v => exact .v
  | r => exact .r
  | c h => exact .c (e _ _ h)
theorem rkP_perm (b : Bool) (z : Str) (ps : List Pc) : (rkP b z ps).Perm ps := List.mergeSort_perm ..
local macro_rules | `(tactic| walk_at "ii") => `(tactic| assumption)
end LW
namespace LW
open PySem L2 C8 PySem.Spec PyProof.Rows VS
/-! ### in which ones each parcel goes -/
/-- a heap, by reference or by value, and its parcels -/
def IsHp (S : Sto) (CH CP CS : Addr) (x : D) (ps : List Pc) : Prop := ∃ d, IsI S x CH [("held", d)] ∧ IsQ S d (ps.map (Pc.d CP CS))
theorem HpS.is {S : Sto} {CH CP CS h l : Addr} {ps : List Pc} (s : HpS S CH CP CS h l ps) : IsHp S CH CP CS (.ref h) ps := ⟨.ref l, .c s.1, .l (.c s.2)⟩
theorem IsHp.ext {S S' : Sto} {CH CP CS : Addr} {x : D} {ps : List Pc} (s : IsHp S CH CP CS x ps) (e : Ext S S') : IsHp S' CH CP CS x ps := by
  obtain ⟨d, h1, h2⟩ := s
  refine ⟨d, ?_, ?_⟩
  · cases h1 with
    | v => exact .v
    | c h => exact .c (e _ _ h)
  · cases h2 with
    | t => exact .t
    | l h =>
      cases h with
      | v => exact .l .v
      | r => exact .l .r
      | c h => exact .l (.c (e _ _ h))
theorem IsHp.v {S : Sto} {CH CP CS : Addr} {ps : List Pc} : IsHp S CH CP CS (.ins CH [("held", .lst (ps.map (Pc.d CP CS)))]) ps := ⟨_, .v, .l .v⟩
def p_Hp_parcels (CH CP CS : Addr) : Pt := fun ds S G _ => ∃ x ps, ds = [x] ∧ IsHp S CH CP CS x ps ∧ G (.lst (ps.map (Pc.d CP CS))) S
/-- the ranked sides, falling -/
def rkD (a b c : Int) : D := .tup ((dn [a, b, c]).map D.int)
def shA (p : Pc) : D := if ("alone" : Str) ∈ p.mk then .non else rkD p.a p.b p.c
def shB (p : Pc) : D := if ("alone" : Str) ∈ p.mk then .non else if noRoom p.a p.b p.c p.wl then .non else rkD (p.a - 2 * p.wl) (p.b - 2 * p.wl) (p.c - 2 * p.wl)
def p_shape_of (CP CS : Addr) : Pt := fun ds S G _ => ∃ p : Pc, ds = [p.d CP CS] ∧ p.g ∧ ∀ S', Ext S S' → G (.tup [shA p, shB p]) S'
def shG (x y : D) (sp : Int) : Bool := match x, y with
  | .tup [.int a, .int b, .int c], .tup [.int u, .int v, .int w] => decide (a + sp ≤ u) && (decide (b + sp ≤ v) && decide (c + sp ≤ w))
  | _, _ => false
inductive Shp : D → Prop
  | n : Shp .non
  | t {a b c : Int} : Shp (.tup [.int a, .int b, .int c])
theorem dn3 (a b c : Int) : ∃ u v w, dn [a, b, c] = [u, v, w] := by
  obtain ⟨u, v, w, e, _⟩ := up3 a b c
  exact ⟨w, v, u, by unfold dn; rw [e]; rfl⟩
theorem rk_shp (a b c : Int) : Shp (rkD a b c) := by
  obtain ⟨u, v, w, e⟩ := dn3 a b c
  unfold rkD
  rw [e]
  exact .t
theorem shA_shp (p : Pc) : Shp (shA p) := by unfold shA; split; exact .n; exact rk_shp _ _ _
theorem shB_shp (p : Pc) : Shp (shB p) := by
  unfold shB
  split
  · exact .n
  · split
    · exact .n
    · exact rk_shp _ _ _
def p_shape_goes : Pt := fun ds S G _ => ∃ (x y : D) (sp : Int), ds = [x, y, .int sp] ∧ Shp x ∧ Shp y ∧ G (.bl (shG x y sp)) S
/-- whether one parcel goes in another one, by the ranks -/
def goB (sp : Int) (p q : Pc) : Bool := shG (shA p) (shB q) sp
def goN (sp : Int) (ps : List Pc) (p : Pc) : List Str := (ps.filter (goB sp p)).map Pc.nm
/-- a dict from the names to lists, these by reference -/
def inD2 (ps : List Pc) (as : List Addr) : List (Key × D) := List.zipWith (fun p a => ((.inr p.nm : Key), D.ref a)) ps as
def p_inside (K : PySem.W.Frag) (CH CP CS CN : Addr) : Pt := fun ds S G Y =>
  (∃ (x : D) (sp : Int) (ps : List Pc), ds = [x, .int sp] ∧ IsHp S CH CP CS x ps ∧ Hps ps ∧ 0 ≤ sp ∧ sp ≤ 1000 ∧
    ∀ (d : Addr) (as : List Addr) (S' : Sto), S d = none → as.length = ps.length → as.Nodup → d ∉ as → (∀ a ∈ as, S a = none) → Ext S S' → S' d = some (.dK (inD2 ps as)) → (∀ (i : Nat) (a : Addr) (p : Pc), as[i]? = some a → ps[i]? = some p → S' a = some (.lst ((goN sp ps p).map D.str))) → G (.ref d) S') ∨
  ∃ (x y : D) (o : Option Int), ds = [x, y] ∧ Wh K S y o ∧ whB o 0 1000 = false ∧ Y CN [("found", y)] S
def rowD (p : Pc) : D := .tup [.str p.nm, shA p, shB p]
theorem dkPut_new {ds : List (Key × D)} {k : Key} {d : D} (h : ∀ x ∈ ds, x.1 ≠ k) : dkPut ds k d = ds ++ [(k, d)] := by
  unfold dkPut
  rw [if_neg]
  intro z
  obtain ⟨x, hx, e⟩ := List.any_eq_true.mp z
  exact h x hx (of_decide_eq_true e)
theorem inD2_app {ps : List Pc} {as : List Addr} {p : Pc} {a : Addr} (h : as.length = ps.length) : inD2 (ps ++ [p]) (as ++ [a]) = inD2 ps as ++ [((.inr p.nm : Key), D.ref a)] := by
  unfold inD2
  rw [List.zipWith_append h.symm]
  rfl
theorem inD2_keys : ∀ {ps : List Pc} {as : List Addr}, as.length = ps.length → (inD2 ps as).map Prod.fst = (ps.map Pc.nm).map (.inr : Str → Key)
  | [], [], _ => rfl
  | [], _ :: _, h => by cases h
  | _ :: _, [], h => by cases h
  | p :: ps, a :: as, h => by
    show _ :: (inD2 ps as).map Prod.fst = _ :: _
    rw [inD2_keys (Nat.succ.inj h)]
theorem _root_.VS.Ext.dl {S S' : Sto} {l : Addr} (x : Ext S S') (h : S l = none) : Ext S (VS.del S' l) := fun a d e => by
  have ne : a ≠ l := fun z => by rw [z, h] at e; cases e
  rw [VS.del_ne ne]
  exact x a d e
theorem _root_.VS.Ext.no {S S' : Sto} {l : Addr} (x : Ext S S') (h : S' l = none) : S l = none := by
  cases e : S l with
  | none => rfl
  | some d => rw [x _ _ e] at h; cases h
section
variable {P : Program} {w : World} {K : PySem.W.Frag} {mg : Str → Option Value} {base : Heap}
theorem ok_Heap_parcels {f : Addr} {fd : FuncData} {C_Sides C_Parcel C_Heap C_NoNumber C_NoSide : Addr}
    (F : Fd K "parcels" "Heap.parcels" s_Heap_parcels [] f fd) (T : Tx K mg) (hsys : SysOk base)
    (k_Heap : Kl_Heap K mg C_Heap) :
    FnG P w K mg base (L2.CX P w) 1 f fd a_Heap_parcels (spOf K (p_Hp_parcels C_Heap C_Parcel C_Sides)) := by
  have kc_Heap := k_Heap.ins.cl
  have ka_Heap_held := k_Heap.a_held
  have ka_Heap_told := k_Heap.a_told
  have ka_Heap_kind := k_Heap.a_kind
  refine fn_val F sc_Heap_parcels (fun ds S G Y h => ?_) (fun cdv A hgd outer s H E hr px tk po ds S G Y h => ?_)
  · obtain ⟨x, ps, rfl, _⟩ := h
    rfl
  · obtain ⟨x, ps, rfl, ⟨d, h1, h2⟩, q⟩ := h
    refine ⟨_, (pss_one (ps_ret (pe_callTy c_list (by rfl) T.b_list (by decide +kernel) (pa_cons (pe_fld (pv 0) rfl) pa_nil)))), ?_⟩
    (try dsimp only [cxOf, List.map])
    show VX _ _ [_] _ _
    walk_at "gr"
    refine ⟨_, _, _, h1, kc_Heap, ka_Heap_held, rfl, ?_⟩
    walk_at "gr"
    exact rc_list h2 q
theorem ok_shape_of {f : Addr} {fd : FuncData} {C_Sides C_Parcel C_Heap C_NoNumber C_NoSide : Addr} {f_Parcel_labels f_Parcel_room f_Parcel_sides f_Sides_ranked : Addr} {g_Parcel_labels g_Parcel_room g_Parcel_sides g_Sides_ranked : FuncData}
    (F : Fd K "shape_of" "shape_of" s_shape_of [] f fd) (T : Tx K mg) (hsys : SysOk base)
    (c_Parcel_labels : Mf P w K mg base 1 C_Parcel "labels" "Parcel.labels" s_Parcel_labels [] a_Parcel_labels (p_Pc_labels C_Parcel C_Sides) f_Parcel_labels g_Parcel_labels)
    (c_Parcel_room : Mf P w K mg base 6 C_Parcel "room" "Parcel.room" s_Parcel_room [] a_Parcel_room (p_Pc_room C_Parcel C_Sides) f_Parcel_room g_Parcel_room)
    (c_Parcel_sides : Mf P w K mg base 1 C_Parcel "sides" "Parcel.sides" s_Parcel_sides [] a_Parcel_sides (p_Pc_sides C_Parcel C_Sides) f_Parcel_sides g_Parcel_sides)
    (c_Sides_ranked : Mf P w K mg base 1 C_Sides "ranked" "Sides.ranked" s_Sides_ranked [] a_Sides_ranked (p_ranked C_Sides) f_Sides_ranked g_Sides_ranked)
    (k_Parcel : Kl_Parcel K mg C_Parcel)
    (k_Sides : Kl_Sides K mg C_Sides) :
    FnG P w K mg base (L2.CX P w) 7 f fd a_shape_of (spOf K (p_shape_of C_Parcel C_Sides)) := by
  have kc_Parcel := k_Parcel.ins.cl
  have ka_Parcel_called := k_Parcel.a_called
  have ka_Parcel_outside := k_Parcel.a_outside
  have ka_Parcel_thick := k_Parcel.a_thick
  have ka_Parcel_heavy := k_Parcel.a_heavy
  have ka_Parcel_strong := k_Parcel.a_strong
  have ka_Parcel_marks := k_Parcel.a_marks
  have ka_Parcel_told := k_Parcel.a_told
  have ka_Parcel_names := k_Parcel.a_names
  have kc_Sides := k_Sides.ins.cl
  have ka_Sides_three := k_Sides.a_three
  refine fn_val F sc_shape_of (fun ds S G Y h => ?_) (fun cdv A hgd outer s H E hr px tk po ds S G Y h => ?_)
  · obtain ⟨p, rfl, _⟩ := h
    rfl
  · obtain ⟨p, rfl, g, q⟩ := h
    refine ⟨_, (pss_cons (ps_if (pt_cmpR op_in_seq pe_str (pe_mG0 (pv 0) c_Parcel_labels.cl c_Parcel_labels.me c_Parcel_labels.fn hgd (hr.mono (by decide)) c_Parcel_labels.b .nil VS.pass0) (by rfl)) (pss_one (ps_ret (pe_tup (pa_cons pe_non (pa_cons pe_non pa_nil)))))
      pss_nil)
      (pss_cons (ps_set (i := 1) sc_shape_of.nd rfl (Or.inl rfl) (pe_mG0 (pv 0) c_Parcel_room.cl c_Parcel_room.me c_Parcel_room.fn hgd (hr.mono (by decide)) c_Parcel_room.b .nil VS.pass0))
      (pss_one (ps_ret (pe_tup (pa_cons (pe_mG0 (pe_mG0 (pv 0) c_Parcel_sides.cl c_Parcel_sides.me c_Parcel_sides.fn hgd (hr.mono (by decide)) c_Parcel_sides.b .nil VS.pass0) c_Sides_ranked.cl c_Sides_ranked.me c_Sides_ranked.fn hgd (hr.mono (by decide)) c_Sides_ranked.b .nil VS.pass0) (pa_cons (pe_ifExp (pt_cmpR op_isNo (pv 1) pe_non (nomark _)) pe_non (pe_mG0 (pv 1) c_Sides_ranked.cl c_Sides_ranked.me c_Sides_ranked.fn hgd (hr.mono (by decide)) c_Sides_ranked.b .nil VS.pass0)) pa_nil))))))), ?_⟩
    (try dsimp only [cxOf, List.map])
    show VX _ _ [_, _] _ _
    walk_at "gr"
    refine ⟨p.nm, p.a, p.b, p.c, p.wl, p.wt, p.br, p.mk, rfl, fun l hl => ?_⟩
    have x1 : Ext S (put S l (.lst (p.mk.map D.str))) := Ext.put hl
    refine rv_in (.l (.c put_same)) rfl (flat_strs _) ?_
    rw [inD_strs]
    generalize put S l (.lst (p.mk.map D.str)) = S1 at x1 ⊢
    refine ⟨_, rfl, fun e => ?_, fun e => ?_⟩
    · have e := of_decide_eq_true e
      have ea : shA p = .non := if_pos e
      have eb : shB p = .non := if_pos e
      rw [ea, eb] at q
      walk_at "gr"
      exact q _ x1
    · have e := of_decide_eq_false e
      have ea : shA p = rkD p.a p.b p.c := if_neg e
      have eb : shB p = if noRoom p.a p.b p.c p.wl then .non else rkD (p.a - 2 * p.wl) (p.b - 2 * p.wl) (p.c - 2 * p.wl) := if_neg e
      rw [ea, eb] at q
      walk_at "gr"
      refine ⟨p.nm, p.a, p.b, p.c, p.wl, p.wt, p.br, p.mk, rfl, g, fun nr => ?_, fun nr => ?_⟩
      · rw [if_pos nr] at q
        walk_at "gr"
        refine ⟨p.nm, p.a, p.b, p.c, p.wl, p.wt, p.br, p.mk, rfl, ?_⟩
        walk_at "gr"
        exact q _ x1
      · rw [if_neg nr] at q
        walk_at "gr"
        refine ⟨p.nm, p.a, p.b, p.c, p.wl, p.wt, p.br, p.mk, rfl, ?_⟩
        walk_at "gr"
        exact q _ x1
theorem ok_shape_goes {f : Addr} {fd : FuncData} {C_Sides C_Parcel C_Heap C_NoNumber C_NoSide : Addr}
    (F : Fd K "shape_goes" "shape_goes" s_shape_goes [] f fd) (T : Tx K mg) (hsys : SysOk base) :
    FnG P w K mg base (L2.CX P w) 1 f fd a_shape_goes (spOf K p_shape_goes) := by
  refine fn_val F sc_shape_goes (fun ds S G Y h => ?_) (fun cdv A hgd outer s H E hr px tk po ds S G Y h => ?_)
  · obtain ⟨x, y, sp, rfl, _⟩ := h
    rfl
  · obtain ⟨x, y, sp, rfl, hx, hy, q⟩ := h
    refine ⟨_, (pss_cons (ps_if (PW.pt (pw_or (pt_cmpR op_isNo (pv 0) pe_non (nomark _)) (pw_or1 (pt_cmpR op_isNo (pv 1) pe_non (nomark _))))) (pss_one (ps_ret pe_bl))
      pss_nil)
      (pss_one (ps_ret (pe_callB (cr_all rfl) (by rfl) T.b_all (by decide +kernel) (pa_cons (pe_lc (own := [("side", 3), ("most", 4)]) rfl sc_shape_goes.nd (RZ.pi_zipA (by rfl) T.b_zip (pa_cons (pv 0) (pa_cons (pv 1) pa_nil))) (blkOk_by (own := [("side", 3), ("most", 4)]) (N := n_shape_goes) (sc := defScope s_shape_goes) (by decide +kernel)) (fun _ _ _ _ _ => (kTup (K := K) (pg_tup (n := 2) rfl (pgs_cons (pg_name (i := 3) sc_shape_goes.nd rfl (Or.inl rfl)) (pgs_cons (pg_name (i := 4) sc_shape_goes.nd rfl (Or.inl rfl)) pgs_nil))))) (fun _ _ _ _ _ => pts_nil) (fun _ _ _ _ _ => (pe_cmpR op_le (pe_op op_add (pv 3) (pv 2)) (pv 4) (nomark _)))) pa_nil))))), ?_⟩
    (try dsimp only [cxOf, List.map])
    show VX _ _ [_, _, _, _, _] _ _
    cases hx with
    | n =>
      walk_at "gr"
      exact q
    | t =>
      cases hy with
      | n =>
        walk_at "gr"
        exact q
      | t =>
        rename_i a b c u v w
        walk_at "gr"
        refine ve_lcM (fun d => match d with | .tup [.int u, .int v] => .bl (decide (u + sp ≤ v)) | _ => .non) (vi_zipT ?_)
        walk_at "gr"
        refine ⟨_, _, rfl, by show 3 ≤ 100000; decide, fun d hd => ?_, ?_⟩
        · have hd' : d = .tup [.int a, .int u] ∨ d = .tup [.int b, .int v] ∨ d = .tup [.int c, .int w] := by simpa [zipD] using hd
          rcases hd' with rfl | rfl | rfl
          all_goals
            walk_at "gr"
            exact ⟨rfl, by walk_at "gr"; exact ⟨rfl, rfl⟩⟩
        refine va_nil ?_
        show RC _ _ [.lst (([decide (a + sp ≤ u), decide (b + sp ≤ v), decide (c + sp ≤ w)]).map D.bl)] _ _
        refine rc_all .v ?_
        have e : shG (.tup [.int a, .int b, .int c]) (.tup [.int u, .int v, .int w]) sp = ([decide (a + sp ≤ u), decide (b + sp ≤ v), decide (c + sp ≤ w)]).all id := by
          simp [shG]
        rw [e] at q
        exact q
theorem ok_inside {f : Addr} {fd : FuncData} {C_Sides C_Parcel C_Heap C_NoNumber C_NoSide : Addr} {f_need_spare f_Heap_parcels f_shape_of f_Parcel_name f_shape_goes : Addr} {g_need_spare g_Heap_parcels g_shape_of g_Parcel_name g_shape_goes : FuncData}
    (F : Fd K "inside" "inside" s_inside [.int 0] f fd) (T : Tx K mg) (hsys : SysOk base)
    (c_need_spare : Cf P w K mg base (L2.CX P w) 3 "need_spare" s_need_spare [] a_need_spare (p_need_spare K C_NoNumber) f_need_spare g_need_spare)
    (c_Heap_parcels : Mf P w K mg base 1 C_Heap "parcels" "Heap.parcels" s_Heap_parcels [] a_Heap_parcels (p_Hp_parcels C_Heap C_Parcel C_Sides) f_Heap_parcels g_Heap_parcels)
    (c_shape_of : Cf P w K mg base (L2.CX P w) 7 "shape_of" s_shape_of [] a_shape_of (p_shape_of C_Parcel C_Sides) f_shape_of g_shape_of)
    (c_Parcel_name : Mf P w K mg base 1 C_Parcel "name" "Parcel.name" s_Parcel_name [] a_Parcel_name (p_Pc_name C_Parcel C_Sides) f_Parcel_name g_Parcel_name)
    (c_shape_goes : Cf P w K mg base (L2.CX P w) 1 "shape_goes" s_shape_goes [] a_shape_goes p_shape_goes f_shape_goes g_shape_goes)
    (k_Heap : Kl_Heap K mg C_Heap)
    (k_Parcel : Kl_Parcel K mg C_Parcel)
    (k_Sides : Kl_Sides K mg C_Sides) :
    FnG P w K mg base (L2.CX P w) 8 f fd a_inside (spOf K (p_inside K C_Heap C_Parcel C_Sides C_NoNumber)) := by
  have kc_Heap := k_Heap.ins.cl
  have ka_Heap_held := k_Heap.a_held
  have ka_Heap_told := k_Heap.a_told
  have ka_Heap_kind := k_Heap.a_kind
  have kc_Parcel := k_Parcel.ins.cl
  have ka_Parcel_called := k_Parcel.a_called
  have ka_Parcel_outside := k_Parcel.a_outside
  have ka_Parcel_thick := k_Parcel.a_thick
  have ka_Parcel_heavy := k_Parcel.a_heavy
  have ka_Parcel_strong := k_Parcel.a_strong
  have ka_Parcel_marks := k_Parcel.a_marks
  have ka_Parcel_told := k_Parcel.a_told
  have ka_Parcel_names := k_Parcel.a_names
  have kc_Sides := k_Sides.ins.cl
  have ka_Sides_three := k_Sides.a_three
  refine fn_val F sc_inside (fun ds S G Y h => ?_) (fun cdv A hgd outer s H E hr px tk po ds S G Y h => ?_)
  · rcases h with ⟨x, sp, ps, rfl, _⟩ | ⟨x, y, o, rfl, _⟩
    · rfl
    · rfl
  · obtain ⟨y1, y2, rfl⟩ : ∃ y1 y2, ds = [y1, y2] := by
      rcases h with ⟨x, sp, ps, e, _⟩ | ⟨x, y, o, e, _⟩ <;> exact ⟨_, _, e⟩
    refine ⟨_, (pss_cons (ps_expr (pe_cG c_need_spare.fn hgd (hr.mono (by decide)) (by rfl) c_need_spare.mg c_need_spare.kp c_need_spare.b .nil px (pa_cons (pv 1) pa_nil)))
      (pss_cons (ps_set (i := 2) sc_inside.nd rfl (Or.inl rfl) (pe_lst pa_nil))
      (pss_cons (ps_for po rfl (pi_list (pe_mG0 (pv 0) c_Heap_parcels.cl c_Heap_parcels.me c_Heap_parcels.fn hgd (hr.mono (by decide)) c_Heap_parcels.b .nil VS.pass0)) (pg_name (i := 3) sc_inside.nd rfl (Or.inl rfl))
      (pss_cons (ps_asg (pe_cG c_shape_of.fn hgd (hr.mono (by decide)) (by rfl) c_shape_of.mg c_shape_of.kp c_shape_of.b .nil VS.pass0 (pa_cons (pv 3) pa_nil)) (pg_tup (n := 2) rfl (pgs_cons (pg_name (i := 4) sc_inside.nd rfl (Or.inr rfl)) (pgs_cons (pg_name (i := 5) sc_inside.nd rfl (Or.inl rfl)) pgs_nil))))
      (pss_one (ps_expr (pe_bm PySem.F.plainAttrs_list PySem.F.slot_list_append PySem.F.type_list_append mt_append (pv 2) (pa_cons (pe_tup (pa_cons (pe_mG0 (pv 3) c_Parcel_name.cl c_Parcel_name.me c_Parcel_name.fn hgd (hr.mono (by decide)) c_Parcel_name.b .nil VS.pass0) (pa_cons (pv 4) (pa_cons (pv 5) pa_nil)))) pa_nil))))))
      (pss_cons (ps_set (i := 6) sc_inside.nd rfl (Or.inl rfl) pe_dnewK)
      (pss_cons (ps_for po rfl (pi_list (pv 2)) (pg_tup (n := 3) rfl (pgs_cons (pg_name (i := 7) sc_inside.nd rfl (Or.inl rfl)) (pgs_cons (pg_name (i := 4) sc_inside.nd rfl (Or.inr rfl)) (pgs_cons (pg_name (i := 5) sc_inside.nd rfl (Or.inl rfl)) pgs_nil))))
      (pss_one (ps_dput (hu_of hr) (pv 6) (pv 7) (pe_lc (own := [("row", 8)]) rfl sc_inside.nd (pi_list (pv 2)) (blkOk_by (own := [("row", 8)]) (N := n_inside) (sc := defScope s_inside) (by decide +kernel)) (fun _ _ _ _ _ => (pg_name (i := 8) sc_inside.nd rfl (Or.inl rfl))) (fun _ _ _ _ _ => (pts_one (pt_val (pe_cG c_shape_goes.fn hgd (hr.mono (by decide)) (by rfl) c_shape_goes.mg c_shape_goes.kp c_shape_goes.b .nil VS.pass0 (pa_cons (pv 4) (pa_cons (pe_ix (kI (K := K) (r := rIxT) ix_tup) (pv 8) pe_int (fun _ _ => rfl)) (pa_cons (pv 1) pa_nil))))))) (fun _ _ _ _ _ => (pe_ix (kI (K := K) (r := rIxT) ix_tup) (pv 8) pe_int (fun _ _ => rfl)))) (by rfl))))
      (pss_one (ps_ret (pv 6)))))))), ?_⟩
    (try dsimp only [cxOf, List.map])
    show VX _ _ [_, _, _, _, _, _, _, _, _] _ _
    walk_at "gr"
    rcases h with ⟨x, sp, ps, e, hx, hps, s0, s1, q⟩ | ⟨x, y, o, e, hy, hb, q⟩
    · cases e
      refine ⟨.int sp, some sp, rfl, .i sp, fun _ => ?_, fun z => ?_⟩
      · walk_at "gr"
        refine ve_lstc ?_
        walk_at "gr"
        intro l hl
        have hx1 := hx.ext (Ext.put (d := .lst []) hl)
        have x1 := Ext.put (d := .lst []) hl
        have c1 : (put S l (.lst [])) l = some (.lst []) := put_same
        generalize put S l (.lst []) = S1 at hx1 x1 c1 ⊢
        walk_at "gr"
        refine vx_for (vi_list ?_)
        obtain ⟨d0, hi0, hq0⟩ := hx1
        have hx1 : IsHp S1 C_Heap C_Parcel C_Sides y1 ps := ⟨d0, hi0, hq0⟩
        have p12 := hps.l
        walk_at "gr"
        refine ⟨_, hi0, rfl, ?_⟩
        walk_at "gr"
        refine ⟨y1, ps, rfl, hx1, ?_⟩
        refine ⟨_, .v, fun i ρ2 S2 => S2 l = some (.lst ((ps.take i).map rowD)) ∧ Ext S S2 ∧ ∃ x3 x4 x5, ρ2 = [some y1, some (.int sp), some (.ref l), x3, x4, x5, none, none, none], ⟨c1, x1, _, _, _, rfl⟩, ?_, ?_⟩
        · rintro i d _ S2 hd ⟨c2, x2, x3, x4, x5, rfl⟩
          rw [List.getElem?_map] at hd
          cases e : ps[i]? with
          | none => rw [e] at hd; cases hd
          | some r =>
            rw [e] at hd
            cases hd
            have tk : ps.take (i + 1) = ps.take i ++ [r] := by rw [List.take_succ, e]; rfl
            walk_at "gr"
            refine ⟨r, rfl, hps.g r (List.mem_of_getElem? e), fun S3 x3' => ?_⟩
            have c3 := x3' _ _ c2
            walk_at "gr"
            refine ⟨r.nm, r.a, r.b, r.c, r.wl, r.wt, r.br, r.mk, rfl, ?_⟩
            walk_at "gr"
            refine rm_append c3 (by rw [List.length_map, List.length_take]; have := szl; omega) ?_
            refine ⟨?_, (x2.trans x3').wr hl, _, _, _, rfl⟩
            rw [put_same, tk, List.map_append]
            rfl
        · rintro _ S2 ⟨c2, x2, x3, x4, x5, rfl⟩
          rw [List.length_map, List.take_length] at c2
          refine vx_freeze 2 rfl c2 ?_
          have x4' := x2.dl hl
          show VX _ _ [some y1, some (.int sp), some (.lst (ps.map rowD)), x3, x4, x5, none, none, none] _ _
          generalize VS.del S2 l = S3 at x4' ⊢
          clear c2 x2 c1 x1 hx1 hi0 hq0
          refine vx_seq (vx_asg ?_)
          refine ve_dnewc fun d hd => ?_
          have sd0 : S d = none := x4'.no hd
          have c5 : (put S3 d (.dK [])) d = some (.dK []) := put_same
          have x5' := x4'.trans (Ext.put (d := .dK []) hd)
          generalize put S3 d (.dK []) = S4 at c5 x5' ⊢
          walk_at "gr"
          refine vx_for (vi_list ?_)
          walk_at "gr"
          refine ⟨_, .v, fun i ρ2 S2 => ∃ as : List Addr, as.length = i ∧ as.Nodup ∧ d ∉ as ∧ (∀ a ∈ as, S a = none) ∧ Ext S S2 ∧ S2 d = some (.dK (inD2 (ps.take i) as)) ∧ (∀ (j : Nat) (a : Addr) (p : Pc), as[j]? = some a → ps[j]? = some p → S2 a = some (.lst ((goN sp ps p).map D.str))) ∧ ∃ x4 x5 x7, ρ2 = [some y1, some (.int sp), some (.lst (ps.map rowD)), x3, x4, x5, some (.ref d), x7, none], ⟨[], rfl, .nil, nofun, nofun, x5', c5, nofun, _, _, _, rfl⟩, ?_, ?_⟩
          · clear c5 x5'
            rintro i dd _ S5 hdd ⟨as, la, na, da, sa, x6, c6, h6, x4, x5, x7, rfl⟩
            rw [List.getElem?_map] at hdd
            cases e : ps[i]? with
            | none => rw [e] at hdd; cases hdd
            | some r =>
              rw [e] at hdd
              cases hdd
              have hi : i < ps.length := (List.getElem?_eq_some_iff.mp e).1
              have tk : ps.take (i + 1) = ps.take i ++ [r] := by rw [List.take_succ, e]; rfl
              unfold rowD
              walk_at "gr"
              refine vx_dput ?_
              refine ve_lcc (vi_list ?_)
              walk_at "gr"
              refine ⟨_, .v, by rw [List.length_map]; omega, fun j acc S7 => acc = (((ps.take j).filter (goB sp r)).map Pc.nm).map D.str ∧ S7 = S5, ⟨rfl, rfl⟩, ?_, ?_⟩
              · rintro j dz acc S7 hdz ⟨rfl, rfl⟩ _
                have hdz : (ps.map rowD)[j]? = some dz := hdz
                rw [List.getElem?_map] at hdz
                cases e2 : ps[j]? with
                | none => rw [e2] at hdz; cases hdz
                | some t =>
                  rw [e2] at hdz
                  cases hdz
                  have tk2 : ps.take (j + 1) = ps.take j ++ [t] := by rw [List.take_succ, e2]; rfl
                  unfold rowD
                  walk_at "gr"
                  refine ⟨_, _, sp, rfl, shA_shp r, shB_shp t, ?_⟩
                  refine ⟨_, rfl, fun eb => ?_, fun eb => ?_⟩
                  · walk_at "gr"
                    refine ⟨?_, rfl⟩
                    rw [tk2, List.filter_append, List.filter_cons_of_pos (show goB sp r t = true from eb), List.map_append, List.map_append]
                    rfl
                  · refine ⟨?_, rfl⟩
                    rw [tk2, List.filter_append, List.filter_cons_of_neg (by rw [show goB sp r t = false from eb]; decide), List.filter_nil, List.append_nil]
              · rintro acc S7 ⟨ea, rfl⟩ _ a ha
                rw [List.length_map, List.take_length] at ea
                subst ea
                have nda : d ≠ a := ne_at c6 ha
                have naa : ∀ a' ∈ as, a' ≠ a := fun a' h' z => by
                  obtain ⟨j, hj⟩ := List.getElem?_of_mem h'
                  have hjl : j < as.length := (List.getElem?_eq_some_iff.mp hj).1
                  have := h6 j a' _ hj (List.getElem?_eq_getElem (show j < ps.length by omega))
                  rw [z, ha] at this
                  cases this
                have c7 : (put S7 a (.lst (((ps.filter (goB sp r)).map Pc.nm).map D.str))) d = some (.dK (inD2 (ps.take i) as)) := (put_ne nda).trans c6
                walk_at "gr"
                refine ⟨inD2 (ps.take i) as, .inr r.nm, c7, rfl, ?_, as ++ [a], ?_, ?_, ?_, ?_, ?_, ?_, ?_, _, _, _, rfl⟩
                · have : (inD2 (ps.take i) as).length ≤ as.length := by unfold inD2; rw [List.length_zipWith]; omega
                  have := szl
                  omega
                · rw [List.length_append, la]; rfl
                · rw [List.nodup_append]
                  exact ⟨na, by simp, fun x hx y hy => by rw [List.mem_singleton.mp hy]; exact naa x hx⟩
                · intro z
                  rcases List.mem_append.mp z with z | z
                  · exact da z
                  · exact nda (List.mem_singleton.mp z)
                · intro x hx
                  rcases List.mem_append.mp hx with hx | hx
                  · exact sa x hx
                  · rw [List.mem_singleton.mp hx]; exact x6.no ha
                · exact (x6.trans (Ext.put ha)).wr sd0
                · rw [put_same, dkPut_new, tk, inD2_app (by rw [List.length_take]; omega)]
                  intro x hx z
                  have hk : x.1 ∈ (inD2 (ps.take i) as).map Prod.fst := List.mem_map.mpr ⟨x, hx, rfl⟩
                  rw [inD2_keys (by rw [List.length_take]; omega), z] at hk
                  obtain ⟨w, hw, ew⟩ := List.mem_map.mp hk
                  cases ew
                  obtain ⟨t, ht, et⟩ := List.mem_map.mp hw
                  obtain ⟨j, hj⟩ := List.getElem?_of_mem ht
                  have jl : j < i := by
                    have := (List.getElem?_eq_some_iff.mp hj).1
                    rw [List.length_take] at this
                    omega
                  rw [List.getElem?_take_of_lt jl] at hj
                  have := (Hps.frs hps.n e).2 j t jl hj
                  exact this et
                · intro j a' p' hj hp'
                  by_cases z : j < as.length
                  · rw [List.getElem?_append_left z] at hj
                    have nea : a' ≠ a := naa a' (List.mem_of_getElem? hj)
                    have ned : a' ≠ d := fun z => da (by rw [← z]; exact List.mem_of_getElem? hj)
                    rw [put_ne ned, put_ne nea]
                    exact h6 j a' p' hj hp'
                  · rw [List.getElem?_append_right (by omega)] at hj
                    have ez : j - as.length = 0 := by
                      have := (List.getElem?_eq_some_iff.mp hj).1
                      simp at this
                      omega
                    rw [ez] at hj
                    cases hj
                    have ej : j = i := by omega
                    subst ej
                    rw [e] at hp'
                    cases hp'
                    rw [put_ne (Ne.symm nda)]
                    exact put_same
          · rintro _ S5 ⟨as, la, na, da, sa, x6, c6, h6, x4, x5, x7, rfl⟩
            rw [List.length_map, List.take_length] at c6
            rw [List.length_map] at la
            walk_at "gr"
            exact q d as S5 sd0 la na da sa x6 c6 h6
      · rw [show whB (some sp) 0 1000 = (decide (0 ≤ sp) && decide (sp ≤ 1000)) from rfl] at z
        simp at z
        omega
    · cases e
      walk_at "gr"
      refine ⟨y2, o, rfl, hy, ?_, ?_⟩
      · intro z
        rw [hb] at z
        cases z
      · exact fun _ => q
end
end LW
namespace LW
open PySem L2 C8 PySem.Spec PyProof.Rows VS
/-! ### a thing of a list; all of a list -/
theorem pick (Q : D → Prop) {xs : List D} {i : Int} (h0 : 0 ≤ i) (h1 : i < xs.length) (all : ∀ x ∈ xs, Q x) : ∃ x, atI xs i = some x ∧ Q x := by
  obtain ⟨x, hx, e⟩ := atI_mem h0 h1
  exact ⟨x, e, all x hx⟩
theorem ac {Q : D → Prop} {a : D} {l : List D} (h : Q a) (t : ∀ x ∈ l, Q x) : ∀ x ∈ a :: l, Q x := fun x hx => by
  rcases List.mem_cons.mp hx with rfl | hx
  · exact h
  · exact t x hx
theorem an {Q : D → Prop} : ∀ x ∈ ([] : List D), Q x := nofun
theorem rv_ixAll {c : VS.Ctx} {S : Sto} {F : D → Sto → Prop} (Q : D → Prop) {xs : List D} {i : Int} (h0 : 0 ≤ i) (h1 : i < xs.length) (all : ∀ x ∈ xs, Q x) (q : ∀ x, Q x → F x S) : RV c (rIxL c.K) (.lst xs) (.int i) S F := by
  obtain ⟨x, ea, hx⟩ := pick Q h0 h1 all
  exact rv_ixL .v ea (q x hx)
theorem Pu.ext {S S' : Sto} {p : Addr} {n : Int} (h : Pu S p n) (x : Ext S S') : Pu S' p n := by
  obtain ⟨a, b, c, e, r⟩ := h
  exact ⟨a, b, c, x _ _ e, r⟩
end LW
namespace LW
open PySem L2 C8 PySem.Spec PyProof.Rows VS
/-! ### the law's names, none twice -/
def p__law_names : Pt := fun ds S G _ => ∃ (p : Addr) (n m : Int), ds = [.ref p, .int m] ∧ Pu S p n ∧ n < 800000 ∧ 0 ≤ m ∧ m ≤ 12 ∧
  ∀ (zs : List Str) (S' : Sto), (zs.length : Int) = m → (∀ z ∈ zs, Nm z) → zs.Nodup → Pu S' p (n + 20) → Ex1 p S S' → G (.lst (zs.map D.str)) S'
theorem lett_ex {i : Int} (h0 : 0 ≤ i) (h1 : i < 26) : atI ("abcdefghijklmnopqrstuvwxyz" : Str).cps.toList i = some (97 + i.toNat) := by
  obtain ⟨k, rfl⟩ := Int.eq_ofNat_of_zero_le h0
  have h : ∀ k, k < 26 → ("abcdefghijklmnopqrstuvwxyz" : Str).cps.toList[k]? = some (97 + k) := by decide +kernel
  exact atI_nat (h k (by omega))
def chN (i : Int) : Nat := 97 + (i % 26).toNat
theorem chN_lc (i : Int) : lcN (chN i) = true := by
  have h0 : 0 ≤ i % 26 := Int.emod_nonneg _ (by decide)
  have h1 : i % 26 < 26 := Int.emod_lt_of_pos _ (by decide)
  obtain ⟨n, e, l⟩ := lett_at h0 h1
  rw [lett_ex h0 h1] at e
  cases e
  exact l
def smN (w : Int) (k : Nat) : Int := if w = 1 ∧ (k : Int) % 3 = 1 then (k : Int) - 1 else k
def xtN (w f : Int) (k : Nat) : Str := if (w = 1 ∧ (k : Int) % 3 = 1) ∨ (w = 2 ∧ (k : Int) % 2 = 1) then ⟨#[chN (f + k)]⟩ else Str.empty
def nmN (w f s : Int) (hd tl : Str) (k : Nat) : Str := hd ++ ⟨#[chN (f + s * smN w k)]⟩ ++ tl ++ xtN w f k
theorem xt_list (w f : Int) (k : Nat) : (xtN w f k).cps.toList = if (w = 1 ∧ (k : Int) % 3 = 1) ∨ (w = 2 ∧ (k : Int) % 2 = 1) then [chN (f + k)] else [] := by
  unfold xtN
  split <;> rfl
theorem nm_list (w f s : Int) (hd tl : Str) (k : Nat) : (nmN w f s hd tl k).cps.toList = hd.cps.toList ++ (chN (f + s * smN w k) :: (tl.cps.toList ++ (xtN w f k).cps.toList)) := by
  unfold nmN
  have e : ∀ a b : Str, (a ++ b).cps.toList = a.cps.toList ++ b.cps.toList := fun a b => by
    show (a.cps ++ b.cps).toList = _
    rw [Array.toList_append]
  rw [e, e, e, List.append_assoc, List.append_assoc]
  rfl
theorem nm_inj {w f s : Int} {hd tl : Str} (hs : s = 1 ∨ s = 5 ∨ s = 7 ∨ s = 11) {k j : Nat} (hk : k < j) (hj : j < 12) : nmN w f s hd tl k ≠ nmN w f s hd tl j := fun e => by
  have e : (nmN w f s hd tl k).cps.toList = (nmN w f s hd tl j).cps.toList := by rw [e]
  rw [nm_list, nm_list] at e
  have e := List.append_cancel_left e
  injection e with e1 e2
  have e2 := List.append_cancel_left e2
  rw [xt_list, xt_list] at e2
  unfold chN at e1
  have b : ∀ i : Nat, i < 12 → 0 ≤ smN w i ∧ smN w i ≤ 11 := fun i hi => by
    unfold smN
    split
    · omega
    · omega
  obtain ⟨b1, b2⟩ := b k (by omega)
  obtain ⟨b3, b4⟩ := b j hj
  have es : smN w k = smN w j := by
    rcases hs with rfl | rfl | rfl | rfl <;> omega
  unfold smN at es
  by_cases h1 : w = 1 ∧ (k : Int) % 3 = 1
  · rw [if_pos h1] at es
    by_cases h2 : w = 1 ∧ (j : Int) % 3 = 1
    · rw [if_pos h2] at es; omega
    · rw [if_neg h2] at es; omega
  · rw [if_neg h1] at es
    by_cases h2 : w = 1 ∧ (j : Int) % 3 = 1
    · rw [if_neg (fun z => z.elim h1 (fun z => by omega)), if_pos (.inl h2)] at e2
      cases e2
    · rw [if_neg h2] at es; omega
theorem nm_nodup {w f s : Int} {hd tl : Str} (hs : s = 1 ∨ s = 5 ∨ s = 7 ∨ s = 11) {n : Nat} (hn : n ≤ 12) : ((List.range n).map (nmN w f s hd tl)).Nodup := by
  rw [List.nodup_iff_pairwise_ne, List.pairwise_map]
  exact List.pairwise_lt_range.imp_of_mem fun _ hb h => nm_inj hs h (by have := List.mem_range.mp hb; omega)
theorem empty_lw : Lw 0 Str.empty := ⟨Nat.le_refl _, nofun⟩
theorem nm_ok {w f s : Int} {hd tl : Str} (h : Lw 6 (hd ++ tl)) (k : Nat) : Nm (nmN w f s hd tl k) := by
  have hl := h.1
  rw [len_add] at hl
  have x : Lw 1 (xtN w f k) := by
    unfold xtN
    split
    · exact Lw.one (chN_lc _)
    · exact empty_lw.mono (by decide)
  have xl := x.1
  have l1 : (⟨#[chN (f + s * smN w k)]⟩ : Str).length = 1 := rfl
  refine ⟨⟨?_, fun c hc => ?_⟩, ?_⟩
  · unfold nmN
    rw [len_add, len_add, len_add]
    omega
  · rw [nm_list] at hc
    have e : (hd ++ tl).cps.toList = hd.cps.toList ++ tl.cps.toList := by
      show (hd.cps ++ tl.cps).toList = _
      rw [Array.toList_append]
    rcases List.mem_append.mp hc with hc | hc
    · exact h.2 c (by rw [e]; exact List.mem_append.mpr (.inl hc))
    · rcases List.mem_cons.mp hc with rfl | hc
      · exact chN_lc _
      · rcases List.mem_append.mp hc with hc | hc
        · exact h.2 c (by rw [e]; exact List.mem_append.mpr (.inr hc))
        · exact x.2 c hc
  · unfold nmN
    rw [len_add, len_add, len_add]
    omega
def nmW12 : List Str := ["in", "x", "wall", "rest", "box", "parcel", "none", "alone", "top", "turn", "stack", "heavy"]
theorem nmW12_ok : ∀ z ∈ nmW12, Nm z := by
  have h : (nmW12.all fun z => (decide (z.length ≤ 8) && z.cps.toList.all lcN) && decide (1 ≤ z.length)) = true := by decide +kernel
  rw [List.all_eq_true] at h
  intro z hz
  have := h z hz
  rw [Bool.and_eq_true, decide_eq_true_eq] at this
  exact ⟨Lw.lit this.1, this.2⟩
theorem nmW12_nd : nmW12.Nodup := by decide +kernel
def w12 (f s : Int) (k : Nat) : Str := nmW12.getD ((f + s * (k : Int)) % 12).toNat Str.empty
theorem w12_at (f s : Int) (k : Nat) : atI (nmW12.map D.str) ((f + s * (k : Int)) % 12) = some (.str (w12 f s k)) ∧ w12 f s k ∈ nmW12 := by
  have h0 : 0 ≤ (f + s * (k : Int)) % 12 := Int.emod_nonneg _ (by decide)
  have h1 : (f + s * (k : Int)) % 12 < 12 := Int.emod_lt_of_pos _ (by decide)
  unfold w12
  generalize (f + s * (k : Int)) % 12 = i at h0 h1
  obtain ⟨j, rfl⟩ := Int.eq_ofNat_of_zero_le h0
  have hj : j < nmW12.length := by show j < 12; omega
  rw [Int.toNat_natCast, List.getD_eq_getElem?_getD, List.getElem?_eq_getElem hj]
  exact ⟨atI_nat (by rw [List.getElem?_map, List.getElem?_eq_getElem hj]; rfl), List.getElem_mem hj⟩
theorem w12_inj {f s : Int} (hs : s = 1 ∨ s = 5 ∨ s = 7 ∨ s = 11) {k j : Nat} (hk : k < j) (hj : j < 12) : w12 f s k ≠ w12 f s j := fun e => by
  have b : ∀ i : Int, ∃ n : Nat, i % 12 = n ∧ n < nmW12.length := fun i => by
    have h0 : 0 ≤ i % 12 := Int.emod_nonneg _ (by decide)
    have h1 : i % 12 < 12 := Int.emod_lt_of_pos _ (by decide)
    exact ⟨(i % 12).toNat, by omega, by show _ < 12; omega⟩
  obtain ⟨a, ea, ha⟩ := b (f + s * (k : Int))
  obtain ⟨c, ec, hc⟩ := b (f + s * (j : Int))
  unfold w12 at e
  rw [ea, ec, Int.toNat_natCast, Int.toNat_natCast, List.getD_eq_getElem?_getD, List.getD_eq_getElem?_getD, List.getElem?_eq_getElem ha, List.getElem?_eq_getElem hc] at e
  have := (List.getElem?_inj (i := a) (j := c) ha nmW12_nd).mp (by rw [List.getElem?_eq_getElem ha, List.getElem?_eq_getElem hc]; exact congrArg some e)
  subst this
  rcases hs with rfl | rfl | rfl | rfl <;> omega
theorem w12_nodup {f s : Int} (hs : s = 1 ∨ s = 5 ∨ s = 7 ∨ s = 11) {n : Nat} (hn : n ≤ 12) : ((List.range n).map (w12 f s)).Nodup := by
  rw [List.nodup_iff_pairwise_ne, List.pairwise_map]
  exact List.pairwise_lt_range.imp_of_mem fun _ hb h => w12_inj hs h (by have := List.mem_range.mp hb; omega)
theorem cut_two {α : Type} (f : α → D) (ys : List α) (k : Nat) : ∃ zs ws : List α, cutD (ys.map f) none (some (k : Int)) = zs.map f ∧ cutD (ys.map f) (some (k : Int)) none = ws.map f ∧ zs ++ ws = ys := by
  refine ⟨ys.take (min k ys.length), ys.drop (min k ys.length), ?_, ?_, List.take_append_drop _ _⟩
  · show ((ys.map f).drop 0).take (HT.sIx (ys.map f).length (ys.map f).length (some (k : Int)) - 0) = _
    rw [HT.sIx_nat, List.drop_zero, Nat.sub_zero, List.length_map, List.map_take]
  · show ((ys.map f).drop (HT.sIx (ys.map f).length 0 (some (k : Int)))).take ((ys.map f).length - HT.sIx (ys.map f).length 0 (some (k : Int))) = _
    rw [HT.sIx_nat, List.length_map, ← List.map_drop, List.take_of_length_le (by rw [List.length_map, List.length_drop]; exact Nat.le_refl _)]
/-- the texts of a walk over numbers -/
def rngF (f : Nat → Str) : D → D
  | .int i => .str (f i.toNat)
  | _ => .non
theorem rng_map {m : Int} {f : Nat → Str} : (rngD 0 m.toNat).map (rngF f) = ((List.range m.toNat).map f).map D.str := by
  unfold rngD
  rw [List.map_map, List.map_map]
  apply List.map_congr_left
  intro a _
  show D.str (f (0 + (a : Int)).toNat) = D.str (f a)
  rw [Int.zero_add, Int.toNat_natCast]
theorem rng_mem {m : Int} {d : D} (h : d ∈ rngD 0 m.toNat) : ∃ k : Nat, d = .int k ∧ (k : Int) < m := by
  obtain ⟨i, hi, rfl⟩ := List.mem_map.mp h
  have := List.mem_range.mp hi
  exact ⟨i, by rw [Int.zero_add], by omega⟩
section
variable {P : Program} {w : World} {K : PySem.W.Frag} {mg : Str → Option Value} {base : Heap}
theorem ok__law_names {f : Addr} {fd : FuncData} {C_Sides C_Parcel C_Heap C_NoNumber C_NoSide : Addr} {f__law_take : Addr} {g__law_take : FuncData}
    (F : Fd K "_law_names" "_law_names" s__law_names [] f fd) (T : Tx K mg) (hsys : SysOk base)
    (c__law_take : Cf P w K mg base (L2.CX P w) 1 "_law_take" s__law_take [] a__law_take p__law_take f__law_take g__law_take) :
    FnG P w K mg base (L2.CX P w) 2 f fd a__law_names (spOf K p__law_names) := by
  refine fn_val F sc__law_names (fun ds S G Y h => ?_) (fun cdv A hgd outer s H E hr px tk po ds S G Y h => ?_)
  · obtain ⟨p, n, m, rfl, _⟩ := h
    rfl
  · obtain ⟨p, n, m, rfl, hp, hn, m0, m1, q⟩ := h
    refine ⟨_, (pss_cons (ps_set (i := 2) sc__law_names.nd rfl (Or.inr rfl) pe_str)
      (pss_cons (ps_set (i := 3) sc__law_names.nd rfl (Or.inl rfl) (pe_cG c__law_take.fn hgd (hr.mono (by decide)) (by rfl) c__law_take.mg c__law_take.kp c__law_take.b .nil VS.pass0 (pa_cons (pv 0) (pa_cons pe_int pa_nil))))
      (pss_cons (ps_set (i := 4) sc__law_names.nd rfl (Or.inr rfl) (pe_cG c__law_take.fn hgd (hr.mono (by decide)) (by rfl) c__law_take.mg c__law_take.kp c__law_take.b .nil VS.pass0 (pa_cons (pv 0) (pa_cons pe_int pa_nil))))
      (pss_cons (ps_set (i := 5) sc__law_names.nd rfl (Or.inr rfl) (pe_ix ix_list (pe_lst (pa_cons pe_int (pa_cons pe_int (pa_cons pe_int (pa_cons pe_int pa_nil))))) (pe_cG c__law_take.fn hgd (hr.mono (by decide)) (by rfl) c__law_take.mg c__law_take.kp c__law_take.b .nil VS.pass0 (pa_cons (pv 0) (pa_cons pe_int pa_nil))) (fun _ _ => rfl)))
      (pss_cons (ps_if (pt_cmpR op_eq (pv 3) pe_int (nomark _)) (pss_cons (ps_set (i := 6) sc__law_names.nd rfl (Or.inr rfl) (pe_lst (pa_cons pe_str (pa_cons pe_str (pa_cons pe_str (pa_cons pe_str (pa_cons pe_str (pa_cons pe_str (pa_cons pe_str (pa_cons pe_str (pa_cons pe_str (pa_cons pe_str (pa_cons pe_str (pa_cons pe_str pa_nil))))))))))))))
      (pss_one (ps_ret (pe_lc (own := [("_law_k", 12)]) rfl sc__law_names.nd (pi_range1 (by rfl) T.b_range (pa_cons (pv 1) pa_nil)) (blkOk_by (own := [("_law_k", 12)]) (N := n__law_names) (sc := defScope s__law_names) (by decide +kernel)) (fun _ _ _ _ _ => (pg_name (i := 12) sc__law_names.nd rfl (Or.inl rfl))) (fun _ _ _ _ _ => pts_nil) (fun _ _ _ _ _ => (pe_ix (kI (K := K) (r := rIxL) ix_list) (pv 6) (pe_op op_mod (pe_op op_add (pv 4) (pe_op op_mulW (pv 5) (pv 12))) pe_int) (fun _ _ => rfl)))))))
      pss_nil)
      (pss_cons (ps_setLc (i := 7) (own := [("_law_k", 12)]) rfl sc__law_names.nd rfl rfl (sw_true rfl rfl rfl (by decide +kernel)) (pi_range1 (by rfl) T.b_range (pa_cons (pe_cG c__law_take.fn hgd (hr.mono (by decide)) (by rfl) c__law_take.mg c__law_take.kp c__law_take.b .nil VS.pass0 (pa_cons (pv 0) (pa_cons pe_int pa_nil))) pa_nil)) (blkOk_by (own := [("_law_k", 12)]) (N := n__law_names) (sc := defScope s__law_names) (by decide +kernel)) (fun _ _ _ _ _ => (pg_name (i := 12) sc__law_names.nd rfl (Or.inl rfl))) (fun _ _ _ _ _ => pts_nil) (fun _ _ _ _ _ => (pe_ix ix_str (pv 2) (pe_cG c__law_take.fn hgd (hr.mono (by decide)) (by rfl) c__law_take.mg c__law_take.kp c__law_take.b .nil VS.pass0 (pa_cons (pv 0) (pa_cons pe_int pa_nil))) (fun _ _ => rfl))))
      (pss_cons (ps_set (i := 8) sc__law_names.nd rfl (Or.inl rfl) (pe_cG c__law_take.fn hgd (hr.mono (by decide)) (by rfl) c__law_take.mg c__law_take.kp c__law_take.b .nil VS.pass0 (pa_cons (pv 0) (pa_cons (pe_op op_add (pe_callB c_len (by rfl) T.b_len (by decide +kernel) (pa_cons (pv 7) pa_nil)) pe_int) pa_nil))))
      (pss_cons (ps_par (i := 9) (j := 10) (by rfl) sc__law_names.nd rfl rfl (by decide) rfl rfl (pa_cons (pe_m1 PySem.F.slot_str_join PySem.F.type_str_join m_join pe_str (pe_slice sl_list (pv 7) po_none (po_some (pv 8)))) (pa_cons (pe_m1 PySem.F.slot_str_join PySem.F.type_str_join m_join pe_str (pe_slice sl_list (pv 7) (po_some (pv 8)) po_none)) pa_nil)) (by rfl))
      (pss_cons (ps_set (i := 11) sc__law_names.nd rfl (Or.inl rfl) (pe_lst pa_nil))
      (pss_cons (ps_for po rfl (pi_range1 (by rfl) T.b_range (pa_cons (pv 1) pa_nil)) (pg_name (i := 12) sc__law_names.nd rfl (Or.inl rfl))
      (pss_cons (ps_set (i := 13) sc__law_names.nd rfl (Or.inl rfl) (pe_op op_sub (pv 12) (pe_callTy c_int1 (by rfl) T.b_int (by decide +kernel) (pa_cons (pe_and (pe_cmpR op_eq (pv 3) pe_int (nomark _)) (pe_one (pe_cmpR op_eq (pe_op op_mod (pv 12) pe_int) pe_int (nomark _)))) pa_nil))))
      (pss_cons (ps_set (i := 14) sc__law_names.nd rfl (Or.inl rfl) (pe_op op_addS (pe_op op_addS (pv 9) (pe_ix ix_str (pv 2) (pe_op op_mod (pe_op op_add (pv 4) (pe_op op_mulW (pv 5) (pv 13))) pe_int) (fun _ _ => rfl))) (pv 10)))
      (pss_cons (ps_if (PW.pt (pw_or (PW.pt (pw_and (pt_cmpR op_eq (pv 3) pe_int (nomark _)) (pw_and1 (pt_cmpR op_eq (pe_op op_mod (pv 12) pe_int) pe_int (nomark _))))) (pw_or1 (PW.pt (pw_and (pt_cmpR op_eq (pv 3) pe_int (nomark _)) (pw_and1 (pt_cmpR op_eq (pe_op op_mod (pv 12) pe_int) pe_int (nomark _)))))))) (pss_one (ps_set (i := 14) sc__law_names.nd rfl (Or.inl rfl) (pe_op op_addS (pv 14) (pe_ix ix_str (pv 2) (pe_op op_mod (pe_op op_add (pv 4) (pv 12)) pe_int) (fun _ _ => rfl)))))
      pss_nil)
      (pss_one (ps_expr (pe_bm PySem.F.plainAttrs_list PySem.F.slot_list_append PySem.F.type_list_append mt_append (pv 11) (pa_cons (pv 14) pa_nil))))))))
      (pss_one (ps_ret (pv 11))))))))))))), ?_⟩
    (try dsimp only [cxOf, List.map])
    show VX _ _ [_, _, _, _, _, _, _, _, _, _, _, _, _, _, _] _ _
    walk_at "gr"
    intro w S1 w0 w1 h1 o1
    walk_at "gr"
    intro f S2 f0 f1 h2 o2
    have o2 := o1.trans o2
    clear h1 o1 hp
    walk_at "gr"
    refine ve_lst ?_
    walk_at "gr"
    intro t S3 t0 t1 h3 o3
    have o3 := o2.trans o3
    clear h2 o2
    obtain ⟨x, ea, s, rfl, hs⟩ := pick (fun d => ∃ s : Int, d = .int s ∧ (s = 1 ∨ s = 5 ∨ s = 7 ∨ s = 11)) (xs := [.int 1, .int 5, .int 7, .int 11]) t0 t1 (ac ⟨_, rfl, by decide⟩ (ac ⟨_, rfl, by decide⟩ (ac ⟨_, rfl, by decide⟩ (ac ⟨_, rfl, by decide⟩ an))))
    refine rv_ixL .v ea ?_
    clear ea t0 t1
    have sb : 1 ≤ s ∧ s ≤ 11 := by omega
    walk_at "gr"
    refine VS.br (fun e => ?_) (fun e => ?_)
    · walk_at "gr"
      refine ve_lst ?_
      walk_at "gr"
      refine ve_lcM (rngF (w12 f s)) (vi_rng1 ?_)
      walk_at "gr"
      refine ⟨m, rfl, by omega, by rw [rngD_len]; omega, fun d hd => ?_, ?_⟩
      · obtain ⟨k, rfl, hk⟩ := rng_mem hd
        have g1 : s * (k : Int) ≤ 11 * 12 := Int.mul_le_mul (by omega) (by omega) (by omega) (by decide)
        have g0 : 0 ≤ s * (k : Int) := Int.mul_nonneg (by omega) (by omega)
        walk_at "gr"
        refine ⟨rfl, ?_⟩
        walk_at "gr"
        refine rv_ixL .v (w12_at f s k).1 ?_
        exact ⟨by show _ = D.str (w12 f s (k : Int).toNat); rw [Int.toNat_natCast], rfl⟩
      · rw [rng_map]
        refine q _ _ (by rw [List.length_map, List.length_range]; omega) (fun z hz => ?_) (w12_nodup hs (by omega)) (h3.mono (by omega)) o3.ex1
        obtain ⟨k, _, rfl⟩ := List.mem_map.mp hz
        exact nmW12_ok _ (w12_at f s k).2
    · walk_at "gr"
      refine ve_lcJ (fun d => ∃ z, d = .str z ∧ Lw 1 z) (fun i S4 => Pu S4 p (n + 4 + (i : Nat)) ∧ Off p S S4) (vi_rng1 ?_)
      walk_at "gr"
      intro r S4 r0 r1 h4 o4
      have o4 := o3.trans o4
      walk_at "gr"
      refine ⟨r, rfl, by omega, by rw [rngD_len]; omega, ⟨h4.mono (by omega), o4⟩, ?_, ?_⟩
      · rintro i d S5 hd ⟨h5, o5⟩
        obtain ⟨rfl, hi⟩ := rngD_at hd
        walk_at "gr"
        refine ⟨rfl, ?_⟩
        walk_at "gr"
        intro t S6 t0 t1 h6 o6
        refine rv_ixS (by decide) (lett_ex t0 t1) ?_
        obtain ⟨ch, ea, el⟩ := lett_at t0 t1
        rw [lett_ex t0 t1] at ea
        cases ea
        exact ⟨⟨_, rfl, Lw.one el⟩, h6.mono (by omega), o5.trans o6⟩
      rintro acc S5 hl ha ⟨h5, o5⟩
      rw [rngD_len] at hl h5
      obtain ⟨ys, rfl, hy⟩ := strs_all ha
      rw [List.length_map] at hl
      have hl6 : ys.length ≤ 6 := by omega
      have h5 : Pu S5 p (n + 10) := h5.mono (by omega)
      clear h3 o3 h4 o4 ha
      walk_at "gr"
      refine take_ok h5 (by omega) (by omega) (by rw [List.length_map]; omega) fun at_ S6 at0 at1 h6 o6 => ?_
      have o6 := o5.trans o6
      clear h5 o5
      obtain ⟨ka, rfl⟩ := Int.eq_ofNat_of_zero_le at0
      obtain ⟨zs, ws, ez, ew, eys⟩ := cut_two D.str ys ka
      have lz : zs.length + ws.length ≤ 6 := by rw [← List.length_append, eys]; exact hl6
      have hz : ∀ z ∈ zs, Lw 1 z := fun z h => hy z (by rw [← eys]; exact List.mem_append.mpr (.inl h))
      have hw : ∀ z ∈ ws, Lw 1 z := fun z h => hy z (by rw [← eys]; exact List.mem_append.mpr (.inr h))
      have wz : Lw zs.length (Txt.join ("" : Str) zs) := Lw.join0 hz (Nat.le_refl _)
      have ww : Lw ws.length (Txt.join ("" : Str) ws) := Lw.join0 hw (Nat.le_refl _)
      have l0 : (Str.ofString "").length = 0 := by decide
      walk_at "gr"
      refine rs_list .v ?_
      rw [ez]
      refine rm_join (.l .v) (by have := sum_le fun y z => (hz y z).1; rw [l0]; omega) ?_
      walk_at "gr"
      refine rs_list .v ?_
      rw [ew]
      refine rm_join (.l .v) (by have := sum_le fun y z => (hw y z).1; rw [l0]; omega) ?_
      have w6 : Lw 6 (Txt.join ("" : Str) zs ++ Txt.join ("" : Str) ws) := (wz.add ww).mono lz
      generalize Txt.join ("" : Str) zs = hd at w6 wz ⊢
      generalize Txt.join ("" : Str) ws = tl at w6 ww ⊢
      have lh := wz.1
      have lt := ww.1
      clear wz ww hz hw ez ew eys hy hl hl6 r0 r1
      walk_at "gr"
      refine ve_lstc ?_
      walk_at "gr"
      intro fl hfl
      have npf := h6.ne hfl
      have hS : S fl = none := by rw [← o6 fl (Ne.symm npf)]; exact hfl
      have h7 : Pu (put S6 fl (.lst [])) p (n + 15) := (h6.put hfl).mono (by omega)
      have c7 : (put S6 fl (.lst [])) fl = some (.lst []) := put_same
      have o7 : Ex1 p S (put S6 fl (.lst [])) := o6.ex1.new hfl
      show VG _ _ _ _ (put S6 fl (.lst [])) _
      generalize put S6 fl (.lst []) = S7 at h7 c7 o7 ⊢
      clear h6 o6 hfl
      have hw4 : w = 1 ∨ w = 2 ∨ w = 3 ∨ w = 4 := by omega
      walk_at "gr"
      refine vx_for (vi_rng1 ?_)
      walk_at "gr"
      refine ⟨m, rfl, by constructor <;> omega, fun i ρ2 S2 => ∃ x12 x13 x14, ρ2 = [some (.ref p), some (.int m), some (.str "abcdefghijklmnopqrstuvwxyz"), some (.int w), some (.int f), some (.int s), none, some (.lst (ys.map D.str)), some (.int ka), some (.str hd), some (.str tl), some (.ref fl), x12, x13, x14] ∧
        S2 fl = some (.lst (((List.range i).map (nmN w f s hd tl)).map D.str)) ∧ Pu S2 p (n + 15) ∧ Ex1 p S S2, ⟨_, _, _, rfl, c7, h7, o7⟩, ?_, ?_⟩
      · rintro i d_ _ S2 hd_ ⟨x12, x13, x14, rfl, cf, h8, o8⟩
        obtain ⟨rfl, hi⟩ := rngD_at hd_
        have hl9 : (((List.range i).map (nmN w f s hd tl)).map D.str).length < sizeLine := by rw [List.length_map, List.length_map, List.length_range]; have := szl; omega
        have fin : ∀ z : Str, z = nmN w f s hd tl i → ∀ x12 x13 x14, ∃ y12 y13 y14, ([some (.ref p), some (.int m), some (.str "abcdefghijklmnopqrstuvwxyz"), some (.int w), some (.int f), some (.int s), none, some (.lst (ys.map D.str)), some (.int ka), some (.str hd), some (.str tl), some (.ref fl), x12, x13, x14] : Rho) = [some (.ref p), some (.int m), some (.str "abcdefghijklmnopqrstuvwxyz"), some (.int w), some (.int f), some (.int s), none, some (.lst (ys.map D.str)), some (.int ka), some (.str hd), some (.str tl), some (.ref fl), y12, y13, y14] ∧
            (VS.put S2 fl (.lst (((List.range i).map (nmN w f s hd tl)).map D.str ++ [.str z]))) fl = some (.lst (((List.range (i + 1)).map (nmN w f s hd tl)).map D.str)) ∧ Pu (VS.put S2 fl (.lst (((List.range i).map (nmN w f s hd tl)).map D.str ++ [.str z]))) p (n + 15) ∧ Ex1 p S (VS.put S2 fl (.lst (((List.range i).map (nmN w f s hd tl)).map D.str ++ [.str z]))) := by
          rintro z rfl x12 x13 x14
          exact ⟨_, _, _, rfl, by rw [put_same, List.range_succ, List.map_append, List.map_append]; rfl, h8.wr npf, o8.wr2 hS⟩
        have b1 : ∀ j : Int, 0 ≤ j % 26 := fun j => Int.emod_nonneg _ (by decide)
        have b2 : ∀ j : Int, j % 26 < 26 := fun j => Int.emod_lt_of_pos _ (by decide)
        have g0 : ∀ j : Int, 0 ≤ j → j ≤ 12 → 0 ≤ s * j ∧ s * j ≤ 11 * 12 := fun j h0 h1 => ⟨Int.mul_nonneg (by omega) h0, Int.mul_le_mul (by omega) h1 h0 (by decide)⟩
        have gi := g0 i (by omega) (by omega)
        have l1 : ∀ c : Nat, (⟨#[c]⟩ : Str).length = 1 := fun _ => rfl
        clear g0 hd_ c7 h7 o7
        rcases hw4 with rfl | rfl | rfl | rfl
        · walk_at "gr"
          by_cases k3 : (i : Int) % 3 = 1
          · have es : ((i : Int) - if decide ((i : Int) % 3 = 1) = true then 1 else 0) = smN 1 i := by unfold smN; rw [decide_eq_true k3, if_pos rfl, if_pos ⟨rfl, k3⟩]
            rw [es]
            have lc : (⟨#[97 + ((f + s * smN 1 i) % 26).toNat]⟩ : Str).length = 1 := rfl
            have lc2 : (hd ++ ⟨#[97 + ((f + s * smN 1 i) % 26).toNat]⟩ : Str).length = hd.length + 1 := by rw [len_add]; rfl
            have lc3 : (hd ++ ⟨#[97 + ((f + s * smN 1 i) % 26).toNat]⟩ ++ tl : Str).length = hd.length + 1 + tl.length := by rw [len_add, lc2]
            refine rv_ixS (by decide) (lett_ex (b1 _) (b2 _)) ?_
            walk_at "gr"
            refine brYd k3 ?_
            walk_at "gr"
            have le : (⟨#[97 + ((f + (i : Int)) % 26).toNat]⟩ : Str).length = 1 := rfl
            refine rv_ixS (by decide) (lett_ex (b1 _) (b2 _)) ?_
            walk_at "gr"
            refine rm_append cf hl9 ?_
            exact fin _ (by unfold nmN xtN; rw [if_pos (by exact .inl ⟨rfl, k3⟩)]; rfl) _ _ _
          · have es : ((i : Int) - if decide ((i : Int) % 3 = 1) = true then 1 else 0) = smN 1 i := by unfold smN; rw [decide_eq_false k3, if_neg (by decide), if_neg (fun z => k3 z.2)]; omega
            rw [es]
            have lc : (⟨#[97 + ((f + s * smN 1 i) % 26).toNat]⟩ : Str).length = 1 := rfl
            have lc2 : (hd ++ ⟨#[97 + ((f + s * smN 1 i) % 26).toNat]⟩ : Str).length = hd.length + 1 := by rw [len_add]; rfl
            have lc3 : (hd ++ ⟨#[97 + ((f + s * smN 1 i) % 26).toNat]⟩ ++ tl : Str).length = hd.length + 1 + tl.length := by rw [len_add, lc2]
            refine rv_ixS (by decide) (lett_ex (b1 _) (b2 _)) ?_
            walk_at "gr"
            refine brYn k3 ?_
            walk_at "gr"
            refine rm_append cf hl9 ?_
            exact fin _ (by unfold nmN xtN; rw [if_neg (by exact fun z => z.elim (fun z => k3 z.2) (fun z => by cases z.1))]; exact (PySem.Str.append_empty _).symm) _ _ _
        · walk_at "gr"
          by_cases k2 : (i : Int) % 2 = 1
          · have es : ((i : Int) - if false = true then 1 else 0) = smN 2 i := by unfold smN; rw [if_neg (by decide), if_neg (fun z => by cases z.1)]; omega
            rw [es]
            have lc : (⟨#[97 + ((f + s * smN 2 i) % 26).toNat]⟩ : Str).length = 1 := rfl
            have lc2 : (hd ++ ⟨#[97 + ((f + s * smN 2 i) % 26).toNat]⟩ : Str).length = hd.length + 1 := by rw [len_add]; rfl
            have lc3 : (hd ++ ⟨#[97 + ((f + s * smN 2 i) % 26).toNat]⟩ ++ tl : Str).length = hd.length + 1 + tl.length := by rw [len_add, lc2]
            refine rv_ixS (by decide) (lett_ex (b1 _) (b2 _)) ?_
            walk_at "gr"
            refine brYd k2 ?_
            walk_at "gr"
            have le : (⟨#[97 + ((f + (i : Int)) % 26).toNat]⟩ : Str).length = 1 := rfl
            refine rv_ixS (by decide) (lett_ex (b1 _) (b2 _)) ?_
            walk_at "gr"
            refine rm_append cf hl9 ?_
            exact fin _ (by unfold nmN xtN; rw [if_pos (by exact .inr ⟨rfl, k2⟩)]; rfl) _ _ _
          · have es : ((i : Int) - if false = true then 1 else 0) = smN 2 i := by unfold smN; rw [if_neg (by decide), if_neg (fun z => by cases z.1)]; omega
            rw [es]
            have lc : (⟨#[97 + ((f + s * smN 2 i) % 26).toNat]⟩ : Str).length = 1 := rfl
            have lc2 : (hd ++ ⟨#[97 + ((f + s * smN 2 i) % 26).toNat]⟩ : Str).length = hd.length + 1 := by rw [len_add]; rfl
            have lc3 : (hd ++ ⟨#[97 + ((f + s * smN 2 i) % 26).toNat]⟩ ++ tl : Str).length = hd.length + 1 + tl.length := by rw [len_add, lc2]
            refine rv_ixS (by decide) (lett_ex (b1 _) (b2 _)) ?_
            walk_at "gr"
            refine brYn k2 ?_
            walk_at "gr"
            refine rm_append cf hl9 ?_
            exact fin _ (by unfold nmN xtN; rw [if_neg (by exact fun z => z.elim (fun z => by cases z.1) (fun z => k2 z.2))]; exact (PySem.Str.append_empty _).symm) _ _ _
        · walk_at "gr"
          have es : ((i : Int) - if false = true then 1 else 0) = smN 3 i := by unfold smN; rw [if_neg (by decide), if_neg (fun z => by cases z.1)]; omega
          rw [es]
          have lc : (⟨#[97 + ((f + s * smN 3 i) % 26).toNat]⟩ : Str).length = 1 := rfl
          have lc2 : (hd ++ ⟨#[97 + ((f + s * smN 3 i) % 26).toNat]⟩ : Str).length = hd.length + 1 := by rw [len_add]; rfl
          have lc3 : (hd ++ ⟨#[97 + ((f + s * smN 3 i) % 26).toNat]⟩ ++ tl : Str).length = hd.length + 1 + tl.length := by rw [len_add, lc2]
          refine rv_ixS (by decide) (lett_ex (b1 _) (b2 _)) ?_
          walk_at "gr"
          refine rm_append cf hl9 ?_
          exact fin _ (by unfold nmN xtN; rw [if_neg (by exact fun z => z.elim (fun z => by cases z.1) (fun z => by cases z.1))]; exact (PySem.Str.append_empty _).symm) _ _ _
        · walk_at "gr"
          have es : ((i : Int) - if false = true then 1 else 0) = smN 4 i := by unfold smN; rw [if_neg (by decide), if_neg (fun z => by cases z.1)]; omega
          rw [es]
          have lc : (⟨#[97 + ((f + s * smN 4 i) % 26).toNat]⟩ : Str).length = 1 := rfl
          have lc2 : (hd ++ ⟨#[97 + ((f + s * smN 4 i) % 26).toNat]⟩ : Str).length = hd.length + 1 := by rw [len_add]; rfl
          have lc3 : (hd ++ ⟨#[97 + ((f + s * smN 4 i) % 26).toNat]⟩ ++ tl : Str).length = hd.length + 1 + tl.length := by rw [len_add, lc2]
          refine rv_ixS (by decide) (lett_ex (b1 _) (b2 _)) ?_
          walk_at "gr"
          refine rm_append cf hl9 ?_
          exact fin _ (by unfold nmN xtN; rw [if_neg (by exact fun z => z.elim (fun z => by cases z.1) (fun z => by cases z.1))]; exact (PySem.Str.append_empty _).symm) _ _ _
      · rintro ρ2 S2 ⟨x12, x13, x14, rfl, cf, h8, o8⟩
        rw [rngD_len] at cf
        refine vx_freeze 11 rfl cf ?_
        walk_at "gr"
        refine q _ _ (by rw [List.length_map, List.length_range]; omega) (fun z hz => ?_) (nm_nodup hs (by omega)) ?_ (o8.dl hS)
        · obtain ⟨k, _, rfl⟩ := List.mem_map.mp hz
          exact nm_ok w6 k
        · obtain ⟨x, y, z, e, r⟩ := h8
          exact ⟨x, y, z, (VS.del_ne npf).trans e, r.1, r.2.1, r.2.2.1, by have := r.2.2.2; omega⟩
end
end LW
namespace LW
open PySem L2 C8 PySem.Spec PyProof.Rows VS
/-! ### the law's rows of a heap -/
/-- an empty row, or three sides -/
def Bas (d : D) : Prop := d = .lst [] ∨ ∃ a b c, d = li a b c ∧ In1 a ∧ In1 b ∧ In1 c
def p__law_sides : Pt := fun ds S G _ => ∃ (p : Addr) (n m : Int) (b : D) (dp : Bool), ds = [.ref p, b, .int m, .bl dp] ∧ Pu S p n ∧ n < 800000 ∧ Bas b ∧ 0 ≤ m ∧ m ≤ 100000 ∧ ∀ a b c S', In1 a → In1 b → In1 c → Pu S' p (n + 20) → Ex1 p S S' → G (li a b c) S'
theorem li_get {a b c i : Int} (h0 : 0 ≤ i) (h1 : i < 3) (ha : In1 a) (hb : In1 b) (hc : In1 c) : ∃ v, atI ([D.int a, .int b, .int c] : List D) i = some (.int v) ∧ In1 v := by
  have : i = 0 ∨ i = 1 ∨ i = 2 := by omega
  rcases this with rfl | rfl | rfl
  · exact ⟨a, rfl, ha⟩
  · exact ⟨b, rfl, hb⟩
  · exact ⟨c, rfl, hc⟩
theorem li_setQ {Q : Int → Prop} {a b c w v : Int} (w0 : 0 ≤ w) (w1 : w < 3) (ha : Q a) (hb : Q b) (hc : Q c) (hv : Q v) : ∃ m x y z, ixN ([D.int a, .int b, .int c] : List D).length w = some m ∧ ([D.int a, .int b, .int c] : List D).set m (.int v) = [.int x, .int y, .int z] ∧ Q x ∧ Q y ∧ Q z := by
  have : w = 0 ∨ w = 1 ∨ w = 2 := by omega
  rcases this with rfl | rfl | rfl
  · exact ⟨0, v, b, c, rfl, rfl, hv, hb, hc⟩
  · exact ⟨1, a, v, c, rfl, rfl, ha, hv, hc⟩
  · exact ⟨2, a, b, v, rfl, rfl, ha, hb, hv⟩
def clampD : D → D := fun d => match d with | .int i => .int (if (if i < 100000 then i else 100000) > 1 then (if i < 100000 then i else 100000) else 1) | _ => .non
section
variable {P : Program} {w : World} {K : PySem.W.Frag} {mg : Str → Option Value} {base : Heap}
theorem ok__law_sides {f : Addr} {fd : FuncData} {C_Sides C_Parcel C_Heap C_NoNumber C_NoSide : Addr} {f__law_take : Addr} {g__law_take : FuncData}
    (F : Fd K "_law_sides" "_law_sides" s__law_sides [] f fd) (T : Tx K mg) (hsys : SysOk base)
    (c__law_take : Cf P w K mg base (L2.CX P w) 1 "_law_take" s__law_take [] a__law_take p__law_take f__law_take g__law_take) :
    FnG P w K mg base (L2.CX P w) 2 f fd a__law_sides (spOf K p__law_sides) := by
  refine fn_val F sc__law_sides (fun ds S G Y h => ?_) (fun cdv A hgd outer s H E hr px tk po ds S G Y h => ?_)
  · obtain ⟨p, n, m, b, dp, rfl, _⟩ := h
    rfl
  · obtain ⟨p, n, m, b, dp, rfl, hp, hn, hb, m0, m1, q⟩ := h
    refine ⟨_, (pss_cons (ps_set (i := 4) sc__law_sides.nd rfl (Or.inl rfl) (pe_cG c__law_take.fn hgd (hr.mono (by decide)) (by rfl) c__law_take.mg c__law_take.kp c__law_take.b .nil VS.pass0 (pa_cons (pv 0) (pa_cons pe_int pa_nil))))
      (pss_cons (ps_if (PW.pt (pw_and (pt_val (pv 3)) (pw_and1 (pt_cmpR op_lt (pv 4) pe_int (nomark _))))) (pss_one (ps_set (i := 4) sc__law_sides.nd rfl (Or.inl rfl) pe_int))
      pss_nil)
      (pss_cons (ps_if (PW.pt (pw_or (pt_cmpR op_lt (pv 4) pe_int (nomark _)) (pw_or1 (PW.pt (pw_and (pt_cmpR op_lt (pv 4) pe_int (nomark _)) (pw_and1 (pt_cmpR (op_eqE hr) (pv 1) (pe_lst pa_nil) (nomark _)))))))) (pss_cons (ps_set (i := 5) sc__law_sides.nd rfl (Or.inr rfl) (pe_ix ix_list (pe_lst (pa_cons pe_int (pa_cons pe_int (pa_cons pe_int pa_nil)))) (pe_cG c__law_take.fn hgd (hr.mono (by decide)) (by rfl) c__law_take.mg c__law_take.kp c__law_take.b .nil VS.pass0 (pa_cons (pv 0) (pa_cons pe_int pa_nil))) (fun _ _ => rfl)))
      (pss_one (ps_ret (pe_lc (own := [("_law_k", 12)]) rfl sc__law_sides.nd (pi_range1 (by rfl) T.b_range (pa_cons pe_int pa_nil)) (blkOk_by (own := [("_law_k", 12)]) (N := n__law_sides) (sc := defScope s__law_sides) (by decide +kernel)) (fun _ _ _ _ _ => (pg_name (i := 12) sc__law_sides.nd rfl (Or.inl rfl))) (fun _ _ _ _ _ => pts_nil) (fun _ _ _ _ _ => (pe_op op_add pe_int (pe_cG c__law_take.fn hgd (hr.mono (by decide)) (by rfl) c__law_take.mg c__law_take.kp c__law_take.b .nil VS.pass0 (pa_cons (pv 0) (pa_cons (pv 5) pa_nil)))))))))
      pss_nil)
      (pss_cons (ps_if (pt_cmpR op_eq (pv 4) pe_int (nomark _)) (pss_cons (ps_set (i := 6) sc__law_sides.nd rfl (Or.inr rfl) (pe_lst (pa_cons pe_int (pa_cons pe_int (pa_cons (pe_op op_add pe_int (pe_cG c__law_take.fn hgd (hr.mono (by decide)) (by rfl) c__law_take.mg c__law_take.kp c__law_take.b .nil VS.pass0 (pa_cons (pv 0) (pa_cons pe_int pa_nil)))) (pa_cons (pe_op op_add pe_int (pe_cG c__law_take.fn hgd (hr.mono (by decide)) (by rfl) c__law_take.mg c__law_take.kp c__law_take.b .nil VS.pass0 (pa_cons (pv 0) (pa_cons pe_int pa_nil)))) pa_nil))))))
      (pss_one (ps_ret (pe_lc (own := [("_law_k", 12)]) rfl sc__law_sides.nd (pi_range1 (by rfl) T.b_range (pa_cons pe_int pa_nil)) (blkOk_by (own := [("_law_k", 12)]) (N := n__law_sides) (sc := defScope s__law_sides) (by decide +kernel)) (fun _ _ _ _ _ => (pg_name (i := 12) sc__law_sides.nd rfl (Or.inl rfl))) (fun _ _ _ _ _ => pts_nil) (fun _ _ _ _ _ => (pe_ix (kI (K := K) (r := rIxL) ix_list) (pv 6) (pe_cG c__law_take.fn hgd (hr.mono (by decide)) (by rfl) c__law_take.mg c__law_take.kp c__law_take.b .nil VS.pass0 (pa_cons (pv 0) (pa_cons pe_int pa_nil))) (fun _ _ => rfl)))))))
      pss_nil)
      (pss_cons (ps_set (i := 7) sc__law_sides.nd rfl (Or.inl rfl) (pe_cG c__law_take.fn hgd (hr.mono (by decide)) (by rfl) c__law_take.mg c__law_take.kp c__law_take.b .nil VS.pass0 (pa_cons (pv 0) (pa_cons pe_int pa_nil))))
      (pss_cons (ps_set (i := 8) sc__law_sides.nd rfl (Or.inl rfl) (pe_op op_mod (pe_op op_add (pe_op op_add (pv 7) pe_int) (pe_cG c__law_take.fn hgd (hr.mono (by decide)) (by rfl) c__law_take.mg c__law_take.kp c__law_take.b .nil VS.pass0 (pa_cons (pv 0) (pa_cons pe_int pa_nil)))) pe_int))
      (pss_cons (ps_set (i := 9) sc__law_sides.nd rfl (Or.inl rfl) (pe_lst (pa_cons (pe_ix ix_list (pv 1) (pv 7) (fun _ _ => rfl)) (pa_cons (pe_ix ix_list (pv 1) (pv 8) (fun _ _ => rfl)) (pa_cons (pe_ix ix_list (pv 1) (pe_op op_sub (pe_op op_sub pe_int (pv 7)) (pv 8)) (fun _ _ => rfl)) pa_nil)))))
      (pss_cons (ps_if (pt_cmpR op_lt (pv 4) pe_int (nomark _)) (pss_one (ps_setLc (i := 9) (own := [("_law_side", 11)]) rfl sc__law_sides.nd rfl rfl (sw_true rfl rfl rfl (by decide +kernel)) (pi_list (pv 9)) (blkOk_by (own := [("_law_side", 11)]) (N := n__law_sides) (sc := defScope s__law_sides) (by decide +kernel)) (fun _ _ _ _ _ => (pg_name (i := 11) sc__law_sides.nd rfl (Or.inl rfl))) (fun _ _ _ _ _ => pts_nil) (fun _ _ _ _ _ => (pe_op op_add (pe_op op_add (pv 11) (pv 2)) (pe_ix (kI (K := K) (r := rIxL) ix_list) (pe_lst (pa_cons pe_int (pa_cons pe_int (pa_cons pe_int (pa_cons (pe_cG c__law_take.fn hgd (hr.mono (by decide)) (by rfl) c__law_take.mg c__law_take.kp c__law_take.b .nil VS.pass0 (pa_cons (pv 0) (pa_cons pe_int pa_nil))) pa_nil))))) (pe_cG c__law_take.fn hgd (hr.mono (by decide)) (by rfl) c__law_take.mg c__law_take.kp c__law_take.b .nil VS.pass0 (pa_cons (pv 0) (pa_cons pe_int pa_nil))) (fun _ _ => rfl))))))
      pss_nil)
      (pss_cons (ps_if (pt_cmpR op_eq (pv 4) pe_int (nomark _)) (pss_cons (ps_set (i := 10) sc__law_sides.nd rfl (Or.inl rfl) (pe_cG c__law_take.fn hgd (hr.mono (by decide)) (by rfl) c__law_take.mg c__law_take.kp c__law_take.b .nil VS.pass0 (pa_cons (pv 0) (pa_cons pe_int pa_nil))))
      (pss_one (ps_asg (pe_op op_sub (pe_op op_sub (pe_ix ix_list (pv 9) (pv 10) (fun _ _ => rfl)) pe_int) (pe_ix ix_list (pe_lst (pa_cons pe_int (pa_cons (pe_cG c__law_take.fn hgd (hr.mono (by decide)) (by rfl) c__law_take.mg c__law_take.kp c__law_take.b .nil VS.pass0 (pa_cons (pv 0) (pa_cons pe_int pa_nil))) pa_nil))) (pe_cG c__law_take.fn hgd (hr.mono (by decide)) (by rfl) c__law_take.mg c__law_take.kp c__law_take.b .nil VS.pass0 (pa_cons (pv 0) (pa_cons pe_int pa_nil))) (fun _ _ => rfl))) (pg_sub (pv 9) (pv 10) set_list))))
      pss_nil)
      (pss_one (ps_ret (pe_lc (own := [("_law_side", 11)]) rfl sc__law_sides.nd (pi_list (pv 9)) (blkOk_by (own := [("_law_side", 11)]) (N := n__law_sides) (sc := defScope s__law_sides) (by decide +kernel)) (fun _ _ _ _ _ => (pg_name (i := 11) sc__law_sides.nd rfl (Or.inl rfl))) (fun _ _ _ _ _ => pts_nil) (fun _ _ _ _ _ => (pe_callB (c_max2 rfl) (by rfl) T.b_max (by decide +kernel) (pa_cons pe_int (pa_cons (pe_callB (c_min2 rfl) (by rfl) T.b_min (by decide +kernel) (pa_cons pe_int (pa_cons (pv 11) pa_nil))) pa_nil)))))))))))))))), ?_⟩
    (try dsimp only [cxOf, List.map])
    show VX _ _ [_, _, _, _, _, _, _, _, _, _, _, _, _] _ _
    refine vx_seq (vx_asg ?_)
    walk_at "gr"
    intro w S1 w0 w1 h1 o1
    refine vg_name ?_
    refine vx_join (fun ρ2 S2 => S2 = S1 ∧ ∃ w, 0 ≤ w ∧ w < 7 ∧ ρ2 = [some (.ref p), some b, some (.int m), some (.bl dp), some (.int w), none, none, none, none, none, none, none, none]) ?_ ?_
    · walk_at "gr"
      cases dp
      · walk_at "gr"
        exact ⟨rfl, w, w0, w1, rfl⟩
      · walk_at "gr"
        refine VS.br (fun e => ?_) (fun e => ?_)
        · walk_at "gr"
          exact ⟨rfl, 3, by decide, by decide, rfl⟩
        · walk_at "gr"
          exact ⟨rfl, w, w0, w1, rfl⟩
    rintro _ S2 ⟨e, w, w0, w1, rfl⟩
    subst e
    refine vx_join (fun ρ2 S3 => S3 = S2 ∧ 2 ≤ w ∧ (w < 6 → b ≠ .lst []) ∧ ρ2 = [some (.ref p), some b, some (.int m), some (.bl dp), some (.int w), none, none, none, none, none, none, none, none]) ?_ ?_
    · refine vx_ifJ (fun k S3 => S3 = S2 ∧ (k = false → 2 ≤ w ∧ (w < 6 → b ≠ .lst []))) ?_ (fun S3 h => ?_) (fun S3 h => ?_)
      · walk_at "gr"
        refine VS.br (fun e => ?_) (fun e => ?_)
        · exact ⟨rfl, nofun⟩
        walk_at "gr"
        refine VS.br (fun e2 => ?_) (fun e2 => ?_)
        · walk_at "gr"
          refine ve_lst ?_
          walk_at "gr"
          rcases hb with rfl | ⟨a, b', c, rfl, ia, ib, ic⟩
          · refine rv_eqEL .v ?_
            walk_at "gr"
            exact ⟨rfl, nofun⟩
          · refine rv_eqEL .v ?_
            walk_at "gr"
            exact ⟨rfl, fun _ => ⟨by omega, fun _ => nofun⟩⟩
        · exact ⟨rfl, fun _ => ⟨by omega, fun z => absurd z e2⟩⟩
      · obtain ⟨e, _⟩ := h
        subst e
        walk_at "gr"
        refine ve_lst ?_
        walk_at "gr"
        intro t S4 t0 t1 h3 o3
        have o3 := o1.trans o3
        refine rv_ixAll (fun d => ∃ g : Int, d = .int g ∧ 1 ≤ g ∧ g ≤ 100000) t0 t1 (ac ⟨_, rfl, by decide, by decide⟩ (ac ⟨_, rfl, by decide, by decide⟩ (ac ⟨_, rfl, by decide, by decide⟩ an))) ?_
        rintro _ ⟨g, rfl, g0, g1⟩
        walk_at "gr"
        refine ve_lcJ (fun d => ∃ v, d = .int v ∧ In1 v) (fun i S4 => Pu S4 p (n + 5 + (i : Nat)) ∧ Off p S S4) (vi_rng1 ?_)
        walk_at "gr"
        refine ⟨3, rfl, by decide, by rw [rngD_len]; decide, ⟨h3.mono (by omega), o3⟩, ?_, ?_⟩
        · rintro i d S4 hd ⟨h4, o4⟩
          obtain ⟨rfl, hi⟩ := rngD_at hd
          walk_at "gr"
          refine ⟨rfl, ?_⟩
          walk_at "gr"
          intro t S5 t0 t1 h5 o5
          walk_at "gr"
          exact ⟨⟨_, rfl, by omega, by omega⟩, h5.mono (by omega), o4.trans o5⟩
        · rintro acc S4 hl ha ⟨h4, o4⟩
          rw [rngD_len] at hl h4
          obtain ⟨x, y, z, rfl⟩ := list3 hl
          obtain ⟨a, rfl, ia⟩ := ha x (by simp)
          obtain ⟨b', rfl, ib⟩ := ha y (by simp)
          obtain ⟨c, rfl, ic⟩ := ha z (by simp)
          exact q a b' c S4 ia ib ic (h4.mono (by show n + 5 + ((3 : Nat) : Int) ≤ _; omega)) o4.ex1
      · obtain ⟨e, h⟩ := h
        subst e
        obtain ⟨h2, h6⟩ := h rfl
        walk_at "gr"
        exact ⟨rfl, h2, h6, rfl⟩
    rintro _ S3 ⟨e, w2, hbs, rfl⟩
    subst e
    refine vx_join (fun ρ2 S4 => S4 = S3 ∧ w ≠ 6 ∧ ρ2 = [some (.ref p), some b, some (.int m), some (.bl dp), some (.int w), none, none, none, none, none, none, none, none]) ?_ ?_
    · walk_at "gr"
      refine VS.br (fun e => ?_) (fun e => ?_)
      · walk_at "gr"
        refine ve_lst ?_
        walk_at "gr"
        intro t S4 t0 t1 h3 o3
        have o3 := o1.trans o3
        walk_at "gr"
        intro t' S5 t0' t1' h4 o4
        have o4 := o3.trans o4
        clear h3 o3
        walk_at "gr"
        refine ve_lcJ (fun d => ∃ v, d = .int v ∧ In1 v) (fun i S4 => Pu S4 p (n + 5 + (i : Nat)) ∧ Off p S S4) (vi_rng1 ?_)
        walk_at "gr"
        refine ⟨3, rfl, by decide, by rw [rngD_len]; decide, ⟨h4.mono (by omega), o4⟩, ?_, ?_⟩
        · rintro i d S4 hd ⟨h4, o4⟩
          obtain ⟨rfl, hi⟩ := rngD_at hd
          walk_at "gr"
          refine ⟨rfl, ?_⟩
          walk_at "gr"
          intro u S5 u0 u1 h5 o5
          refine rv_ixAll (fun d => ∃ g : Int, d = .int g ∧ In1 g) u0 u1 (ac ⟨_, rfl, by decide, by decide⟩ (ac ⟨_, rfl, by decide, by decide⟩ (ac ⟨_, rfl, by omega, by omega⟩ (ac ⟨_, rfl, by omega, by omega⟩ an)))) ?_
          rintro _ ⟨g, rfl, hg⟩
          exact ⟨⟨_, rfl, hg⟩, h5.mono (by omega), o4.trans o5⟩
        · rintro acc S4 hl ha ⟨h4, o4⟩
          rw [rngD_len] at hl h4
          obtain ⟨x, y, z, rfl⟩ := list3 hl
          obtain ⟨a, rfl, ia⟩ := ha x (by simp)
          obtain ⟨b', rfl, ib⟩ := ha y (by simp)
          obtain ⟨c, rfl, ic⟩ := ha z (by simp)
          exact q a b' c S4 ia ib ic (h4.mono (by show n + 5 + ((3 : Nat) : Int) ≤ _; omega)) o4.ex1
      · walk_at "gr"
        exact ⟨rfl, e, rfl⟩
    rintro _ S4 ⟨e, w6, rfl⟩
    subst e
    obtain ⟨a, b', c, rfl, ia, ib, ic⟩ : ∃ a b' c, b = li a b' c ∧ In1 a ∧ In1 b' ∧ In1 c := hb.resolve_left (hbs (by omega))
    walk_at "gr"
    intro f S5 f0 f1 h5 o5
    have o5 := o1.trans o5
    clear h1 o1 hp
    walk_at "gr"
    intro g S6 g0 g1 h6 o6
    have o6 := o5.trans o6
    clear h5 o5
    walk_at "gr"
    have s0 : 0 ≤ (f + 1 + g) % 3 := Int.emod_nonneg _ (by decide)
    have s1 : (f + 1 + g) % 3 < 3 := Int.emod_lt_of_pos _ (by decide)
    have s2 : 0 ≤ 3 - f - (f + 1 + g) % 3 ∧ 3 - f - (f + 1 + g) % 3 < 3 := by omega
    generalize (f + 1 + g) % 3 = sc at s0 s1 s2 ⊢
    refine ve_lst ?_
    walk_at "gr"
    obtain ⟨v1, e1, i1⟩ := li_get f0 f1 ia ib ic
    refine rv_ixL .v e1 ?_
    walk_at "gr"
    obtain ⟨v2, e2, i2⟩ := li_get s0 s1 ia ib ic
    refine rv_ixL .v e2 ?_
    walk_at "gr"
    obtain ⟨v3, e3, i3⟩ := li_get s2.1 s2.2 ia ib ic
    refine rv_ixL .v e3 ?_
    refine va_nil ?_
    refine ⟨by show 3 ≤ sizeLine; decide, vg_name ?_⟩
    have bd : ∀ v, In1 v → -10 ≤ v ∧ v ≤ 300000 := fun v h => by unfold In1 at h; omega
    have fin : ∀ (x y z : Int) (S' : Sto), (-10 ≤ x ∧ x ≤ 300000) → (-10 ≤ y ∧ y ≤ 300000) → (-10 ≤ z ∧ z ≤ 300000) → Pu S' p (n + 20) → Ex1 p S S' → G (.lst ([D.int x, .int y, .int z].map clampD)) S' := by
      intro x y z S' hx hy hz h o
      refine q _ _ _ S' ?_ ?_ ?_ h o
      all_goals (unfold In1; constructor <;> (repeat' split) <;> omega)
    refine vx_join (fun ρ2 S7 => ∃ d : D, (w = 4 → ∃ l, d = .ref l) ∧ (∃ x y z, IsL S7 d [.int x, .int y, .int z] ∧ (-5 ≤ x ∧ x ≤ 300000) ∧ (-5 ≤ y ∧ y ≤ 300000) ∧ (-5 ≤ z ∧ z ≤ 300000)) ∧ (∀ l, d = .ref l → l ≠ p ∧ S l = none) ∧ Pu S7 p (n + 13) ∧ Ex1 p S S7 ∧ ρ2 = [some (.ref p), some (li a b' c), some (.int m), some (.bl dp), some (.int w), none, none, some (.int f), some (.int sc), some d, none, none, none]) ?_ ?_
    · walk_at "gr"
      refine VS.br (fun e5 => ?_) (fun e5 => ?_)
      · walk_at "gr"
        refine ve_lccJ (fun d => ∃ v, d = .int v ∧ -5 ≤ v ∧ v ≤ 300000) (fun i S4 => Pu S4 p (n + 6 + 2 * (i : Nat)) ∧ Off p S S4) (vi_list ?_)
        walk_at "gr"
        refine ⟨_, .v, by show 3 ≤ 100000; decide, ⟨h6.mono (by omega), o6⟩, ?_, ?_⟩
        · rintro i d S7 hd ⟨h7, o7⟩
          have hi : i < 3 := (List.getElem?_eq_some_iff.mp hd).1
          obtain ⟨v, rfl, hv⟩ : ∃ v, d = .int v ∧ In1 v := by
            have := List.mem_of_getElem? hd
            simp only [List.mem_cons, List.not_mem_nil, or_false] at this
            rcases this with rfl | rfl | rfl <;> exact ⟨_, rfl, by assumption⟩
          walk_at "gr"
          refine ⟨rfl, ?_⟩
          walk_at "gr"
          refine ve_lst ?_
          walk_at "gr"
          intro u S8 u0 u1 h8 o8
          walk_at "gr"
          intro u' S9 u0' u1' h9 o9
          refine rv_ixAll (fun d => ∃ g : Int, d = .int g ∧ 0 ≤ g ∧ g ≤ 9) u0' u1' (ac ⟨_, rfl, by decide, by decide⟩ (ac ⟨_, rfl, by decide, by decide⟩ (ac ⟨_, rfl, by decide, by decide⟩ (ac ⟨_, rfl, by omega, by omega⟩ an)))) ?_
          rintro _ ⟨g, rfl, hg⟩
          unfold In1 at hv
          walk_at "gr"
          exact ⟨⟨_, rfl, by omega, by omega⟩, h9.mono (by omega), (o7.trans o8).trans o9⟩
        · rintro acc S7 hl ha ⟨h7, o7⟩ l hl0
          have hl : acc.length = 3 := hl
          obtain ⟨x, y, z, rfl⟩ := list3 hl
          obtain ⟨x, rfl, hx⟩ := ha x (by simp)
          obtain ⟨y, rfl, hy⟩ := ha y (by simp)
          obtain ⟨z, rfl, hz⟩ := ha z (by simp)
          have h7 : Pu S7 p (n + 13) := h7.mono (by show n + 6 + 2 * ((3 : Nat) : Int) ≤ _; omega)
          have np := h7.ne hl0
          walk_at "gr"
          exact ⟨_, fun _ => ⟨l, rfl⟩, ⟨x, y, z, .c put_same, hx, hy, hz⟩, fun l' e => (by cases e; exact ⟨Ne.symm np, by rw [← o7 l (Ne.symm np)]; exact hl0⟩), h7.put hl0, o7.ex1.new hl0, rfl⟩
      · walk_at "gr"
        unfold In1 at i1 i2 i3
        exact ⟨_, fun z => by omega, ⟨v1, v2, v3, .v, by omega, by omega, by omega⟩, nofun, h6.mono (by omega), o6.ex1, rfl⟩
    rintro _ S7 ⟨d, hd4, ⟨x, y, z, hd, hx, hy, hz⟩, hne, h7, o7, rfl⟩
    refine vx_join (fun ρ2 S8 => ∃ x10, (∃ x y z, IsL S8 d [.int x, .int y, .int z] ∧ (-10 ≤ x ∧ x ≤ 300000) ∧ (-10 ≤ y ∧ y ≤ 300000) ∧ (-10 ≤ z ∧ z ≤ 300000)) ∧ Pu S8 p (n + 20) ∧ Ex1 p S S8 ∧ ρ2 = [some (.ref p), some (li a b' c), some (.int m), some (.bl dp), some (.int w), none, none, some (.int f), some (.int sc), some d, x10, none, none]) ?_ ?_
    · walk_at "gr"
      refine VS.br (fun e4 => ?_) (fun e4 => ?_)
      · obtain ⟨l, rfl⟩ := hd4 e4
        obtain ⟨nlp, nlS⟩ := hne l rfl
        cases hd with
        | c cl =>
          walk_at "gr"
          intro u S8 u0 u1 h8 o8
          have cl := (o8 l nlp).trans cl
          walk_at "gr"
          obtain ⟨v, ev, hv⟩ := li_pick (Q := fun v => -5 ≤ v ∧ v ≤ 300000) u0 u1 hx hy hz
          refine rv_ixL (.c cl) ev ?_
          walk_at "gr"
          refine ve_lst ?_
          walk_at "gr"
          intro r S9 r0 r1 h9 o9
          have cl := (o9 l nlp).trans cl
          have o9 := o8.trans o9
          clear h8 o8
          walk_at "gr"
          intro r' S10 r0' r1' h10 o10
          have cl := (o10 l nlp).trans cl
          have o10 := o9.trans o10
          clear h9 o9
          refine rv_ixAll (fun d => ∃ g : Int, d = .int g ∧ 0 ≤ g ∧ g ≤ 4) r0' r1' (ac ⟨_, rfl, by decide, by decide⟩ (ac ⟨_, rfl, by omega, by omega⟩ an)) ?_
          rintro _ ⟨g, rfl, hg⟩
          walk_at "gr"
          obtain ⟨m', x', y', z', em, es, hx', hy', hz'⟩ := li_setQ (Q := fun v => -10 ≤ v ∧ v ≤ 300000) (v := v - 1 - g) u0 u1 (by omega : -10 ≤ x ∧ x ≤ 300000) (by omega : -10 ≤ y ∧ y ≤ 300000) (by omega : -10 ≤ z ∧ z ≤ 300000) (by omega)
          refine ⟨u, m', _, rfl, cl, em, ?_⟩
          rw [es]
          exact ⟨_, ⟨x', y', z', .c put_same, hx', hy', hz'⟩, (h10.mono (by omega)).wr (Ne.symm nlp), (o7.trans o10.ex1).wr2 nlS, rfl⟩
      · walk_at "gr"
        exact ⟨_, ⟨x, y, z, hd, by omega, by omega, by omega⟩, h7.mono (by omega), o7, rfl⟩
    rintro _ S8 ⟨x10, ⟨x, y, z, hd, hx, hy, hz⟩, h8, o8, rfl⟩
    cases hd with
    | v =>
      walk_at "gr"
      refine ve_lcM clampD (vi_list ?_)
      walk_at "gr"
      refine ⟨_, .v, by show 3 ≤ 100000; decide, all3 ?_ ?_ ?_, ?_⟩
      · walk_at "gr"
        refine ⟨rfl, ?_⟩
        walk_at "gr"
        exact ⟨rfl, rfl⟩
      · walk_at "gr"
        refine ⟨rfl, ?_⟩
        walk_at "gr"
        exact ⟨rfl, rfl⟩
      · walk_at "gr"
        refine ⟨rfl, ?_⟩
        walk_at "gr"
        exact ⟨rfl, rfl⟩
      exact fin x y z _ hx hy hz h8 o8
    | r =>
      walk_at "gr"
      refine ve_lcM clampD (vi_list ?_)
      walk_at "gr"
      refine ⟨_, .r, by show 3 ≤ 100000; decide, all3 ?_ ?_ ?_, ?_⟩
      · walk_at "gr"
        refine ⟨rfl, ?_⟩
        walk_at "gr"
        exact ⟨rfl, rfl⟩
      · walk_at "gr"
        refine ⟨rfl, ?_⟩
        walk_at "gr"
        exact ⟨rfl, rfl⟩
      · walk_at "gr"
        refine ⟨rfl, ?_⟩
        walk_at "gr"
        exact ⟨rfl, rfl⟩
      exact fin x y z _ hx hy hz h8 o8
    | @c l _ cl =>
      obtain ⟨nlp, nlS⟩ := hne l rfl
      refine vx_freeze 9 rfl cl ?_
      walk_at "gr"
      refine ve_lcM clampD (vi_list ?_)
      walk_at "gr"
      refine ⟨_, .v, by show 3 ≤ 100000; decide, all3 ?_ ?_ ?_, ?_⟩
      · walk_at "gr"
        refine ⟨rfl, ?_⟩
        walk_at "gr"
        exact ⟨rfl, rfl⟩
      · walk_at "gr"
        refine ⟨rfl, ?_⟩
        walk_at "gr"
        exact ⟨rfl, rfl⟩
      · walk_at "gr"
        refine ⟨rfl, ?_⟩
        walk_at "gr"
        exact ⟨rfl, rfl⟩
      refine fin x y z _ hx hy hz ?_ (o8.dl nlS)
      obtain ⟨x, y, z, e, r⟩ := h8
      exact ⟨x, y, z, (VS.del_ne (Ne.symm nlp)).trans e, r⟩
end
end LW
namespace LW
open PySem L2 C8 PySem.Spec PyProof.Rows VS
/-! ### the law's rows, parcels, heaps -/
def rwD (r : Pc) : D := .lst [.str r.nm, li r.a r.b r.c, .int r.wl, .int r.wt, .int r.br, .lst (r.mk.map D.str)]
def Rwg (r : Pc) : Prop := r.g ∧ mksOf r.mk = r.mk
def mk3 (x y z : Bool) : List Str := (if x then [("alone" : Str)] else []) ++ ((if y then [("top" : Str)] else []) ++ (if z then [("upright" : Str)] else []))
theorem mk3_mk (x y z : Bool) : Mk (mk3 x y z) := by cases x <;> cases y <;> cases z <;> exact ⟨by decide, by decide, by decide⟩
theorem mk3_of (x y z : Bool) : mksOf (mk3 x y z) = mk3 x y z := by cases x <;> cases y <;> cases z <;> decide +kernel
structure Hrs (rs : List Pc) : Prop where
  g : ∀ r ∈ rs, Rwg r
  n : (rs.map Pc.nm).Nodup
  l : rs.length ≤ 12
theorem Hrs.hps {rs : List Pc} (h : Hrs rs) : Hps rs := ⟨fun p hp => (h.g p hp).1, h.n, h.l⟩
def p__law_row : Pt := fun ds S G _ => ∃ (p mm : Addr) (n sp : Int) (nm : Str) (dp : Bool) (rs : List Pc), ds = [.ref p, .str nm, .ref mm, .int sp, .bl dp] ∧ Pu S p n ∧ n < 700000 ∧ S mm = some (.lst (rs.map rwD)) ∧ p ≠ mm ∧ (∀ r ∈ rs, Rwg r) ∧ rs.length ≤ 100 ∧ Nm nm ∧ 0 ≤ sp ∧ sp ≤ 1000 ∧
  ∀ r S', r.nm = nm → Rwg r → Pu S' p (n + 50) → Ex1 p S S' → G (rwD r) S'
def p__law_spare : Pt := fun ds S G _ => ∃ (p : Addr) (n : Int), ds = [.ref p] ∧ Pu S p n ∧ n < 700000 ∧ ∀ v S', 0 ≤ v → v ≤ 1000 → Pu S' p (n + 3) → Off p S S' → G (.int v) S'
def p_made (CP CS : Addr) : Pt := fun ds S G _ => ∃ r : Pc, ds = [rwD r] ∧ Rwg r ∧ G (r.d CP CS) S
section
variable {P : Program} {w : World} {K : PySem.W.Frag} {mg : Str → Option Value} {base : Heap}
theorem ok__law_spare {f : Addr} {fd : FuncData} {C_Sides C_Parcel C_Heap C_NoNumber C_NoSide : Addr} {f__law_take : Addr} {g__law_take : FuncData}
    (F : Fd K "_law_spare" "_law_spare" s__law_spare [] f fd) (T : Tx K mg) (hsys : SysOk base)
    (c__law_take : Cf P w K mg base (L2.CX P w) 1 "_law_take" s__law_take [] a__law_take p__law_take f__law_take g__law_take) :
    FnG P w K mg base (L2.CX P w) 2 f fd a__law_spare (spOf K p__law_spare) := by
  refine fn_val F sc__law_spare (fun ds S G Y h => ?_) (fun cdv A hgd outer s H E hr px tk po ds S G Y h => ?_)
  · obtain ⟨p, n, rfl, _⟩ := h
    rfl
  · obtain ⟨p, n, rfl, hp, hn, q⟩ := h
    refine ⟨_, (pss_one (ps_ret (pe_ix ix_list (pe_lst (pa_cons pe_int (pa_cons pe_int (pa_cons pe_int (pa_cons (pe_cG c__law_take.fn hgd (hr.mono (by decide)) (by rfl) c__law_take.mg c__law_take.kp c__law_take.b .nil VS.pass0 (pa_cons (pv 0) (pa_cons pe_int pa_nil))) (pa_cons pe_int (pa_cons (pe_cG c__law_take.fn hgd (hr.mono (by decide)) (by rfl) c__law_take.mg c__law_take.kp c__law_take.b .nil VS.pass0 (pa_cons (pv 0) (pa_cons pe_int pa_nil))) pa_nil))))))) (pe_cG c__law_take.fn hgd (hr.mono (by decide)) (by rfl) c__law_take.mg c__law_take.kp c__law_take.b .nil VS.pass0 (pa_cons (pv 0) (pa_cons pe_int pa_nil))) (fun _ _ => rfl)))), ?_⟩
    (try dsimp only [cxOf, List.map])
    show VX _ _ [_] _ _
    walk_at "gr"
    refine ve_lst ?_
    walk_at "gr"
    intro t S1 t0 t1 h1 o1
    walk_at "gr"
    intro u S2 u0 u1 h2 o2
    walk_at "gr"
    intro x S3 x0 x1 h3 o3
    refine rv_ixAll (fun d => ∃ v : Int, d = .int v ∧ 0 ≤ v ∧ v ≤ 1000) x0 x1 (ac ⟨_, rfl, by decide, by decide⟩ (ac ⟨_, rfl, by decide, by decide⟩ (ac ⟨_, rfl, by decide, by decide⟩ (ac ⟨_, rfl, by omega, by omega⟩ (ac ⟨_, rfl, by decide, by decide⟩ (ac ⟨_, rfl, by omega, by omega⟩ an)))))) ?_
    rintro _ ⟨v, rfl, v0, v1⟩
    exact q v S3 v0 v1 (h3.mono (by omega)) ((o1.trans o2).trans o3)
theorem ok__law_row {f : Addr} {fd : FuncData} {C_Sides C_Parcel C_Heap C_NoNumber C_NoSide : Addr} {f__law_take f__law_sides : Addr} {g__law_take g__law_sides : FuncData}
    (F : Fd K "_law_row" "_law_row" s__law_row [] f fd) (T : Tx K mg) (hsys : SysOk base)
    (c__law_take : Cf P w K mg base (L2.CX P w) 1 "_law_take" s__law_take [] a__law_take p__law_take f__law_take g__law_take)
    (c__law_sides : Cf P w K mg base (L2.CX P w) 2 "_law_sides" s__law_sides [] a__law_sides p__law_sides f__law_sides g__law_sides) :
    FnG P w K mg base (L2.CX P w) 3 f fd a__law_row (spOf K p__law_row) := by
  refine fn_val F sc__law_row (fun ds S G Y h => ?_) (fun cdv A hgd outer s H E hr px tk po ds S G Y h => ?_)
  · obtain ⟨p, mm, n, sp, nm, dp, rs, rfl, _⟩ := h
    rfl
  · obtain ⟨p, mm, n, sp, nm, dp, rs, rfl, hp, hn, hm, npm, hrs, hl, hnm, sp0, sp1, q⟩ := h
    refine ⟨_, (pss_cons (ps_set (i := 5) sc__law_row.nd rfl (Or.inl rfl) (pe_ix ix_list (pe_lst (pa_cons pe_int (pa_cons pe_int (pa_cons pe_int (pa_cons (pe_op op_add pe_int (pe_cG c__law_take.fn hgd (hr.mono (by decide)) (by rfl) c__law_take.mg c__law_take.kp c__law_take.b .nil VS.pass0 (pa_cons (pv 0) (pa_cons pe_int pa_nil)))) pa_nil))))) (pe_cG c__law_take.fn hgd (hr.mono (by decide)) (by rfl) c__law_take.mg c__law_take.kp c__law_take.b .nil VS.pass0 (pa_cons (pv 0) (pa_cons pe_int pa_nil))) (fun _ _ => rfl)))
      (pss_cons (ps_set (i := 6) sc__law_row.nd rfl (Or.inl rfl) (pe_lst pa_nil))
      (pss_cons (ps_if (pt_cmpR (op_neE hr) (pv 2) (pe_lst pa_nil) (nomark _)) (pss_one (ps_set (i := 6) sc__law_row.nd rfl (Or.inl rfl) (pe_ix ix_list (pe_ix ix_list (pv 2) (pe_ix ix_list (pe_lst (pa_cons (pe_op op_sub (pe_callB c_len (by rfl) T.b_len (by decide +kernel) (pa_cons (pv 2) pa_nil)) pe_int) (pa_cons (pe_cG c__law_take.fn hgd (hr.mono (by decide)) (by rfl) c__law_take.mg c__law_take.kp c__law_take.b .nil VS.pass0 (pa_cons (pv 0) (pa_cons (pe_callB c_len (by rfl) T.b_len (by decide +kernel) (pa_cons (pv 2) pa_nil)) pa_nil))) pa_nil))) (pe_callTy c_int1 (by rfl) T.b_int (by decide +kernel) (pa_cons (pe_and (pe_not (pv 4)) (pe_one (pe_cmpR op_eq (pe_cG c__law_take.fn hgd (hr.mono (by decide)) (by rfl) c__law_take.mg c__law_take.kp c__law_take.b .nil VS.pass0 (pa_cons (pv 0) (pa_cons pe_int pa_nil))) pe_int (nomark _)))) pa_nil)) (fun _ _ => rfl)) (fun _ _ => rfl)) pe_int (fun _ _ => rfl))))
      pss_nil)
      (pss_cons (ps_set (i := 7) sc__law_row.nd rfl (Or.inl rfl) (pe_cG c__law_sides.fn hgd (hr.mono (by decide)) (by rfl) c__law_sides.mg c__law_sides.kp c__law_sides.b .nil VS.pass0 (pa_cons (pv 0) (pa_cons (pv 6) (pa_cons (pe_op op_add (pv 3) (pe_op op_mulW pe_int (pv 5))) (pa_cons (pv 4) pa_nil))))))
      (pss_cons (ps_set (i := 8) sc__law_row.nd rfl (Or.inl rfl) (pe_ix ix_list (pe_lst (pa_cons pe_int (pa_cons (pe_op op_add pe_int (pe_cG c__law_take.fn hgd (hr.mono (by decide)) (by rfl) c__law_take.mg c__law_take.kp c__law_take.b .nil VS.pass0 (pa_cons (pv 0) (pa_cons pe_int pa_nil)))) (pa_cons (pe_cG c__law_take.fn hgd (hr.mono (by decide)) (by rfl) c__law_take.mg c__law_take.kp c__law_take.b .nil VS.pass0 (pa_cons (pv 0) (pa_cons pe_int pa_nil))) (pa_cons pe_int pa_nil))))) (pe_cG c__law_take.fn hgd (hr.mono (by decide)) (by rfl) c__law_take.mg c__law_take.kp c__law_take.b .nil VS.pass0 (pa_cons (pv 0) (pa_cons pe_int pa_nil))) (fun _ _ => rfl)))
      (pss_cons (ps_set (i := 9) sc__law_row.nd rfl (Or.inl rfl) (pe_ix ix_list (pe_lst (pa_cons pe_int (pa_cons (pe_op op_add pe_int (pe_cG c__law_take.fn hgd (hr.mono (by decide)) (by rfl) c__law_take.mg c__law_take.kp c__law_take.b .nil VS.pass0 (pa_cons (pv 0) (pa_cons pe_int pa_nil)))) (pa_cons (pe_cG c__law_take.fn hgd (hr.mono (by decide)) (by rfl) c__law_take.mg c__law_take.kp c__law_take.b .nil VS.pass0 (pa_cons (pv 0) (pa_cons pe_int pa_nil))) (pa_cons pe_int pa_nil))))) (pe_cG c__law_take.fn hgd (hr.mono (by decide)) (by rfl) c__law_take.mg c__law_take.kp c__law_take.b .nil VS.pass0 (pa_cons (pv 0) (pa_cons pe_int pa_nil))) (fun _ _ => rfl)))
      (pss_cons (ps_setLc (i := 10) (own := [("_law_word", 11)]) rfl sc__law_row.nd rfl rfl (sw_true rfl rfl rfl (by decide +kernel)) (pi_list (pe_lst (pa_cons pe_str (pa_cons pe_str (pa_cons pe_str pa_nil))))) (blkOk_by (own := [("_law_word", 11)]) (N := n__law_row) (sc := defScope s__law_row) (by decide +kernel)) (fun _ _ _ _ _ => (pg_name (i := 11) sc__law_row.nd rfl (Or.inl rfl))) (fun _ _ _ _ _ => (pts_one (pt_cmpR op_eq (pe_cG c__law_take.fn hgd (hr.mono (by decide)) (by rfl) c__law_take.mg c__law_take.kp c__law_take.b .nil VS.pass0 (pa_cons (pv 0) (pa_cons pe_int pa_nil))) pe_int (nomark _)))) (fun _ _ _ _ _ => (pv 11)))
      (pss_one (ps_ret (pe_lst (pa_cons (pv 1) (pa_cons (pv 7) (pa_cons (pv 5) (pa_cons (pv 8) (pa_cons (pv 9) (pa_cons (pv 10) pa_nil)))))))))))))))), ?_⟩
    (try dsimp only [cxOf, List.map])
    show VX _ _ [_, _, _, _, _, _, _, _, _, _, _, _] _ _
    walk_at "gr"
    refine ve_lst ?_
    walk_at "gr"
    intro t S1 t0 t1 h1 o1
    walk_at "gr"
    intro u S2 u0 u1 h2 o2
    have o2 := o1.trans o2
    clear h1 o1
    refine rv_ixAll (fun d => ∃ v : Int, d = .int v ∧ 1 ≤ v ∧ v ≤ 1000) u0 u1 (ac ⟨_, rfl, by decide, by decide⟩ (ac ⟨_, rfl, by decide, by decide⟩ (ac ⟨_, rfl, by decide, by decide⟩ (ac ⟨_, rfl, by omega, by omega⟩ an)))) ?_
    rintro _ ⟨wl, rfl, w0, w1⟩
    walk_at "gr"
    refine ve_lst ?_
    refine va_nil ?_
    refine ⟨by show 0 ≤ sizeLine; omega, vg_name ?_⟩
    have cm := (o2 mm (Ne.symm npm)).trans hm
    refine vx_join (fun ρ2 S3 => ∃ b : D, Bas b ∧ Pu S3 p (n + 5) ∧ Off p S S3 ∧ ρ2 = [some (.ref p), some (.str nm), some (.ref mm), some (.int sp), some (.bl dp), some (.int wl), some b, none, none, none, none, none]) ?_ ?_
    · walk_at "gr"
      refine ve_lst ?_
      walk_at "gr"
      cases rs with
      | nil =>
        walk_at "gr"
        exact ⟨.lst [], .inl rfl, h2.mono (by omega), o2, rfl⟩
      | cons r0 rs =>
        walk_at "gr"
        refine ve_lst ?_
        walk_at "gr"
        have hlen : ((List.map rwD (r0 :: rs)).length : Int) = (rs.length : Int) + 1 := by rw [List.length_map, List.length_cons]; omega
        rw [hlen]
        have hl : rs.length + 1 ≤ 100 := hl
        walk_at "gr"
        intro v S3 v0 v1 h3 o3
        have cm := (o3 mm (Ne.symm npm)).trans cm
        have o3 := o2.trans o3
        clear h2 o2
        walk_at "gr"
        have fin : ∀ (k : Int) (S4 : Sto), 0 ≤ k → k < 2 → Pu S4 p (n + 5) → Off p S S4 → S4 mm = some (.lst ((r0 :: rs).map rwD)) →
            ∀ (F : D → Sto → Prop), (∀ i, 0 ≤ i → i < (rs.length : Int) + 1 → F (.int i) S4) → RV ⟨K, fun _ => E, fun C fs _ S' => Y C fs S'⟩ (rIxL K) (.lst [.int ((rs.length : Int) + 1 - 1), .int v]) (.int k) S4 F := by
          intro k S4 k0 k1 _ _ _ F hF
          refine rv_ixAll (fun d => ∃ i : Int, d = .int i ∧ 0 ≤ i ∧ i < (rs.length : Int) + 1) k0 k1 (ac ⟨_, rfl, by omega, by omega⟩ (ac ⟨_, rfl, by omega, by omega⟩ an)) ?_
          rintro _ ⟨i, rfl, i0, i1⟩
          exact hF i i0 i1
        have fin2 : ∀ (i : Int) (S4 : Sto), 0 ≤ i → i < (rs.length : Int) + 1 → S4 mm = some (.lst ((r0 :: rs).map rwD)) → ∀ (F : D → Sto → Prop), (∀ r : Pc, Rwg r → F (rwD r) S4) → RV ⟨K, fun _ => E, fun C fs _ S' => Y C fs S'⟩ (rIxL K) (.ref mm) (.int i) S4 F := by
          intro i S4 i0 i1 c4 F hF
          obtain ⟨x, ea, r, rfl, hr⟩ := pick (fun d => ∃ r : Pc, d = rwD r ∧ Rwg r) (xs := (r0 :: rs).map rwD) (i := i) i0 (by rw [hlen]; exact i1) (fun x hx => by
            obtain ⟨r, hr, rfl⟩ := List.mem_map.mp hx
            exact ⟨r, rfl, hrs r hr⟩)
          exact rv_ixL (.c c4) ea (hF r hr)
        cases dp
        · walk_at "gr"
          intro z S4 z0 z1 h4 o4
          have cm := (o4 mm (Ne.symm npm)).trans cm
          have o4 := o3.trans o4
          walk_at "gr"
          refine fin _ S4 (by split <;> decide) (by split <;> decide) (h4.mono (by omega)) o4 cm _ fun i i0 i1 => ?_
          refine fin2 i S4 i0 i1 cm _ fun r hr => ?_
          walk_at "gr"
          exact ⟨_, .inr ⟨r.a, r.b, r.c, rfl, hr.1.a, hr.1.b, hr.1.c⟩, h4.mono (by omega), o4, rfl⟩
        · walk_at "gr"
          refine fin2 _ S3 (by omega) (by omega) cm _ fun r hr => ?_
          walk_at "gr"
          exact ⟨_, .inr ⟨r.a, r.b, r.c, rfl, hr.1.a, hr.1.b, hr.1.c⟩, h3.mono (by omega), o3, rfl⟩
    rintro _ S3 ⟨b, hb, h3, o3, rfl⟩
    clear h2 o2 cm t0 t1 u0 u1
    walk_at "gr"
    refine ⟨p, _, _, b, dp, rfl, h3, by omega, hb, by omega, by omega, fun a b' c S4 ha hb' hc h4 o4 => ?_⟩
    have o4 := o3.ex1.trans o4
    clear h3 o3 hp hm
    walk_at "gr"
    refine ve_lst ?_
    walk_at "gr"
    intro t S5 t0 t1 h5 o5
    walk_at "gr"
    intro t' S6 t0' t1' h6 o6
    walk_at "gr"
    intro u S7 u0 u1 h7 o7
    have o7 := o4.trans ((o5.trans o6).trans o7).ex1
    clear h4 h5 h6 o4 o5 o6
    refine rv_ixAll (fun d => ∃ v : Int, d = .int v ∧ 0 ≤ v ∧ v ≤ 100000) u0 u1 (ac ⟨_, rfl, by decide, by decide⟩ (ac ⟨_, rfl, by omega, by omega⟩ (ac ⟨_, rfl, by omega, by omega⟩ (ac ⟨_, rfl, by decide, by decide⟩ an)))) ?_
    rintro _ ⟨wt, rfl, wt0, wt1⟩
    clear t0 t1 t0' t1' u0 u1
    walk_at "gr"
    refine ve_lst ?_
    walk_at "gr"
    intro t S5 t0 t1 h5 o5
    walk_at "gr"
    intro t' S6 t0' t1' h6 o6
    walk_at "gr"
    intro u S8 u0 u1 h8 o8
    have o8 := o7.trans ((o5.trans o6).trans o8).ex1
    clear h5 h6 h7 o5 o6 o7
    refine rv_ixAll (fun d => ∃ v : Int, d = .int v ∧ 0 ≤ v ∧ v ≤ 100000) u0 u1 (ac ⟨_, rfl, by decide, by decide⟩ (ac ⟨_, rfl, by omega, by omega⟩ (ac ⟨_, rfl, by omega, by omega⟩ (ac ⟨_, rfl, by decide, by decide⟩ an)))) ?_
    rintro _ ⟨br, rfl, br0, br1⟩
    clear t0 t1 t0' t1' u0 u1
    have h8 : Pu S8 p (n + 35) := h8.mono (by omega)
    walk_at "gr"
    refine ve_lc (vi_list ?_)
    walk_at "gr"
    refine ve_lst ?_
    walk_at "gr"
    refine ⟨_, .v, by show 3 ≤ 100000; decide, fun i acc S2 => ∃ x y z, acc = (mk3 x y z).map D.str ∧ (i ≤ 0 → x = false) ∧ (i ≤ 1 → y = false) ∧ (i ≤ 2 → z = false) ∧ Pu S2 p (n + 35 + (i : Nat)) ∧ Ex1 p S S2, ⟨false, false, false, rfl, fun _ => rfl, fun _ => rfl, fun _ => rfl, h8.mono (by omega), o8⟩, ?_, ?_⟩
    · rintro i d acc S2 hd ⟨x, y, z, rfl, hx, hy, hz, h2, o2⟩ _
      have hi : i < 3 := (List.getElem?_eq_some_iff.mp hd).1
      walk_at "gr"
      intro t S3 t0 t1 h3 o3
      have o3 := o2.trans o3.ex1
      match i, hd with
      | 0, hd =>
        cases hd
        have h3 : Pu S3 p (n + 35 + ((0 + 1 : Nat) : Int)) := h3.mono (by omega)
        obtain rfl := hx (Nat.le_refl _)
        obtain rfl := hy (by omega)
        obtain rfl := hz (by omega)
        walk_at "gr"
        refine ⟨fun e => ?_, fun e => ?_⟩
        · walk_at "gr"
          exact ⟨true, false, false, rfl, fun z => by omega, fun _ => rfl, fun _ => rfl, h3, o3⟩
        · exact ⟨false, false, false, rfl, fun z => by omega, fun _ => rfl, fun _ => rfl, h3, o3⟩
      | 1, hd =>
        cases hd
        have h3 : Pu S3 p (n + 35 + ((1 + 1 : Nat) : Int)) := h3.mono (by omega)
        obtain rfl := hy (by omega)
        obtain rfl := hz (by omega)
        walk_at "gr"
        refine ⟨fun e => ?_, fun e => ?_⟩
        · walk_at "gr"
          exact ⟨x, true, false, by cases x <;> rfl, fun z => by omega, fun z => by omega, fun _ => rfl, h3, o3⟩
        · exact ⟨x, false, false, rfl, fun z => by omega, fun z => by omega, fun _ => rfl, h3, o3⟩
      | 2, hd =>
        cases hd
        have h3 : Pu S3 p (n + 35 + ((2 + 1 : Nat) : Int)) := h3.mono (by omega)
        obtain rfl := hz (by omega)
        walk_at "gr"
        refine ⟨fun e => ?_, fun e => ?_⟩
        · walk_at "gr"
          exact ⟨x, y, true, by cases x <;> cases y <;> rfl, fun z => by omega, fun z => by omega, fun z => by omega, h3, o3⟩
        · exact ⟨x, y, false, rfl, fun z => by omega, fun z => by omega, fun z => by omega, h3, o3⟩
      | k + 3, hd => cases hd
    rintro acc S2 ⟨x, y, z, rfl, hx, hy, hz, h2, o2⟩ _
    have h2 : Pu S2 p (n + 50) := h2.mono (by show n + 35 + ((3 : Nat) : Int) ≤ _; omega)
    walk_at "gr"
    refine ve_lst ?_
    walk_at "gr"
    exact q ⟨nm, a, b', c, wl, wt, br, mk3 x y z⟩ S2 rfl ⟨⟨hnm.ok, hnm.1.1, ha, hb', hc, ⟨w0, w1⟩, ⟨wt0, wt1⟩, ⟨br0, br1⟩, mk3_mk x y z⟩, mk3_of x y z⟩ h2 o2
end
end LW
namespace LW
open PySem L2 C8 PySem.Spec PyProof.Rows VS
/-! ### the law's rows put together; parcels and heaps made of them -/
theorem Hrs.ins {fs : List Pc} {r : Pc} {n : Nat} (h : Hrs fs) (g : Rwg r) (hn : r.nm ∉ fs.map Pc.nm) (l : fs.length < 12) : Hrs (fs.take n ++ [r] ++ fs.drop n) := by
  have pm : (fs.take n ++ [r] ++ fs.drop n).Perm (r :: fs) := by
    have h1 : (fs.take n ++ [r] ++ fs.drop n).Perm (r :: (fs.take n ++ fs.drop n)) := by
      rw [List.append_assoc]
      exact List.perm_middle
    rwa [List.take_append_drop] at h1
  refine ⟨fun x hx => ?_, ?_, by rw [pm.length_eq]; exact l⟩
  · rcases List.mem_cons.mp (pm.mem_iff.mp hx) with rfl | hx
    · exact g
    · exact h.g x hx
  · rw [(pm.map Pc.nm).nodup_iff, List.map_cons, List.nodup_cons]
    exact ⟨hn, h.n⟩
theorem ins_perm {fs : List Pc} {r : Pc} {n : Nat} : (fs.take n ++ [r] ++ fs.drop n).Perm (r :: fs) := by
  have h1 : (fs.take n ++ [r] ++ fs.drop n).Perm (r :: (fs.take n ++ fs.drop n)) := by
    rw [List.append_assoc]
    exact List.perm_middle
  rwa [List.take_append_drop] at h1
/-- Parcel(..) of good things, by value -/
theorem ve_mkPc {c : VS.Ctx} {ρ : Rho} {S : Sto} {F : D → Sto → Prop} {t : TA} {E : L2.St → XK} {CP CS : Addr}
    (h : VA c t ρ S fun ds S1 => ∃ nm a b d wl wt br mk, ds = [.str nm, sd CS a b d, .int wl, .int wt, .int br, .lst (mk.map D.str)] ∧ Pg nm a b d wl wt br mk ∧ F (pcD CP CS nm a b d wl wt br (mksOf mk)) S1) : VE c (tMakeE CP (spOf c.K (p_Pc_init CP CS)) [] E t) ρ S F :=
  ve_mk0 XOk.none (h.imp fun ds S1 ⟨nm, a, b, d, wl, wt, br, mk, e, g, q⟩ y hy => by
    subst e
    exact ⟨y, nm, a, b, d, wl, wt, br, mk, rfl, put_same, g, rfl, y, _, rfl, put_same, nofun, by rw [del_put2 hy]; exact q⟩)
local macro_rules | `(tactic| walk_at "gp") => `(tactic| with_reducible refine ve_mkPc ?_)
section
variable {P : Program} {w : World} {K : PySem.W.Frag} {mg : Str → Option Value} {base : Heap}
theorem ok__law_made {f : Addr} {fd : FuncData} {C_Sides C_Parcel C_Heap C_NoNumber C_NoSide : Addr} {f_Sides f_Parcel : Addr} {g_Sides g_Parcel : FuncData}
    (F : Fd K "_law_made" "_law_made" s__law_made [] f fd) (T : Tx K mg) (hsys : SysOk base)
    (c_Sides : Kf P w K mg base 3 "Sides" C_Sides "Sides.__init__" s_Sides___init__ [] a_Sides___init__ (p_Sides_init K C_Sides C_NoSide) f_Sides g_Sides)
    (c_Parcel : Kf P w K mg base 3 "Parcel" C_Parcel "Parcel.__init__" s_Parcel___init__ [.int 1, .int 0, .int 0, .non] a_Parcel___init__ (p_Pc_init C_Parcel C_Sides) f_Parcel g_Parcel)
    (k_Sides : Kl_Sides K mg C_Sides)
    (k_Parcel : Kl_Parcel K mg C_Parcel) :
    FnG P w K mg base (L2.CX P w) 5 f fd a__law_made (spOf K (p_made C_Parcel C_Sides)) := by
  have kc_Sides := k_Sides.ins.cl
  have ka_Sides_three := k_Sides.a_three
  have kc_Parcel := k_Parcel.ins.cl
  have ka_Parcel_called := k_Parcel.a_called
  have ka_Parcel_outside := k_Parcel.a_outside
  have ka_Parcel_thick := k_Parcel.a_thick
  have ka_Parcel_heavy := k_Parcel.a_heavy
  have ka_Parcel_strong := k_Parcel.a_strong
  have ka_Parcel_marks := k_Parcel.a_marks
  have ka_Parcel_told := k_Parcel.a_told
  have ka_Parcel_names := k_Parcel.a_names
  refine fn_val F sc__law_made (fun ds S G Y h => ?_) (fun cdv A hgd outer s H E hr px tk po ds S G Y h => ?_)
  · obtain ⟨r, rfl, _⟩ := h
    rfl
  · obtain ⟨r, rfl, ⟨g, e⟩, q⟩ := h
    refine ⟨_, (pss_cons (ps_set (i := 1) sc__law_made.nd rfl (Or.inl rfl) (pe_kG c_Sides.mk_ c_Sides.fn hgd (hr.mono (by decide)) (by rfl) c_Sides.mg  c_Sides.b .nil VS.pass0 (pa_cons (pe_ix ix_list (pe_ix ix_list (pv 0) pe_int (fun _ _ => rfl)) pe_int (fun _ _ => rfl)) (pa_cons (pe_ix ix_list (pe_ix ix_list (pv 0) pe_int (fun _ _ => rfl)) pe_int (fun _ _ => rfl)) (pa_cons (pe_ix ix_list (pe_ix ix_list (pv 0) pe_int (fun _ _ => rfl)) pe_int (fun _ _ => rfl)) pa_nil)))))
      (pss_one (ps_ret (pe_kG c_Parcel.mk_ c_Parcel.fn hgd (hr.mono (by decide)) (by rfl) c_Parcel.mg  c_Parcel.b .nil VS.pass0 (pa_cons (pe_ix ix_list (pv 0) pe_int (fun _ _ => rfl)) (pa_cons (pv 1) (pa_cons (pe_ix ix_list (pv 0) pe_int (fun _ _ => rfl)) (pa_cons (pe_ix ix_list (pv 0) pe_int (fun _ _ => rfl)) (pa_cons (pe_ix ix_list (pv 0) pe_int (fun _ _ => rfl)) (pa_cons (pe_ix ix_list (pv 0) pe_int (fun _ _ => rfl)) pa_nil)))))))))), ?_⟩
    (try dsimp only [cxOf, List.map])
    show VX _ _ [_, _] _ _
    have ga := g.a
    have gb := g.b
    have gc := g.c
    unfold rwD
    walk_at "gr"
    refine ⟨r.nm, r.a, r.b, r.c, r.wl, r.wt, r.br, r.mk, rfl, g, ?_⟩
    rw [e]
    exact q
end
end LW
namespace LW
open PySem L2 C8 PySem.Spec PyProof.Rows VS
/-! ### the law's rows by reference -/
def p_rowsR : Pt := fun ds S G _ => ∃ (p : Addr) (n sp : Int), ds = [.ref p, .int sp] ∧ Pu S p n ∧ n < 600000 ∧ 0 ≤ sp ∧ sp ≤ 1000 ∧ ∀ l rs S', Hrs rs → S l = none → p ≠ l → S' l = some (.lst (rs.map rwD)) → Pu S' p (n + 1000) → Ex1 p S S' → G (.ref l) S'
def p_heapR (CH CP CS : Addr) : Pt := fun ds S G _ => ∃ (r : Addr) (rs : List Pc), ds = [.ref r] ∧ S r = some (.lst (rs.map rwD)) ∧ Hrs rs ∧ ∀ h l S', S h = none → S l = none → Ext S S' → HpS S' CH CP CS h l rs → G (.ref h) S'
local macro_rules | `(tactic| walk_at "gp") => `(tactic| with_reducible refine ve_mkPc ?_)
section
variable {P : Program} {w : World} {K : PySem.W.Frag} {mg : Str → Option Value} {base : Heap}
theorem ok__law_rows {f : Addr} {fd : FuncData} {C_Sides C_Parcel C_Heap C_NoNumber C_NoSide : Addr} {f__law_take f__law_names f__law_row : Addr} {g__law_take g__law_names g__law_row : FuncData}
    (F : Fd K "_law_rows" "_law_rows" s__law_rows [] f fd) (T : Tx K mg) (hsys : SysOk base)
    (c__law_take : Cf P w K mg base (L2.CX P w) 1 "_law_take" s__law_take [] a__law_take p__law_take f__law_take g__law_take)
    (c__law_names : Cf P w K mg base (L2.CX P w) 2 "_law_names" s__law_names [] a__law_names p__law_names f__law_names g__law_names)
    (c__law_row : Cf P w K mg base (L2.CX P w) 3 "_law_row" s__law_row [] a__law_row p__law_row f__law_row g__law_row) :
    FnG P w K mg base (L2.CX P w) 4 f fd a__law_rows (spOf K p_rowsR) := by
  refine fn_val F sc__law_rows (fun ds S G Y h => ?_) (fun cdv A hgd outer s H E hr px tk po ds S G Y h => ?_)
  · obtain ⟨p, n, sp, rfl, _⟩ := h
    rfl
  · obtain ⟨p, n, sp, rfl, hp, hn, sp0, sp1, q⟩ := h
    refine ⟨_, (pss_cons (ps_set (i := 2) sc__law_rows.nd rfl (Or.inl rfl) (pe_ix ix_list (pe_lst (pa_cons (pe_cG c__law_take.fn hgd (hr.mono (by decide)) (by rfl) c__law_take.mg c__law_take.kp c__law_take.b .nil VS.pass0 (pa_cons (pv 0) (pa_cons pe_int pa_nil))) (pa_cons pe_int (pa_cons (pe_cG c__law_take.fn hgd (hr.mono (by decide)) (by rfl) c__law_take.mg c__law_take.kp c__law_take.b .nil VS.pass0 (pa_cons (pv 0) (pa_cons pe_int pa_nil))) (pa_cons (pe_op op_add pe_int (pe_cG c__law_take.fn hgd (hr.mono (by decide)) (by rfl) c__law_take.mg c__law_take.kp c__law_take.b .nil VS.pass0 (pa_cons (pv 0) (pa_cons pe_int pa_nil)))) pa_nil))))) (pe_cG c__law_take.fn hgd (hr.mono (by decide)) (by rfl) c__law_take.mg c__law_take.kp c__law_take.b .nil VS.pass0 (pa_cons (pv 0) (pa_cons pe_int pa_nil))) (fun _ _ => rfl)))
      (pss_cons (ps_set (i := 3) sc__law_rows.nd rfl (Or.inl rfl) (pe_cmpR op_eq (pe_cG c__law_take.fn hgd (hr.mono (by decide)) (by rfl) c__law_take.mg c__law_take.kp c__law_take.b .nil VS.pass0 (pa_cons (pv 0) (pa_cons pe_int pa_nil))) pe_int (nomark _)))
      (pss_cons (ps_par (i := 4) (j := 5) (by rfl) sc__law_rows.nd rfl rfl (by decide) rfl rfl (pa_cons (pe_lst pa_nil) (pa_cons (pe_lst pa_nil) pa_nil)) (by rfl))
      (pss_cons (ps_for po rfl (pi_list (pe_cG c__law_names.fn hgd (hr.mono (by decide)) (by rfl) c__law_names.mg c__law_names.kp c__law_names.b .nil VS.pass0 (pa_cons (pv 0) (pa_cons (pv 2) pa_nil)))) (pg_name (i := 6) sc__law_rows.nd rfl (Or.inl rfl))
      (pss_cons (ps_set (i := 7) sc__law_rows.nd rfl (Or.inl rfl) (pe_cG c__law_row.fn hgd (hr.mono (by decide)) (by rfl) c__law_row.mg c__law_row.kp c__law_row.b .nil VS.pass0 (pa_cons (pv 0) (pa_cons (pv 6) (pa_cons (pv 4) (pa_cons (pv 1) (pa_cons (pv 3) pa_nil)))))))
      (pss_cons (ps_expr (pe_bm PySem.F.plainAttrs_list PySem.F.slot_list_append PySem.F.type_list_append mt_append (pv 4) (pa_cons (pv 7) pa_nil)))
      (pss_one (ps_expr (pe_bm PySem.F.plainAttrs_list PySem.F.slot_list_insert PySem.F.type_list_insert mt_insertV (pv 5) (pa_cons (pe_cG c__law_take.fn hgd (hr.mono (by decide)) (by rfl) c__law_take.mg c__law_take.kp c__law_take.b .nil VS.pass0 (pa_cons (pv 0) (pa_cons (pe_op op_add (pe_callB c_len (by rfl) T.b_len (by decide +kernel) (pa_cons (pv 5) pa_nil)) pe_int) pa_nil))) (pa_cons (pv 7) pa_nil))))))))
      (pss_one (ps_ret (pv 5))))))), ?_⟩
    (try dsimp only [cxOf, List.map])
    show VX _ _ [_, _, _, _, _, _, _, _] _ _
    walk_at "gr"
    refine ve_lst ?_
    walk_at "gr"
    intro t S1 t0 t1 h1 o1
    walk_at "gr"
    intro u S2 u0 u1 h2 o2
    walk_at "gr"
    intro v S3 v0 v1 h3 o3
    walk_at "gr"
    intro x S4 x0 x1 h4 o4
    have o4 := ((o1.trans o2).trans o3).trans o4
    clear h1 h2 h3 o1 o2 o3
    refine rv_ixAll (fun d => ∃ m : Int, d = .int m ∧ 0 ≤ m ∧ m ≤ 12) x0 x1 (ac ⟨_, rfl, by omega, by omega⟩ (ac ⟨_, rfl, by decide, by decide⟩ (ac ⟨_, rfl, by omega, by omega⟩ (ac ⟨_, rfl, by omega, by omega⟩ an)))) ?_
    rintro _ ⟨m, rfl, m0, m1⟩
    clear t0 t1 u0 u1 v0 v1 x0 x1
    walk_at "gr"
    intro t S5 t0 t1 h5 o5
    have o5 := o4.trans o5
    clear h4 o4
    walk_at "gr"
    refine ve_lstc ?_
    walk_at "gr"
    intro ml hml
    walk_at "gr"
    refine ve_lstc ?_
    walk_at "gr"
    intro fl hfl
    have npm := h5.ne hml
    have h6 : Pu (put S5 ml (.lst [])) p (n + 10) := (h5.put hml).mono (by omega)
    have npf := h6.ne hfl
    have nmf : ml ≠ fl := fun z => by subst z; rw [put_same] at hfl; cases hfl
    have h7 : Pu (put (put S5 ml (.lst [])) fl (.lst [])) p (n + 10) := h6.put hfl
    have cm : (put (put S5 ml (.lst [])) fl (.lst [])) ml = some (.lst []) := by rw [put_ne nmf]; exact put_same
    have cf : (put (put S5 ml (.lst [])) fl (.lst [])) fl = some (.lst []) := put_same
    have o7 : Ex1 p S (put (put S5 ml (.lst [])) fl (.lst [])) := (o5.ex1.new hml).new hfl
    have sm : S ml = none := by rw [← o5 ml (Ne.symm npm)]; exact hml
    have sf : S fl = none := by
      rw [put_ne (Ne.symm nmf)] at hfl
      rw [← o5 fl (Ne.symm npf)]
      exact hfl
    generalize put (put S5 ml (.lst [])) fl (.lst []) = S7 at h7 cm cf o7 ⊢
    clear h5 h6 o5 hml hfl
    walk_at "gr"
    refine vx_for (vi_list ?_)
    walk_at "gr"
    refine ⟨p, _, m, rfl, h7, by omega, m0, m1, fun zs S8 lz hz nz h8 o8 => ?_⟩
    have cm := o8 _ _ (Ne.symm npm) cm
    have cf := o8 _ _ (Ne.symm npf) cf
    have o8 := o7.trans o8
    clear h7 o7
    walk_at "gr"
    refine ⟨_, .v, fun i ρ2 S2 => ∃ (rs fs : List Pc) (x6 x7 : Option D), ρ2 = [some (.ref p), some (.int sp), some (.int m), some (.bl (decide (t = 0))), some (.ref ml), some (.ref fl), x6, x7] ∧ S2 ml = some (.lst (rs.map rwD)) ∧ S2 fl = some (.lst (fs.map rwD)) ∧ (∀ r ∈ rs, Rwg r) ∧ rs.length ≤ i ∧ Hrs fs ∧ (fs.map Pc.nm).Perm (zs.take i) ∧ Pu S2 p (n + 40 + 60 * (i : Nat)) ∧ Ex1 p S S2,
      ⟨[], [], _, _, rfl, cm, cf, nofun, Nat.le_refl _, ⟨nofun, by simp, by decide⟩, .nil, h8.mono (by omega), o8⟩, ?_, ?_⟩
    · clear h8 o8 cm cf
      rintro i d ρ2 S2 hd ⟨rs, fs, x6, x7, rfl, cm, cf, hrs, hl, hfs, hpm, h9, o9⟩
      rw [List.getElem?_map] at hd
      cases ez : zs[i]? with
      | none => rw [ez] at hd; cases hd
      | some z =>
        rw [ez] at hd
        cases hd
        have hi : i < zs.length := (List.getElem?_eq_some_iff.mp ez).1
        have tk : zs.take (i + 1) = zs.take i ++ [z] := by rw [List.take_succ, ez]; rfl
        have lf : fs.length = i := by
          have := hpm.length_eq
          rw [List.length_map, List.length_take] at this
          omega
        walk_at "gr"
        refine ⟨p, ml, _, sp, z, _, rs, rfl, h9, by omega, cm, npm, hrs, by omega, hz z (List.mem_of_getElem? ez), sp0, sp1, fun r S10 en hr1 h10 o10 => ?_⟩
        have cm := o10 _ _ (Ne.symm npm) cm
        have cf := o10 _ _ (Ne.symm npf) cf
        have o10 := o9.trans o10
        clear h9 o9
        walk_at "gr"
        refine rm_append cm (by rw [List.length_map]; have := szl; omega) ?_
        have cf : (VS.put S10 ml (.lst (rs.map rwD ++ [rwD r]))) fl = _ := (put_ne (Ne.symm nmf)).trans cf
        have cm : (VS.put S10 ml (.lst (rs.map rwD ++ [rwD r]))) ml = some (.lst ((rs ++ [r]).map rwD)) := by rw [put_same, List.map_append]; rfl
        have h11 := h10.wr (d := .lst (rs.map rwD ++ [rwD r])) npm
        have o11 := o10.wr2 (d := .lst (rs.map rwD ++ [rwD r])) sm
        generalize VS.put S10 ml (.lst (rs.map rwD ++ [rwD r])) = S11 at cf cm h11 o11 ⊢
        clear h10 o10
        walk_at "gr"
        refine take_ok h11 (by omega) (by rw [List.length_map]; omega) (by rw [List.length_map]; omega) fun k S12 k0 k1 h12 o12 => ?_
        have cm := (o12 ml (Ne.symm npm)).trans cm
        have cf := (o12 fl (Ne.symm npf)).trans cf
        have o12 := o11.trans o12.ex1
        clear h11 o11
        obtain ⟨k, rfl⟩ := Int.eq_ofNat_of_zero_le k0
        rw [List.length_map] at k1
        walk_at "gr"
        refine rm_insert (n := k) cf rfl (by rw [List.length_map]; omega) (by rw [List.length_map]; have := szl; omega) ?_
        have em : (fs.map rwD).take k ++ [rwD r] ++ (fs.map rwD).drop k = (fs.take k ++ [r] ++ fs.drop k).map rwD := by
          rw [List.map_append, List.map_append, List.map_take, List.map_drop]; rfl
        rw [em]
        have nn : r.nm ∉ fs.map Pc.nm := by
          rw [en]
          intro hzm
          have hzt := hpm.mem_iff.mp hzm
          have hn2 : (zs.take (i + 1)).Nodup := nz.sublist (List.take_sublist _ _)
          rw [tk, List.nodup_append] at hn2
          exact hn2.2.2 _ hzt _ (List.mem_singleton.mpr rfl) rfl
        refine ⟨rs ++ [r], fs.take k ++ [r] ++ fs.drop k, _, _, rfl, (put_ne nmf).trans cm, put_same, fun x hx => ?_, by rw [List.length_append]; show _ + 1 ≤ _; omega, hfs.ins hr1 nn (by omega), ?_, (h12.wr npf).mono (by omega), o12.wr2 sf⟩
        · rcases List.mem_append.mp hx with hx | hx
          · exact hrs x hx
          · rw [List.mem_singleton.mp hx]; exact hr1
        · rw [tk]
          refine ((ins_perm).map Pc.nm).trans ?_
          rw [List.map_cons, en]
          exact (hpm.cons z).trans (List.perm_append_comm (l₁ := [z]))
    · rintro ρ2 S2 ⟨rs, fs, x6, x7, rfl, cm, cf, hrs, hl, hfs, hpm, h9, o9⟩
      rw [List.length_map] at h9
      walk_at "gr"
      exact q fl fs S2 hfs sf npf cf (h9.mono (by omega)) o9
theorem ok__law_heap {f : Addr} {fd : FuncData} {C_Sides C_Parcel C_Heap C_NoNumber C_NoSide : Addr} {f_Heap f_Heap_put f__law_made : Addr} {g_Heap g_Heap_put g__law_made : FuncData}
    (F : Fd K "_law_heap" "_law_heap" s__law_heap [] f fd) (T : Tx K mg) (hsys : SysOk base)
    (c_Heap : Kf P w K mg base 1 "Heap" C_Heap "Heap.__init__" s_Heap___init__ [] a_Heap___init__ (p_Hp_init C_Heap) f_Heap g_Heap)
    (c_Heap_put : Mf P w K mg base 3 C_Heap "put" "Heap.put" s_Heap_put [.non] a_Heap_put (p_Hp_putA C_Heap C_Parcel C_Sides) f_Heap_put g_Heap_put)
    (d_Heap_put2 : Bd K g_Heap_put a_Heap_put [.non])
    (c__law_made : Cf P w K mg base (L2.CX P w) 5 "_law_made" s__law_made [] a__law_made (p_made C_Parcel C_Sides) f__law_made g__law_made)
    (k_Heap : Kl_Heap K mg C_Heap)
    (k_Parcel : Kl_Parcel K mg C_Parcel)
    (k_Sides : Kl_Sides K mg C_Sides) :
    FnG P w K mg base (L2.CX P w) 6 f fd a__law_heap (spOf K (p_heapR C_Heap C_Parcel C_Sides)) := by
  have kc_Heap := k_Heap.ins.cl
  have ka_Heap_held := k_Heap.a_held
  have ka_Heap_told := k_Heap.a_told
  have ka_Heap_kind := k_Heap.a_kind
  have kc_Parcel := k_Parcel.ins.cl
  have ka_Parcel_called := k_Parcel.a_called
  have ka_Parcel_outside := k_Parcel.a_outside
  have ka_Parcel_thick := k_Parcel.a_thick
  have ka_Parcel_heavy := k_Parcel.a_heavy
  have ka_Parcel_strong := k_Parcel.a_strong
  have ka_Parcel_marks := k_Parcel.a_marks
  have ka_Parcel_told := k_Parcel.a_told
  have ka_Parcel_names := k_Parcel.a_names
  have kc_Sides := k_Sides.ins.cl
  have ka_Sides_three := k_Sides.a_three
  refine fn_val F sc__law_heap (fun ds S G Y h => ?_) (fun cdv A hgd outer s H E hr px tk po ds S G Y h => ?_)
  · obtain ⟨r0, rs, rfl, _⟩ := h
    rfl
  · obtain ⟨r0, rs, rfl, hr0, hrs, q⟩ := h
    refine ⟨_, (pss_cons (ps_set (i := 1) sc__law_heap.nd rfl (Or.inl rfl) (pe_kG0 c_Heap.mk_ c_Heap.fn hgd (hr.mono (by decide)) (by rfl) c_Heap.mg  c_Heap.b .nil VS.pass0))
      (pss_cons (ps_for po rfl (pi_list (pv 0)) (pg_name (i := 2) sc__law_heap.nd rfl (Or.inl rfl))
      (pss_one (ps_expr (pe_mG (pv 1) c_Heap_put.cl c_Heap_put.me c_Heap_put.fn hgd (hr.mono (by decide)) d_Heap_put2.b d_Heap_put2.v VS.pass0 (pa_cons (pe_cG c__law_made.fn hgd (hr.mono (by decide)) (by rfl) c__law_made.mg c__law_made.kp c__law_made.b .nil VS.pass0 (pa_cons (pv 2) pa_nil)) pa_nil)))))
      (pss_one (ps_ret (pv 1))))), ?_⟩
    (try dsimp only [cxOf, List.map])
    show VX _ _ [_, _, _] _ _
    refine vx_seq (vx_asg ?_)
    refine ve_mkHp ?_
    refine va_nil ?_
    refine ⟨rfl, fun h' l' S1 nh nl x1 a1 a2 => ?_⟩
    have hr1 := x1 _ _ hr0
    have nhr : h' ≠ r0 := fun z => by rw [z, hr0] at nh; cases nh
    have nlr : l' ≠ r0 := fun z => by rw [z, hr0] at nl; cases nl
    walk_at "gr"
    refine vx_forCellL hr1 ?_ (fun k ρ2 S2 => Ext (VS.del S r0) S2 ∧ HpS S2 C_Heap C_Parcel C_Sides h' l' (rs.take k) ∧ ∃ x2, ρ2 = [some (.ref r0), some (.ref h'), x2]) ⟨?_, ⟨(VS.del_ne nhr).trans a1, (VS.del_ne nlr).trans a2⟩, _, rfl⟩ ?_ ?_
    · walk_at "gr"
      exact ⟨rfl, rfl⟩
    · intro a d e
      have ne : a ≠ r0 := fun z => by rw [z, VS.del_same] at e; cases e
      rw [VS.del_ne ne] at e ⊢
      exact x1 _ _ e
    · rintro k d ρ2 S2 hd ⟨x2, hs2, x3, rfl⟩
      rw [List.getElem?_map] at hd
      cases e : rs[k]? with
      | none => rw [e] at hd; cases hd
      | some r =>
        rw [e] at hd
        cases hd
        have hk : k < rs.length := (List.getElem?_eq_some_iff.mp e).1
        have h12 := hrs.l
        have tk : rs.take (k + 1) = rs.take k ++ [r] := by rw [List.take_succ, e]; rfl
        have c1 := hs2.1
        walk_at "gr"
        refine ve_mt (dds := [.non]) (XOk.none (E := noE)) (fun _ _ => .cons .non .nil) ?_
        walk_at "gr"
        refine ⟨r, rfl, hrs.g r (List.mem_of_getElem? e), ?_⟩
        walk_at "gr"
        refine put_end ⟨h', l', rs.take k, r, rfl, hs2, ?_, ?_, ?_⟩
        · have : (rs.take k).length ≤ k := by rw [List.length_take]; omega
          omega
        · have hn := hrs.n
          have es : rs.map Pc.nm = (rs.take (k + 1)).map Pc.nm ++ (rs.drop (k + 1)).map Pc.nm := by rw [← List.map_append, List.take_append_drop]
          rw [es, tk, List.map_append, List.nodup_append] at hn
          have hn := hn.1
          rw [List.nodup_append] at hn
          exact fun z => hn.2.2 _ z _ (List.mem_singleton.mpr rfl) rfl
        · refine ⟨Ext.wr (by rw [VS.del_ne nlr]; exact nl) x2, ?_, _, rfl⟩
          rw [tk]
          exact hs2.set
    · rintro ρ2 S2 ⟨x2, hs2, x3, rfl⟩
      rw [List.length_map, List.take_length] at hs2
      walk_at "gr"
      refine q h' l' _ nh nl ?_ (hs2.wr nhr nlr)
      intro a d e
      by_cases z : a = r0
      · subst z
        rw [put_same, ← hr0]
        exact e
      · rw [put_ne z]
        exact x2 _ _ (by rw [VS.del_ne z]; exact e)
end
end LW
namespace LW
open PySem L2 C8 PySem.Spec PyProof.Rows VS
/-! ### lists of texts compared; perms -/
theorem eqvL_strs2 : ∀ {ms ns : List Str}, PyData.eqvAll (pdL (ms.map D.str)) (pdL (ns.map D.str)) = decide (ms = ns)
  | [], [] => rfl
  | [], _ :: _ => rfl
  | _ :: _, [] => rfl
  | a :: ms, b :: ns => by
    show ((a == b) && PyData.eqvAll (pdL (ms.map D.str)) (pdL (ns.map D.str))) = _
    rw [eqvL_strs2]
    by_cases h : a = b
    · subst h
      by_cases h2 : ms = ns
      · subst h2; simp
      · simp [h2]
    · simp [h]
theorem ok_strB {n : Nat} {z : Str} (h : Asc n z) (hn : n ≤ 19) : Ok (.str z) 200 2 := ⟨(Sh.str h).mono (by omega) (by decide), by show ((pd (.str z)).canLay0 && decide ((pd (.str z)).depth ≤ 64)) = true; rw [asc_ok h.2]; rfl, nofun⟩
theorem ok_strs {ws : List Str} (h : ∀ z ∈ ws, Asc 19 z) (hl : ws.length ≤ 100) : Ok (.lst (ws.map D.str)) 30000 4 :=
  (Ok.lst 100 (n := 200) (k := 2) (fun y hy => by
    obtain ⟨z, hz, rfl⟩ := List.mem_map.mp hy
    exact ok_strB (h z hz) (by decide)) (by rw [List.length_map]; exact hl) (by decide)).mono (by decide) (by decide)
theorem rv_eqStrs {c : VS.Ctx} {S : Sto} {F : D → Sto → Prop} {x y : D} {ws vs : List Str} (hx : Vw S x (.lst (ws.map D.str))) (hy : Vw S y (.lst (vs.map D.str))) (h1 : ∀ z ∈ ws, Asc 19 z) (h2 : ∀ z ∈ vs, Asc 19 z) (l1 : ws.length ≤ 100) (l2 : vs.length ≤ 100) (q : F (.bl (decide (ws = vs))) S) : RV c (rEqP c.K) x y S F := by
  refine rv_eqP hx hy (isP_strs ws) (isP_strs vs) (ok_strs h1 l1).s (ok_strs h2 l2).s ?_
  rw [show PyData.eqv (pd (.lst (ws.map D.str))) (pd (.lst (vs.map D.str))) = PyData.eqvAll (pdL (ws.map D.str)) (pdL (vs.map D.str)) from rfl, eqvL_strs2]
  exact q
theorem Hps.perm {rs ts : List Pc} (h : Hps rs) (p : ts.Perm rs) : Hps ts := ⟨fun x hx => h.g x (p.mem_iff.mp hx), (p.map Pc.nm).nodup_iff.mpr h.n, by rw [p.length_eq]; exact h.l⟩
theorem Hps.asc {rs : List Pc} (h : Hps rs) {z : Str} (hz : z ∈ rs.map Pc.nm) : Asc 19 z := by
  obtain ⟨r, hr, rfl⟩ := List.mem_map.mp hz
  exact (Pg.asc (h.g r hr)).mono (by decide)
theorem Hps.nmlen {rs : List Pc} (h : Hps rs) : (rs.map Pc.nm).length ≤ 12 := by rw [List.length_map]; exact h.l
end LW
namespace LW
open PySem L2 C8 PySem.Spec PyProof.Rows VS
/-! ### a law's world: its purse, and what it keeps by reference -/
structure Wd (S : Sto) (p : Addr) (n : Int) (L : List (Addr × D)) : Prop where
  pu : Pu S p n
  at_ : ∀ x ∈ L, S x.1 = some x.2
  ne : ∀ x ∈ L, x.1 ≠ p
  nd : (L.map Prod.fst).Nodup
theorem Wd.of {S : Sto} {p : Addr} {n : Int} (h : Pu S p n) : Wd S p n [] := ⟨h, nofun, nofun, .nil⟩
theorem Wd.mono {S : Sto} {p : Addr} {n m : Int} {L : List (Addr × D)} (w : Wd S p n L) (h : n ≤ m) : Wd S p m L := ⟨w.pu.mono h, w.at_, w.ne, w.nd⟩
theorem Wd.ex1 {S S' : Sto} {p : Addr} {n m : Int} {L : List (Addr × D)} (w : Wd S p n L) (h : Pu S' p m) (o : Ex1 p S S') : Wd S' p m L := ⟨h, fun x hx => o _ _ (w.ne x hx) (w.at_ x hx), w.ne, w.nd⟩
theorem Wd.off {S S' : Sto} {p : Addr} {n m : Int} {L : List (Addr × D)} (w : Wd S p n L) (h : Pu S' p m) (o : Off p S S') : Wd S' p m L := w.ex1 h o.ex1
theorem Wd.ext {S S' : Sto} {p : Addr} {n : Int} {L : List (Addr × D)} (w : Wd S p n L) (x : Ext S S') : Wd S' p n L := ⟨w.pu.ext x, fun y hy => x _ _ (w.at_ y hy), w.ne, w.nd⟩
theorem Wd.get {S : Sto} {p : Addr} {n : Int} {L : List (Addr × D)} (w : Wd S p n L) (i : Nat) {a : Addr} {d : D} (e : L[i]? = some (a, d)) : S a = some d := w.at_ _ (List.mem_of_getElem? e)
theorem Wd.nep {S : Sto} {p : Addr} {n : Int} {L : List (Addr × D)} (w : Wd S p n L) (i : Nat) {a : Addr} {d : D} (e : L[i]? = some (a, d)) : p ≠ a := Ne.symm (w.ne _ (List.mem_of_getElem? e))
theorem Wd.nij {S : Sto} {p : Addr} {n : Int} {L : List (Addr × D)} (w : Wd S p n L) (i j : Nat) {a b : Addr} {d d' : D} (e : L[i]? = some (a, d)) (e' : L[j]? = some (b, d')) (h : i ≠ j) : a ≠ b := fun z => by
  subst z
  have h1 : (L.map Prod.fst)[i]? = some a := by rw [List.getElem?_map, e]; rfl
  have h2 : (L.map Prod.fst)[j]? = some a := by rw [List.getElem?_map, e']; rfl
  exact h ((List.getElem?_inj (by rw [List.length_map]; exact (List.getElem?_eq_some_iff.mp e).1) w.nd).mp (h1.trans h2.symm))
theorem Wd.free {S : Sto} {p : Addr} {n : Int} {L : List (Addr × D)} {l : Addr} (w : Wd S p n L) (hl : S l = none) : l ∉ L.map Prod.fst := fun z => by
  obtain ⟨x, hx, rfl⟩ := List.mem_map.mp z
  rw [w.at_ x hx] at hl
  cases hl
theorem Wd.new {S : Sto} {p l : Addr} {n : Int} {L : List (Addr × D)} {d : D} (w : Wd S p n L) (hl : S l = none) : Wd (put S l d) p n ((l, d) :: L) := by
  have hf := w.free hl
  refine ⟨w.pu.put hl, fun x hx => ?_, fun x hx => ?_, List.nodup_cons.mpr ⟨hf, w.nd⟩⟩
  · rcases List.mem_cons.mp hx with e | hx
    · rw [e]; exact put_same
    · rw [put_ne]
      · exact w.at_ x hx
      · exact fun z => hf (List.mem_map.mpr ⟨x, hx, z⟩)
  · rcases List.mem_cons.mp hx with e | hx
    · rw [e]; exact Ne.symm (w.pu.ne hl)
    · exact w.ne x hx
theorem Wd.new1 {S S' : Sto} {p l : Addr} {n m : Int} {L : List (Addr × D)} {d : D} (w : Wd S p n L) (hl : S l = none) (hp : Pu S' p m) (o : Ex1 p S S') (h : S' l = some d) : Wd S' p m ((l, d) :: L) := by
  have v := w.ex1 hp o
  refine ⟨v.pu, fun y hy => ?_, fun y hy => ?_, List.nodup_cons.mpr ⟨w.free hl, w.nd⟩⟩
  · rcases List.mem_cons.mp hy with e | hy
    · rw [e]; exact h
    · exact v.at_ y hy
  · rcases List.mem_cons.mp hy with e | hy
    · rw [e]; exact Ne.symm (w.pu.ne hl)
    · exact w.ne y hy
theorem Wd.wr {S : Sto} {p a : Addr} {n : Int} {L : List (Addr × D)} {d d' : D} (w : Wd S p n L) (i : Nat) (e : L[i]? = some (a, d)) : Wd (VS.put S a d') p n (L.set i (a, d')) := by
  refine ⟨w.pu.wr (w.nep i e), fun x hx => ?_, fun x hx => ?_, ?_⟩
  · obtain ⟨j, hj⟩ := List.getElem?_of_mem hx
    by_cases z : j = i
    · subst z
      rw [List.getElem?_set_self (List.getElem?_eq_some_iff.mp e).1] at hj
      cases hj
      exact put_same
    · rw [List.getElem?_set_ne (Ne.symm z)] at hj
      have hj' : L[j]? = some (x.1, x.2) := hj
      rw [put_ne (w.nij j i hj' e z)]
      exact w.get j hj'
  · rcases List.mem_or_eq_of_mem_set hx with hx | hx
    · exact w.ne x hx
    · rw [hx]; exact Ne.symm (w.nep i e)
  · have : (L.set i (a, d')).map Prod.fst = L.map Prod.fst := by
      refine List.ext_getElem? fun j => ?_
      rw [List.getElem?_map, List.getElem?_map]
      by_cases z : j = i
      · subst z
        rw [List.getElem?_set_self (List.getElem?_eq_some_iff.mp e).1, e]
        rfl
      · rw [List.getElem?_set_ne (Ne.symm z)]
    rw [this]
    exact w.nd
theorem Wd.sub {S : Sto} {p : Addr} {n : Int} {L M : List (Addr × D)} (w : Wd S p n L) (h : M.Sublist L) : Wd S p n M := ⟨w.pu, fun x hx => w.at_ x (h.subset hx), fun x hx => w.ne x (h.subset hx), w.nd.sublist (h.map _)⟩
theorem Wd.tl {S : Sto} {p : Addr} {n : Int} {x : Addr × D} {L : List (Addr × D)} (w : Wd S p n (x :: L)) : Wd S p n L := w.sub (List.sublist_cons_self ..)
theorem Pu.dl' {S : Sto} {p l : Addr} {n : Int} (h : Pu S p n) (ne : p ≠ l) : Pu (VS.del S l) p n := by
  obtain ⟨x, y, z, e, r⟩ := h
  exact ⟨x, y, z, (VS.del_ne ne).trans e, r⟩
theorem Wd.dl {S : Sto} {p a : Addr} {n : Int} {L : List (Addr × D)} {d : D} (w : Wd S p n L) (i : Nat) (e : L[i]? = some (a, d)) : Wd (VS.del S a) p n (L.eraseIdx i) := by
  refine ⟨w.pu.dl' (w.nep i e), fun x hx => ?_, fun x hx => w.ne x (List.mem_of_mem_eraseIdx hx), w.nd.sublist ((List.eraseIdx_sublist ..).map _)⟩
  obtain ⟨j, ne, hj⟩ := List.mem_eraseIdx_iff_getElem?.mp hx
  have hj' : L[j]? = some (x.1, x.2) := hj
  rw [VS.del_ne (w.nij j i hj' e ne)]
  exact w.get j hj'
theorem Wd.g0 {S : Sto} {p a : Addr} {n : Int} {d : D} {L : List (Addr × D)} (w : Wd S p n ((a, d) :: L)) : S a = some d := w.get 0 rfl
theorem Wd.g1 {S : Sto} {p a : Addr} {n : Int} {d : D} {x0 : Addr × D} {L : List (Addr × D)} (w : Wd S p n (x0 :: (a, d) :: L)) : S a = some d := w.get 1 rfl
theorem Wd.g2 {S : Sto} {p a : Addr} {n : Int} {d : D} {x0 x1 : Addr × D} {L : List (Addr × D)} (w : Wd S p n (x0 :: x1 :: (a, d) :: L)) : S a = some d := w.get 2 rfl
theorem Wd.g3 {S : Sto} {p a : Addr} {n : Int} {d : D} {x0 x1 x2 : Addr × D} {L : List (Addr × D)} (w : Wd S p n (x0 :: x1 :: x2 :: (a, d) :: L)) : S a = some d := w.get 3 rfl
theorem Wd.g4 {S : Sto} {p a : Addr} {n : Int} {d : D} {x0 x1 x2 x3 : Addr × D} {L : List (Addr × D)} (w : Wd S p n (x0 :: x1 :: x2 :: x3 :: (a, d) :: L)) : S a = some d := w.get 4 rfl
theorem Wd.g5 {S : Sto} {p a : Addr} {n : Int} {d : D} {x0 x1 x2 x3 x4 : Addr × D} {L : List (Addr × D)} (w : Wd S p n (x0 :: x1 :: x2 :: x3 :: x4 :: (a, d) :: L)) : S a = some d := w.get 5 rfl
theorem Wd.g6 {S : Sto} {p a : Addr} {n : Int} {d : D} {x0 x1 x2 x3 x4 x5 : Addr × D} {L : List (Addr × D)} (w : Wd S p n (x0 :: x1 :: x2 :: x3 :: x4 :: x5 :: (a, d) :: L)) : S a = some d := w.get 6 rfl
theorem Wd.g7 {S : Sto} {p a : Addr} {n : Int} {d : D} {x0 x1 x2 x3 x4 x5 x6 : Addr × D} {L : List (Addr × D)} (w : Wd S p n (x0 :: x1 :: x2 :: x3 :: x4 :: x5 :: x6 :: (a, d) :: L)) : S a = some d := w.get 7 rfl
theorem take_w {S : Sto} {p : Addr} {n m : Int} {L : List (Addr × D)} {G : D → Sto → Prop} {Y : Addr → List (Str × D) → Sto → Prop} (w : Wd S p n L) (hn : n < 1000000) (h0 : 0 < m) (h1 : m < 2 ^ 64)
    (q : ∀ (d : Int) (S' : Sto), 0 ≤ d → d < m → Wd S' p (n + 1) L → G (.int d) S') : p__law_take [.ref p, .int m] S G Y := take_ok w.pu hn h0 h1 fun d S' d0 d1 h o => q d S' d0 d1 (w.off h o)
end LW
open LW
local macro_rules | `(tactic| walk_at "wd") => `(tactic| first | (apply Wd.g0; assumption) | (apply Wd.g1; assumption) | (apply Wd.g2; assumption) | (apply Wd.g3; assumption) | (apply Wd.g4; assumption) | (apply Wd.g5; assumption) | (apply Wd.g6; assumption) | (apply Wd.g7; assumption))
local macro_rules | `(tactic| walk_at "ii") => `(tactic| first | exact .v | exact .c put_same | exact .c (by assumption) | (apply IsL.c; walk_at "wd") | (apply IsA.c; walk_at "wd") | (refine .c ?_; walk_at "wd"))
local macro_rules | `(tactic| walk_at "gp") => `(tactic| ((with_reducible apply ex_cell); (· walk_at "wd")))
local macro_rules | `(tactic| walk_at "gp") => `(tactic| ((with_reducible apply take_w); (· assumption); (· first | decide | omega); (· first | decide | (simp only [List.length_map]; omega) | omega); (· first | decide | (simp only [List.length_map]; omega) | omega)))
local macro_rules | `(tactic| walk_at "gp") => `(tactic| ((with_reducible apply rv_ixL); (· (apply IsL.c; walk_at "wd")); (· rfl)))
local macro_rules | `(tactic| walk_at "gp") => `(tactic| ((with_reducible apply rc_lenQ); (· (apply IsQ.l; apply IsL.c; walk_at "wd"))))
namespace LW
open PySem L2 C8 PySem.Spec PyProof.Rows VS
/-! ### the longest nest: ranks and the chain, plain -/
section
variable (E : Str → List Str)
/-- what one's outer ones are ranked by it -/
def bump (v : Int) (r : Str → Int) (o : Str) : Str → Int := fun z => if z = o then max (r o) v else r z
def rowR (r : Str → Int) (n : Str) : Str → Int := (E n).foldl (bump (r n + 1)) r
def ranksR (l : List Str) (r : Str → Int) : Str → Int := l.foldl (rowR E) r
/-- each one's outer ones stand behind it -/
inductive Tp : List Str → Prop
  | nil : Tp []
  | cons {n : Str} {l : List Str} (h : n ∉ l) (e : ∀ o ∈ E n, o ∈ l) (t : Tp l) : Tp (n :: l)
variable {E}
theorem bumps (v : Int) : ∀ (l : List Str) (r : Str → Int) (z : Str), l.foldl (bump v) r z = if z ∈ l then max (r z) v else r z
  | [], r, z => by simp
  | o :: l, r, z => by
    rw [List.foldl_cons, bumps v l]
    unfold bump
    by_cases h1 : z = o
    · subst h1
      by_cases h2 : z ∈ l
      · simp [h2] <;> omega
      · simp [h2]
    · by_cases h2 : z ∈ l
      · simp [h1, h2]
      · simp [h1, h2]
theorem rowR_at (r : Str → Int) (n z : Str) : rowR E r n z = if z ∈ E n then max (r z) (r n + 1) else r z := bumps _ _ _ _
theorem ranks_law : ∀ {l : List Str}, Tp E l → ∀ r : Str → Int, (∀ z, z ∉ l → ranksR E l r z = r z) ∧ (∀ z, r z ≤ ranksR E l r z) ∧ (∀ n ∈ l, ∀ o ∈ E n, ranksR E l r n + 1 ≤ ranksR E l r o) ∧ (∀ z, ranksR E l r z = r z ∨ ∃ n ∈ l, z ∈ E n ∧ ranksR E l r z = ranksR E l r n + 1)
  | _, .nil, r => ⟨fun _ _ => rfl, fun _ => Int.le_refl _, fun _ h => by simp at h, fun _ => .inl rfl⟩
  | _, .cons (n := n) (l := l) hn he t, r => by
    obtain ⟨a, b, c, d⟩ := ranks_law t (rowR E r n)
    have e : ranksR E (n :: l) r = ranksR E l (rowR E r n) := rfl
    rw [e]
    have nn : n ∉ E n := fun z => hn (he n z)
    have rn : ranksR E l (rowR E r n) n = r n := by rw [a n hn, rowR_at, if_neg nn]
    have mono : ∀ z, r z ≤ rowR E r n z := fun z => by
      rw [rowR_at]
      split
      · omega
      · omega
    refine ⟨fun z hz => ?_, fun z => Int.le_trans (mono z) (b z), fun m hm o ho => ?_, fun z => ?_⟩
    · have h1 : z ∉ l := fun y => hz (List.mem_cons_of_mem _ y)
      rw [a z h1, rowR_at, if_neg (fun y => h1 (he z y))]
    · rcases List.mem_cons.mp hm with rfl | hm
      · have := b o
        rw [rowR_at, if_pos ho] at this
        omega
      · exact c m hm o ho
    · rcases d z with h | ⟨m, hm, hz, h⟩
      · rw [rowR_at] at h
        by_cases y : z ∈ E n
        · rw [if_pos y] at h
          by_cases g : r n + 1 ≤ r z
          · exact .inl (by omega)
          · exact .inr ⟨n, List.mem_cons_self, y, by omega⟩
        · rw [if_neg y] at h
          exact .inl h
      · exact .inr ⟨m, List.mem_cons_of_mem _ hm, hz, h⟩
/-- whether a name is put ahead -/
def putB (E : Str → List Str) (R : Str → Int) (n : Str) (st : List Str × Int) : Bool := decide (R n = st.2) && (decide (st.1 = []) || (match st.1 with | [] => true | c :: _ => decide (c ∈ E n)))
def stepC (E : Str → List Str) (R : Str → Int) (n : Str) (st : List Str × Int) : List Str × Int := if putB E R n st then (n :: st.1, st.2 - 1) else st
def chainC (E : Str → List Str) (R : Str → Int) (M : Int) (l : List Str) : List Str × Int := l.foldr (stepC E R) ([], M)
/-- a walk from one to one in which it goes -/
inductive Pth (E : Str → List Str) : List Str → Prop
  | nil : Pth E []
  | one {n : Str} : Pth E [n]
  | cons {n m : Str} {l : List Str} (h : m ∈ E n) (t : Pth E (m :: l)) : Pth E (n :: m :: l)
theorem chain_inv {R : Str → Int} {M : Int} : ∀ {l : List Str}, Tp E l → (∀ x ∈ (chainC E R M l).1, x ∈ l) ∧ Pth E (chainC E R M l).1 ∧ ((chainC E R M l).2 = M - (chainC E R M l).1.length) ∧
    ((chainC E R M l).1 = [] → ∀ x ∈ l, R x ≠ M) ∧ (∀ c t, (chainC E R M l).1 = c :: t → R c = (chainC E R M l).2 + 1 ∧ ∀ x ∈ l, c ∈ E x → R x ≠ (chainC E R M l).2)
  | _, .nil => ⟨fun _ h => h, .nil, by simp [chainC], fun _ _ h => by simp at h, fun c t h => by simp [chainC] at h⟩
  | _, .cons (n := n) (l := l) hn he t => by
    obtain ⟨a, b, c, d, e⟩ := chain_inv (R := R) (M := M) t
    have un : chainC E R M (n :: l) = stepC E R n (chainC E R M l) := rfl
    rw [un]
    generalize chainC E R M l = st at a b c d e
    obtain ⟨ch, w⟩ := st
    have nn : n ∉ E n := fun z => hn (he n z)
    have inE : ∀ {x y : Str} {l : List Str}, Tp E l → x ∈ l → y ∈ E x → y ∈ l := by
      intro x y l t
      induction t with
      | nil => intro h; simp at h
      | cons h1 h2 _ ih =>
        intro hx hy
        rcases List.mem_cons.mp hx with rfl | hx
        · exact List.mem_cons_of_mem _ (h2 _ hy)
        · exact List.mem_cons_of_mem _ (ih hx hy)
    unfold stepC
    by_cases h : putB E R n (ch, w) = true
    · rw [if_pos h]
      have h' := h
      unfold putB at h'
      simp only [Bool.and_eq_true, decide_eq_true_eq] at h'
      obtain ⟨hr, hc⟩ := h'
      refine ⟨fun x hx => ?_, ?_, ?_, fun z => absurd z (by simp), fun c' t' z => ?_⟩
      · rcases List.mem_cons.mp hx with rfl | hx
        · exact List.mem_cons_self
        · exact List.mem_cons_of_mem _ (a x hx)
      · cases ch with
        | nil => exact .one
        | cons c1 t1 =>
          refine .cons ?_ b
          simpa using hc
      · show w - 1 = M - ((n :: ch).length : Int)
        have c : w = M - (ch.length : Int) := c
        rw [List.length_cons]
        omega
      · obtain ⟨rfl, rfl⟩ := List.cons.inj z
        refine ⟨by show R n = w - 1 + 1; omega, fun x hx y => ?_⟩
        rcases List.mem_cons.mp hx with rfl | hx
        · exact absurd y nn
        · exact absurd (inE t hx y) hn
    · rw [if_neg h]
      refine ⟨fun x hx => List.mem_cons_of_mem _ (a x hx), b, c, fun z x hx => ?_, fun c' t' z => ?_⟩
      · have z : ch = [] := z
        subst z
        rcases List.mem_cons.mp hx with rfl | hx
        · have c : w = M - (0 : Int) := c
          intro y
          apply h
          unfold putB
          simp
          omega
        · exact d rfl x hx
      · have z : ch = c' :: t' := z
        subst z
        obtain ⟨e1, e2⟩ := e c' t' rfl
        refine ⟨e1, fun x hx y => ?_⟩
        rcases List.mem_cons.mp hx with rfl | hx
        · intro q
          apply h
          have q : R x = w := q
          unfold putB
          simp [q, y]
        · exact e2 x hx y
/-- the whole: the chain is as long as the greatest rank -/
theorem chain_law {l : List Str} (t : Tp E l) {R : Str → Int} (h1 : ∀ z, 1 ≤ R z) (hp : ∀ z ∈ l, R z = 1 ∨ ∃ n ∈ l, z ∈ E n ∧ R z = R n + 1) {M : Int} (hM : (l = [] ∧ M = 0) ∨ (∃ x ∈ l, R x = M)) :
    ((chainC E R M l).1.length : Int) = M ∧ Pth E (chainC E R M l).1 ∧ ∀ x ∈ (chainC E R M l).1, x ∈ l := by
  obtain ⟨a, b, c, d, e⟩ := chain_inv (R := R) (M := M) t
  refine ⟨?_, b, a⟩
  generalize chainC E R M l = st at a b c d e
  obtain ⟨ch, w⟩ := st
  have c : w = M - (ch.length : Int) := c
  show (ch.length : Int) = M
  cases ch with
  | nil =>
    rcases hM with ⟨_, hm⟩ | ⟨x, hx, hm⟩
    · rw [hm]; rfl
    · exact absurd hm (d rfl x hx)
  | cons c' t' =>
    obtain ⟨e1, e2⟩ := e c' t' rfl
    have e1 : R c' = w + 1 := e1
    have e2 : ∀ x ∈ l, c' ∈ E x → R x ≠ w := e2
    have h0 := h1 c'
    by_cases z : w = 0
    · omega
    · rcases hp c' (a c' List.mem_cons_self) with h | ⟨n, hn, hc, h⟩
      · omega
      · exact absurd (show R n = w by omega) (e2 n hn hc)
end
end LW
namespace LW
open PySem L2 C8 PySem.Spec PyProof.Rows VS
/-! ### the parcels by their longest side: whatever goes in another one stands ahead of it -/
theorem dn_max (a b c : Int) : ∃ v w, dn [a, b, c] = [max (max a b) c, v, w] := by
  obtain ⟨u, v, w, e⟩ := list3 (up_len [a, b, c])
  have s := up_sorted [a, b, c]
  have pm := up_perm [a, b, c]
  rw [e] at s pm
  have h1 : u ≤ v := (List.pairwise_cons.mp s).1 v (by simp)
  have h2 : v ≤ w := (List.pairwise_cons.mp (List.pairwise_cons.mp s).2).1 w (by simp)
  have hw : w ∈ [a, b, c] := pm.mem_iff.mp (by simp)
  have ha : a ∈ [u, v, w] := pm.mem_iff.mpr (by simp)
  have hb : b ∈ [u, v, w] := pm.mem_iff.mpr (by simp)
  have hc : c ∈ [u, v, w] := pm.mem_iff.mpr (by simp)
  simp only [List.mem_cons, List.not_mem_nil, or_false] at hw ha hb hc
  refine ⟨v, u, ?_⟩
  unfold dn
  rw [e]
  show [w, v, u] = _
  rw [show w = max (max a b) c by omega]
theorem lonI_is (p : Pc) : lonI p = max (max p.a p.b) p.c := by
  obtain ⟨v, w, e⟩ := dn_max p.a p.b p.c
  unfold lonI
  rw [e]
theorem go_lon {sp : Int} {p q : Pc} (h : goB sp p q = true) : lonI p + sp ≤ lonI q - 2 * q.wl := by
  unfold goB shA shB at h
  by_cases h1 : ("alone" : Str) ∈ p.mk
  · rw [if_pos h1] at h
    exact absurd h (by simp [shG])
  · rw [if_neg h1] at h
    by_cases h2 : ("alone" : Str) ∈ q.mk
    · rw [if_pos h2] at h
      exact absurd h (by unfold rkD; obtain ⟨v, w, e⟩ := dn_max p.a p.b p.c; rw [e]; simp [shG])
    · rw [if_neg h2] at h
      by_cases h3 : noRoom q.a q.b q.c q.wl
      · rw [if_pos h3] at h
        exact absurd h (by unfold rkD; obtain ⟨v, w, e⟩ := dn_max p.a p.b p.c; rw [e]; simp [shG])
      · rw [if_neg h3] at h
        unfold rkD at h
        obtain ⟨v, w, e⟩ := dn_max p.a p.b p.c
        obtain ⟨v', w', e'⟩ := dn_max (q.a - 2 * q.wl) (q.b - 2 * q.wl) (q.c - 2 * q.wl)
        rw [e, e'] at h
        have h : (decide (max (max p.a p.b) p.c + sp ≤ max (max (q.a - 2 * q.wl) (q.b - 2 * q.wl)) (q.c - 2 * q.wl)) && (decide (v + sp ≤ v') && decide (w + sp ≤ w'))) = true := h
        rw [Bool.and_eq_true, decide_eq_true_eq] at h
        rw [lonI_is, lonI_is]
        have := h.1
        omega
theorem rk_long (ps : List Pc) : rkP false "long" ps = ps.mergeSort fun p q => decide (lonI p ≤ lonI q) := by
  unfold rkP
  rw [show kyW "long" = fun p => PyData.int (lonI p) from rfl, PySem.W.dataLe_int]
theorem long_sorted (ps : List Pc) : (rkP false "long" ps).Pairwise fun p q => lonI p ≤ lonI q := by
  rw [rk_long]
  have := List.pairwise_mergeSort (le := fun p q : Pc => decide (lonI p ≤ lonI q)) (fun a b c h1 h2 => by simp only [decide_eq_true_eq] at *; omega) (fun a b => by simp only [Bool.or_eq_true, decide_eq_true_eq]; omega) ps
  exact this.imp fun h => of_decide_eq_true h
/-- those in which one goes, by its name -/
def Eof (sp : Int) (ps : List Pc) (n : Str) : List Str := match ps.find? fun p => decide (p.nm = n) with
  | some p => goN sp ps p
  | none => []
theorem find_nm : ∀ {ps : List Pc} {p : Pc}, (ps.map Pc.nm).Nodup → p ∈ ps → (ps.find? fun q => decide (q.nm = p.nm)) = some p
  | [], _, _, h => by simp at h
  | q :: ps, p, nd, h => by
    rw [List.map_cons, List.nodup_cons] at nd
    rcases List.mem_cons.mp h with rfl | h
    · rw [List.find?_cons_of_pos (by simp)]
    · have ne : q.nm ≠ p.nm := fun z => nd.1 (by rw [z]; exact List.mem_map.mpr ⟨p, h, rfl⟩)
      rw [List.find?_cons_of_neg (by simpa using ne)]
      exact find_nm nd.2 h
theorem Eof_at {sp : Int} {ps : List Pc} {p : Pc} (nd : (ps.map Pc.nm).Nodup) (h : p ∈ ps) : Eof sp ps p.nm = goN sp ps p := by
  unfold Eof
  rw [find_nm nd h]
theorem mem_goN {sp : Int} {ps : List Pc} {p : Pc} {o : Str} (h : o ∈ goN sp ps p) : ∃ q ∈ ps, q.nm = o ∧ goB sp p q = true := by
  obtain ⟨q, hq, e⟩ := List.mem_map.mp h
  exact ⟨q, (List.mem_filter.mp hq).1, e, (List.mem_filter.mp hq).2⟩
/-- the names from the least long one on -/
def risN (ps : List Pc) : List Str := (rkP false "long" ps).map Pc.nm
theorem ris_perm (ps : List Pc) : (risN ps).Perm (ps.map Pc.nm) := (rkP_perm false "long" ps).map _
theorem ris_tp {sp : Int} {ps : List Pc} (hw : ∀ p ∈ ps, 1 ≤ p.wl) (nd : (ps.map Pc.nm).Nodup) (s0 : 0 ≤ sp) : Tp (Eof sp ps) (risN ps) := by
  have key : ∀ l : List Pc, (∀ p ∈ l, p ∈ ps) → (l.map Pc.nm).Nodup → l.Pairwise (fun p q => lonI p ≤ lonI q) → (∀ p ∈ l, ∀ q ∈ ps, goB sp p q = true → q ∈ l) → Tp (Eof sp ps) (l.map Pc.nm) := by
    intro l
    induction l with
    | nil => intro _ _ _ _; exact .nil
    | cons p l ih =>
      intro hl n s cl
      rw [List.map_cons, List.nodup_cons] at n
      rw [List.pairwise_cons] at s
      have tail : ∀ r ∈ p :: l, ∀ q ∈ ps, goB sp r q = true → q ∈ l := fun r hr q hq g => by
        rcases List.mem_cons.mp (cl r hr q hq g) with rfl | h
        · have h1 := go_lon g
          have h2 := hw q hq
          have h3 : lonI q ≤ lonI r := by
            rcases List.mem_cons.mp hr with rfl | hr
            · exact Int.le_refl _
            · exact s.1 r hr
          omega
        · exact h
      refine .cons n.1 (fun o ho => ?_) (ih (fun q hq => hl q (List.mem_cons_of_mem _ hq)) n.2 s.2 fun r hr q hq g => tail r (List.mem_cons_of_mem _ hr) q hq g)
      rw [Eof_at nd (hl p List.mem_cons_self)] at ho
      obtain ⟨q, hq, e, g⟩ := mem_goN ho
      rw [← e]
      exact List.mem_map.mpr ⟨q, tail p List.mem_cons_self q hq g, rfl⟩
  have pm := rkP_perm false "long" ps
  exact key _ (fun p hp => pm.mem_iff.mp hp) ((ris_perm ps).nodup_iff.mpr nd) (long_sorted ps) fun p _ q hq _ => pm.mem_iff.mpr hq
/-- the greatest rank, 0 of none -/
def topR (l : List Int) : Int := l.foldr max 0
theorem topR_le : ∀ {l : List Int} {y : Int}, y ∈ l → y ≤ topR l
  | [], _, h => by simp at h
  | x :: l, y, h => by
    show y ≤ max x (topR l)
    rcases List.mem_cons.mp h with rfl | h
    · omega
    · have := topR_le h
      omega
theorem topR_in : ∀ l : List Int, topR l = 0 ∨ topR l ∈ l
  | [] => .inl rfl
  | x :: l => by
    have e : topR (x :: l) = max x (topR l) := rfl
    rcases topR_in l with h | h
    · by_cases z : 0 ≤ x
      · exact .inr (by rw [e, h, show max x 0 = x by omega]; simp)
      · exact .inl (by rw [e, h]; omega)
    · by_cases z : topR l ≤ x
      · exact .inr (by rw [e, show max x (topR l) = x by omega]; simp)
      · exact .inr (by rw [e, show max x (topR l) = topR l by omega]; exact List.mem_cons_of_mem _ h)
/-- the ranks and the chain that are told -/
def rnkN (sp : Int) (ps : List Pc) : Str → Int := ranksR (Eof sp ps) (risN ps) fun _ => 1
def topN (sp : Int) (ps : List Pc) : Int := topR ((ps.map Pc.nm).map (rnkN sp ps))
def chnN (sp : Int) (ps : List Pc) : List Str := (chainC (Eof sp ps) (rnkN sp ps) (topN sp ps) (risN ps)).1
end LW
namespace LW
open PySem L2 C8 PySem.Spec PyProof.Rows VS
/-! ### how many parcels the longest nest has in which each is the outer one -/
def nmD (ns : List Str) : D := .lst (ns.map D.str)
/-- a dict from names to lists of names, by value -/
def ouDs (ns : List Str) (E : Str → List Str) : List (Key × D) := ns.map fun n => ((.inr n : Key), nmD (E n))
theorem valD_map {α : Type} {ns : List Str} {f : Str → D} {x : Str} (h : x ∈ ns) : valD (ns.map fun n => ((.inr n : Key), f n)) (.inr x) = some (f x) := by
  induction ns with
  | nil => simp at h
  | cons n ns ih =>
    by_cases e : n = x
    · subst e
      exact valD_pos rfl
    · rw [List.map_cons, valD_neg (fun z => e (Sum.inr.inj z))]
      exact ih (by rcases List.mem_cons.mp h with rfl | h; exact absurd rfl e; exact h)
theorem valD_ou {ns : List Str} {E : Str → List Str} {x : Str} (h : x ∈ ns) : valD (ouDs ns E) (.inr x) = some (nmD (E x)) := valD_map (α := Unit) h
end LW
namespace LW
open PySem L2 C8 PySem.Spec PyProof.Rows VS
/-! ### the longest nest -/
theorem IsHl.hp {S : Sto} {CH CP CS : Addr} {x : D} {ps : List Pc} (h : IsHl S CH CP CS x ps) : IsHp S CH CP CS x ps := by
  obtain ⟨d, h1, h2⟩ := h
  exact ⟨d, h1, .l h2⟩
theorem vdK_in {S : Sto} {f : Pc → List Str} : ∀ {ps : List Pc} {as : List Addr}, as.length = ps.length → (∀ (i : Nat) (a : Addr) (p : Pc), as[i]? = some a → ps[i]? = some p → S a = some (.lst ((f p).map D.str))) → VdK S (inD2 ps as) (ps.map fun p => ((.inr p.nm : Key), nmD (f p)))
  | [], [], _, _ => .nil
  | [], _ :: _, h, _ => by cases h
  | _ :: _, [], h, _ => by cases h
  | p :: ps, a :: as, h, k => .cons (.c (k 0 a p rfl rfl) (by nofun) .v) (vdK_in (Nat.succ.inj h) fun i a' p' h1 h2 => k (i + 1) a' p' h1 h2)
theorem ou_of {sp : Int} {ps : List Pc} (nd : (ps.map Pc.nm).Nodup) : (ps.map fun p => ((.inr p.nm : Key), nmD (goN sp ps p))) = ouDs (ps.map Pc.nm) (Eof sp ps) := by
  unfold ouDs
  rw [List.map_map]
  refine List.map_congr_left fun p hp => ?_
  show _ = ((.inr p.nm : Key), nmD (Eof sp ps p.nm))
  rw [Eof_at nd hp]
theorem Eof_in {sp : Int} {ps : List Pc} {n o : Str} (h : o ∈ Eof sp ps n) : o ∈ ps.map Pc.nm := by
  unfold Eof at h
  split at h
  · obtain ⟨q, hq, e, _⟩ := mem_goN h
    exact List.mem_map.mpr ⟨q, hq, e⟩
  · simp at h
theorem atI_hd (x : D) (xs : List D) : atI (x :: xs) 0 = some x := by
  unfold atI ixN
  simp
end LW
namespace LW
open PySem L2 C8 PySem.Spec PyProof.Rows VS
/-! ### the law's own look at what goes in what, by the ranks -/
theorem up_shift (a b c k : Int) : up [a - k, b - k, c - k] = (up [a, b, c]).map fun x => x - k := by
  unfold up
  rw [List.map_mergeSort (s := fun a b : Int => decide (a ≤ b)) (fun x _ y _ => VS.bdec (by omega))]
  rfl
/-- rank by rank, from the least one on -/
def goK (sp : Int) (p q : Pc) : Bool := match up [p.a, p.b, p.c], up [q.a, q.b, q.c] with
  | [u, v, w], [x, y, z] => decide (u + sp + 2 * q.wl ≤ x) && (decide (v + sp + 2 * q.wl ≤ y) && decide (w + sp + 2 * q.wl ≤ z))
  | _, _ => false
theorem go_rankK {sp : Int} {p q : Pc} (gp : p.g) (s0 : 0 ≤ sp) (h1 : ("alone" : Str) ∉ p.mk) (h2 : ("alone" : Str) ∉ q.mk) : goB sp p q = goK sp p q := by
  obtain ⟨u, v, w, e⟩ := list3 (up_len [p.a, p.b, p.c])
  obtain ⟨x, y, z, e'⟩ := list3 (up_len [q.a, q.b, q.c])
  have pm := up_perm [p.a, p.b, p.c]
  have pm' := up_perm [q.a, q.b, q.c]
  have s' := up_sorted [q.a, q.b, q.c]
  rw [e] at pm
  rw [e'] at pm' s'
  have ga := gp.a
  have gb := gp.b
  have gc := gp.c
  unfold In1 at ga gb gc
  have hu : u ∈ [p.a, p.b, p.c] := pm.mem_iff.mp (by simp)
  have hx : x ∈ [q.a, q.b, q.c] := pm'.mem_iff.mp (by simp)
  have ha : q.a ∈ [x, y, z] := pm'.mem_iff.mpr (by simp)
  have hb : q.b ∈ [x, y, z] := pm'.mem_iff.mpr (by simp)
  have hc : q.c ∈ [x, y, z] := pm'.mem_iff.mpr (by simp)
  have h3 : x ≤ y := (List.pairwise_cons.mp s').1 y (by simp)
  have h4 : y ≤ z := (List.pairwise_cons.mp (List.pairwise_cons.mp s').2).1 z (by simp)
  simp only [List.mem_cons, List.not_mem_nil, or_false] at hu hx ha hb hc
  unfold goK goB shA shB
  rw [if_neg h1, if_neg h2, e, e']
  by_cases nr : noRoom q.a q.b q.c q.wl
  · rw [if_pos nr]
    unfold noRoom at nr
    unfold rkD dn
    rw [e]
    show false = (decide (u + sp + 2 * q.wl ≤ x) && (decide (v + sp + 2 * q.wl ≤ y) && decide (w + sp + 2 * q.wl ≤ z)))
    rw [decide_eq_false (show ¬ (u + sp + 2 * q.wl ≤ x) by omega)]
    rfl
  · rw [if_neg nr]
    unfold rkD dn
    rw [e, up_shift, e']
    show (decide (w + sp ≤ z - 2 * q.wl) && (decide (v + sp ≤ y - 2 * q.wl) && decide (u + sp ≤ x - 2 * q.wl))) = (decide (u + sp + 2 * q.wl ≤ x) && (decide (v + sp + 2 * q.wl ≤ y) && decide (w + sp + 2 * q.wl ≤ z)))
    rw [show decide (w + sp ≤ z - 2 * q.wl) = decide (w + sp + 2 * q.wl ≤ z) from VS.bdec (by omega), show decide (v + sp ≤ y - 2 * q.wl) = decide (v + sp + 2 * q.wl ≤ y) from VS.bdec (by omega), show decide (u + sp ≤ x - 2 * q.wl) = decide (u + sp + 2 * q.wl ≤ x) from VS.bdec (by omega)]
    cases decide (w + sp + 2 * q.wl ≤ z) <;> cases decide (v + sp + 2 * q.wl ≤ y) <;> cases decide (u + sp + 2 * q.wl ≤ x) <;> rfl
theorem go_alone {sp : Int} {p q : Pc} (h : ("alone" : Str) ∈ p.mk ∨ ("alone" : Str) ∈ q.mk) : goB sp p q = false := by
  unfold goB shA shB
  rcases h with h | h
  · rw [if_pos h]
    rfl
  · rw [if_pos h]
    split
    · rfl
    · obtain ⟨v, w, e⟩ := dn_max p.a p.b p.c
      unfold rkD
      rw [e]
      rfl
def goP (sp wl u v w x y z : Int) : D → Bool
  | .int k => decide (tn x y z k < tn u v w k + sp + 2 * wl)
  | _ => false
theorem goP_none (sp wl u v w x y z : Int) : (([.int 0, .int 1, .int 2] : List D).filter (goP sp wl u v w x y z)).isEmpty = (decide (u + sp + 2 * wl ≤ x) && (decide (v + sp + 2 * wl ≤ y) && decide (w + sp + 2 * wl ≤ z))) := by
  have h : ∀ a b : Int, decide (b < a) = !decide (a ≤ b) := fun a b => by
    by_cases h : a ≤ b
    · rw [decide_eq_true h, decide_eq_false (by omega)]; rfl
    · rw [decide_eq_false h, decide_eq_true (by omega)]; rfl
  have e0 : goP sp wl u v w x y z (.int 0) = !decide (u + sp + 2 * wl ≤ x) := h _ _
  have e1 : goP sp wl u v w x y z (.int 1) = !decide (v + sp + 2 * wl ≤ y) := h _ _
  have e2 : goP sp wl u v w x y z (.int 2) = !decide (w + sp + 2 * wl ≤ z) := h _ _
  rw [List.filter_cons, List.filter_cons, List.filter_cons, e0, e1, e2, List.filter_nil]
  cases decide (u + sp + 2 * wl ≤ x) <;> cases decide (v + sp + 2 * wl ≤ y) <;> cases decide (w + sp + 2 * wl ≤ z) <;> rfl
def p__law_goes : Pt := fun ds S G _ => ∃ (p q : Pc) (sp : Int), ds = [rwD p, rwD q, .int sp] ∧ p.g ∧ q.g ∧ 0 ≤ sp ∧ G (.bl (goB sp p q)) S
section
variable {P : Program} {w : World} {K : PySem.W.Frag} {mg : Str → Option Value} {base : Heap}
theorem ok__law_goes {f : Addr} {fd : FuncData} {C_Sides C_Parcel C_Heap C_NoNumber C_NoSide : Addr}
    (F : Fd K "_law_goes" "_law_goes" s__law_goes [] f fd) (T : Tx K mg) (hsys : SysOk base) :
    FnG P w K mg base (L2.CX P w) 1 f fd a__law_goes (spOf K p__law_goes) := by
  refine fn_val F sc__law_goes (fun ds S G Y h => ?_) (fun cdv A hgd outer s H E hr px tk po ds S G Y h => ?_)
  · obtain ⟨p, q, sp, rfl, _⟩ := h
    rfl
  · obtain ⟨p, q, sp, rfl, gp, gq, s0, qq⟩ := h
    refine ⟨_, (pss_cons (ps_if (PW.pt (pw_or (pt_cmpR op_in_seq pe_str (pe_ix ix_list (pv 0) pe_int (fun _ _ => rfl)) (by rfl)) (pw_or1 (pt_cmpR op_in_seq pe_str (pe_ix ix_list (pv 1) pe_int (fun _ _ => rfl)) (by rfl))))) (pss_one (ps_ret pe_bl))
      pss_nil)
      (pss_cons (ps_asg (pe_tup (pa_cons (pe_callB c_sorted (by rfl) T.b_sorted (by decide +kernel) (pa_cons (pe_ix ix_list (pv 0) pe_int (fun _ _ => rfl)) pa_nil)) (pa_cons (pe_callB c_sorted (by rfl) T.b_sorted (by decide +kernel) (pa_cons (pe_ix ix_list (pv 1) pe_int (fun _ _ => rfl)) pa_nil)) pa_nil))) (pg_tup (n := 2) rfl (pgs_cons (pg_name (i := 3) sc__law_goes.nd rfl (Or.inr rfl)) (pgs_cons (pg_name (i := 4) sc__law_goes.nd rfl (Or.inr rfl)) pgs_nil))))
      (pss_one (ps_ret (pe_cmpR (op_eqE hr) (pe_lc (own := [("_law_k", 5)]) rfl sc__law_goes.nd (pi_range1 (by rfl) T.b_range (pa_cons pe_int pa_nil)) (blkOk_by (own := [("_law_k", 5)]) (N := n__law_goes) (sc := defScope s__law_goes) (by decide +kernel)) (fun _ _ _ _ _ => (pg_name (i := 5) sc__law_goes.nd rfl (Or.inl rfl))) (fun _ _ _ _ _ => (pts_one (pt_cmpR op_gt (pe_op op_add (pe_op op_add (pe_ix (kI (K := K) (r := rIxL) ix_list) (pv 3) (pv 5) (fun _ _ => rfl)) (pv 2)) (pe_op op_mulW pe_int (pe_ix (kI (K := K) (r := rIxL) ix_list) (pv 1) pe_int (fun _ _ => rfl)))) (pe_ix (kI (K := K) (r := rIxL) ix_list) (pv 4) (pv 5) (fun _ _ => rfl)) (nomark _)))) (fun _ _ _ _ _ => (pv 5))) (pe_lst pa_nil) (nomark _)))))), ?_⟩
    (try dsimp only [cxOf, List.map])
    show VX _ _ [_, _, _, _, _, _] _ _
    unfold rwD
    walk_at "ga"
    refine rv_in (.l .v) rfl (flat_strs _) ?_
    rw [inD_strs]
    refine ⟨_, rfl, fun e => ?_, fun e => ?_⟩
    · have e := of_decide_eq_true e
      rw [go_alone (.inl e)] at qq
      walk_at "ga"
      exact qq
    · have e := of_decide_eq_false e
      walk_at "ga"
      refine rv_in (.l .v) rfl (flat_strs _) ?_
      rw [inD_strs]
      refine ⟨_, rfl, fun e2 => ?_, fun e2 => ?_⟩
      · have e2 := of_decide_eq_true e2
        rw [go_alone (.inr e2)] at qq
        walk_at "ga"
        exact qq
      · have e2 := of_decide_eq_false e2
        rw [go_rankK gp s0 e e2] at qq
        walk_at "ga"
        refine rc_sorted (ns := [p.a, p.b, p.c]) (.l .v) ?_
        walk_at "ga"
        refine rc_sorted (ns := [q.a, q.b, q.c]) (.l .v) ?_
        obtain ⟨u, v, w, e3⟩ := list3 (up_len [p.a, p.b, p.c])
        obtain ⟨x, y, z, e4⟩ := list3 (up_len [q.a, q.b, q.c])
        unfold goK at qq
        rw [e3, e4] at qq
        rw [e3, e4]
        walk_at "ga"
        have w0 := gq.wl
        refine ve_lcF (goP sp q.wl u v w x y z) id (vi_rng1 ?_)
        walk_at "ga"
        refine ⟨3, rfl, by decide, by rw [rngD_len]; decide, all3 ?_ ?_ ?_, ?_⟩
        · walk_at "ga"
          exact ⟨rfl, fun _ => rfl, fun _ => by walk_at "ga"; exact ⟨rfl, rfl⟩⟩
        · walk_at "ga"
          exact ⟨rfl, fun _ => rfl, fun _ => by walk_at "ga"; exact ⟨rfl, rfl⟩⟩
        · walk_at "ga"
          exact ⟨rfl, fun _ => rfl, fun _ => by walk_at "ga"; exact ⟨rfl, rfl⟩⟩
        walk_at "ga"
        rw [List.map_id, show rngD 0 (Int.toNat 3) = [.int 0, .int 1, .int 2] from rfl, goP_none]
        exact qq
end
end LW
namespace LW
open PySem L2 C8 PySem.Spec PyProof.Rows VS
/-! ### from each name to those in which it goes, by the law's own look -/
def p__law_outwards : Pt := fun ds S G _ => ∃ (rs : List Pc) (sp : Int), ds = [.lst (rs.map rwD), .int sp] ∧ Hrs rs ∧ 0 ≤ sp ∧
  ∀ (d : Addr) (as : List Addr) (S' : Sto), S d = none → as.length = rs.length → as.Nodup → d ∉ as → (∀ a ∈ as, S a = none) → Ext S S' → S' d = some (.dK (inD2 rs as)) → (∀ (i : Nat) (a : Addr) (p : Pc), as[i]? = some a → rs[i]? = some p → S' a = some (.lst ((goN sp rs p).map D.str))) → G (.ref d) S'
section
variable {P : Program} {w : World} {K : PySem.W.Frag} {mg : Str → Option Value} {base : Heap}
theorem ok__law_outwards {f : Addr} {fd : FuncData} {C_Sides C_Parcel C_Heap C_NoNumber C_NoSide : Addr} {f__law_goes : Addr} {g__law_goes : FuncData}
    (F : Fd K "_law_outwards" "_law_outwards" s__law_outwards [] f fd) (T : Tx K mg) (hsys : SysOk base)
    (c__law_goes : Cf P w K mg base (L2.CX P w) 1 "_law_goes" s__law_goes [] a__law_goes p__law_goes f__law_goes g__law_goes) :
    FnG P w K mg base (L2.CX P w) 2 f fd a__law_outwards (spOf K p__law_outwards) := by
  refine fn_val F sc__law_outwards (fun ds S G Y h => ?_) (fun cdv A hgd outer s H E hr px tk po ds S G Y h => ?_)
  · obtain ⟨rs, sp, rfl, _⟩ := h
    rfl
  · obtain ⟨rs, sp, rfl, hrs, s0, q⟩ := h
    refine ⟨_, (pss_cons (ps_set (i := 2) sc__law_outwards.nd rfl (Or.inl rfl) pe_dnewK)
      (pss_cons (ps_for po rfl (pi_list (pv 0)) (pg_name (i := 3) sc__law_outwards.nd rfl (Or.inr rfl))
      (pss_one (ps_dput (hu_of hr) (pv 2) (pe_ix ix_list (pv 3) pe_int (fun _ _ => rfl)) (pe_lc (own := [("_law_other", 4)]) rfl sc__law_outwards.nd (pi_list (pv 0)) (blkOk_by (own := [("_law_other", 4)]) (N := n__law_outwards) (sc := defScope s__law_outwards) (by decide +kernel)) (fun _ _ _ _ _ => (pg_name (i := 4) sc__law_outwards.nd rfl (Or.inl rfl))) (fun _ _ _ _ _ => (pts_one (pt_val (pe_cG c__law_goes.fn hgd (hr.mono (by decide)) (by rfl) c__law_goes.mg c__law_goes.kp c__law_goes.b .nil VS.pass0 (pa_cons (pv 3) (pa_cons (pv 4) (pa_cons (pv 1) pa_nil))))))) (fun _ _ _ _ _ => (pe_ix (kI (K := K) (r := rIxL) ix_list) (pv 4) pe_int (fun _ _ => rfl)))) (by rfl))))
      (pss_one (ps_ret (pv 2))))), ?_⟩
    (try dsimp only [cxOf, List.map])
    show VX _ _ [_, _, _, _, _] _ _
    have p12 := hrs.l
    refine vx_seq (vx_asg ?_)
    refine ve_dnewc fun d hd => ?_
    have sd0 : S d = none := hd
    have c5 : (put S d (.dK [])) d = some (.dK []) := put_same
    have x5' := Ext.put (S := S) (d := .dK []) hd
    generalize put S d (.dK []) = S4 at c5 x5' ⊢
    walk_at "gr"
    refine vx_for (vi_list ?_)
    walk_at "gr"
    refine ⟨_, .v, fun i ρ2 S2 => ∃ as : List Addr, as.length = i ∧ as.Nodup ∧ d ∉ as ∧ (∀ a ∈ as, S a = none) ∧ Ext S S2 ∧ S2 d = some (.dK (inD2 (rs.take i) as)) ∧ (∀ (j : Nat) (a : Addr) (p : Pc), as[j]? = some a → rs[j]? = some p → S2 a = some (.lst ((goN sp rs p).map D.str))) ∧ ∃ x3 x4, ρ2 = [some (.lst (rs.map rwD)), some (.int sp), some (.ref d), x3, x4], ⟨[], rfl, .nil, nofun, nofun, x5', c5, nofun, _, _, rfl⟩, ?_, ?_⟩
    · clear c5 x5'
      rintro i dd _ S5 hdd ⟨as, la, na, da, sa, x6, c6, h6, x3, x4, rfl⟩
      rw [List.getElem?_map] at hdd
      cases e : rs[i]? with
      | none => rw [e] at hdd; cases hdd
      | some r =>
        rw [e] at hdd
        cases hdd
        have hi : i < rs.length := (List.getElem?_eq_some_iff.mp e).1
        have tk : rs.take (i + 1) = rs.take i ++ [r] := by rw [List.take_succ, e]; rfl
        unfold rwD
        walk_at "gr"
        refine vx_dput ?_
        refine ve_lcc (vi_list ?_)
        walk_at "gr"
        refine ⟨_, .v, by rw [List.length_map]; omega, fun j acc S7 => acc = (((rs.take j).filter (goB sp r)).map Pc.nm).map D.str ∧ S7 = S5, ⟨rfl, rfl⟩, ?_, ?_⟩
        · rintro j dz acc S7 hdz ⟨rfl, rfl⟩ _
          have hdz : (rs.map rwD)[j]? = some dz := hdz
          rw [List.getElem?_map] at hdz
          cases e2 : rs[j]? with
          | none => rw [e2] at hdz; cases hdz
          | some t =>
            rw [e2] at hdz
            cases hdz
            have tk2 : rs.take (j + 1) = rs.take j ++ [t] := by rw [List.take_succ, e2]; rfl
            unfold rwD
            walk_at "gr"
            refine ⟨r, t, sp, rfl, (hrs.g r (List.mem_of_getElem? e)).1, (hrs.g t (List.mem_of_getElem? e2)).1, s0, ?_⟩
            refine ⟨_, rfl, fun eb => ?_, fun eb => ?_⟩
            · walk_at "gr"
              refine ⟨?_, rfl⟩
              rw [tk2, List.filter_append, List.filter_cons_of_pos (show goB sp r t = true from eb), List.map_append, List.map_append]
              rfl
            · refine ⟨?_, rfl⟩
              rw [tk2, List.filter_append, List.filter_cons_of_neg (by rw [show goB sp r t = false from eb]; decide), List.filter_nil, List.append_nil]
        · rintro acc S7 ⟨ea, rfl⟩ _ a ha
          rw [List.length_map, List.take_length] at ea
          subst ea
          have nda : d ≠ a := ne_at c6 ha
          have naa : ∀ a' ∈ as, a' ≠ a := fun a' h' z => by
            obtain ⟨j, hj⟩ := List.getElem?_of_mem h'
            have hjl : j < as.length := (List.getElem?_eq_some_iff.mp hj).1
            have := h6 j a' _ hj (List.getElem?_eq_getElem (show j < rs.length by omega))
            rw [z, ha] at this
            cases this
          have c7 : (put S7 a (.lst (((rs.filter (goB sp r)).map Pc.nm).map D.str))) d = some (.dK (inD2 (rs.take i) as)) := (put_ne nda).trans c6
          walk_at "gr"
          refine ⟨inD2 (rs.take i) as, .inr r.nm, c7, rfl, ?_, as ++ [a], ?_, ?_, ?_, ?_, ?_, ?_, ?_, _, _, rfl⟩
          · have : (inD2 (rs.take i) as).length ≤ as.length := by unfold inD2; rw [List.length_zipWith]; omega
            have := szl
            omega
          · rw [List.length_append, la]; rfl
          · rw [List.nodup_append]
            exact ⟨na, by simp, fun x hx y hy => by rw [List.mem_singleton.mp hy]; exact naa x hx⟩
          · intro z
            rcases List.mem_append.mp z with z | z
            · exact da z
            · exact nda (List.mem_singleton.mp z)
          · intro x hx
            rcases List.mem_append.mp hx with hx | hx
            · exact sa x hx
            · rw [List.mem_singleton.mp hx]; exact x6.no ha
          · exact (x6.trans (Ext.put ha)).wr sd0
          · rw [put_same, dkPut_new, tk, inD2_app (by rw [List.length_take]; omega)]
            intro x hx z
            have hk : x.1 ∈ (inD2 (rs.take i) as).map Prod.fst := List.mem_map.mpr ⟨x, hx, rfl⟩
            rw [inD2_keys (by rw [List.length_take]; omega), z] at hk
            obtain ⟨w, hw, ew⟩ := List.mem_map.mp hk
            cases ew
            obtain ⟨t, ht, et⟩ := List.mem_map.mp hw
            obtain ⟨j, hj⟩ := List.getElem?_of_mem ht
            have jl : j < i := by
              have := (List.getElem?_eq_some_iff.mp hj).1
              rw [List.length_take] at this
              omega
            rw [List.getElem?_take_of_lt jl] at hj
            have := (Hps.frs hrs.n e).2 j t jl hj
            exact this et
          · intro j a' p' hj hp'
            by_cases z : j < as.length
            · rw [List.getElem?_append_left z] at hj
              have nea : a' ≠ a := naa a' (List.mem_of_getElem? hj)
              have ned : a' ≠ d := fun z => da (by rw [← z]; exact List.mem_of_getElem? hj)
              rw [put_ne ned, put_ne nea]
              exact h6 j a' p' hj hp'
            · rw [List.getElem?_append_right (by omega)] at hj
              have ez : j - as.length = 0 := by
                have := (List.getElem?_eq_some_iff.mp hj).1
                simp at this
                omega
              rw [ez] at hj
              cases hj
              have ej : j = i := by omega
              subst ej
              rw [e] at hp'
              cases hp'
              rw [put_ne (Ne.symm nda)]
              exact put_same
    · rintro _ S5 ⟨as, la, na, da, sa, x6, c6, h6, x3, x4, rfl⟩
      rw [List.length_map, List.take_length] at c6
      rw [List.length_map] at la
      walk_at "gr"
      exact q d as S5 sd0 la na da sa x6 c6 h6
end
end LW
namespace LW
open PySem L2 C8 PySem.Spec PyProof.Rows VS
/-! ### the fewest nests, plain: a matching that grows, and its cover -/
/-- from parcels to those right within them -/
abbrev KV := List (Str × Str)
def kget (kv : KV) (x : Str) : Option Str := (kv.find? fun p => decide (p.1 = x)).map (·.2)
def kput (kv : KV) (x v : Str) : KV := if kv.any (fun p => decide (p.1 = x)) then kv.map (fun p => if p.1 = x then (p.1, v) else p) else kv ++ [(x, v)]
abbrev kks (kv : KV) : List Str := kv.map Prod.fst
abbrev kvs (kv : KV) : List Str := kv.map Prod.snd
theorem kget_none {kv : KV} {x : Str} : kget kv x = none ↔ x ∉ kks kv := by
  unfold kget
  rw [Option.map_eq_none_iff, List.find?_eq_none]
  refine ⟨fun h z => ?_, fun h p hp e => h (List.mem_map.mpr ⟨p, hp, of_decide_eq_true e⟩)⟩
  obtain ⟨p, hp, e⟩ := List.mem_map.mp z
  exact h p hp (decide_eq_true e)
theorem kget_mem {kv : KV} {x v : Str} (h : kget kv x = some v) : (x, v) ∈ kv := by
  unfold kget at h
  obtain ⟨p, hp, e⟩ := Option.map_eq_some_iff.mp h
  have h1 := List.mem_of_find?_eq_some hp
  have h2 : p.1 = x := by simpa using List.find?_some hp
  subst h2 e
  exact h1
theorem kget_of {kv : KV} {x v : Str} (nd : (kks kv).Nodup) (h : (x, v) ∈ kv) : kget kv x = some v := by
  cases e : kget kv x with
  | none => exact absurd (List.mem_map.mpr ⟨_, h, rfl⟩) (kget_none.mp e)
  | some u =>
    have h2 := kget_mem e
    have : (x, u) = (x, v) := by
      obtain ⟨i, hi⟩ := List.getElem?_of_mem h2
      obtain ⟨j, hj⟩ := List.getElem?_of_mem h
      have e1 : (kks kv)[i]? = some x := by rw [List.getElem?_map, hi]; rfl
      have e2 : (kks kv)[j]? = some x := by rw [List.getElem?_map, hj]; rfl
      have := (List.getElem?_inj (List.getElem?_eq_some_iff.mp e1).1 nd).mp (e1.trans e2.symm)
      subst this
      rw [hi] at hj
      exact Option.some.inj hj
    cases this
    rfl
theorem kput_new {kv : KV} {x v : Str} (h : x ∉ kks kv) : kput kv x v = kv ++ [(x, v)] := by
  unfold kput
  rw [if_neg]
  intro z
  obtain ⟨p, hp, e⟩ := List.any_eq_true.mp z
  exact h (List.mem_map.mpr ⟨p, hp, of_decide_eq_true e⟩)
theorem kput_old {kv : KV} {x v : Str} (h : x ∈ kks kv) : kput kv x v = kv.map (fun p => if p.1 = x then (p.1, v) else p) := by
  unfold kput
  rw [if_pos]
  obtain ⟨p, hp, e⟩ := List.mem_map.mp h
  exact List.any_eq_true.mpr ⟨p, hp, decide_eq_true e⟩
theorem kks_put {kv : KV} {x v : Str} : kks (kput kv x v) = if x ∈ kks kv then kks kv else kks kv ++ [x] := by
  by_cases h : x ∈ kks kv
  · rw [if_pos h, kput_old h, kks, List.map_map]
    refine List.map_congr_left fun p _ => ?_
    show (if p.1 = x then (p.1, v) else p).1 = p.1
    split <;> rfl
  · rw [if_neg h, kput_new h, kks, List.map_append]
    rfl
theorem kget_cons {p : Str × Str} {kv : KV} {y : Str} : kget (p :: kv) y = if p.1 = y then some p.2 else kget kv y := by
  unfold kget
  rw [List.find?_cons]
  by_cases h : p.1 = y
  · rw [if_pos h, decide_eq_true h]; rfl
  · rw [if_neg h, decide_eq_false h]
theorem kget_map {x v y : Str} : ∀ kv : KV, kget (kv.map fun p => if p.1 = x then (p.1, v) else p) y = if y = x then (kget kv x).map (fun _ => v) else kget kv y
  | [] => by split <;> rfl
  | p :: kv => by
    rw [List.map_cons, kget_cons, kget_map kv, kget_cons, kget_cons]
    obtain ⟨a, b⟩ := p
    by_cases px : a = x
    · subst px
      by_cases yx : y = a
      · subst yx; simp
      · simp [yx, Ne.symm yx]
    · by_cases yx : y = x
      · subst yx; simp [px]
      · simp [px, yx]
theorem kget_app {x v y : Str} : ∀ {kv : KV}, x ∉ kks kv → kget (kv ++ [(x, v)]) y = if y = x then some v else kget kv y
  | [], _ => by
    rw [List.nil_append, kget_cons]
    by_cases h : y = x
    · rw [if_pos h, if_pos h.symm]
    · rw [if_neg h, if_neg (Ne.symm h)]
  | p :: kv, h => by
    have h1 : x ≠ p.1 := fun z => h (by rw [z]; exact List.mem_cons_self)
    have h2 : x ∉ kks kv := fun z => h (List.mem_cons_of_mem _ z)
    rw [List.cons_append, kget_cons, kget_app h2, kget_cons]
    by_cases py : p.1 = y
    · rw [if_pos py, if_neg (by rw [← py]; exact Ne.symm h1), if_pos py]
    · rw [if_neg py, if_neg py]
theorem kget_put {kv : KV} {x v y : Str} : kget (kput kv x v) y = if y = x then some v else kget kv y := by
  by_cases h : x ∈ kks kv
  · rw [kput_old h, kget_map]
    by_cases yx : y = x
    · rw [if_pos yx, if_pos yx]
      cases e : kget kv x with
      | none => exact absurd h (kget_none.mp e)
      | some u => rfl
    · rw [if_neg yx, if_neg yx]
  · rw [kput_new h, kget_app h]
theorem nd_put {kv : KV} {x v : Str} (nd : (kks kv).Nodup) : (kks (kput kv x v)).Nodup := by
  rw [kks_put]
  split
  · exact nd
  · rename_i h
    rw [List.nodup_append]
    exact ⟨nd, by simp, fun a ha b hb e => h (by rw [← List.mem_singleton.mp hb, ← e]; exact ha)⟩
/-- the values: x's old one goes, the new one comes -/
theorem kvs_put {kv : KV} {x u v : Str} (nd : (kks kv).Nodup) (h : kget kv x = some u) : (u :: kvs (kput kv x v)).Perm (v :: kvs kv) := by
  have hx : x ∈ kks kv := List.mem_map.mpr ⟨_, kget_mem h, rfl⟩
  rw [kput_old hx]
  clear hx
  induction kv with
  | nil => cases h
  | cons p kv ih =>
    rw [kks, List.map_cons, List.nodup_cons] at nd
    rw [kget_cons] at h
    by_cases px : p.1 = x
    · rw [if_pos px] at h
      cases h
      have e : (kv.map fun p => if p.1 = x then (p.1, v) else p) = kv := by
        refine (List.map_congr_left fun q hq => ?_).trans (List.map_id kv)
        rw [if_neg]
        · rfl
        · intro z
          exact nd.1 (List.mem_map.mpr ⟨q, hq, by rw [z, px]⟩)
      rw [List.map_cons, e, if_pos px]
      exact List.Perm.swap _ _ _
    · rw [if_neg px] at h
      have := ih nd.2 h
      rw [List.map_cons, if_neg px]
      show (u :: p.2 :: kvs (kv.map fun p => if p.1 = x then (p.1, v) else p)).Perm (v :: p.2 :: kvs kv)
      exact ((List.Perm.swap _ _ _).trans (this.cons p.2)).trans (List.Perm.swap _ _ _)
theorem kvs_new {kv : KV} {x v : Str} (h : kget kv x = none) : (kvs (kput kv x v)).Perm (v :: kvs kv) := by
  rw [kput_new (kget_none.mp h), kvs, List.map_append]
  exact List.perm_append_comm
section
variable (E : Str → List Str)
/-- whether a parcel is put right within another one of some, others being put elsewhere if need be -/
def grwL (rec : Str → KV → List Str → Bool × KV × List Str) (n : Str) : List Str → KV → List Str → Bool × KV × List Str
  | [], kv, T => (false, kv, T)
  | o :: os, kv, T => if o ∈ T then grwL rec n os kv T else match kget kv o with
    | none => (true, kput kv o n, T ++ [o])
    | some x => match rec x kv (T ++ [o]) with
      | (true, kv', T') => (true, kput kv' o n, T')
      | (false, kv', T') => grwL rec n os kv' T'
def grw : Nat → Str → KV → List Str → Bool × KV × List Str
  | 0, _, kv, T => (false, kv, T)
  | k + 1, n, kv, T => grwL (grw k) n (E n) kv T
/-- what a growing does -/
structure Gr (n : Str) (os : List Str) (kv : KV) (T : List Str) (r : Bool × KV × List Str) : Prop where
  t : ∀ y ∈ T, y ∈ r.2.2
  tn : ∀ y ∈ r.2.2, y ∈ T ∨ ∃ x, y ∈ E x
  td : T.Nodup → r.2.2.Nodup
  f : r.1 = false → r.2.1 = kv
  nd : (kks r.2.1).Nodup
  at_ : ∀ y ∈ T, kget r.2.1 y = kget kv y
  v : r.1 = true → (kvs r.2.1).Perm (n :: kvs kv)
  ok : (∀ y x, kget kv y = some x → y ∈ E x) → ∀ y x, kget r.2.1 y = some x → y ∈ E x
  cl : ∀ C : Str → Prop, (∀ y, C y → ∃ x, kget kv y = some x ∧ ∀ o ∈ E x, C o) → (∀ y, C y → kget r.2.1 y = kget kv y) ∧ ((∀ o ∈ os, C o) → r.1 = false)
theorem grwL_spec {rec : Str → KV → List Str → Bool × KV × List Str} (hr : ∀ n kv T, (kks kv).Nodup → Gr E n (E n) kv T (rec n kv T)) (n : Str) :
    ∀ (os : List Str) (kv : KV) (T : List Str), (kks kv).Nodup → (∀ o ∈ os, o ∈ E n) → Gr E n os kv T (grwL rec n os kv T)
  | [], kv, T, nd, _ => ⟨fun _ h => h, fun _ h => .inl h, id, fun _ => rfl, nd, fun _ _ => rfl, nofun, fun h => h, fun C _ => ⟨fun _ _ => rfl, fun _ => rfl⟩⟩
  | o :: os, kv, T, nd, ho => by
    have ho' : ∀ o ∈ os, o ∈ E n := fun z hz => ho z (List.mem_cons_of_mem _ hz)
    have hoo := ho o List.mem_cons_self
    unfold grwL
    by_cases h : o ∈ T
    · rw [if_pos h]
      have g := grwL_spec hr n os kv T nd ho'
      exact ⟨g.t, g.tn, g.td, g.f, g.nd, g.at_, g.v, g.ok, fun C hC => ⟨(g.cl C hC).1, fun hs => (g.cl C hC).2 fun z hz => hs z (List.mem_cons_of_mem _ hz)⟩⟩
    · rw [if_neg h]
      have tnd : T.Nodup → (T ++ [o]).Nodup := fun q => by
        rw [List.nodup_append]
        exact ⟨q, by simp, fun a ha b hb e => h (by rw [← List.mem_singleton.mp hb, ← e]; exact ha)⟩
      cases e : kget kv o with
      | none =>
        refine ⟨fun y hy => List.mem_append_left _ hy, fun y hy => ?_, tnd, nofun, nd_put nd, fun y hy => ?_, fun _ => kvs_new e, fun ok y x hy => ?_, fun C hC => ⟨fun y hy => ?_, fun hs => ?_⟩⟩
        · rcases List.mem_append.mp hy with hy | hy
          · exact .inl hy
          · rw [List.mem_singleton.mp hy]; exact .inr ⟨n, hoo⟩
        · show kget (kput kv o n) y = _
          rw [kget_put, if_neg]
          exact fun z => h (by rw [← z]; exact hy)
        · have hy : kget (kput kv o n) y = some x := hy
          rw [kget_put] at hy
          by_cases z : y = o
          · rw [if_pos z] at hy
            cases hy
            rw [z]; exact hoo
          · rw [if_neg z] at hy
            exact ok y x hy
        · show kget (kput kv o n) y = _
          rw [kget_put, if_neg]
          intro z
          obtain ⟨x, hx, _⟩ := hC y hy
          rw [z, e] at hx
          cases hx
        · obtain ⟨x, hx, _⟩ := hC o (hs o List.mem_cons_self)
          rw [e] at hx
          cases hx
      | some x =>
        have g := hr x kv (T ++ [o]) nd
        show Gr E n (o :: os) kv T (match rec x kv (T ++ [o]) with
          | (true, kv', T') => (true, kput kv' o n, T')
          | (false, kv', T') => grwL rec n os kv' T')
        generalize rec x kv (T ++ [o]) = r at g ⊢
        obtain ⟨b, kv', T'⟩ := r
        have oT : o ∈ T' := g.t o (by simp)
        have tsub : ∀ y ∈ T, y ∈ T' := fun y hy => g.t y (List.mem_append_left _ hy)
        have ttn : ∀ y ∈ T', y ∈ T ∨ ∃ x, y ∈ E x := fun y hy => by
          rcases g.tn y hy with z | z
          · rcases List.mem_append.mp z with z | z
            · exact .inl z
            · rw [List.mem_singleton.mp z]; exact .inr ⟨n, hoo⟩
          · exact .inr z
        have ko : kget kv' o = some x := (g.at_ o (by simp)).trans e
        cases b with
        | true =>
          refine ⟨tsub, ttn, fun q => g.td (tnd q), nofun, nd_put g.nd, fun y hy => ?_, fun _ => ?_, fun ok y z hy => ?_, fun C hC => ⟨fun y hy => ?_, fun hs => ?_⟩⟩
          · show kget (kput kv' o n) y = _
            rw [kget_put, if_neg (fun z => h (by rw [← z]; exact hy))]
            exact g.at_ y (List.mem_append_left _ hy)
          · have h1 := kvs_put (v := n) g.nd ko
            have h2 := g.v rfl
            have h3 : (x :: kvs (kput kv' o n)).Perm (x :: n :: kvs kv) := (h1.trans (h2.cons n)).trans (List.Perm.swap _ _ _)
            exact List.Perm.cons_inv h3
          · have hy : kget (kput kv' o n) y = some z := hy
            rw [kget_put] at hy
            by_cases yo : y = o
            · rw [if_pos yo] at hy
              cases hy
              rw [yo]; exact hoo
            · rw [if_neg yo] at hy
              exact g.ok ok y z hy
          · show kget (kput kv' o n) y = _
            have gc := g.cl C hC
            rw [kget_put, if_neg]
            · exact gc.1 y hy
            · intro z
              rw [z] at hy
              obtain ⟨x', hx', hE⟩ := hC o hy
              rw [e] at hx'
              cases hx'
              have := gc.2 hE
              cases this
          · obtain ⟨x', hx', hE⟩ := hC o (hs o List.mem_cons_self)
            rw [e] at hx'
            cases hx'
            have := (g.cl C hC).2 hE
            cases this
        | false =>
          have ek : kv' = kv := g.f rfl
          subst ek
          have g2 := grwL_spec hr n os kv' T' g.nd ho'
          exact ⟨fun y hy => g2.t y (tsub y hy), fun y hy => by
            rcases g2.tn y hy with z | z
            · exact ttn y z
            · exact .inr z, fun q => g2.td (g.td (tnd q)), g2.f, g2.nd, fun y hy => g2.at_ y (tsub y hy), g2.v, g2.ok, fun C hC => ⟨(g2.cl C hC).1, fun hs => (g2.cl C hC).2 fun z hz => hs z (List.mem_cons_of_mem _ hz)⟩⟩
theorem grw_spec : ∀ (k : Nat) (n : Str) (kv : KV) (T : List Str), (kks kv).Nodup → Gr E n (E n) kv T (grw E k n kv T)
  | 0, n, kv, T, nd => ⟨fun _ h => h, fun _ h => .inl h, id, fun _ => rfl, nd, fun _ _ => rfl, nofun, fun h => h, fun C _ => ⟨fun _ _ => rfl, fun _ => rfl⟩⟩
  | k + 1, n, kv, T, nd => grwL_spec E (grw_spec k) n (E n) kv T nd fun _ h => h
end
end LW
namespace LW
open PySem L2 C8 PySem.Spec PyProof.Rows VS
/-! ### no growing more: what is tried is closed; the matching of all -/
def rem (U T : List Str) : Nat := (U.filter fun x => !decide (x ∈ T)).length
theorem rem_le {U T T' : List Str} (h : ∀ y ∈ T, y ∈ T') : rem U T' ≤ rem U T := by
  unfold rem
  induction U with
  | nil => exact Nat.le_refl _
  | cons u U ih =>
    rw [List.filter_cons, List.filter_cons]
    by_cases a : u ∈ T
    · rw [if_neg (by simp [h u a]), if_neg (by simp [a])]
      exact ih
    · by_cases b : u ∈ T'
      · rw [if_neg (by simp [b]), if_pos (by simp [a])]
        exact Nat.le_succ_of_le ih
      · rw [if_pos (by simp [b]), if_pos (by simp [a])]
        exact Nat.succ_le_succ ih
theorem rem_lt {U T : List Str} {o : Str} (ho : o ∈ U) (h : o ∉ T) : rem U (T ++ [o]) < rem U T := by
  induction U with
  | nil => cases ho
  | cons u U ih =>
    unfold rem at *
    rw [List.filter_cons, List.filter_cons]
    by_cases e : u = o
    · subst e
      rw [if_neg (by simp), if_pos (by simp [h])]
      have := rem_le (U := U) (T := T) (T' := T ++ [u]) (fun y hy => List.mem_append_left _ hy)
      unfold rem at this
      rw [List.length_cons]
      omega
    · have ih := ih (by rcases List.mem_cons.mp ho with z | z; exact absurd z.symm e; exact z)
      by_cases a : u ∈ T
      · rw [if_neg (by simp [a]), if_neg (by simp [a])]
        exact ih
      · rw [if_pos (by simp [a, e]), if_pos (by simp [a])]
        rw [List.length_cons, List.length_cons]
        omega
theorem rem_nil (U : List Str) : rem U [] = U.length := by
  unfold rem
  simp
section
variable {E : Str → List Str}
/-- a closed set: all of it matched, and so what goes in what is matched to it -/
def Clo (E : Str → List Str) (kv : KV) (C : Str → Prop) : Prop := ∀ y, C y → ∃ x, kget kv y = some x ∧ ∀ o ∈ E x, C o
theorem grwL_fail {U : List Str} (hU : ∀ x, ∀ o ∈ E x, o ∈ U) {k : Nat} {n : Str}
    (hr : ∀ n kv T, (kks kv).Nodup → rem U T < k → (grw E k n kv T).1 = false → (∀ o ∈ E n, o ∈ (grw E k n kv T).2.2) ∧ ∀ y ∈ (grw E k n kv T).2.2, y ∉ T → ∃ x, kget kv y = some x ∧ ∀ o ∈ E x, o ∈ (grw E k n kv T).2.2) :
    ∀ (os : List Str) (kv : KV) (T : List Str), (kks kv).Nodup → rem U T < k + 1 → (∀ o ∈ os, o ∈ E n) → (grwL (grw E k) n os kv T).1 = false →
      (∀ o ∈ os, o ∈ (grwL (grw E k) n os kv T).2.2) ∧ ∀ y ∈ (grwL (grw E k) n os kv T).2.2, y ∉ T → ∃ x, kget kv y = some x ∧ ∀ o ∈ E x, o ∈ (grwL (grw E k) n os kv T).2.2
  | [], kv, T, _, _, _, _ => ⟨nofun, fun y hy hn => absurd hy hn⟩
  | o :: os, kv, T, nd, hk, ho, hf => by
    have ho' : ∀ o ∈ os, o ∈ E n := fun z hz => ho z (List.mem_cons_of_mem _ hz)
    have hoo := ho o List.mem_cons_self
    unfold grwL at hf ⊢
    by_cases h : o ∈ T
    · rw [if_pos h] at hf ⊢
      obtain ⟨a, b⟩ := grwL_fail hU hr os kv T nd hk ho' hf
      have g := grwL_spec E (grw_spec E k) n os kv T nd ho'
      refine ⟨fun z hz => ?_, b⟩
      rcases List.mem_cons.mp hz with rfl | hz
      · exact g.t _ h
      · exact a z hz
    · rw [if_neg h] at hf ⊢
      cases e : kget kv o with
      | none => rw [e] at hf; cases hf
      | some x =>
        rw [e] at hf
        have r1 := rem_lt (hU n o hoo) h
        have g := grw_spec E k x kv (T ++ [o]) nd
        have fl := hr x kv (T ++ [o]) nd (by omega)
        have hf2 : (match grw E k x kv (T ++ [o]) with
          | (true, kv', T') => (true, kput kv' o n, T')
          | (false, kv', T') => grwL (grw E k) n os kv' T').1 = false := hf
        clear hf
        show (∀ z ∈ o :: os, z ∈ (match grw E k x kv (T ++ [o]) with
          | (true, kv', T') => (true, kput kv' o n, T')
          | (false, kv', T') => grwL (grw E k) n os kv' T').2.2) ∧ ∀ y ∈ (match grw E k x kv (T ++ [o]) with
          | (true, kv', T') => (true, kput kv' o n, T')
          | (false, kv', T') => grwL (grw E k) n os kv' T').2.2, y ∉ T → ∃ x', kget kv y = some x' ∧ ∀ z ∈ E x', z ∈ (match grw E k x kv (T ++ [o]) with
          | (true, kv', T') => (true, kput kv' o n, T')
          | (false, kv', T') => grwL (grw E k) n os kv' T').2.2
        generalize grw E k x kv (T ++ [o]) = r at g fl hf2 ⊢
        obtain ⟨b, kv', T'⟩ := r
        cases b with
        | true => cases hf2
        | false =>
          have ek : kv' = kv := g.f rfl
          subst ek
          obtain ⟨fa, fb⟩ := fl rfl
          have fa : ∀ z ∈ E x, z ∈ T' := fa
          have fb : ∀ y ∈ T', y ∉ T ++ [o] → ∃ x, kget kv' y = some x ∧ ∀ o ∈ E x, o ∈ T' := fb
          have tt : ∀ y ∈ T ++ [o], y ∈ T' := g.t
          have r2 := rem_le (U := U) tt
          have g2 := grwL_spec E (grw_spec E k) n os kv' T' nd ho'
          obtain ⟨a2, b2⟩ := grwL_fail hU hr os kv' T' nd (by omega) ho' hf2
          refine ⟨fun z hz => ?_, fun y hy hn => ?_⟩
          · rcases List.mem_cons.mp hz with rfl | hz
            · exact g2.t _ (tt _ (by simp))
            · exact a2 z hz
          · by_cases y1 : y ∈ T'
            · by_cases y2 : y = o
              · subst y2
                exact ⟨x, e, fun z hz => g2.t _ (fa z hz)⟩
              · obtain ⟨x', h1, h2⟩ := fb y y1 (by simp [hn, y2])
                exact ⟨x', h1, fun z hz => g2.t _ (h2 z hz)⟩
            · exact b2 y hy y1
theorem grw_fail {U : List Str} (hU : ∀ x, ∀ o ∈ E x, o ∈ U) : ∀ (k : Nat) (n : Str) (kv : KV) (T : List Str), (kks kv).Nodup → rem U T < k → (grw E k n kv T).1 = false →
    (∀ o ∈ E n, o ∈ (grw E k n kv T).2.2) ∧ ∀ y ∈ (grw E k n kv T).2.2, y ∉ T → ∃ x, kget kv y = some x ∧ ∀ o ∈ E x, o ∈ (grw E k n kv T).2.2
  | 0, _, _, _, _, h, _ => absurd h (Nat.not_lt_zero _)
  | k + 1, n, kv, T, nd, h, hf => grwL_fail hU (grw_fail hU k) (E n) kv T nd h (fun _ h => h) hf
/-- the matching of all, one behind the other -/
def mat (E : Str → List Str) (k : Nat) (l : List Str) (kv : KV) : KV := l.foldl (fun kv n => (grw E k n kv []).2.1) kv
structure MI (E : Str → List Str) (done : List Str) (kv : KV) : Prop where
  nd : (kks kv).Nodup
  ok : ∀ y x, kget kv y = some x → y ∈ E x
  vn : (kvs kv).Nodup
  vs : ∀ x ∈ kvs kv, x ∈ done
  cl : ∀ n ∈ done, n ∈ kvs kv ∨ ∃ C, Clo E kv C ∧ ∀ o ∈ E n, C o
theorem mat_step {U : List Str} (hU : ∀ x, ∀ o ∈ E x, o ∈ U) {k : Nat} (hk : U.length < k) {done : List Str} {kv : KV} {n : Str} (h : MI E done kv) (hn : n ∉ done) : MI E (done ++ [n]) (grw E k n kv []).2.1 := by
  have g := grw_spec E k n kv [] h.nd
  have fl := grw_fail hU k n kv [] h.nd (by rw [rem_nil]; exact hk)
  generalize grw E k n kv [] = r at g fl ⊢
  obtain ⟨b, kv', T'⟩ := r
  cases b with
  | false =>
    have ek : kv' = kv := g.f rfl
    subst ek
    obtain ⟨fa, fb⟩ := fl rfl
    refine ⟨h.nd, h.ok, h.vn, fun x hx => List.mem_append_left _ (h.vs x hx), fun m hm => ?_⟩
    rcases List.mem_append.mp hm with hm | hm
    · exact h.cl m hm
    · rw [List.mem_singleton.mp hm]
      exact .inr ⟨(· ∈ T'), fun y hy => fb y hy (by simp), fa⟩
  | true =>
    have pv : (kvs kv').Perm (n :: kvs kv) := g.v rfl
    refine ⟨g.nd, g.ok h.ok, pv.nodup_iff.mpr (List.nodup_cons.mpr ⟨fun z => hn (h.vs n z), h.vn⟩), fun x hx => ?_, fun m hm => ?_⟩
    · rcases List.mem_cons.mp (pv.mem_iff.mp hx) with rfl | hx
      · simp
      · exact List.mem_append_left _ (h.vs x hx)
    · rcases List.mem_append.mp hm with hm | hm
      · rcases h.cl m hm with z | ⟨C, hC, hs⟩
        · exact .inl (pv.mem_iff.mpr (List.mem_cons_of_mem _ z))
        · have gc := (g.cl C hC).1
          exact .inr ⟨C, fun y hy => by
            obtain ⟨x, hx, hE⟩ := hC y hy
            exact ⟨x, (gc y hy).trans hx, hE⟩, hs⟩
      · rw [List.mem_singleton.mp hm]
        exact .inl (pv.mem_iff.mpr List.mem_cons_self)
theorem mat_spec {U : List Str} (hU : ∀ x, ∀ o ∈ E x, o ∈ U) {k : Nat} (hk : U.length < k) : ∀ (l done : List Str) (kv : KV), MI E done kv → (done ++ l).Nodup → MI E (done ++ l) (mat E k l kv)
  | [], done, kv, h, _ => by rw [List.append_nil]; exact h
  | n :: l, done, kv, h, nd => by
    have hn : n ∉ done := fun z => by
      rw [List.nodup_append] at nd
      exact nd.2.2 n z n List.mem_cons_self rfl
    have := mat_spec hU hk l (done ++ [n]) _ (mat_step hU hk h hn) (by rw [List.append_assoc]; exact nd)
    rw [List.append_assoc] at this
    exact this
theorem MI.nil : MI E [] [] := ⟨.nil, nofun, .nil, nofun, nofun⟩
/-! ### what is reached from those within none -/
def wof (kv : KV) (o : Str) : Str := (kget kv o).getD ""
abbrev R3 := List Str × List Str × List Str
def rchO (kv : KV) (os : List Str) (st : R3) : R3 := os.foldl (fun st o => if o ∈ st.2.1 then st else (st.1 ++ [wof kv o], st.2.1 ++ [o], st.2.2 ++ [wof kv o])) st
def rch (E : Str → List Str) (kv : KV) : Nat → R3 → List Str × List Str
  | 0, st => (st.1, st.2.1)
  | k + 1, st => match st.2.2.getLast? with
    | none => (st.1, st.2.1)
    | some x => rch E kv k (rchO kv (E x) (st.1, st.2.1, st.2.2.dropLast))
theorem rch_done {kv : KV} {o t : List Str} : ∀ k, rch E kv k (o, t, []) = (o, t)
  | 0 => rfl
  | _ + 1 => rfl
structure RI (E : Str → List Str) (U : List Str) (kv : KV) (o0 : List Str) (C : Str → Prop) (st : R3) : Prop where
  o1 : st.1 = o0 ++ st.2.1.map (wof kv)
  nd : st.2.1.Nodup
  os : ∀ o ∈ st.2.1, C o
  ou : ∀ o ∈ st.2.1, o ∈ U
  wt : ∀ x ∈ st.2.2, x ∈ st.1
  cx : ∀ x ∈ st.1, ∀ o ∈ E x, C o
theorem wof_of {kv : KV} {o x : Str} (h : kget kv o = some x) : wof kv o = x := by
  unfold wof
  rw [h]
  rfl
/-- the turn of one -/
theorem rchO_spec {U : List Str} {kv : KV} {o0 : List Str} {C : Str → Prop} (hC : Clo E kv C) : ∀ (os : List Str) (st : R3), RI E U kv o0 C st → (∀ o ∈ os, C o ∧ o ∈ U) →
    RI E U kv o0 C (rchO kv os st) ∧ (∀ o ∈ os, o ∈ (rchO kv os st).2.1) ∧ (∀ o ∈ st.2.1, o ∈ (rchO kv os st).2.1) ∧ (∀ x ∈ (rchO kv os st).1, x ∈ st.1 ∨ x ∈ (rchO kv os st).2.2) ∧ (∀ x ∈ st.2.2, x ∈ (rchO kv os st).2.2) ∧
      (rchO kv os st).2.2.length + rem U (rchO kv os st).2.1 ≤ st.2.2.length + rem U st.2.1
  | [], st, h, _ => ⟨h, nofun, fun _ h => h, fun _ h => .inl h, fun _ h => h, Nat.le_refl _⟩
  | o :: os, st, h, ho => by
    have ho' : ∀ o ∈ os, C o ∧ o ∈ U := fun z hz => ho z (List.mem_cons_of_mem _ hz)
    obtain ⟨co, uo⟩ := ho o List.mem_cons_self
    have e : rchO kv (o :: os) st = rchO kv os (if o ∈ st.2.1 then st else (st.1 ++ [wof kv o], st.2.1 ++ [o], st.2.2 ++ [wof kv o])) := rfl
    rw [e]
    by_cases z : o ∈ st.2.1
    · rw [if_pos z]
      obtain ⟨a, b, c, d, f, g⟩ := rchO_spec hC os st h ho'
      refine ⟨a, fun y hy => ?_, c, d, f, g⟩
      rcases List.mem_cons.mp hy with rfl | hy
      · exact c _ z
      · exact b y hy
    · rw [if_neg z]
      obtain ⟨x, hx, hE⟩ := hC o co
      have h' : RI E U kv o0 C (st.1 ++ [wof kv o], st.2.1 ++ [o], st.2.2 ++ [wof kv o]) := by
        refine ⟨?_, ?_, fun y hy => ?_, fun y hy => ?_, fun y hy => ?_, fun y hy => ?_⟩
        · show st.1 ++ [wof kv o] = o0 ++ (st.2.1 ++ [o]).map (wof kv)
          rw [h.o1, List.map_append, List.append_assoc]; rfl
        · show (st.2.1 ++ [o]).Nodup
          rw [List.nodup_append]
          exact ⟨h.nd, by simp, fun a ha b hb e => z (by rw [← List.mem_singleton.mp hb, ← e]; exact ha)⟩
        · rcases List.mem_append.mp hy with hy | hy
          · exact h.os y hy
          · rw [List.mem_singleton.mp hy]; exact co
        · rcases List.mem_append.mp hy with hy | hy
          · exact h.ou y hy
          · rw [List.mem_singleton.mp hy]; exact uo
        · rcases List.mem_append.mp hy with hy | hy
          · exact List.mem_append_left _ (h.wt y hy)
          · exact List.mem_append_right _ hy
        · rcases List.mem_append.mp hy with hy | hy
          · exact h.cx y hy
          · rw [List.mem_singleton.mp hy, wof_of hx]; exact hE
      obtain ⟨a, b, c, d, f, g⟩ := rchO_spec hC os _ h' ho'
      refine ⟨a, fun y hy => ?_, fun y hy => c y (List.mem_append_left _ hy), fun y hy => ?_, fun y hy => f y (List.mem_append_left _ hy), ?_⟩
      · rcases List.mem_cons.mp hy with rfl | hy
        · exact c _ (by simp)
        · exact b y hy
      · rcases d y hy with w | w
        · rcases List.mem_append.mp w with w | w
          · exact .inl w
          · exact .inr (f y (List.mem_append_right _ w))
        · exact .inr w
      · have := rem_lt uo z
        have g : _ ≤ (st.2.2 ++ [wof kv o]).length + rem U (st.2.1 ++ [o]) := g
        rw [List.length_append] at g
        have e1 : [wof kv o].length = 1 := rfl
        omega
end
end LW
namespace LW
open PySem L2 C8 PySem.Spec PyProof.Rows VS
section
variable {E : Str → List Str}
theorem rch_spec {U : List Str} {kv : KV} {o0 : List Str} {C : Str → Prop} (hC : Clo E kv C) (hU : ∀ x, ∀ o ∈ E x, o ∈ U) : ∀ (m : Nat) (st : R3), RI E U kv o0 C st → (∀ x ∈ st.1, x ∈ st.2.2 ∨ ∀ o ∈ E x, o ∈ st.2.1) → st.2.2.length + rem U st.2.1 ≤ m →
    (rch E kv m st).1 = o0 ++ (rch E kv m st).2.map (wof kv) ∧ (rch E kv m st).2.Nodup ∧ (∀ o ∈ (rch E kv m st).2, C o ∧ o ∈ U) ∧ ∀ x ∈ (rch E kv m st).1, ∀ o ∈ E x, o ∈ (rch E kv m st).2
  | m, (a, b, []), h, hd, hm => by
    rw [rch_done]
    exact ⟨h.o1, h.nd, fun o ho => ⟨h.os o ho, h.ou o ho⟩, fun x hx => by
      rcases hd x hx with z | z
      · cases z
      · exact z⟩
  | 0, (a, b, w :: ws), h, hd, hm => absurd hm (by show ¬ (w :: ws).length + _ ≤ 0; rw [List.length_cons]; omega)
  | m + 1, (a, b, w :: ws), h, hd, hm => by
    obtain ⟨x, hx⟩ : ∃ x, (w :: ws).getLast? = some x := ⟨_, List.getLast?_eq_getLast (by simp)⟩
    have e : rch E kv (m + 1) (a, b, w :: ws) = rch E kv m (rchO kv (E x) (a, b, (w :: ws).dropLast)) := by
      show (match (w :: ws).getLast? with
        | none => (a, b)
        | some x => rch E kv m (rchO kv (E x) (a, b, (w :: ws).dropLast))) = _
      rw [hx]
    rw [e]
    have sp : (w :: ws).dropLast ++ [x] = w :: ws := by
      have := List.dropLast_concat_getLast (l := w :: ws) (by simp)
      rw [List.getLast?_eq_getLast (by simp)] at hx
      rw [← Option.some.inj hx]
      exact this
    have xa : x ∈ a := h.wt x (by show x ∈ w :: ws; rw [← sp]; simp)
    have h' : RI E U kv o0 C (a, b, (w :: ws).dropLast) := ⟨h.o1, h.nd, h.os, h.ou, fun y hy => h.wt y (List.mem_of_mem_take (by rw [← List.dropLast_eq_take]; exact hy)), h.cx⟩
    obtain ⟨r1, r2, r3, r4, r5, r6⟩ := rchO_spec hC (E x) _ h' fun o ho => ⟨h.cx x xa o ho, hU x o ho⟩
    have hl : (w :: ws).dropLast.length + 1 = (w :: ws).length := by rw [← congrArg List.length sp, List.length_append]; rfl
    refine rch_spec hC hU m _ r1 (fun y hy => ?_) ?_
    · rcases r4 y hy with z | z
      · rcases hd y z with v | v
        · have v : y ∈ w :: ws := v
          rw [← sp] at v
          rcases List.mem_append.mp v with v | v
          · exact .inl (r5 y v)
          · rw [List.mem_singleton.mp v]
            exact .inr r2
        · exact .inr fun o ho => r3 o (v o ho)
      · exact .inl z
    · have hm : (w :: ws).length + rem U b ≤ m + 1 := hm
      have r6 : _ ≤ (w :: ws).dropLast.length + rem U b := r6
      omega
theorem kget_inj {kv : KV} (vn : (kvs kv).Nodup) {a b x : Str} (ha : kget kv a = some x) (hb : kget kv b = some x) : a = b := by
  obtain ⟨i, hi⟩ := List.getElem?_of_mem (kget_mem ha)
  obtain ⟨j, hj⟩ := List.getElem?_of_mem (kget_mem hb)
  have e1 : (kvs kv)[i]? = some x := by rw [List.getElem?_map, hi]; rfl
  have e2 : (kvs kv)[j]? = some x := by rw [List.getElem?_map, hj]; rfl
  have := (List.getElem?_inj (List.getElem?_eq_some_iff.mp e1).1 vn).mp (e1.trans e2.symm)
  subst this
  rw [hi] at hj
  cases hj
  rfl
theorem kget_val {kv : KV} (nd : (kks kv).Nodup) {x : Str} (h : x ∈ kvs kv) : ∃ y, kget kv y = some x := by
  obtain ⟨p, hp, rfl⟩ := List.mem_map.mp h
  exact ⟨p.1, kget_of nd hp⟩
theorem kget_in {kv : KV} {x y : Str} (h : kget kv y = some x) : x ∈ kvs kv := List.mem_map.mpr ⟨_, kget_mem h, rfl⟩
theorem map_nd {kv : KV} (vn : (kvs kv).Nodup) : ∀ {l : List Str}, l.Nodup → (∀ o ∈ l, ∃ x, kget kv o = some x) → (l.map (wof kv)).Nodup
  | [], _, _ => .nil
  | o :: l, nd, h => by
    rw [List.nodup_cons] at nd
    rw [List.map_cons, List.nodup_cons]
    refine ⟨fun z => ?_, map_nd vn nd.2 fun o ho => h o (List.mem_cons_of_mem _ ho)⟩
    obtain ⟨o', ho', e⟩ := List.mem_map.mp z
    obtain ⟨x, hx⟩ := h o List.mem_cons_self
    obtain ⟨x', hx'⟩ := h o' (List.mem_cons_of_mem _ ho')
    rw [wof_of hx, wof_of hx'] at e
    subst e
    rw [kget_inj vn hx' hx] at ho'
    exact nd.1 ho'
theorem perm_of {l m : List Str} (h1 : l.Nodup) (h2 : m.Nodup) (h : ∀ x, x ∈ l ↔ x ∈ m) : l.Perm m := (List.perm_ext_iff_of_nodup h1 h2).mpr h
/-- those that are right within none -/
def outs (ns : List Str) (kv : KV) : List Str := ns.filter fun x => !decide (x ∈ kvs kv)
def lotS (ns : List Str) (r : List Str × List Str) : List Str := ns.filter fun x => decide (x ∈ r.1) && !decide (x ∈ r.2)
structure Cov (ns : List Str) (E : Str → List Str) (kv : KV) (r : List Str × List Str) : Prop where
  on : r.1.Nodup
  oi : ∀ x ∈ r.1, x ∈ ns
  nd : r.2.Nodup
  sub : ∀ x ∈ r.2, x ∈ r.1
  cl : ∀ x ∈ r.1, ∀ o ∈ E x, o ∈ r.2
  len : r.1.length = (outs ns kv).length + r.2.length
  mt : ∀ o ∈ r.2, ∃ x, kget kv o = some x
theorem cov {ns : List Str} {kv : KV} {m : Nat} (nn : ns.Nodup) (hU : ∀ x, ∀ o ∈ E x, o ∈ ns) (tr : ∀ x y z, y ∈ E x → z ∈ E y → z ∈ E x) (h : MI E ns kv) (hm : 2 * ns.length ≤ m) : Cov ns E kv (rch E kv m (outs ns kv, [], outs ns kv)) := by
  let C : Str → Prop := fun y => ∃ C', Clo E kv C' ∧ C' y
  have hC : Clo E kv C := fun y hy => by
    obtain ⟨C', h1, h2⟩ := hy
    obtain ⟨x, hx, hE⟩ := h1 y h2
    exact ⟨x, hx, fun o ho => ⟨C', h1, hE o ho⟩⟩
  have mo : ∀ x ∈ outs ns kv, x ∈ ns ∧ x ∉ kvs kv := fun x hx => by
    obtain ⟨a, b⟩ := List.mem_filter.mp hx
    exact ⟨a, by simpa using b⟩
  have ri : RI E ns kv (outs ns kv) C (outs ns kv, [], outs ns kv) := ⟨by simp, .nil, nofun, nofun, fun _ h => h, fun x hx o ho => by
    obtain ⟨a, b⟩ := mo x hx
    rcases h.cl x a with z | ⟨C', h1, h2⟩
    · exact absurd z b
    · exact ⟨C', h1, h2 o ho⟩⟩
  have lo : (outs ns kv).length ≤ ns.length := List.length_filter_le _ _
  obtain ⟨r1, r2, r3, r4⟩ := rch_spec hC hU m _ ri (fun x hx => .inl hx) (by show (outs ns kv).length + rem ns [] ≤ m; rw [rem_nil]; omega)
  generalize rch E kv m (outs ns kv, [], outs ns kv) = r at r1 r2 r3 r4
  have mt : ∀ o ∈ r.2, ∃ x, kget kv o = some x := fun o ho => by
    obtain ⟨x, hx, _⟩ := hC o (r3 o ho).1
    exact ⟨x, hx⟩
  refine ⟨?_, fun x hx => ?_, r2, fun y hy => ?_, r4, ?_, mt⟩
  · rw [r1, List.nodup_append]
    refine ⟨nn.sublist List.filter_sublist, map_nd h.vn r2 mt, fun a ha b hb e => ?_⟩
    obtain ⟨o, ho, rfl⟩ := List.mem_map.mp hb
    obtain ⟨x, hx⟩ := mt o ho
    rw [wof_of hx] at e
    subst e
    exact (mo _ ha).2 (kget_in hx)
  · rw [r1] at hx
    rcases List.mem_append.mp hx with hx | hx
    · exact (mo x hx).1
    · obtain ⟨o, ho, rfl⟩ := List.mem_map.mp hx
      obtain ⟨x, hx⟩ := mt o ho
      rw [wof_of hx]
      exact h.vs _ (kget_in hx)
  · obtain ⟨x, hx⟩ := mt y hy
    have xr : x ∈ r.1 := by
      rw [r1]
      exact List.mem_append_right _ (List.mem_map.mpr ⟨y, hy, wof_of hx⟩)
    by_cases yv : y ∈ kvs kv
    · obtain ⟨z, hz⟩ := kget_val h.nd yv
      have zr := r4 x xr z (tr x y z (h.ok y x hx) (h.ok z y hz))
      rw [r1]
      exact List.mem_append_right _ (List.mem_map.mpr ⟨z, zr, wof_of hz⟩)
    · rw [r1]
      exact List.mem_append_left _ (List.mem_filter.mpr ⟨(r3 y hy).2, by simp [yv]⟩)
  · rw [congrArg List.length r1, List.length_append, List.length_map]
theorem lot_len {ns : List Str} {kv : KV} {r : List Str × List Str} (nn : ns.Nodup) (c : Cov ns E kv r) : (lotS ns r).length = (outs ns kv).length := by
  have h1 : (lotS ns r).Perm (r.1.filter fun x => !decide (x ∈ r.2)) := perm_of (nn.sublist List.filter_sublist) (c.on.sublist List.filter_sublist) fun x => by
    unfold lotS
    rw [List.mem_filter, List.mem_filter]
    simp only [Bool.and_eq_true, decide_eq_true_eq, Bool.not_eq_true', decide_eq_false_iff_not]
    exact ⟨fun ⟨_, b, d⟩ => ⟨b, d⟩, fun ⟨b, d⟩ => ⟨c.oi x b, b, d⟩⟩
  have h2 : r.2.Perm (r.1.filter fun x => decide (x ∈ r.2)) := perm_of c.nd (c.on.sublist List.filter_sublist) fun x => by
    rw [List.mem_filter]
    simp only [decide_eq_true_eq]
    exact ⟨fun z => ⟨c.sub x z, z⟩, fun ⟨_, z⟩ => z⟩
  have h3 : ∀ (p : Str → Bool) (l : List Str), (l.filter p).length + (l.filter fun x => !p x).length = l.length := fun p l => by
    induction l with
    | nil => rfl
    | cons a l ih =>
      rw [List.filter_cons, List.filter_cons]
      cases p a <;> simp <;> omega
  have h4 := h3 (fun x => decide (x ∈ r.2)) r.1
  have h5 := h1.length_eq
  have h6 := h2.length_eq
  have h7 := c.len
  omega
theorem lot_anti {ns : List Str} {kv : KV} {r : List Str × List Str} (c : Cov ns E kv r) : ∀ x ∈ lotS ns r, ∀ o ∈ E x, o ∉ lotS ns r := fun x hx o ho z => by
  obtain ⟨_, h1⟩ := List.mem_filter.mp hx
  obtain ⟨_, h2⟩ := List.mem_filter.mp z
  simp only [Bool.and_eq_true, decide_eq_true_eq, Bool.not_eq_true', decide_eq_false_iff_not] at h1 h2
  exact h2.2 (c.cl x h1.1 o ho)
/-! ### the nests -/
def bld (kv : KV) : Nat → List Str → List Str
  | 0, l => l
  | _ + 1, [] => []
  | k + 1, x :: t => match kget kv x with
    | none => x :: t
    | some y => bld kv k (y :: x :: t)
theorem bld_spec {ns : List Str} {kv : KV} {rk : Str → Int} (ok : ∀ y x, kget kv y = some x → y ∈ E x) (vs : ∀ x ∈ kvs kv, x ∈ ns) (inc : ∀ n ∈ ns, ∀ o ∈ E n, rk n < rk o) :
    ∀ (k : Nat) (x : Str) (t : List Str), Pth E (x :: t) → (∀ z ∈ x :: t, z ∈ ns) → (x :: t).Pairwise (fun a b => rk a < rk b) → (∀ z ∈ t, ∀ y, kget kv z = some y → y ∈ x :: t) → ns.length + 1 ≤ k + (x :: t).length →
      ∃ x' t', bld kv k (x :: t) = x' :: t' ∧ Pth E (x' :: t') ∧ (∀ z ∈ x' :: t', z ∈ ns) ∧ (x' :: t').Pairwise (fun a b => rk a < rk b) ∧ (∀ z ∈ x' :: t', ∀ y, kget kv z = some y → y ∈ x' :: t') ∧ (∀ z ∈ x :: t, z ∈ x' :: t') ∧ (∀ z ∈ x' :: t', z ∈ x :: t ∨ ∃ y ∈ x' :: t', kget kv y = some z)
  | 0, x, t, pt, hs, pw, cl, hk => by
    have nd : (x :: t).Nodup := pw.imp fun h e => by subst e; omega
    have : (x :: t).length ≤ ns.length := by
      have key : ∀ {xs ys : List Str}, xs.Nodup → (∀ x ∈ xs, x ∈ ys) → xs.length ≤ ys.length := by
        intro xs
        induction xs with
        | nil => intro _ _ _; exact Nat.zero_le _
        | cons a xs ih =>
          intro ys hn hs
          rw [List.nodup_cons] at hn
          have ha := hs a List.mem_cons_self
          have := ih (ys := ys.erase a) hn.2 fun z hz => (List.mem_erase_of_ne (fun e => hn.1 (by subst e; exact hz))).mpr (hs z (List.mem_cons_of_mem _ hz))
          rw [List.length_erase_of_mem ha] at this
          have := List.length_pos_of_mem ha
          rw [List.length_cons]
          omega
      exact key nd hs
    omega
  | k + 1, x, t, pt, hs, pw, cl, hk => by
    cases e : kget kv x with
    | none =>
      have eb : bld kv (k + 1) (x :: t) = x :: t := by unfold bld; rw [e]
      refine ⟨x, t, eb, pt, hs, pw, fun z hz y hy => ?_, fun z hz => hz, fun z hz => .inl hz⟩
      rcases List.mem_cons.mp hz with rfl | hz
      · rw [e] at hy; cases hy
      · exact cl z hz y hy
    | some y =>
      have eb : bld kv (k + 1) (x :: t) = bld kv k (y :: x :: t) := by
        show (match kget kv x with
          | none => x :: t
          | some y => bld kv k (y :: x :: t)) = _
        rw [e]
      have yn : y ∈ ns := vs y (kget_in e)
      have xE := ok x y e
      have lt := inc y yn x xE
      obtain ⟨x', t', h1, h2, h3, h4, h5, h6, h7⟩ := bld_spec ok vs inc k y (x :: t) (.cons xE pt) (fun z hz => by
        rcases List.mem_cons.mp hz with rfl | hz
        · exact yn
        · exact hs z hz) (List.pairwise_cons.mpr ⟨fun z hz => by
          rcases List.mem_cons.mp hz with rfl | hz
          · exact lt
          · have := (List.pairwise_cons.mp pw).1 z hz
            omega, pw⟩) (fun z hz w hw => by
        rcases List.mem_cons.mp hz with rfl | hz
        · rw [e] at hw
          cases hw
          exact List.mem_cons_self
        · exact List.mem_cons_of_mem _ (cl z hz w hw)) (by rw [List.length_cons] at hk ⊢; rw [List.length_cons]; omega)
      refine ⟨x', t', eb.trans h1, h2, h3, h4, h5, fun z hz => h6 z (List.mem_cons_of_mem _ hz), fun z hz => ?_⟩
      rcases h7 z hz with w | w
      · rcases List.mem_cons.mp w with rfl | w
        · exact .inr ⟨x, h6 x (by simp), e⟩
        · exact .inl w
      · exact .inr w
/-- what holds of each where it holds of those in which it goes -/
theorem Tp.ind {l : List Str} (t : Tp E l) {Q : Str → Prop} (h : ∀ z ∈ l, (∀ y ∈ E z, Q y) → Q z) : ∀ z ∈ l, Q z := by
  induction t with
  | nil => intro z hz; cases hz
  | cons hn he t ih =>
    have it := ih fun z hz hq => h z (List.mem_cons_of_mem _ hz) hq
    intro z hz
    rcases List.mem_cons.mp hz with rfl | hz
    · exact h _ List.mem_cons_self fun y hy => it y (he y hy)
    · exact it z hz
def nst (kv : KV) (x : Str) : List Str := bld kv 13 [x]
structure Nst (E : Str → List Str) (ns : List Str) (kv : KV) (x : Str) : Prop where
  ne : nst kv x ≠ []
  p : Pth E (nst kv x)
  i : ∀ z ∈ nst kv x, z ∈ ns
  nd : (nst kv x).Nodup
  cl : ∀ z ∈ nst kv x, ∀ y, kget kv z = some y → y ∈ nst kv x
  xi : x ∈ nst kv x
  v : ∀ z ∈ nst kv x, z = x ∨ ∃ y ∈ nst kv x, kget kv y = some z
theorem nst_spec {ns : List Str} {kv : KV} {rk : Str → Int} (h : MI E ns kv) (inc : ∀ n ∈ ns, ∀ o ∈ E n, rk n < rk o) (n12 : ns.length ≤ 12) {x : Str} (hx : x ∈ ns) : Nst E ns kv x := by
  obtain ⟨x', t', h1, h2, h3, h4, h5, h6, h7⟩ := bld_spec h.ok h.vs inc 13 x [] .one (fun z hz => by rw [List.mem_singleton.mp hz]; exact hx) (List.pairwise_singleton _ _) nofun (by show _ ≤ 13 + 1; omega)
  have e : nst kv x = x' :: t' := h1
  refine ⟨by rw [e]; simp, by rw [e]; exact h2, by rw [e]; exact h3, by rw [e]; exact h4.imp fun h z => by subst z; omega, by rw [e]; exact h5, by rw [e]; exact h6 x (by simp), fun z hz => ?_⟩
  rw [e] at hz ⊢
  rcases h7 z hz with w | w
  · exact .inl (List.mem_singleton.mp w)
  · exact .inr w
theorem flat_nd {α : Type} {f : Str → List α} : ∀ {l : List Str}, l.Nodup → (∀ x ∈ l, (f x).Nodup) → (∀ x ∈ l, ∀ y ∈ l, ∀ z, z ∈ f x → z ∈ f y → x = y) → (l.flatMap f).Nodup
  | [], _, _, _ => .nil
  | x :: l, nd, h1, h2 => by
    rw [List.nodup_cons] at nd
    rw [List.flatMap_cons, List.nodup_append]
    refine ⟨h1 x List.mem_cons_self, flat_nd nd.2 (fun y hy => h1 y (List.mem_cons_of_mem _ hy)) (fun a ha b hb => h2 a (List.mem_cons_of_mem _ ha) b (List.mem_cons_of_mem _ hb)), fun a ha b hb e => ?_⟩
    subst e
    obtain ⟨y, hy, hz⟩ := List.mem_flatMap.mp hb
    have := h2 x List.mem_cons_self y (List.mem_cons_of_mem _ hy) a ha hz
    subst this
    exact nd.1 hy
/-- each one is in just one nest -/
theorem nests_perm {ns l0 : List Str} {kv : KV} {rk : Str → Int} (nn : ns.Nodup) (h : MI E ns kv) (inc : ∀ n ∈ ns, ∀ o ∈ E n, rk n < rk o) (n12 : ns.length ≤ 12) (tp : Tp E l0) (hl : ∀ x, x ∈ l0 ↔ x ∈ ns) :
    ((outs ns kv).flatMap (nst kv)).Perm ns := by
  have mo : ∀ x, x ∈ outs ns kv ↔ x ∈ ns ∧ x ∉ kvs kv := fun x => by unfold outs; rw [List.mem_filter]; simp
  have sp : ∀ x ∈ ns, Nst E ns kv x := fun x hx => nst_spec h inc n12 hx
  have ex : ∀ z ∈ l0, ∃ r ∈ outs ns kv, z ∈ nst kv r := tp.ind fun z hz ih => by
    by_cases zv : z ∈ kvs kv
    · obtain ⟨y, hy⟩ := kget_val h.nd zv
      obtain ⟨r, hr, yr⟩ := ih y (h.ok y z hy)
      exact ⟨r, hr, (sp r ((mo r).mp hr).1).cl y yr z hy⟩
    · have zn := (hl z).mp hz
      exact ⟨z, (mo z).mpr ⟨zn, zv⟩, (sp z zn).xi⟩
  have un : ∀ z ∈ l0, ∀ r1 ∈ outs ns kv, ∀ r2 ∈ outs ns kv, z ∈ nst kv r1 → z ∈ nst kv r2 → r1 = r2 := tp.ind fun z hz ih r1 h1 r2 h2 z1 z2 => by
    obtain ⟨n1, v1⟩ := (mo r1).mp h1
    obtain ⟨n2, v2⟩ := (mo r2).mp h2
    rcases (sp r1 n1).v z z1 with e1 | ⟨y1, y1r, k1⟩
    · rcases (sp r2 n2).v z z2 with e2 | ⟨y2, y2r, k2⟩
      · exact e1.symm.trans e2
      · exact absurd (kget_in k2) (by rw [e1]; exact v1)
    · rcases (sp r2 n2).v z z2 with e2 | ⟨y2, y2r, k2⟩
      · exact absurd (kget_in k1) (by rw [e2]; exact v2)
      · have := kget_inj h.vn k1 k2
        subst this
        exact ih y1 (h.ok y1 z k1) r1 h1 r2 h2 y1r y2r
  refine perm_of (flat_nd (nn.sublist List.filter_sublist) (fun x hx => (sp x ((mo x).mp hx).1).nd) fun x hx y hy z hzx hzy => un z ((hl z).mpr ((sp x ((mo x).mp hx).1).i z hzx)) x hx y hy hzx hzy) nn fun z => ⟨fun hz => ?_, fun hz => ?_⟩
  · obtain ⟨x, hx, hzx⟩ := List.mem_flatMap.mp hz
    exact (sp x ((mo x).mp hx).1).i z hzx
  · obtain ⟨r, hr, hzr⟩ := ex z ((hl z).mpr hz)
    exact List.mem_flatMap.mpr ⟨r, hr, hzr⟩
end
end LW
namespace LW
open PySem L2 C8 PySem.Spec PyProof.Rows VS
/-! ### a parcel put right within another one -/
def kvD (kv : KV) : List (Key × D) := kv.map fun p => ((.inr p.1 : Key), D.str p.2)
def trD (T : List Str) : List (Key × D) := T.map fun n => ((.inr n : Key), D.bl true)
theorem kvD_get {x : Str} : ∀ {kv : KV}, valD (kvD kv) (.inr x) = (kget kv x).map D.str
  | [] => rfl
  | p :: kv => by
    rw [kget_cons]
    by_cases h : p.1 = x
    · rw [if_pos h]
      show valD (((.inr p.1 : Key), D.str p.2) :: kvD kv) (.inr x) = _
      rw [valD_pos (congrArg Sum.inr h)]
      rfl
    · rw [if_neg h]
      show valD (((.inr p.1 : Key), D.str p.2) :: kvD kv) (.inr x) = _
      rw [valD_neg (fun z => h (Sum.inr.inj z))]
      exact kvD_get
theorem kvD_put {kv : KV} {x v : Str} : dkPut (kvD kv) (.inr x) (.str v) = kvD (kput kv x v) := by
  unfold dkPut kput
  have e : ((kvD kv).any fun p => decide (p.1 = (.inr x : Key))) = kv.any fun p => decide (p.1 = x) := by
    unfold kvD
    rw [List.any_map]
    refine congrArg (fun f => kv.any f) (funext fun p => ?_)
    show decide ((.inr p.1 : Key) = .inr x) = decide (p.1 = x)
    by_cases h : p.1 = x
    · rw [decide_eq_true h, decide_eq_true (congrArg Sum.inr h)]
    · rw [decide_eq_false h, decide_eq_false (fun z => h (Sum.inr.inj z))]
  rw [e]
  split
  · unfold kvD
    rw [List.map_map, List.map_map]
    refine List.map_congr_left fun p _ => ?_
    show (if (.inr p.1 : Key) = .inr x then _ else _) = _
    by_cases h : p.1 = x
    · rw [if_pos (congrArg Sum.inr h)]
      show _ = ((.inr (if p.1 = x then (p.1, v) else p).1 : Key), D.str (if p.1 = x then (p.1, v) else p).2)
      rw [if_pos h]
    · rw [if_neg (fun z => h (Sum.inr.inj z))]
      show _ = ((.inr (if p.1 = x then (p.1, v) else p).1 : Key), D.str (if p.1 = x then (p.1, v) else p).2)
      rw [if_neg h]
  · unfold kvD
    rw [List.map_append]
    rfl
theorem trD_get {x : Str} : ∀ {T : List Str}, (valD (trD T) (.inr x)).isSome = decide (x ∈ T)
  | [] => rfl
  | y :: T => by
    by_cases h : y = x
    · subst h
      rw [show valD (trD (y :: T)) (.inr y) = some (.bl true) from valD_pos rfl]
      simp
    · rw [show valD (trD (y :: T)) (.inr x) = valD (trD T) (.inr x) from valD_neg (fun z => h (Sum.inr.inj z)), trD_get]
      by_cases h2 : x ∈ T
      · rw [decide_eq_true h2, decide_eq_true (List.mem_cons_of_mem _ h2)]
      · rw [decide_eq_false h2, decide_eq_false]
        intro z
        rcases List.mem_cons.mp z with z | z
        · exact h z.symm
        · exact h2 z
theorem trD_put {T : List Str} {x : Str} (h : x ∉ T) : dkPut (trD T) (.inr x) (.bl true) = trD (T ++ [x]) := by
  unfold dkPut
  rw [if_neg]
  · unfold trD
    rw [List.map_append]
    rfl
  · intro z
    obtain ⟨p, hp, e⟩ := List.any_eq_true.mp z
    obtain ⟨n, hn, rfl⟩ := List.mem_map.mp hp
    have e : (.inr n : Key) = .inr x := of_decide_eq_true e
    cases e
    exact h hn
theorem nd_len : ∀ {xs ys : List Str}, xs.Nodup → (∀ x ∈ xs, x ∈ ys) → xs.length ≤ ys.length
  | [], _, _, _ => Nat.zero_le _
  | x :: xs, ys, hn, hs => by
    rw [List.nodup_cons] at hn
    have hx := hs x (List.mem_cons_self ..)
    have ih := nd_len (xs := xs) (ys := ys.erase x) hn.2 fun z hz => (List.mem_erase_of_ne (fun e => hn.1 (by subst e; exact hz))).mpr (hs z (List.mem_cons_of_mem _ hz))
    rw [List.length_erase_of_mem hx] at ih
    have := List.length_pos_of_mem hx
    rw [List.length_cons]
    omega
/-- what a matching under way is -/
structure GC (ns : List Str) (kv : KV) (T : List Str) : Prop where
  nd : (kks kv).Nodup
  ks : ∀ y ∈ kks kv, y ∈ ns
  vs : ∀ y x, kget kv y = some x → x ∈ ns
  tn : T.Nodup
  tu : ∀ y ∈ T, y ∈ ns
theorem GC.lk {ns : List Str} {kv : KV} {T : List Str} (g : GC ns kv T) : (kvD kv).length ≤ ns.length := by
  unfold kvD
  rw [List.length_map]
  have := nd_len g.nd g.ks
  rw [List.length_map] at this
  exact this
theorem GC.lt {ns : List Str} {kv : KV} {T : List Str} (g : GC ns kv T) : (trD T).length ≤ ns.length := by
  unfold trD
  rw [List.length_map]
  exact nd_len g.tn g.tu
def p_grown : Nat → Pt
  | 0 => fun _ _ _ _ => False
  | k + 1 => fun ds S G _ => ∃ (ns : List Str) (E : Str → List Str) (n : Str) (w t : Addr) (kv : KV) (T : List Str), ds = [.dK (ouDs ns E), .str n, .ref w, .ref t] ∧ S w = some (.dK (kvD kv)) ∧ S t = some (.dK (trD T)) ∧ w ≠ t ∧ n ∈ ns ∧ GC ns kv T ∧ (∀ x, ∀ o ∈ E x, o ∈ ns) ∧ ns.length ≤ 1000 ∧ rem ns T ≤ k ∧
    ∀ S', S' w = some (.dK (kvD (grw E (k + 1) n kv T).2.1)) → S' t = some (.dK (trD (grw E (k + 1) n kv T).2.2)) → (∀ a, a ≠ w → a ≠ t → S' a = S a) → G (.bl (grw E (k + 1) n kv T).1) S'
section
variable {P : Program} {w : World} {K : PySem.W.Frag} {mg : Str → Option Value} {base : Heap}
theorem ok_grown {f : Addr} {fd : FuncData} {C_Sides C_Parcel C_Heap C_NoNumber C_NoSide : Addr} (k : Nat)
    (F : Fd K "grown" "grown" s_grown [] f fd) (T : Tx K mg) (hsys : SysOk base)
    (c_grown : Cf P w K mg base (L2.CX P w) (1 + k) "grown" s_grown [] a_grown (p_grown k) f fd) :
    FnG P w K mg base (L2.CX P w) (1 + k + 1) f fd a_grown (spOf K (p_grown (k + 1))) := by
  refine fn_val F sc_grown (fun ds S G Y h => ?_) (fun cdv A hgd outer s H E hr px tk po ds S G Y h => ?_)
  · obtain ⟨ns, E, n, w, t, kv, T, rfl, _⟩ := h
    rfl
  · obtain ⟨ns, E, n, w, t, kv, T, rfl, hw, ht, wt, hn, gc, hE, nl, hk, q⟩ := h
    refine ⟨_, (pss_cons (ps_for po rfl (pi_list (pe_dget (hu_of hr) (pv 0) (pv 1) (fun _ _ => rfl))) (pg_name (i := 4) sc_grown.nd rfl (Or.inl rfl))
      (pss_one (ps_if (pt_cmp (pc_dnotin (hu_of hr) (pv 4) (pv 3))) (pss_cons (ps_dput (hu_of hr) (pv 3) (pv 4) pe_bl (by rfl))
      (pss_one (ps_if (PW.pt (pw_or (pt_cmp (pc_dnotin (hu_of hr) (pv 4) (pv 2))) (pw_or1 (pt_val (pe_cG c_grown.fn hgd (hr.mono (by omega)) (by rfl) c_grown.mg c_grown.kp c_grown.b .nil VS.pass0 (pa_cons (pv 0) (pa_cons (pe_dget (hu_of hr) (pv 2) (pv 4) (fun _ _ => rfl)) (pa_cons (pv 2) (pa_cons (pv 3) pa_nil))))))))) (pss_cons (ps_dput (hu_of hr) (pv 2) (pv 4) (pv 1) (by rfl))
      (pss_one (ps_ret pe_bl)))
      pss_nil)))
      pss_nil)))
      (pss_one (ps_ret pe_bl))), ?_⟩
    (try dsimp only [cxOf, List.map])
    show VX _ _ [_, _, _, _, _] _ _
    walk_at "gr"
    refine vx_for (vi_list ?_)
    refine ve_dget ?_
    walk_at "gr"
    refine ⟨_, .inr n, _, .v, rfl, valD_ou hn, ?_⟩
    refine ⟨_, .v, fun i ρ2 S2 => ∃ (kv' : KV) (T' : List Str) (x4 : Option D), S2 w = some (.dK (kvD kv')) ∧ S2 t = some (.dK (trD T')) ∧ (∀ a, a ≠ w → a ≠ t → S2 a = S a) ∧ GC ns kv' T' ∧ rem ns T' ≤ k ∧ grwL (grw E k) n (E n) kv T = grwL (grw E k) n ((E n).drop i) kv' T' ∧ ρ2 = [some (.dK (ouDs ns E)), some (.str n), some (.ref w), some (.ref t), x4], ⟨kv, T, none, hw, ht, fun _ _ _ => rfl, gc, hk, rfl, rfl⟩, ?_, ?_⟩
    · rintro i d _ S2 e ⟨kv', T', x4, hw2, ht2, fr2, gc2, hk2, eq2, rfl⟩
      rw [List.getElem?_map] at e
      cases ho : (E n)[i]? with
      | none => rw [ho] at e; cases e
      | some o =>
        rw [ho] at e
        cases e
        have hoe := List.mem_of_getElem? ho
        have hos := hE n o hoe
        have hi : i < (E n).length := (List.getElem?_eq_some_iff.mp ho).1
        have dr : (E n).drop i = o :: (E n).drop (i + 1) := by
          rw [List.drop_eq_getElem_cons hi]
          rw [List.getElem?_eq_getElem hi] at ho
          rw [Option.some.inj ho]
        rw [dr] at eq2
        walk_at "gr"
        refine ve_dnotin ?_
        walk_at "gr"
        refine ⟨_, .inr o, .c ht2, rfl, ?_⟩
        rw [trD_get]
        by_cases hT : o ∈ T'
        · rw [decide_eq_true hT]
          walk_at "gr"
          have e3 : grwL (grw E k) n (o :: (E n).drop (i + 1)) kv' T' = grwL (grw E k) n ((E n).drop (i + 1)) kv' T' := by
            rw [grwL, if_pos hT]
          exact ⟨kv', T', _, hw2, ht2, fr2, gc2, hk2, eq2.trans e3, rfl⟩
        · rw [decide_eq_false hT]
          walk_at "gr"
          refine vx_dput ?_
          walk_at "gr"
          refine ⟨_, .inr o, ht2, rfl, by have := gc2.lt; have := szl; omega, ?_⟩
          rw [trD_put hT]
          have ht3 : (VS.put S2 t (.dK (trD (T' ++ [o])))) t = some (.dK (trD (T' ++ [o]))) := put_same
          have hw3 : (VS.put S2 t (.dK (trD (T' ++ [o])))) w = some (.dK (kvD kv')) := (put_ne wt).trans hw2
          have fr3 : ∀ a, a ≠ w → a ≠ t → (VS.put S2 t (.dK (trD (T' ++ [o])))) a = S a := fun a h1 h2 => (put_ne h2).trans (fr2 a h1 h2)
          generalize VS.put S2 t (.dK (trD (T' ++ [o]))) = S3 at ht3 hw3 fr3 ⊢
          have rl := rem_lt hos hT
          have gc3 : GC ns kv' (T' ++ [o]) := by
            refine ⟨gc2.nd, gc2.ks, gc2.vs, ?_, fun y hy => ?_⟩
            · rw [List.nodup_append]
              exact ⟨gc2.tn, by simp, fun a ha b hb e => hT (by rw [← List.mem_singleton.mp hb, ← e]; exact ha)⟩
            · rcases List.mem_append.mp hy with hy | hy
              · exact gc2.tu y hy
              · rw [List.mem_singleton.mp hy]; exact hos
          have e3 : grwL (grw E k) n (o :: (E n).drop (i + 1)) kv' T' = (match kget kv' o with
              | none => (true, kput kv' o n, T' ++ [o])
              | some x => match grw E k x kv' (T' ++ [o]) with
                | (true, kv', T') => (true, kput kv' o n, T')
                | (false, kv', T') => grwL (grw E k) n ((E n).drop (i + 1)) kv' T') := by
            rw [grwL, if_neg hT] <;> rfl
          rw [e3] at eq2
          clear e3 hw2 ht2 fr2
          walk_at "gr"
          refine ve_dnotin ?_
          walk_at "gr"
          refine ⟨_, .inr o, .c hw3, rfl, ?_⟩
          rw [kvD_get]
          cases hg : kget kv' o with
          | none =>
            rw [hg] at eq2
            walk_at "gr"
            refine vx_dput ?_
            walk_at "gr"
            refine ⟨_, .inr o, hw3, rfl, by have := gc2.lk; have := szl; omega, ?_⟩
            rw [kvD_put]
            have eg : grw E (k + 1) n kv T = (true, kput kv' o n, T' ++ [o]) := eq2
            rw [eg] at q
            walk_at "gr"
            exact q _ put_same ((put_ne (Ne.symm wt)).trans ht3) fun a h1 h2 => (put_ne h1).trans (fr3 a h1 h2)
          | some x =>
            rw [hg] at eq2
            obtain ⟨k', rfl⟩ : ∃ k', k = k' + 1 := ⟨k - 1, by omega⟩
            walk_at "gr"
            refine ve_dget ?_
            walk_at "gr"
            refine ⟨_, .inr o, .str x, .c hw3, rfl, by rw [kvD_get, hg]; rfl, ?_⟩
            walk_at "gr"
            refine ⟨ns, E, x, w, t, kv', T' ++ [o], rfl, hw3, ht3, wt, gc2.vs o x hg, gc3, hE, nl, by omega, fun S4 hw4 ht4 fr4 => ?_⟩
            have g := grw_spec E (k' + 1) x kv' (T' ++ [o]) gc2.nd
            have eq3 : grwL (grw E (k' + 1)) n (E n) kv T = (match grw E (k' + 1) x kv' (T' ++ [o]) with
                | (true, kv', T') => (true, kput kv' o n, T')
                | (false, kv', T') => grwL (grw E (k' + 1)) n ((E n).drop (i + 1)) kv' T') := eq2
            clear eq2
            have fr5 : ∀ a, a ≠ w → a ≠ t → S4 a = S a := fun a h1 h2 => (fr4 a h1 h2).trans (fr3 a h1 h2)
            generalize grw E (k' + 1) x kv' (T' ++ [o]) = r at hw4 ht4 g eq3 ⊢
            obtain ⟨b, kv4, T4⟩ := r
            cases b with
            | true =>
              have l4 : kv4.length ≤ ns.length + 1 := by
                have h1 := (g.v rfl).length_eq
                have h2 := gc2.lk
                unfold kvD at h2
                rw [List.length_map] at h2
                have h1 : (kvs kv4).length = (x :: kvs kv').length := h1
                rw [List.length_cons, List.length_map, List.length_map] at h1
                omega
              walk_at "gr"
              refine vx_dput ?_
              walk_at "gr"
              refine ⟨_, .inr o, hw4, rfl, by unfold kvD; rw [List.length_map]; show kv4.length < _; have := szl; omega, ?_⟩
              rw [kvD_put]
              have eg : grw E (k' + 1 + 1) n kv T = (true, kput kv4 o n, T4) := eq3
              rw [eg] at q
              walk_at "gr"
              exact q _ put_same ((put_ne (Ne.symm wt)).trans ht4) fun a h1 h2 => (put_ne h1).trans (fr5 a h1 h2)
            | false =>
              have ek : kv4 = kv' := g.f rfl
              subst ek
              walk_at "gr"
              refine ⟨kv4, T4, _, hw4, ht4, fr5, ⟨gc2.nd, gc2.ks, gc2.vs, g.td gc3.tn, fun y hy => ?_⟩, ?_, eq3, rfl⟩
              · rcases g.tn y hy with z | ⟨x', z⟩
                · exact gc3.tu y z
                · exact hE x' y z
              · have : rem ns T4 ≤ rem ns (T' ++ [o]) := rem_le g.t
                omega
    · rintro _ S2 ⟨kv', T', x4, hw2, ht2, fr2, gc2, hk2, eq2, rfl⟩
      rw [List.length_map, List.drop_length] at eq2
      have eg : grw E (k + 1) n kv T = (false, kv', T') := eq2
      walk_at "gr"
      rw [eg] at q
      exact q S2 hw2 ht2 fr2
end
end LW
namespace LW
open PySem L2 C8 PySem.Spec PyProof.Rows VS
/-! ### the matching of all, what is reached, the nests -/
theorem MI.gc {ns done : List Str} {E : Str → List Str} {kv : KV} (h : MI E done kv) (hE : ∀ x, ∀ o ∈ E x, o ∈ ns) (hd : ∀ x ∈ done, x ∈ ns) : GC ns kv [] :=
  ⟨h.nd, fun y hy => by
    cases e : kget kv y with
    | none => exact absurd hy (kget_none.mp e)
    | some x => exact hE x y (h.ok y x e), fun y x hx => hd x (h.vs x (kget_in hx)), .nil, nofun⟩
theorem kvD_vals (kv : KV) : (kvD kv).map (·.2) = (kvs kv).map D.str := by
  unfold kvD
  rw [List.map_map, List.map_map]
  rfl
theorem mat_app (E : Str → List Str) (k : Nat) (l : List Str) (n : Str) (kv : KV) : mat E k (l ++ [n]) kv = (grw E k n (mat E k l kv) []).2.1 := by
  unfold mat
  rw [List.foldl_append]
  rfl
def p_matched : Pt := fun ds S G _ => ∃ (ns l : List Str) (E : Str → List Str), ds = [.dK (ouDs ns E), nmD l] ∧ (∀ x ∈ l, x ∈ ns) ∧ l.Nodup ∧ (∀ x, ∀ o ∈ E x, o ∈ ns) ∧ ns.length ≤ 12 ∧
  ∀ d S', S d = none → Ext S S' → S' d = some (.dK (kvD (mat E 14 l []))) → G (.ref d) S'
def outD (kv : KV) (l : List Str) : R3 := (outs l kv, [], outs l kv)
def p_reached : Pt := fun ds S G _ => ∃ (ns l : List Str) (E : Str → List Str) (kv : KV), ds = [.dK (ouDs ns E), nmD l, .dK (kvD kv)] ∧ (∀ x ∈ l, x ∈ ns) ∧ l.Nodup ∧ (∀ x, ∀ o ∈ E x, o ∈ ns) ∧ ns.length ≤ 12 ∧ MI E l kv ∧
  ∀ o t S', S o = none → S t = none → o ≠ t → Ext S S' → S' o = some (nmD (rch E kv 40 (outD kv l)).1) → S' t = some (nmD (rch E kv 40 (outD kv l)).2) → G (.tup [.ref o, .ref t]) S'
def p_nests_by : Pt := fun ds S G _ => ∃ (ns l : List Str) (E : Str → List Str) (kv : KV) (rk : Str → Int), ds = [nmD l, .dK (kvD kv)] ∧ (∀ x ∈ l, x ∈ ns) ∧ l.Nodup ∧ (∀ x, ∀ o ∈ E x, o ∈ ns) ∧ ns.length ≤ 12 ∧ MI E ns kv ∧ (∀ n ∈ ns, ∀ o ∈ E n, rk n < rk o) ∧
  ∀ d (as : List Addr) S', S d = none → as.length = (outs l kv).length → as.Nodup → d ∉ as → (∀ a ∈ as, S a = none) → Ext S S' → S' d = some (.lst (as.map D.ref)) → (∀ (i : Nat) (a : Addr) (x : Str), as[i]? = some a → (outs l kv)[i]? = some x → S' a = some (nmD (nst kv x))) → G (.ref d) S'
theorem outs_app (l : List Str) (n : Str) (kv : KV) : outs (l ++ [n]) kv = outs l kv ++ (if n ∈ kvs kv then [] else [n]) := by
  unfold outs
  rw [List.filter_append]
  congr 1
  by_cases h : n ∈ kvs kv
  · rw [if_pos h, List.filter_cons_of_neg (by simp [h]), List.filter_nil]
  · rw [if_neg h, List.filter_cons_of_pos (by simp [h]), List.filter_nil]
theorem rchO_app (kv : KV) (os : List Str) (o : Str) (st : R3) : rchO kv (os ++ [o]) st = (if o ∈ (rchO kv os st).2.1 then rchO kv os st else ((rchO kv os st).1 ++ [wof kv o], (rchO kv os st).2.1 ++ [o], (rchO kv os st).2.2 ++ [wof kv o])) := by
  unfold rchO
  rw [List.foldl_append]
  rfl
theorem last_ex {α : Type} {l : List α} (h : l ≠ []) : ∃ t x, l = t ++ [x] := ⟨l.dropLast, l.getLast h, (List.dropLast_concat_getLast h).symm⟩
section
variable {P : Program} {w : World} {K : PySem.W.Frag} {mg : Str → Option Value} {base : Heap}
theorem ok_matched {f : Addr} {fd : FuncData} {C_Sides C_Parcel C_Heap C_NoNumber C_NoSide : Addr} {f_grown : Addr} {g_grown : FuncData}
    (F : Fd K "matched" "matched" s_matched [] f fd) (T : Tx K mg) (hsys : SysOk base)
    (c_grown : Cf P w K mg base (L2.CX P w) 15 "grown" s_grown [] a_grown (p_grown 14) f_grown g_grown) :
    FnG P w K mg base (L2.CX P w) 16 f fd a_matched (spOf K p_matched) := by
  refine fn_val F sc_matched (fun ds S G Y h => ?_) (fun cdv A hgd outer s H E hr px tk po ds S G Y h => ?_)
  · obtain ⟨ns, l, E, rfl, _⟩ := h
    rfl
  · obtain ⟨ns, l, E, rfl, hl, nd, hE, n12, q⟩ := h
    refine ⟨_, (pss_cons (ps_set (i := 2) sc_matched.nd rfl (Or.inl rfl) pe_dnewK)
      (pss_cons (ps_for po rfl (pi_list (pv 1)) (pg_name (i := 3) sc_matched.nd rfl (Or.inl rfl))
      (pss_one (ps_expr (pe_cG c_grown.fn hgd (hr.mono (by decide)) (by rfl) c_grown.mg c_grown.kp c_grown.b .nil VS.pass0 (pa_cons (pv 0) (pa_cons (pv 3) (pa_cons (pv 2) (pa_cons pe_dnewK pa_nil))))))))
      (pss_one (ps_ret (pv 2))))), ?_⟩
    (try dsimp only [cxOf, List.map])
    show VX _ _ [_, _, _, _] _ _
    have ll := nd_len nd hl
    refine vx_seq (vx_asg ?_)
    refine ve_dnewc fun d hd => ?_
    have c1 : (put S d (.dK [])) d = some (.dK []) := put_same
    have x1 := Ext.put (d := .dK []) hd
    generalize put S d (.dK []) = S1 at c1 x1 ⊢
    walk_at "gr"
    refine vx_for (vi_list ?_)
    walk_at "gr"
    refine ⟨_, .v, fun i ρ2 S2 => S2 d = some (.dK (kvD (mat E 14 (l.take i) []))) ∧ Ext S S2 ∧ ∃ x3, ρ2 = [some (.dK (ouDs ns E)), some (nmD l), some (.ref d), x3], ⟨c1, x1, _, rfl⟩, ?_, ?_⟩
    · rintro i dd _ S2 e ⟨c2, x2, x3, rfl⟩
      rw [List.getElem?_map] at e
      cases hn : l[i]? with
      | none => rw [hn] at e; cases e
      | some n =>
        rw [hn] at e
        cases e
        have tk : l.take (i + 1) = l.take i ++ [n] := by rw [List.take_succ, hn]; rfl
        have nl : n ∈ l := List.mem_of_getElem? hn
        have ndt : (l.take (i + 1)).Nodup := nd.sublist (List.take_sublist _ _)
        have mi : MI E (l.take i) (mat E 14 (l.take i) []) := by
          have := mat_spec (U := ns) hE (k := 14) (by omega) (l.take i) [] [] MI.nil (by rw [List.nil_append]; exact nd.sublist (List.take_sublist _ _))
          rw [List.nil_append] at this
          exact this
        refine vg_name ?_
        refine vx_drop ?_
        refine ve_f (XOk.none (E := noE)) ?_
        refine va_cons (ve_var rfl (va_cons (ve_var rfl (va_cons (ve_var rfl (va_cons (ve_dnewc fun t ht => va_nil ?_)))))))
        have ndt' : d ≠ t := ne_at c2 ht
        refine ⟨ns, E, n, d, t, mat E 14 (l.take i) [], [], rfl, (put_ne ndt').trans c2, put_same, ndt', hl n nl, mi.gc hE (fun x hx => hl x (List.mem_of_mem_take hx)), hE, by omega, by rw [rem_nil]; exact Nat.le_trans n12 (by decide), fun S3 hd3 ht3 fr3 => ?_⟩
        refine ⟨?_, fun a y ha => ?_, _, rfl⟩
        · rw [tk, mat_app]
          exact hd3
        · have h1 : a ≠ d := fun z => by rw [z, hd] at ha; cases ha
          have h2 : a ≠ t := fun z => by
            have := x2 _ _ ha
            rw [z, ht] at this
            cases this
          rw [fr3 a h1 h2]
          exact (put_ne h2).trans (x2 _ _ ha)
    · rintro _ S2 ⟨c2, x2, x3, rfl⟩
      rw [List.length_map, List.take_length] at c2
      walk_at "gr"
      exact q d S2 hd x2 c2
theorem ok_reached {f : Addr} {fd : FuncData} {C_Sides C_Parcel C_Heap C_NoNumber C_NoSide : Addr}
    (F : Fd K "reached" "reached" s_reached [] f fd) (T : Tx K mg) (hsys : SysOk base) :
    FnG P w K mg base (L2.CX P w) 1 f fd a_reached (spOf K p_reached) := by
  refine fn_val F sc_reached (fun ds S G Y h => ?_) (fun cdv A hgd outer s H E hr px tk po ds S G Y h => ?_)
  · obtain ⟨ns, l, E, kv, rfl, _⟩ := h
    rfl
  · obtain ⟨ns, l, E, kv, rfl, hl, nd, hE, n12, mi, q⟩ := h
    refine ⟨_, (pss_cons (ps_set (i := 3) sc_reached.nd rfl (Or.inr rfl) (VS.pe_listVals (by rfl) T.b_list (pv 2)))
      (pss_cons (ps_setLc (i := 4) (own := [("name", 8)]) rfl sc_reached.nd rfl rfl (sw_true rfl rfl rfl (by decide +kernel)) (pi_list (pv 1)) (blkOk_by (own := [("name", 8)]) (N := n_reached) (sc := defScope s_reached) (by decide +kernel)) (fun _ _ _ _ _ => (pg_name (i := 8) sc_reached.nd rfl (Or.inl rfl))) (fun _ _ _ _ _ => (pts_one (pt_cmpR (kO (K := K) (r := (fun K => rIn K true)) op_notIn_seq) (pv 8) (pv 3) (by rfl)))) (fun _ _ _ _ _ => (pv 8)))
      (pss_cons (ps_set (i := 5) sc_reached.nd rfl (Or.inl rfl) (pe_lst pa_nil))
      (pss_cons (ps_set (i := 6) sc_reached.nd rfl (Or.inl rfl) (pe_callTy c_list (by rfl) T.b_list (by decide +kernel) (pa_cons (pv 4) pa_nil)))
      (pss_cons (ps_while po (pt_cmpR (op_neE hr) (pv 6) (pe_lst pa_nil) (nomark _)) (pss_one (ps_for po rfl (pi_list (pe_dget (hu_of hr) (pv 0) (pe_bm0 PySem.F.plainAttrs_list PySem.F.slot_list_pop PySem.F.type_list_pop mt_pop (pv 6)) (fun _ _ => rfl))) (pg_name (i := 7) sc_reached.nd rfl (Or.inl rfl))
      (pss_one (ps_if (pt_cmpR op_notIn_seq (pv 7) (pv 5) (by rfl)) (pss_cons (ps_expr (pe_bm PySem.F.plainAttrs_list PySem.F.slot_list_append PySem.F.type_list_append mt_append (pv 5) (pa_cons (pv 7) pa_nil)))
      (pss_cons (ps_expr (pe_bm PySem.F.plainAttrs_list PySem.F.slot_list_append PySem.F.type_list_append mt_append (pv 4) (pa_cons (pe_dget (hu_of hr) (pv 2) (pv 7) (fun _ _ => rfl)) pa_nil)))
      (pss_one (ps_expr (pe_bm PySem.F.plainAttrs_list PySem.F.slot_list_append PySem.F.type_list_append mt_append (pv 6) (pa_cons (pe_dget (hu_of hr) (pv 2) (pv 7) (fun _ _ => rfl)) pa_nil))))))
      pss_nil)))))
      (pss_one (ps_ret (pe_tup (pa_cons (pv 4) (pa_cons (pv 5) pa_nil)))))))))), ?_⟩
    (try dsimp only [cxOf, List.map])
    show VX _ _ [_, _, _, _, _, _, _, _, _] _ _
    have ll := nd_len nd hl
    have kin : ∀ y x, kget kv y = some x → x ∈ ns := fun y x hx => hl x (mi.vs x (kget_in hx))
    walk_at "gr"
    refine ve_listVals ?_
    walk_at "gr"
    refine ⟨_, .v, ?_⟩
    rw [kvD_vals]
    unfold nmD
    walk_at "gr"
    refine ve_lcc (vi_list ?_)
    walk_at "gr"
    refine ⟨_, .v, by rw [List.length_map]; omega, fun j acc S7 => acc = (outs (l.take j) kv).map D.str ∧ S7 = S, ⟨rfl, rfl⟩, ?_, ?_⟩
    · rintro j dz acc S7 hdz ⟨rfl, rfl⟩ _
      rw [List.getElem?_map] at hdz
      cases hn : l[j]? with
      | none => rw [hn] at hdz; cases hdz
      | some n =>
        rw [hn] at hdz
        cases hdz
        have tk : l.take (j + 1) = l.take j ++ [n] := by rw [List.take_succ, hn]; rfl
        walk_at "gr"
        refine rv_in (.l .v) rfl (flat_strs _) ?_
        rw [inD_strs]
        by_cases hv : n ∈ kvs kv
        · rw [decide_eq_true hv]
          exact ⟨_, rfl, nofun, fun _ => ⟨by rw [tk, outs_app, if_pos hv, List.append_nil], rfl⟩⟩
        · rw [decide_eq_false hv]
          refine ⟨_, rfl, fun _ => ?_, nofun⟩
          walk_at "gr"
          exact ⟨by rw [tk, outs_app, if_neg hv, List.map_append]; rfl, rfl⟩
    rintro acc S7 ⟨rfl, rfl⟩ _ o ho
    rw [List.length_map, List.take_length]
    have lo : (outs l kv).length ≤ ns.length := Nat.le_trans (List.length_filter_le _ _) ll
    have co : (VS.put S7 o (.lst ((outs l kv).map D.str))) o = some (.lst ((outs l kv).map D.str)) := put_same
    have f1 : ∀ a y, a ≠ o → S7 a = some y → (VS.put S7 o (.lst ((outs l kv).map D.str))) a = some y := fun a y h1 h => (put_ne h1).trans h
    have n1 : ∀ a, (VS.put S7 o (.lst ((outs l kv).map D.str))) a = none → S7 a = none ∧ a ≠ o := fun a h => by
      have z : a ≠ o := fun z => by rw [z, put_same] at h; cases h
      rw [put_ne z] at h
      exact ⟨h, z⟩
    generalize VS.put S7 o (.lst ((outs l kv).map D.str)) = S1 at co f1 n1 ⊢
    walk_at "gr"
    refine ve_lstc ?_
    walk_at "gr"
    intro t ht
    obtain ⟨ht0, hto⟩ := n1 t ht
    have ct : (VS.put S1 t (.lst [])) t = some (.lst (([] : List Str).map D.str)) := put_same
    have co2 : (VS.put S1 t (.lst [])) o = some (.lst ((outs l kv).map D.str)) := (put_ne (Ne.symm hto)).trans co
    have f2 : ∀ a y, a ≠ o → a ≠ t → S7 a = some y → (VS.put S1 t (.lst [])) a = some y := fun a y h1 h2 h => (put_ne h2).trans (f1 a y h1 h)
    have n2 : ∀ a, (VS.put S1 t (.lst [])) a = none → S7 a = none ∧ a ≠ o ∧ a ≠ t := fun a h => by
      have z : a ≠ t := fun z => by rw [z, put_same] at h; cases h
      rw [put_ne z] at h
      exact ⟨(n1 a h).1, (n1 a h).2, z⟩
    generalize VS.put S1 t (.lst []) = S2 at ct co2 f2 n2 ⊢
    clear co f1 n1 ht
    walk_at "gr"
    refine rc_listc (.l (.c co2)) fun wq hw => ?_
    obtain ⟨hw0, hwo, hwt⟩ := n2 wq hw
    have cw : (VS.put S2 wq (.lst ((outs l kv).map D.str))) wq = some (.lst ((outs l kv).map D.str)) := put_same
    have co3 : (VS.put S2 wq (.lst ((outs l kv).map D.str))) o = some (.lst ((outs l kv).map D.str)) := (put_ne (Ne.symm hwo)).trans co2
    have ct3 : (VS.put S2 wq (.lst ((outs l kv).map D.str))) t = some (.lst (([] : List Str).map D.str)) := (put_ne (Ne.symm hwt)).trans ct
    have f3 : ∀ a y, a ≠ o → a ≠ t → a ≠ wq → S7 a = some y → (VS.put S2 wq (.lst ((outs l kv).map D.str))) a = some y := fun a y h1 h2 h3 h => (put_ne h3).trans (f2 a y h1 h2 h)
    generalize VS.put S2 wq (.lst ((outs l kv).map D.str)) = S3 at cw co3 ct3 f3 ⊢
    clear co2 ct f2 n2 hw
    obtain ⟨C, hC, hs⟩ : ∃ C, Clo E kv C ∧ ∀ x ∈ outs l kv, ∀ o ∈ E x, C o := by
      refine ⟨fun y => ∃ C', Clo E kv C' ∧ C' y, fun y hy => ?_, fun x hx o ho => ?_⟩
      · obtain ⟨C', h1, h2⟩ := hy
        obtain ⟨x, hx, hE'⟩ := h1 y h2
        exact ⟨x, hx, fun o ho => ⟨C', h1, hE' o ho⟩⟩
      · obtain ⟨a, b⟩ := List.mem_filter.mp hx
        rcases mi.cl x a with z | ⟨C', h1, h2⟩
        · simp [z] at b
        · exact ⟨C', h1, h2 o ho⟩
    have ri0 : RI E ns kv (outs l kv) C (outD kv l) := ⟨by simp [outD], .nil, nofun, nofun, fun _ h => h, hs⟩
    have oin : ∀ st : R3, RI E ns kv (outs l kv) C st → ∀ x ∈ st.1, x ∈ ns := fun st h x hx => by
      rw [h.o1] at hx
      rcases List.mem_append.mp hx with hx | hx
      · exact hl x (List.mem_filter.mp hx).1
      · obtain ⟨z, hz, rfl⟩ := List.mem_map.mp hx
        obtain ⟨y, hy, _⟩ := hC z (h.os z hz)
        rw [wof_of hy]
        exact kin z y hy
    have olen : ∀ st : R3, RI E ns kv (outs l kv) C st → st.2.1.length ≤ 12 ∧ st.1.length ≤ 24 := fun st h => by
      have h1 := nd_len h.nd h.ou
      have h2 := congrArg List.length h.o1
      rw [List.length_append, List.length_map] at h2
      omega
    walk_at "gr"
    refine vx_while (fun m ρ2 S4 => ∃ (st : R3) (x7 : Option D), S4 o = some (.lst (st.1.map D.str)) ∧ S4 t = some (.lst (st.2.1.map D.str)) ∧ S4 wq = some (.lst (st.2.2.map D.str)) ∧ (∀ a y, a ≠ o → a ≠ t → a ≠ wq → S7 a = some y → S4 a = some y) ∧ RI E ns kv (outs l kv) C st ∧ (∀ x ∈ st.1, x ∈ st.2.2 ∨ ∀ o ∈ E x, o ∈ st.2.1) ∧ st.2.2.length + rem ns st.2.1 ≤ m ∧ m ≤ 40 ∧ rch E kv m st = rch E kv 40 (outD kv l) ∧
      ρ2 = [some (.dK (ouDs ns E)), some (.lst (l.map D.str)), some (.dK (kvD kv)), some (.lst ((kvs kv).map D.str)), some (.ref o), some (.ref t), some (.ref wq), x7, none]) 40 ⟨outD kv l, none, co3, ct3, cw, f3, ri0, fun x hx => .inl hx, ?_, Nat.le_refl _, rfl, rfl⟩ ?_
    · show (outs l kv).length + rem ns [] ≤ 40
      rw [rem_nil]
      omega
    clear co3 ct3 cw f3 S3 S2 S1
    rintro m ρ2 S4 ⟨st, x7, co, ct, cw, f4, ri, dn, hm, m40, er, rfl⟩
    walk_at "gr"
    refine ve_lst ?_
    walk_at "gr"
    refine ⟨fun e => ?_, fun e => ?_⟩
    · have wn : st.2.2 ≠ [] := fun z => by rw [z] at e; exact absurd e (by decide)
      obtain ⟨ws, x, ew⟩ := last_ex wn
      have xo : x ∈ st.1 := ri.wt x (by rw [ew]; simp)
      have xn := oin st ri x xo
      obtain ⟨m', rfl⟩ : ∃ m', m = m' + 1 := ⟨m - 1, by rw [ew, List.length_append] at hm; have : [x].length = 1 := rfl; omega⟩
      have es : rch E kv (m' + 1) st = rch E kv m' (rchO kv (E x) (st.1, st.2.1, ws)) := by
        show (match st.2.2.getLast? with
          | none => (st.1, st.2.1)
          | some x => rch E kv m' (rchO kv (E x) (st.1, st.2.1, st.2.2.dropLast))) = _
        rw [ew, List.getLast?_append, List.dropLast_concat]
        rfl
      have ri1 : RI E ns kv (outs l kv) C (st.1, st.2.1, ws) := ⟨ri.o1, ri.nd, ri.os, ri.ou, fun y hy => ri.wt y (by rw [ew]; exact List.mem_append_left _ hy), ri.cx⟩
      have sp : ∀ i, _ := fun i => rchO_spec (U := ns) (o0 := outs l kv) hC ((E x).take i) (st.1, st.2.1, ws) ri1 fun o ho => ⟨ri.cx x xo o (List.mem_of_mem_take ho), hE x o (List.mem_of_mem_take ho)⟩
      refine vx_for (vi_list ?_)
      refine ve_dget ?_
      walk_at "gr"
      rw [ew, List.map_append] at cw
      refine rm_pop (ds := ws.map D.str) (d := .str x) cw ?_
      refine ⟨_, .inr x, _, .v, rfl, valD_ou xn, ?_⟩
      have cw5 : (VS.put S4 wq (.lst (ws.map D.str))) wq = some (.lst (ws.map D.str)) := put_same
      have co5 : (VS.put S4 wq (.lst (ws.map D.str))) o = some (.lst (st.1.map D.str)) := (put_ne (Ne.symm hwo)).trans co
      have ct5 : (VS.put S4 wq (.lst (ws.map D.str))) t = some (.lst (st.2.1.map D.str)) := (put_ne (Ne.symm hwt)).trans ct
      have f5 : ∀ a y, a ≠ o → a ≠ t → a ≠ wq → S7 a = some y → (VS.put S4 wq (.lst (ws.map D.str))) a = some y := fun a y h1 h2 h3 h => (put_ne h3).trans (f4 a y h1 h2 h3 h)
      generalize VS.put S4 wq (.lst (ws.map D.str)) = S5 at cw5 co5 ct5 f5 ⊢
      refine ⟨_, .v, fun i ρ3 S6 => ∃ x7, S6 o = some (.lst ((rchO kv ((E x).take i) (st.1, st.2.1, ws)).1.map D.str)) ∧ S6 t = some (.lst ((rchO kv ((E x).take i) (st.1, st.2.1, ws)).2.1.map D.str)) ∧ S6 wq = some (.lst ((rchO kv ((E x).take i) (st.1, st.2.1, ws)).2.2.map D.str)) ∧ (∀ a y, a ≠ o → a ≠ t → a ≠ wq → S7 a = some y → S6 a = some y) ∧
        ρ3 = [some (.dK (ouDs ns E)), some (.lst (l.map D.str)), some (.dK (kvD kv)), some (.lst ((kvs kv).map D.str)), some (.ref o), some (.ref t), some (.ref wq), x7, none], ⟨x7, co5, ct5, cw5, f5, rfl⟩, ?_, ?_⟩
      · rintro i dd _ S6 he ⟨x7, co6, ct6, cw6, f6, rfl⟩
        rw [List.getElem?_map] at he
        cases hz : (E x)[i]? with
        | none => rw [hz] at he; cases he
        | some z =>
          rw [hz] at he
          cases he
          have tk : (E x).take (i + 1) = (E x).take i ++ [z] := by rw [List.take_succ, hz]; rfl
          have zE : z ∈ E x := List.mem_of_getElem? hz
          obtain ⟨y, hy, _⟩ := hC z (ri.cx x xo z zE)
          obtain ⟨r1, _, _, _, _, r6⟩ := sp i
          have ol := olen _ r1
          have wl : (rchO kv ((E x).take i) (st.1, st.2.1, ws)).2.2.length ≤ 40 := by
            have r6 : _ ≤ ws.length + rem ns st.2.1 := r6
            rw [ew, List.length_append] at hm
            omega
          have eo : rchO kv ((E x).take (i + 1)) (st.1, st.2.1, ws) = (if z ∈ (rchO kv ((E x).take i) (st.1, st.2.1, ws)).2.1 then rchO kv ((E x).take i) (st.1, st.2.1, ws) else ((rchO kv ((E x).take i) (st.1, st.2.1, ws)).1 ++ [y], (rchO kv ((E x).take i) (st.1, st.2.1, ws)).2.1 ++ [z], (rchO kv ((E x).take i) (st.1, st.2.1, ws)).2.2 ++ [y])) := by rw [tk, rchO_app, wof_of hy]
          generalize rchO kv ((E x).take i) (st.1, st.2.1, ws) = sti at co6 ct6 cw6 ol wl eo
          walk_at "gr"
          refine rv_in (.l (.c ct6)) rfl (flat_strs _) ?_
          rw [inD_strs]
          by_cases hzt : z ∈ sti.2.1
          · rw [decide_eq_true hzt]
            rw [if_pos hzt] at eo
            exact ⟨_, rfl, nofun, fun _ => vx_next ⟨_, by rw [eo]; exact co6, by rw [eo]; exact ct6, by rw [eo]; exact cw6, f6, rfl⟩⟩
          · rw [decide_eq_false hzt]
            rw [if_neg hzt] at eo
            refine ⟨_, rfl, fun _ => ?_, nofun⟩
            walk_at "gr"
            refine rm_append ct6 (by rw [List.length_map]; have := szl; omega) ?_
            have ct7 : (VS.put S6 t (.lst (sti.2.1.map D.str ++ [.str z]))) t = some (.lst ((sti.2.1 ++ [z]).map D.str)) := by rw [put_same, List.map_append]; rfl
            have co7 : (VS.put S6 t (.lst (sti.2.1.map D.str ++ [.str z]))) o = some (.lst (sti.1.map D.str)) := (put_ne (Ne.symm hto)).trans co6
            have cw7 : (VS.put S6 t (.lst (sti.2.1.map D.str ++ [.str z]))) wq = some (.lst (sti.2.2.map D.str)) := (put_ne hwt).trans cw6
            have f7 : ∀ a y, a ≠ o → a ≠ t → a ≠ wq → S7 a = some y → (VS.put S6 t (.lst (sti.2.1.map D.str ++ [.str z]))) a = some y := fun a y h1 h2 h3 h => (put_ne h2).trans (f6 a y h1 h2 h3 h)
            generalize VS.put S6 t (.lst (sti.2.1.map D.str ++ [.str z])) = S8 at ct7 co7 cw7 f7 ⊢
            walk_at "gr"
            refine ve_dget ?_
            walk_at "gr"
            refine ⟨_, .inr z, .str y, .v, rfl, by rw [kvD_get, hy]; rfl, ?_⟩
            walk_at "gr"
            refine rm_append co7 (by rw [List.length_map]; have := szl; omega) ?_
            have co8 : (VS.put S8 o (.lst (sti.1.map D.str ++ [.str y]))) o = some (.lst ((sti.1 ++ [y]).map D.str)) := by rw [put_same, List.map_append]; rfl
            have ct8 : (VS.put S8 o (.lst (sti.1.map D.str ++ [.str y]))) t = some (.lst ((sti.2.1 ++ [z]).map D.str)) := (put_ne hto).trans ct7
            have cw8 : (VS.put S8 o (.lst (sti.1.map D.str ++ [.str y]))) wq = some (.lst (sti.2.2.map D.str)) := (put_ne hwo).trans cw7
            have f8 : ∀ a y', a ≠ o → a ≠ t → a ≠ wq → S7 a = some y' → (VS.put S8 o (.lst (sti.1.map D.str ++ [.str y]))) a = some y' := fun a y' h1 h2 h3 h => (put_ne h1).trans (f7 a y' h1 h2 h3 h)
            generalize VS.put S8 o (.lst (sti.1.map D.str ++ [.str y])) = S9 at co8 ct8 cw8 f8 ⊢
            walk_at "gr"
            refine ve_dget ?_
            walk_at "gr"
            refine ⟨_, .inr z, .str y, .v, rfl, by rw [kvD_get, hy]; rfl, ?_⟩
            walk_at "gr"
            refine rm_append cw8 (by rw [List.length_map]; have := szl; omega) ?_
            exact ⟨_, by rw [eo]; exact (put_ne (Ne.symm hwo)).trans co8, by rw [eo]; exact (put_ne (Ne.symm hwt)).trans ct8, by rw [eo, put_same]; show _ = some (D.lst ((sti.2.2 ++ [y]).map D.str)); rw [List.map_append]; rfl, fun a y' h1 h2 h3 h => (put_ne h3).trans (f8 a y' h1 h2 h3 h), rfl⟩
      · rintro _ S6 ⟨x7, co6, ct6, cw6, f6, rfl⟩
        rw [List.length_map, List.take_length] at co6 ct6 cw6
        obtain ⟨r1, r2, r3, r4, r5, r6⟩ := sp (E x).length
        rw [List.take_length] at r1 r2 r3 r4 r5 r6
        refine ⟨m', Nat.lt_succ_self _, _, x7, co6, ct6, cw6, f6, r1, fun y hy => ?_, ?_, by omega, es.symm.trans er, rfl⟩
        · rcases r4 y hy with z | z
          · rcases dn y z with v | v
            · rw [ew] at v
              rcases List.mem_append.mp v with v | v
              · exact .inl (r5 y v)
              · rw [List.mem_singleton.mp v]
                exact .inr r2
            · exact .inr fun o ho => r3 o (v o ho)
          · exact .inl z
        · have r6 : _ ≤ ws.length + rem ns st.2.1 := r6
          rw [ew, List.length_append] at hm
          have : [x].length = 1 := rfl
          omega
    · have wn : st.2.2 = [] := by
        cases h : st.2.2 with
        | nil => rfl
        | cons a b => rw [h] at e; exact absurd e (by simp)
      obtain ⟨a, b, c⟩ := st
      have wn : c = [] := wn
      subst wn
      rw [rch_done] at er
      walk_at "gr"
      refine q o t S4 ho ht0 (Ne.symm hto) (fun a' y h => f4 a' y (fun z => ?_) (fun z => ?_) (fun z => ?_) h) ?_ ?_
      · rw [z, ho] at h; cases h
      · rw [z, ht0] at h; cases h
      · rw [z, hw0] at h; cases h
      · rw [← er]; exact co
      · rw [← er]; exact ct
theorem ok_nests_by {f : Addr} {fd : FuncData} {C_Sides C_Parcel C_Heap C_NoNumber C_NoSide : Addr}
    (F : Fd K "nests_by" "nests_by" s_nests_by [] f fd) (T : Tx K mg) (hsys : SysOk base) :
    FnG P w K mg base (L2.CX P w) 1 f fd a_nests_by (spOf K p_nests_by) := by
  refine fn_val F sc_nests_by (fun ds S G Y h => ?_) (fun cdv A hgd outer s H E hr px tk po ds S G Y h => ?_)
  · obtain ⟨ns, l, E, kv, rk, rfl, _⟩ := h
    rfl
  · obtain ⟨ns, l, E, kv, rk, rfl, hl, nd, hE, n12, mi, inc, q⟩ := h
    refine ⟨_, (pss_cons (ps_set (i := 2) sc_nests_by.nd rfl (Or.inl rfl) (VS.pe_listVals (by rfl) T.b_list (pv 1)))
      (pss_cons (ps_set (i := 3) sc_nests_by.nd rfl (Or.inl rfl) (pe_lst pa_nil))
      (pss_cons (ps_for po rfl (pi_list (pv 0)) (pg_name (i := 4) sc_nests_by.nd rfl (Or.inl rfl))
      (pss_one (ps_if (pt_cmpR op_notIn_seq (pv 4) (pv 2) (by rfl)) (pss_cons (ps_set (i := 5) sc_nests_by.nd rfl (Or.inl rfl) (pe_lst (pa_cons (pv 4) pa_nil)))
      (pss_cons (ps_while po (pt_cmp (pc_din (hu_of hr) (pe_ix ix_list (pv 5) pe_int (fun _ _ => rfl)) (pv 1))) (pss_one (ps_expr (pe_bm PySem.F.plainAttrs_list PySem.F.slot_list_insert PySem.F.type_list_insert mt_insertV (pv 5) (pa_cons pe_int (pa_cons (pe_dget (hu_of hr) (pv 1) (pe_ix ix_list (pv 5) pe_int (fun _ _ => rfl)) (fun _ _ => rfl)) pa_nil))))))
      (pss_one (ps_expr (pe_bm PySem.F.plainAttrs_list PySem.F.slot_list_append PySem.F.type_list_append mt_append (pv 3) (pa_cons (pv 5) pa_nil))))))
      pss_nil)))
      (pss_one (ps_ret (pv 3)))))), ?_⟩
    (try dsimp only [cxOf, List.map])
    show VX _ _ [_, _, _, _, _, _] _ _
    have ll := nd_len nd hl
    walk_at "gr"
    refine ve_listVals ?_
    walk_at "gr"
    refine ⟨_, .v, ?_⟩
    rw [kvD_vals]
    unfold nmD
    walk_at "gr"
    refine ve_lstc ?_
    walk_at "gr"
    intro d hd
    have cd : (VS.put S d (.lst [])) d = some (.lst (([] : List Addr).map D.ref)) := put_same
    have x1 := Ext.put (S := S) (d := .lst []) hd
    generalize VS.put S d (.lst []) = S1 at cd x1 ⊢
    walk_at "gr"
    refine vx_for (vi_list ?_)
    walk_at "gr"
    refine ⟨_, .v, fun i ρ2 S2 => ∃ (as : List Addr) (x4 x5 : Option D), as.length = (outs (l.take i) kv).length ∧ as.Nodup ∧ d ∉ as ∧ (∀ a ∈ as, S a = none) ∧ Ext S S2 ∧ S2 d = some (.lst (as.map D.ref)) ∧ (∀ (j : Nat) (a : Addr) (x : Str), as[j]? = some a → (outs (l.take i) kv)[j]? = some x → S2 a = some (.lst ((nst kv x).map D.str))) ∧
      ρ2 = [some (.lst (l.map D.str)), some (.dK (kvD kv)), some (.lst ((kvs kv).map D.str)), some (.ref d), x4, x5], ⟨[], none, none, rfl, .nil, nofun, nofun, x1, cd, nofun, rfl⟩, ?_, ?_⟩
    · clear cd x1 S1
      rintro i dd _ S2 e ⟨as, x4, x5, la, na, da, sa, x2, cd, ha, rfl⟩
      rw [List.getElem?_map] at e
      cases hn : l[i]? with
      | none => rw [hn] at e; cases e
      | some n =>
        rw [hn] at e
        cases e
        have tk : l.take (i + 1) = l.take i ++ [n] := by rw [List.take_succ, hn]; rfl
        have nn : n ∈ ns := hl n (List.mem_of_getElem? hn)
        have lo : (outs (l.take i) kv).length ≤ 12 := by
          have h1 : (outs (l.take i) kv).length ≤ (l.take i).length := List.length_filter_le _ _
          rw [List.length_take] at h1
          omega
        walk_at "gr"
        refine rv_in (.l .v) rfl (flat_strs _) ?_
        rw [inD_strs]
        by_cases hv : n ∈ kvs kv
        · rw [decide_eq_true hv]
          have eo : outs (l.take (i + 1)) kv = outs (l.take i) kv := by rw [tk, outs_app, if_pos hv, List.append_nil]
          exact ⟨_, rfl, nofun, fun _ => vx_next ⟨as, _, _, by rw [eo]; exact la, na, da, sa, x2, cd, by rw [eo]; exact ha, rfl⟩⟩
        · rw [decide_eq_false hv]
          have eo : outs (l.take (i + 1)) kv = outs (l.take i) kv ++ [n] := by rw [tk, outs_app, if_neg hv]
          refine ⟨_, rfl, fun _ => ?_, nofun⟩
          walk_at "gr"
          refine ve_lstc ?_
          walk_at "gr"
          intro a hna
          have ad : a ≠ d := fun z => by rw [z, cd] at hna; cases hna
          have aS : S a = none := x2.no hna
          have aas : a ∉ as := fun z => by
            obtain ⟨j, hj⟩ := List.getElem?_of_mem z
            obtain ⟨x, hx⟩ : ∃ x, (outs (l.take i) kv)[j]? = some x := ⟨_, List.getElem?_eq_getElem (by have := (List.getElem?_eq_some_iff.mp hj).1; omega)⟩
            rw [ha j a x hj hx] at hna
            cases hna
          have ca : (VS.put S2 a (.lst [.str n])) a = some (.lst ([n].map D.str)) := put_same
          have f3 : ∀ b y, b ≠ a → S2 b = some y → (VS.put S2 a (.lst [.str n])) b = some y := fun b y h1 h => (put_ne h1).trans h
          generalize VS.put S2 a (.lst [.str n]) = S3 at ca f3 ⊢
          refine vg_name ?_
          refine vx_join (fun ρ4 S4 => S4 a = some (.lst ((nst kv n).map D.str)) ∧ (∀ b y, b ≠ a → S2 b = some y → S4 b = some y) ∧ ρ4 = [some (.lst (l.map D.str)), some (.dK (kvD kv)), some (.lst ((kvs kv).map D.str)), some (.ref d), some (.str n), some (.ref a)]) ?_ ?_
          · refine vx_while (fun m ρ4 S4 => ∃ x' t', S4 a = some (.lst ((x' :: t').map D.str)) ∧ (∀ b y, b ≠ a → S2 b = some y → S4 b = some y) ∧ bld kv m (x' :: t') = nst kv n ∧ (∀ z ∈ x' :: t', z ∈ ns) ∧ (x' :: t').Pairwise (fun a b => rk a < rk b) ∧ ns.length + 1 ≤ m + (x' :: t').length ∧ m ≤ 13 ∧ ρ4 = [some (.lst (l.map D.str)), some (.dK (kvD kv)), some (.lst ((kvs kv).map D.str)), some (.ref d), some (.str n), some (.ref a)]) 13 ⟨n, [], ca, f3, rfl, fun z hz => by rw [List.mem_singleton.mp hz]; exact nn, List.pairwise_singleton _ _, by show _ ≤ 13 + 1; omega, Nat.le_refl _, rfl⟩ ?_
            clear ca f3 S3
            rintro m _ S4 ⟨x', t', ca, f4, eb, hs, pw, hm, m13, rfl⟩
            have nd' : (x' :: t').Nodup := pw.imp fun h e => by subst e; omega
            have le := nd_len nd' hs
            have e0 : atI ((x' :: t').map D.str) 0 = some (.str x') := atI_hd _ _
            walk_at "gr"
            refine ve_din ?_
            walk_at "gr"
            refine rv_ixL (.c ca) e0 ?_
            walk_at "gr"
            refine ⟨_, .inr x', .v, rfl, ?_⟩
            rw [kvD_get]
            cases hk : kget kv x' with
            | none =>
              refine ⟨_, rfl, nofun, fun _ => ⟨?_, f4, rfl⟩⟩
              rw [← eb]
              have : bld kv m (x' :: t') = x' :: t' := by
                cases m with
                | zero => rfl
                | succ m => unfold bld; rw [hk]
              rw [this]
              exact ca
            | some y =>
              refine ⟨_, rfl, fun _ => ?_, nofun⟩
              obtain ⟨m', rfl⟩ : ∃ m', m = m' + 1 := ⟨m - 1, by omega⟩
              have eb' : bld kv (m' + 1) (x' :: t') = bld kv m' (y :: x' :: t') := by
                show (match kget kv x' with
                  | none => x' :: t'
                  | some y => bld kv m' (y :: x' :: t')) = _
                rw [hk]
              have yn : y ∈ ns := mi.vs y (kget_in hk)
              have lt := inc y yn x' (mi.ok x' y hk)
              walk_at "gr"
              refine ve_dget ?_
              walk_at "gr"
              refine rv_ixL (.c ca) e0 ?_
              walk_at "gr"
              refine ⟨_, .inr x', .str y, .v, rfl, by rw [kvD_get, hk]; rfl, ?_⟩
              walk_at "gr"
              refine rm_insert (n := 0) ca rfl (Nat.zero_le _) (by rw [List.length_map]; have := szl; omega) ?_
              refine ⟨m', Nat.lt_succ_self _, y, x' :: t', by rw [put_same]; rfl, fun b z h1 h => (put_ne h1).trans (f4 b z h1 h), eb'.symm.trans eb, fun z hz => ?_, ?_, by rw [List.length_cons]; omega, by omega, rfl⟩
              · rcases List.mem_cons.mp hz with rfl | hz
                · exact yn
                · exact hs z hz
              · refine List.pairwise_cons.mpr ⟨fun z hz => ?_, pw⟩
                rcases List.mem_cons.mp hz with rfl | hz
                · exact lt
                · have := (List.pairwise_cons.mp pw).1 z hz
                  omega
          clear ca f3 S3
          rintro _ S4 ⟨ca, f4, rfl⟩
          have cd4 := f4 d _ (Ne.symm ad) cd
          walk_at "gr"
          refine rm_append cd4 (by rw [List.length_map]; have := szl; omega) ?_
          refine ⟨as ++ [a], _, _, ?_, ?_, ?_, ?_, ?_, ?_, ?_, rfl⟩
          · rw [eo, List.length_append, List.length_append, la]; rfl
          · rw [List.nodup_append]
            exact ⟨na, by simp, fun b hb c hc e => aas (by rw [← List.mem_singleton.mp hc, ← e]; exact hb)⟩
          · intro z
            rcases List.mem_append.mp z with z | z
            · exact da z
            · exact ad (List.mem_singleton.mp z).symm
          · intro b hb
            rcases List.mem_append.mp hb with hb | hb
            · exact sa b hb
            · rw [List.mem_singleton.mp hb]; exact aS
          · intro b y hb
            have h1 : b ≠ a := fun z => by rw [z, aS] at hb; cases hb
            have h2 : b ≠ d := fun z => by rw [z, hd] at hb; cases hb
            exact (put_ne h2).trans (f4 b y h1 (x2 _ _ hb))
          · rw [put_same, List.map_append]; rfl
          · intro j b x hj hx
            rw [eo] at hx
            by_cases z : j < as.length
            · rw [List.getElem?_append_left z] at hj
              rw [List.getElem?_append_left (by omega)] at hx
              have hb := ha j b x hj hx
              have h1 : b ≠ a := fun z => aas (by rw [← z]; exact List.mem_of_getElem? hj)
              have h2 : b ≠ d := fun z => da (by rw [← z]; exact List.mem_of_getElem? hj)
              exact (put_ne h2).trans (f4 b _ h1 hb)
            · have ej : j = as.length := by
                have := (List.getElem?_eq_some_iff.mp hj).1
                rw [List.length_append] at this
                have : [a].length = 1 := rfl
                omega
              rw [ej, List.getElem?_append_right (Nat.le_refl _), Nat.sub_self] at hj
              rw [ej, la, List.getElem?_append_right (Nat.le_refl _), Nat.sub_self] at hx
              cases hj
              cases hx
              exact (put_ne ad).trans ca
    · rintro _ S2 ⟨as, x4, x5, la, na, da, sa, x2, cd2, ha, rfl⟩
      rw [List.length_map, List.take_length] at la ha
      walk_at "gr"
      exact q d as S2 hd la na da sa x2 cd2 ha
end
end LW
namespace LW
open PySem L2 C8 PySem.Spec PyProof.Rows VS
/-! ### ranks and the chain: what holds of them -/
theorem chain_sub {E : Str → List Str} {R : Str → Int} {M : Int} : ∀ l : List Str, (chainC E R M l).1.Sublist l
  | [] => .slnil
  | n :: l => by
    have ih := chain_sub (E := E) (R := R) (M := M) l
    show (stepC E R n (chainC E R M l)).1.Sublist _
    unfold stepC
    split
    · exact ih.cons₂ n
    · exact ih.cons n
structure Tld (ns : List Str) (E : Str → List Str) (xs : List Str) (r : Str → Int) : Prop where
  z : xs = [] → ns = []
  nd : xs.Nodup
  m : ∀ x ∈ xs, x ∈ ns
  p : Pth E xs
  l : xs.length ≤ 12
  r1 : ∀ n, 1 ≤ r n
  rl : ∀ n, r n ≤ 13
  e : ∀ n ∈ ns, (E n).length ≤ 12 ∧ ∀ o ∈ E n, o ∈ ns ∧ r n < r o
  t : topR (ns.map r) = xs.length
theorem rank_le {E : Str → List Str} : ∀ {l : List Str} {r : Str → Int} {c : Int}, (∀ z, r z ≤ c) → ∀ z, ranksR E l r z ≤ c + l.length
  | [], r, c, h, z => by
    have := h z
    show r z ≤ c + ((0 : Nat) : Int)
    omega
  | n :: l, r, c, h, z => by
    have := rank_le (E := E) (l := l) (r := rowR E r n) (c := c + 1) (fun z => by
      rw [rowR_at]
      have h1 := h z
      have h2 := h n
      split <;> omega) z
    show ranksR E l (rowR E r n) z ≤ _
    rw [List.length_cons]
    omega
theorem tld {sp : Int} {ps : List Pc} (h : Hps ps) (s0 : 0 ≤ sp) : Tld (ps.map Pc.nm) (Eof sp ps) (chnN sp ps) (rnkN sp ps) := by
  have tp : Tp (Eof sp ps) (risN ps) := ris_tp (fun p hp => (h.g p hp).wl.1) h.n s0
  have hmem : ∀ n, n ∈ risN ps ↔ n ∈ ps.map Pc.nm := fun n => (ris_perm ps).mem_iff
  obtain ⟨a, b, c, d⟩ := ranks_law tp fun _ => 1
  have h1 : ∀ z, 1 ≤ rnkN sp ps z := b
  have hd : ∀ z, rnkN sp ps z = 1 ∨ ∃ n ∈ risN ps, z ∈ Eof sp ps n ∧ rnkN sp ps z = rnkN sp ps n + 1 := d
  have hM : (risN ps = [] ∧ topN sp ps = 0) ∨ ∃ x ∈ risN ps, rnkN sp ps x = topN sp ps := by
    cases e : ps.map Pc.nm with
    | nil =>
      refine .inl ⟨?_, by unfold topN; rw [e]; rfl⟩
      cases e2 : risN ps with
      | nil => rfl
      | cons x l =>
        have := (hmem x).mp (by rw [e2]; exact List.mem_cons_self)
        rw [e] at this
        cases this
    | cons x l =>
      right
      have hx : x ∈ ps.map Pc.nm := by rw [e]; exact List.mem_cons_self
      have h2 : rnkN sp ps x ≤ topN sp ps := topR_le (List.mem_map.mpr ⟨x, hx, rfl⟩)
      rcases topR_in ((ps.map Pc.nm).map (rnkN sp ps)) with z | z
      · have z : topN sp ps = 0 := z
        have := h1 x
        omega
      · obtain ⟨y, hy, ey⟩ := List.mem_map.mp z
        exact ⟨y, (hmem y).mpr hy, ey⟩
  obtain ⟨q1, q2, q3⟩ := chain_law tp h1 (fun z _ => hd z) hM
  have sub : (chnN sp ps).Sublist (risN ps) := chain_sub _
  have lr : (risN ps).length = ps.length := by rw [(ris_perm ps).length_eq, List.length_map]
  have p12 := h.l
  have gt : ∀ n o, o ∈ Eof sp ps n → rnkN sp ps n < rnkN sp ps o := fun n o ho => by
    have hn : n ∈ risN ps := by
      refine (hmem n).mpr ?_
      unfold Eof at ho
      split at ho
      · rename_i p hp
        have e1 := List.mem_of_find?_eq_some hp
        have e2 : p.nm = n := by simpa using List.find?_some hp
        exact List.mem_map.mpr ⟨p, e1, e2⟩
      · simp at ho
    have : rnkN sp ps n + 1 ≤ rnkN sp ps o := c n hn o ho
    omega
  refine ⟨fun e => ?_, ((ris_perm ps).nodup_iff.mpr h.n).sublist sub, fun x hx => (hmem x).mp (q3 x hx), q2, ?_, h1, fun n => ?_, fun n hn => ⟨?_, fun o ho => ⟨Eof_in ho, gt n o ho⟩⟩, ?_⟩
  · have e0 : topN sp ps = 0 := by
      have e : (chainC (Eof sp ps) (rnkN sp ps) (topN sp ps) (risN ps)).1 = [] := e
      rw [e] at q1
      exact q1.symm
    cases e : ps.map Pc.nm with
    | nil => rfl
    | cons x l =>
      have hx : x ∈ ps.map Pc.nm := by rw [e]; exact List.mem_cons_self
      have h2 : rnkN sp ps x ≤ topN sp ps := topR_le (List.mem_map.mpr ⟨x, hx, rfl⟩)
      have := h1 x
      omega
  · have := sub.length_le
    omega
  · have : rnkN sp ps n ≤ 1 + (risN ps).length := rank_le (fun _ => Int.le_refl _) n
    omega
  · unfold Eof
    split
    · unfold goN
      rw [List.length_map]
      exact Nat.le_trans (List.length_filter_le _ _) h.l
    · exact Nat.zero_le _
  · exact q1.symm
end LW
namespace LW
open PySem L2 C8 PySem.Spec PyProof.Rows VS
/-! ### the fewest nests, and a lot that shows it -/
theorem goK_of {sp : Int} {p q : Pc} (gp : p.g) (s0 : 0 ≤ sp) (h : goB sp p q = true) : (("alone" : Str) ∉ p.mk ∧ ("alone" : Str) ∉ q.mk) ∧ goK sp p q = true := by
  by_cases h1 : ("alone" : Str) ∈ p.mk
  · rw [go_alone (.inl h1)] at h; cases h
  · by_cases h2 : ("alone" : Str) ∈ q.mk
    · rw [go_alone (.inr h2)] at h; cases h
    · exact ⟨⟨h1, h2⟩, by rw [← go_rankK gp s0 h1 h2]; exact h⟩
theorem go_trans {sp : Int} {p q r : Pc} (gp : p.g) (gq : q.g) (s0 : 0 ≤ sp) (h1 : goB sp p q = true) (h2 : goB sp q r = true) : goB sp p r = true := by
  obtain ⟨⟨a1, a2⟩, k1⟩ := goK_of gp s0 h1
  obtain ⟨⟨_, a3⟩, k2⟩ := goK_of gq s0 h2
  rw [go_rankK gp s0 a1 a3]
  unfold goK at k1 k2 ⊢
  obtain ⟨u, v, w, e⟩ := list3 (up_len [p.a, p.b, p.c])
  obtain ⟨x, y, z, e'⟩ := list3 (up_len [q.a, q.b, q.c])
  obtain ⟨x', y', z', e''⟩ := list3 (up_len [r.a, r.b, r.c])
  rw [e, e'] at k1
  rw [e', e''] at k2
  rw [e, e'']
  have k1 : (decide (u + sp + 2 * q.wl ≤ x) && (decide (v + sp + 2 * q.wl ≤ y) && decide (w + sp + 2 * q.wl ≤ z))) = true := k1
  have k2 : (decide (x + sp + 2 * r.wl ≤ x') && (decide (y + sp + 2 * r.wl ≤ y') && decide (z + sp + 2 * r.wl ≤ z'))) = true := k2
  show (decide (u + sp + 2 * r.wl ≤ x') && (decide (v + sp + 2 * r.wl ≤ y') && decide (w + sp + 2 * r.wl ≤ z'))) = true
  simp only [Bool.and_eq_true, decide_eq_true_eq] at k1 k2 ⊢
  have := gq.wl.1
  omega
theorem Eof_mem {sp : Int} {ps : List Pc} {n o : Str} (h : o ∈ Eof sp ps n) : ∃ p ∈ ps, ∃ q ∈ ps, p.nm = n ∧ q.nm = o ∧ goB sp p q = true := by
  unfold Eof at h
  split at h
  · rename_i p hp
    obtain ⟨q, hq, e, g⟩ := mem_goN h
    exact ⟨p, List.mem_of_find?_eq_some hp, q, hq, by simpa using List.find?_some hp, e, g⟩
  · simp at h
theorem pnm_inj {ps : List Pc} (nd : (ps.map Pc.nm).Nodup) {p q : Pc} (hp : p ∈ ps) (hq : q ∈ ps) (e : p.nm = q.nm) : p = q := by
  have h1 := find_nm nd hp
  have h2 := find_nm nd hq
  rw [e, h2] at h1
  exact (Option.some.inj h1).symm
theorem Eof_trans {sp : Int} {ps : List Pc} (h : Hps ps) (s0 : 0 ≤ sp) (x y z : Str) (h1 : y ∈ Eof sp ps x) (h2 : z ∈ Eof sp ps y) : z ∈ Eof sp ps x := by
  obtain ⟨p, hp, q, hq, rfl, rfl, g1⟩ := Eof_mem h1
  obtain ⟨q', hq', r, hr, e, rfl, g2⟩ := Eof_mem h2
  have := pnm_inj h.n hq' hq e
  subst this
  rw [Eof_at h.n hp]
  exact List.mem_map.mpr ⟨r, List.mem_filter.mpr ⟨hr, go_trans (h.g p hp) (h.g q' hq) s0 g1 g2⟩, rfl⟩
/-- the matching, the nests, the lot -/
def kvF (sp : Int) (ps : List Pc) : KV := mat (Eof sp ps) 14 (ps.map Pc.nm) []
def rcF (sp : Int) (ps : List Pc) : List Str × List Str := rch (Eof sp ps) (kvF sp ps) 40 (outD (kvF sp ps) (ps.map Pc.nm))
def outF (sp : Int) (ps : List Pc) : List Str := outs (ps.map Pc.nm) (kvF sp ps)
def lotF (sp : Int) (ps : List Pc) : List Str := lotS (ps.map Pc.nm) (rcF sp ps)
theorem mi_F {sp : Int} {ps : List Pc} (h : Hps ps) : MI (Eof sp ps) (ps.map Pc.nm) (kvF sp ps) := by
  have n12 := h.nmlen
  have := mat_spec (E := Eof sp ps) (U := ps.map Pc.nm) (fun x o ho => Eof_in ho) (k := 14) (by omega) (ps.map Pc.nm) [] [] MI.nil (by rw [List.nil_append]; exact h.n)
  rw [List.nil_append] at this
  exact this
theorem cov_F {sp : Int} {ps : List Pc} (h : Hps ps) (s0 : 0 ≤ sp) : Cov (ps.map Pc.nm) (Eof sp ps) (kvF sp ps) (rcF sp ps) := by
  have n12 := h.nmlen
  exact cov h.n (fun x o ho => Eof_in ho) (Eof_trans h s0) (mi_F h) (by omega)
def p_fewest (CH CP CS : Addr) : Pt := fun ds S G _ => ∃ (h k : Addr) (sp : Int) (ps : List Pc), ds = [.ref h, .int sp] ∧ HpS S CH CP CS h k ps ∧ Hps ps ∧ 0 ≤ sp ∧ sp ≤ 1000 ∧
  ∀ (d e : Addr) (as : List Addr) (S' : Sto), S d = none → S e = none → d ≠ e → e ∉ as → as.length = (outF sp ps).length → as.Nodup → d ∉ as → (∀ a ∈ as, S a = none) → Ext S S' → S' d = some (.lst (as.map D.ref)) → (∀ (i : Nat) (a : Addr) (x : Str), as[i]? = some a → (outF sp ps)[i]? = some x → S' a = some (nmD (nst (kvF sp ps) x))) → S' e = some (nmD (lotF sp ps)) → G (.tup [.ref d, .ref e]) S'
theorem lot_app (l : List Str) (n : Str) (r : List Str × List Str) : lotS (l ++ [n]) r = lotS l r ++ (if (decide (n ∈ r.1) && !decide (n ∈ r.2)) = true then [n] else []) := by
  unfold lotS
  rw [List.filter_append]
  congr 1
  by_cases h : (decide (n ∈ r.1) && !decide (n ∈ r.2)) = true
  · rw [if_pos h, List.filter_cons, List.filter_nil]
    exact if_pos h
  · rw [if_neg h, List.filter_cons, List.filter_nil]
    exact if_neg h
section
variable {P : Program} {w : World} {K : PySem.W.Frag} {mg : Str → Option Value} {base : Heap}
theorem ok_fewest {f : Addr} {fd : FuncData} {C_Sides C_Parcel C_Heap C_NoNumber C_NoSide : Addr} {f_inside f_Heap_names f_matched f_reached f_nests_by : Addr} {g_inside g_Heap_names g_matched g_reached g_nests_by : FuncData}
    (F : Fd K "fewest" "fewest" s_fewest [.int 0] f fd) (T : Tx K mg) (hsys : SysOk base)
    (c_inside : Cf P w K mg base (L2.CX P w) 8 "inside" s_inside [.int 0] a_inside (p_inside K C_Heap C_Parcel C_Sides C_NoNumber) f_inside g_inside)
    (c_Heap_names : Mf P w K mg base 2 C_Heap "names" "Heap.names" s_Heap_names [] a_Heap_names (p_Hp_names C_Heap C_Parcel C_Sides) f_Heap_names g_Heap_names)
    (c_matched : Cf P w K mg base (L2.CX P w) 16 "matched" s_matched [] a_matched p_matched f_matched g_matched)
    (c_reached : Cf P w K mg base (L2.CX P w) 1 "reached" s_reached [] a_reached p_reached f_reached g_reached)
    (c_nests_by : Cf P w K mg base (L2.CX P w) 1 "nests_by" s_nests_by [] a_nests_by p_nests_by f_nests_by g_nests_by)
    (k_Heap : Kl_Heap K mg C_Heap)
    (k_Parcel : Kl_Parcel K mg C_Parcel)
    (k_Sides : Kl_Sides K mg C_Sides) :
    FnG P w K mg base (L2.CX P w) 17 f fd a_fewest (spOf K (p_fewest C_Heap C_Parcel C_Sides)) := by
  have kc_Heap := k_Heap.ins.cl
  have ka_Heap_held := k_Heap.a_held
  have ka_Heap_told := k_Heap.a_told
  have ka_Heap_kind := k_Heap.a_kind
  have kc_Parcel := k_Parcel.ins.cl
  have ka_Parcel_called := k_Parcel.a_called
  have ka_Parcel_outside := k_Parcel.a_outside
  have ka_Parcel_thick := k_Parcel.a_thick
  have ka_Parcel_heavy := k_Parcel.a_heavy
  have ka_Parcel_strong := k_Parcel.a_strong
  have ka_Parcel_marks := k_Parcel.a_marks
  have ka_Parcel_told := k_Parcel.a_told
  have ka_Parcel_names := k_Parcel.a_names
  have kc_Sides := k_Sides.ins.cl
  have ka_Sides_three := k_Sides.a_three
  refine fn_val F sc_fewest (fun ds S G Y h => ?_) (fun cdv A hgd outer s H E hr px tk po ds S G Y h => ?_)
  · obtain ⟨h, k, sp, ps, rfl, _⟩ := h
    rfl
  · obtain ⟨h, k, sp, ps, rfl, hs, hps, s0, s1, q⟩ := h
    refine ⟨_, (pss_cons (ps_set (i := 2) sc_fewest.nd rfl (Or.inl rfl) (pe_cG c_inside.fn hgd (hr.mono (by decide)) (by rfl) c_inside.mg c_inside.kp c_inside.b .nil VS.pass0 (pa_cons (pv 0) (pa_cons (pv 1) pa_nil))))
      (pss_cons (ps_set (i := 3) sc_fewest.nd rfl (Or.inl rfl) (pe_mG0 (pv 0) c_Heap_names.cl c_Heap_names.me c_Heap_names.fn hgd (hr.mono (by decide)) c_Heap_names.b .nil VS.pass0))
      (pss_cons (ps_set (i := 4) sc_fewest.nd rfl (Or.inl rfl) (pe_cG c_matched.fn hgd (hr.mono (by decide)) (by rfl) c_matched.mg c_matched.kp c_matched.b .nil VS.pass0 (pa_cons (pv 2) (pa_cons (pv 3) pa_nil))))
      (pss_cons (ps_asg (pe_cG c_reached.fn hgd (hr.mono (by decide)) (by rfl) c_reached.mg c_reached.kp c_reached.b .nil VS.pass0 (pa_cons (pv 2) (pa_cons (pv 3) (pa_cons (pv 4) pa_nil)))) (pg_tup (n := 2) rfl (pgs_cons (pg_name (i := 5) sc_fewest.nd rfl (Or.inr rfl)) (pgs_cons (pg_name (i := 6) sc_fewest.nd rfl (Or.inr rfl)) pgs_nil))))
      (pss_one (ps_ret (pe_tup (pa_cons (pe_cG c_nests_by.fn hgd (hr.mono (by decide)) (by rfl) c_nests_by.mg c_nests_by.kp c_nests_by.b .nil VS.pass0 (pa_cons (pv 3) (pa_cons (pv 4) pa_nil))) (pa_cons (pe_lc (own := [("name", 7)]) rfl sc_fewest.nd (pi_list (pv 3)) (blkOk_by (own := [("name", 7)]) (N := n_fewest) (sc := defScope s_fewest) (by decide +kernel)) (fun _ _ _ _ _ => (pg_name (i := 7) sc_fewest.nd rfl (Or.inl rfl))) (fun _ _ _ _ _ => (pts_one (PW.pt (pw_and (pt_cmpR (kO (K := K) (r := (fun K => rIn K false)) op_in_seq) (pv 7) (pv 5) (by rfl)) (pw_and1 (pt_cmpR (kO (K := K) (r := (fun K => rIn K true)) op_notIn_seq) (pv 7) (pv 6) (by rfl))))))) (fun _ _ _ _ _ => (pv 7))) pa_nil))))))))), ?_⟩
    (try dsimp only [cxOf, List.map])
    show VX _ _ [_, _, _, _, _, _, _, _] _ _
    have hx := hs.is
    have n12 := hps.nmlen
    walk_at "gr"
    refine .inl ⟨.ref h, sp, ps, rfl, hx, hps, s0, s1, fun d as S1 hd la na da sa x1 c1 h1 => ?_⟩
    refine vg_name ?_
    show VX _ _ [some (.ref h), some (.int sp), some (.ref d), none, none, none, none, none] S1 _
    refine vx_see (fun a => a = d ∨ a ∈ as) (fun a ha => ?_) (VdR.refl.set 2 rfl (d' := .dK (ps.map fun p => ((.inr p.nm : Key), nmD (goN sp ps p)))) (.c (d := .dK (inD2 ps as)) ?_ nofun (.dK (vdK_in la fun i a p e1 e2 => ?_)))) ?_
    · rcases ha with rfl | ha
      · exact ⟨_, c1, nofun⟩
      · obtain ⟨i, hi⟩ := List.getElem?_of_mem ha
        obtain ⟨p, hp⟩ : ∃ p, ps[i]? = some p := ⟨_, List.getElem?_eq_getElem (by have := (List.getElem?_eq_some_iff.mp hi).1; omega)⟩
        exact ⟨_, h1 i a p hi hp, nofun⟩
    · rw [onlyA_in (.inl rfl)]
      exact c1
    · rw [onlyA_in (.inr (List.mem_of_getElem? e1))]
      exact h1 i a p e1 e2
    rw [ou_of hps.n]
    show VX _ _ [some (.ref h), some (.int sp), some (.dK (ouDs (ps.map Pc.nm) (Eof sp ps))), none, none, none, none, none] _ _
    have x2 : Ext S (cutA (fun a => a = d ∨ a ∈ as) S1) := ext_cut x1 fun a ha => by
      rcases ha with rfl | ha
      · exact hd
      · exact sa a ha
    generalize cutA (fun a => a = d ∨ a ∈ as) S1 = S2 at x2 ⊢
    clear c1 h1 x1 da na la sa hd as d
    have hs2 : HpS S2 C_Heap C_Parcel C_Sides h k ps := ⟨x2 _ _ hs.1, x2 _ _ hs.2⟩
    have c1 := hs2.1
    walk_at "gr"
    refine ⟨h, k, ps, rfl, hs2, hps.l, ?_⟩
    walk_at "gr"
    refine ⟨ps.map Pc.nm, ps.map Pc.nm, Eof sp ps, rfl, fun _ h => h, hps.n, fun x o ho => Eof_in ho, n12, fun d S3 hd x3 c3 => ?_⟩
    refine vg_name ?_
    show VX _ _ [some (.ref h), some (.int sp), some (.dK (ouDs (ps.map Pc.nm) (Eof sp ps))), some (.lst ((ps.map Pc.nm).map D.str)), some (.ref d), none, none, none] S3 _
    refine vx_see (fun a => a = d) (fun a ha => ⟨.dK (kvD (kvF sp ps)), by rw [ha]; exact c3, nofun⟩) (VdR.refl.set 4 rfl (d' := .dK (kvD (kvF sp ps))) (.c (d := .dK (kvD (kvF sp ps))) (by rw [onlyA_in (A := fun a => a = d) rfl]; exact c3) nofun .v)) ?_
    show VX _ _ [some (.ref h), some (.int sp), some (.dK (ouDs (ps.map Pc.nm) (Eof sp ps))), some (.lst ((ps.map Pc.nm).map D.str)), some (.dK (kvD (kvF sp ps))), none, none, none] _ _
    have x4 : Ext S (cutA (fun a => a = d) S3) := ext_cut (x2.trans x3) fun a ha => by rw [ha]; exact x2.no hd
    generalize cutA (fun a => a = d) S3 = S4 at x4 ⊢
    clear c3 x3 hd hs2 c1 x2
    have mi := mi_F (sp := sp) hps
    walk_at "gr"
    refine ⟨ps.map Pc.nm, ps.map Pc.nm, Eof sp ps, kvF sp ps, rfl, fun _ h => h, hps.n, fun x o ho => Eof_in ho, n12, mi, fun o t S5 no nt not x5 co ct => ?_⟩
    refine vg_tup rfl ?_
    refine vgs_cons ?_
    refine vg_name ?_
    refine vgs_cons ?_
    refine vg_name ?_
    refine vgs_nil ?_
    show VX _ _ [some (.ref h), some (.int sp), some (.dK (ouDs (ps.map Pc.nm) (Eof sp ps))), some (.lst ((ps.map Pc.nm).map D.str)), some (.dK (kvD (kvF sp ps))), some (.ref o), some (.ref t), none] S5 _
    refine vx_see (fun a => a = o ∨ a = t) (fun a ha => ?_) ((VdR.refl.set 5 rfl (d' := nmD (rcF sp ps).1) (.c (d := nmD (rcF sp ps).1) (by rw [onlyA_in (A := fun a => a = o ∨ a = t) (.inl rfl)]; exact co) nofun .v)).set 6 rfl (d' := nmD (rcF sp ps).2) (.c (d := nmD (rcF sp ps).2) (by rw [onlyA_in (A := fun a => a = o ∨ a = t) (.inr rfl)]; exact ct) nofun .v)) ?_
    · rcases ha with rfl | rfl
      · exact ⟨_, co, nofun⟩
      · exact ⟨_, ct, nofun⟩
    show VX _ _ [some (.ref h), some (.int sp), some (.dK (ouDs (ps.map Pc.nm) (Eof sp ps))), some (.lst ((ps.map Pc.nm).map D.str)), some (.dK (kvD (kvF sp ps))), some (nmD (rcF sp ps).1), some (nmD (rcF sp ps).2), none] _ _
    have x6 : Ext S (cutA (fun a => a = o ∨ a = t) S5) := ext_cut (x4.trans x5) fun a ha => by
      rcases ha with rfl | rfl
      · exact x4.no no
      · exact x4.no nt
    generalize cutA (fun a => a = o ∨ a = t) S5 = S6 at x6 ⊢
    clear co ct x5 no nt not x4 S5 S4 S3
    have t := tld hps s0
    walk_at "gr"
    refine ⟨ps.map Pc.nm, ps.map Pc.nm, Eof sp ps, kvF sp ps, rnkN sp ps, rfl, fun _ h => h, hps.n, fun x o ho => Eof_in ho, n12, mi, fun n hn o ho => ((t.e n hn).2 o ho).2, fun d as S7 hd la na da sa x7 cd ha => ?_⟩
    unfold nmD
    walk_at "gr"
    refine ve_lcc (vi_list ?_)
    walk_at "gr"
    refine ⟨_, .v, by rw [List.length_map, List.length_map]; have := hps.l; omega, fun j acc S8 => acc = (lotS ((ps.map Pc.nm).take j) (rcF sp ps)).map D.str ∧ S8 = S7, ⟨rfl, rfl⟩, ?_, ?_⟩
    · rintro j dz acc S8 hdz ⟨rfl, rfl⟩ _
      rw [List.getElem?_map] at hdz
      cases hn : (ps.map Pc.nm)[j]? with
      | none => rw [hn] at hdz; cases hdz
      | some n =>
        rw [hn] at hdz
        cases hdz
        have tk : (ps.map Pc.nm).take (j + 1) = (ps.map Pc.nm).take j ++ [n] := by rw [List.take_succ, hn]; rfl
        have eo : lotS ((ps.map Pc.nm).take (j + 1)) (rcF sp ps) = lotS ((ps.map Pc.nm).take j) (rcF sp ps) ++ (if (decide (n ∈ (rcF sp ps).1) && !decide (n ∈ (rcF sp ps).2)) = true then [n] else []) := by rw [tk, lot_app]
        walk_at "gr"
        refine rv_in (.l .v) rfl (flat_strs _) ?_
        rw [inD_strs]
        by_cases h1 : n ∈ (rcF sp ps).1
        · rw [decide_eq_true h1] at eo ⊢
          refine ⟨true, rfl, fun _ => ?_, nofun⟩
          walk_at "gr"
          refine rv_in (.l .v) rfl (flat_strs _) ?_
          rw [inD_strs]
          by_cases h2 : n ∈ (rcF sp ps).2
          · rw [decide_eq_true h2] at eo ⊢
            exact ⟨false, rfl, nofun, fun _ => ⟨by rw [eo, if_neg (by decide), List.append_nil], rfl⟩⟩
          · rw [decide_eq_false h2] at eo ⊢
            refine ⟨true, rfl, fun _ => ?_, nofun⟩
            walk_at "gr"
            exact ⟨by rw [eo, if_pos (by decide), List.map_append]; rfl, rfl⟩
        · rw [decide_eq_false h1] at eo ⊢
          exact ⟨false, rfl, nofun, fun _ => ⟨nofun, fun _ => ⟨by rw [eo, if_neg (by simp), List.append_nil], rfl⟩⟩⟩
    rintro acc S8 ⟨rfl, rfl⟩ _ e he
    rw [List.length_map, List.take_length]
    have eS : S e = none := (x6.trans x7).no he
    have ed : d ≠ e := ne_at cd he
    have eas : e ∉ as := fun z => by
      obtain ⟨j, hj⟩ := List.getElem?_of_mem z
      obtain ⟨x, hx⟩ : ∃ x, (outs (ps.map Pc.nm) (kvF sp ps))[j]? = some x := ⟨_, List.getElem?_eq_getElem (by have := (List.getElem?_eq_some_iff.mp hj).1; omega)⟩
      rw [ha j e x hj hx] at he
      cases he
    walk_at "gr"
    refine q d e as _ (x6.no hd) eS ed eas la na da (fun a h => x6.no (sa a h)) (((x6.trans x7)).trans (Ext.put he)) ((put_ne ed).trans cd) (fun i a x h1 h2 => ?_) put_same
    have hne : a ≠ e := fun z => eas (by rw [← z]; exact List.mem_of_getElem? h1)
    exact (put_ne hne).trans (ha i a x h1 h2)
end
end LW
namespace LW
open PySem L2 C8 PySem.Spec PyProof.Rows VS
/-! ### the law's looks at names and numbers, where all is well -/
def p__law_unlike : Pt := fun ds S G _ => ∃ xs ks : List Str, ds = [nmD xs, nmD ks] ∧ xs.Nodup ∧ (∀ x ∈ xs, x ∈ ks) ∧ xs.length ≤ 1000 ∧ G (.bl true) S
def p__law_is_nest : Pt := fun ds S G _ => ∃ (ns : List Str) (E : Str → List Str) (xs : List Str), ds = [.dK (ouDs ns E), nmD xs] ∧ ns.length ≤ 1000 ∧ xs ≠ [] ∧ xs.Nodup ∧ (∀ x ∈ xs, x ∈ ns) ∧ Pth E xs ∧ xs.length ≤ 1000 ∧ G (.bl true) S
theorem pth_at {E : Str → List Str} : ∀ {xs : List Str}, Pth E xs → ∀ {i : Nat} {n m : Str}, xs[i]? = some n → xs[i + 1]? = some m → m ∈ E n
  | _, .nil, _, _, _, h, _ => by simp at h
  | _, .one, _, _, _, _, h => by simp at h
  | _, .cons h t, 0, _, _, h1, h2 => by
    simp at h1 h2
    subst h1 h2
    exact h
  | _, .cons h t, i + 1, _, _, h1, h2 => pth_at t (i := i) (by simpa using h1) (by simpa using h2)
section
variable {P : Program} {w : World} {K : PySem.W.Frag} {mg : Str → Option Value} {base : Heap}
theorem ok__law_unlike {f : Addr} {fd : FuncData} {C_Sides C_Parcel C_Heap C_NoNumber C_NoSide : Addr}
    (F : Fd K "_law_unlike" "_law_unlike" s__law_unlike [] f fd) (T : Tx K mg) (hsys : SysOk base) :
    FnG P w K mg base (L2.CX P w) 1 f fd a__law_unlike (spOf K p__law_unlike) := by
  refine fn_val F sc__law_unlike (fun ds S G Y h => ?_) (fun cdv A hgd outer s H E hr px tk po ds S G Y h => ?_)
  · obtain ⟨xs, ks, rfl, _⟩ := h
    rfl
  · obtain ⟨xs, ks, rfl, nd, hin, hl, q⟩ := h
    refine ⟨_, (pss_cons (ps_if (pt_not (pt_val (pe_callB c_isiZ (by rfl) T.b_isinstance (by decide +kernel) (pa_cons (pv 0) (pa_cons (pe_bltn (v := .ty "list") (by rfl) T.b_list (by decide +kernel) rfl) pa_nil))))) (pss_one (ps_ret pe_bl))
      pss_nil)
      (pss_cons (ps_if (pt_cmpR (op_neE hr) (pe_lc (own := [("_law_name", 2)]) rfl sc__law_unlike.nd (pi_list (pv 0)) (blkOk_by (own := [("_law_name", 2)]) (N := n__law_unlike) (sc := defScope s__law_unlike) (by decide +kernel)) (fun _ _ _ _ _ => (pg_name (i := 2) sc__law_unlike.nd rfl (Or.inl rfl))) (fun _ _ _ _ _ => (pts_one (PW.pt (pw_or (pt_not (pt_val (pe_callB (kC (K := K) (r := rIsiZ) c_isiZ) (by rfl) T.b_isinstance (by decide +kernel) (pa_cons (pv 2) (pa_cons (pe_bltn (v := .ty "str") (by rfl) T.b_str (by decide +kernel) rfl) pa_nil))))) (pw_or1 (pt_cmpR (kO (K := K) (r := (fun K => rIn K true)) op_notIn_seq) (pv 2) (pv 1) (by rfl))))))) (fun _ _ _ _ _ => (pv 2))) (pe_lst pa_nil) (nomark _)) (pss_one (ps_ret pe_bl))
      pss_nil)
      (pss_one (ps_ret (pe_cmpR op_eq (pe_lenS (by rfl) T.b_len (by rfl) T.b_set (pv 0)) (pe_callB c_len (by rfl) T.b_len (by decide +kernel) (pa_cons (pv 0) pa_nil)) (nomark _)))))), ?_⟩
    (try dsimp only [cxOf, List.map])
    show VX _ _ [_, _, _] _ _
    unfold nmD
    walk_at "ga"
    refine ve_lcF (fun _ => false) id (vi_list ?_)
    walk_at "ga"
    refine ⟨_, .v, by rw [List.length_map]; omega, fun d hd => ?_, ?_⟩
    · obtain ⟨x, hx, rfl⟩ := List.mem_map.mp hd
      walk_at "ga"
      refine rv_in (.l .v) rfl (flat_strs _) ?_
      rw [inD_strs, decide_eq_true (hin x hx)]
      walk_at "ga"
      exact ⟨rfl, fun _ => rfl, fun z => by cases z⟩
    rw [show (((xs.map D.str).filter fun _ => false).map id) = [] by simp]
    walk_at "ga"
    refine ve_lenS ?_
    walk_at "ga"
    refine ⟨xs, .l .v, hl, ?_⟩
    rw [unl_nodup nd _ (Nat.le_refl _)]
    walk_at "ga"
    rw [List.length_map, decide_eq_true rfl]
    exact q
theorem ok__law_is_nest {f : Addr} {fd : FuncData} {C_Sides C_Parcel C_Heap C_NoNumber C_NoSide : Addr} {f__law_unlike : Addr} {g__law_unlike : FuncData}
    (F : Fd K "_law_is_nest" "_law_is_nest" s__law_is_nest [] f fd) (T : Tx K mg) (hsys : SysOk base)
    (c__law_unlike : Cf P w K mg base (L2.CX P w) 1 "_law_unlike" s__law_unlike [] a__law_unlike p__law_unlike f__law_unlike g__law_unlike) :
    FnG P w K mg base (L2.CX P w) 2 f fd a__law_is_nest (spOf K p__law_is_nest) := by
  refine fn_val F sc__law_is_nest (fun ds S G Y h => ?_) (fun cdv A hgd outer s H E hr px tk po ds S G Y h => ?_)
  · obtain ⟨ns, E, xs, rfl, _⟩ := h
    rfl
  · obtain ⟨ns, E, xs, rfl, hn, ne, nd, hin, pt, hl, q⟩ := h
    refine ⟨_, (pss_cons (ps_if (PW.pt (pw_or (pt_not (pt_val (pe_cG c__law_unlike.fn hgd (hr.mono (by decide)) (by rfl) c__law_unlike.mg c__law_unlike.kp c__law_unlike.b .nil VS.pass0 (pa_cons (pv 1) (pa_cons (pe_callTy (c_listDk rfl) (by rfl) T.b_list (by decide +kernel) (pa_cons (pv 0) pa_nil)) pa_nil))))) (pw_or1 (pt_cmpR (op_eqE hr) (pv 1) (pe_lst pa_nil) (nomark _))))) (pss_one (ps_ret pe_bl))
      pss_nil)
      (pss_one (ps_ret (pe_cmpR (op_eqE hr) (pe_lc (own := [("_law_k", 2)]) rfl sc__law_is_nest.nd (pi_range1 (by rfl) T.b_range (pa_cons (pe_op op_sub (pe_callB c_len (by rfl) T.b_len (by decide +kernel) (pa_cons (pv 1) pa_nil)) pe_int) pa_nil)) (blkOk_by (own := [("_law_k", 2)]) (N := n__law_is_nest) (sc := defScope s__law_is_nest) (by decide +kernel)) (fun _ _ _ _ _ => (pg_name (i := 2) sc__law_is_nest.nd rfl (Or.inl rfl))) (fun _ _ _ _ _ => (pts_one (pt_cmpR (kO (K := K) (r := (fun K => rIn K true)) op_notIn_seq) (pe_ix (kI (K := K) (r := rIxL) ix_list) (pv 1) (pe_op op_add (pv 2) pe_int) (fun _ _ => rfl)) (pe_dget (hu_of hr) (pv 0) (pe_ix (kI (K := K) (r := rIxL) ix_list) (pv 1) (pv 2) (fun _ _ => rfl)) (fun _ _ => rfl)) (by rfl)))) (fun _ _ _ _ _ => (pv 2))) (pe_lst pa_nil) (nomark _))))), ?_⟩
    (try dsimp only [cxOf, List.map])
    show VX _ _ [_, _, _] _ _
    walk_at "ga"
    refine rc_listDk (ns := ns) .v (by unfold ouDs; rw [List.map_map]; rfl) ?_
    walk_at "ga"
    refine ⟨xs, ns, rfl, nd, hin, hl, ?_⟩
    walk_at "ga"
    refine ⟨fun e => ?_, fun _ => ?_⟩
    · cases xs with
      | nil => exact absurd rfl ne
      | cons _ _ => cases e
    walk_at "ga"
    refine ve_lcF (fun _ => false) id (vi_rng1 ?_)
    walk_at "ga"
    have lm : (xs.map D.str).length = xs.length := List.length_map ..
    refine ⟨_, rfl, by rw [lm]; omega, by rw [rngD_len, lm]; omega, fun d hd => ?_, ?_⟩
    · obtain ⟨i, hi⟩ := List.getElem?_of_mem hd
      obtain ⟨rfl, hlt⟩ := rngD_at hi
      rw [lm] at hlt
      obtain ⟨n, hn1⟩ : ∃ n, xs[i]? = some n := ⟨_, List.getElem?_eq_getElem (by omega)⟩
      obtain ⟨m, hm1⟩ : ∃ m, xs[i + 1]? = some m := ⟨_, List.getElem?_eq_getElem (by omega)⟩
      walk_at "ga"
      refine rv_ixL .v (d := .str m) (atI_nat (j := i + 1) (by rw [List.getElem?_map, hm1]; rfl)) ?_
      walk_at "ga"
      refine ve_dget ?_
      walk_at "ga"
      refine rv_ixL .v (d := .str n) (atI_nat (j := i) (by rw [List.getElem?_map, hn1]; rfl)) ?_
      refine ⟨_, .inr n, _, .v, rfl, valD_ou (hin n (List.mem_of_getElem? hn1)), ?_⟩
      refine rv_in (.l .v) rfl (flat_strs _) ?_
      rw [inD_strs, decide_eq_true (pth_at pt hn1 hm1)]
      walk_at "ga"
      exact ⟨rfl, fun _ => rfl, fun z => by cases z⟩
    rw [show (((rngD 0 (Int.toNat (↑(xs.map D.str).length - 1))).filter fun _ => false).map id) = [] by simp]
    walk_at "ga"
    exact q
end
end LW
namespace LW
open PySem L2 C8 PySem.Spec PyProof.Rows VS
/-! ### the law's look at nests and a lot -/
structure NsOk (ns : List Str) (E : Str → List Str) (NS : List (List Str)) : Prop where
  nd : ns.Nodup
  l : ns.length ≤ 12
  nl : NS.length ≤ 12
  n : ∀ xs ∈ NS, xs ≠ [] ∧ xs.Nodup ∧ (∀ x ∈ xs, x ∈ ns) ∧ Pth E xs ∧ xs.length ≤ 12
  pm : (NS.flatMap id).Perm ns
  a : ∀ z ∈ ns, Asc 19 z
def p__law_nests_of : Pt := fun ds S G _ => ∃ (ns : List Str) (E : Str → List Str) (NS : List (List Str)), ds = [.dK (ouDs ns E), .lst (NS.map nmD)] ∧ NsOk ns E NS ∧ ∀ S', Ext S S' → G (.bl true) S'
theorem ok_F {sp : Int} {ps : List Pc} (h : Hps ps) (s0 : 0 ≤ sp) : NsOk (ps.map Pc.nm) (Eof sp ps) ((outF sp ps).map (nst (kvF sp ps))) := by
  have n12 := h.nmlen
  have t := tld h s0
  have mi := mi_F (sp := sp) h
  have inc : ∀ n ∈ ps.map Pc.nm, ∀ o ∈ Eof sp ps n, rnkN sp ps n < rnkN sp ps o := fun n hn o ho => ((t.e n hn).2 o ho).2
  have tp : Tp (Eof sp ps) (risN ps) := ris_tp (fun p hp => (h.g p hp).wl.1) h.n s0
  have lo : (outF sp ps).length ≤ (ps.map Pc.nm).length := List.length_filter_le _ _
  refine ⟨h.n, n12, by rw [List.length_map]; omega, fun xs hxs => ?_, ?_, fun z hz => h.asc hz⟩
  · obtain ⟨x, hx, rfl⟩ := List.mem_map.mp hxs
    have s := nst_spec mi inc n12 (List.mem_filter.mp hx).1
    have := nd_len s.nd s.i
    exact ⟨s.ne, s.nd, s.i, s.p, by omega⟩
  · have := nests_perm h.n mi inc n12 tp fun x => (ris_perm ps).mem_iff
    rw [List.flatMap_map]
    exact this
def p_shown30 : Pt := fun ds S G _ => ∃ (rs : List Pc) (sp : Int) (d : Addr) (as : List Addr), ds = [.ref d, .lst (((outF sp rs).map (nst (kvF sp rs))).map nmD), nmD (lotF sp rs)] ∧ Hrs rs ∧ 0 ≤ sp ∧ as.length = rs.length ∧ S d = some (.dK (inD2 rs as)) ∧ (∀ (i : Nat) (a : Addr) (p : Pc), as[i]? = some a → rs[i]? = some p → S a = some (.lst ((goN sp rs p).map D.str))) ∧ ∀ S', G (.bl true) S'
section
variable {P : Program} {w : World} {K : PySem.W.Frag} {mg : Str → Option Value} {base : Heap}
theorem ok__law_nests_of {f : Addr} {fd : FuncData} {C_Sides C_Parcel C_Heap C_NoNumber C_NoSide : Addr} {f__law_is_nest : Addr} {g__law_is_nest : FuncData}
    (F : Fd K "_law_nests_of" "_law_nests_of" s__law_nests_of [] f fd) (T : Tx K mg) (hsys : SysOk base)
    (c__law_is_nest : Cf P w K mg base (L2.CX P w) 2 "_law_is_nest" s__law_is_nest [] a__law_is_nest p__law_is_nest f__law_is_nest g__law_is_nest) :
    FnG P w K mg base (L2.CX P w) 3 f fd a__law_nests_of (spOf K p__law_nests_of) := by
  refine fn_val F sc__law_nests_of (fun ds S G Y h => ?_) (fun cdv A hgd outer s H E hr px tk po ds S G Y h => ?_)
  · obtain ⟨ns, E, NS, rfl, _⟩ := h
    rfl
  · obtain ⟨ns, E, NS, rfl, ok, q⟩ := h
    refine ⟨_, (pss_cons (ps_if (pt_not (pt_val (pe_callB c_isiZ (by rfl) T.b_isinstance (by decide +kernel) (pa_cons (pv 1) (pa_cons (pe_bltn (v := .ty "list") (by rfl) T.b_list (by decide +kernel) rfl) pa_nil))))) (pss_one (ps_ret pe_bl))
      pss_nil)
      (pss_cons (ps_if (pt_cmpR (op_neE hr) (pe_lc (own := [("_law_nest", 3)]) rfl sc__law_nests_of.nd (pi_list (pv 1)) (blkOk_by (own := [("_law_nest", 3)]) (N := n__law_nests_of) (sc := defScope s__law_nests_of) (by decide +kernel)) (fun _ _ _ _ _ => (pg_name (i := 3) sc__law_nests_of.nd rfl (Or.inl rfl))) (fun _ _ _ _ _ => (pts_one (pt_not (pt_val (pe_cG c__law_is_nest.fn hgd (hr.mono (by decide)) (by rfl) c__law_is_nest.mg c__law_is_nest.kp c__law_is_nest.b .nil VS.pass0 (pa_cons (pv 0) (pa_cons (pv 3) pa_nil))))))) (fun _ _ _ _ _ => (pv 3))) (pe_lst pa_nil) (nomark _)) (pss_one (ps_ret pe_bl))
      pss_nil)
      (pss_cons (ps_set (i := 2) sc__law_nests_of.nd rfl (Or.inl rfl) (pe_lst pa_nil))
      (pss_cons (ps_for po rfl (pi_list (pv 1)) (pg_name (i := 3) sc__law_nests_of.nd rfl (Or.inl rfl))
      (pss_one (ps_expr (pe_bm PySem.F.plainAttrs_list PySem.F.slot_list_extend PySem.F.type_list_extend mt_extend (pv 2) (pa_cons (pv 3) pa_nil)))))
      (pss_one (ps_ret (pe_cmpR (op_eqP hr hsys) (pe_callB c_sortedS (by rfl) T.b_sorted (by decide +kernel) (pa_cons (pv 2) pa_nil)) (pe_callB c_sortedS (by rfl) T.b_sorted (by decide +kernel) (pa_cons (pe_callTy (c_listDk rfl) (by rfl) T.b_list (by decide +kernel) (pa_cons (pv 0) pa_nil)) pa_nil)) (nomark _)))))))), ?_⟩
    (try dsimp only [cxOf, List.map])
    show VX _ _ [_, _, _, _] _ _
    have n12 := ok.l
    have nl := ok.nl
    walk_at "gr"
    refine ve_lcF (fun _ => false) id (vi_list ?_)
    walk_at "gr"
    refine ⟨_, .v, by rw [List.length_map]; omega, fun d hd => ?_, ?_⟩
    · obtain ⟨xs, hx, rfl⟩ := List.mem_map.mp hd
      obtain ⟨h1, h2, h3, h4, h5⟩ := ok.n xs hx
      walk_at "gr"
      refine ⟨ns, E, xs, rfl, by omega, h1, h2, h3, h4, by omega, ?_⟩
      walk_at "gr"
      exact ⟨rfl, fun _ => rfl, fun z => by cases z⟩
    rw [show (((NS.map nmD).filter fun _ => false).map id) = [] by simp]
    walk_at "gr"
    refine ve_lst ?_
    walk_at "gr"
    refine ve_lstc ?_
    walk_at "gr"
    intro ev hev
    have cev : (VS.put S ev (.lst [])) ev = some (.lst (([] : List Str).map D.str)) := put_same
    have x1 := Ext.put (S := S) (d := .lst []) hev
    generalize VS.put S ev (.lst []) = S1 at cev x1 ⊢
    walk_at "gr"
    refine vx_for (vi_list ?_)
    walk_at "gr"
    refine ⟨_, .v, fun i ρ2 S2 => S2 ev = some (.lst (((NS.take i).flatMap id).map D.str)) ∧ Ext S S2 ∧ ∃ x3, ρ2 = [some (.dK (ouDs ns E)), some (.lst (NS.map nmD)), some (.ref ev), x3], ⟨cev, x1, _, rfl⟩, ?_, ?_⟩
    · rintro i dd _ S2 e ⟨c2, x2, x3, rfl⟩
      rw [List.getElem?_map] at e
      cases hn : NS[i]? with
      | none => rw [hn] at e; cases e
      | some xs =>
        rw [hn] at e
        cases e
        have tk : NS.take (i + 1) = NS.take i ++ [xs] := by rw [List.take_succ, hn]; rfl
        have xl := (ok.n xs (List.mem_of_getElem? hn)).2.2.2.2
        have fl : ((NS.take i).flatMap id).length ≤ 144 := by
          have h1 : ∀ l : List (List Str), (∀ xs ∈ l, xs.length ≤ 12) → (l.flatMap id).length ≤ l.length * 12 := by
            intro l
            induction l with
            | nil => intro _; exact Nat.le_refl _
            | cons a l ih =>
              intro h
              rw [List.flatMap_cons, List.length_append, List.length_cons]
              have h2 := ih fun x hx => h x (List.mem_cons_of_mem _ hx)
              have h3 : (id a).length ≤ 12 := h a List.mem_cons_self
              omega
          have := h1 (NS.take i) fun x hx => (ok.n x (List.mem_of_mem_take hx)).2.2.2.2
          rw [List.length_take] at this
          omega
        unfold nmD
        walk_at "gr"
        refine rm_extend c2 .v (by rw [List.length_map, List.length_map]; have := szl; omega) ?_
        refine ⟨?_, x2.wr hev, _, rfl⟩
        rw [put_same, tk, List.flatMap_append, List.map_append]
        simp
    · rintro _ S2 ⟨c2, x2, x3, rfl⟩
      rw [List.length_map, List.take_length] at c2
      walk_at "gr"
      refine rc_sortedS (.c c2) fun ss hp hs => ?_
      walk_at "gr"
      refine rc_listDk (ns := ns) .v (by unfold ouDs; rw [List.map_map]; rfl) ?_
      walk_at "gr"
      refine rc_sortedS .v fun ts hq ht => ?_
      have e1 := sort_texts id ns (ss := ss) (by rw [List.map_id]; exact hp.trans ok.pm) hs
      have e2 := sort_texts id ns (ss := ts) (by rw [List.map_id]; exact hq) ht
      have e : ss = ts := e1.trans e2.symm
      subst e
      refine rv_eqStrs .v .v (fun z hz => ok.a z (hq.mem_iff.mp hz)) (fun z hz => ok.a z (hq.mem_iff.mp hz)) (by rw [hq.length_eq]; omega) (by rw [hq.length_eq]; omega) ?_
      rw [decide_eq_true rfl]
      exact q _ x2
theorem ok__law_shown {f : Addr} {fd : FuncData} {C_Sides C_Parcel C_Heap C_NoNumber C_NoSide : Addr} {f__law_nests_of f__law_unlike : Addr} {g__law_nests_of g__law_unlike : FuncData}
    (F : Fd K "_law_shown" "_law_shown" s__law_shown [] f fd) (T : Tx K mg) (hsys : SysOk base)
    (c__law_nests_of : Cf P w K mg base (L2.CX P w) 3 "_law_nests_of" s__law_nests_of [] a__law_nests_of p__law_nests_of f__law_nests_of g__law_nests_of)
    (c__law_unlike : Cf P w K mg base (L2.CX P w) 1 "_law_unlike" s__law_unlike [] a__law_unlike p__law_unlike f__law_unlike g__law_unlike) :
    FnG P w K mg base (L2.CX P w) 4 f fd a__law_shown (spOf K p_shown30) := by
  refine fn_val F sc__law_shown (fun ds S G Y h => ?_) (fun cdv A hgd outer s H E hr px tk po ds S G Y h => ?_)
  · obtain ⟨rs, sp, d, as, rfl, _⟩ := h
    rfl
  · obtain ⟨rs, sp, d, as, rfl, hrs, s0, la, c1, h1, q⟩ := h
    refine ⟨_, (pss_cons (ps_if (PW.pt (pw_or (pt_not (pt_val (pe_cG c__law_nests_of.fn hgd (hr.mono (by decide)) (by rfl) c__law_nests_of.mg c__law_nests_of.kp c__law_nests_of.b .nil VS.pass0 (pa_cons (pv 0) (pa_cons (pv 1) pa_nil))))) (pw_or1 (pt_not (pt_val (pe_cG c__law_unlike.fn hgd (hr.mono (by decide)) (by rfl) c__law_unlike.mg c__law_unlike.kp c__law_unlike.b .nil VS.pass0 (pa_cons (pv 2) (pa_cons (pe_callTy (c_listDk rfl) (by rfl) T.b_list (by decide +kernel) (pa_cons (pv 0) pa_nil)) pa_nil)))))))) (pss_one (ps_ret pe_bl))
      pss_nil)
      (pss_cons (ps_if (pt_cmpR (op_neE hr) (pe_lc (own := [("_law_name", 3)]) rfl sc__law_shown.nd (pi_list (pv 2)) (blkOk_by (own := [("_law_name", 3)]) (N := n__law_shown) (sc := defScope s__law_shown) (by decide +kernel)) (fun _ _ _ _ _ => (pg_name (i := 3) sc__law_shown.nd rfl (Or.inr rfl))) (fun _ _ _ _ _ => (pts_one (pt_cmpR (kO (K := K) (r := rNeE) (op_neE hr)) (pe_lc (own := [("_law_other", 4)]) rfl sc__law_shown.nd (VS.pi_listK (K := K) (pv 2)) (VS.blkOk_c (own := [("_law_other", 4)]) (N := n__law_shown) (by decide +kernel)) (fun _ _ _ _ _ => (pg_name (i := 4) sc__law_shown.nd rfl (Or.inl rfl))) (fun _ _ _ _ _ => (pts_one (pt_cmpR (kO (K := K) (r := (fun K => rIn K false)) op_in_seq) (pv 4) (pe_dget (hu_of hr) (pv 0) (pv 3) (fun _ _ => rfl)) (by rfl)))) (fun _ _ _ _ _ => (pv 4))) (pe_lst pa_nil) (nomark _)))) (fun _ _ _ _ _ => (pv 3))) (pe_lst pa_nil) (nomark _)) (pss_one (ps_ret pe_bl))
      pss_nil)
      (pss_one (ps_ret (pe_cmpR op_eq (pe_callB c_len (by rfl) T.b_len (by decide +kernel) (pa_cons (pv 2) pa_nil)) (pe_callB c_len (by rfl) T.b_len (by decide +kernel) (pa_cons (pv 1) pa_nil)) (nomark _)))))), ?_⟩
    (try dsimp only [cxOf, List.map])
    show VX _ _ [_, _, _, _, _] _ _
    have ok := ok_F (sp := sp) hrs.hps s0
    have cv := cov_F (sp := sp) hrs.hps s0
    have n12 := hrs.hps.nmlen
    have anti := lot_anti cv
    have llen : (lotF sp rs).length = (outF sp rs).length := lot_len hrs.n cv
    have lin : ∀ x ∈ lotF sp rs, x ∈ rs.map Pc.nm := fun x hx => (List.mem_filter.mp hx).1
    have lnd : (lotF sp rs).Nodup := hrs.n.sublist List.filter_sublist
    have ll := nd_len lnd lin
    refine vx_see (fun a => a = d ∨ a ∈ as) (fun a ha => ?_) (VdR.refl.set 0 rfl (d' := .dK (rs.map fun p => ((.inr p.nm : Key), nmD (goN sp rs p)))) (.c (d := .dK (inD2 rs as)) ?_ nofun (.dK (vdK_in la fun i a p e1 e2 => ?_)))) ?_
    · rcases ha with rfl | ha
      · exact ⟨_, c1, nofun⟩
      · obtain ⟨i, hi⟩ := List.getElem?_of_mem ha
        obtain ⟨p, hp⟩ : ∃ p, rs[i]? = some p := ⟨_, List.getElem?_eq_getElem (by have := (List.getElem?_eq_some_iff.mp hi).1; omega)⟩
        exact ⟨_, h1 i a p hi hp, nofun⟩
    · rw [onlyA_in (.inl rfl)]
      exact c1
    · rw [onlyA_in (.inr (List.mem_of_getElem? e1))]
      exact h1 i a p e1 e2
    rw [ou_of hrs.n]
    show VX _ _ [some (.dK (ouDs (rs.map Pc.nm) (Eof sp rs))), some (.lst (((outF sp rs).map (nst (kvF sp rs))).map nmD)), some (nmD (lotF sp rs)), none, none] _ _
    generalize cutA (fun a => a = d ∨ a ∈ as) S = S2
    clear c1 h1 la as d
    walk_at "gr"
    refine ⟨_, _, _, rfl, ok, fun S3 _ => ?_⟩
    walk_at "gr"
    refine rc_listDk (ns := rs.map Pc.nm) .v (by unfold ouDs; rw [List.map_map]; rfl) ?_
    walk_at "gr"
    refine ⟨_, _, rfl, lnd, lin, by omega, ?_⟩
    unfold nmD
    walk_at "gr"
    refine ve_lcF (fun _ => false) id (vi_list ?_)
    walk_at "gr"
    refine ⟨_, .v, by rw [List.length_map]; omega, fun d hd => ?_, ?_⟩
    · obtain ⟨x, hx, rfl⟩ := List.mem_map.mp hd
      walk_at "gr"
      refine ve_lcF (fun _ => false) id (vi_list ?_)
      walk_at "gr"
      refine ⟨_, .v, by rw [List.length_map]; omega, fun d hd => ?_, ?_⟩
      · obtain ⟨y, hy, rfl⟩ := List.mem_map.mp hd
        walk_at "gr"
        refine ve_dget ?_
        walk_at "gr"
        refine ⟨_, .inr x, _, .v, rfl, valD_ou (lin x hx), ?_⟩
        refine rv_in (.l .v) rfl (flat_strs _) ?_
        rw [inD_strs, decide_eq_false (fun z => anti x hx y z hy)]
        walk_at "gr"
        exact ⟨rfl, fun _ => rfl, fun z => by cases z⟩
      rw [show ((((lotF sp rs).map D.str).filter fun _ => false).map id) = [] by simp]
      walk_at "gr"
      refine ve_lst ?_
      walk_at "gr"
      exact ⟨rfl, fun _ => rfl, fun z => by cases z⟩
    rw [show ((((lotF sp rs).map D.str).filter fun _ => false).map id) = [] by simp]
    walk_at "gr"
    refine ve_lst ?_
    walk_at "gr"
    rw [List.length_map, List.length_map, List.length_map, llen, decide_eq_true rfl]
    exact q _
end
end LW
namespace LW
open PySem L2 C8 PySem.Spec PyProof.Rows VS
/-! ### deeds in the heap, the rows alike -/
theorem Nm.of {z : Str} (h : nmB z = true) : Nm z := by
  unfold nmB lcs at h
  simp only [Bool.and_eq_true, decide_eq_true_eq, List.all_eq_true] at h
  exact ⟨⟨by omega, h.2⟩, by omega⟩
def hpD (CH l : Addr) : D := .ins CH [("held", .ref l)]
theorem Wd.hp {S : Sto} {p h l CH CP CS : Addr} {n : Int} {L : List (Addr × D)} {ps : List Pc} (w : Wd S p n L) (j k : Nat) (hj : L[j]? = some (h, hpD CH l)) (hk : L[k]? = some (l, .lst (ps.map (Pc.d CP CS)))) : HpS S CH CP CS h l ps := ⟨w.get j hj, w.get k hk⟩
def L3 (CH CP CS l h k : Addr) (rs : List Pc) (M : List (Addr × D)) : List (Addr × D) := (l, .lst (rs.map rwD)) :: (h, hpD CH k) :: (k, .lst (rs.map (Pc.d CP CS))) :: M
theorem erase_out {ps : List Pc} (hn : (ps.map Pc.nm).Nodup) {i : Nat} {p : Pc} (hi : ps[i]? = some p) : p.nm ∉ (ps.eraseIdx i).map Pc.nm := fun z => by
  obtain ⟨q, hq, e⟩ := List.mem_map.mp z
  obtain ⟨j, ne, hj⟩ := List.mem_eraseIdx_iff_getElem?.mp hq
  have e1 : (ps.map Pc.nm)[j]? = some p.nm := by rw [List.getElem?_map, hj]; exact congrArg some e
  have e2 : (ps.map Pc.nm)[i]? = some p.nm := by rw [List.getElem?_map, hi]; rfl
  exact ne ((List.getElem?_inj (by rw [List.length_map]; exact (List.getElem?_eq_some_iff.mp hj).1) hn).mp (e1.trans e2.symm))
theorem Hrs.erase {rs : List Pc} (h : Hrs rs) (i : Nat) : Hrs (rs.eraseIdx i) := ⟨fun r hr => h.g r (List.mem_of_mem_eraseIdx hr), h.n.sublist ((List.eraseIdx_sublist ..).map _), Nat.le_trans (List.length_eraseIdx_le ..) h.l⟩
theorem set_names {rs : List Pc} {j : Nat} {r r' : Pc} (hj : rs[j]? = some r) (e : r'.nm = r.nm) : (rs.set j r').map Pc.nm = rs.map Pc.nm := by
  refine List.ext_getElem? fun k => ?_
  rw [List.getElem?_map, List.getElem?_map]
  by_cases z : k = j
  · subst z
    rw [List.getElem?_set_self (List.getElem?_eq_some_iff.mp hj).1, hj]
    exact congrArg some e
  · rw [List.getElem?_set_ne (Ne.symm z)]
theorem Hrs.set {rs : List Pc} (h : Hrs rs) {i : Nat} {p q : Pc} (hi : rs[i]? = some p) (g : Rwg q) (e : q.nm = p.nm) : Hrs (rs.set i q) := by
  refine ⟨fun x hx => ?_, by rw [set_names hi e]; exact h.n, by rw [List.length_set]; exact h.l⟩
  rcases List.mem_or_eq_of_mem_set hx with hx | hx
  · exact h.g x hx
  · rw [hx]; exact g
theorem erase_set {α : Type} {xs : List α} {i : Nat} (h : i < xs.length) (x : α) : (xs.eraseIdx i).take i ++ [x] ++ (xs.eraseIdx i).drop i = xs.set i x := by
  rw [List.eraseIdx_eq_take_drop_succ, List.set_eq_take_append_cons_drop, if_pos h]
  rw [List.take_append_of_le_length (by rw [List.length_take]; omega), List.take_take, Nat.min_self, List.drop_append_of_le_length (by rw [List.length_take]; omega)]
  rw [List.drop_take, Nat.sub_self, List.take_zero, List.nil_append, List.append_assoc]
  rfl
theorem cut_drop (xs : List D) {t : Nat} (h : t ≤ xs.length) : VS.cutD xs (some (t : Int)) none = xs.drop t := by
  show (xs.drop (HT.sIx xs.length 0 (some (t : Int)))).take (xs.length - HT.sIx xs.length 0 (some (t : Int))) = _
  rw [HT.sIx_nat, Nat.min_eq_left h]
  exact List.take_of_length_le (by rw [List.length_drop]; exact Nat.le_refl _)
/-- names ahead, then None -/
theorem nm_non {rs : List Pc} {t : Nat} (h : t ≤ rs.length) : ∃ a, ((rs.map Pc.nm).map D.str ++ [D.non])[t]? = some a ∧ ((a = .non ∧ t = rs.length) ∨ ∃ q, a = .str q.nm ∧ rs[t]? = some q) := by
  by_cases e : t < rs.length
  · refine ⟨.str (rs[t]).nm, ?_, .inr ⟨rs[t], rfl, List.getElem?_eq_getElem e⟩⟩
    rw [List.getElem?_append_left (by rw [List.length_map, List.length_map]; exact e), List.getElem?_map, List.getElem?_map, List.getElem?_eq_getElem e]
    rfl
  · refine ⟨.non, ?_, .inl ⟨rfl, by omega⟩⟩
    rw [List.getElem?_append_right (by rw [List.length_map, List.length_map]; omega), List.length_map, List.length_map, show t - rs.length = 0 by omega]
    rfl
def p_exch (CH CP CS : Addr) : Pt := fun ds S G _ => ∃ (p l h k : Addr) (n sp : Int) (rs : List Pc) (M : List (Addr × D)), ds = [.ref p, .ref l, .ref h, .int sp] ∧ Wd S p n (L3 CH CP CS l h k rs M) ∧ n < 500000 ∧ 0 ≤ sp ∧ sp ≤ 1000 ∧ Hrs rs ∧ rs ≠ [] ∧ ∀ rs' S', Hrs rs' → rs' ≠ [] → rs'.map Pc.nm = rs.map Pc.nm → Wd S' p (n + 60) (L3 CH CP CS l h k rs' M) → G .non S'
def fstD : D → D
  | .lst (x :: _) => x
  | _ => .non
theorem fst_rows (rs : List Pc) : (rs.map rwD).map fstD = (rs.map Pc.nm).map D.str := by
  rw [List.map_map, List.map_map]; rfl
theorem nodup_le : ∀ {xs ys : List Str}, xs.Nodup → (∀ x ∈ xs, x ∈ ys) → xs.length ≤ ys.length
  | [], _, _, _ => Nat.zero_le _
  | x :: xs, ys, hn, hs => by
    rw [List.nodup_cons] at hn
    have hx := hs x (List.mem_cons_self ..)
    have ih := nodup_le (xs := xs) (ys := ys.erase x) hn.2 fun z hz => (List.mem_erase_of_ne (fun e => hn.1 (by subst e; exact hz))).mpr (hs z (List.mem_cons_of_mem _ hz))
    rw [List.length_erase_of_mem hx] at ih
    have := List.length_pos_of_mem hx
    rw [List.length_cons]
    omega
/-- names not in some -/
def notI (ks : List Str) : D → Bool
  | .str x => !decide (x ∈ ks)
  | _ => false
theorem notI_strs (ks : List Str) : ∀ cs : List Str, ((cs.map D.str).filter (notI ks)).map id = (cs.filter fun x => !decide (x ∈ ks)).map D.str
  | [] => rfl
  | c :: cs => by
    have ih := notI_strs ks cs
    rw [List.map_id] at ih
    rw [List.map_id, List.map_cons, List.filter_cons, List.filter_cons, show notI ks (.str c) = !decide (c ∈ ks) from rfl, ih]
    by_cases h : c ∈ ks
    · rw [decide_eq_true h]; rfl
    · rw [decide_eq_false h]; rfl
def p_deedN (CH CP CS : Addr) : Pt := fun ds S G _ => ∃ (p l h k : Addr) (n sp : Int) (rs : List Pc) (cs : List Str) (M : List (Addr × D)), ds = [.ref p, .ref l, .ref h, .lst (cs.map D.str), .int sp] ∧ Wd S p n (L3 CH CP CS l h k rs M) ∧ n < 400000 ∧ 0 ≤ sp ∧ sp ≤ 1000 ∧ Hrs rs ∧ cs ≠ [] ∧ cs.length ≤ 12 ∧ (∀ z ∈ cs, Nm z) ∧ (∀ z ∈ rs.map Pc.nm, z ∈ cs) ∧
  ∀ rs' S', Hrs rs' → (∀ z ∈ rs'.map Pc.nm, z ∈ cs) → Wd S' p (n + 100) (L3 CH CP CS l h k rs' M) → G .non S'
section
variable {P : Program} {w : World} {K : PySem.W.Frag} {mg : Str → Option Value} {base : Heap}
theorem ok__law_exchanged {f : Addr} {fd : FuncData} {C_Sides C_Parcel C_Heap C_NoNumber C_NoSide : Addr} {f__law_take f__law_row f_Heap_out f_Heap_put f__law_made : Addr} {g__law_take g__law_row g_Heap_out g_Heap_put g__law_made : FuncData}
    (F : Fd K "_law_exchanged" "_law_exchanged" s__law_exchanged [] f fd) (T : Tx K mg) (hsys : SysOk base)
    (c__law_take : Cf P w K mg base (L2.CX P w) 1 "_law_take" s__law_take [] a__law_take p__law_take f__law_take g__law_take)
    (c__law_row : Cf P w K mg base (L2.CX P w) 3 "_law_row" s__law_row [] a__law_row p__law_row f__law_row g__law_row)
    (c_Heap_out : Mf P w K mg base 3 C_Heap "out" "Heap.out" s_Heap_out [] a_Heap_out (p_Hp_out C_Heap C_Parcel C_Sides) f_Heap_out g_Heap_out)
    (c_Heap_put : Mf P w K mg base 3 C_Heap "put" "Heap.put" s_Heap_put [.non] a_Heap_put (p_Hp_putA C_Heap C_Parcel C_Sides) f_Heap_put g_Heap_put)
    (c__law_made : Cf P w K mg base (L2.CX P w) 5 "_law_made" s__law_made [] a__law_made (p_made C_Parcel C_Sides) f__law_made g__law_made)
    (k_Heap : Kl_Heap K mg C_Heap)
    (k_Parcel : Kl_Parcel K mg C_Parcel)
    (k_Sides : Kl_Sides K mg C_Sides) :
    FnG P w K mg base (L2.CX P w) 7 f fd a__law_exchanged (spOf K (p_exch C_Heap C_Parcel C_Sides)) := by
  have kc_Heap := k_Heap.ins.cl
  have ka_Heap_held := k_Heap.a_held
  have ka_Heap_told := k_Heap.a_told
  have ka_Heap_kind := k_Heap.a_kind
  have kc_Parcel := k_Parcel.ins.cl
  have ka_Parcel_called := k_Parcel.a_called
  have ka_Parcel_outside := k_Parcel.a_outside
  have ka_Parcel_thick := k_Parcel.a_thick
  have ka_Parcel_heavy := k_Parcel.a_heavy
  have ka_Parcel_strong := k_Parcel.a_strong
  have ka_Parcel_marks := k_Parcel.a_marks
  have ka_Parcel_told := k_Parcel.a_told
  have ka_Parcel_names := k_Parcel.a_names
  have kc_Sides := k_Sides.ins.cl
  have ka_Sides_three := k_Sides.a_three
  refine fn_val F sc__law_exchanged (fun ds S G Y h => ?_) (fun cdv A hgd outer s H E hr px tk po ds S G Y h => ?_)
  · obtain ⟨p, l, h, k, n, sp, rs, M, rfl, _⟩ := h
    rfl
  · obtain ⟨p, l, h, k, n, sp, rs, M, rfl, w, hn, s0, s1, hrs, ne, q⟩ := h
    refine ⟨_, (pss_cons (ps_set (i := 4) sc__law_exchanged.nd rfl (Or.inl rfl) (pe_cG c__law_take.fn hgd (hr.mono (by decide)) (by rfl) c__law_take.mg c__law_take.kp c__law_take.b .nil VS.pass0 (pa_cons (pv 0) (pa_cons (pe_callB c_len (by rfl) T.b_len (by decide +kernel) (pa_cons (pv 1) pa_nil)) pa_nil))))
      (pss_cons (ps_set (i := 5) sc__law_exchanged.nd rfl (Or.inl rfl) (pe_cG c__law_row.fn hgd (hr.mono (by decide)) (by rfl) c__law_row.mg c__law_row.kp c__law_row.b .nil VS.pass0 (pa_cons (pv 0) (pa_cons (pe_ix ix_list (pe_ix ix_list (pv 1) (pv 4) (fun _ _ => rfl)) pe_int (fun _ _ => rfl)) (pa_cons (pv 1) (pa_cons (pv 3) (pa_cons pe_bl pa_nil)))))))
      (pss_cons (ps_expr (pe_mG (pv 2) c_Heap_out.cl c_Heap_out.me c_Heap_out.fn hgd (hr.mono (by decide)) c_Heap_out.b .nil VS.pass0 (pa_cons (pe_ix ix_list (pv 5) pe_int (fun _ _ => rfl)) pa_nil)))
      (pss_cons (ps_asg (pv 5) (pg_sub (pv 1) (pv 4) set_list))
      (pss_one (ps_expr (pe_mG (pv 2) c_Heap_put.cl c_Heap_put.me c_Heap_put.fn hgd (hr.mono (by decide)) c_Heap_put.b .nil VS.pass0 (pa_cons (pe_cG c__law_made.fn hgd (hr.mono (by decide)) (by rfl) c__law_made.mg c__law_made.kp c__law_made.b .nil VS.pass0 (pa_cons (pv 5) pa_nil)) (pa_cons (pe_ix ix_list (pe_op op_cat (pe_lc (own := [("_law_other", 6)]) rfl sc__law_exchanged.nd (pi_list (pe_slice sl_list (pv 1) (po_some (pe_op op_add (pv 4) pe_int)) po_none)) (blkOk_by (own := [("_law_other", 6)]) (N := n__law_exchanged) (sc := defScope s__law_exchanged) (by decide +kernel)) (fun _ _ _ _ _ => (pg_name (i := 6) sc__law_exchanged.nd rfl (Or.inl rfl))) (fun _ _ _ _ _ => pts_nil) (fun _ _ _ _ _ => (pe_ix (kI (K := K) (r := rIxL) ix_list) (pv 6) pe_int (fun _ _ => rfl)))) (pe_lst (pa_cons pe_non pa_nil))) pe_int (fun _ _ => rfl)) pa_nil))))))))), ?_⟩
    (try dsimp only [cxOf, List.map])
    show VX _ _ [_, _, _, _, _, _, _] _ _
    have r12 := hrs.l
    have rpos : 0 < rs.length := List.length_pos_iff.mpr ne
    unfold L3 at w
    walk_at "gr"
    intro t S1 t0 t1 w1
    clear w
    obtain ⟨t, rfl⟩ := Int.eq_ofNat_of_zero_le t0
    rw [List.length_map] at t1
    have tl : t < rs.length := by omega
    obtain ⟨r, hr⟩ : ∃ r, rs[t]? = some r := ⟨_, List.getElem?_eq_getElem tl⟩
    have gr := hrs.g r (List.mem_of_getElem? hr)
    have er : atI (rs.map rwD) (t : Int) = some (rwD r) := atI_nat (j := t) (by rw [List.getElem?_map, hr]; rfl)
    walk_at "gr"
    refine rv_ixL (.c (w1.get 0 rfl)) er ?_
    walk_at "gr"
    refine ⟨p, l, _, sp, r.nm, false, rs, rfl, w1.pu, by omega, w1.get 0 rfl, w1.nep 0 rfl, hrs.g, by omega, Nm.of gr.1.gn, s0, s1, fun r' S2 en gr' h2 o2 => ?_⟩
    have w2 := w1.ex1 h2 o2
    clear w1 h2 o2 t0 t1
    have hs2 : HpS S2 C_Heap C_Parcel C_Sides h k rs := w2.hp 1 2 rfl rfl
    have c1 := hs2.1
    walk_at "gr"
    refine ⟨h, k, rs, t, r, by rw [en], hs2, r12, Hps.frs hrs.n hr, ?_⟩
    have w3 : Wd (VS.put S2 k (.lst ((rs.eraseIdx t).map (Pc.d C_Parcel C_Sides)))) p (n + 1 + 50) ((l, .lst (rs.map rwD)) :: (h, hpD C_Heap k) :: (k, .lst ((rs.eraseIdx t).map (Pc.d C_Parcel C_Sides))) :: M) := w2.wr 2 rfl
    generalize VS.put S2 k (.lst ((rs.eraseIdx t).map (Pc.d C_Parcel C_Sides))) = S3 at w3 ⊢
    clear w2 hs2 c1
    walk_at "gr"
    refine ⟨(t : Int), t, _, rfl, w3.get 0 rfl, ixN_in (by omega) (by rw [List.length_map]; omega), ?_⟩
    rw [show (rs.map rwD).set t (rwD r') = (rs.set t r').map rwD by rw [List.map_set]]
    have w4 : Wd (VS.put S3 l (.lst ((rs.set t r').map rwD))) p (n + 1 + 50) ((l, .lst ((rs.set t r').map rwD)) :: (h, hpD C_Heap k) :: (k, .lst ((rs.eraseIdx t).map (Pc.d C_Parcel C_Sides))) :: M) := w3.wr 0 rfl
    generalize VS.put S3 l (.lst ((rs.set t r').map rwD)) = S4 at w4 ⊢
    clear w3
    have hs4 : HpS S4 C_Heap C_Parcel C_Sides h k (rs.eraseIdx t) := w4.hp 1 2 rfl rfl
    have c1 := hs4.1
    have hr' := hrs.set hr gr' en
    have le : (rs.eraseIdx t).length = rs.length - 1 := List.length_eraseIdx_of_lt tl
    have nn : r'.nm ∉ (rs.eraseIdx t).map Pc.nm := by rw [en]; exact erase_out hrs.n hr
    have dr : (rs.set t r').drop (t + 1) = (rs.eraseIdx t).drop t := by
      rw [List.eraseIdx_eq_take_drop_succ, List.drop_append_of_le_length (by rw [List.length_take]; omega), List.drop_take, Nat.sub_self, List.take_zero, List.nil_append, List.drop_set_of_lt (by omega)]
    walk_at "gr"
    refine ⟨r', rfl, gr', ?_⟩
    walk_at "gr"
    refine ve_lcM fstD (vi_list ?_)
    walk_at "gr"
    refine rs_list (.c (w4.get 0 rfl)) ?_
    have ls : (rs.set t r').length = rs.length := List.length_set ..
    rw [show ((t : Int) + 1) = ((t + 1 : Nat) : Int) from rfl, cut_drop _ (by rw [List.length_map, ls]; omega), ← List.map_drop, dr]
    refine ⟨_, .v, by rw [List.length_map, List.length_drop]; omega, fun d hd => ?_, ?_⟩
    · obtain ⟨x, _, rfl⟩ := List.mem_map.mp hd
      walk_at "gr"
      refine ⟨rfl, ?_⟩
      walk_at "gr"
      exact ⟨rfl, rfl⟩
    rw [fst_rows]
    refine ve_lst ?_
    walk_at "gr"
    refine rv_cat .v .v (by rw [List.length_map, List.length_map, List.length_drop]; have := szl; show _ + 1 ≤ _; omega) ?_
    walk_at "gr"
    obtain ⟨a, ha, hc⟩ := nm_non (rs := (rs.eraseIdx t).drop t) (t := 0) (Nat.zero_le _)
    refine rv_ixL .v (atI_nat (j := 0) ha) ?_
    walk_at "gr"
    refine ⟨h, k, rs.eraseIdx t, r', t, a, rfl, hs4, by omega, nn, ?_, ?_⟩
    · rcases hc with ⟨e1, e2⟩ | ⟨q0, e1, e2⟩
      · rw [List.length_drop] at e2
        exact .inl ⟨e1, by omega⟩
      · rw [List.getElem?_drop] at e2
        exact .inr ⟨q0, e1, Hps.frs (hrs.erase t).n e2⟩
    rw [erase_set tl]
    refine q (rs.set t r') _ hr' (fun z => by rw [z] at ls; rw [← ls] at rpos; exact absurd rpos (by decide)) (set_names hr en) ?_
    exact (w4.wr (d' := .lst ((rs.set t r').map (Pc.d C_Parcel C_Sides))) 2 rfl).mono (by omega)
theorem ok__law_deed {f : Addr} {fd : FuncData} {C_Sides C_Parcel C_Heap C_NoNumber C_NoSide : Addr} {f__law_take f__law_exchanged f__law_row f_Heap_out f_Heap_put f__law_made : Addr} {g__law_take g__law_exchanged g__law_row g_Heap_out g_Heap_put g__law_made : FuncData}
    (F : Fd K "_law_deed" "_law_deed" s__law_deed [] f fd) (T : Tx K mg) (hsys : SysOk base)
    (c__law_take : Cf P w K mg base (L2.CX P w) 1 "_law_take" s__law_take [] a__law_take p__law_take f__law_take g__law_take)
    (c__law_exchanged : Cf P w K mg base (L2.CX P w) 7 "_law_exchanged" s__law_exchanged [] a__law_exchanged (p_exch C_Heap C_Parcel C_Sides) f__law_exchanged g__law_exchanged)
    (c__law_row : Cf P w K mg base (L2.CX P w) 3 "_law_row" s__law_row [] a__law_row p__law_row f__law_row g__law_row)
    (c_Heap_out : Mf P w K mg base 3 C_Heap "out" "Heap.out" s_Heap_out [] a_Heap_out (p_Hp_out C_Heap C_Parcel C_Sides) f_Heap_out g_Heap_out)
    (c_Heap_put : Mf P w K mg base 3 C_Heap "put" "Heap.put" s_Heap_put [.non] a_Heap_put (p_Hp_putA C_Heap C_Parcel C_Sides) f_Heap_put g_Heap_put)
    (c__law_made : Cf P w K mg base (L2.CX P w) 5 "_law_made" s__law_made [] a__law_made (p_made C_Parcel C_Sides) f__law_made g__law_made)
    (k_Heap : Kl_Heap K mg C_Heap)
    (k_Parcel : Kl_Parcel K mg C_Parcel)
    (k_Sides : Kl_Sides K mg C_Sides) :
    FnG P w K mg base (L2.CX P w) 8 f fd a__law_deed (spOf K (p_deedN C_Heap C_Parcel C_Sides)) := by
  have kc_Heap := k_Heap.ins.cl
  have ka_Heap_held := k_Heap.a_held
  have ka_Heap_told := k_Heap.a_told
  have ka_Heap_kind := k_Heap.a_kind
  have kc_Parcel := k_Parcel.ins.cl
  have ka_Parcel_called := k_Parcel.a_called
  have ka_Parcel_outside := k_Parcel.a_outside
  have ka_Parcel_thick := k_Parcel.a_thick
  have ka_Parcel_heavy := k_Parcel.a_heavy
  have ka_Parcel_strong := k_Parcel.a_strong
  have ka_Parcel_marks := k_Parcel.a_marks
  have ka_Parcel_told := k_Parcel.a_told
  have ka_Parcel_names := k_Parcel.a_names
  have kc_Sides := k_Sides.ins.cl
  have ka_Sides_three := k_Sides.a_three
  refine fn_val F sc__law_deed (fun ds S G Y h => ?_) (fun cdv A hgd outer s H E hr px tk po ds S G Y h => ?_)
  · obtain ⟨p, l, h, k, n, sp, rs, cs, M, rfl, _⟩ := h
    rfl
  · obtain ⟨p, l, h, k, n, sp, rs, cs, M, rfl, w, hn, s0, s1, hrs, ne, lc, gc, hc, q⟩ := h
    refine ⟨_, (pss_cons (ps_setLc (i := 5) (own := [("_law_name", 8)]) rfl sc__law_deed.nd rfl rfl (sw_true rfl rfl rfl (by decide +kernel)) (pi_list (pv 3)) (blkOk_by (own := [("_law_name", 8)]) (N := n__law_deed) (sc := defScope s__law_deed) (by decide +kernel)) (fun _ _ _ _ _ => (pg_name (i := 8) sc__law_deed.nd rfl (Or.inl rfl))) (fun _ _ _ _ _ => (pts_one (pt_cmpR (kO (K := K) (r := (fun K => rIn K true)) op_notIn_seq) (pv 8) (pe_lc (own := [("_law_row_here", 6)]) rfl sc__law_deed.nd (VS.pi_listK (K := K) (pv 1)) (VS.blkOk_c (own := [("_law_row_here", 6)]) (N := n__law_deed) (by decide +kernel)) (fun _ _ _ _ _ => (pg_name (i := 6) sc__law_deed.nd rfl (Or.inl rfl))) (fun _ _ _ _ _ => pts_nil) (fun _ _ _ _ _ => (pe_ix (kI (K := K) (r := rIxL) ix_list) (pv 6) pe_int (fun _ _ => rfl)))) (by rfl)))) (fun _ _ _ _ _ => (pv 8)))
      (pss_cons (ps_if (PW.pt (pw_and (pt_cmpR (op_neE hr) (pv 1) (pe_lst pa_nil) (nomark _)) (pw_and1 (pt_cmpR op_eq (pe_cG c__law_take.fn hgd (hr.mono (by decide)) (by rfl) c__law_take.mg c__law_take.kp c__law_take.b .nil VS.pass0 (pa_cons (pv 0) (pa_cons pe_int pa_nil))) pe_int (nomark _))))) (pss_cons (ps_expr (pe_cG c__law_exchanged.fn hgd (hr.mono (by decide)) (by rfl) c__law_exchanged.mg c__law_exchanged.kp c__law_exchanged.b .nil VS.pass0 (pa_cons (pv 0) (pa_cons (pv 1) (pa_cons (pv 2) (pa_cons (pv 4) pa_nil))))))
      (pss_one ps_retN))
      pss_nil)
      (pss_cons (ps_if (PW.pt (pw_and (pt_cmpR (op_neE hr) (pv 1) (pe_lst pa_nil) (nomark _)) (pw_and1 (PW.pt (pw_or (pt_cmpR (op_eqE hr) (pv 5) (pe_lst pa_nil) (nomark _)) (pw_or1 (pt_cmpR op_eq (pe_cG c__law_take.fn hgd (hr.mono (by decide)) (by rfl) c__law_take.mg c__law_take.kp c__law_take.b .nil VS.pass0 (pa_cons (pv 0) (pa_cons pe_int pa_nil))) pe_int (nomark _)))))))) (pss_cons (ps_expr (pe_mG (pv 2) c_Heap_out.cl c_Heap_out.me c_Heap_out.fn hgd (hr.mono (by decide)) c_Heap_out.b .nil VS.pass0 (pa_cons (pe_ix ix_list (pe_bm PySem.F.plainAttrs_list PySem.F.slot_list_pop PySem.F.type_list_pop mt_popAt (pv 1) (pa_cons (pe_cG c__law_take.fn hgd (hr.mono (by decide)) (by rfl) c__law_take.mg c__law_take.kp c__law_take.b .nil VS.pass0 (pa_cons (pv 0) (pa_cons (pe_callB c_len (by rfl) T.b_len (by decide +kernel) (pa_cons (pv 1) pa_nil)) pa_nil))) pa_nil)) pe_int (fun _ _ => rfl)) pa_nil)))
      (pss_one ps_retN))
      pss_nil)
      (pss_cons (ps_set (i := 6) sc__law_deed.nd rfl (Or.inl rfl) (pe_cG c__law_row.fn hgd (hr.mono (by decide)) (by rfl) c__law_row.mg c__law_row.kp c__law_row.b .nil VS.pass0 (pa_cons (pv 0) (pa_cons (pe_ix ix_list (pv 5) (pe_cG c__law_take.fn hgd (hr.mono (by decide)) (by rfl) c__law_take.mg c__law_take.kp c__law_take.b .nil VS.pass0 (pa_cons (pv 0) (pa_cons (pe_callB c_len (by rfl) T.b_len (by decide +kernel) (pa_cons (pv 5) pa_nil)) pa_nil))) (fun _ _ => rfl)) (pa_cons (pv 1) (pa_cons (pv 4) (pa_cons pe_bl pa_nil)))))))
      (pss_cons (ps_set (i := 7) sc__law_deed.nd rfl (Or.inl rfl) (pe_cG c__law_take.fn hgd (hr.mono (by decide)) (by rfl) c__law_take.mg c__law_take.kp c__law_take.b .nil VS.pass0 (pa_cons (pv 0) (pa_cons (pe_op op_add (pe_callB c_len (by rfl) T.b_len (by decide +kernel) (pa_cons (pv 1) pa_nil)) pe_int) pa_nil))))
      (pss_cons (ps_expr (pe_mG (pv 2) c_Heap_put.cl c_Heap_put.me c_Heap_put.fn hgd (hr.mono (by decide)) c_Heap_put.b .nil VS.pass0 (pa_cons (pe_cG c__law_made.fn hgd (hr.mono (by decide)) (by rfl) c__law_made.mg c__law_made.kp c__law_made.b .nil VS.pass0 (pa_cons (pv 6) pa_nil)) (pa_cons (pe_ix ix_list (pe_op op_cat (pe_lc (own := [("_law_other", 9)]) rfl sc__law_deed.nd (pi_list (pv 1)) (blkOk_by (own := [("_law_other", 9)]) (N := n__law_deed) (sc := defScope s__law_deed) (by decide +kernel)) (fun _ _ _ _ _ => (pg_name (i := 9) sc__law_deed.nd rfl (Or.inl rfl))) (fun _ _ _ _ _ => pts_nil) (fun _ _ _ _ _ => (pe_ix (kI (K := K) (r := rIxL) ix_list) (pv 9) pe_int (fun _ _ => rfl)))) (pe_lst (pa_cons pe_non pa_nil))) (pv 7) (fun _ _ => rfl)) pa_nil))))
      (pss_one (ps_expr (pe_bm PySem.F.plainAttrs_list PySem.F.slot_list_insert PySem.F.type_list_insert mt_insertV (pv 1) (pa_cons (pv 7) (pa_cons (pv 6) pa_nil))))))))))), ?_⟩
    (try dsimp only [cxOf, List.map])
    show VX _ _ [_, _, _, _, _, _, _, _, _, _] _ _
    have r12 := hrs.l
    unfold L3 at w
    walk_at "gr"
    refine ve_lcF (notI (rs.map Pc.nm)) id (vi_list ?_)
    walk_at "gr"
    refine ⟨_, .v, by rw [List.length_map]; omega, fun d hd => ?_, ?_⟩
    · obtain ⟨x, hx, rfl⟩ := List.mem_map.mp hd
      walk_at "gr"
      refine ve_lcCellM fstD ?_ (w.get 0 rfl) (by rw [List.length_map]; omega) (fun d hd => ?_) ?_
      · walk_at "gr"
        exact ⟨rfl, rfl⟩
      · obtain ⟨y, _, rfl⟩ := List.mem_map.mp hd
        walk_at "gr"
        refine ⟨rfl, ?_⟩
        walk_at "gr"
        exact ⟨rfl, rfl⟩
      rw [fst_rows]
      refine rv_in (.l .v) rfl (flat_strs _) ?_
      rw [inD_strs]
      walk_at "gr"
      refine ⟨rfl, fun _ => rfl, fun _ => ?_⟩
      walk_at "gr"
      exact ⟨rfl, rfl⟩
    rw [notI_strs]
    have hlf : ∀ z ∈ (cs.filter fun x => !decide (x ∈ rs.map Pc.nm)), z ∈ cs ∧ z ∉ rs.map Pc.nm := fun z hz => by
      obtain ⟨h1, h2⟩ := List.mem_filter.mp hz
      exact ⟨h1, by simpa using h2⟩
    have hle : rs = [] → (cs.filter fun x => !decide (x ∈ rs.map Pc.nm)) = cs := fun e => by
      rw [e]
      exact List.filter_eq_self.mpr fun _ _ => rfl
    have lle := List.length_filter_le (fun x => !decide (x ∈ rs.map Pc.nm)) cs
    generalize (cs.filter fun x => !decide (x ∈ rs.map Pc.nm)) = lf at hlf hle lle ⊢
    have c0 : S l = some (.lst (rs.map rwD)) := w.get 0 rfl
    refine vg_name ?_
    refine vx_seq (vx_ifJ (fun b S' => Wd S' p (n + 1) (L3 C_Heap C_Parcel C_Sides l h k rs M) ∧ (b = true → rs ≠ [])) ?_ (fun S1 hw => ?_) (fun S1 hw => ?_))
    · walk_at "gr"
      refine ve_lst ?_
      walk_at "gr"
      refine ⟨fun e => ?_, fun _ => ⟨w.mono (by omega), nofun⟩⟩
      have hne : rs ≠ [] := fun z => by rw [z] at e; exact absurd e (by decide)
      walk_at "gr"
      intro t S1 t0 t1 w1
      walk_at "gr"
      exact ⟨w1, fun _ => hne⟩
    · obtain ⟨w1, hne⟩ := hw
      walk_at "gr"
      refine ⟨p, l, h, k, n + 1, sp, rs, M, rfl, w1, by omega, s0, s1, hrs, hne rfl, fun rs' S' h1 h2 h3 w' => ?_⟩
      walk_at "gr"
      exact q rs' S' h1 (by rw [h3]; exact hc) (w'.mono (by omega))
    · obtain ⟨w1, _⟩ := hw
      clear w c0
      have c0 : S1 l = some (.lst (rs.map rwD)) := w1.get 0 rfl
      refine vx_next ?_
      refine vx_seq (vx_ifJ (fun b S' => Wd S' p (n + 2) (L3 C_Heap C_Parcel C_Sides l h k rs M) ∧ (b = true → rs ≠ []) ∧ (b = false → lf ≠ [])) ?_ (fun S2 hw => ?_) (fun S2 hw => ?_))
      · unfold L3 at w1
        walk_at "gr"
        refine ve_lst ?_
        walk_at "gr"
        refine ⟨fun e => ?_, fun e => ⟨w1.mono (by omega), nofun, fun _ z => ?_⟩⟩
        · have hne : rs ≠ [] := fun z => by rw [z] at e; exact absurd e (by decide)
          walk_at "gr"
          refine ve_lst ?_
          walk_at "gr"
          refine ⟨fun e => ⟨w1.mono (by omega), fun _ => hne, nofun⟩, fun e2 => ?_⟩
          have hnl : lf ≠ [] := fun z => by rw [z] at e2; exact absurd e2 (by decide)
          walk_at "gr"
          intro t S2 t0 t1 w2
          walk_at "gr"
          exact ⟨w2.mono (by omega), fun _ => hne, fun _ => hnl⟩
        · have en : rs = [] := by
            cases rs with
            | nil => rfl
            | cons _ _ => exact absurd e (by simp)
          exact ne (by rw [← hle en]; exact z)
      · obtain ⟨w2, hne, _⟩ := hw
        clear w1 c0
        have hne := hne rfl
        have rpos : 0 < rs.length := List.length_pos_iff.mpr hne
        unfold L3 at w2
        have hs2 : HpS S2 C_Heap C_Parcel C_Sides h k rs := w2.hp 1 2 rfl rfl
        have c2 := hs2.1
        walk_at "gr"
        intro t S3 t0 t1 w3
        clear w2 hs2 c2
        obtain ⟨t, rfl⟩ := Int.eq_ofNat_of_zero_le t0
        rw [List.length_map] at t1
        have tl : t < rs.length := by omega
        obtain ⟨r, hr⟩ : ∃ r, rs[t]? = some r := ⟨_, List.getElem?_eq_getElem tl⟩
        walk_at "gr"
        refine rm_popAt (j := t) (w3.get 0 rfl) rfl (by omega) (by rw [List.getElem?_map, hr]; rfl) ?_
        rw [← map_erase]
        have w4 : Wd (VS.put S3 l (.lst ((rs.eraseIdx t).map rwD))) p (n + 2 + 1) ((l, .lst ((rs.eraseIdx t).map rwD)) :: (h, hpD C_Heap k) :: (k, .lst (rs.map (Pc.d C_Parcel C_Sides))) :: M) := w3.wr 0 rfl
        generalize VS.put S3 l (.lst ((rs.eraseIdx t).map rwD)) = S4 at w4 ⊢
        clear w3
        have hs4 : HpS S4 C_Heap C_Parcel C_Sides h k rs := w4.hp 1 2 rfl rfl
        have c1 := hs4.1
        walk_at "gr"
        refine ⟨h, k, rs, t, r, rfl, hs4, r12, Hps.frs hrs.n hr, ?_⟩
        have w5 : Wd (VS.put S4 k (.lst ((rs.eraseIdx t).map (Pc.d C_Parcel C_Sides)))) p (n + 2 + 1) ((l, .lst ((rs.eraseIdx t).map rwD)) :: (h, hpD C_Heap k) :: (k, .lst ((rs.eraseIdx t).map (Pc.d C_Parcel C_Sides))) :: M) := w4.wr 2 rfl
        generalize VS.put S4 k (.lst ((rs.eraseIdx t).map (Pc.d C_Parcel C_Sides))) = S5 at w5 ⊢
        walk_at "gr"
        refine q (rs.eraseIdx t) S5 (hrs.erase t) (fun z hz => hc z ?_) (w5.mono (by omega))
        exact ((List.eraseIdx_sublist ..).map _).subset hz
      · obtain ⟨w2, _, hnl⟩ := hw
        clear w1
        have hnl := hnl rfl
        have lpos : 0 < lf.length := List.length_pos_iff.mpr hnl
        refine vx_next ?_
        unfold L3 at w2
        walk_at "gr"
        intro t S3 t0 t1 w3
        clear w2
        obtain ⟨t, rfl⟩ := Int.eq_ofNat_of_zero_le t0
        rw [List.length_map] at t1
        obtain ⟨x, hx⟩ : ∃ x, lf[t]? = some x := ⟨_, List.getElem?_eq_getElem (by omega)⟩
        obtain ⟨xc, xr⟩ := hlf x (List.mem_of_getElem? hx)
        have rl : rs.length < 12 := by
          have := nodup_le (xs := x :: rs.map Pc.nm) (ys := cs) (List.nodup_cons.mpr ⟨xr, hrs.n⟩) fun z hz => by
            rcases List.mem_cons.mp hz with rfl | hz
            · exact xc
            · exact hc z hz
          rw [List.length_cons, List.length_map] at this
          omega
        walk_at "gr"
        refine rv_ixL .v (d := .str x) (atI_nat (j := t) (by rw [List.getElem?_map, hx]; rfl)) ?_
        walk_at "gr"
        refine ⟨p, l, _, sp, x, false, rs, rfl, w3.pu, by omega, w3.get 0 rfl, w3.nep 0 rfl, hrs.g, by omega, gc x xc, s0, s1, fun r S4 en gr h2 o2 => ?_⟩
        have w4 := w3.ex1 h2 o2
        clear w3 h2 o2 t0 t1
        walk_at "gr"
        intro v S5 v0 v1 w5
        clear w4
        obtain ⟨v, rfl⟩ := Int.eq_ofNat_of_zero_le v0
        rw [List.length_map] at v1
        have hs5 : HpS S5 C_Heap C_Parcel C_Sides h k rs := w5.hp 1 2 rfl rfl
        have c1 := hs5.1
        obtain ⟨a, ha, hca⟩ := nm_non (rs := rs) (t := v) (by omega)
        walk_at "gr"
        refine ⟨r, rfl, gr, ?_⟩
        walk_at "gr"
        refine ve_lcCellM fstD ?_ (w5.get 0 rfl) (by rw [List.length_map]; omega) (fun d hd => ?_) ?_
        · walk_at "gr"
          exact ⟨rfl, rfl⟩
        · obtain ⟨y, _, rfl⟩ := List.mem_map.mp hd
          walk_at "gr"
          refine ⟨rfl, ?_⟩
          walk_at "gr"
          exact ⟨rfl, rfl⟩
        rw [fst_rows]
        refine ve_lst ?_
        walk_at "gr"
        refine rv_cat .v .v (by rw [List.length_map, List.length_map]; have := szl; show _ + 1 ≤ _; omega) ?_
        walk_at "gr"
        refine rv_ixL .v (atI_nat ha) ?_
        walk_at "gr"
        have nn : r.nm ∉ rs.map Pc.nm := by rw [en]; exact xr
        refine ⟨h, k, rs, r, v, a, rfl, hs5, by omega, nn, ?_, ?_⟩
        · rcases hca with ⟨e1, e2⟩ | ⟨q0, e1, e2⟩
          · exact .inl ⟨e1, e2⟩
          · exact .inr ⟨q0, e1, Hps.frs hrs.n e2⟩
        have w6 : Wd (VS.put S5 k (.lst ((rs.take v ++ [r] ++ rs.drop v).map (Pc.d C_Parcel C_Sides)))) p (n + 2 + 1 + 50 + 1) ((l, .lst (rs.map rwD)) :: (h, hpD C_Heap k) :: (k, .lst ((rs.take v ++ [r] ++ rs.drop v).map (Pc.d C_Parcel C_Sides))) :: M) := w5.wr 2 rfl
        generalize VS.put S5 k (.lst ((rs.take v ++ [r] ++ rs.drop v).map (Pc.d C_Parcel C_Sides))) = S6 at w6 ⊢
        clear w5 hs5 c1
        walk_at "gr"
        refine rm_insert (n := v) (w6.get 0 rfl) rfl (by rw [List.length_map]; omega) (by rw [List.length_map]; have := szl; omega) ?_
        have em : (rs.map rwD).take v ++ [rwD r] ++ (rs.map rwD).drop v = (rs.take v ++ [r] ++ rs.drop v).map rwD := by
          rw [List.map_append, List.map_append, List.map_take, List.map_drop]; rfl
        rw [em]
        refine q (rs.take v ++ [r] ++ rs.drop v) _ (hrs.ins gr nn rl) (fun z hz => ?_) ?_
        · obtain ⟨y, hy, rfl⟩ := List.mem_map.mp hz
          rcases List.mem_append.mp hy with hy | hy
          · rcases List.mem_append.mp hy with hy | hy
            · exact hc _ (List.mem_map.mpr ⟨y, List.mem_of_mem_take hy, rfl⟩)
            · rw [List.mem_singleton.mp hy, en]; exact xc
          · exact hc _ (List.mem_map.mpr ⟨y, List.mem_of_mem_drop hy, rfl⟩)
        · exact (w6.wr (d' := .lst ((rs.take v ++ [r] ++ rs.drop v).map rwD)) 0 rfl).mono (by omega)
end
end LW
namespace LW
open PySem L2 C8 PySem.Spec PyProof.Rows VS
/-! ### what is told is right -/
def fndD (sp : Int) (rs : List Pc) : D := .tup [.lst (((outF sp rs).map (nst (kvF sp rs))).map nmD), nmD (lotF sp rs)]
def p_right30 : Pt := fun ds S G _ => ∃ (rs : List Pc) (sp : Int) (x y z : D), ds = [x, .int sp, .tup [y, z]] ∧ Vd S x (.lst (rs.map rwD)) ∧ Vd S (.tup [y, z]) (fndD sp rs) ∧ Hrs rs ∧ 0 ≤ sp ∧ G (.bl true) S
section
variable {P : Program} {w : World} {K : PySem.W.Frag} {mg : Str → Option Value} {base : Heap}
theorem ok__law_right {f : Addr} {fd : FuncData} {C_Sides C_Parcel C_Heap C_NoNumber C_NoSide : Addr} {f__law_outwards f__law_shown : Addr} {g__law_outwards g__law_shown : FuncData}
    (F : Fd K "_law_right" "_law_right" s__law_right [] f fd) (T : Tx K mg) (hsys : SysOk base)
    (c__law_outwards : Cf P w K mg base (L2.CX P w) 2 "_law_outwards" s__law_outwards [] a__law_outwards p__law_outwards f__law_outwards g__law_outwards)
    (c__law_shown : Cf P w K mg base (L2.CX P w) 4 "_law_shown" s__law_shown [] a__law_shown p_shown30 f__law_shown g__law_shown) :
    FnG P w K mg base (L2.CX P w) 5 f fd a__law_right (spOf K p_right30) := by
  refine fn_val F sc__law_right (fun ds S G Y h => ?_) (fun cdv A hgd outer s H E hr px tk po ds S G Y h => ?_)
  · obtain ⟨rs, sp, x, y, z, rfl, _⟩ := h
    rfl
  · obtain ⟨rs, sp, x, y, z, rfl, hx, hf, hrs, s0, q⟩ := h
    refine ⟨_, (pss_cons (ps_if (PW.pt (pw_or (pt_not (pt_val (pe_callB c_isiZ (by rfl) T.b_isinstance (by decide +kernel) (pa_cons (pv 2) (pa_cons (pe_bltn (v := .ty "tuple") (by rfl) T.b_tuple (by decide +kernel) rfl) pa_nil))))) (pw_or1 (pt_cmpR op_ne (pe_callB c_len (by rfl) T.b_len (by decide +kernel) (pa_cons (pv 2) pa_nil)) pe_int (nomark _))))) (pss_one (ps_ret pe_bl))
      pss_nil)
      (pss_one (ps_ret (pe_cG c__law_shown.fn hgd (hr.mono (by decide)) (by rfl) c__law_shown.mg c__law_shown.kp c__law_shown.b .nil VS.pass0 (pa_cons (pe_cG c__law_outwards.fn hgd (hr.mono (by decide)) (by rfl) c__law_outwards.mg c__law_outwards.kp c__law_outwards.b .nil VS.pass0 (pa_cons (pv 0) (pa_cons (pv 1) pa_nil))) (pa_cons (pe_ix ix_tup (pv 2) pe_int (fun _ _ => rfl)) (pa_cons (pe_ix ix_tup (pv 2) pe_int (fun _ _ => rfl)) pa_nil))))))), ?_⟩
    (try dsimp only [cxOf, List.map])
    show VX _ _ [_, _, _] _ _
    refine vx_join (fun ρ2 S2 => ρ2 = [some x, some (.int sp), some (.tup [y, z])] ∧ S2 = S) ?_ ?_
    · walk_at "gr"
      exact ⟨rfl, rfl⟩
    · rintro _ S2 ⟨rfl, rfl⟩
      refine vx_ret ?_
      refine ve_pureR ((VdR.refl.set 0 rfl hx).set 2 rfl hf) ?_
      unfold fndD
      walk_at "gr"
      refine ⟨rs, sp, rfl, hrs, s0, fun d as S1 _ la _ _ _ _ c1 h1 => ?_⟩
      walk_at "gr"
      exact ⟨rs, sp, d, as, rfl, hrs, s0, la, c1, h1, fun S' => ⟨rfl, q⟩⟩
end
end LW
namespace LW
open PySem L2 C8 PySem.Spec PyProof.Rows VS
/-! ### what was told is changed; the same is told again -/
theorem fnd_sh {sp : Int} {rs : List Pc} (hrs : Hrs rs) (s0 : 0 ≤ sp) : Sh (fndD sp rs) 400000 8 := by
  have ok := ok_F (sp := sp) hrs.hps s0
  have a : Ok (.lst (((outF sp rs).map (nst (kvF sp rs))).map nmD)) _ 5 := Ok.lst 12 (n := 30000) (k := 4) (fun y hy => by
    obtain ⟨xs, hxs, rfl⟩ := List.mem_map.mp hy
    obtain ⟨_, _, h3, _, h5⟩ := ok.n xs hxs
    exact ok_strs (fun z hz => ok.a z (h3 z hz)) (by omega)) (by rw [List.length_map]; exact ok.nl) (by decide)
  have lin : ∀ x ∈ lotF sp rs, x ∈ rs.map Pc.nm := fun x hx => (List.mem_filter.mp hx).1
  have ll : (lotF sp rs).length ≤ (rs.map Pc.nm).length := List.length_filter_le _ _
  have n12 := hrs.hps.nmlen
  have b : Sh (nmD (lotF sp rs)) 30000 4 := (ok_strs (fun z hz => hrs.hps.asc (lin z hz)) (by omega)).sh
  exact (Sh.tup (ShL.cons a.sh (ShL.cons b ShL.nil))).mono (by omega) (by decide)
theorem vdl_nst {S : Sto} {f : Str → List Str} : ∀ {as : List Addr} {xs : List Str}, as.length = xs.length → (∀ (i : Nat) (a : Addr) (x : Str), as[i]? = some a → xs[i]? = some x → S a = some (nmD (f x))) → VdL S (as.map D.ref) ((xs.map f).map nmD)
  | [], [], _, _ => .nil
  | [], _ :: _, h, _ => by cases h
  | _ :: _, [], h, _ => by cases h
  | a :: as, x :: xs, h, k => .cons (.c (k 0 a x rfl rfl) (by nofun) .v) (vdl_nst (Nat.succ.inj h) fun i a' x' h1 h2 => k (i + 1) a' x' h1 h2)
/-- what is told, by reference -/
structure FdR (S : Sto) (sp : Int) (rs : List Pc) (d e : Addr) (as : List Addr) : Prop where
  la : as.length = (outF sp rs).length
  na : as.Nodup
  da : d ∉ as
  ea : e ∉ as
  de : d ≠ e
  hd : S d = some (.lst (as.map D.ref))
  ha : ∀ (i : Nat) (a : Addr) (x : Str), as[i]? = some a → (outF sp rs)[i]? = some x → S a = some (nmD (nst (kvF sp rs) x))
  he : S e = some (nmD (lotF sp rs))
theorem FdR.vd {S : Sto} {sp : Int} {rs : List Pc} {d e : Addr} {as : List Addr} (f : FdR S sp rs d e as) : Vd S (.tup [.ref d, .ref e]) (fndD sp rs) :=
  .tup (.cons (.c f.hd nofun (.lst (vdl_nst f.la f.ha))) (.cons (.c f.he nofun .v) .nil))
def p_again30 (CH CP CS : Addr) : Pt := fun ds S G _ => ∃ (l h k d e : Addr) (as : List Addr) (sp : Int) (rs : List Pc), ds = [.ref l, .ref h, .int sp, .tup [.ref d, .ref e]] ∧ S l = some (.lst (rs.map rwD)) ∧ HpS S CH CP CS h k rs ∧ FdR S sp rs d e as ∧ (∀ a ∈ d :: e :: as, l ≠ a ∧ h ≠ a ∧ k ≠ a) ∧ Hrs rs ∧ 0 ≤ sp ∧ sp ≤ 1000 ∧
  ∀ S', (∀ a x, a ∉ d :: e :: as → S a = some x → S' a = some x) → G (.bl true) S'
section
variable {P : Program} {w : World} {K : PySem.W.Frag} {mg : Str → Option Value} {base : Heap}
theorem ok__law_asked_again {f : Addr} {fd : FuncData} {C_Sides C_Parcel C_Heap C_NoNumber C_NoSide : Addr} {f_fewest f_Heap_names : Addr} {g_fewest g_Heap_names : FuncData}
    (F : Fd K "_law_asked_again" "_law_asked_again" s__law_asked_again [] f fd) (T : Tx K mg) (hsys : SysOk base)
    (c_fewest : Cf P w K mg base (L2.CX P w) 17 "fewest" s_fewest [.int 0] a_fewest (p_fewest C_Heap C_Parcel C_Sides) f_fewest g_fewest)
    (c_Heap_names : Mf P w K mg base 2 C_Heap "names" "Heap.names" s_Heap_names [] a_Heap_names (p_Hp_names C_Heap C_Parcel C_Sides) f_Heap_names g_Heap_names)
    (k_Heap : Kl_Heap K mg C_Heap)
    (k_Parcel : Kl_Parcel K mg C_Parcel)
    (k_Sides : Kl_Sides K mg C_Sides) :
    FnG P w K mg base (L2.CX P w) 18 f fd a__law_asked_again (spOf K (p_again30 C_Heap C_Parcel C_Sides)) := by
  have kc_Heap := k_Heap.ins.cl
  have ka_Heap_held := k_Heap.a_held
  have ka_Heap_told := k_Heap.a_told
  have ka_Heap_kind := k_Heap.a_kind
  have kc_Parcel := k_Parcel.ins.cl
  have ka_Parcel_called := k_Parcel.a_called
  have ka_Parcel_outside := k_Parcel.a_outside
  have ka_Parcel_thick := k_Parcel.a_thick
  have ka_Parcel_heavy := k_Parcel.a_heavy
  have ka_Parcel_strong := k_Parcel.a_strong
  have ka_Parcel_marks := k_Parcel.a_marks
  have ka_Parcel_told := k_Parcel.a_told
  have ka_Parcel_names := k_Parcel.a_names
  have kc_Sides := k_Sides.ins.cl
  have ka_Sides_three := k_Sides.a_three
  refine fn_val F sc__law_asked_again (fun ds S G Y h => ?_) (fun cdv A hgd outer s H E hr px tk po ds S G Y h => ?_)
  · obtain ⟨l, h, k, d, e, as, sp, rs, rfl, _⟩ := h
    rfl
  · obtain ⟨l, h, k, d, e, as, sp, rs, rfl, hl, hs, fd, ne, hrs, s0, s1, q⟩ := h
    refine ⟨_, (pss_cons (ps_set (i := 4) sc__law_asked_again.nd rfl (Or.inl rfl) (pe_callB (c_repr hgd hr hsys) (by rfl) T.b_repr (by decide +kernel) (pa_cons (pv 3) pa_nil)))
      (pss_cons (ps_for po rfl (pi_list (pe_ix ix_tup (pv 3) pe_int (fun _ _ => rfl))) (pg_name (i := 5) sc__law_asked_again.nd rfl (Or.inl rfl))
      (pss_one (ps_expr (pe_bm PySem.F.plainAttrs_list PySem.F.slot_list_append PySem.F.type_list_append mt_append (pv 5) (pa_cons pe_str pa_nil)))))
      (pss_cons (ps_expr (pe_bm PySem.F.plainAttrs_list PySem.F.slot_list_append PySem.F.type_list_append mt_append (pe_ix ix_tup (pv 3) pe_int (fun _ _ => rfl)) (pa_cons (pe_lst pa_nil) pa_nil)))
      (pss_cons (ps_expr (pe_bm PySem.F.plainAttrs_list PySem.F.slot_list_insert PySem.F.type_list_insert mt_insertV (pe_ix ix_tup (pv 3) pe_int (fun _ _ => rfl)) (pa_cons pe_int (pa_cons pe_str pa_nil))))
      (pss_one (ps_ret (pe_and (pe_cmpR op_eq (pe_callB (c_repr hgd hr hsys) (by rfl) T.b_repr (by decide +kernel) (pa_cons (pe_cG c_fewest.fn hgd (hr.mono (by decide)) (by rfl) c_fewest.mg c_fewest.kp c_fewest.b .nil VS.pass0 (pa_cons (pv 1) (pa_cons (pv 2) pa_nil))) pa_nil)) (pv 4) (nomark _)) (pe_one (pe_cmpR (op_eqP hr hsys) (pe_mG0 (pv 1) c_Heap_names.cl c_Heap_names.me c_Heap_names.fn hgd (hr.mono (by decide)) c_Heap_names.b .nil VS.pass0) (pe_lc (own := [("_law_row_here", 6)]) rfl sc__law_asked_again.nd (pi_list (pv 0)) (blkOk_by (own := [("_law_row_here", 6)]) (N := n__law_asked_again) (sc := defScope s__law_asked_again) (by decide +kernel)) (fun _ _ _ _ _ => (pg_name (i := 6) sc__law_asked_again.nd rfl (Or.inl rfl))) (fun _ _ _ _ _ => pts_nil) (fun _ _ _ _ _ => (pe_ix (kI (K := K) (r := rIxL) ix_list) (pv 6) pe_int (fun _ _ => rfl)))) (nomark _)))))))))), ?_⟩
    (try dsimp only [cxOf, List.map])
    show VX _ _ [_, _, _, _, _, _, _] _ _
    have r12 := hrs.l
    have sh := fnd_sh hrs s0
    have lo : (outF sp rs).length ≤ 12 := by
      have h1 : (outF sp rs).length ≤ (rs.map Pc.nm).length := List.length_filter_le _ _
      have := hrs.hps.nmlen
      omega
    have lot12 : (lotF sp rs).length ≤ 12 := by
      have h1 : (lotF sp rs).length ≤ (rs.map Pc.nm).length := List.length_filter_le _ _
      have := hrs.hps.nmlen
      omega
    walk_at "gr"
    refine rc_reprV fd.vd sh (by decide) (by decide) ?_
    obtain ⟨Z, hZ⟩ : ∃ Z, Z = (pd (fndD sp rs)).shown := ⟨_, rfl⟩
    rw [← hZ]
    walk_at "gr"
    have hd0 := fd.hd
    have la := fd.la
    have dd : ∀ a ∈ as, a ≠ d := fun a ha z => fd.da (by rw [← z]; exact ha)
    have ed : ∀ a ∈ as, a ≠ e := fun a ha z => fd.ea (by rw [← z]; exact ha)
    refine vx_forCellL (l := d) hd0 ?_ (fun i ρ2 S2 => (∀ a ∈ as, ∃ zs : List D, S2 a = some (.lst zs) ∧ zs.length ≤ 1000 + i) ∧ i ≤ as.length ∧ (∀ a x, a ∉ as → a ≠ d → S a = some x → S2 a = some x) ∧ ∃ x5 x6, ρ2 = [some (.ref l), some (.ref h), some (.int sp), some (.tup [.ref d, .ref e]), some (.str Z), x5, x6]) ⟨fun a ha => ?_, Nat.zero_le _, fun a x _ h2 h => (VS.del_ne h2).trans h, _, _, rfl⟩ (fun i dd' ρ2 S2 he hw => ?_) (fun ρ2 S2 hw => ?_)
    · walk_at "gr"
      exact ⟨rfl, rfl⟩
    · obtain ⟨j, hj⟩ := List.getElem?_of_mem ha
      obtain ⟨x, hx⟩ : ∃ x, (outF sp rs)[j]? = some x := ⟨_, List.getElem?_eq_getElem (by have := (List.getElem?_eq_some_iff.mp hj).1; omega)⟩
      have ok := ok_F (sp := sp) hrs.hps s0
      have := (ok.n (nst (kvF sp rs) x) (List.mem_map.mpr ⟨x, List.mem_of_getElem? hx, rfl⟩)).2.2.2.2
      exact ⟨_, (VS.del_ne (dd a ha)).trans (fd.ha j a x hj hx), by rw [List.length_map]; omega⟩
    · obtain ⟨h2, il, f2, x5, x6, rfl⟩ := hw
      rw [List.getElem?_map] at he
      cases hz : as[i]? with
      | none => rw [hz] at he; cases he
      | some a =>
        rw [hz] at he
        cases he
        have ham := List.mem_of_getElem? hz
        obtain ⟨zs, ha, lz⟩ := h2 a ham
        walk_at "gr"
        refine rm_append ha (by have := szl; omega) ?_
        refine ⟨fun b hb => ?_, by have := (List.getElem?_eq_some_iff.mp hz).1; omega, fun b x h1 h3 h => ?_, _, _, rfl⟩
        · by_cases z : b = a
          · subst z
            exact ⟨_, put_same, by rw [List.length_append]; show _ + 1 ≤ _; omega⟩
          · obtain ⟨zs', h1, h3⟩ := h2 b hb
            exact ⟨zs', (put_ne z).trans h1, by omega⟩
        · exact (put_ne (fun z => h1 (by rw [z]; exact ham))).trans (f2 b x h1 h3 h)
    · obtain ⟨h2, il, f2, x5, x6, rfl⟩ := hw
      have hd3 : (VS.put S2 d (.lst (as.map D.ref))) d = some (.lst (as.map D.ref)) := put_same
      have f3 : ∀ a x, a ∉ as → S a = some x → (VS.put S2 d (.lst (as.map D.ref))) a = some x := fun a x h1 h => by
        by_cases z : a = d
        · subst z
          rw [put_same, ← h, hd0]
        · rw [put_ne z]
          exact f2 a x h1 z h
      generalize VS.put S2 d (.lst (as.map D.ref)) = S3 at hd3 f3 ⊢
      clear h2 f2 S2
      walk_at "gr"
      refine ve_lst ?_
      walk_at "gr"
      refine rm_append hd3 (by rw [List.length_map]; have := szl; omega) ?_
      have f4 : ∀ a x, a ∉ as → a ≠ d → S a = some x → (VS.put S3 d (.lst (as.map D.ref ++ [.lst []]))) a = some x := fun a x h1 h2 h => (put_ne h2).trans (f3 a x h1 h)
      generalize VS.put S3 d (.lst (as.map D.ref ++ [.lst []])) = S4 at f4 ⊢
      have he4 := f4 e _ fd.ea (Ne.symm fd.de) fd.he
      unfold nmD at he4
      walk_at "gr"
      refine rm_insert (n := 0) he4 rfl (Nat.zero_le _) (by rw [List.length_map]; have := szl; omega) ?_
      have f5 : ∀ a x, a ∉ d :: e :: as → S a = some x → (VS.put S4 e (.lst ((List.map D.str (lotF sp rs)).take 0 ++ [.str "more"] ++ (List.map D.str (lotF sp rs)).drop 0))) a = some x := fun a x h1 h => by
        simp only [List.mem_cons, not_or] at h1
        exact (put_ne h1.2.1).trans (f4 a x h1.2.2 h1.1 h)
      generalize VS.put S4 e (.lst ((List.map D.str (lotF sp rs)).take 0 ++ [.str "more"] ++ (List.map D.str (lotF sp rs)).drop 0)) = S5 at f5 ⊢
      clear f3 f4 hd3 he4
      have out : ∀ b, (∀ a ∈ d :: e :: as, b ≠ a) → b ∉ d :: e :: as := fun b hb z => hb b z rfl
      have nl := out l fun a ha => (ne a ha).1
      have nh := out h fun a ha => (ne a ha).2.1
      have nk := out k fun a ha => (ne a ha).2.2
      have hs5 : HpS S5 C_Heap C_Parcel C_Sides h k rs := ⟨f5 _ _ nh hs.1, f5 _ _ nk hs.2⟩
      walk_at "gr"
      refine ⟨h, k, sp, rs, rfl, hs5, hrs.hps, s0, s1, fun d6 e6 as6 S6 _ _ de6 ea6 la6 na6 da6 _ x6 hd6 ha6 he6 => ?_⟩
      have f6 : ∀ a x, a ∉ d :: e :: as → S a = some x → S6 a = some x := fun a x h1 h => x6 _ _ (f5 a x h1 h)
      have fd6 : FdR S6 sp rs d6 e6 as6 := ⟨la6, na6, da6, ea6, de6, hd6, ha6, he6⟩
      walk_at "gr"
      refine rc_reprV fd6.vd sh (by decide) (by decide) ?_
      rw [← hZ]
      walk_at "gr"
      rw [decide_eq_true rfl]
      refine ⟨fun _ => ?_, nofun⟩
      have hs6 : HpS S6 C_Heap C_Parcel C_Sides h k rs := ⟨f6 _ _ nh hs.1, f6 _ _ nk hs.2⟩
      have hl6 := f6 _ _ nl hl
      have c1 := hs6.1
      walk_at "gr"
      refine ⟨h, k, rs, rfl, hs6, r12, ?_⟩
      walk_at "gr"
      refine ve_lcCellM fstD ?_ hl6 (by rw [List.length_map]; omega) (fun d hd => ?_) ?_
      · walk_at "gr"
        exact ⟨rfl, rfl⟩
      · obtain ⟨y, _, rfl⟩ := List.mem_map.mp hd
        walk_at "gr"
        refine ⟨rfl, ?_⟩
        walk_at "gr"
        exact ⟨rfl, rfl⟩
      rw [fst_rows]
      refine rv_eqStrs .v .v (fun z hz => hrs.hps.asc hz) (fun z hz => hrs.hps.asc hz) (by rw [List.length_map]; omega) (by rw [List.length_map]; omega) ?_
      rw [decide_eq_true rfl]
      exact q _ f6
end
end LW
namespace LW
open PySem L2 C8 PySem.Spec PyProof.Rows VS
/-! ### the law -/
def p_law : Pt := fun ds S G _ => ∃ ns : List Int, ds = [.rol (ns.map .int)] ∧ ns.length ≤ 63 ∧ ∀ S', G (.bl true) S'
theorem Wd.perm {S : Sto} {p : Addr} {n : Int} {L M : List (Addr × D)} (w : Wd S p n L) (h : M.Perm L) : Wd S p n M := ⟨w.pu, fun x hx => w.at_ x (h.mem_iff.mp hx), fun x hx => w.ne x (h.mem_iff.mp hx), (h.map Prod.fst).nodup_iff.mpr w.nd⟩
theorem Wd.newE2 {S S' : Sto} {p h k : Addr} {n : Int} {L : List (Addr × D)} {d e : D} (w : Wd S p n L) (hh : S h = none) (hk : S k = none) (ne : h ≠ k) (x : Ext S S') (e1 : S' h = some d) (e2 : S' k = some e) : Wd S' p n ((h, d) :: (k, e) :: L) := by
  have v := w.ext x
  refine ⟨v.pu, fun y hy => ?_, fun y hy => ?_, ?_⟩
  · rcases List.mem_cons.mp hy with z | hy
    · rw [z]; exact e1
    · rcases List.mem_cons.mp hy with z | hy
      · rw [z]; exact e2
      · exact v.at_ y hy
  · rcases List.mem_cons.mp hy with z | hy
    · rw [z]; exact Ne.symm (w.pu.ne hh)
    · rcases List.mem_cons.mp hy with z | hy
      · rw [z]; exact Ne.symm (w.pu.ne hk)
      · exact w.ne y hy
  · rw [List.map_cons, List.map_cons, List.nodup_cons, List.nodup_cons]
    refine ⟨fun z => ?_, w.free hk, w.nd⟩
    rcases List.mem_cons.mp z with z | z
    · exact ne z
    · exact w.free hh z
/-- all but some stay -/
theorem Wd.frs {S0 S S' : Sto} {p : Addr} {n : Int} {L : List (Addr × D)} {cs : List Addr} (w0 : Wd S0 p n L) (w : Wd S p n L) (hc : ∀ c ∈ cs, S0 c = none) (fr : ∀ a x, a ∉ cs → S a = some x → S' a = some x) : Wd S' p n L := by
  refine ⟨?_, fun x hx => fr _ _ (fun z => ?_) (w.at_ x hx), w.ne, w.nd⟩
  · obtain ⟨x, y, z, e, r⟩ := w.pu
    exact ⟨x, y, z, fr _ _ (fun z => w0.pu.ne (hc _ z) rfl) e, r⟩
  · have := w0.at_ x hx
    rw [hc _ z] at this
    cases this
def bn (b : Bool) : Nat := if b then 1 else 0
def wL8 (CH CP CS : Addr) (l h k : Bool → Addr) (rs : Bool → List Pc) : List (Addr × D) := L3 CH CP CS (l false) (h false) (k false) (rs false) (L3 CH CP CS (l true) (h true) (k true) (rs true) [])
def i8 (b : Bool) : Nat := if b then 3 else 0
section
variable {CH CP CS : Addr} {l h k : Bool → Addr} {rs : Bool → List Pc}
theorem w8_l (b : Bool) : (wL8 CH CP CS l h k rs)[i8 b]? = some (l b, .lst ((rs b).map rwD)) := by cases b <;> rfl
theorem w8_h (b : Bool) : (wL8 CH CP CS l h k rs)[i8 b + 1]? = some (h b, hpD CH (k b)) := by cases b <;> rfl
theorem w8_k (b : Bool) : (wL8 CH CP CS l h k rs)[i8 b + 2]? = some (k b, .lst ((rs b).map (Pc.d CP CS))) := by cases b <;> rfl
end
theorem at_b (l : Bool → D) (b : Bool) : atI [l false, l true] (bn b : Nat) = some (l b) := by cases b <;> rfl
/-- the first ones of each name -/
def fsP (cs : List Str) : D → Bool
  | .int k => !decide (cs.getD k.toNat "" ∈ cs.take k.toNat)
  | _ => false
def fsF (cs : List Str) : D → D
  | .int k => .str (cs.getD k.toNat "")
  | d => d
theorem firsts (A B : List Str) (nd : A.Nodup) : ∃ R : List Str, (∀ z ∈ R, z ∈ A ++ B) ∧ ((rngD 0 (A.length + B.length)).filter (fsP (A ++ B))).map (fsF (A ++ B)) = (A ++ R).map D.str := by
  have e0 : ∀ k : Nat, ((0 : Int) + (k : Nat)).toNat = k := fun k => by omega
  have spl : rngD 0 (A.length + B.length) = ((List.range A.length).map fun i => D.int (0 + (i : Nat))) ++ (((List.range B.length).map (A.length + ·)).map fun i => D.int (0 + (i : Nat))) := by
    unfold rngD
    rw [List.range_add, List.map_append]
  rw [spl, List.filter_append, List.map_append]
  have gA : ∀ k, k < A.length → (A ++ B).getD k "" = A.getD k "" := fun k hk => by
    rw [List.getD_eq_getElem?_getD, List.getD_eq_getElem?_getD, List.getElem?_append_left hk]
  have h1 : (((List.range A.length).map fun i => D.int (0 + (i : Nat))).filter (fsP (A ++ B))).map (fsF (A ++ B)) = A.map D.str := by
    rw [List.filter_eq_self.mpr fun d hd => ?_]
    · rw [List.map_map]
      refine List.ext_getElem? fun i => ?_
      rw [List.getElem?_map, List.getElem?_map]
      by_cases hi : i < A.length
      · rw [List.getElem?_range hi, List.getElem?_eq_getElem hi]
        show some (D.str ((A ++ B).getD ((0 : Int) + (i : Nat)).toNat "")) = some (D.str A[i])
        rw [e0, gA i hi, List.getD_eq_getElem?_getD, List.getElem?_eq_getElem hi]
        rfl
      · rw [List.getElem?_eq_none (by rw [List.length_range]; omega), List.getElem?_eq_none (by omega)]
        rfl
    · obtain ⟨k, hk, rfl⟩ := List.mem_map.mp hd
      have hk := List.mem_range.mp hk
      show (!decide ((A ++ B).getD ((0 : Int) + (k : Nat)).toNat "" ∈ (A ++ B).take ((0 : Int) + (k : Nat)).toNat)) = true
      rw [e0, gA k hk, List.take_append_of_le_length (by omega), List.getD_eq_getElem?_getD, List.getElem?_eq_getElem hk]
      show (!decide (A[k] ∈ A.take k)) = true
      rw [decide_eq_false]
      · rfl
      · intro z
        obtain ⟨j, hj⟩ := List.getElem?_of_mem z
        have hjk : j < k := by
          have := (List.getElem?_eq_some_iff.mp hj).1
          rw [List.length_take] at this
          omega
        rw [List.getElem?_take_of_lt hjk] at hj
        have := (List.getElem?_inj (i := j) (j := k) (by omega) nd).mp (by rw [hj, List.getElem?_eq_getElem hk])
        omega
  refine ⟨((((List.range B.length).map (A.length + ·)).filter fun k => fsP (A ++ B) (.int (0 + (k : Nat)))).map fun k => (A ++ B).getD k ""), fun z hz => ?_, ?_⟩
  · obtain ⟨k, hk, rfl⟩ := List.mem_map.mp hz
    obtain ⟨j, hj, rfl⟩ := List.mem_map.mp (List.mem_filter.mp hk).1
    have hj := List.mem_range.mp hj
    have hl : A.length + j < (A ++ B).length := by rw [List.length_append]; omega
    rw [List.getD_eq_getElem?_getD, List.getElem?_eq_getElem hl]
    exact List.getElem_mem hl
  · rw [h1, List.map_append, List.filter_map, List.map_map, List.map_map]
    congr 1
    refine List.map_congr_left fun k _ => ?_
    show D.str ((A ++ B).getD ((0 : Int) + (k : Nat)).toNat "") = _
    rw [e0]
    rfl
theorem perm6 {α : Type} (a b c d e f : α) : [f, c, d, e, a, b].Perm [a, b, c, d, e, f] := by
  have h : [5, 2, 3, 4, 0, 1].Perm [0, 1, 2, 3, 4, 5] := by decide
  exact h.map (fun i : Nat => match i with | 0 => a | 1 => b | 2 => c | 3 => d | 4 => e | _ => f)
theorem cut_tk (xs : List D) (t : Nat) : VS.cutD xs none (some (t : Int)) = xs.take t := by
  show (xs.drop 0).take (HT.sIx xs.length xs.length (some (t : Int)) - 0) = _
  rw [HT.sIx_nat, List.drop_zero, Nat.sub_zero]
  by_cases h : t ≤ xs.length
  · rw [Nat.min_eq_left h]
  · rw [Nat.min_eq_right (by omega), List.take_of_length_le (Nat.le_refl _), List.take_of_length_le (by omega)]
theorem turns28 {i : Nat} (h : i < 5) : ∃ b c : Bool, atI ([.int 1, .int 0, .int 1, .int 0, .int 0] : List D) (i : Nat) = some (.int (bn b : Nat)) ∧ atI ([.int 0, .int 1, .int 1, .int 0, .int 0] : List D) (i : Nat) = some (.int (bn c : Nat)) := by
  rcases i with _ | _ | _ | _ | _ | i
  · exact ⟨true, false, rfl, rfl⟩
  · exact ⟨false, true, rfl, rfl⟩
  · exact ⟨true, true, rfl, rfl⟩
  · exact ⟨false, false, rfl, rfl⟩
  · exact ⟨false, false, rfl, rfl⟩
  · omega
section
variable {P : Program} {w : World} {K : PySem.W.Frag} {mg : Str → Option Value} {base : Heap}
theorem ok_law {f : Addr} {fd : FuncData} {C_Sides C_Parcel C_Heap C_NoNumber C_NoSide : Addr} {f__law_cell f__law_purse f__law_take f__law_rows f__law_spare f__law_heap f__law_names f_fewest f__law_right f__law_asked_again f__law_deed : Addr} {g__law_cell g__law_purse g__law_take g__law_rows g__law_spare g__law_heap g__law_names g_fewest g__law_right g__law_asked_again g__law_deed : FuncData}
    (F : Fd K "law" "law" s_law [] f fd) (T : Tx K mg) (hsys : SysOk base)
    (c__law_cell : Cf P w K mg base (L2.CX P w) 1 "_law_cell" s__law_cell [] a__law_cell p__law_cell f__law_cell g__law_cell)
    (c__law_purse : Cf P w K mg base (L2.CX P w) 1 "_law_purse" s__law_purse [] a__law_purse p__law_purse f__law_purse g__law_purse)
    (c__law_take : Cf P w K mg base (L2.CX P w) 1 "_law_take" s__law_take [] a__law_take p__law_take f__law_take g__law_take)
    (c__law_rows : Cf P w K mg base (L2.CX P w) 4 "_law_rows" s__law_rows [] a__law_rows p_rowsR f__law_rows g__law_rows)
    (c__law_spare : Cf P w K mg base (L2.CX P w) 2 "_law_spare" s__law_spare [] a__law_spare p__law_spare f__law_spare g__law_spare)
    (c__law_heap : Cf P w K mg base (L2.CX P w) 6 "_law_heap" s__law_heap [] a__law_heap (p_heapR C_Heap C_Parcel C_Sides) f__law_heap g__law_heap)
    (c__law_names : Cf P w K mg base (L2.CX P w) 2 "_law_names" s__law_names [] a__law_names p__law_names f__law_names g__law_names)
    (c_fewest : Cf P w K mg base (L2.CX P w) 17 "fewest" s_fewest [.int 0] a_fewest (p_fewest C_Heap C_Parcel C_Sides) f_fewest g_fewest)
    (d_fewest1 : Bd K g_fewest a_fewest [.int 0])
    (c__law_right : Cf P w K mg base (L2.CX P w) 5 "_law_right" s__law_right [] a__law_right p_right30 f__law_right g__law_right)
    (c__law_asked_again : Cf P w K mg base (L2.CX P w) 18 "_law_asked_again" s__law_asked_again [] a__law_asked_again (p_again30 C_Heap C_Parcel C_Sides) f__law_asked_again g__law_asked_again)
    (c__law_deed : Cf P w K mg base (L2.CX P w) 8 "_law_deed" s__law_deed [] a__law_deed (p_deedN C_Heap C_Parcel C_Sides) f__law_deed g__law_deed)
    (k_Heap : Kl_Heap K mg C_Heap)
    (k_Parcel : Kl_Parcel K mg C_Parcel)
    (k_Sides : Kl_Sides K mg C_Sides) :
    FnG P w K mg base (L2.CX P w) 20 f fd a_law (spOf K p_law) := by
  have kc_Heap := k_Heap.ins.cl
  have ka_Heap_held := k_Heap.a_held
  have ka_Heap_told := k_Heap.a_told
  have ka_Heap_kind := k_Heap.a_kind
  have kc_Parcel := k_Parcel.ins.cl
  have ka_Parcel_called := k_Parcel.a_called
  have ka_Parcel_outside := k_Parcel.a_outside
  have ka_Parcel_thick := k_Parcel.a_thick
  have ka_Parcel_heavy := k_Parcel.a_heavy
  have ka_Parcel_strong := k_Parcel.a_strong
  have ka_Parcel_marks := k_Parcel.a_marks
  have ka_Parcel_told := k_Parcel.a_told
  have ka_Parcel_names := k_Parcel.a_names
  have kc_Sides := k_Sides.ins.cl
  have ka_Sides_three := k_Sides.a_three
  refine fn_val F sc_law (fun ds S G Y h => ?_) (fun cdv A hgd outer s H E hr px tk po ds S G Y h => ?_)
  · obtain ⟨ns, rfl, _⟩ := h
    rfl
  · obtain ⟨ns, rfl, hn, q⟩ := h
    refine ⟨_, (pss_cons (ps_for po rfl (pi_range1 (by rfl) T.b_range (pa_cons (pe_callB (c_max2 rfl) (by rfl) T.b_max (by decide +kernel) (pa_cons pe_int (pa_cons (pe_callB (c_min2 rfl) (by rfl) T.b_min (by decide +kernel) (pa_cons pe_int (pa_cons (pe_callB c_len (by rfl) T.b_len (by decide +kernel) (pa_cons (pv 0) pa_nil)) pa_nil))) pa_nil))) pa_nil)) (pg_name (i := 1) sc_law.nd rfl (Or.inl rfl))
      (pss_cons (ps_set (i := 2) sc_law.nd rfl (Or.inl rfl) (pe_cG c__law_purse.fn hgd (hr.mono (by decide)) (by rfl) c__law_purse.mg c__law_purse.kp c__law_purse.b .nil VS.pass0 (pa_cons (pe_cG c__law_cell.fn hgd (hr.mono (by decide)) (by rfl) c__law_cell.mg c__law_cell.kp c__law_cell.b .nil VS.pass0 (pa_cons (pv 0) (pa_cons (pv 1) pa_nil))) pa_nil)))
      (pss_cons (ps_set (i := 3) sc_law.nd rfl (Or.inl rfl) (pe_lst (pa_cons (pe_cG c__law_spare.fn hgd (hr.mono (by decide)) (by rfl) c__law_spare.mg c__law_spare.kp c__law_spare.b .nil VS.pass0 (pa_cons (pv 2) pa_nil)) (pa_cons (pe_cG c__law_spare.fn hgd (hr.mono (by decide)) (by rfl) c__law_spare.mg c__law_spare.kp c__law_spare.b .nil VS.pass0 (pa_cons (pv 2) pa_nil)) pa_nil))))
      (pss_cons (ps_set (i := 4) sc_law.nd rfl (Or.inl rfl) (pe_lst (pa_cons (pe_cG c__law_rows.fn hgd (hr.mono (by decide)) (by rfl) c__law_rows.mg c__law_rows.kp c__law_rows.b .nil VS.pass0 (pa_cons (pv 2) (pa_cons (pe_ix ix_list (pv 3) pe_int (fun _ _ => rfl)) pa_nil))) (pa_cons (pe_cG c__law_rows.fn hgd (hr.mono (by decide)) (by rfl) c__law_rows.mg c__law_rows.kp c__law_rows.b .nil VS.pass0 (pa_cons (pv 2) (pa_cons (pe_ix ix_list (pv 3) pe_int (fun _ _ => rfl)) pa_nil))) pa_nil))))
      (pss_cons (ps_set (i := 5) sc_law.nd rfl (Or.inl rfl) (pe_lst (pa_cons (pe_cG c__law_heap.fn hgd (hr.mono (by decide)) (by rfl) c__law_heap.mg c__law_heap.kp c__law_heap.b .nil VS.pass0 (pa_cons (pe_ix ix_list (pv 4) pe_int (fun _ _ => rfl)) pa_nil)) (pa_cons (pe_cG c__law_heap.fn hgd (hr.mono (by decide)) (by rfl) c__law_heap.mg c__law_heap.kp c__law_heap.b .nil VS.pass0 (pa_cons (pe_ix ix_list (pv 4) pe_int (fun _ _ => rfl)) pa_nil)) pa_nil))))
      (pss_cons (ps_set (i := 6) sc_law.nd rfl (Or.inr rfl) (pe_op op_cat (pe_lc (own := [("_law_row_here", 11)]) rfl sc_law.nd (pi_list (pe_ix ix_list (pv 4) pe_int (fun _ _ => rfl))) (blkOk_by (own := [("_law_row_here", 11)]) (N := n_law) (sc := defScope s_law) (by decide +kernel)) (fun _ _ _ _ _ => (pg_name (i := 11) sc_law.nd rfl (Or.inl rfl))) (fun _ _ _ _ _ => pts_nil) (fun _ _ _ _ _ => (pe_ix (kI (K := K) (r := rIxL) ix_list) (pv 11) pe_int (fun _ _ => rfl)))) (pe_cG c__law_names.fn hgd (hr.mono (by decide)) (by rfl) c__law_names.mg c__law_names.kp c__law_names.b .nil VS.pass0 (pa_cons (pv 2) (pa_cons pe_int pa_nil)))))
      (pss_cons (ps_set (i := 6) sc_law.nd rfl (Or.inr rfl) (pe_slice sl_list (pe_lc (own := [("_law_at", 8)]) rfl sc_law.nd (pi_range1 (by rfl) T.b_range (pa_cons (pe_callB c_len (by rfl) T.b_len (by decide +kernel) (pa_cons (pv 6) pa_nil)) pa_nil)) (blkOk_by (own := [("_law_at", 8)]) (N := n_law) (sc := defScope s_law) (by decide +kernel)) (fun _ _ _ _ _ => (pg_name (i := 8) sc_law.nd rfl (Or.inl rfl))) (fun _ _ _ _ _ => (pts_one (pt_cmpR (kO (K := K) (r := (fun K => rIn K true)) op_notIn_seq) (pe_ix (kI (K := K) (r := rIxL) ix_list) (pv 6) (pv 8) (fun _ _ => rfl)) (pe_slice (VS.kSl (K := K) (r := rSlL) sl_list) (pv 6) po_none (po_some (pv 8))) (by rfl)))) (fun _ _ _ _ _ => (pe_ix (kI (K := K) (r := rIxL) ix_list) (pv 6) (pv 8) (fun _ _ => rfl)))) po_none (po_some pe_int)))
      (pss_cons (ps_for po rfl (pi_range1 (by rfl) T.b_range (pa_cons pe_int pa_nil)) (pg_name (i := 7) sc_law.nd rfl (Or.inl rfl))
      (pss_cons (ps_set (i := 8) sc_law.nd rfl (Or.inl rfl) (pe_ix ix_list (pe_lst (pa_cons pe_int (pa_cons pe_int (pa_cons pe_int (pa_cons pe_int (pa_cons pe_int pa_nil)))))) (pv 7) (fun _ _ => rfl)))
      (pss_cons (ps_set (i := 9) sc_law.nd rfl (Or.inl rfl) (pe_ix ix_list (pv 3) (pe_ix ix_list (pe_lst (pa_cons pe_int (pa_cons pe_int (pa_cons pe_int (pa_cons pe_int (pa_cons pe_int pa_nil)))))) (pv 7) (fun _ _ => rfl)) (fun _ _ => rfl)))
      (pss_cons (ps_set (i := 10) sc_law.nd rfl (Or.inl rfl) (pe_cG c_fewest.fn hgd (hr.mono (by decide)) (by rfl) c_fewest.mg c_fewest.kp c_fewest.b .nil VS.pass0 (pa_cons (pe_ix ix_list (pv 5) (pv 8) (fun _ _ => rfl)) (pa_cons (pv 9) pa_nil))))
      (pss_cons (ps_if (pt_not (pt_val (pe_cG c__law_right.fn hgd (hr.mono (by decide)) (by rfl) c__law_right.mg c__law_right.kp c__law_right.b .nil VS.pass0 (pa_cons (pe_ix ix_list (pv 4) (pv 8) (fun _ _ => rfl)) (pa_cons (pv 9) (pa_cons (pv 10) pa_nil)))))) (pss_one (ps_ret pe_bl))
      pss_nil)
      (pss_cons (ps_if (pt_not (pt_val (pe_cG c__law_asked_again.fn hgd (hr.mono (by decide)) (by rfl) c__law_asked_again.mg c__law_asked_again.kp c__law_asked_again.b .nil VS.pass0 (pa_cons (pe_ix ix_list (pv 4) (pv 8) (fun _ _ => rfl)) (pa_cons (pe_ix ix_list (pv 5) (pv 8) (fun _ _ => rfl)) (pa_cons (pv 9) (pa_cons (pv 10) pa_nil))))))) (pss_one (ps_ret pe_bl))
      pss_nil)
      (pss_one (ps_if (pt_cmpR op_eq (pv 8) pe_int (nomark _)) (pss_one (ps_expr (pe_cG c__law_deed.fn hgd (hr.mono (by decide)) (by rfl) c__law_deed.mg c__law_deed.kp c__law_deed.b .nil VS.pass0 (pa_cons (pv 2) (pa_cons (pe_ix ix_list (pv 4) pe_int (fun _ _ => rfl)) (pa_cons (pe_ix ix_list (pv 5) pe_int (fun _ _ => rfl)) (pa_cons (pv 6) (pa_cons (pv 9) pa_nil))))))))
      pss_nil))))))))
      (pss_one (ps_if (pt_not (pt_val (pe_cG c__law_right.fn hgd (hr.mono (by decide)) (by rfl) c__law_right.mg c__law_right.kp c__law_right.b .nil VS.pass0 (pa_cons (pe_ix ix_list (pv 4) pe_int (fun _ _ => rfl)) (pa_cons pe_int (pa_cons (pe_cG c_fewest.fn hgd (hr.mono (by decide)) (by rfl) c_fewest.mg c_fewest.kp d_fewest1.b d_fewest1.v VS.pass0 (pa_cons (pe_ix ix_list (pv 5) pe_int (fun _ _ => rfl)) pa_nil)) pa_nil)))))) (pss_one (ps_ret pe_bl))
      pss_nil))))))))))
      (pss_one (ps_ret pe_bl))), ?_⟩
    (try dsimp only [cxOf, List.map])
    show VX _ _ [_, _, _, _, _, _, _, _, _, _, _, _] _ _
    walk_at "gr"
    refine vx_for (vi_cells (by decide) (by decide) (by decide) rfl fun j j0 j1 => ?_)
    refine ⟨fun i ρ2 S2 => ∃ x1 x2 x3 x4 x5 x6 x7 x8 x9 x10 x11, ρ2 = [some (.rol (ns.map .int)), x1, x2, x3, x4, x5, x6, x7, x8, x9, x10, x11], ⟨_, _, _, _, _, _, _, _, _, _, _, rfl⟩, ?_, ?_⟩
    · rintro i0 d_ _ S2 hd_ ⟨x1, x2, x3, x4, x5, x6, x7, x8, x9, x10, x11, rfl⟩
      obtain ⟨rfl, hi⟩ := rngD_at hd_
      walk_at "gr"
      intro p S3 hp0 h3 o3
      clear o3 hp0
      walk_at "gr"
      refine ve_lst ?_
      walk_at "gr"
      refine ⟨p, _, rfl, h3, by decide, fun sp0 S4 a0 a1 h4 o4 => ?_⟩
      clear h3 o4
      walk_at "gr"
      refine ⟨p, _, rfl, h4, by decide, fun sp1 S5 b0 b1 h5 o5 => ?_⟩
      clear h4 o5
      walk_at "gr"
      refine ve_lst ?_
      walk_at "gr"
      refine ⟨p, _, sp0, rfl, h5, by decide, a0, a1, fun l0 rs0 S6 hr0 nl npl hl h6 o6 => ?_⟩
      have w1 := (Wd.of h5).new1 nl h6 o6 hl
      clear h5 h6 o6 nl npl hl
      walk_at "gr"
      refine ⟨p, _, sp1, rfl, w1.pu, by decide, b0, b1, fun l1 rs1 S7 hr1 nl npl hl h7 o7 => ?_⟩
      have w2 := w1.new1 nl h7 o7 hl
      clear w1 h7 o7 nl npl hl
      walk_at "gr"
      refine ve_lst ?_
      walk_at "gr"
      refine ⟨l0, rs0, rfl, w2.get 1 rfl, hr0, fun h0 k0 S8 nh nk x8' hs8 => ?_⟩
      have w3 := w2.newE2 nh nk hs8.ne x8' hs8.1 hs8.2
      clear w2 nh nk x8' hs8
      walk_at "gr"
      refine ⟨l1, rs1, rfl, w3.get 2 rfl, hr1, fun h1 k1 S9 nh nk x9' hs9 => ?_⟩
      have w4 := w3.newE2 nh nk hs9.ne x9' hs9.1 hs9.2
      clear w3 nh nk x9' hs9
      obtain ⟨l, rfl, rfl⟩ : ∃ l : Bool → Addr, l0 = l false ∧ l1 = l true := ⟨fun c => cond c l1 l0, rfl, rfl⟩
      obtain ⟨h, rfl, rfl⟩ : ∃ h : Bool → Addr, h0 = h false ∧ h1 = h true := ⟨fun c => cond c h1 h0, rfl, rfl⟩
      obtain ⟨k, rfl, rfl⟩ : ∃ k : Bool → Addr, k0 = k false ∧ k1 = k true := ⟨fun c => cond c k1 k0, rfl, rfl⟩
      obtain ⟨rs, rfl, rfl⟩ : ∃ rs : Bool → List Pc, rs0 = rs false ∧ rs1 = rs true := ⟨fun c => cond c rs1 rs0, rfl, rfl⟩
      obtain ⟨sp, rfl, rfl⟩ : ∃ sp : Bool → Int, sp0 = sp false ∧ sp1 = sp true := ⟨fun c => cond c sp1 sp0, rfl, rfl⟩
      have w5 : Wd S9 p 2100 (wL8 C_Heap C_Parcel C_Sides l h k rs) := (w4.perm (perm6 _ _ _ _ _ _)).mono (by decide)
      clear w4
      have hr : ∀ b, Hrs (rs b) := fun b => by cases b; exact hr0; exact hr1
      have hsp : ∀ b, 0 ≤ sp b ∧ sp b ≤ 1000 := fun b => by cases b; exact ⟨a0, a1⟩; exact ⟨b0, b1⟩
      clear hr0 hr1 a0 a1 b0 b1
      walk_at "gr"
      have n0 := (hr false).l
      refine ve_lcCellM fstD (l := l false) (ds := (rs false).map rwD) ?_ (w5.get 0 rfl) (by rw [List.length_map]; omega) (fun d hd => ?_) ?_
      · walk_at "gr"
        exact ⟨rfl, rfl⟩
      · obtain ⟨y, _, rfl⟩ := List.mem_map.mp hd
        walk_at "gr"
        refine ⟨rfl, ?_⟩
        walk_at "gr"
        exact ⟨rfl, rfl⟩
      rw [fst_rows]
      walk_at "gr"
      refine ⟨p, 2100, 12, rfl, w5.pu, by decide, by decide, by decide, fun zs S10 zl zg _ h10 o10 => ?_⟩
      have w6 := w5.ex1 h10 o10
      clear w5 h10 o10
      have hcl : ((rs false).map Pc.nm ++ zs).length = (rs false).length + 12 := by rw [List.length_append, List.length_map]; omega
      refine rv_cat .v .v (by rw [List.length_map, List.length_map, List.length_map]; have := szl; omega) ?_
      rw [← List.map_append]
      walk_at "gr"
      obtain ⟨R, hR, eR⟩ := firsts ((rs false).map Pc.nm) zs (hr false).n
      obtain ⟨cl, ecl⟩ : ∃ cl, cl = (rs false).map Pc.nm ++ zs := ⟨_, rfl⟩
      rw [← ecl] at hcl hR eR ⊢
      refine ve_lcF (fsP cl) (fsF cl) (vi_rng1 ?_)
      walk_at "ga"
      have lm : (cl.map D.str).length = cl.length := List.length_map ..
      refine ⟨_, rfl, by rw [lm, hcl]; omega, by rw [rngD_len, lm, hcl]; omega, fun d hd => ?_, ?_⟩
      · obtain ⟨i, hi'⟩ := List.getElem?_of_mem hd
        obtain ⟨rfl, hlt⟩ := rngD_at hi'
        rw [lm] at hlt
        obtain ⟨z, hz⟩ : ∃ z, cl[i]? = some z := ⟨_, List.getElem?_eq_getElem (by omega)⟩
        have ez : cl.getD ((i : Nat) : Int).toNat "" = z := by rw [List.getD_eq_getElem?_getD, show ((i : Nat) : Int).toNat = i from rfl, hz]; rfl
        walk_at "ga"
        refine rv_ixL .v (d := .str z) (atI_nat (j := i) (by rw [List.getElem?_map, hz]; rfl)) ?_
        walk_at "ga"
        rw [cut_tk, ← List.map_take]
        refine rv_in (.l .v) rfl (flat_strs _) ?_
        rw [inD_strs]
        walk_at "ga"
        refine ⟨?_, fun _ => rfl, fun _ => ?_⟩
        · show _ = !decide (cl.getD ((i : Nat) : Int).toNat "" ∈ cl.take ((i : Nat) : Int).toNat)
          rw [ez]
          rfl
        · walk_at "ga"
          refine rv_ixL .v (d := .str z) (atI_nat (j := i) (by rw [List.getElem?_map, hz]; rfl)) ?_
          refine ⟨?_, rfl⟩
          show _ = D.str (cl.getD ((i : Nat) : Int).toNat "")
          rw [ez]
      have e12 : (((cl.map D.str).length : Int)).toNat = ((rs false).map Pc.nm).length + zs.length := by rw [lm, hcl, List.length_map]; omega
      rw [e12, eR]
      walk_at "ga"
      rw [show (12 : Int) = ((12 : Nat) : Int) from rfl, cut_tk, ← List.map_take]
      obtain ⟨cs, ecs⟩ : ∃ cs, cs = (((rs false).map Pc.nm) ++ R).take 12 := ⟨_, rfl⟩
      rw [← ecs]
      have lA : ((rs false).map Pc.nm).length ≤ 12 := by rw [List.length_map]; exact n0
      have csA : ∀ z ∈ (rs false).map Pc.nm, z ∈ cs := fun z hz => by
        rw [ecs, List.take_append, List.take_of_length_le lA]
        exact List.mem_append_left _ hz
      have csl : cs.length ≤ 12 := by rw [ecs, List.length_take]; omega
      have csg : ∀ z ∈ cs, Nm z := fun z hz => by
        rw [ecs] at hz
        have clg : ∀ z ∈ cl, Nm z := fun z hz => by
          rw [ecl] at hz
          rcases List.mem_append.mp hz with h1 | h1
          · obtain ⟨r, hr1, rfl⟩ := List.mem_map.mp h1
            exact Nm.of ((hr false).g r hr1).1.gn
          · exact zg z h1
        rcases List.mem_append.mp (List.mem_of_mem_take hz) with h1 | h1
        · exact clg z (by rw [ecl]; exact List.mem_append_left _ h1)
        · exact clg z (hR z h1)
      have csn : cs ≠ [] := fun z => by
        have h0 : (D.int 0) ∈ (rngD 0 (((rs false).map Pc.nm).length + zs.length)).filter (fsP cl) := by
          refine List.mem_filter.mpr ⟨?_, ?_⟩
          · unfold rngD
            exact List.mem_map.mpr ⟨0, List.mem_range.mpr (by omega), rfl⟩
          · show (!decide (cl.getD 0 "" ∈ cl.take 0)) = true
            rw [List.take_zero, decide_eq_false (by simp)]
            rfl
        have h1 : ((rs false).map Pc.nm ++ R) = [] := by
          rw [z] at ecs
          cases e : ((rs false).map Pc.nm ++ R) with
          | nil => rfl
          | cons a t => rw [e] at ecs; cases ecs
        rw [h1] at eR
        have h2 := List.map_eq_nil_iff.mp eR
        rw [h2] at h0
        cases h0
      clear ecs eR hR ecl hcl lm e12 zg zl
      refine vx_for (vi_rng1 ?_)
      walk_at "gr"
      refine ⟨5, rfl, by decide, fun i ρ2 S2 => ∃ (rs0 : Bool → List Pc) (x7 x8 x9 x10 : Option D), Wd S2 p (2200 + 200 * (i : Nat)) (wL8 C_Heap C_Parcel C_Sides l h k rs0) ∧ (∀ b, Hrs (rs0 b)) ∧ (∀ z ∈ (rs0 false).map Pc.nm, z ∈ cs) ∧ i ≤ 5 ∧ ρ2 = [some (.rol (ns.map .int)), some (.int (i0 : Nat)), some (.ref p), some (.lst [.int (sp false), .int (sp true)]), some (.lst [.ref (l false), .ref (l true)]), some (.lst [.ref (h false), .ref (h true)]), some (.lst (cs.map D.str)), x7, x8, x9, x10, x11], ⟨rs, x7, x8, x9, x10, w6.mono (by show (2120 : Int) ≤ 2200 + 200 * ((0 : Nat) : Int); omega), hr, csA, by decide, rfl⟩, ?_, ?_⟩
      · clear w6 hr csA n0 lA
        rintro i dd _ S11 hdd ⟨rs0, x7, x8, x9, x10, w, hr, csA, i5, rfl⟩
        obtain ⟨rfl, hi2⟩ := rngD_at hdd
        have i6 : i < 5 := by omega
        obtain ⟨b, c, eb, ec⟩ := turns28 i6
        walk_at "gr"
        refine ve_lst ?_
        walk_at "gr"
        refine rv_ixL .v eb ?_
        walk_at "gr"
        refine ve_lst ?_
        walk_at "gr"
        refine rv_ixL .v ec ?_
        walk_at "gr"
        refine rv_ixL .v (at_b (fun b => .int (sp b)) c) ?_
        walk_at "gr"
        refine rv_ixL .v (at_b (fun b => .ref (h b)) b) ?_
        walk_at "gr"
        have hsb : HpS S11 C_Heap C_Parcel C_Sides (h b) (k b) (rs0 b) := w.hp (i8 b + 1) (i8 b + 2) (w8_h b) (w8_k b)
        refine ⟨h b, k b, sp c, rs0 b, rfl, hsb, (hr b).hps, (hsp c).1, (hsp c).2, fun d5 e5 as S12 nd ne nde nea la na da sa x12 cd ca ce => ?_⟩
        have w12 := w.ext x12
        have fd : FdR S12 (sp c) (rs0 b) d5 e5 as := ⟨la, na, da, nea, nde, cd, ca, ce⟩
        have hn : ∀ a ∈ d5 :: e5 :: as, S11 a = none := fun a ha => by
          rcases List.mem_cons.mp ha with rfl | ha
          · exact nd
          · rcases List.mem_cons.mp ha with rfl | ha
            · exact ne
            · exact sa a ha
        refine vg_name ?_
        refine vx_seq (vx_if ?_)
        walk_at "gr"
        refine rv_ixL .v (at_b (fun b => .ref (l b)) b) ?_
        walk_at "gr"
        refine ⟨rs0 b, sp c, _, _, _, rfl, .c (w12.get _ (w8_l b)) nofun .v, fd.vd, hr b, (hsp c).1, ?_⟩
        walk_at "gr"
        refine rv_ixL .v (at_b (fun b => .ref (l b)) b) ?_
        walk_at "gr"
        refine rv_ixL .v (at_b (fun b => .ref (h b)) b) ?_
        walk_at "gr"
        have gl := w.get _ (w8_l b)
        have gh := w.get _ (w8_h b)
        have gk := w.get _ (w8_k b)
        refine ⟨l b, h b, k b, d5, e5, as, sp c, rs0 b, rfl, w12.get _ (w8_l b), w12.hp (i8 b + 1) (i8 b + 2) (w8_h b) (w8_k b), fd, fun a ha => ⟨ne_at gl (hn a ha), ne_at gh (hn a ha), ne_at gk (hn a ha)⟩, hr b, (hsp c).1, (hsp c).2, fun S13 fr => ?_⟩
        have w13 := Wd.frs w w12 hn fr
        clear w w12 fr gl gh gk hsb x12 cd ca ce fd hn
        walk_at "gr"
        cases b with
        | true =>
          refine ⟨fun e => absurd e (by decide), fun _ => ?_⟩
          walk_at "gr"
          exact ⟨rs0, _, _, _, _, w13.mono (by omega), hr, csA, i6, rfl⟩
        | false =>
          refine ⟨fun _ => ?_, fun e => absurd e (by decide)⟩
          walk_at "gr"
          refine ⟨p, l false, h false, k false, _, sp c, rs0 false, cs, _, rfl, w13, by omega, (hsp c).1, (hsp c).2, hr false, csn, csl, csg, csA, fun rs' S14 hr' hc' w14 => ?_⟩
          walk_at "gr"
          exact ⟨fun b => cond b (rs0 true) rs', _, _, _, _, w14.mono (by omega), fun b => by cases b; exact hr'; exact hr true, hc', i6, rfl⟩
      · rintro _ S11 ⟨rs0, x7, x8, x9, x10, w, hr, csA, i5, rfl⟩
        refine vx_if ?_
        walk_at "gr"
        refine ve_fd (dds := [.int 0]) (XOk.none (E := noE)) (fun _ _ => .cons (.int _) .nil) ?_
        walk_at "gr"
        refine ⟨h true, k true, 0, rs0 true, rfl, w.hp (i8 true + 1) (i8 true + 2) (w8_h true) (w8_k true), (hr true).hps, by decide, by decide, fun d5 e5 as S12 nd ne nde nea la na da sa x12 cd ca ce => ?_⟩
        have w12 := w.ext x12
        have fd : FdR S12 0 (rs0 true) d5 e5 as := ⟨la, na, da, nea, nde, cd, ca, ce⟩
        walk_at "gr"
        refine ⟨rs0 true, 0, _, _, _, rfl, .c (w12.get _ (w8_l true)) nofun .v, fd.vd, hr true, by decide, ?_⟩
        walk_at "gr"
        exact ⟨_, _, _, _, _, _, _, _, _, _, _, rfl⟩
    · rintro _ S2 ⟨x1, x2, x3, x4, x5, x6, x7, x8, x9, x10, x11, rfl⟩
      walk_at "gr"
      exact q _
end
end LW
namespace LW
open PySem L2 C8 PySem.Spec PyProof.Rows
theorem fd_mk {K : PySem.W.Frag} {x qual : Str} {st : Stmt} {f : Addr} {od an : Option Addr} {sl : Array (Option Value)} {oc kV dc pm cd ct : Value}
    (l : K.lookup f = some ⟨oc, od, .func (PySem.W.fnOf x qual (defArgs st) (defBody st) (defScope st) .none kV dc pm an cd ct), sl⟩) (c : PySem.W.codeIn K cd qual = true) (k : PySem.W.keepIn K (.ref f) = true) : VS.Fd K x qual st [] f (PySem.W.fnOf x qual (defArgs st) (defBody st) (defScope st) .none kV dc pm an cd ct) :=
  ⟨⟨oc, od, .none, kV, dc, pm, an, cd, ct, sl, rfl, l, c, .inl ⟨rfl, rfl⟩, .inl rfl⟩, k⟩
theorem fd_mkD {K : PySem.W.Frag} {x qual : Str} {st : Stmt} {dvs : List V} {its : Array Value} {f T : Addr} {od an dd : Option Addr} {sl ds : Array (Option Value)} {oc kV dc pm cd ct dc2 : Value} {dn : Nat}
    (l : K.lookup f = some ⟨oc, od, .func (PySem.W.fnOf x qual (defArgs st) (defBody st) (defScope st) (.ref T) kV dc pm an cd ct), sl⟩) (c : PySem.W.codeIn K cd qual = true) (k : PySem.W.keepIn K (.ref f) = true) (hd : dvs ≠ [])
    (lT : K.lookup T = some ⟨dc2, dd, .seq its dn, ds⟩) (v : Vals dvs its.toList) : VS.Fd K x qual st dvs f (PySem.W.fnOf x qual (defArgs st) (defBody st) (defScope st) (.ref T) kV dc pm an cd ct) :=
  ⟨⟨oc, od, .ref T, kV, dc, pm, an, cd, ct, sl, rfl, l, c, .inr ⟨hd, T, _, its.toList, dn, rfl, lT, by simp, v⟩, .inl rfl⟩, k⟩
theorem all_mk {l : PySem.W.OpenLaw} {w : World} {K : PySem.W.Frag} {h : Heap} {mg : Str → Option Value} {fa C_Sides C_Parcel C_Heap C_NoNumber C_NoSide BNoNumber_0 fXNoNumber BNoSide_0 fXNoSide f0 f1 f2 f3 f4 f5 f6 f7 f8 T8 f9 f10 f11 f12 f13 f14 f15 f16 f17 f18 T18 f19 f20 f21 f22 f23 T23 f24 f25 f26 f27 f28 T28 f29 f30 f31 f32 f33 f34 f35 f36 f37 f38 f39 f40 f41 f42 f43 f44 f45 f46 f47 f48 f49 : Addr} (X : K.In h) (G : h.Ns mainGlobals mg) (hfa : mg "law" = some (.ref fa))
    (aKSides : PySem.W.nsIn K mainGlobals "Sides" = some (some (.ref C_Sides)))
    (pgKSides : PySem.W.plainGet K C_Sides Str.empty = true)
    (hdKSides : PySem.W.hasDictIn K C_Sides = true)
    (poKSides : PySem.W.plainOver K C_Sides = true)
    (saKSides : PySem.W.findIn K (.ref C_Sides) "__setattr__" = some (some (.builtin "object.__setattr__")))
    (haKSides : PySem.W.findIn K (.ref C_Sides) "__class__" = some (some (.builtin "object.__class__")))
    (hmKSides : PySem.W.mroIn K C_Sides (.type "object") = some true)
    (icKSides : PySem.W.isClsIn K C_Sides = true)
    (tcKSides : PySem.W.typeIn K (.ref C_Sides) = some (.type "type"))
    (nKSides_three : PySem.W.findIn K (.ref C_Sides) "three" = some none)
    (zKSides_int : PySem.W.subIn K (.type "int") (.ref C_Sides) = some false)
    (zKSides_bool : PySem.W.subIn K (.type "bool") (.ref C_Sides) = some false)
    (zKSides_str : PySem.W.subIn K (.type "str") (.ref C_Sides) = some false)
    (zKSides_NoneType : PySem.W.subIn K (.type "NoneType") (.ref C_Sides) = some false)
    (zKSides_list : PySem.W.subIn K (.type "list") (.ref C_Sides) = some false)
    (zKSides_tuple : PySem.W.subIn K (.type "tuple") (.ref C_Sides) = some false)
    (zKSides_dict : PySem.W.subIn K (.type "dict") (.ref C_Sides) = some false)
    (aKParcel : PySem.W.nsIn K mainGlobals "Parcel" = some (some (.ref C_Parcel)))
    (pgKParcel : PySem.W.plainGet K C_Parcel Str.empty = true)
    (hdKParcel : PySem.W.hasDictIn K C_Parcel = true)
    (poKParcel : PySem.W.plainOver K C_Parcel = true)
    (saKParcel : PySem.W.findIn K (.ref C_Parcel) "__setattr__" = some (some (.builtin "object.__setattr__")))
    (haKParcel : PySem.W.findIn K (.ref C_Parcel) "__class__" = some (some (.builtin "object.__class__")))
    (hmKParcel : PySem.W.mroIn K C_Parcel (.type "object") = some true)
    (icKParcel : PySem.W.isClsIn K C_Parcel = true)
    (tcKParcel : PySem.W.typeIn K (.ref C_Parcel) = some (.type "type"))
    (nKParcel_called : PySem.W.findIn K (.ref C_Parcel) "called" = some none)
    (nKParcel_outside : PySem.W.findIn K (.ref C_Parcel) "outside" = some none)
    (nKParcel_thick : PySem.W.findIn K (.ref C_Parcel) "thick" = some none)
    (nKParcel_heavy : PySem.W.findIn K (.ref C_Parcel) "heavy" = some none)
    (nKParcel_strong : PySem.W.findIn K (.ref C_Parcel) "strong" = some none)
    (nKParcel_marks : PySem.W.findIn K (.ref C_Parcel) "marks" = some none)
    (nKParcel_told : PySem.W.findIn K (.ref C_Parcel) "told" = some none)
    (nKParcel_names : PySem.W.findIn K (.ref C_Parcel) "names" = some none)
    (zKParcel_int : PySem.W.subIn K (.type "int") (.ref C_Parcel) = some false)
    (zKParcel_bool : PySem.W.subIn K (.type "bool") (.ref C_Parcel) = some false)
    (zKParcel_str : PySem.W.subIn K (.type "str") (.ref C_Parcel) = some false)
    (zKParcel_NoneType : PySem.W.subIn K (.type "NoneType") (.ref C_Parcel) = some false)
    (zKParcel_list : PySem.W.subIn K (.type "list") (.ref C_Parcel) = some false)
    (zKParcel_tuple : PySem.W.subIn K (.type "tuple") (.ref C_Parcel) = some false)
    (zKParcel_dict : PySem.W.subIn K (.type "dict") (.ref C_Parcel) = some false)
    (aKHeap : PySem.W.nsIn K mainGlobals "Heap" = some (some (.ref C_Heap)))
    (pgKHeap : PySem.W.plainGet K C_Heap Str.empty = true)
    (hdKHeap : PySem.W.hasDictIn K C_Heap = true)
    (poKHeap : PySem.W.plainOver K C_Heap = true)
    (saKHeap : PySem.W.findIn K (.ref C_Heap) "__setattr__" = some (some (.builtin "object.__setattr__")))
    (haKHeap : PySem.W.findIn K (.ref C_Heap) "__class__" = some (some (.builtin "object.__class__")))
    (hmKHeap : PySem.W.mroIn K C_Heap (.type "object") = some true)
    (icKHeap : PySem.W.isClsIn K C_Heap = true)
    (tcKHeap : PySem.W.typeIn K (.ref C_Heap) = some (.type "type"))
    (nKHeap_held : PySem.W.findIn K (.ref C_Heap) "held" = some none)
    (nKHeap_told : PySem.W.findIn K (.ref C_Heap) "told" = some none)
    (nKHeap_kind : PySem.W.findIn K (.ref C_Heap) "kind" = some none)
    (hnO : PySem.W.specialIn K (.builtin "object.__class__") "__get__" = some (some (.builtin "getset_descriptor.__get__"))) (htkO : PySem.W.takesIn K (.builtin "object.__class__") = some true)
    {nmXNoNumber qnXNoNumber : Str} {NXNoNumber : Addr} {bsXNoNumber : List Value} {snXNoNumber : List Str} {suXNoNumber : List Value} {abXNoNumber : Bool} {coXNoNumber : Option Bool} {ddXNoNumber : Option Addr} {k0XNoNumber k1XNoNumber k2XNoNumber k3XNoNumber k5XNoNumber : Option Value}
    (aXNoNumber : PySem.W.nsIn K mainGlobals "NoNumber" = some (some (.ref C_NoNumber)))
    (xXNoNumber : K.lookup C_NoNumber = some (excClassObj nmXNoNumber qnXNoNumber C_NoNumber NXNoNumber bsXNoNumber [.ref BNoNumber_0, .type "ValueError", .type "Exception", .type "BaseException", .type "object"] true snXNoNumber suXNoNumber abXNoNumber coXNoNumber ddXNoNumber k0XNoNumber k1XNoNumber k2XNoNumber k3XNoNumber k5XNoNumber "ValueError.__new__"))
    (saXNoNumber : PySem.W.findIn K (.ref C_NoNumber) "__setattr__" = some (some (.builtin "object.__setattr__")))
    (gaXNoNumber : PySem.W.findIn K (.ref C_NoNumber) "__getattribute__" = some (some (.builtin "BaseException.__getattribute__")))
    (ggXNoNumber : PySem.W.findIn K (.ref C_NoNumber) "__getattr__" = some none)
    (noXNoNumber : PySem.W.findIn K (.ref C_NoNumber) "found" = some none)
    (exXNoNumber : PySem.W.subIn K (.ref C_NoNumber) (.type "BaseException") = some true)
    (tyXNoNumber : PySem.W.typeIn K (.ref C_NoNumber) = some (.type "type"))
    (kcXNoNumber : PySem.W.keepIn K (.ref C_NoNumber) = true)
    (hdXNoNumber : PySem.W.hasDictIn K C_NoNumber = true)
    (iXNoNumber : PySem.W.findIn K (.ref C_NoNumber) "__init__" = some (some (.ref fXNoNumber))) (tXNoNumber : PySem.W.typeIn K (.ref fXNoNumber) = some (.type "function"))
    {odXNoNumber anXNoNumber : Option Addr} {slXNoNumber : Array (Option Value)} {ocXNoNumber kVXNoNumber dcXNoNumber pmXNoNumber cdXNoNumber ctXNoNumber : Value}
    (lXNoNumber : K.lookup fXNoNumber = some ⟨ocXNoNumber, odXNoNumber, .func (PySem.W.fnOf "__init__" "NoNumber.__init__" (defArgs s_NoNumber___init__) (defBody s_NoNumber___init__) (defScope s_NoNumber___init__) .none kVXNoNumber dcXNoNumber pmXNoNumber anXNoNumber cdXNoNumber ctXNoNumber), slXNoNumber⟩) (cXNoNumber : PySem.W.codeIn K cdXNoNumber "NoNumber.__init__" = true) (kXNoNumber : PySem.W.keepIn K (.ref fXNoNumber) = true)
    {nmXNoSide qnXNoSide : Str} {NXNoSide : Addr} {bsXNoSide : List Value} {snXNoSide : List Str} {suXNoSide : List Value} {abXNoSide : Bool} {coXNoSide : Option Bool} {ddXNoSide : Option Addr} {k0XNoSide k1XNoSide k2XNoSide k3XNoSide k5XNoSide : Option Value}
    (aXNoSide : PySem.W.nsIn K mainGlobals "NoSide" = some (some (.ref C_NoSide)))
    (xXNoSide : K.lookup C_NoSide = some (excClassObj nmXNoSide qnXNoSide C_NoSide NXNoSide bsXNoSide [.ref BNoSide_0, .type "ValueError", .type "Exception", .type "BaseException", .type "object"] true snXNoSide suXNoSide abXNoSide coXNoSide ddXNoSide k0XNoSide k1XNoSide k2XNoSide k3XNoSide k5XNoSide "ValueError.__new__"))
    (saXNoSide : PySem.W.findIn K (.ref C_NoSide) "__setattr__" = some (some (.builtin "object.__setattr__")))
    (gaXNoSide : PySem.W.findIn K (.ref C_NoSide) "__getattribute__" = some (some (.builtin "BaseException.__getattribute__")))
    (ggXNoSide : PySem.W.findIn K (.ref C_NoSide) "__getattr__" = some none)
    (noXNoSide : PySem.W.findIn K (.ref C_NoSide) "found" = some none)
    (exXNoSide : PySem.W.subIn K (.ref C_NoSide) (.type "BaseException") = some true)
    (tyXNoSide : PySem.W.typeIn K (.ref C_NoSide) = some (.type "type"))
    (kcXNoSide : PySem.W.keepIn K (.ref C_NoSide) = true)
    (hdXNoSide : PySem.W.hasDictIn K C_NoSide = true)
    (iXNoSide : PySem.W.findIn K (.ref C_NoSide) "__init__" = some (some (.ref fXNoSide))) (tXNoSide : PySem.W.typeIn K (.ref fXNoSide) = some (.type "function"))
    {odXNoSide anXNoSide : Option Addr} {slXNoSide : Array (Option Value)} {ocXNoSide kVXNoSide dcXNoSide pmXNoSide cdXNoSide ctXNoSide : Value}
    (lXNoSide : K.lookup fXNoSide = some ⟨ocXNoSide, odXNoSide, .func (PySem.W.fnOf "__init__" "NoSide.__init__" (defArgs s_NoSide___init__) (defBody s_NoSide___init__) (defScope s_NoSide___init__) .none kVXNoSide dcXNoSide pmXNoSide anXNoSide cdXNoSide ctXNoSide), slXNoSide⟩) (cXNoSide : PySem.W.codeIn K cdXNoSide "NoSide.__init__" = true) (kXNoSide : PySem.W.keepIn K (.ref fXNoSide) = true)
    (a0 : PySem.W.nsIn K mainGlobals "is_whole" = some (some (.ref f0)))
    {od0 an0 : Option Addr} {sl0 : Array (Option Value)} {oc0 kV0 dc0 pm0 cd0 ct0 : Value}
    (l0 : K.lookup f0 = some ⟨oc0, od0, .func (PySem.W.fnOf "is_whole" "is_whole" (defArgs s_is_whole) (defBody s_is_whole) (defScope s_is_whole) .none kV0 dc0 pm0 an0 cd0 ct0), sl0⟩) (c0 : PySem.W.codeIn K cd0 "is_whole" = true) (k0 : PySem.W.keepIn K (.ref f0) = true)
    (a1 : PySem.W.nsIn K mainGlobals "is_name" = some (some (.ref f1)))
    {od1 an1 : Option Addr} {sl1 : Array (Option Value)} {oc1 kV1 dc1 pm1 cd1 ct1 : Value}
    (l1 : K.lookup f1 = some ⟨oc1, od1, .func (PySem.W.fnOf "is_name" "is_name" (defArgs s_is_name) (defBody s_is_name) (defScope s_is_name) .none kV1 dc1 pm1 an1 cd1 ct1), sl1⟩) (c1 : PySem.W.codeIn K cd1 "is_name" = true) (k1 : PySem.W.keepIn K (.ref f1) = true)
    (a2 : PySem.W.findIn K (.ref C_Sides) "__init__" = some (some (.ref f2))) (i2 : PySem.W.isFn K (.ref f2) = true)
    {od2 an2 : Option Addr} {sl2 : Array (Option Value)} {oc2 kV2 dc2 pm2 cd2 ct2 : Value}
    (l2 : K.lookup f2 = some ⟨oc2, od2, .func (PySem.W.fnOf "__init__" "Sides.__init__" (defArgs s_Sides___init__) (defBody s_Sides___init__) (defScope s_Sides___init__) .none kV2 dc2 pm2 an2 cd2 ct2), sl2⟩) (c2 : PySem.W.codeIn K cd2 "Sides.__init__" = true) (k2 : PySem.W.keepIn K (.ref f2) = true)
    (mk2 : PySem.W.makesIn K C_Sides = true) (kc2 : PySem.W.keepIn K (.ref C_Sides) = true)
    (a3 : PySem.W.findIn K (.ref C_Sides) "told" = some (some (.ref f3))) (i3 : PySem.W.isFn K (.ref f3) = true)
    {od3 an3 : Option Addr} {sl3 : Array (Option Value)} {oc3 kV3 dc3 pm3 cd3 ct3 : Value}
    (l3 : K.lookup f3 = some ⟨oc3, od3, .func (PySem.W.fnOf "told" "Sides.told" (defArgs s_Sides_told) (defBody s_Sides_told) (defScope s_Sides_told) .none kV3 dc3 pm3 an3 cd3 ct3), sl3⟩) (c3 : PySem.W.codeIn K cd3 "Sides.told" = true) (k3 : PySem.W.keepIn K (.ref f3) = true)
    (a4 : PySem.W.findIn K (.ref C_Sides) "ranked" = some (some (.ref f4))) (i4 : PySem.W.isFn K (.ref f4) = true)
    {od4 an4 : Option Addr} {sl4 : Array (Option Value)} {oc4 kV4 dc4 pm4 cd4 ct4 : Value}
    (l4 : K.lookup f4 = some ⟨oc4, od4, .func (PySem.W.fnOf "ranked" "Sides.ranked" (defArgs s_Sides_ranked) (defBody s_Sides_ranked) (defScope s_Sides_ranked) .none kV4 dc4 pm4 an4 cd4 ct4), sl4⟩) (c4 : PySem.W.codeIn K cd4 "Sides.ranked" = true) (k4 : PySem.W.keepIn K (.ref f4) = true)
    (a5 : PySem.W.nsIn K mainGlobals "need_spare" = some (some (.ref f5)))
    {od5 an5 : Option Addr} {sl5 : Array (Option Value)} {oc5 kV5 dc5 pm5 cd5 ct5 : Value}
    (l5 : K.lookup f5 = some ⟨oc5, od5, .func (PySem.W.fnOf "need_spare" "need_spare" (defArgs s_need_spare) (defBody s_need_spare) (defScope s_need_spare) .none kV5 dc5 pm5 an5 cd5 ct5), sl5⟩) (c5 : PySem.W.codeIn K cd5 "need_spare" = true) (k5 : PySem.W.keepIn K (.ref f5) = true)
    (a6 : PySem.W.nsIn K mainGlobals "are_labels" = some (some (.ref f6)))
    {od6 an6 : Option Addr} {sl6 : Array (Option Value)} {oc6 kV6 dc6 pm6 cd6 ct6 : Value}
    (l6 : K.lookup f6 = some ⟨oc6, od6, .func (PySem.W.fnOf "are_labels" "are_labels" (defArgs s_are_labels) (defBody s_are_labels) (defScope s_are_labels) .none kV6 dc6 pm6 an6 cd6 ct6), sl6⟩) (c6 : PySem.W.codeIn K cd6 "are_labels" = true) (k6 : PySem.W.keepIn K (.ref f6) = true)
    (a7 : PySem.W.nsIn K mainGlobals "room_in" = some (some (.ref f7)))
    {od7 an7 : Option Addr} {sl7 : Array (Option Value)} {oc7 kV7 dc7 pm7 cd7 ct7 : Value}
    (l7 : K.lookup f7 = some ⟨oc7, od7, .func (PySem.W.fnOf "room_in" "room_in" (defArgs s_room_in) (defBody s_room_in) (defScope s_room_in) .none kV7 dc7 pm7 an7 cd7 ct7), sl7⟩) (c7 : PySem.W.codeIn K cd7 "room_in" = true) (k7 : PySem.W.keepIn K (.ref f7) = true)
    (a8 : PySem.W.findIn K (.ref C_Parcel) "__init__" = some (some (.ref f8))) (i8 : PySem.W.isFn K (.ref f8) = true)
    {od8 an8 : Option Addr} {sl8 : Array (Option Value)} {oc8 kV8 dc8 pm8 cd8 ct8 : Value}
    (l8 : K.lookup f8 = some ⟨oc8, od8, .func (PySem.W.fnOf "__init__" "Parcel.__init__" (defArgs s_Parcel___init__) (defBody s_Parcel___init__) (defScope s_Parcel___init__) (.ref T8) kV8 dc8 pm8 an8 cd8 ct8), sl8⟩) (c8 : PySem.W.codeIn K cd8 "Parcel.__init__" = true) (k8 : PySem.W.keepIn K (.ref f8) = true)
    {dt8_0 : Tok}
    {dt8_1 : Tok}
    {dt8_2 : Tok}
    {dd8 : Option Addr} {dn8 : Nat} {ds8 : Array (Option Value)} {dc28 : Value} (t8 : K.lookup T8 = some ⟨dc28, dd8, .seq #[.int 1 dt8_0, .int 0 dt8_1, .int 0 dt8_2, .none] dn8, ds8⟩)
    (mk8 : PySem.W.makesIn K C_Parcel = true) (kc8 : PySem.W.keepIn K (.ref C_Parcel) = true)
    (a9 : PySem.W.findIn K (.ref C_Parcel) "name" = some (some (.ref f9))) (i9 : PySem.W.isFn K (.ref f9) = true)
    {od9 an9 : Option Addr} {sl9 : Array (Option Value)} {oc9 kV9 dc9 pm9 cd9 ct9 : Value}
    (l9 : K.lookup f9 = some ⟨oc9, od9, .func (PySem.W.fnOf "name" "Parcel.name" (defArgs s_Parcel_name) (defBody s_Parcel_name) (defScope s_Parcel_name) .none kV9 dc9 pm9 an9 cd9 ct9), sl9⟩) (c9 : PySem.W.codeIn K cd9 "Parcel.name" = true) (k9 : PySem.W.keepIn K (.ref f9) = true)
    (a10 : PySem.W.findIn K (.ref C_Parcel) "sides" = some (some (.ref f10))) (i10 : PySem.W.isFn K (.ref f10) = true)
    {od10 an10 : Option Addr} {sl10 : Array (Option Value)} {oc10 kV10 dc10 pm10 cd10 ct10 : Value}
    (l10 : K.lookup f10 = some ⟨oc10, od10, .func (PySem.W.fnOf "sides" "Parcel.sides" (defArgs s_Parcel_sides) (defBody s_Parcel_sides) (defScope s_Parcel_sides) .none kV10 dc10 pm10 an10 cd10 ct10), sl10⟩) (c10 : PySem.W.codeIn K cd10 "Parcel.sides" = true) (k10 : PySem.W.keepIn K (.ref f10) = true)
    (a11 : PySem.W.findIn K (.ref C_Parcel) "labels" = some (some (.ref f11))) (i11 : PySem.W.isFn K (.ref f11) = true)
    {od11 an11 : Option Addr} {sl11 : Array (Option Value)} {oc11 kV11 dc11 pm11 cd11 ct11 : Value}
    (l11 : K.lookup f11 = some ⟨oc11, od11, .func (PySem.W.fnOf "labels" "Parcel.labels" (defArgs s_Parcel_labels) (defBody s_Parcel_labels) (defScope s_Parcel_labels) .none kV11 dc11 pm11 an11 cd11 ct11), sl11⟩) (c11 : PySem.W.codeIn K cd11 "Parcel.labels" = true) (k11 : PySem.W.keepIn K (.ref f11) = true)
    (a12 : PySem.W.findIn K (.ref C_Parcel) "weight" = some (some (.ref f12))) (i12 : PySem.W.isFn K (.ref f12) = true)
    {od12 an12 : Option Addr} {sl12 : Array (Option Value)} {oc12 kV12 dc12 pm12 cd12 ct12 : Value}
    (l12 : K.lookup f12 = some ⟨oc12, od12, .func (PySem.W.fnOf "weight" "Parcel.weight" (defArgs s_Parcel_weight) (defBody s_Parcel_weight) (defScope s_Parcel_weight) .none kV12 dc12 pm12 an12 cd12 ct12), sl12⟩) (c12 : PySem.W.codeIn K cd12 "Parcel.weight" = true) (k12 : PySem.W.keepIn K (.ref f12) = true)
    (a13 : PySem.W.findIn K (.ref C_Parcel) "bears" = some (some (.ref f13))) (i13 : PySem.W.isFn K (.ref f13) = true)
    {od13 an13 : Option Addr} {sl13 : Array (Option Value)} {oc13 kV13 dc13 pm13 cd13 ct13 : Value}
    (l13 : K.lookup f13 = some ⟨oc13, od13, .func (PySem.W.fnOf "bears" "Parcel.bears" (defArgs s_Parcel_bears) (defBody s_Parcel_bears) (defScope s_Parcel_bears) .none kV13 dc13 pm13 an13 cd13 ct13), sl13⟩) (c13 : PySem.W.codeIn K cd13 "Parcel.bears" = true) (k13 : PySem.W.keepIn K (.ref f13) = true)
    (a14 : PySem.W.findIn K (.ref C_Parcel) "room" = some (some (.ref f14))) (i14 : PySem.W.isFn K (.ref f14) = true)
    {od14 an14 : Option Addr} {sl14 : Array (Option Value)} {oc14 kV14 dc14 pm14 cd14 ct14 : Value}
    (l14 : K.lookup f14 = some ⟨oc14, od14, .func (PySem.W.fnOf "room" "Parcel.room" (defArgs s_Parcel_room) (defBody s_Parcel_room) (defScope s_Parcel_room) .none kV14 dc14 pm14 an14 cd14 ct14), sl14⟩) (c14 : PySem.W.codeIn K cd14 "Parcel.room" = true) (k14 : PySem.W.keepIn K (.ref f14) = true)
    (a15 : PySem.W.findIn K (.ref C_Heap) "__init__" = some (some (.ref f15))) (i15 : PySem.W.isFn K (.ref f15) = true)
    {od15 an15 : Option Addr} {sl15 : Array (Option Value)} {oc15 kV15 dc15 pm15 cd15 ct15 : Value}
    (l15 : K.lookup f15 = some ⟨oc15, od15, .func (PySem.W.fnOf "__init__" "Heap.__init__" (defArgs s_Heap___init__) (defBody s_Heap___init__) (defScope s_Heap___init__) .none kV15 dc15 pm15 an15 cd15 ct15), sl15⟩) (c15 : PySem.W.codeIn K cd15 "Heap.__init__" = true) (k15 : PySem.W.keepIn K (.ref f15) = true)
    (mk15 : PySem.W.makesIn K C_Heap = true) (kc15 : PySem.W.keepIn K (.ref C_Heap) = true)
    (a16 : PySem.W.findIn K (.ref C_Heap) "names" = some (some (.ref f16))) (i16 : PySem.W.isFn K (.ref f16) = true)
    {od16 an16 : Option Addr} {sl16 : Array (Option Value)} {oc16 kV16 dc16 pm16 cd16 ct16 : Value}
    (l16 : K.lookup f16 = some ⟨oc16, od16, .func (PySem.W.fnOf "names" "Heap.names" (defArgs s_Heap_names) (defBody s_Heap_names) (defScope s_Heap_names) .none kV16 dc16 pm16 an16 cd16 ct16), sl16⟩) (c16 : PySem.W.codeIn K cd16 "Heap.names" = true) (k16 : PySem.W.keepIn K (.ref f16) = true)
    (a17 : PySem.W.findIn K (.ref C_Heap) "place_of" = some (some (.ref f17))) (i17 : PySem.W.isFn K (.ref f17) = true)
    {od17 an17 : Option Addr} {sl17 : Array (Option Value)} {oc17 kV17 dc17 pm17 cd17 ct17 : Value}
    (l17 : K.lookup f17 = some ⟨oc17, od17, .func (PySem.W.fnOf "place_of" "Heap.place_of" (defArgs s_Heap_place_of) (defBody s_Heap_place_of) (defScope s_Heap_place_of) .none kV17 dc17 pm17 an17 cd17 ct17), sl17⟩) (c17 : PySem.W.codeIn K cd17 "Heap.place_of" = true) (k17 : PySem.W.keepIn K (.ref f17) = true)
    (a18 : PySem.W.findIn K (.ref C_Heap) "put" = some (some (.ref f18))) (i18 : PySem.W.isFn K (.ref f18) = true)
    {od18 an18 : Option Addr} {sl18 : Array (Option Value)} {oc18 kV18 dc18 pm18 cd18 ct18 : Value}
    (l18 : K.lookup f18 = some ⟨oc18, od18, .func (PySem.W.fnOf "put" "Heap.put" (defArgs s_Heap_put) (defBody s_Heap_put) (defScope s_Heap_put) (.ref T18) kV18 dc18 pm18 an18 cd18 ct18), sl18⟩) (c18 : PySem.W.codeIn K cd18 "Heap.put" = true) (k18 : PySem.W.keepIn K (.ref f18) = true)
    {dd18 : Option Addr} {dn18 : Nat} {ds18 : Array (Option Value)} {dc218 : Value} (t18 : K.lookup T18 = some ⟨dc218, dd18, .seq #[.none] dn18, ds18⟩)
    (a19 : PySem.W.findIn K (.ref C_Heap) "out" = some (some (.ref f19))) (i19 : PySem.W.isFn K (.ref f19) = true)
    {od19 an19 : Option Addr} {sl19 : Array (Option Value)} {oc19 kV19 dc19 pm19 cd19 ct19 : Value}
    (l19 : K.lookup f19 = some ⟨oc19, od19, .func (PySem.W.fnOf "out" "Heap.out" (defArgs s_Heap_out) (defBody s_Heap_out) (defScope s_Heap_out) .none kV19 dc19 pm19 an19 cd19 ct19), sl19⟩) (c19 : PySem.W.codeIn K cd19 "Heap.out" = true) (k19 : PySem.W.keepIn K (.ref f19) = true)
    (a20 : PySem.W.findIn K (.ref C_Heap) "parcels" = some (some (.ref f20))) (i20 : PySem.W.isFn K (.ref f20) = true)
    {od20 an20 : Option Addr} {sl20 : Array (Option Value)} {oc20 kV20 dc20 pm20 cd20 ct20 : Value}
    (l20 : K.lookup f20 = some ⟨oc20, od20, .func (PySem.W.fnOf "parcels" "Heap.parcels" (defArgs s_Heap_parcels) (defBody s_Heap_parcels) (defScope s_Heap_parcels) .none kV20 dc20 pm20 an20 cd20 ct20), sl20⟩) (c20 : PySem.W.codeIn K cd20 "Heap.parcels" = true) (k20 : PySem.W.keepIn K (.ref f20) = true)
    (a21 : PySem.W.nsIn K mainGlobals "shape_of" = some (some (.ref f21)))
    {od21 an21 : Option Addr} {sl21 : Array (Option Value)} {oc21 kV21 dc21 pm21 cd21 ct21 : Value}
    (l21 : K.lookup f21 = some ⟨oc21, od21, .func (PySem.W.fnOf "shape_of" "shape_of" (defArgs s_shape_of) (defBody s_shape_of) (defScope s_shape_of) .none kV21 dc21 pm21 an21 cd21 ct21), sl21⟩) (c21 : PySem.W.codeIn K cd21 "shape_of" = true) (k21 : PySem.W.keepIn K (.ref f21) = true)
    (a22 : PySem.W.nsIn K mainGlobals "shape_goes" = some (some (.ref f22)))
    {od22 an22 : Option Addr} {sl22 : Array (Option Value)} {oc22 kV22 dc22 pm22 cd22 ct22 : Value}
    (l22 : K.lookup f22 = some ⟨oc22, od22, .func (PySem.W.fnOf "shape_goes" "shape_goes" (defArgs s_shape_goes) (defBody s_shape_goes) (defScope s_shape_goes) .none kV22 dc22 pm22 an22 cd22 ct22), sl22⟩) (c22 : PySem.W.codeIn K cd22 "shape_goes" = true) (k22 : PySem.W.keepIn K (.ref f22) = true)
    (a23 : PySem.W.nsIn K mainGlobals "inside" = some (some (.ref f23)))
    {od23 an23 : Option Addr} {sl23 : Array (Option Value)} {oc23 kV23 dc23 pm23 cd23 ct23 : Value}
    (l23 : K.lookup f23 = some ⟨oc23, od23, .func (PySem.W.fnOf "inside" "inside" (defArgs s_inside) (defBody s_inside) (defScope s_inside) (.ref T23) kV23 dc23 pm23 an23 cd23 ct23), sl23⟩) (c23 : PySem.W.codeIn K cd23 "inside" = true) (k23 : PySem.W.keepIn K (.ref f23) = true)
    {dt23_0 : Tok}
    {dd23 : Option Addr} {dn23 : Nat} {ds23 : Array (Option Value)} {dc223 : Value} (t23 : K.lookup T23 = some ⟨dc223, dd23, .seq #[.int 0 dt23_0] dn23, ds23⟩)
    (a24 : PySem.W.nsIn K mainGlobals "grown" = some (some (.ref f24)))
    {od24 an24 : Option Addr} {sl24 : Array (Option Value)} {oc24 kV24 dc24 pm24 cd24 ct24 : Value}
    (l24 : K.lookup f24 = some ⟨oc24, od24, .func (PySem.W.fnOf "grown" "grown" (defArgs s_grown) (defBody s_grown) (defScope s_grown) .none kV24 dc24 pm24 an24 cd24 ct24), sl24⟩) (c24 : PySem.W.codeIn K cd24 "grown" = true) (k24 : PySem.W.keepIn K (.ref f24) = true)
    (a25 : PySem.W.nsIn K mainGlobals "matched" = some (some (.ref f25)))
    {od25 an25 : Option Addr} {sl25 : Array (Option Value)} {oc25 kV25 dc25 pm25 cd25 ct25 : Value}
    (l25 : K.lookup f25 = some ⟨oc25, od25, .func (PySem.W.fnOf "matched" "matched" (defArgs s_matched) (defBody s_matched) (defScope s_matched) .none kV25 dc25 pm25 an25 cd25 ct25), sl25⟩) (c25 : PySem.W.codeIn K cd25 "matched" = true) (k25 : PySem.W.keepIn K (.ref f25) = true)
    (a26 : PySem.W.nsIn K mainGlobals "reached" = some (some (.ref f26)))
    {od26 an26 : Option Addr} {sl26 : Array (Option Value)} {oc26 kV26 dc26 pm26 cd26 ct26 : Value}
    (l26 : K.lookup f26 = some ⟨oc26, od26, .func (PySem.W.fnOf "reached" "reached" (defArgs s_reached) (defBody s_reached) (defScope s_reached) .none kV26 dc26 pm26 an26 cd26 ct26), sl26⟩) (c26 : PySem.W.codeIn K cd26 "reached" = true) (k26 : PySem.W.keepIn K (.ref f26) = true)
    (a27 : PySem.W.nsIn K mainGlobals "nests_by" = some (some (.ref f27)))
    {od27 an27 : Option Addr} {sl27 : Array (Option Value)} {oc27 kV27 dc27 pm27 cd27 ct27 : Value}
    (l27 : K.lookup f27 = some ⟨oc27, od27, .func (PySem.W.fnOf "nests_by" "nests_by" (defArgs s_nests_by) (defBody s_nests_by) (defScope s_nests_by) .none kV27 dc27 pm27 an27 cd27 ct27), sl27⟩) (c27 : PySem.W.codeIn K cd27 "nests_by" = true) (k27 : PySem.W.keepIn K (.ref f27) = true)
    (a28 : PySem.W.nsIn K mainGlobals "fewest" = some (some (.ref f28)))
    {od28 an28 : Option Addr} {sl28 : Array (Option Value)} {oc28 kV28 dc28 pm28 cd28 ct28 : Value}
    (l28 : K.lookup f28 = some ⟨oc28, od28, .func (PySem.W.fnOf "fewest" "fewest" (defArgs s_fewest) (defBody s_fewest) (defScope s_fewest) (.ref T28) kV28 dc28 pm28 an28 cd28 ct28), sl28⟩) (c28 : PySem.W.codeIn K cd28 "fewest" = true) (k28 : PySem.W.keepIn K (.ref f28) = true)
    {dt28_0 : Tok}
    {dd28 : Option Addr} {dn28 : Nat} {ds28 : Array (Option Value)} {dc228 : Value} (t28 : K.lookup T28 = some ⟨dc228, dd28, .seq #[.int 0 dt28_0] dn28, ds28⟩)
    (a29 : PySem.W.nsIn K mainGlobals "_law_cell" = some (some (.ref f29)))
    {od29 an29 : Option Addr} {sl29 : Array (Option Value)} {oc29 kV29 dc29 pm29 cd29 ct29 : Value}
    (l29 : K.lookup f29 = some ⟨oc29, od29, .func (PySem.W.fnOf "_law_cell" "_law_cell" (defArgs s__law_cell) (defBody s__law_cell) (defScope s__law_cell) .none kV29 dc29 pm29 an29 cd29 ct29), sl29⟩) (c29 : PySem.W.codeIn K cd29 "_law_cell" = true) (k29 : PySem.W.keepIn K (.ref f29) = true)
    (a30 : PySem.W.nsIn K mainGlobals "_law_purse" = some (some (.ref f30)))
    {od30 an30 : Option Addr} {sl30 : Array (Option Value)} {oc30 kV30 dc30 pm30 cd30 ct30 : Value}
    (l30 : K.lookup f30 = some ⟨oc30, od30, .func (PySem.W.fnOf "_law_purse" "_law_purse" (defArgs s__law_purse) (defBody s__law_purse) (defScope s__law_purse) .none kV30 dc30 pm30 an30 cd30 ct30), sl30⟩) (c30 : PySem.W.codeIn K cd30 "_law_purse" = true) (k30 : PySem.W.keepIn K (.ref f30) = true)
    (a31 : PySem.W.nsIn K mainGlobals "_law_take" = some (some (.ref f31)))
    {od31 an31 : Option Addr} {sl31 : Array (Option Value)} {oc31 kV31 dc31 pm31 cd31 ct31 : Value}
    (l31 : K.lookup f31 = some ⟨oc31, od31, .func (PySem.W.fnOf "_law_take" "_law_take" (defArgs s__law_take) (defBody s__law_take) (defScope s__law_take) .none kV31 dc31 pm31 an31 cd31 ct31), sl31⟩) (c31 : PySem.W.codeIn K cd31 "_law_take" = true) (k31 : PySem.W.keepIn K (.ref f31) = true)
    (a32 : PySem.W.nsIn K mainGlobals "_law_names" = some (some (.ref f32)))
    {od32 an32 : Option Addr} {sl32 : Array (Option Value)} {oc32 kV32 dc32 pm32 cd32 ct32 : Value}
    (l32 : K.lookup f32 = some ⟨oc32, od32, .func (PySem.W.fnOf "_law_names" "_law_names" (defArgs s__law_names) (defBody s__law_names) (defScope s__law_names) .none kV32 dc32 pm32 an32 cd32 ct32), sl32⟩) (c32 : PySem.W.codeIn K cd32 "_law_names" = true) (k32 : PySem.W.keepIn K (.ref f32) = true)
    (a33 : PySem.W.nsIn K mainGlobals "_law_sides" = some (some (.ref f33)))
    {od33 an33 : Option Addr} {sl33 : Array (Option Value)} {oc33 kV33 dc33 pm33 cd33 ct33 : Value}
    (l33 : K.lookup f33 = some ⟨oc33, od33, .func (PySem.W.fnOf "_law_sides" "_law_sides" (defArgs s__law_sides) (defBody s__law_sides) (defScope s__law_sides) .none kV33 dc33 pm33 an33 cd33 ct33), sl33⟩) (c33 : PySem.W.codeIn K cd33 "_law_sides" = true) (k33 : PySem.W.keepIn K (.ref f33) = true)
    (a34 : PySem.W.nsIn K mainGlobals "_law_row" = some (some (.ref f34)))
    {od34 an34 : Option Addr} {sl34 : Array (Option Value)} {oc34 kV34 dc34 pm34 cd34 ct34 : Value}
    (l34 : K.lookup f34 = some ⟨oc34, od34, .func (PySem.W.fnOf "_law_row" "_law_row" (defArgs s__law_row) (defBody s__law_row) (defScope s__law_row) .none kV34 dc34 pm34 an34 cd34 ct34), sl34⟩) (c34 : PySem.W.codeIn K cd34 "_law_row" = true) (k34 : PySem.W.keepIn K (.ref f34) = true)
    (a35 : PySem.W.nsIn K mainGlobals "_law_rows" = some (some (.ref f35)))
    {od35 an35 : Option Addr} {sl35 : Array (Option Value)} {oc35 kV35 dc35 pm35 cd35 ct35 : Value}
    (l35 : K.lookup f35 = some ⟨oc35, od35, .func (PySem.W.fnOf "_law_rows" "_law_rows" (defArgs s__law_rows) (defBody s__law_rows) (defScope s__law_rows) .none kV35 dc35 pm35 an35 cd35 ct35), sl35⟩) (c35 : PySem.W.codeIn K cd35 "_law_rows" = true) (k35 : PySem.W.keepIn K (.ref f35) = true)
    (a36 : PySem.W.nsIn K mainGlobals "_law_spare" = some (some (.ref f36)))
    {od36 an36 : Option Addr} {sl36 : Array (Option Value)} {oc36 kV36 dc36 pm36 cd36 ct36 : Value}
    (l36 : K.lookup f36 = some ⟨oc36, od36, .func (PySem.W.fnOf "_law_spare" "_law_spare" (defArgs s__law_spare) (defBody s__law_spare) (defScope s__law_spare) .none kV36 dc36 pm36 an36 cd36 ct36), sl36⟩) (c36 : PySem.W.codeIn K cd36 "_law_spare" = true) (k36 : PySem.W.keepIn K (.ref f36) = true)
    (a37 : PySem.W.nsIn K mainGlobals "_law_made" = some (some (.ref f37)))
    {od37 an37 : Option Addr} {sl37 : Array (Option Value)} {oc37 kV37 dc37 pm37 cd37 ct37 : Value}
    (l37 : K.lookup f37 = some ⟨oc37, od37, .func (PySem.W.fnOf "_law_made" "_law_made" (defArgs s__law_made) (defBody s__law_made) (defScope s__law_made) .none kV37 dc37 pm37 an37 cd37 ct37), sl37⟩) (c37 : PySem.W.codeIn K cd37 "_law_made" = true) (k37 : PySem.W.keepIn K (.ref f37) = true)
    (a38 : PySem.W.nsIn K mainGlobals "_law_heap" = some (some (.ref f38)))
    {od38 an38 : Option Addr} {sl38 : Array (Option Value)} {oc38 kV38 dc38 pm38 cd38 ct38 : Value}
    (l38 : K.lookup f38 = some ⟨oc38, od38, .func (PySem.W.fnOf "_law_heap" "_law_heap" (defArgs s__law_heap) (defBody s__law_heap) (defScope s__law_heap) .none kV38 dc38 pm38 an38 cd38 ct38), sl38⟩) (c38 : PySem.W.codeIn K cd38 "_law_heap" = true) (k38 : PySem.W.keepIn K (.ref f38) = true)
    (a39 : PySem.W.nsIn K mainGlobals "_law_goes" = some (some (.ref f39)))
    {od39 an39 : Option Addr} {sl39 : Array (Option Value)} {oc39 kV39 dc39 pm39 cd39 ct39 : Value}
    (l39 : K.lookup f39 = some ⟨oc39, od39, .func (PySem.W.fnOf "_law_goes" "_law_goes" (defArgs s__law_goes) (defBody s__law_goes) (defScope s__law_goes) .none kV39 dc39 pm39 an39 cd39 ct39), sl39⟩) (c39 : PySem.W.codeIn K cd39 "_law_goes" = true) (k39 : PySem.W.keepIn K (.ref f39) = true)
    (a40 : PySem.W.nsIn K mainGlobals "_law_outwards" = some (some (.ref f40)))
    {od40 an40 : Option Addr} {sl40 : Array (Option Value)} {oc40 kV40 dc40 pm40 cd40 ct40 : Value}
    (l40 : K.lookup f40 = some ⟨oc40, od40, .func (PySem.W.fnOf "_law_outwards" "_law_outwards" (defArgs s__law_outwards) (defBody s__law_outwards) (defScope s__law_outwards) .none kV40 dc40 pm40 an40 cd40 ct40), sl40⟩) (c40 : PySem.W.codeIn K cd40 "_law_outwards" = true) (k40 : PySem.W.keepIn K (.ref f40) = true)
    (a41 : PySem.W.nsIn K mainGlobals "_law_unlike" = some (some (.ref f41)))
    {od41 an41 : Option Addr} {sl41 : Array (Option Value)} {oc41 kV41 dc41 pm41 cd41 ct41 : Value}
    (l41 : K.lookup f41 = some ⟨oc41, od41, .func (PySem.W.fnOf "_law_unlike" "_law_unlike" (defArgs s__law_unlike) (defBody s__law_unlike) (defScope s__law_unlike) .none kV41 dc41 pm41 an41 cd41 ct41), sl41⟩) (c41 : PySem.W.codeIn K cd41 "_law_unlike" = true) (k41 : PySem.W.keepIn K (.ref f41) = true)
    (a42 : PySem.W.nsIn K mainGlobals "_law_is_nest" = some (some (.ref f42)))
    {od42 an42 : Option Addr} {sl42 : Array (Option Value)} {oc42 kV42 dc42 pm42 cd42 ct42 : Value}
    (l42 : K.lookup f42 = some ⟨oc42, od42, .func (PySem.W.fnOf "_law_is_nest" "_law_is_nest" (defArgs s__law_is_nest) (defBody s__law_is_nest) (defScope s__law_is_nest) .none kV42 dc42 pm42 an42 cd42 ct42), sl42⟩) (c42 : PySem.W.codeIn K cd42 "_law_is_nest" = true) (k42 : PySem.W.keepIn K (.ref f42) = true)
    (a43 : PySem.W.nsIn K mainGlobals "_law_nests_of" = some (some (.ref f43)))
    {od43 an43 : Option Addr} {sl43 : Array (Option Value)} {oc43 kV43 dc43 pm43 cd43 ct43 : Value}
    (l43 : K.lookup f43 = some ⟨oc43, od43, .func (PySem.W.fnOf "_law_nests_of" "_law_nests_of" (defArgs s__law_nests_of) (defBody s__law_nests_of) (defScope s__law_nests_of) .none kV43 dc43 pm43 an43 cd43 ct43), sl43⟩) (c43 : PySem.W.codeIn K cd43 "_law_nests_of" = true) (k43 : PySem.W.keepIn K (.ref f43) = true)
    (a44 : PySem.W.nsIn K mainGlobals "_law_shown" = some (some (.ref f44)))
    {od44 an44 : Option Addr} {sl44 : Array (Option Value)} {oc44 kV44 dc44 pm44 cd44 ct44 : Value}
    (l44 : K.lookup f44 = some ⟨oc44, od44, .func (PySem.W.fnOf "_law_shown" "_law_shown" (defArgs s__law_shown) (defBody s__law_shown) (defScope s__law_shown) .none kV44 dc44 pm44 an44 cd44 ct44), sl44⟩) (c44 : PySem.W.codeIn K cd44 "_law_shown" = true) (k44 : PySem.W.keepIn K (.ref f44) = true)
    (a45 : PySem.W.nsIn K mainGlobals "_law_exchanged" = some (some (.ref f45)))
    {od45 an45 : Option Addr} {sl45 : Array (Option Value)} {oc45 kV45 dc45 pm45 cd45 ct45 : Value}
    (l45 : K.lookup f45 = some ⟨oc45, od45, .func (PySem.W.fnOf "_law_exchanged" "_law_exchanged" (defArgs s__law_exchanged) (defBody s__law_exchanged) (defScope s__law_exchanged) .none kV45 dc45 pm45 an45 cd45 ct45), sl45⟩) (c45 : PySem.W.codeIn K cd45 "_law_exchanged" = true) (k45 : PySem.W.keepIn K (.ref f45) = true)
    (a46 : PySem.W.nsIn K mainGlobals "_law_deed" = some (some (.ref f46)))
    {od46 an46 : Option Addr} {sl46 : Array (Option Value)} {oc46 kV46 dc46 pm46 cd46 ct46 : Value}
    (l46 : K.lookup f46 = some ⟨oc46, od46, .func (PySem.W.fnOf "_law_deed" "_law_deed" (defArgs s__law_deed) (defBody s__law_deed) (defScope s__law_deed) .none kV46 dc46 pm46 an46 cd46 ct46), sl46⟩) (c46 : PySem.W.codeIn K cd46 "_law_deed" = true) (k46 : PySem.W.keepIn K (.ref f46) = true)
    (a47 : PySem.W.nsIn K mainGlobals "_law_right" = some (some (.ref f47)))
    {od47 an47 : Option Addr} {sl47 : Array (Option Value)} {oc47 kV47 dc47 pm47 cd47 ct47 : Value}
    (l47 : K.lookup f47 = some ⟨oc47, od47, .func (PySem.W.fnOf "_law_right" "_law_right" (defArgs s__law_right) (defBody s__law_right) (defScope s__law_right) .none kV47 dc47 pm47 an47 cd47 ct47), sl47⟩) (c47 : PySem.W.codeIn K cd47 "_law_right" = true) (k47 : PySem.W.keepIn K (.ref f47) = true)
    (a48 : PySem.W.nsIn K mainGlobals "_law_asked_again" = some (some (.ref f48)))
    {od48 an48 : Option Addr} {sl48 : Array (Option Value)} {oc48 kV48 dc48 pm48 cd48 ct48 : Value}
    (l48 : K.lookup f48 = some ⟨oc48, od48, .func (PySem.W.fnOf "_law_asked_again" "_law_asked_again" (defArgs s__law_asked_again) (defBody s__law_asked_again) (defScope s__law_asked_again) .none kV48 dc48 pm48 an48 cd48 ct48), sl48⟩) (c48 : PySem.W.codeIn K cd48 "_law_asked_again" = true) (k48 : PySem.W.keepIn K (.ref f48) = true)
    (a49 : PySem.W.nsIn K mainGlobals "law" = some (some (.ref f49)))
    {od49 an49 : Option Addr} {sl49 : Array (Option Value)} {oc49 kV49 dc49 pm49 cd49 ct49 : Value}
    (l49 : K.lookup f49 = some ⟨oc49, od49, .func (PySem.W.fnOf "law" "law" (defArgs s_law) (defBody s_law) (defScope s_law) .none kV49 dc49 pm49 an49 cd49 ct49), sl49⟩) (c49 : PySem.W.codeIn K cd49 "law" = true) (k49 : PySem.W.keepIn K (.ref f49) = true)
    (z_all : PySem.W.nsIn K mainGlobals "all" = some none)
    (z_bool : PySem.W.nsIn K mainGlobals "bool" = some none)
    (z_enumerate : PySem.W.nsIn K mainGlobals "enumerate" = some none)
    (z_int : PySem.W.nsIn K mainGlobals "int" = some none)
    (z_isinstance : PySem.W.nsIn K mainGlobals "isinstance" = some none)
    (z_len : PySem.W.nsIn K mainGlobals "len" = some none)
    (z_list : PySem.W.nsIn K mainGlobals "list" = some none)
    (z_max : PySem.W.nsIn K mainGlobals "max" = some none)
    (z_min : PySem.W.nsIn K mainGlobals "min" = some none)
    (z_range : PySem.W.nsIn K mainGlobals "range" = some none)
    (z_repr : PySem.W.nsIn K mainGlobals "repr" = some none)
    (z_set : PySem.W.nsIn K mainGlobals "set" = some none)
    (z_sorted : PySem.W.nsIn K mainGlobals "sorted" = some none)
    (z_str : PySem.W.nsIn K mainGlobals "str" = some none)
    (z_tuple : PySem.W.nsIn K mainGlobals "tuple" = some none)
    (z_zip : PySem.W.nsIn K mainGlobals "zip" = some none)
    {t_LETTERS : Tok} (z_LETTERS : PySem.W.nsIn K mainGlobals "LETTERS" = some (some (.str "abcdefghijklmnopqrstuvwxyz" t_LETTERS)))
    {t_MOST_PARCELS : Tok} (z_MOST_PARCELS : PySem.W.nsIn K mainGlobals "MOST_PARCELS" = some (some (.int 12 t_MOST_PARCELS)))
    {t_MOST_SIDE : Tok} (z_MOST_SIDE : PySem.W.nsIn K mainGlobals "MOST_SIDE" = some (some (.int 100000 t_MOST_SIDE)))
    {t_MOST_SPARE : Tok} (z_MOST_SPARE : PySem.W.nsIn K mainGlobals "MOST_SPARE" = some (some (.int 1000 t_MOST_SPARE)))
    {t_MOST_WALL : Tok} (z_MOST_WALL : PySem.W.nsIn K mainGlobals "MOST_WALL" = some (some (.int 1000 t_MOST_WALL)))
    {t_MOST_WEIGHT : Tok} (z_MOST_WEIGHT : PySem.W.nsIn K mainGlobals "MOST_WEIGHT" = some (some (.int 100000 t_MOST_WEIGHT)))
    {aO t0_ t1_ t2_ t3_ t4_ t5_ : Addr} {dO : Option Addr} {nO : Nat} {sO : Array (Option Value)} (z_ORDERS : PySem.W.nsIn K mainGlobals "ORDERS" = some (some (.ref aO)))
    (kO : K.lookup aO = some ⟨.type "tuple", dO, .seq #[.ref t0_, .ref t1_, .ref t2_, .ref t3_, .ref t4_, .ref t5_] nO, sO⟩)
    {e0_ : Option Addr} {m0_ : Nat} {r0_ : Array (Option Value)} {x0_ y0_ w0_ : Tok} (kt0_ : K.lookup t0_ = some ⟨.type "tuple", e0_, .seq #[.int 0 x0_, .int 1 y0_, .int 2 w0_] m0_, r0_⟩)
    {e1_ : Option Addr} {m1_ : Nat} {r1_ : Array (Option Value)} {x1_ y1_ w1_ : Tok} (kt1_ : K.lookup t1_ = some ⟨.type "tuple", e1_, .seq #[.int 0 x1_, .int 2 y1_, .int 1 w1_] m1_, r1_⟩)
    {e2_ : Option Addr} {m2_ : Nat} {r2_ : Array (Option Value)} {x2_ y2_ w2_ : Tok} (kt2_ : K.lookup t2_ = some ⟨.type "tuple", e2_, .seq #[.int 1 x2_, .int 0 y2_, .int 2 w2_] m2_, r2_⟩)
    {e3_ : Option Addr} {m3_ : Nat} {r3_ : Array (Option Value)} {x3_ y3_ w3_ : Tok} (kt3_ : K.lookup t3_ = some ⟨.type "tuple", e3_, .seq #[.int 1 x3_, .int 2 y3_, .int 0 w3_] m3_, r3_⟩)
    {e4_ : Option Addr} {m4_ : Nat} {r4_ : Array (Option Value)} {x4_ y4_ w4_ : Tok} (kt4_ : K.lookup t4_ = some ⟨.type "tuple", e4_, .seq #[.int 2 x4_, .int 0 y4_, .int 1 w4_] m4_, r4_⟩)
    {e5_ : Option Addr} {m5_ : Nat} {r5_ : Array (Option Value)} {x5_ y5_ w5_ : Tok} (kt5_ : K.lookup t5_ = some ⟨.type "tuple", e5_, .seq #[.int 2 x5_, .int 1 y5_, .int 0 w5_] m5_, r5_⟩)
    {aL_ : Addr} {dL_ : Option Addr} {nL_ : Nat} {sL_ : Array (Option Value)} {xL_ yL_ wL_ : Tok} (z_LABELS : PySem.W.nsIn K mainGlobals "LABELS" = some (some (.ref aL_)))
    (kL_ : K.lookup aL_ = some ⟨.type "tuple", dL_, .seq #[.str "alone" xL_, .str "top" yL_, .str "upright" wL_] nL_, sL_⟩)
    : ∃ fd : FuncData, (∀ (s : Shared) (u : Value), BindsTo s fd ⟨[u], []⟩ [("_law_script", u)]) ∧ ∀ base : Heap, K.In base → base.Ns mainGlobals mg → VS.SysOk base → VS.FnG l.prog w K mg base (L2.CX l.prog w) 20 fa fd ["_law_script"] (VS.spOf K p_law) := by
  have e := hfa.symm.trans (PySem.W.mg_of X G a49)
  cases e
  have T : Tx K mg := ⟨PySem.W.mg_none_of X G z_all, PySem.W.mg_none_of X G z_bool, PySem.W.mg_none_of X G z_enumerate, PySem.W.mg_none_of X G z_int, PySem.W.mg_none_of X G z_isinstance, PySem.W.mg_none_of X G z_len, PySem.W.mg_none_of X G z_list, PySem.W.mg_none_of X G z_max, PySem.W.mg_none_of X G z_min, PySem.W.mg_none_of X G z_range, PySem.W.mg_none_of X G z_repr, PySem.W.mg_none_of X G z_set, PySem.W.mg_none_of X G z_sorted, PySem.W.mg_none_of X G z_str, PySem.W.mg_none_of X G z_tuple, PySem.W.mg_none_of X G z_zip, ⟨_, PySem.W.mg_of X G z_LETTERS, _, rfl⟩, ⟨_, PySem.W.mg_of X G z_MOST_PARCELS, _, rfl⟩, ⟨_, PySem.W.mg_of X G z_MOST_SIDE, _, rfl⟩, ⟨_, PySem.W.mg_of X G z_MOST_SPARE, _, rfl⟩, ⟨_, PySem.W.mg_of X G z_MOST_WALL, _, rfl⟩, ⟨_, PySem.W.mg_of X G z_MOST_WEIGHT, _, rfl⟩, ⟨aO, ⟨_, PySem.W.mg_of X G z_ORDERS, rfl⟩, fun H S => .tupK ⟨_, _, _, kO, rfl, rfl, (by show 6 ≤ sizeLine; decide), (.cons (show RelV (.ref t0_) (.ref t0_) from rfl) (.cons (show RelV (.ref t1_) (.ref t1_) from rfl) (.cons (show RelV (.ref t2_) (.ref t2_) from rfl) (.cons (show RelV (.ref t3_) (.ref t3_) from rfl) (.cons (show RelV (.ref t4_) (.ref t4_) from rfl) (.cons (show RelV (.ref t5_) (.ref t5_) from rfl) .nil))))))⟩ (.cons (.tupK ⟨_, _, _, kt0_, rfl, rfl, (by show 3 ≤ sizeLine; decide), (.cons (show RelV (.int 0) (.int 0 x0_) from ⟨_, rfl⟩) (.cons (show RelV (.int 1) (.int 1 y0_) from ⟨_, rfl⟩) (.cons (show RelV (.int 2) (.int 2 w0_) from ⟨_, rfl⟩) .nil)))⟩ (.cons (.int _) (.cons (.int _) (.cons (.int _) .nil)))) (.cons (.tupK ⟨_, _, _, kt1_, rfl, rfl, (by show 3 ≤ sizeLine; decide), (.cons (show RelV (.int 0) (.int 0 x1_) from ⟨_, rfl⟩) (.cons (show RelV (.int 2) (.int 2 y1_) from ⟨_, rfl⟩) (.cons (show RelV (.int 1) (.int 1 w1_) from ⟨_, rfl⟩) .nil)))⟩ (.cons (.int _) (.cons (.int _) (.cons (.int _) .nil)))) (.cons (.tupK ⟨_, _, _, kt2_, rfl, rfl, (by show 3 ≤ sizeLine; decide), (.cons (show RelV (.int 1) (.int 1 x2_) from ⟨_, rfl⟩) (.cons (show RelV (.int 0) (.int 0 y2_) from ⟨_, rfl⟩) (.cons (show RelV (.int 2) (.int 2 w2_) from ⟨_, rfl⟩) .nil)))⟩ (.cons (.int _) (.cons (.int _) (.cons (.int _) .nil)))) (.cons (.tupK ⟨_, _, _, kt3_, rfl, rfl, (by show 3 ≤ sizeLine; decide), (.cons (show RelV (.int 1) (.int 1 x3_) from ⟨_, rfl⟩) (.cons (show RelV (.int 2) (.int 2 y3_) from ⟨_, rfl⟩) (.cons (show RelV (.int 0) (.int 0 w3_) from ⟨_, rfl⟩) .nil)))⟩ (.cons (.int _) (.cons (.int _) (.cons (.int _) .nil)))) (.cons (.tupK ⟨_, _, _, kt4_, rfl, rfl, (by show 3 ≤ sizeLine; decide), (.cons (show RelV (.int 2) (.int 2 x4_) from ⟨_, rfl⟩) (.cons (show RelV (.int 0) (.int 0 y4_) from ⟨_, rfl⟩) (.cons (show RelV (.int 1) (.int 1 w4_) from ⟨_, rfl⟩) .nil)))⟩ (.cons (.int _) (.cons (.int _) (.cons (.int _) .nil)))) (.cons (.tupK ⟨_, _, _, kt5_, rfl, rfl, (by show 3 ≤ sizeLine; decide), (.cons (show RelV (.int 2) (.int 2 x5_) from ⟨_, rfl⟩) (.cons (show RelV (.int 1) (.int 1 y5_) from ⟨_, rfl⟩) (.cons (show RelV (.int 0) (.int 0 w5_) from ⟨_, rfl⟩) .nil)))⟩ (.cons (.int _) (.cons (.int _) (.cons (.int _) .nil)))) .nil))))))⟩, ⟨aL_, ⟨_, PySem.W.mg_of X G z_LABELS, rfl⟩, fun H S => .tupK ⟨_, _, _, kL_, rfl, rfl, (by show 3 ≤ sizeLine; decide), (.cons (show RelV (.str "alone") (.str "alone" xL_) from ⟨_, rfl⟩) (.cons (show RelV (.str "top") (.str "top" yL_) from ⟨_, rfl⟩) (.cons (show RelV (.str "upright") (.str "upright" wL_) from ⟨_, rfl⟩) .nil)))⟩ (.cons (.str _) (.cons (.str _) (.cons (.str _) .nil)))⟩⟩
  have k_Sides : Kl_Sides K mg C_Sides := ⟨PySem.W.mg_of X G aKSides, ⟨⟨pgKSides, hdKSides, poKSides, saKSides⟩, haKSides, hnO, htkO, hmKSides, VS.kit_self⟩, nKSides_three, VS.kit_own rfl icKSides tcKSides zKSides_int, VS.kit_own rfl icKSides tcKSides zKSides_bool, VS.kit_own rfl icKSides tcKSides zKSides_str, VS.kit_own rfl icKSides tcKSides zKSides_NoneType, VS.kit_own rfl icKSides tcKSides zKSides_list, VS.kit_own rfl icKSides tcKSides zKSides_tuple, VS.kit_own rfl icKSides tcKSides zKSides_dict⟩
  have k_Parcel : Kl_Parcel K mg C_Parcel := ⟨PySem.W.mg_of X G aKParcel, ⟨⟨pgKParcel, hdKParcel, poKParcel, saKParcel⟩, haKParcel, hnO, htkO, hmKParcel, VS.kit_self⟩, nKParcel_called, nKParcel_outside, nKParcel_thick, nKParcel_heavy, nKParcel_strong, nKParcel_marks, nKParcel_told, nKParcel_names, VS.kit_own rfl icKParcel tcKParcel zKParcel_int, VS.kit_own rfl icKParcel tcKParcel zKParcel_bool, VS.kit_own rfl icKParcel tcKParcel zKParcel_str, VS.kit_own rfl icKParcel tcKParcel zKParcel_NoneType, VS.kit_own rfl icKParcel tcKParcel zKParcel_list, VS.kit_own rfl icKParcel tcKParcel zKParcel_tuple, VS.kit_own rfl icKParcel tcKParcel zKParcel_dict⟩
  have k_Heap : Kl_Heap K mg C_Heap := ⟨PySem.W.mg_of X G aKHeap, ⟨⟨pgKHeap, hdKHeap, poKHeap, saKHeap⟩, haKHeap, hnO, htkO, hmKHeap, VS.kit_self⟩, nKHeap_held, nKHeap_told, nKHeap_kind⟩
  have F0 : VS.Fd K "is_whole" "is_whole" s_is_whole [] f0 _ := fd_mk l0 c0 k0
  have b0 : Binds K _ a_is_whole [] := F0.bindsN fun _ _ _ _ _ _ us hl => match us, hl with | [_, _, _], _ => rfl
  have F1 : VS.Fd K "is_name" "is_name" s_is_name [] f1 _ := fd_mk l1 c1 k1
  have b1 : Binds K _ a_is_name [] := F1.bindsN fun _ _ _ _ _ _ us hl => match us, hl with | [_], _ => rfl
  have F2 : VS.Fd K "__init__" "Sides.__init__" s_Sides___init__ [] f2 _ := fd_mk l2 c2 k2
  have b2 : Binds K _ a_Sides___init__ [] := F2.bindsN fun _ _ _ _ _ _ us hl => match us, hl with | [_, _, _, _], _ => rfl
  have F3 : VS.Fd K "told" "Sides.told" s_Sides_told [] f3 _ := fd_mk l3 c3 k3
  have b3 : Binds K _ a_Sides_told [] := F3.bindsN fun _ _ _ _ _ _ us hl => match us, hl with | [_], _ => rfl
  have F4 : VS.Fd K "ranked" "Sides.ranked" s_Sides_ranked [] f4 _ := fd_mk l4 c4 k4
  have b4 : Binds K _ a_Sides_ranked [] := F4.bindsN fun _ _ _ _ _ _ us hl => match us, hl with | [_], _ => rfl
  have F5 : VS.Fd K "need_spare" "need_spare" s_need_spare [] f5 _ := fd_mk l5 c5 k5
  have b5 : Binds K _ a_need_spare [] := F5.bindsN fun _ _ _ _ _ _ us hl => match us, hl with | [_], _ => rfl
  have F6 : VS.Fd K "are_labels" "are_labels" s_are_labels [] f6 _ := fd_mk l6 c6 k6
  have b6 : Binds K _ a_are_labels [] := F6.bindsN fun _ _ _ _ _ _ us hl => match us, hl with | [_], _ => rfl
  have F7 : VS.Fd K "room_in" "room_in" s_room_in [] f7 _ := fd_mk l7 c7 k7
  have b7 : Binds K _ a_room_in [] := F7.bindsN fun _ _ _ _ _ _ us hl => match us, hl with | [_, _], _ => rfl
  have F8 : VS.Fd K "__init__" "Parcel.__init__" s_Parcel___init__ [.int 1, .int 0, .int 0, .non] f8 _ := fd_mkD l8 c8 k8 (by decide) t8 (.cons (show RelV (.int 1) _ from ⟨_, rfl⟩) (.cons (show RelV (.int 0) _ from ⟨_, rfl⟩) (.cons (show RelV (.int 0) _ from ⟨_, rfl⟩) (.cons (show RelV (.non) _ from rfl) .nil))))
  obtain ⟨bb8⟩ := VS.bdN (ps := a_Parcel___init__) F8 7 4 (by decide) rfl (fun T kV doc pm an cdv ct us its h1 h2 => match us, its, h1, h2 with | [_, _, _, _, _, _, _], [_, _, _, _], _, _ => ⟨_, rfl, rfl⟩)
  have b8 : Binds K _ a_Parcel___init__ [] := VS.bd_nil bb8
  have F9 : VS.Fd K "name" "Parcel.name" s_Parcel_name [] f9 _ := fd_mk l9 c9 k9
  have b9 : Binds K _ a_Parcel_name [] := F9.bindsN fun _ _ _ _ _ _ us hl => match us, hl with | [_], _ => rfl
  have F10 : VS.Fd K "sides" "Parcel.sides" s_Parcel_sides [] f10 _ := fd_mk l10 c10 k10
  have b10 : Binds K _ a_Parcel_sides [] := F10.bindsN fun _ _ _ _ _ _ us hl => match us, hl with | [_], _ => rfl
  have F11 : VS.Fd K "labels" "Parcel.labels" s_Parcel_labels [] f11 _ := fd_mk l11 c11 k11
  have b11 : Binds K _ a_Parcel_labels [] := F11.bindsN fun _ _ _ _ _ _ us hl => match us, hl with | [_], _ => rfl
  have F12 : VS.Fd K "weight" "Parcel.weight" s_Parcel_weight [] f12 _ := fd_mk l12 c12 k12
  have b12 : Binds K _ a_Parcel_weight [] := F12.bindsN fun _ _ _ _ _ _ us hl => match us, hl with | [_], _ => rfl
  have F13 : VS.Fd K "bears" "Parcel.bears" s_Parcel_bears [] f13 _ := fd_mk l13 c13 k13
  have b13 : Binds K _ a_Parcel_bears [] := F13.bindsN fun _ _ _ _ _ _ us hl => match us, hl with | [_], _ => rfl
  have F14 : VS.Fd K "room" "Parcel.room" s_Parcel_room [] f14 _ := fd_mk l14 c14 k14
  have b14 : Binds K _ a_Parcel_room [] := F14.bindsN fun _ _ _ _ _ _ us hl => match us, hl with | [_], _ => rfl
  have F15 : VS.Fd K "__init__" "Heap.__init__" s_Heap___init__ [] f15 _ := fd_mk l15 c15 k15
  have b15 : Binds K _ a_Heap___init__ [] := F15.bindsN fun _ _ _ _ _ _ us hl => match us, hl with | [_], _ => rfl
  have F16 : VS.Fd K "names" "Heap.names" s_Heap_names [] f16 _ := fd_mk l16 c16 k16
  have b16 : Binds K _ a_Heap_names [] := F16.bindsN fun _ _ _ _ _ _ us hl => match us, hl with | [_], _ => rfl
  have F17 : VS.Fd K "place_of" "Heap.place_of" s_Heap_place_of [] f17 _ := fd_mk l17 c17 k17
  have b17 : Binds K _ a_Heap_place_of [] := F17.bindsN fun _ _ _ _ _ _ us hl => match us, hl with | [_, _], _ => rfl
  have F18 : VS.Fd K "put" "Heap.put" s_Heap_put [.non] f18 _ := fd_mkD l18 c18 k18 (by decide) t18 (.cons (show RelV (.non) _ from rfl) .nil)
  obtain ⟨bb18⟩ := VS.bdN (ps := a_Heap_put) F18 3 1 (by decide) rfl (fun T kV doc pm an cdv ct us its h1 h2 => match us, its, h1, h2 with | [_, _, _], [_], _, _ => ⟨_, rfl, rfl⟩)
  have b18 : Binds K _ a_Heap_put [] := VS.bd_nil bb18
  have F19 : VS.Fd K "out" "Heap.out" s_Heap_out [] f19 _ := fd_mk l19 c19 k19
  have b19 : Binds K _ a_Heap_out [] := F19.bindsN fun _ _ _ _ _ _ us hl => match us, hl with | [_, _], _ => rfl
  have F20 : VS.Fd K "parcels" "Heap.parcels" s_Heap_parcels [] f20 _ := fd_mk l20 c20 k20
  have b20 : Binds K _ a_Heap_parcels [] := F20.bindsN fun _ _ _ _ _ _ us hl => match us, hl with | [_], _ => rfl
  have F21 : VS.Fd K "shape_of" "shape_of" s_shape_of [] f21 _ := fd_mk l21 c21 k21
  have b21 : Binds K _ a_shape_of [] := F21.bindsN fun _ _ _ _ _ _ us hl => match us, hl with | [_], _ => rfl
  have F22 : VS.Fd K "shape_goes" "shape_goes" s_shape_goes [] f22 _ := fd_mk l22 c22 k22
  have b22 : Binds K _ a_shape_goes [] := F22.bindsN fun _ _ _ _ _ _ us hl => match us, hl with | [_, _, _], _ => rfl
  have F23 : VS.Fd K "inside" "inside" s_inside [.int 0] f23 _ := fd_mkD l23 c23 k23 (by decide) t23 (.cons (show RelV (.int 0) _ from ⟨_, rfl⟩) .nil)
  obtain ⟨bb23⟩ := VS.bdN (ps := a_inside) F23 2 1 (by decide) rfl (fun T kV doc pm an cdv ct us its h1 h2 => match us, its, h1, h2 with | [_, _], [_], _, _ => ⟨_, rfl, rfl⟩)
  have b23 : Binds K _ a_inside [] := VS.bd_nil bb23
  have F24 : VS.Fd K "grown" "grown" s_grown [] f24 _ := fd_mk l24 c24 k24
  have b24 : Binds K _ a_grown [] := F24.bindsN fun _ _ _ _ _ _ us hl => match us, hl with | [_, _, _, _], _ => rfl
  have F25 : VS.Fd K "matched" "matched" s_matched [] f25 _ := fd_mk l25 c25 k25
  have b25 : Binds K _ a_matched [] := F25.bindsN fun _ _ _ _ _ _ us hl => match us, hl with | [_, _], _ => rfl
  have F26 : VS.Fd K "reached" "reached" s_reached [] f26 _ := fd_mk l26 c26 k26
  have b26 : Binds K _ a_reached [] := F26.bindsN fun _ _ _ _ _ _ us hl => match us, hl with | [_, _, _], _ => rfl
  have F27 : VS.Fd K "nests_by" "nests_by" s_nests_by [] f27 _ := fd_mk l27 c27 k27
  have b27 : Binds K _ a_nests_by [] := F27.bindsN fun _ _ _ _ _ _ us hl => match us, hl with | [_, _], _ => rfl
  have F28 : VS.Fd K "fewest" "fewest" s_fewest [.int 0] f28 _ := fd_mkD l28 c28 k28 (by decide) t28 (.cons (show RelV (.int 0) _ from ⟨_, rfl⟩) .nil)
  obtain ⟨bb28⟩ := VS.bdN (ps := a_fewest) F28 2 1 (by decide) rfl (fun T kV doc pm an cdv ct us its h1 h2 => match us, its, h1, h2 with | [_, _], [_], _, _ => ⟨_, rfl, rfl⟩)
  have b28 : Binds K _ a_fewest [] := VS.bd_nil bb28
  have F29 : VS.Fd K "_law_cell" "_law_cell" s__law_cell [] f29 _ := fd_mk l29 c29 k29
  have b29 : Binds K _ a__law_cell [] := F29.bindsN fun _ _ _ _ _ _ us hl => match us, hl with | [_, _], _ => rfl
  have F30 : VS.Fd K "_law_purse" "_law_purse" s__law_purse [] f30 _ := fd_mk l30 c30 k30
  have b30 : Binds K _ a__law_purse [] := F30.bindsN fun _ _ _ _ _ _ us hl => match us, hl with | [_], _ => rfl
  have F31 : VS.Fd K "_law_take" "_law_take" s__law_take [] f31 _ := fd_mk l31 c31 k31
  have b31 : Binds K _ a__law_take [] := F31.bindsN fun _ _ _ _ _ _ us hl => match us, hl with | [_, _], _ => rfl
  have F32 : VS.Fd K "_law_names" "_law_names" s__law_names [] f32 _ := fd_mk l32 c32 k32
  have b32 : Binds K _ a__law_names [] := F32.bindsN fun _ _ _ _ _ _ us hl => match us, hl with | [_, _], _ => rfl
  have F33 : VS.Fd K "_law_sides" "_law_sides" s__law_sides [] f33 _ := fd_mk l33 c33 k33
  have b33 : Binds K _ a__law_sides [] := F33.bindsN fun _ _ _ _ _ _ us hl => match us, hl with | [_, _, _, _], _ => rfl
  have F34 : VS.Fd K "_law_row" "_law_row" s__law_row [] f34 _ := fd_mk l34 c34 k34
  have b34 : Binds K _ a__law_row [] := F34.bindsN fun _ _ _ _ _ _ us hl => match us, hl with | [_, _, _, _, _], _ => rfl
  have F35 : VS.Fd K "_law_rows" "_law_rows" s__law_rows [] f35 _ := fd_mk l35 c35 k35
  have b35 : Binds K _ a__law_rows [] := F35.bindsN fun _ _ _ _ _ _ us hl => match us, hl with | [_, _], _ => rfl
  have F36 : VS.Fd K "_law_spare" "_law_spare" s__law_spare [] f36 _ := fd_mk l36 c36 k36
  have b36 : Binds K _ a__law_spare [] := F36.bindsN fun _ _ _ _ _ _ us hl => match us, hl with | [_], _ => rfl
  have F37 : VS.Fd K "_law_made" "_law_made" s__law_made [] f37 _ := fd_mk l37 c37 k37
  have b37 : Binds K _ a__law_made [] := F37.bindsN fun _ _ _ _ _ _ us hl => match us, hl with | [_], _ => rfl
  have F38 : VS.Fd K "_law_heap" "_law_heap" s__law_heap [] f38 _ := fd_mk l38 c38 k38
  have b38 : Binds K _ a__law_heap [] := F38.bindsN fun _ _ _ _ _ _ us hl => match us, hl with | [_], _ => rfl
  have F39 : VS.Fd K "_law_goes" "_law_goes" s__law_goes [] f39 _ := fd_mk l39 c39 k39
  have b39 : Binds K _ a__law_goes [] := F39.bindsN fun _ _ _ _ _ _ us hl => match us, hl with | [_, _, _], _ => rfl
  have F40 : VS.Fd K "_law_outwards" "_law_outwards" s__law_outwards [] f40 _ := fd_mk l40 c40 k40
  have b40 : Binds K _ a__law_outwards [] := F40.bindsN fun _ _ _ _ _ _ us hl => match us, hl with | [_, _], _ => rfl
  have F41 : VS.Fd K "_law_unlike" "_law_unlike" s__law_unlike [] f41 _ := fd_mk l41 c41 k41
  have b41 : Binds K _ a__law_unlike [] := F41.bindsN fun _ _ _ _ _ _ us hl => match us, hl with | [_, _], _ => rfl
  have F42 : VS.Fd K "_law_is_nest" "_law_is_nest" s__law_is_nest [] f42 _ := fd_mk l42 c42 k42
  have b42 : Binds K _ a__law_is_nest [] := F42.bindsN fun _ _ _ _ _ _ us hl => match us, hl with | [_, _], _ => rfl
  have F43 : VS.Fd K "_law_nests_of" "_law_nests_of" s__law_nests_of [] f43 _ := fd_mk l43 c43 k43
  have b43 : Binds K _ a__law_nests_of [] := F43.bindsN fun _ _ _ _ _ _ us hl => match us, hl with | [_, _], _ => rfl
  have F44 : VS.Fd K "_law_shown" "_law_shown" s__law_shown [] f44 _ := fd_mk l44 c44 k44
  have b44 : Binds K _ a__law_shown [] := F44.bindsN fun _ _ _ _ _ _ us hl => match us, hl with | [_, _, _], _ => rfl
  have F45 : VS.Fd K "_law_exchanged" "_law_exchanged" s__law_exchanged [] f45 _ := fd_mk l45 c45 k45
  have b45 : Binds K _ a__law_exchanged [] := F45.bindsN fun _ _ _ _ _ _ us hl => match us, hl with | [_, _, _, _], _ => rfl
  have F46 : VS.Fd K "_law_deed" "_law_deed" s__law_deed [] f46 _ := fd_mk l46 c46 k46
  have b46 : Binds K _ a__law_deed [] := F46.bindsN fun _ _ _ _ _ _ us hl => match us, hl with | [_, _, _, _, _], _ => rfl
  have F47 : VS.Fd K "_law_right" "_law_right" s__law_right [] f47 _ := fd_mk l47 c47 k47
  have b47 : Binds K _ a__law_right [] := F47.bindsN fun _ _ _ _ _ _ us hl => match us, hl with | [_, _, _], _ => rfl
  have F48 : VS.Fd K "_law_asked_again" "_law_asked_again" s__law_asked_again [] f48 _ := fd_mk l48 c48 k48
  have b48 : Binds K _ a__law_asked_again [] := F48.bindsN fun _ _ _ _ _ _ us hl => match us, hl with | [_, _, _, _], _ => rfl
  have F49 : VS.Fd K "law" "law" s_law [] fa _ := fd_mk l49 c49 k49
  have FXNoNumber : VS.Fd K "__init__" "NoNumber.__init__" s_NoNumber___init__ [] fXNoNumber _ := fd_mk lXNoNumber cXNoNumber kXNoNumber
  have bXNoNumber : Binds K _ a_NoNumber___init__ [] := FXNoNumber.bindsN fun _ _ _ _ _ _ us hl => match us, hl with | [_, _], _ => rfl
  have FXNoSide : VS.Fd K "__init__" "NoSide.__init__" s_NoSide___init__ [] fXNoSide _ := fd_mk lXNoSide cXNoSide kXNoSide
  have bXNoSide : Binds K _ a_NoSide___init__ [] := FXNoSide.bindsN fun _ _ _ _ _ _ us hl => match us, hl with | [_, _], _ => rfl
  refine ⟨_, fun s u => F49.bindsA (ps := ["_law_script"]) (fun _ _ _ _ _ _ us hl => match us, hl with | [_], _ => rfl) s [u] rfl, fun base _ _ hsys => ?_⟩
  have oxXNoNumber : VS.OexG K C_NoNumber := ⟨⟨nmXNoNumber, qnXNoNumber, NXNoNumber, bsXNoNumber, _, snXNoNumber, suXNoNumber, abXNoNumber, coXNoNumber, ddXNoNumber, k0XNoNumber, k1XNoNumber, k2XNoNumber, k3XNoNumber, k5XNoNumber, _, xXNoNumber, VS.bmG_VE.up⟩, saXNoNumber, exXNoNumber, tyXNoNumber, kcXNoNumber⟩
  have x_NoNumber : VS.Xc l.prog w K mg base "NoNumber" C_NoNumber "found" := ⟨oxXNoNumber, ⟨gaXNoNumber, ggXNoNumber, exXNoNumber, hdXNoNumber⟩, noXNoNumber, PySem.W.mg_of X G aXNoNumber, fXNoNumber, _, _, iXNoNumber, tXNoNumber, VS.xinit_ok (f := "found") FXNoNumber sc_NoNumber___init__ rfl oxXNoNumber noXNoNumber (fun cdv A outer s H E => pss_one (VS.ps_ostG (pv 0) (pv 1))), bXNoNumber⟩
  have oxXNoSide : VS.OexG K C_NoSide := ⟨⟨nmXNoSide, qnXNoSide, NXNoSide, bsXNoSide, _, snXNoSide, suXNoSide, abXNoSide, coXNoSide, ddXNoSide, k0XNoSide, k1XNoSide, k2XNoSide, k3XNoSide, k5XNoSide, _, xXNoSide, VS.bmG_VE.up⟩, saXNoSide, exXNoSide, tyXNoSide, kcXNoSide⟩
  have x_NoSide : VS.Xc l.prog w K mg base "NoSide" C_NoSide "found" := ⟨oxXNoSide, ⟨gaXNoSide, ggXNoSide, exXNoSide, hdXNoSide⟩, noXNoSide, PySem.W.mg_of X G aXNoSide, fXNoSide, _, _, iXNoSide, tXNoSide, VS.xinit_ok (f := "found") FXNoSide sc_NoSide___init__ rfl oxXNoSide noXNoSide (fun cdv A outer s H E => pss_one (VS.ps_ostG (pv 0) (pv 1))), bXNoSide⟩
  have c_is_whole : VS.Cf l.prog w K mg base (L2.CX l.prog w) 1 "is_whole" s_is_whole [] a_is_whole (p_is_whole K) f0 _ := ⟨ok_is_whole (C_Sides := C_Sides) (C_Parcel := C_Parcel) (C_Heap := C_Heap) (C_NoNumber := C_NoNumber) (C_NoSide := C_NoSide) F0 T hsys, F0, PySem.W.mg_of X G a0, b0⟩
  have c_is_name : VS.Cf l.prog w K mg base (L2.CX l.prog w) 1 "is_name" s_is_name [] a_is_name (p_is_name K) f1 _ := ⟨ok_is_name (C_Sides := C_Sides) (C_Parcel := C_Parcel) (C_Heap := C_Heap) (C_NoNumber := C_NoNumber) (C_NoSide := C_NoSide) F1 T hsys, F1, PySem.W.mg_of X G a1, b1⟩
  have c_Sides : VS.Kf l.prog w K mg base 3 "Sides" C_Sides "Sides.__init__" s_Sides___init__ [] a_Sides___init__ (p_Sides_init K C_Sides C_NoSide) f2 _ := ⟨⟨mk2, a2, i2, kc2⟩, ok_Sides___init__ (C_Sides := C_Sides) (C_Parcel := C_Parcel) (C_Heap := C_Heap) (C_NoNumber := C_NoNumber) (C_NoSide := C_NoSide) F2 T hsys c_is_whole x_NoSide k_Sides, F2, k_Sides.at_, b2⟩
  have c_Sides_told : VS.Mf l.prog w K mg base 1 C_Sides "told" "Sides.told" s_Sides_told [] a_Sides_told (p_told C_Sides) f3 _ := ⟨ok_Sides_told (C_Sides := C_Sides) (C_Parcel := C_Parcel) (C_Heap := C_Heap) (C_NoNumber := C_NoNumber) (C_NoSide := C_NoSide) F3 T hsys k_Sides, F3, k_Sides.ins.cl, ⟨a3, i3, k3⟩, b3⟩
  have c_Sides_ranked : VS.Mf l.prog w K mg base 1 C_Sides "ranked" "Sides.ranked" s_Sides_ranked [] a_Sides_ranked (p_ranked C_Sides) f4 _ := ⟨ok_Sides_ranked (C_Sides := C_Sides) (C_Parcel := C_Parcel) (C_Heap := C_Heap) (C_NoNumber := C_NoNumber) (C_NoSide := C_NoSide) F4 T hsys k_Sides, F4, k_Sides.ins.cl, ⟨a4, i4, k4⟩, b4⟩
  have c_need_spare : VS.Cf l.prog w K mg base (L2.CX l.prog w) 3 "need_spare" s_need_spare [] a_need_spare (p_need_spare K C_NoNumber) f5 _ := ⟨ok_need_spare (C_Sides := C_Sides) (C_Parcel := C_Parcel) (C_Heap := C_Heap) (C_NoNumber := C_NoNumber) (C_NoSide := C_NoSide) F5 T hsys c_is_whole x_NoNumber, F5, PySem.W.mg_of X G a5, b5⟩
  have c_are_labels : VS.Cf l.prog w K mg base (L2.CX l.prog w) 1 "are_labels" s_are_labels [] a_are_labels p_are_labels f6 _ := ⟨ok_are_labels (C_Sides := C_Sides) (C_Parcel := C_Parcel) (C_Heap := C_Heap) (C_NoNumber := C_NoNumber) (C_NoSide := C_NoSide) F6 T hsys, F6, PySem.W.mg_of X G a6, b6⟩
  have c_room_in : VS.Cf l.prog w K mg base (L2.CX l.prog w) 5 "room_in" s_room_in [] a_room_in (p_room_in C_Sides) f7 _ := ⟨ok_room_in (C_Sides := C_Sides) (C_Parcel := C_Parcel) (C_Heap := C_Heap) (C_NoNumber := C_NoNumber) (C_NoSide := C_NoSide) F7 T hsys c_Sides c_Sides_told k_Sides, F7, PySem.W.mg_of X G a7, b7⟩
  have c_Parcel : VS.Kf l.prog w K mg base 3 "Parcel" C_Parcel "Parcel.__init__" s_Parcel___init__ [.int 1, .int 0, .int 0, .non] a_Parcel___init__ (p_Pc_init C_Parcel C_Sides) f8 _ := ⟨⟨mk8, a8, i8, kc8⟩, ok_Parcel___init__ (C_Sides := C_Sides) (C_Parcel := C_Parcel) (C_Heap := C_Heap) (C_NoNumber := C_NoNumber) (C_NoSide := C_NoSide) F8 T hsys c_is_name c_is_whole c_are_labels k_Sides k_Parcel, F8, k_Parcel.at_, b8⟩
  have c_Parcel_name : VS.Mf l.prog w K mg base 1 C_Parcel "name" "Parcel.name" s_Parcel_name [] a_Parcel_name (p_Pc_name C_Parcel C_Sides) f9 _ := ⟨ok_Parcel_name (C_Sides := C_Sides) (C_Parcel := C_Parcel) (C_Heap := C_Heap) (C_NoNumber := C_NoNumber) (C_NoSide := C_NoSide) F9 T hsys k_Parcel k_Sides, F9, k_Parcel.ins.cl, ⟨a9, i9, k9⟩, b9⟩
  have c_Parcel_sides : VS.Mf l.prog w K mg base 1 C_Parcel "sides" "Parcel.sides" s_Parcel_sides [] a_Parcel_sides (p_Pc_sides C_Parcel C_Sides) f10 _ := ⟨ok_Parcel_sides (C_Sides := C_Sides) (C_Parcel := C_Parcel) (C_Heap := C_Heap) (C_NoNumber := C_NoNumber) (C_NoSide := C_NoSide) F10 T hsys k_Parcel k_Sides, F10, k_Parcel.ins.cl, ⟨a10, i10, k10⟩, b10⟩
  have c_Parcel_labels : VS.Mf l.prog w K mg base 1 C_Parcel "labels" "Parcel.labels" s_Parcel_labels [] a_Parcel_labels (p_Pc_labels C_Parcel C_Sides) f11 _ := ⟨ok_Parcel_labels (C_Sides := C_Sides) (C_Parcel := C_Parcel) (C_Heap := C_Heap) (C_NoNumber := C_NoNumber) (C_NoSide := C_NoSide) F11 T hsys k_Parcel k_Sides, F11, k_Parcel.ins.cl, ⟨a11, i11, k11⟩, b11⟩
  have c_Parcel_weight : VS.Mf l.prog w K mg base 1 C_Parcel "weight" "Parcel.weight" s_Parcel_weight [] a_Parcel_weight (p_Pc_weight C_Parcel C_Sides) f12 _ := ⟨ok_Parcel_weight (C_Sides := C_Sides) (C_Parcel := C_Parcel) (C_Heap := C_Heap) (C_NoNumber := C_NoNumber) (C_NoSide := C_NoSide) F12 T hsys k_Parcel k_Sides, F12, k_Parcel.ins.cl, ⟨a12, i12, k12⟩, b12⟩
  have c_Parcel_bears : VS.Mf l.prog w K mg base 1 C_Parcel "bears" "Parcel.bears" s_Parcel_bears [] a_Parcel_bears (p_Pc_bears C_Parcel C_Sides) f13 _ := ⟨ok_Parcel_bears (C_Sides := C_Sides) (C_Parcel := C_Parcel) (C_Heap := C_Heap) (C_NoNumber := C_NoNumber) (C_NoSide := C_NoSide) F13 T hsys k_Parcel k_Sides, F13, k_Parcel.ins.cl, ⟨a13, i13, k13⟩, b13⟩
  have c_Parcel_room : VS.Mf l.prog w K mg base 6 C_Parcel "room" "Parcel.room" s_Parcel_room [] a_Parcel_room (p_Pc_room C_Parcel C_Sides) f14 _ := ⟨ok_Parcel_room (C_Sides := C_Sides) (C_Parcel := C_Parcel) (C_Heap := C_Heap) (C_NoNumber := C_NoNumber) (C_NoSide := C_NoSide) F14 T hsys c_room_in k_Parcel k_Sides, F14, k_Parcel.ins.cl, ⟨a14, i14, k14⟩, b14⟩
  have c_Heap : VS.Kf l.prog w K mg base 1 "Heap" C_Heap "Heap.__init__" s_Heap___init__ [] a_Heap___init__ (p_Hp_init C_Heap) f15 _ := ⟨⟨mk15, a15, i15, kc15⟩, ok_Heap___init__ (C_Sides := C_Sides) (C_Parcel := C_Parcel) (C_Heap := C_Heap) (C_NoNumber := C_NoNumber) (C_NoSide := C_NoSide) F15 T hsys k_Heap, F15, k_Heap.at_, b15⟩
  have c_Heap_names : VS.Mf l.prog w K mg base 2 C_Heap "names" "Heap.names" s_Heap_names [] a_Heap_names (p_Hp_names C_Heap C_Parcel C_Sides) f16 _ := ⟨ok_Heap_names (C_Sides := C_Sides) (C_Parcel := C_Parcel) (C_Heap := C_Heap) (C_NoNumber := C_NoNumber) (C_NoSide := C_NoSide) F16 T hsys c_Parcel_name k_Heap k_Parcel k_Sides, F16, k_Heap.ins.cl, ⟨a16, i16, k16⟩, b16⟩
  have c_Heap_place_of : VS.Mf l.prog w K mg base 2 C_Heap "place_of" "Heap.place_of" s_Heap_place_of [] a_Heap_place_of (p_Hp_place C_Heap C_Parcel C_Sides) f17 _ := ⟨ok_Heap_place_of (C_Sides := C_Sides) (C_Parcel := C_Parcel) (C_Heap := C_Heap) (C_NoNumber := C_NoNumber) (C_NoSide := C_NoSide) F17 T hsys c_Parcel_name k_Heap k_Parcel k_Sides, F17, k_Heap.ins.cl, ⟨a17, i17, k17⟩, b17⟩
  have c_Heap_put : VS.Mf l.prog w K mg base 3 C_Heap "put" "Heap.put" s_Heap_put [.non] a_Heap_put (p_Hp_putA C_Heap C_Parcel C_Sides) f18 _ := ⟨ok_Heap_put (C_Sides := C_Sides) (C_Parcel := C_Parcel) (C_Heap := C_Heap) (C_NoNumber := C_NoNumber) (C_NoSide := C_NoSide) F18 T hsys c_Heap_names c_Parcel_name k_Heap k_Parcel k_Sides c_Heap_place_of, F18, k_Heap.ins.cl, ⟨a18, i18, k18⟩, b18⟩
  have c_Heap_out : VS.Mf l.prog w K mg base 3 C_Heap "out" "Heap.out" s_Heap_out [] a_Heap_out (p_Hp_out C_Heap C_Parcel C_Sides) f19 _ := ⟨ok_Heap_out (C_Sides := C_Sides) (C_Parcel := C_Parcel) (C_Heap := C_Heap) (C_NoNumber := C_NoNumber) (C_NoSide := C_NoSide) F19 T hsys c_Heap_place_of k_Heap k_Parcel k_Sides, F19, k_Heap.ins.cl, ⟨a19, i19, k19⟩, b19⟩
  have c_Heap_parcels : VS.Mf l.prog w K mg base 1 C_Heap "parcels" "Heap.parcels" s_Heap_parcels [] a_Heap_parcels (p_Hp_parcels C_Heap C_Parcel C_Sides) f20 _ := ⟨ok_Heap_parcels (C_Sides := C_Sides) (C_Parcel := C_Parcel) (C_Heap := C_Heap) (C_NoNumber := C_NoNumber) (C_NoSide := C_NoSide) F20 T hsys k_Heap, F20, k_Heap.ins.cl, ⟨a20, i20, k20⟩, b20⟩
  have c_shape_of : VS.Cf l.prog w K mg base (L2.CX l.prog w) 7 "shape_of" s_shape_of [] a_shape_of (p_shape_of C_Parcel C_Sides) f21 _ := ⟨ok_shape_of (C_Sides := C_Sides) (C_Parcel := C_Parcel) (C_Heap := C_Heap) (C_NoNumber := C_NoNumber) (C_NoSide := C_NoSide) F21 T hsys c_Parcel_labels c_Parcel_room c_Parcel_sides c_Sides_ranked k_Parcel k_Sides, F21, PySem.W.mg_of X G a21, b21⟩
  have c_shape_goes : VS.Cf l.prog w K mg base (L2.CX l.prog w) 1 "shape_goes" s_shape_goes [] a_shape_goes p_shape_goes f22 _ := ⟨ok_shape_goes (C_Sides := C_Sides) (C_Parcel := C_Parcel) (C_Heap := C_Heap) (C_NoNumber := C_NoNumber) (C_NoSide := C_NoSide) F22 T hsys, F22, PySem.W.mg_of X G a22, b22⟩
  have c_inside : VS.Cf l.prog w K mg base (L2.CX l.prog w) 8 "inside" s_inside [.int 0] a_inside (p_inside K C_Heap C_Parcel C_Sides C_NoNumber) f23 _ := ⟨ok_inside (C_Sides := C_Sides) (C_Parcel := C_Parcel) (C_Heap := C_Heap) (C_NoNumber := C_NoNumber) (C_NoSide := C_NoSide) F23 T hsys c_need_spare c_Heap_parcels c_shape_of c_Parcel_name c_shape_goes k_Heap k_Parcel k_Sides, F23, PySem.W.mg_of X G a23, b23⟩
  have c_grown : VS.Cf l.prog w K mg base (L2.CX l.prog w) 15 "grown" s_grown [] a_grown (p_grown 14) f24 _ := VS.rec_mk (B := 1) (p := p_grown) F24 (PySem.W.mg_of X G a24) b24 (fun _ _ _ _ h => h) (fun k c => ok_grown (C_Sides := C_Sides) (C_Parcel := C_Parcel) (C_Heap := C_Heap) (C_NoNumber := C_NoNumber) (C_NoSide := C_NoSide) k F24 T hsys c) 14
  have c_matched : VS.Cf l.prog w K mg base (L2.CX l.prog w) 16 "matched" s_matched [] a_matched p_matched f25 _ := ⟨ok_matched (C_Sides := C_Sides) (C_Parcel := C_Parcel) (C_Heap := C_Heap) (C_NoNumber := C_NoNumber) (C_NoSide := C_NoSide) F25 T hsys c_grown, F25, PySem.W.mg_of X G a25, b25⟩
  have c_reached : VS.Cf l.prog w K mg base (L2.CX l.prog w) 1 "reached" s_reached [] a_reached p_reached f26 _ := ⟨ok_reached (C_Sides := C_Sides) (C_Parcel := C_Parcel) (C_Heap := C_Heap) (C_NoNumber := C_NoNumber) (C_NoSide := C_NoSide) F26 T hsys, F26, PySem.W.mg_of X G a26, b26⟩
  have c_nests_by : VS.Cf l.prog w K mg base (L2.CX l.prog w) 1 "nests_by" s_nests_by [] a_nests_by p_nests_by f27 _ := ⟨ok_nests_by (C_Sides := C_Sides) (C_Parcel := C_Parcel) (C_Heap := C_Heap) (C_NoNumber := C_NoNumber) (C_NoSide := C_NoSide) F27 T hsys, F27, PySem.W.mg_of X G a27, b27⟩
  have c_fewest : VS.Cf l.prog w K mg base (L2.CX l.prog w) 17 "fewest" s_fewest [.int 0] a_fewest (p_fewest C_Heap C_Parcel C_Sides) f28 _ := ⟨ok_fewest (C_Sides := C_Sides) (C_Parcel := C_Parcel) (C_Heap := C_Heap) (C_NoNumber := C_NoNumber) (C_NoSide := C_NoSide) F28 T hsys c_inside c_Heap_names c_matched c_reached c_nests_by k_Heap k_Parcel k_Sides, F28, PySem.W.mg_of X G a28, b28⟩
  have c__law_cell : VS.Cf l.prog w K mg base (L2.CX l.prog w) 1 "_law_cell" s__law_cell [] a__law_cell p__law_cell f29 _ := ⟨ok__law_cell (C_Sides := C_Sides) (C_Parcel := C_Parcel) (C_Heap := C_Heap) (C_NoNumber := C_NoNumber) (C_NoSide := C_NoSide) F29 T hsys, F29, PySem.W.mg_of X G a29, b29⟩
  have c__law_purse : VS.Cf l.prog w K mg base (L2.CX l.prog w) 1 "_law_purse" s__law_purse [] a__law_purse p__law_purse f30 _ := ⟨ok__law_purse (C_Sides := C_Sides) (C_Parcel := C_Parcel) (C_Heap := C_Heap) (C_NoNumber := C_NoNumber) (C_NoSide := C_NoSide) F30 T hsys, F30, PySem.W.mg_of X G a30, b30⟩
  have c__law_take : VS.Cf l.prog w K mg base (L2.CX l.prog w) 1 "_law_take" s__law_take [] a__law_take p__law_take f31 _ := ⟨ok__law_take (C_Sides := C_Sides) (C_Parcel := C_Parcel) (C_Heap := C_Heap) (C_NoNumber := C_NoNumber) (C_NoSide := C_NoSide) F31 T hsys, F31, PySem.W.mg_of X G a31, b31⟩
  have c__law_names : VS.Cf l.prog w K mg base (L2.CX l.prog w) 2 "_law_names" s__law_names [] a__law_names p__law_names f32 _ := ⟨ok__law_names (C_Sides := C_Sides) (C_Parcel := C_Parcel) (C_Heap := C_Heap) (C_NoNumber := C_NoNumber) (C_NoSide := C_NoSide) F32 T hsys c__law_take, F32, PySem.W.mg_of X G a32, b32⟩
  have c__law_sides : VS.Cf l.prog w K mg base (L2.CX l.prog w) 2 "_law_sides" s__law_sides [] a__law_sides p__law_sides f33 _ := ⟨ok__law_sides (C_Sides := C_Sides) (C_Parcel := C_Parcel) (C_Heap := C_Heap) (C_NoNumber := C_NoNumber) (C_NoSide := C_NoSide) F33 T hsys c__law_take, F33, PySem.W.mg_of X G a33, b33⟩
  have c__law_row : VS.Cf l.prog w K mg base (L2.CX l.prog w) 3 "_law_row" s__law_row [] a__law_row p__law_row f34 _ := ⟨ok__law_row (C_Sides := C_Sides) (C_Parcel := C_Parcel) (C_Heap := C_Heap) (C_NoNumber := C_NoNumber) (C_NoSide := C_NoSide) F34 T hsys c__law_take c__law_sides, F34, PySem.W.mg_of X G a34, b34⟩
  have c__law_rows : VS.Cf l.prog w K mg base (L2.CX l.prog w) 4 "_law_rows" s__law_rows [] a__law_rows p_rowsR f35 _ := ⟨ok__law_rows (C_Sides := C_Sides) (C_Parcel := C_Parcel) (C_Heap := C_Heap) (C_NoNumber := C_NoNumber) (C_NoSide := C_NoSide) F35 T hsys c__law_take c__law_names c__law_row, F35, PySem.W.mg_of X G a35, b35⟩
  have c__law_spare : VS.Cf l.prog w K mg base (L2.CX l.prog w) 2 "_law_spare" s__law_spare [] a__law_spare p__law_spare f36 _ := ⟨ok__law_spare (C_Sides := C_Sides) (C_Parcel := C_Parcel) (C_Heap := C_Heap) (C_NoNumber := C_NoNumber) (C_NoSide := C_NoSide) F36 T hsys c__law_take, F36, PySem.W.mg_of X G a36, b36⟩
  have c__law_made : VS.Cf l.prog w K mg base (L2.CX l.prog w) 5 "_law_made" s__law_made [] a__law_made (p_made C_Parcel C_Sides) f37 _ := ⟨ok__law_made (C_Sides := C_Sides) (C_Parcel := C_Parcel) (C_Heap := C_Heap) (C_NoNumber := C_NoNumber) (C_NoSide := C_NoSide) F37 T hsys c_Sides c_Parcel k_Sides k_Parcel, F37, PySem.W.mg_of X G a37, b37⟩
  obtain ⟨d_Heap_put2⟩ := VS.bdN (ps := a_Heap_put) F18 2 0 (by decide) rfl (fun T kV doc pm an cdv ct us its h1 h2 => match us, its, h1, h2 with | [_, _], [_], _, _ => ⟨_, rfl, rfl⟩)
  have c__law_heap : VS.Cf l.prog w K mg base (L2.CX l.prog w) 6 "_law_heap" s__law_heap [] a__law_heap (p_heapR C_Heap C_Parcel C_Sides) f38 _ := ⟨ok__law_heap (C_Sides := C_Sides) (C_Parcel := C_Parcel) (C_Heap := C_Heap) (C_NoNumber := C_NoNumber) (C_NoSide := C_NoSide) F38 T hsys c_Heap c_Heap_put d_Heap_put2 c__law_made k_Heap k_Parcel k_Sides, F38, PySem.W.mg_of X G a38, b38⟩
  have c__law_goes : VS.Cf l.prog w K mg base (L2.CX l.prog w) 1 "_law_goes" s__law_goes [] a__law_goes p__law_goes f39 _ := ⟨ok__law_goes (C_Sides := C_Sides) (C_Parcel := C_Parcel) (C_Heap := C_Heap) (C_NoNumber := C_NoNumber) (C_NoSide := C_NoSide) F39 T hsys, F39, PySem.W.mg_of X G a39, b39⟩
  have c__law_outwards : VS.Cf l.prog w K mg base (L2.CX l.prog w) 2 "_law_outwards" s__law_outwards [] a__law_outwards p__law_outwards f40 _ := ⟨ok__law_outwards (C_Sides := C_Sides) (C_Parcel := C_Parcel) (C_Heap := C_Heap) (C_NoNumber := C_NoNumber) (C_NoSide := C_NoSide) F40 T hsys c__law_goes, F40, PySem.W.mg_of X G a40, b40⟩
  have c__law_unlike : VS.Cf l.prog w K mg base (L2.CX l.prog w) 1 "_law_unlike" s__law_unlike [] a__law_unlike p__law_unlike f41 _ := ⟨ok__law_unlike (C_Sides := C_Sides) (C_Parcel := C_Parcel) (C_Heap := C_Heap) (C_NoNumber := C_NoNumber) (C_NoSide := C_NoSide) F41 T hsys, F41, PySem.W.mg_of X G a41, b41⟩
  have c__law_is_nest : VS.Cf l.prog w K mg base (L2.CX l.prog w) 2 "_law_is_nest" s__law_is_nest [] a__law_is_nest p__law_is_nest f42 _ := ⟨ok__law_is_nest (C_Sides := C_Sides) (C_Parcel := C_Parcel) (C_Heap := C_Heap) (C_NoNumber := C_NoNumber) (C_NoSide := C_NoSide) F42 T hsys c__law_unlike, F42, PySem.W.mg_of X G a42, b42⟩
  have c__law_nests_of : VS.Cf l.prog w K mg base (L2.CX l.prog w) 3 "_law_nests_of" s__law_nests_of [] a__law_nests_of p__law_nests_of f43 _ := ⟨ok__law_nests_of (C_Sides := C_Sides) (C_Parcel := C_Parcel) (C_Heap := C_Heap) (C_NoNumber := C_NoNumber) (C_NoSide := C_NoSide) F43 T hsys c__law_is_nest, F43, PySem.W.mg_of X G a43, b43⟩
  have c__law_shown : VS.Cf l.prog w K mg base (L2.CX l.prog w) 4 "_law_shown" s__law_shown [] a__law_shown p_shown30 f44 _ := ⟨ok__law_shown (C_Sides := C_Sides) (C_Parcel := C_Parcel) (C_Heap := C_Heap) (C_NoNumber := C_NoNumber) (C_NoSide := C_NoSide) F44 T hsys c__law_nests_of c__law_unlike, F44, PySem.W.mg_of X G a44, b44⟩
  have c__law_exchanged : VS.Cf l.prog w K mg base (L2.CX l.prog w) 7 "_law_exchanged" s__law_exchanged [] a__law_exchanged (p_exch C_Heap C_Parcel C_Sides) f45 _ := ⟨ok__law_exchanged (C_Sides := C_Sides) (C_Parcel := C_Parcel) (C_Heap := C_Heap) (C_NoNumber := C_NoNumber) (C_NoSide := C_NoSide) F45 T hsys c__law_take c__law_row c_Heap_out c_Heap_put c__law_made k_Heap k_Parcel k_Sides, F45, PySem.W.mg_of X G a45, b45⟩
  have c__law_deed : VS.Cf l.prog w K mg base (L2.CX l.prog w) 8 "_law_deed" s__law_deed [] a__law_deed (p_deedN C_Heap C_Parcel C_Sides) f46 _ := ⟨ok__law_deed (C_Sides := C_Sides) (C_Parcel := C_Parcel) (C_Heap := C_Heap) (C_NoNumber := C_NoNumber) (C_NoSide := C_NoSide) F46 T hsys c__law_take c__law_exchanged c__law_row c_Heap_out c_Heap_put c__law_made k_Heap k_Parcel k_Sides, F46, PySem.W.mg_of X G a46, b46⟩
  have c__law_right : VS.Cf l.prog w K mg base (L2.CX l.prog w) 5 "_law_right" s__law_right [] a__law_right p_right30 f47 _ := ⟨ok__law_right (C_Sides := C_Sides) (C_Parcel := C_Parcel) (C_Heap := C_Heap) (C_NoNumber := C_NoNumber) (C_NoSide := C_NoSide) F47 T hsys c__law_outwards c__law_shown, F47, PySem.W.mg_of X G a47, b47⟩
  have c__law_asked_again : VS.Cf l.prog w K mg base (L2.CX l.prog w) 18 "_law_asked_again" s__law_asked_again [] a__law_asked_again (p_again30 C_Heap C_Parcel C_Sides) f48 _ := ⟨ok__law_asked_again (C_Sides := C_Sides) (C_Parcel := C_Parcel) (C_Heap := C_Heap) (C_NoNumber := C_NoNumber) (C_NoSide := C_NoSide) F48 T hsys c_fewest c_Heap_names k_Heap k_Parcel k_Sides, F48, PySem.W.mg_of X G a48, b48⟩
  obtain ⟨d_fewest1⟩ := VS.bdN (ps := a_fewest) F28 1 0 (by decide) rfl (fun T kV doc pm an cdv ct us its h1 h2 => match us, its, h1, h2 with | [_], [_], _, _ => ⟨_, rfl, rfl⟩)
  exact ok_law (C_Sides := C_Sides) (C_Parcel := C_Parcel) (C_Heap := C_Heap) (C_NoNumber := C_NoNumber) (C_NoSide := C_NoSide) F49 T hsys c__law_cell c__law_purse c__law_take c__law_rows c__law_spare c__law_heap c__law_names c_fewest d_fewest1 c__law_right c__law_asked_again c__law_deed k_Heap k_Parcel k_Sides
end LW
open PySem PySem.W PyProof.Rows in
set_option maxRecDepth 100000 in
set_option maxHeartbeats 0 in
theorem PySem.Challenge.cw_boxinbox_k30_whole_fewest_nests_holds : PySem.Challenge.rw_boxinbox_k30_whole_fewest_nests.Holds := by
  w_on; o_law; k_head; (case hw => w_witness2)
  k_fill
  refine VS.walk_val (l := PySem.Challenge.rw_boxinbox_k30_whole_fewest_nests) (n := 63) (k := 20) (x := "_law_script") (CX := fun w => L2.CX (PySem.Challenge.rw_boxinbox_k30_whole_fewest_nests).prog w) (p := fun _ => LW.p_law) rfl (by decide) rfl ⟨rfl, by decide, by decide⟩ (by first | rfl | decide +kernel) (fun w h Y => PySem.W.kIn_of Y) ?F (fun _ ns h => ⟨ns, rfl, h, fun _ => rfl⟩) (fun _ _ _ _ _ z => by obtain ⟨_, _, _, _, _, _, _, _, _, _, _, _, q⟩ := z; exact q)
  case F =>
    intro w mg fa h KX G hmg
    refine' LW.all_mk KX G hmg ?aKSides ?pgKSides ?hdKSides ?poKSides ?saKSides ?haKSides ?hmKSides ?icKSides ?tcKSides ?nKSides_three ?zKSides_int ?zKSides_bool ?zKSides_str ?zKSides_NoneType ?zKSides_list ?zKSides_tuple ?zKSides_dict ?aKParcel ?pgKParcel ?hdKParcel ?poKParcel ?saKParcel ?haKParcel ?hmKParcel ?icKParcel ?tcKParcel ?nKParcel_called ?nKParcel_outside ?nKParcel_thick ?nKParcel_heavy ?nKParcel_strong ?nKParcel_marks ?nKParcel_told ?nKParcel_names ?zKParcel_int ?zKParcel_bool ?zKParcel_str ?zKParcel_NoneType ?zKParcel_list ?zKParcel_tuple ?zKParcel_dict ?aKHeap ?pgKHeap ?hdKHeap ?poKHeap ?saKHeap ?haKHeap ?hmKHeap ?icKHeap ?tcKHeap ?nKHeap_held ?nKHeap_told ?nKHeap_kind ?hnO ?htkO ?aXNoNumber ?xXNoNumber ?saXNoNumber ?gaXNoNumber ?ggXNoNumber ?noXNoNumber ?exXNoNumber ?tyXNoNumber ?kcXNoNumber ?hdXNoNumber ?iXNoNumber ?tXNoNumber ?lXNoNumber ?cXNoNumber ?kXNoNumber ?aXNoSide ?xXNoSide ?saXNoSide ?gaXNoSide ?ggXNoSide ?noXNoSide ?exXNoSide ?tyXNoSide ?kcXNoSide ?hdXNoSide ?iXNoSide ?tXNoSide ?lXNoSide ?cXNoSide ?kXNoSide ?a0 ?l0 ?c0 ?k0 ?a1 ?l1 ?c1 ?k1 ?a2 ?i2 ?l2 ?c2 ?k2 ?mk2 ?kc2 ?a3 ?i3 ?l3 ?c3 ?k3 ?a4 ?i4 ?l4 ?c4 ?k4 ?a5 ?l5 ?c5 ?k5 ?a6 ?l6 ?c6 ?k6 ?a7 ?l7 ?c7 ?k7 ?a8 ?i8 ?l8 ?c8 ?k8 ?t8 ?mk8 ?kc8 ?a9 ?i9 ?l9 ?c9 ?k9 ?a10 ?i10 ?l10 ?c10 ?k10 ?a11 ?i11 ?l11 ?c11 ?k11 ?a12 ?i12 ?l12 ?c12 ?k12 ?a13 ?i13 ?l13 ?c13 ?k13 ?a14 ?i14 ?l14 ?c14 ?k14 ?a15 ?i15 ?l15 ?c15 ?k15 ?mk15 ?kc15 ?a16 ?i16 ?l16 ?c16 ?k16 ?a17 ?i17 ?l17 ?c17 ?k17 ?a18 ?i18 ?l18 ?c18 ?k18 ?t18 ?a19 ?i19 ?l19 ?c19 ?k19 ?a20 ?i20 ?l20 ?c20 ?k20 ?a21 ?l21 ?c21 ?k21 ?a22 ?l22 ?c22 ?k22 ?a23 ?l23 ?c23 ?k23 ?t23 ?a24 ?l24 ?c24 ?k24 ?a25 ?l25 ?c25 ?k25 ?a26 ?l26 ?c26 ?k26 ?a27 ?l27 ?c27 ?k27 ?a28 ?l28 ?c28 ?k28 ?t28 ?a29 ?l29 ?c29 ?k29 ?a30 ?l30 ?c30 ?k30 ?a31 ?l31 ?c31 ?k31 ?a32 ?l32 ?c32 ?k32 ?a33 ?l33 ?c33 ?k33 ?a34 ?l34 ?c34 ?k34 ?a35 ?l35 ?c35 ?k35 ?a36 ?l36 ?c36 ?k36 ?a37 ?l37 ?c37 ?k37 ?a38 ?l38 ?c38 ?k38 ?a39 ?l39 ?c39 ?k39 ?a40 ?l40 ?c40 ?k40 ?a41 ?l41 ?c41 ?k41 ?a42 ?l42 ?c42 ?k42 ?a43 ?l43 ?c43 ?k43 ?a44 ?l44 ?c44 ?k44 ?a45 ?l45 ?c45 ?k45 ?a46 ?l46 ?c46 ?k46 ?a47 ?l47 ?c47 ?k47 ?a48 ?l48 ?c48 ?k48 ?a49 ?l49 ?c49 ?k49 ?z_all ?z_bool ?z_enumerate ?z_int ?z_isinstance ?z_len ?z_list ?z_max ?z_min ?z_range ?z_repr ?z_set ?z_sorted ?z_str ?z_tuple ?z_zip ?z_LETTERS ?z_MOST_PARCELS ?z_MOST_SIDE ?z_MOST_SPARE ?z_MOST_WALL ?z_MOST_WEIGHT ?z_ORDERS ?kO ?kt0_ ?kt1_ ?kt2_ ?kt3_ ?kt4_ ?kt5_ ?z_LABELS ?kL_
    (case aKSides => k_is)
    (case aKParcel => k_is)
    (case aKHeap => k_is)
    (case pgKSides => k_is)
    (case hdKSides => k_is)
    (case poKSides => k_is)
    (case saKSides => k_is)
    (case haKSides => k_is)
    (case hmKSides => k_is)
    (case icKSides => k_is)
    (case tcKSides => k_is)
    (case nKSides_three => k_is)
    (case zKSides_int => k_is)
    (case zKSides_bool => k_is)
    (case zKSides_str => k_is)
    (case zKSides_NoneType => k_is)
    (case zKSides_list => k_is)
    (case zKSides_tuple => k_is)
    (case zKSides_dict => k_is)
    (case pgKParcel => k_is)
    (case hdKParcel => k_is)
    (case poKParcel => k_is)
    (case saKParcel => k_is)
    (case haKParcel => k_is)
    (case hmKParcel => k_is)
    (case icKParcel => k_is)
    (case tcKParcel => k_is)
    (case nKParcel_called => k_is)
    (case nKParcel_outside => k_is)
    (case nKParcel_thick => k_is)
    (case nKParcel_heavy => k_is)
    (case nKParcel_strong => k_is)
    (case nKParcel_marks => k_is)
    (case nKParcel_told => k_is)
    (case nKParcel_names => k_is)
    (case zKParcel_int => k_is)
    (case zKParcel_bool => k_is)
    (case zKParcel_str => k_is)
    (case zKParcel_NoneType => k_is)
    (case zKParcel_list => k_is)
    (case zKParcel_tuple => k_is)
    (case zKParcel_dict => k_is)
    (case pgKHeap => k_is)
    (case hdKHeap => k_is)
    (case poKHeap => k_is)
    (case saKHeap => k_is)
    (case haKHeap => k_is)
    (case hmKHeap => k_is)
    (case icKHeap => k_is)
    (case tcKHeap => k_is)
    (case nKHeap_held => k_is)
    (case nKHeap_told => k_is)
    (case nKHeap_kind => k_is)
    (case hnO => k_is)
    (case htkO => k_is)
    (case aXNoNumber => k_is)
    (case xXNoNumber => k_is)
    (case saXNoNumber => k_is)
    (case gaXNoNumber => k_is)
    (case ggXNoNumber => k_is)
    (case noXNoNumber => k_is)
    (case exXNoNumber => k_is)
    (case tyXNoNumber => k_is)
    (case kcXNoNumber => k_is)
    (case hdXNoNumber => k_is)
    (case iXNoNumber => k_is)
    (case tXNoNumber => k_is)
    (case lXNoNumber => k_is)
    (case cXNoNumber => k_is)
    (case kXNoNumber => k_is)
    (case aXNoSide => k_is)
    (case xXNoSide => k_is)
    (case saXNoSide => k_is)
    (case gaXNoSide => k_is)
    (case ggXNoSide => k_is)
    (case noXNoSide => k_is)
    (case exXNoSide => k_is)
    (case tyXNoSide => k_is)
    (case kcXNoSide => k_is)
    (case hdXNoSide => k_is)
    (case iXNoSide => k_is)
    (case tXNoSide => k_is)
    (case lXNoSide => k_is)
    (case cXNoSide => k_is)
    (case kXNoSide => k_is)
    (case a0 => k_is)
    (case l0 => k_is)
    (case c0 => k_is)
    (case k0 => k_is)
    (case a1 => k_is)
    (case l1 => k_is)
    (case c1 => k_is)
    (case k1 => k_is)
    (case a2 => k_is)
    (case i2 => k_is)
    (case l2 => k_is)
    (case c2 => k_is)
    (case k2 => k_is)
    (case mk2 => k_is)
    (case kc2 => k_is)
    (case a3 => k_is)
    (case i3 => k_is)
    (case l3 => k_is)
    (case c3 => k_is)
    (case k3 => k_is)
    (case a4 => k_is)
    (case i4 => k_is)
    (case l4 => k_is)
    (case c4 => k_is)
    (case k4 => k_is)
    (case a5 => k_is)
    (case l5 => k_is)
    (case c5 => k_is)
    (case k5 => k_is)
    (case a6 => k_is)
    (case l6 => k_is)
    (case c6 => k_is)
    (case k6 => k_is)
    (case a7 => k_is)
    (case l7 => k_is)
    (case c7 => k_is)
    (case k7 => k_is)
    (case a8 => k_is)
    (case i8 => k_is)
    (case l8 => k_is)
    (case c8 => k_is)
    (case k8 => k_is)
    (case t8 => k_is)
    (case mk8 => k_is)
    (case kc8 => k_is)
    (case a9 => k_is)
    (case i9 => k_is)
    (case l9 => k_is)
    (case c9 => k_is)
    (case k9 => k_is)
    (case a10 => k_is)
    (case i10 => k_is)
    (case l10 => k_is)
    (case c10 => k_is)
    (case k10 => k_is)
    (case a11 => k_is)
    (case i11 => k_is)
    (case l11 => k_is)
    (case c11 => k_is)
    (case k11 => k_is)
    (case a12 => k_is)
    (case i12 => k_is)
    (case l12 => k_is)
    (case c12 => k_is)
    (case k12 => k_is)
    (case a13 => k_is)
    (case i13 => k_is)
    (case l13 => k_is)
    (case c13 => k_is)
    (case k13 => k_is)
    (case a14 => k_is)
    (case i14 => k_is)
    (case l14 => k_is)
    (case c14 => k_is)
    (case k14 => k_is)
    (case a15 => k_is)
    (case i15 => k_is)
    (case l15 => k_is)
    (case c15 => k_is)
    (case k15 => k_is)
    (case mk15 => k_is)
    (case kc15 => k_is)
    (case a16 => k_is)
    (case i16 => k_is)
    (case l16 => k_is)
    (case c16 => k_is)
    (case k16 => k_is)
    (case a17 => k_is)
    (case i17 => k_is)
    (case l17 => k_is)
    (case c17 => k_is)
    (case k17 => k_is)
    (case a18 => k_is)
    (case i18 => k_is)
    (case l18 => k_is)
    (case c18 => k_is)
    (case k18 => k_is)
    (case t18 => k_is)
    (case a19 => k_is)
    (case i19 => k_is)
    (case l19 => k_is)
    (case c19 => k_is)
    (case k19 => k_is)
    (case a20 => k_is)
    (case i20 => k_is)
    (case l20 => k_is)
    (case c20 => k_is)
    (case k20 => k_is)
    (case a21 => k_is)
    (case l21 => k_is)
    (case c21 => k_is)
    (case k21 => k_is)
    (case a22 => k_is)
    (case l22 => k_is)
    (case c22 => k_is)
    (case k22 => k_is)
    (case a23 => k_is)
    (case l23 => k_is)
    (case c23 => k_is)
    (case k23 => k_is)
    (case t23 => k_is)
    (case a24 => k_is)
    (case l24 => k_is)
    (case c24 => k_is)
    (case k24 => k_is)
    (case a25 => k_is)
    (case l25 => k_is)
    (case c25 => k_is)
    (case k25 => k_is)
    (case a26 => k_is)
    (case l26 => k_is)
    (case c26 => k_is)
    (case k26 => k_is)
    (case a27 => k_is)
    (case l27 => k_is)
    (case c27 => k_is)
    (case k27 => k_is)
    (case a28 => k_is)
    (case l28 => k_is)
    (case c28 => k_is)
    (case k28 => k_is)
    (case t28 => k_is)
    (case a29 => k_is)
    (case l29 => k_is)
    (case c29 => k_is)
    (case k29 => k_is)
    (case a30 => k_is)
    (case l30 => k_is)
    (case c30 => k_is)
    (case k30 => k_is)
    (case a31 => k_is)
    (case l31 => k_is)
    (case c31 => k_is)
    (case k31 => k_is)
    (case a32 => k_is)
    (case l32 => k_is)
    (case c32 => k_is)
    (case k32 => k_is)
    (case a33 => k_is)
    (case l33 => k_is)
    (case c33 => k_is)
    (case k33 => k_is)
    (case a34 => k_is)
    (case l34 => k_is)
    (case c34 => k_is)
    (case k34 => k_is)
    (case a35 => k_is)
    (case l35 => k_is)
    (case c35 => k_is)
    (case k35 => k_is)
    (case a36 => k_is)
    (case l36 => k_is)
    (case c36 => k_is)
    (case k36 => k_is)
    (case a37 => k_is)
    (case l37 => k_is)
    (case c37 => k_is)
    (case k37 => k_is)
    (case a38 => k_is)
    (case l38 => k_is)
    (case c38 => k_is)
    (case k38 => k_is)
    (case a39 => k_is)
    (case l39 => k_is)
    (case c39 => k_is)
    (case k39 => k_is)
    (case a40 => k_is)
    (case l40 => k_is)
    (case c40 => k_is)
    (case k40 => k_is)
    (case a41 => k_is)
    (case l41 => k_is)
    (case c41 => k_is)
    (case k41 => k_is)
    (case a42 => k_is)
    (case l42 => k_is)
    (case c42 => k_is)
    (case k42 => k_is)
    (case a43 => k_is)
    (case l43 => k_is)
    (case c43 => k_is)
    (case k43 => k_is)
    (case a44 => k_is)
    (case l44 => k_is)
    (case c44 => k_is)
    (case k44 => k_is)
    (case a45 => k_is)
    (case l45 => k_is)
    (case c45 => k_is)
    (case k45 => k_is)
    (case a46 => k_is)
    (case l46 => k_is)
    (case c46 => k_is)
    (case k46 => k_is)
    (case a47 => k_is)
    (case l47 => k_is)
    (case c47 => k_is)
    (case k47 => k_is)
    (case a48 => k_is)
    (case l48 => k_is)
    (case c48 => k_is)
    (case k48 => k_is)
    (case a49 => k_is)
    (case l49 => k_is)
    (case c49 => k_is)
    (case k49 => k_is)
    (case z_all => k_is)
    (case z_bool => k_is)
    (case z_enumerate => k_is)
    (case z_int => k_is)
    (case z_isinstance => k_is)
    (case z_len => k_is)
    (case z_list => k_is)
    (case z_max => k_is)
    (case z_min => k_is)
    (case z_range => k_is)
    (case z_repr => k_is)
    (case z_set => k_is)
    (case z_sorted => k_is)
    (case z_str => k_is)
    (case z_tuple => k_is)
    (case z_zip => k_is)
    (case z_LETTERS => k_is)
    (case z_MOST_PARCELS => k_is)
    (case z_MOST_SIDE => k_is)
    (case z_MOST_SPARE => k_is)
    (case z_MOST_WALL => k_is)
    (case z_MOST_WEIGHT => k_is)
    (case z_ORDERS => k_is)
    (case kO => k_is)
    (case kt0_ => k_is)
    (case kt1_ => k_is)
    (case kt2_ => k_is)
    (case kt3_ => k_is)
    (case kt4_ => k_is)
    (case kt5_ => k_is)
    (case z_LABELS => k_is)
    (case kL_ => k_is)
