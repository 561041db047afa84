import PyProof.Rows.All
import Wide.All
import OpenK.AllK
import Wide.FinOn
import HandS.ForMost
import HandS.Walk
import HandS.IsInst
import HandS.Codes
import HandS.Wide
import HandS.Defaults
import HandS.MakeKwOnly
import KE.KDictList
import HandS.TupLe
import HandS.Exc
import HandS.ExcInit
import HandS.ExcField
import HandS.SortKw
import HandS.Zip
import HandS.NoneIn
import HandS.TryMany
import KE.GoesMore
import KE.KCallOwn
import HandS.TupAny
import HandS.FStr
import HandS.More
import HandS.OwnEq
import HandS.Style
import KE.DatumOrd
import KE.SortKeyHeap
import HandS.Keys
import KE.KDictCopyH
import PyProof.Rows.SortShellAny
import HandS.SortOrd
import KE.KDictZip
import KE.GoesZip
import HandS.Conv
import PySem.Challenge.RW_boxinbox_k26_lying_in_the_outer_one
set_option Elab.async false
set_option linter.all false
set_option maxRecDepth 100000
set_option maxHeartbeats 8000000
namespace PySem.W.Fast
theorem tw8086636748472186459 : True := trivial
theorem tw2189651363821869395 : True := trivial
theorem tw12539763605388736743 : True := trivial
theorem tw2741107171356027060 : True := trivial
theorem tw6597977834955417556 : True := trivial
theorem tw7588492620053231125 : True := trivial
theorem tw16860293770074124140 : True := trivial
theorem tw3340611394010981455 : True := trivial
theorem tw3135843054056390656 : True := trivial
theorem tw2891951782809081663 : True := trivial
theorem tw17677842882703911097 : True := trivial
theorem tw13521604172121246509 : True := trivial
theorem tw13968970414271767016 : True := trivial
theorem tw13711630816113446600 : True := trivial
theorem tw1855764895280474103 : True := trivial
theorem tw15171783768960448279 : True := trivial
theorem tw17938737014880220668 : True := trivial
end PySem.W.Fast
namespace VS
def Box (p : Prop) : Prop := p
theorem box {p : Prop} (h : p) : Box p = True := eq_true h
theorem unbox {p : Prop} (h : Box p) : p := h
end VS
namespace VS
open PySem L2 C8 PySem.Spec PyProof.Rows
/-! ### objects of own exception classes: their class, isinstance, == with own instances -/
section
open PySem.W
variable {prog : Program} {w : World} {A : Around} {E : Value → Shared → Prop} {s : Shared} {K : PySem.W.Frag} {x D : Addr} {ox od : Obj}
structure XcT (K : PySem.W.Frag) (D : Addr) : Prop where
  ga : PySem.W.findIn K (.ref D) "__getattribute__" = some (some (.builtin "BaseException.__getattribute__"))
  gg : PySem.W.findIn K (.ref D) "__getattr__" = some none
  exC : PySem.W.subIn K (.ref D) (.type "BaseException") = some true
  hd : PySem.W.hasDictIn K D = true
  ha : PySem.W.findIn K (.ref D) "__class__" = some (some (.builtin "object.__class__"))
  hn : PySem.W.specialIn K (.builtin "object.__class__") "__get__" = some (some (.builtin "getset_descriptor.__get__"))
  htk : PySem.W.takesIn K (.builtin "object.__class__") = some true
  hm : PySem.W.mroIn K D (.type "object") = some true
  eq : PySem.W.findIn K (.ref D) "__eq__" = some (some (.builtin "object.__eq__"))
theorem exc_class (T : XcT K D) {Q : Option Value → Shared → Prop} (X : K.In s.heap) (I : InstAt s.heap x ox D (some od)) (h : Q (some (.ref D)) { s with toks := s.toks + 1 }) : wpAny (model prog w) A (getAttr? (.ref x) "__class__") Q E s := by
  have hf : findObj K D (some od) "__class__" = some (.bind (.builtin "getset_descriptor.__get__") (.builtin "object.__class__")) := findObj_data (by obtain ⟨cd, hc, _⟩ := any_some T.hd; rw [hc]; rfl) T.ha T.hn T.htk
  obtain ⟨hp, g, d, t, os⟩ := s
  have L0 := I.type (M := model prog w)
  have L1 := looks_findIn (M := model prog w) X T.ga
  have L2 := looks_findIn (M := model prog w) X T.gg
  have L3 := looks_find (M := model prog w) X I hf
  have sub : Looks (model prog w) hp (isInstance (.ref x) (.type "BaseException")) true := L0.andThen (looks_subIn X T.exC)
  have hx2 : (Value.builtin "BaseException.__getattribute__" == Value.builtin "object.__getattribute__") = false := by decide +kernel
  have hx1 : (onTheHeap (Value.ref D) && Value.builtin "BaseException.__getattribute__" == Value.builtin "object.__getattribute__") = false := by rw [hx2]; rfl
  unfold getAttr? getAttrBy? getAttrBy
  refine wpAny_bind (wpAny_mkText (wpAny_bind (wpAny_attempt (wpAny_holding (wpAny_bind (L0.at (wpAny_bind (L1.at ?_))))))))
  show wpAny _ _ (if (onTheHeap (Value.ref D) && Value.builtin "BaseException.__getattribute__" == Value.builtin "object.__getattribute__") = true then _ else _) _ _ _
  rw [hx1, if_neg Bool.false_ne_true]
  unfold getAttrByItsOwn hookBefore
  refine wpAny_bind ?_
  rw [if_pos (show onTheHeap (Value.ref D) = true from rfl)]
  refine L2.at ?_
  refine wpAny_bind (wpAny_attempt (wpAny_holding ?_))
  unfold callGetattribute
  rw [show (false && onTheHeap (Value.builtin "BaseException.__getattribute__")) = false from rfl, if_neg Bool.false_ne_true]
  unfold boundAndCalled
  rw [PySem.F.excAttr_ValueError.ga.bind (.ref x)]
  refine wpAny_bind (wpAny_pure ?_)
  show wpAny _ _ (call (.builtin "BaseException.__getattribute__") [.ref x, .str "__class__" t]) _ _ _
  refine wpAny_call (codeAny_call_builtin PySem.F.excAttr_ValueError.ga.plain PySem.F.entry_bexc_ga ?_)
  refine @check_slot (model prog w) _ _ ⟨hp, g, d, t + 1, os⟩ "BaseException.__getattribute__" "BaseException" "__getattribute__" (.ref x) [.str "__class__" t] [] _ (by decide +kernel) (by decide +kernel) sub (PySem.F.args_bexc_ga (.ref x) (.str "__class__" t)) ?_
  unfold Builtin.«object.__getattribute__»
  refine wpAny_bind (wpAny_of_eq (a := ((Value.ref x : Value), [Value.str "__class__" t])) (by first | rfl | (simp only [slotArgs]; rfl)) ?_)
  refine wpAny_bind (wpAny_pure (wpAny_bind (L0.at (wpAny_bind (L3.at ?_)))))
  show wpAny _ _ (holding [Value.builtin "object.__class__"] (call (.builtin "getset_descriptor.__get__") [.builtin "object.__class__", .ref x, .ref D]) >>= ret) _ _ _
  refine wpAny_bind (wpAny_holding (wpAny_call (class_get (ox := ox) (od := some od) X I T.hm ?_)))
  refine wpAny_pure ?_
  show wpAny _ _ (handedOut (.ref D)) _ _ _
  rw [handedOut_of rfl]
  exact wpAny_pure (wpAny_pure h)
end
open PySem.W in
theorem kitx_exc {K : PySem.W.Frag} {x D : Addr} {ox od : Obj} (T : XcT K D) : PySem.W.KitX K (.ref x) (.ref D) (fun h => PySem.W.InstAt h x ox D (some od)) where
  ty := fun _ _ _ I => I.type
  it := fun _ _ X _ => by
    obtain ⟨cdD, hcD, _⟩ := any_some T.hd
    unfold clsIn at hcD
    split at hcD
    · rename_i c' d' cd' sl' ho
      intro A' Q' E' s' k q
      unfold isType loadHead
      exact wpAny_bind (wpAny_loadPart (k _ _ (X _ _ ho)) (wpAny_pure q))
    · cases hcD
  ne := fun h tp dd its n sl X htp => by
    obtain ⟨cdD, hcD, _⟩ := any_some T.hd
    refine Bool.eq_false_iff.mpr fun q => ?_
    have e : D = tp := Value.ref.inj (beq_iff_eq.mp q)
    subst e
    unfold clsIn at hcD
    split at hcD
    · rename_i c' d' cd' sl' ho
      have z := (X _ _ ho).symm.trans htp
      cases z
    · cases hcD
  ca := fun X I k => exc_class T X I k
section
variable {X : Cx} {pins : List (Addr × Obj)} {σ : L2.St} {H : Hp} {s : Shared}
/-- the class of a thing, also of an object of an own exception class -/
inductive TyZ (K : PySem.W.Frag) (H : Hp) : V → Value → Prop
  | x {v : V} {t : Value} (h : TyX K H v t) : TyZ K H v t
  | e {a C dd : Addr} {fs : List (Str × V)} (h : H a = some (exo a C (some dd))) (h2 : H dd = some (exd dd fs)) (T : XcT K C) : TyZ K H (.ref a) (.ref C)
theorem exo_inst {a C dd : Addr} {fs : List (Str × V)} (I : Inv X pins σ H s) (h : H a = some (exo a C (some dd))) (h2 : H dd = some (exd dd fs)) :
    ∃ ox od, PySem.W.InstAt s.heap a ox C (some od) ∧ s.heap.get? a = some ox ∧ ox.cls = .ref C := by
  obtain ⟨t1, ho⟩ := exo_at I.hok h
  obtain ⟨mA, ⟨od, es, ep, hd, _⟩, _⟩ := exd_at I.hok h2
  exact ⟨_, od, ⟨ho, rfl, rfl, hd⟩, ho, rfl⟩
theorem kit_ofZ {x : V} {u t : Value} (I : Inv X pins σ H s) (rx : RelV x u) (ty : TyZ X.K H x t) : ∃ P : Heap → Prop, PySem.W.KitX X.K u t P ∧ P s.heap ∧ u ≠ .builtin "__main__.__loader__#opaque" := by
  cases ty with
  | x h => exact kit_of I rx h
  | @e a C dd fs h h2 T =>
    cases (show u = Value.ref a from rx)
    obtain ⟨ox, od, J, _⟩ := exo_inst I h h2
    exact ⟨_, kitx_exc T, J, fun z => nomatch z⟩
def rIsiZ (K : PySem.W.Frag) : List V → Hp → VK → Prop := fun xs H Q => ∃ (x c : V) (t u : Value) (b : Bool), xs = [x, c] ∧ ClsV c u ∧ TyZ K H x t ∧ PySem.W.kitOne K t u = some b ∧ Q (.bl b) H
theorem c_isiZ : CallR X (.builtin "isinstance") (rIsiZ X.K) := by
  intro pins s σ H xs us Q I r h
  obtain ⟨x, c, t, u, b, rfl, k, ty, e, q⟩ := h
  obtain ⟨u1, u2, rfl, r1, r2⟩ := vals2 r
  have e2 := k.eq r2
  subst e2
  obtain ⟨P, Z, p, hx⟩ := kit_ofZ I r1 ty
  exact PySem.W.kia_one Z I.kIn p e hx fun tk => ⟨.bl b, H, I.tok tk, rfl, q⟩
end
end VS
namespace VS
open PySem L2
/-! values without the heap -/
inductive D where
  | non | bl (b : Bool) | int (i : Int) | str (x : Str) | ty (n : String) | ref (a : Addr)
  | rol (xs : List D) | hid | lst (xs : List D) | tup (xs : List D) | dK (kvs : List (Key × D)) | ins (C : Addr) (fs : List (Str × D)) | xcp (a dd C : Addr) (fs : List (Str × D)) | xv (C : Addr) (fs : List (Str × D))
/-- the objects that are known by reference -/
abbrev Sto := Addr → Option D
def put (S : Sto) (a : Addr) (d : D) : Sto := fun b => if b = a then some d else S b
def del (S : Sto) (a : Addr) : Sto := fun b => if b = a then none else S b
theorem put_same {S : Sto} {a : Addr} {d : D} : put S a d a = some d := by unfold put; rw [if_pos rfl]
theorem put_ne {S : Sto} {a b : Addr} {d : D} (h : b ≠ a) : put S a d b = S b := by unfold put; rw [if_neg h]
theorem put_put {S : Sto} {a : Addr} {d e : D} : put (put S a d) a e = put S a e := by
  funext b; unfold put; split <;> rfl
theorem del_same {S : Sto} {a : Addr} : del S a a = none := by unfold del; rw [if_pos rfl]
theorem del_ne {S : Sto} {a b : Addr} (h : b ≠ a) : del S a b = S b := by unfold del; rw [if_neg h]
theorem ne_at {S : Sto} {a b : Addr} {d : D} (h : S a = some d) (h' : S b = none) : a ≠ b := by
  intro e; subst e; rw [h] at h'; cases h'
abbrev Kl (K : PySem.W.Frag) (a : Addr) (xs : List V) : Prop :=
  ∃ (o : Obj) (its : Array Value) (n : Nat), K.lookup a = some o ∧ o.cls = .type "list" ∧ o.dict = none ∧ o.data = .seq its n ∧ its.size ≤ sizeLine ∧ Vals xs its.toList
abbrev Kt (K : PySem.W.Frag) (a : Addr) (xs : List V) : Prop :=
  ∃ (o : Obj) (its : Array Value) (n : Nat), K.lookup a = some o ∧ o.cls = .type "tuple" ∧ o.data = .seq its n ∧ its.size ≤ sizeLine ∧ Vals xs its.toList
section
variable (K : PySem.W.Frag) (H : Hp) (S : Sto)
mutual
/-- v is the value d, all of whose objects stand in H and are not known by reference -/
inductive Rep : V → D → Prop
  | non : Rep .non .non
  | bl (b : Bool) : Rep (.bl b) (.bl b)
  | int (i : Int) : Rep (.int i) (.int i)
  | str (x : Str) : Rep (.str x) (.str x)
  | ty (n : String) : Rep (.ty n) (.ty n)
  | ref (a : Addr) : Rep (.ref a) (.ref a)
  | rol {a : Addr} {xs : List V} {ds : List D} {o : Obj} (s : S a = none) (h : H a = some (.frz o (.lst xs))) (r : RepL xs ds) : Rep (.ref a) (.rol ds)
  | rolK {a : Addr} {xs : List V} {ds : List D} (h : Kl K a xs) (r : RepL xs ds) : Rep (.ref a) (.rol ds)
  | lst {a : Addr} {xs : List V} {ds : List D} (s : S a = none) (h : H a = some (.lst xs)) (r : RepL xs ds) : Rep (.ref a) (.lst ds)
  | tup {a : Addr} {xs : List V} {ds : List D} (s : S a = none) (h : H a = some (.tup xs)) (r : RepL xs ds) : Rep (.ref a) (.tup ds)
  | tupK {a : Addr} {xs : List V} {ds : List D} (h : Kt K a xs) (r : RepL xs ds) : Rep (.ref a) (.tup ds)
  | dK {a : Addr} {kvs : List (Key × V)} {ds : List (Key × D)} (s : S a = none) (h : Rd H a (.dK kvs)) (r : RepK kvs ds) : Rep (.ref a) (.dK ds)
  | ins {a C dx : Addr} {fs : List (Str × V)} {ds : List (Str × D)} (s : S a = none) (h : H a = some (.ins C dx fs)) (r : RepF fs ds) : Rep (.ref a) (.ins C ds)
  | xcp {a dd C : Addr} {fs : List (Str × V)} {ds : List (Str × D)} (s : S dd = none) (h : H dd = some (.xd fs)) (r : RepF fs ds) : Rep (.ref a) (.xcp a dd C ds)
  | xv {a C dd : Addr} {fs : List (Str × V)} {ds : List (Str × D)} (s : S a = none) (h : H a = some (exo a C (some dd))) (s2 : S dd = none) (h2 : H dd = some (exd dd fs)) (r : RepF fs ds) : Rep (.ref a) (.xv C ds)
inductive RepL : List V → List D → Prop
  | nil : RepL [] []
  | cons {v : V} {vs : List V} {d : D} {ds : List D} (h : Rep v d) (t : RepL vs ds) : RepL (v :: vs) (d :: ds)
inductive RepK : List (Key × V) → List (Key × D) → Prop
  | nil : RepK [] []
  | cons {k : Key} {v : V} {vs : List (Key × V)} {d : D} {ds : List (Key × D)} (h : Rep v d) (t : RepK vs ds) : RepK ((k, v) :: vs) ((k, d) :: ds)
inductive RepF : List (Str × V) → List (Str × D) → Prop
  | nil : RepF [] []
  | cons {k : Str} {v : V} {vs : List (Str × V)} {d : D} {ds : List (Str × D)} (h : Rep v d) (t : RepF vs ds) : RepF ((k, v) :: vs) ((k, d) :: ds)
end
end
/-- from (S, H) to (S', H'): what is not known by reference stays, so does what is hidden -/
structure Mk (S : Sto) (H : Hp) (S' : Sto) (H' : Hp) : Prop where
  keep : ∀ a o, S a = none → H a = some o → H' a = some o
  fresh : ∀ a, S a = none → H a ≠ none → S' a = none
structure Mv (S : Sto) (H : Hp) (S' : Sto) (H' : Hp) : Prop extends Mk S H S' H' where
  hid : ∀ a o, S a = some .hid → H a = some o → H' a = some o ∧ S' a = some .hid
theorem Mv.refl {S : Sto} {H : Hp} : Mv S H S H := ⟨⟨fun _ _ _ h => h, fun _ h _ => h⟩, fun _ _ h e => ⟨e, h⟩⟩
theorem Mv.trans {S S1 S2 : Sto} {H H1 H2 : Hp} (a : Mv S H S1 H1) (b : Mv S1 H1 S2 H2) : Mv S H S2 H2 where
  keep := fun x o s h => b.keep x o (a.fresh x s (by rw [h]; simp)) (a.keep x o s h)
  fresh := fun x s h => by
    cases q : H x with
    | none => exact absurd q h
    | some o => exact b.fresh x (a.fresh x s h) (by rw [a.keep x o s q]; simp)
  hid := fun x o s h => let ⟨e1, e2⟩ := a.hid x o s h; b.hid x o e2 e1
/-- the same, but dicts may be locked, or freed again -/
def nrm : HO → HO
  | .frz _ (.dK k) => .dK k
  | o => o
structure Ml (S : Sto) (H : Hp) (S' : Sto) (H' : Hp) : Prop where
  kp : ∀ a o, S a = none → H a = some o → ∃ o', H' a = some o' ∧ nrm o' = nrm o
  fresh : ∀ a, S a = none → H a ≠ none → S' a = none
theorem Mk.ml {S S' : Sto} {H H' : Hp} (m : Mk S H S' H') : Ml S H S' H' := ⟨fun a o s h => ⟨o, m.keep a o s h, rfl⟩, m.fresh⟩
theorem nrm_eq {o o' : HO} (e : nrm o' = nrm o) (nd : ∀ k, nrm o ≠ .dK k) : o' = nrm o := by
  unfold nrm at e
  split at e
  · exact absurd e.symm (nd _)
  · exact e
theorem Ml.keep {S S' : Sto} {H H' : Hp} (m : Ml S H S' H') (a : Addr) (o : HO) (s : S a = none) (h : H a = some o) (nd : nrm o = o ∧ ∀ k, nrm o ≠ .dK k := by exact ⟨rfl, fun _ e => by cases e⟩) : H' a = some o := by
  obtain ⟨o', h', e⟩ := m.kp a o s h
  rw [h', nrm_eq e nd.2, nd.1]
theorem Ml.keepD {S S' : Sto} {H H' : Hp} (m : Ml S H S' H') {a : Addr} {k : List (Key × V)} (s : S a = none) (h : Rd H a (.dK k)) : Rd H' a (.dK k) := by
  have fin : ∀ o, H a = some o → nrm o = .dK k → Rd H' a (.dK k) := fun o ho e => by
    obtain ⟨o', h', e'⟩ := m.kp a o s ho
    rw [e] at e'
    unfold nrm at e'
    split at e'
    · cases e'
      exact .inr ⟨_, h'⟩
    · rw [e'] at h'
      exact .inl h'
  rcases h with h | ⟨o, h⟩
  · exact fin _ h rfl
  · exact fin _ h rfl
theorem rd_ne {H : Hp} {a : Addr} {u : HO} (h : Rd H a u) : H a ≠ none := by
  rcases h with h | ⟨o, h⟩ <;> (rw [h]; simp)
section
variable {K : PySem.W.Frag} {S S' : Sto} {H H' : Hp}
mutual
theorem Rep.ml (m : Ml S H S' H') : ∀ {v : V} {d : D}, Rep K H S v d → Rep K H' S' v d
  | _, _, .non => .non
  | _, _, .bl b => .bl b
  | _, _, .int i => .int i
  | _, _, .str x => .str x
  | _, _, .ty n => .ty n
  | _, _, .ref a => .ref a
  | _, _, .rol s h r => .rol (m.fresh _ s (by rw [h]; simp)) (m.keep _ _ s h) (RepL.ml m r)
  | _, _, .rolK h r => .rolK h (RepL.ml m r)
  | _, _, .lst s h r => .lst (m.fresh _ s (by rw [h]; simp)) (m.keep _ _ s h) (RepL.ml m r)
  | _, _, .tup s h r => .tup (m.fresh _ s (by rw [h]; simp)) (m.keep _ _ s h) (RepL.ml m r)
  | _, _, .tupK h r => .tupK h (RepL.ml m r)
  | _, _, .dK s h r => .dK (m.fresh _ s (rd_ne h)) (m.keepD s h) (RepK.ml m r)
  | _, _, .ins s h r => .ins (m.fresh _ s (by rw [h]; simp)) (m.keep _ _ s h) (RepF.ml m r)
  | _, _, .xcp s h r => .xcp (m.fresh _ s (by rw [h]; simp)) (m.keep _ _ s h) (RepF.ml m r)
  | _, _, .xv s h s2 h2 r => .xv (m.fresh _ s (by rw [h]; simp)) (m.keep _ _ s h) (m.fresh _ s2 (by rw [h2]; simp)) (m.keep _ _ s2 h2) (RepF.ml m r)
theorem RepL.ml (m : Ml S H S' H') : ∀ {vs : List V} {ds : List D}, RepL K H S vs ds → RepL K H' S' vs ds
  | _, _, .nil => .nil
  | _, _, .cons h t => .cons (Rep.ml m h) (RepL.ml m t)
theorem RepK.ml (m : Ml S H S' H') : ∀ {vs : List (Key × V)} {ds : List (Key × D)}, RepK K H S vs ds → RepK K H' S' vs ds
  | _, _, .nil => .nil
  | _, _, .cons h t => .cons (Rep.ml m h) (RepK.ml m t)
theorem RepF.ml (m : Ml S H S' H') : ∀ {vs : List (Str × V)} {ds : List (Str × D)}, RepF K H S vs ds → RepF K H' S' vs ds
  | _, _, .nil => .nil
  | _, _, .cons h t => .cons (Rep.ml m h) (RepF.ml m t)
end
theorem Rep.mk (m : Mk S H S' H') {v : V} {d : D} (r : Rep K H S v d) : Rep K H' S' v d := Rep.ml m.ml r
theorem RepL.mk (m : Mk S H S' H') {vs : List V} {ds : List D} (r : RepL K H S vs ds) : RepL K H' S' vs ds := RepL.ml m.ml r
theorem RepK.mk (m : Mk S H S' H') {vs : List (Key × V)} {ds : List (Key × D)} (r : RepK K H S vs ds) : RepK K H' S' vs ds := RepK.ml m.ml r
theorem RepF.mk (m : Mk S H S' H') {vs : List (Str × V)} {ds : List (Str × D)} (r : RepF K H S vs ds) : RepF K H' S' vs ds := RepF.ml m.ml r
theorem Rep.mv {v : V} {d : D} (r : Rep K H S v d) (m : Mv S H S' H') : Rep K H' S' v d := Rep.mk m.toMk r
theorem RepL.mv {v : List V} {d : List D} (r : RepL K H S v d) (m : Mv S H S' H') : RepL K H' S' v d := RepL.mk m.toMk r
theorem RepK.mv {v : List (Key × V)} {d : List (Key × D)} (r : RepK K H S v d) (m : Mv S H S' H') : RepK K H' S' v d := RepK.mk m.toMk r
theorem RepF.mv {v : List (Str × V)} {d : List (Str × D)} (r : RepF K H S v d) (m : Mv S H S' H') : RepF K H' S' v d := RepF.mk m.toMk r
theorem RepL.length : ∀ {vs : List V} {ds : List D}, RepL K H S vs ds → vs.length = ds.length
  | _, _, .nil => rfl
  | _, _, .cons _ t => congrArg Nat.succ (RepL.length t)
theorem RepL.get : ∀ {vs : List V} {ds : List D} {i : Nat} {d : D}, RepL K H S vs ds → ds[i]? = some d → ∃ v, vs[i]? = some v ∧ Rep K H S v d
  | _, _, _, _, .nil, e => by simp at e
  | _, _, 0, _, .cons h _, e => by simp at e; subst e; exact ⟨_, rfl, h⟩
  | _, _, i + 1, d, .cons _ t, e => by
    obtain ⟨v, h1, h2⟩ := RepL.get (i := i) (d := d) t (by simpa using e)
    exact ⟨v, by simpa using h1, h2⟩
theorem RepL.append : ∀ {xs ys : List V} {us ws : List D}, RepL K H S xs us → RepL K H S ys ws → RepL K H S (xs ++ ys) (us ++ ws)
  | _, _, _, _, .nil, s => s
  | _, _, _, _, .cons r t, s => .cons r (RepL.append t s)
theorem RepL.set {x : V} {u : D} (r : Rep K H S x u) : ∀ {xs : List V} {us : List D} (i : Nat), RepL K H S xs us → RepL K H S (xs.set i x) (us.set i u)
  | _, _, _, .nil => .nil
  | _, _, 0, .cons _ t => .cons r t
  | _, _, i + 1, .cons q t => .cons q (RepL.set r i t)
theorem RepL.take : ∀ {xs : List V} {us : List D} (n : Nat), RepL K H S xs us → RepL K H S (xs.take n) (us.take n)
  | _, _, 0, _ => .nil
  | _, _, _ + 1, .nil => .nil
  | _, _, n + 1, .cons r t => .cons r (RepL.take n t)
theorem RepL.drop : ∀ {xs : List V} {us : List D} (n : Nat), RepL K H S xs us → RepL K H S (xs.drop n) (us.drop n)
  | _, _, 0, r => r
  | _, _, _ + 1, .nil => .nil
  | _, _, n + 1, .cons _ t => RepL.drop n t
theorem RepL.eraseIdx : ∀ {xs : List V} {us : List D} (n : Nat), RepL K H S xs us → RepL K H S (xs.eraseIdx n) (us.eraseIdx n)
  | _, _, _, .nil => .nil
  | _, _, 0, .cons _ t => t
  | _, _, n + 1, .cons r t => .cons r (RepL.eraseIdx n t)
theorem RepL.ints : ∀ {vs : List V} {ns : List Int}, RepL K H S vs (ns.map D.int) → vs = ns.map V.int
  | _, [], .nil => rfl
  | _, n :: ns, .cons (.int _) t => congrArg (V.int n :: ·) (RepL.ints t)
theorem RepL.strs : ∀ {vs : List V} {ns : List Str}, RepL K H S vs (ns.map D.str) → vs = ns.map V.str
  | _, [], .nil => rfl
  | _, n :: ns, .cons (.str _) t => congrArg (V.str n :: ·) (RepL.strs t)
theorem RepL.bls : ∀ {vs : List V} {ns : List Bool}, RepL K H S vs (ns.map D.bl) → vs = ns.map V.bl
  | _, [], .nil => rfl
  | _, n :: ns, .cons (.bl _) t => congrArg (V.bl n :: ·) (RepL.bls t)
theorem RepL.ofInts : ∀ {ns : List Int}, RepL K H S (ns.map V.int) (ns.map D.int)
  | [] => .nil
  | n :: _ => .cons (.int n) RepL.ofInts
theorem RepL.ofStrs : ∀ {ns : List Str}, RepL K H S (ns.map V.str) (ns.map D.str)
  | [] => .nil
  | n :: _ => .cons (.str n) RepL.ofStrs
theorem RepF.lookup {f : Str} {d : D} : ∀ {vs : List (Str × V)} {ds : List (Str × D)}, RepF K H S vs ds → ds.lookup f = some d → ∃ v, vs.lookup f = some v ∧ Rep K H S v d
  | _, _, .nil, e => by cases e
  | _, _, .cons (k := k) h t, e => by
    by_cases q : f == k
    · rw [List.lookup_cons, q] at e
      cases e
      exact ⟨_, by rw [List.lookup_cons, q], h⟩
    · have q' : (f == k) = false := by simpa using q
      rw [List.lookup_cons, q'] at e
      obtain ⟨v, h1, h2⟩ := RepF.lookup t e
      exact ⟨v, by rw [List.lookup_cons, q']; exact h1, h2⟩
theorem RepF.lookup_none {f : Str} : ∀ {vs : List (Str × V)} {ds : List (Str × D)}, RepF K H S vs ds → ds.lookup f = none → vs.lookup f = none
  | _, _, .nil, _ => rfl
  | _, _, .cons (k := k) h t, e => by
    by_cases q : f == k
    · rw [List.lookup_cons, q] at e
      cases e
    · have q' : (f == k) = false := by simpa using q
      rw [List.lookup_cons, q'] at e
      rw [List.lookup_cons, q']
      exact RepF.lookup_none t e
theorem RepF.length : ∀ {vs : List (Str × V)} {ds : List (Str × D)}, RepF K H S vs ds → vs.length = ds.length
  | _, _, .nil => rfl
  | _, _, .cons _ t => congrArg Nat.succ (RepF.length t)
def putD (f : Str) (v : D) : List (Str × D) → List (Str × D)
  | [] => [(f, v)]
  | (g, u) :: r => if g = f then (g, v) :: r else (g, u) :: putD f v r
theorem RepF.put {f : Str} {v : V} {d : D} (r : Rep K H S v d) : ∀ {vs : List (Str × V)} {ds : List (Str × D)}, RepF K H S vs ds → RepF K H S (putF f v vs) (putD f d ds)
  | _, _, .nil => .cons r .nil
  | _, _, .cons (k := k) h t => by
    unfold putD putF
    by_cases q : k = f
    · rw [if_pos q, if_pos q]; exact .cons r t
    · rw [if_neg q, if_neg q]; exact .cons h (RepF.put r t)
theorem Rep.seqL {v : V} {ds : List D} (r : Rep K H S v (.lst ds)) : ∃ a xs, v = .ref a ∧ S a = none ∧ H a = some (.lst xs) ∧ RepL K H S xs ds := by
  cases r with
  | lst s h r => exact ⟨_, _, rfl, s, h, r⟩
theorem Rep.seqR {v : V} {ds : List D} (r : Rep K H S v (.rol ds)) : ∃ a xs, v = .ref a ∧ (∀ S' H', Mv S H S' H' → SqL K H' a xs) ∧ RepL K H S xs ds := by
  cases r with
  | rol s h r => exact ⟨_, _, rfl, fun S' H' m => .inl (.inr ⟨_, m.keep _ _ s h⟩), r⟩
  | rolK h r => exact ⟨_, _, rfl, fun _ _ _ => .inr h, r⟩
theorem Rep.seqT {v : V} {ds : List D} (r : Rep K H S v (.tup ds)) : ∃ a xs, v = .ref a ∧ SqT K H a xs ∧ RepL K H S xs ds := by
  cases r with
  | tup s h r => exact ⟨_, _, rfl, .inl (.inl h), r⟩
  | tupK h r => exact ⟨_, _, rfl, .inr h, r⟩
end
/-! what is known by reference stands -/
def CellOk (K : PySem.W.Frag) (H : Hp) (S : Sto) (a : Addr) : D → Prop
  | .lst ds => ∃ xs, H a = some (.lst xs) ∧ RepL K H S xs ds
  | .dK ds => ∃ kvs, H a = some (.dK kvs) ∧ RepK K H S kvs ds
  | .ins C ds => ∃ dx fs, H a = some (.ins C dx fs) ∧ RepF K H S fs ds
  | .hid => ∃ o, H a = some o
  | _ => False
theorem cell_l {K : PySem.W.Frag} {H : Hp} {S : Sto} {a : Addr} {xs : List V} {ds : List D} (h : H a = some (.lst xs)) (r : RepL K H S xs ds) : CellOk K H S a (.lst ds) := ⟨xs, h, r⟩
theorem cell_d {K : PySem.W.Frag} {H : Hp} {S : Sto} {a : Addr} {xs : List (Key × V)} {ds : List (Key × D)} (h : H a = some (.dK xs)) (r : RepK K H S xs ds) : CellOk K H S a (.dK ds) := ⟨xs, h, r⟩
theorem cell_i {K : PySem.W.Frag} {H : Hp} {S : Sto} {a C dx : Addr} {xs : List (Str × V)} {ds : List (Str × D)} (h : H a = some (.ins C dx xs)) (r : RepF K H S xs ds) : CellOk K H S a (.ins C ds) := ⟨dx, xs, h, r⟩
/-- the whole of what is known by reference: S, and what is hidden -/
structure Cells (K : PySem.W.Frag) (H : Hp) (S T : Sto) : Prop where
  ov : ∀ a, (T a = S a ∧ T a ≠ some .hid) ∨ (S a = none ∧ T a = some .hid)
  ok : ∀ a d, T a = some d → CellOk K H T a d
section
variable {K : PySem.W.Frag} {S S' T T' : Sto} {H H' : Hp} {a p : Addr} {d : D}
theorem Cells.at (c : Cells K H S T) (h : S a = some d) : T a = some d := by
  rcases c.ov a with ⟨e, _⟩ | ⟨e, _⟩
  · rw [e]; exact h
  · rw [h] at e; cases e
theorem CellOk.mk (m : Mk S H S' H') (e : H' a = H a) : ∀ {d : D}, CellOk K H S a d → CellOk K H' S' a d
  | .lst _, ⟨xs, h, r⟩ => ⟨xs, by rw [e]; exact h, r.mk m⟩
  | .dK _, ⟨xs, h, r⟩ => ⟨xs, by rw [e]; exact h, r.mk m⟩
  | .ins _ _, ⟨dx, fs, h, r⟩ => ⟨dx, fs, by rw [e]; exact h, r.mk m⟩
  | .hid, ⟨o, h⟩ => ⟨o, by rw [e]; exact h⟩
theorem CellOk.mv (m : Mv S H S' H') (e : H' a = H a) {d : D} (h : CellOk K H S a d) : CellOk K H' S' a d := CellOk.mk m.toMk e h
theorem CellOk.there : ∀ {d : D}, CellOk K H S a d → H a ≠ none
  | .lst _, ⟨xs, h, _⟩ => by rw [h]; simp
  | .dK _, ⟨xs, h, _⟩ => by rw [h]; simp
  | .ins _ _, ⟨dx, fs, h, _⟩ => by rw [h]; simp
  | .hid, ⟨o, h⟩ => by rw [h]; simp
theorem Cells.free (c : Cells K H S T) (h : H p = none) : T p = none := by
  cases q : T p with
  | none => rfl
  | some d => exact absurd h (c.ok p d q).there
theorem Cells.freeS (c : Cells K H S T) (h : H p = none) : S p = none := by
  have q := c.free h
  rcases c.ov p with ⟨e, _⟩ | ⟨e, _⟩
  · rw [← e]; exact q
  · exact e
/-- a new object, known by value -/
theorem mv_new {o : HO} (h : H p = none) : Mv S H S (upd H p o) :=
  ⟨⟨fun _ _ _ e => by rw [upd_ne (ne_of_none e h)]; exact e, fun _ s _ => s⟩, fun _ _ s e => ⟨by rw [upd_ne (ne_of_none e h)]; exact e, s⟩⟩
theorem Cells.new {o : HO} (c : Cells K H S T) (h : H p = none) : Cells K (upd H p o) S T := ⟨c.ov, fun a d e => by
  have q := c.ok a d e
  refine CellOk.mv (mv_new h) (upd_ne fun z => ?_) q
  subst z
  exact q.there h⟩
theorem ov_put (h : ∀ a, (T a = S a ∧ T a ≠ some .hid) ∨ (S a = none ∧ T a = some .hid)) (nh : d ≠ .hid) : ∀ a, (put T p d a = put S p d a ∧ put T p d a ≠ some .hid) ∨ (put S p d a = none ∧ put T p d a = some .hid) := fun a => by
  by_cases z : a = p
  · subst z; rw [put_same, put_same]; exact .inl ⟨rfl, fun q => nh (Option.some.inj q)⟩
  · rw [put_ne z, put_ne z]; exact h a
/-- a new object, known by reference -/
theorem mv_newc {o : HO} (h : H p = none) : Mv S H (put S p d) (upd H p o) where
  keep := fun _ _ _ e => by rw [upd_ne (ne_of_none e h)]; exact e
  fresh := fun b s e => by
    rw [put_ne]
    · exact s
    · intro z; subst z; exact e h
  hid := fun b o s e => by
    have z := ne_of_none e h
    rw [upd_ne z, put_ne z]
    exact ⟨e, s⟩
theorem Cells.newc {o : HO} (c : Cells K H S T) (h : H p = none) (hd : CellOk K (upd H p o) (put T p d) p d) (nh : d ≠ .hid := by nofun) : Cells K (upd H p o) (put S p d) (put T p d) := ⟨ov_put c.ov nh, fun a e q => by
  by_cases z : a = p
  · subst z; rw [put_same] at q; cases q; exact hd
  · rw [put_ne z] at q
    have w := c.ok a e q
    exact CellOk.mv (mv_newc h) (upd_ne z) w⟩
/-- a new object, hidden -/
theorem Cells.newh {o : HO} (c : Cells K H S T) (h : H p = none) : Cells K (upd H p o) S (put T p .hid) := ⟨fun a => by
  by_cases z : a = p
  · subst z; exact .inr ⟨c.freeS h, put_same⟩
  · rw [put_ne z]; exact c.ov a, fun a e q => by
  by_cases z : a = p
  · subst z; rw [put_same] at q; cases q; exact ⟨o, upd_same⟩
  · rw [put_ne z] at q
    exact CellOk.mv (mv_newc h) (upd_ne z) (c.ok a e q)⟩
/-- the hidden object changes -/
theorem mk_hid {o : HO} (h : T p = some .hid) : Mk T H T (upd H p o) where
  keep := fun b _ s e => by
    rw [upd_ne]
    · exact e
    · intro z; subst z; rw [h] at s; cases s
  fresh := fun _ s _ => s
theorem Cells.hidw {o : HO} (c : Cells K H S T) (h : T p = some .hid) : Cells K (upd H p o) S T := ⟨c.ov, fun a e q => by
  by_cases z : a = p
  · subst z; rw [h] at q; cases q; exact ⟨o, upd_same⟩
  · exact CellOk.mk (mk_hid h) (upd_ne z) (c.ok a e q)⟩
theorem Mv.hidw {S1 : Sto} {H1 : Hp} {o : HO} (m : Mv S1 H1 T H) (n : H1 p = none) : Mv S1 H1 T (upd H p o) where
  keep := fun a u s e => by rw [upd_ne (ne_of_none e n)]; exact m.keep a u s e
  fresh := m.fresh
  hid := fun a u s e => by
    rw [upd_ne (ne_of_none e n)]
    exact m.hid a u s e
/-- the hidden object shows -/
theorem mk_show (h : T p = some .hid) : Mk T H (VS.del T p) H := ⟨fun _ _ _ h => h, fun b s _ => by
  unfold VS.del
  split
  · rfl
  · exact s⟩
theorem Cells.unhid (c : Cells K H S T) (h : T p = some .hid) : Cells K H S (VS.del T p) := ⟨fun a => by
  by_cases z : a = p
  · subst z
    rw [del_same]
    rcases c.ov a with ⟨_, e⟩ | ⟨e, _⟩
    · exact absurd h e
    · exact .inl ⟨e.symm, by simp⟩
  · rw [del_ne z]; exact c.ov a, fun a d q => by
  by_cases z : a = p
  · subst z; rw [del_same] at q; cases q
  · rw [del_ne z] at q
    exact CellOk.mk (mk_show h) rfl (c.ok a d q)⟩
/-- an object that is known by reference changes -/
theorem mv_wr {o : HO} {e : D} (h : S p = some e) (ne : e ≠ .hid := by nofun) : Mv S H (put S p d) (upd H p o) where
  keep := fun b _ s e => by
    rw [upd_ne]
    · exact e
    · intro z; subst z; rw [h] at s; cases s
  fresh := fun b s _ => by
    rw [put_ne]
    · exact s
    · intro z; subst z; rw [h] at s; cases s
  hid := fun b o s e => by
    have z : b ≠ p := by
      intro z; subst z; rw [h] at s; cases s; exact ne rfl
    rw [upd_ne z, put_ne z]
    exact ⟨e, s⟩
theorem Cells.wr {o : HO} {e : D} (c : Cells K H S T) (h : T p = some e) (hd : CellOk K (upd H p o) (put T p d) p d) (ne : e ≠ .hid := by nofun) (nh : d ≠ .hid := by nofun) : Cells K (upd H p o) (put S p d) (put T p d) := ⟨ov_put c.ov nh, fun a e q => by
  by_cases z : a = p
  · subst z; rw [put_same] at q; cases q; exact hd
  · rw [put_ne z] at q
    exact CellOk.mv (mv_wr h ne) (upd_ne z) (c.ok a e q)⟩
/-- from now on known by value -/
theorem mv_del (h : S p ≠ some .hid) : Mv S H (del S p) H := ⟨⟨fun _ _ _ h => h, fun b s _ => by
  unfold del
  split
  · rfl
  · exact s⟩, fun b o s e => ⟨e, by rw [del_ne]; exact s; intro z; subst z; exact h s⟩⟩
theorem Cells.del (c : Cells K H S T) (h : T p ≠ some .hid) : Cells K H (del S p) (del T p) := ⟨fun a => by
  by_cases z : a = p
  · subst z; rw [del_same, del_same]; exact .inl ⟨rfl, by simp⟩
  · rw [del_ne z, del_ne z]; exact c.ov a, fun a d q => by
  by_cases z : a = p
  · subst z; rw [del_same] at q; cases q
  · rw [del_ne z] at q
    exact CellOk.mv (mv_del h) rfl (c.ok a d q)⟩
theorem Cells.rep (c : Cells K H S T) (h : T p = some d) (ne : T p ≠ some .hid) : Rep K H (VS.del T p) (.ref p) d := by
  have q := c.ok p d h
  cases d with
  | lst ds => obtain ⟨xs, h1, r⟩ := q; exact .lst del_same h1 (r.mv (mv_del ne))
  | dK ds => obtain ⟨xs, h1, r⟩ := q; exact .dK del_same (.inl h1) (r.mv (mv_del ne))
  | ins C ds => obtain ⟨dx, fs, h1, r⟩ := q; exact .ins del_same h1 (r.mv (mv_del ne))
  | hid => exact absurd h ne
  | _ => exact q.elim
end
/-! ### where one stands -/
abbrev Rho := List (Option D)
/-- the written part; what is wanted of an exception, by the heap and by value (at the slots as they then are) -/
structure Ctx where
  K : PySem.W.Frag
  E : St → XK
  Y : Addr → List (Str × D) → Rho → Sto → Prop
def XRep (K : PySem.W.Frag) (H : Hp) (S : Sto) (d : Option Addr) (fs : List (Str × D)) : Prop :=
  ∃ dd fv, d = some dd ∧ S dd = none ∧ H dd = some (.xd fv) ∧ RepF K H S fv fs
/-- the slots hold what ρ says -/
structure Sl (K : PySem.W.Frag) (H : Hp) (T : Sto) (σ : St) (ρ : Rho) : Prop where
  slots : ∀ (i : Nat) (d : D), ρ[i]? = some (some d) → ∃ v, σ[i]? = some (some v) ∧ Rep K H T v d
  len : σ.length = ρ.length
structure In (c : Ctx) (σ : St) (H : Hp) (ρ : Rho) (S T : Sto) : Prop where
  cells : Cells c.K H S T
  slots : ∀ (i : Nat) (d : D), ρ[i]? = some (some d) → ∃ v, σ[i]? = some (some v) ∧ Rep c.K H T v d
  len : σ.length = ρ.length
  exc : ∀ (σ' : St) (ρ' : Rho) (C : Addr) (d : Option Addr) (fs : List (Str × D)) (S' T' : Sto) (H' : Hp), Mv T H T' H' → Cells c.K H' S' T' → Sl c.K H' T' σ' ρ' → XRep c.K H' T' d fs → c.Y C fs ρ' S' → c.E σ' (.ref C) d H'
section
variable {c : Ctx} {σ : St} {H H' : Hp} {ρ : Rho} {S S' T T' : Sto}
theorem In.mv (I : In c σ H ρ S T) (m : Mv T H T' H') (cl : Cells c.K H' S' T') : In c σ H' ρ S' T' :=
  ⟨cl, fun i d e => let ⟨v, h, r⟩ := I.slots i d e; ⟨v, h, r.mv m⟩, I.len, fun σ2 ρ2 C d fs S2 T2 H2 m2 c2 sl x y => I.exc σ2 ρ2 C d fs S2 T2 H2 (m.trans m2) c2 sl x y⟩
theorem In.sl (I : In c σ H ρ S T) : Sl c.K H T σ ρ := ⟨I.slots, I.len⟩
theorem In.set (I : In c σ H ρ S T) {v : V} {d : D} (i : Nat) (r : Rep c.K H T v d) : In c (σ.set i (some v)) H (ρ.set i (some d)) S T := by
  refine ⟨I.cells, fun j e q => ?_, by simp [I.len], I.exc⟩
  by_cases z : j = i
  · subst z
    have hj : j < ρ.length := by
      cases Nat.lt_or_ge j ρ.length with
      | inl h => exact h
      | inr h => rw [List.getElem?_eq_none (by simpa using h)] at q; cases q
    rw [List.getElem?_set_self hj] at q
    cases q
    exact ⟨v, List.getElem?_set_self (by rw [I.len]; exact hj), r⟩
  · rw [List.getElem?_set_ne (Ne.symm z)] at q
    obtain ⟨u, h1, h2⟩ := I.slots j e q
    exact ⟨u, by rw [List.getElem?_set_ne (Ne.symm z)]; exact h1, h2⟩
/-- another word for a slot's value -/
theorem In.reword (I : In c σ H ρ S T) {d d' : D} {i : Nat} (e : ρ[i]? = some (some d)) (h : ∀ v, Rep c.K H T v d → Rep c.K H T v d') : In c σ H (ρ.set i (some d')) S T := by
  refine ⟨I.cells, fun j e' q => ?_, by simp [I.len], I.exc⟩
  by_cases z : j = i
  · subst z
    have hj : j < ρ.length := (List.getElem?_eq_some_iff.mp e).1
    rw [List.getElem?_set_self hj] at q
    cases q
    obtain ⟨u, h1, h2⟩ := I.slots j d e
    exact ⟨u, h1, h u h2⟩
  · rw [List.getElem?_set_ne (Ne.symm z)] at q
    exact I.slots j e' q
end
/-! ### readings by value -/
def VE (c : Ctx) (te : TE) (ρ : Rho) (S : Sto) (F : D → Sto → Prop) : Prop := ∀ T σ H, In c σ H ρ S T → ∀ Q : VK,
  (∀ v d S' T' H', Mv T H T' H' → Cells c.K H' S' T' → Rep c.K H' T' v d → F d S' → Q v H') → te σ H Q
def VT (c : Ctx) (tt : TT) (ρ : Rho) (S : Sto) (F : Bool → Sto → Prop) : Prop := ∀ T σ H, In c σ H ρ S T → ∀ Q : Bool → Hp → Prop,
  (∀ b S' T' H', Mv T H T' H' → Cells c.K H' S' T' → F b S' → Q b H') → tt σ H Q
def VA (c : Ctx) (ta : TA) (ρ : Rho) (S : Sto) (F : List D → Sto → Prop) : Prop := ∀ T σ H, In c σ H ρ S T → ∀ Q : List V → Hp → Prop,
  (∀ vs ds S' T' H', Mv T H T' H' → Cells c.K H' S' T' → RepL c.K H' T' vs ds → F ds S' → Q vs H') → ta σ H Q
def VO (c : Ctx) (to : TO) (ρ : Rho) (S : Sto) (F : Option Int → Sto → Prop) : Prop := ∀ T σ H, In c σ H ρ S T → ∀ Q : Option Int → Hp → Prop,
  (∀ o S' T' H', Mv T H T' H' → Cells c.K H' S' T' → F o S' → Q o H') → to σ H Q
def RU (c : Ctx) (r : V → Hp → VK → Prop) (x : D) (S : Sto) (F : D → Sto → Prop) : Prop := ∀ T u H, Cells c.K H S T → Rep c.K H T u x → ∀ Q : VK,
  (∀ v d S' T' H', Mv T H T' H' → Cells c.K H' S' T' → Rep c.K H' T' v d → F d S' → Q v H') → r u H Q
def RV (c : Ctx) (r : R2) (x y : D) (S : Sto) (F : D → Sto → Prop) : Prop := ∀ T u w H, Cells c.K H S T → Rep c.K H T u x → Rep c.K H T w y → ∀ Q : VK,
  (∀ v d S' T' H', Mv T H T' H' → Cells c.K H' S' T' → Rep c.K H' T' v d → F d S' → Q v H') → r u w H Q
def RC (c : Ctx) (r : List V → Hp → VK → Prop) (ds : List D) (S : Sto) (F : D → Sto → Prop) : Prop := ∀ T us H, Cells c.K H S T → RepL c.K H T us ds → ∀ Q : VK,
  (∀ v d S' T' H', Mv T H T' H' → Cells c.K H' S' T' → Rep c.K H' T' v d → F d S' → Q v H') → r us H Q
def RM (c : Ctx) (r : V → List V → Hp → VK → Prop) (x : D) (ds : List D) (S : Sto) (F : D → Sto → Prop) : Prop := ∀ T u us H, Cells c.K H S T → Rep c.K H T u x → RepL c.K H T us ds → ∀ Q : VK,
  (∀ v d S' T' H', Mv T H T' H' → Cells c.K H' S' T' → Rep c.K H' T' v d → F d S' → Q v H') → r u us H Q
def VG (c : Ctx) (g : TG) (d : D) (ρ : Rho) (S : Sto) (F : Rho → Sto → Prop) : Prop := ∀ T v σ H, In c σ H ρ S T → Rep c.K H T v d → ∀ Q : St → Hp → Prop,
  (∀ σ' ρ' S' T' H', Mv T H T' H' → In c σ' H' ρ' S' T' → F ρ' S' → Q σ' H') → g v σ H Q
/-- what is wanted behind a statement -/
structure Po where
  nx : Rho → Sto → Prop
  rt : D → Sto → Prop
  bk : Rho → Sto → Prop
  ct : Rho → Sto → Prop
structure Bh (c : Ctx) (P : Po) (D : Ends) (T : Sto) (H : Hp) : Prop where
  nx : ∀ σ' ρ' S' T' H', Mv T H T' H' → In c σ' H' ρ' S' T' → P.nx ρ' S' → D.nx σ' H'
  rt : ∀ v d S' T' H', Mv T H T' H' → Cells c.K H' S' T' → Rep c.K H' T' v d → P.rt d S' → D.rt v H'
  bk : ∀ σ' ρ' S' T' H', Mv T H T' H' → In c σ' H' ρ' S' T' → P.bk ρ' S' → D.bk σ' H'
  ct : ∀ σ' ρ' S' T' H', Mv T H T' H' → In c σ' H' ρ' S' T' → P.ct ρ' S' → D.ct σ' H'
theorem Bh.mv {c : Ctx} {P : Po} {D : Ends} {T T' : Sto} {H H' : Hp} (b : Bh c P D T H) (m : Mv T H T' H') : Bh c P D T' H' :=
  ⟨fun σ ρ S2 T2 H2 m2 => b.nx σ ρ S2 T2 H2 (m.trans m2), fun v d S2 T2 H2 m2 => b.rt v d S2 T2 H2 (m.trans m2), fun σ ρ S2 T2 H2 m2 => b.bk σ ρ S2 T2 H2 (m.trans m2), fun σ ρ S2 T2 H2 m2 => b.ct σ ρ S2 T2 H2 (m.trans m2)⟩
def VX (c : Ctx) (t : TS) (ρ : Rho) (S : Sto) (P : Po) : Prop := ∀ T σ H, In c σ H ρ S T → ∀ D : Ends, Bh c P D T H → t D σ H
/-- an iterator: its values one by one -/
def Yl (K : PySem.W.Frag) (J : It) (ds : List D) (T : Sto) (H : Hp) : Prop := ∃ G Y, Walk J ds.length G Y ∧ (∀ T1 H1, Mv T H T1 H1 → G H1) ∧
  ∀ (i : Nat) (d : D) (S1 T1 : Sto) (H1 H2 : Hp) (x : V), ds[i]? = some d → Mv T H T1 H1 → Cells K H1 S1 T1 → Y i H1 x H2 → Mv T1 H1 T1 H2 ∧ Cells K H2 S1 T1 ∧ Rep K H2 T1 x d
def VI (c : Ctx) (wi : TI) (ρ : Rho) (S : Sto) (F : List D → Sto → Prop) : Prop := ∀ T σ H, In c σ H ρ S T → ∀ R : It → Hp → Prop,
  (∀ J ds S' T' H', Mv T H T' H' → Cells c.K H' S' T' → Yl c.K J ds T' H' → F ds S' → R J H') → wi σ H R
end VS
namespace VS
open PySem L2
/-! ### the readings that bear no name in the layer -/
abbrev CR1 := List V → Hp → VK → Prop
abbrev MR1 := V → List V → Hp → VK → Prop
def rAddStr : R2 := fun x y H Q => ∃ i j, x = .str i ∧ y = .str j ∧ i.length + j.length ≤ sizeLine ∧ Q (.str (i ++ j)) H
def rLtStr : R2 := fun x y H Q => ∃ i j, x = .str i ∧ y = .str j ∧ Q (.bl (decide (i.cps.toList < j.cps.toList))) H
def rLeStr : R2 := fun x y H Q => ∃ i j, x = .str i ∧ y = .str j ∧ Q (.bl (!decide (j.cps.toList < i.cps.toList))) H
def rInStr : R2 := fun x y H Q => ∃ i j, x = .str i ∧ y = .str j ∧ Q (.bl (!(Builtin.Str.occurrences j i 0 j.length 1).isEmpty)) H
def rNotInStr : R2 := fun x y H Q => ∃ i j, x = .str i ∧ y = .str j ∧ Q (.bl (!(!(Builtin.Str.occurrences j i 0 j.length 1).isEmpty))) H
def rLen (K : PySem.W.Frag) : CR1 := fun xs H Q => ∃ x n, xs = [x] ∧ LenV K x H n ∧ Q (.int n) H
def rAbs : CR1 := fun xs H Q => ∃ i, xs = [.int i] ∧ Q (.int (if i < 0 then -i else i)) H
def rMax2 : CR1 := fun xs H Q => ∃ i j, xs = [.int i, .int j] ∧ Q (.int (if j > i then j else i)) H
def rMin2 : CR1 := fun xs H Q => ∃ i j, xs = [.int i, .int j] ∧ Q (.int (if j < i then j else i)) H
def rInt1 : CR1 := fun xs H Q => (∃ i, xs = [.int i] ∧ Q (.int i) H) ∨ ∃ k, xs = [.bl k] ∧ Q (.int (if k then 1 else 0)) H
def rStrInt : CR1 := fun xs H Q => ∃ i, xs = [.int i] ∧ i.natAbs.log2 < 1920 ∧ Q (.str (toString i)) H
def rOrd : CR1 := fun xs H Q => ∃ x, xs = [.str x] ∧ x.length = 1 ∧ Q (.int (x.cps.getD 0 0 : Nat)) H
def rListOf (K : PySem.W.Frag) : CR1 := fun xs H Q => ∃ p ys, xs = [.ref p] ∧ (SqL K H p ys ∨ SqT K H p ys) ∧ ∀ l, H l = none → Q (.ref l) (upd H l (.lst ys))
def rTupleOf (K : PySem.W.Frag) : CR1 := fun xs H Q => ∃ p ys, xs = [.ref p] ∧ ((SqL K H p ys ∧ ∀ l, H l = none → Q (.ref l) (upd H l (.tup ys))) ∨ (SqT K H p ys ∧ Q (.ref p) H))
def rJoin (K : PySem.W.Frag) : MR1 := fun x xs H Q => ∃ a p, ∃ ys : List Str, x = .str a ∧ xs = [.ref p] ∧ (SqL K H p (ys.map V.str) ∨ SqT K H p (ys.map V.str)) ∧ (ys.map (·.length)).sum + ys.length * a.length ≤ 16777216 ∧ Q (.str (Txt.join a ys)) H
def rIsNo : R2 := fun x y H Q => y = .non ∧ Q (.bl (decide (x = .non))) H
def rNotNo : R2 := fun x y H Q => y = .non ∧ Q (.bl (!decide (x = .non))) H
section
variable {X : Cx}
theorem op_addS : OpR X (binaryOp .Add) rAddStr := op_add_str
theorem op_inStr : OpR X (compareOp .In) rInStr := op_in_str
theorem op_isNo : OpR X (compareOp .Is) rIsNo := op_isN
theorem op_notNo : OpR X (compareOp .IsNot) rNotNo := op_notN
theorem c_len : CallR X (.builtin "len") (rLen X.K) := call_len
theorem c_max2 (hc : X.calm = true) : CallR X (.builtin "max") rMax2 := call_max2 hc
theorem c_min2 (hc : X.calm = true) : CallR X (.builtin "min") rMin2 := call_min2 hc
theorem c_int1 : CallR X (.type "int") rInt1 := call_int1
theorem c_list : CallR X (.type "list") (rListOf X.K) := call_list_of
theorem c_tuple : CallR X (.type "tuple") (rTupleOf X.K) := call_tuple_of
theorem m_join : MtR X "str.join" (rJoin X.K) := mt_join
end
section
variable {c : Ctx} {ρ : Rho} {S : Sto} {F : D → Sto → Prop} {d : D}
/-! ### expressions -/
theorem ve_var {i : Nat} (h : ρ[i]? = some (some d)) (q : F d S) : VE c (tVar i) ρ S F := fun T σ H I Q k =>
  let ⟨v, e, r⟩ := I.slots i d h
  ⟨v, e, k v d S T H Mv.refl I.cells r q⟩
theorem ve_int {i : Int} (q : F (.int i) S) : VE c (tC (.int i)) ρ S F := fun T σ H I Q k => k _ _ S T H Mv.refl I.cells (.int i) q
theorem ve_bl {b : Bool} (q : F (.bl b) S) : VE c (tC (.bl b)) ρ S F := fun T σ H I Q k => k _ _ S T H Mv.refl I.cells (.bl b) q
theorem ve_str {x : Str} (q : F (.str x) S) : VE c (tC (.str x)) ρ S F := fun T σ H I Q k => k _ _ S T H Mv.refl I.cells (.str x) q
theorem ve_non (q : F .non S) : VE c (tC .non) ρ S F := fun T σ H I Q k => k _ _ S T H Mv.refl I.cells .non q
theorem ve_ty {n : String} (q : F (.ty n) S) : VE c (tC (.ty n)) ρ S F := fun T σ H I Q k => k _ _ S T H Mv.refl I.cells (.ty n) q
theorem ve_ref {a : Addr} (q : F (.ref a) S) : VE c (tC (.ref a)) ρ S F := fun T σ H I Q k => k _ _ S T H Mv.refl I.cells (.ref a) q
/-- a written thing that is a value at every heap -/
theorem ve_wr {v : V} (h : ∀ H S, Rep c.K H S v d) (q : F d S) : VE c (tC v) ρ S F := fun T σ H I Q k => k _ _ S T H Mv.refl I.cells (h H T) q
theorem ve_op {r : R2} {ta tb : TE} (h : VE c ta ρ S fun x S1 => VE c tb ρ S1 fun y S2 => RV c r x y S2 F) : VE c (tOp r ta tb) ρ S F := fun T σ H I Q k =>
  h T σ H I _ fun vx x S1 T1 H1 m1 c1 r1 h1 => h1 T1 σ H1 (I.mv m1 c1) _ fun vy y S2 T2 H2 m2 c2 r2 h2 => h2 T2 vx vy H2 c2 (r1.mv m2) r2 Q fun v d S3 T3 H3 m3 c3 r3 q => k v d S3 T3 H3 (m1.trans (m2.trans m3)) c3 r3 q
theorem ve_un {r : V → Hp → VK → Prop} {ta : TE} (h : VE c ta ρ S fun x S1 => RU c r x S1 F) : VE c (tUn r ta) ρ S F := fun T σ H I Q k =>
  h T σ H I _ fun vx x S1 T1 H1 m1 c1 r1 h1 => h1 T1 vx H1 c1 r1 Q fun v d S3 T3 H3 m3 c3 r3 q => k v d S3 T3 H3 (m1.trans m3) c3 r3 q
theorem ve_cb {r : CR1} {t : TA} (h : VA c t ρ S fun ds S1 => RC c r ds S1 F) : VE c (tCB r t) ρ S F := fun T σ H I Q k =>
  h T σ H I _ fun us ds S1 T1 H1 m1 c1 r1 h1 => h1 T1 us H1 c1 r1 Q fun v d S3 T3 H3 m3 c3 r3 q => k v d S3 T3 H3 (m1.trans m3) c3 r3 q
theorem va_nil {F : List D → Sto → Prop} (q : F [] S) : VA c tNil ρ S F := fun T σ H I Q k => k _ _ S T H Mv.refl I.cells .nil q
theorem va_cons {F : List D → Sto → Prop} {ta : TE} {t : TA} (h : VE c ta ρ S fun x S1 => VA c t ρ S1 fun xs S2 => F (x :: xs) S2) : VA c (tCons ta t) ρ S F := fun T σ H I Q k =>
  h T σ H I _ fun vx x S1 T1 H1 m1 c1 r1 h1 => h1 T1 σ H1 (I.mv m1 c1) _ fun vs ds S2 T2 H2 m2 c2 r2 h2 => k _ _ S2 T2 H2 (m1.trans m2) c2 (.cons (r1.mv m2) r2) h2
theorem ve_tup {t : TA} (h : VA c t ρ S fun ds S1 => ds.length ≤ sizeLine ∧ F (.tup ds) S1) : VE c (tTup t) ρ S F := fun T σ H I Q k =>
  h T σ H I _ fun us ds S1 T1 H1 m1 c1 r1 ⟨hl, q⟩ => ⟨by rw [r1.length]; exact hl, fun p hp => k _ _ S1 T1 _ (m1.trans (mv_new hp)) (c1.new hp) (.tup (c1.free hp) upd_same (r1.mv (mv_new hp))) q⟩
/-- a list, by value; by reference -/
theorem ve_lst {t : TA} (h : VA c t ρ S fun ds S1 => ds.length ≤ sizeLine ∧ F (.lst ds) S1) : VE c (tLst t) ρ S F := fun T σ H I Q k =>
  h T σ H I _ fun us ds S1 T1 H1 m1 c1 r1 ⟨hl, q⟩ => ⟨by rw [r1.length]; exact hl, fun p hp => k _ _ S1 T1 _ (m1.trans (mv_new hp)) (c1.new hp) (.lst (c1.free hp) upd_same (r1.mv (mv_new hp))) q⟩
theorem ve_lstc {t : TA} (h : VA c t ρ S fun ds S1 => ds.length ≤ sizeLine ∧ ∀ p, S1 p = none → F (.ref p) (put S1 p (.lst ds))) : VE c (tLst t) ρ S F := fun T σ H I Q k =>
  h T σ H I _ fun us ds S1 T1 H1 m1 c1 r1 ⟨hl, q⟩ => ⟨by rw [r1.length]; exact hl, fun p hp => k _ _ _ _ _ (m1.trans (mv_newc hp)) (c1.newc hp (cell_l upd_same (r1.mv (mv_newc hp)))) (.ref p) (q p (c1.freeS hp))⟩
theorem ve_if {t : TT} {ta tb : TE} (h : VT c t ρ S fun b S1 => (b = true → VE c ta ρ S1 F) ∧ (b = false → VE c tb ρ S1 F)) : VE c (tIf t ta tb) ρ S F := fun T σ H I Q k =>
  h T σ H I _ fun b S1 T1 H1 m1 c1 ⟨h1, h2⟩ => by
    cases b with
    | true => exact iteT (h1 rfl T1 σ H1 (I.mv m1 c1) Q fun v d S3 T3 H3 m3 => k v d S3 T3 H3 (m1.trans m3))
    | false => exact iteF (h2 rfl T1 σ H1 (I.mv m1 c1) Q fun v d S3 T3 H3 m3 => k v d S3 T3 H3 (m1.trans m3))
theorem ve_andV {ta tb : TE} (h : VE c ta ρ S fun x S1 => ∃ b, x = .bl b ∧ (b = true → VE c tb ρ S1 F) ∧ (b = false → F (.bl false) S1)) : VE c (tAndV ta tb) ρ S F := fun T σ H I Q k =>
  h T σ H I _ fun vx x S1 T1 H1 m1 c1 r1 ⟨b, e, h1, h2⟩ => by
    subst e
    cases r1
    refine ⟨b, rfl, ?_⟩
    cases b with
    | true => exact iteT (h1 rfl T1 σ H1 (I.mv m1 c1) Q fun v d S3 T3 H3 m3 => k v d S3 T3 H3 (m1.trans m3))
    | false => exact iteF (k _ _ S1 T1 H1 m1 c1 (.bl false) (h2 rfl))
theorem ve_orV {ta tb : TE} (h : VE c ta ρ S fun x S1 => ∃ b, x = .bl b ∧ (b = false → VE c tb ρ S1 F) ∧ (b = true → F (.bl true) S1)) : VE c (tOrV ta tb) ρ S F := fun T σ H I Q k =>
  h T σ H I _ fun vx x S1 T1 H1 m1 c1 r1 ⟨b, e, h1, h2⟩ => by
    subst e
    cases r1
    refine ⟨b, rfl, ?_⟩
    cases b with
    | true => exact iteT (k _ _ S1 T1 H1 m1 c1 (.bl true) (h2 rfl))
    | false => exact iteF (h1 rfl T1 σ H1 (I.mv m1 c1) Q fun v d S3 T3 H3 m3 => k v d S3 T3 H3 (m1.trans m3))
theorem ve_notV {ta : TE} (h : VE c ta ρ S fun x S1 => ∃ b, x = .bl b ∧ F (.bl (!b)) S1) : VE c (tNotV ta) ρ S F := fun T σ H I Q k =>
  h T σ H I _ fun vx x S1 T1 H1 m1 c1 r1 ⟨b, e, h1⟩ => by
    subst e
    cases r1
    exact ⟨b, rfl, k _ _ S1 T1 H1 m1 c1 (.bl _) h1⟩
theorem ve_chain {r r' : R2} {ta tb tc : TE} (h : VE c ta ρ S fun x S1 => VE c tb ρ S1 fun y S2 => RV c r x y S2 fun z S3 => ∃ k, z = .bl k ∧ (k = true → VE c tc ρ S3 fun w S4 => RV c r' y w S4 F) ∧ (k = false → F (.bl false) S3)) : VE c (tChain r r' ta tb tc) ρ S F := fun T σ H I Q k =>
  h T σ H I _ fun vx x S1 T1 H1 m1 c1 r1 h1 => h1 T1 σ H1 (I.mv m1 c1) _ fun vy y S2 T2 H2 m2 c2 r2 h2 => h2 T2 vx vy H2 c2 (r1.mv m2) r2 _ fun v d S3 T3 H3 m3 c3 r3 ⟨b, e, q1, q2⟩ => by
    subst e
    cases r3
    refine ⟨b, rfl, ?_⟩
    cases b with
    | true => exact iteT (q1 rfl T3 σ H3 (I.mv (m1.trans (m2.trans m3)) c3) _ fun vw w S4 T4 H4 m4 c4 r4 h4 => h4 T4 vy vw H4 c4 (r2.mv (m3.trans m4)) r4 Q fun v d S5 T5 H5 m5 => k v d S5 T5 H5 (m1.trans (m2.trans (m3.trans (m4.trans m5)))))
    | false => exact iteF (k _ _ S3 T3 H3 (m1.trans (m2.trans m3)) c3 (.bl false) (q2 rfl))
/-! ### tests -/
variable {G : Bool → Sto → Prop}
theorem vt_test {t : TE} (h : VE c t ρ S fun x S1 => ∃ b, x = .bl b ∧ G b S1) : VT c (tTest t) ρ S G := fun T σ H I Q k =>
  h T σ H I _ fun vx x S1 T1 H1 m1 c1 r1 ⟨b, e, h1⟩ => by
    subst e
    cases r1
    exact ⟨b, rfl, k b S1 T1 H1 m1 c1 h1⟩
theorem vt_B {t : TE} (h : VE c t ρ S fun x S1 => ∃ b, x = .bl b ∧ G b S1) : VT c (tB t) ρ S G := vt_test h
theorem vt_and {t u : TT} (h : VT c t ρ S fun b S1 => (b = true → VT c u ρ S1 G) ∧ (b = false → G false S1)) : VT c (tAnd t u) ρ S G := fun T σ H I Q k =>
  h T σ H I _ fun b S1 T1 H1 m1 c1 ⟨h1, h2⟩ => by
    cases b with
    | true => exact iteT (h1 rfl T1 σ H1 (I.mv m1 c1) Q fun b S3 T3 H3 m3 => k b S3 T3 H3 (m1.trans m3))
    | false => exact iteF (k false S1 T1 H1 m1 c1 (h2 rfl))
theorem vt_or {t u : TT} (h : VT c t ρ S fun b S1 => (b = true → G true S1) ∧ (b = false → VT c u ρ S1 G)) : VT c (tOr t u) ρ S G := fun T σ H I Q k =>
  h T σ H I _ fun b S1 T1 H1 m1 c1 ⟨h1, h2⟩ => by
    cases b with
    | true => exact iteT (k true S1 T1 H1 m1 c1 (h1 rfl))
    | false => exact iteF (h2 rfl T1 σ H1 (I.mv m1 c1) Q fun b S3 T3 H3 m3 => k b S3 T3 H3 (m1.trans m3))
theorem vt_not {t : TT} (h : VT c t ρ S fun b S1 => G (!b) S1) : VT c (tNot t) ρ S G := fun T σ H I Q k => h T σ H I _ fun b S1 T1 H1 m1 c1 h1 => k _ S1 T1 H1 m1 c1 h1
theorem vt_yes (h : G true S) : VT c tYes ρ S G := fun T σ H I Q k => k true S T H Mv.refl I.cells h
/-! ### weaker ends -/
theorem VE.imp {F' : D → Sto → Prop} {te : TE} (h : VE c te ρ S F) (i : ∀ d S, F d S → F' d S) : VE c te ρ S F' := fun T σ H I Q k => h T σ H I Q fun v d S' T' H' m cl r q => k v d S' T' H' m cl r (i _ _ q)
theorem VT.imp {G' : Bool → Sto → Prop} {te : TT} (h : VT c te ρ S G) (i : ∀ d S, G d S → G' d S) : VT c te ρ S G' := fun T σ H I Q k => h T σ H I Q fun v S' T' H' m cl q => k v S' T' H' m cl (i _ _ q)
/-! ### what a list is to be read of -/
inductive IsL (S : Sto) : D → List D → Prop
  | v {ds : List D} : IsL S (.lst ds) ds
  | r {ds : List D} : IsL S (.rol ds) ds
  | c {l : Addr} {ds : List D} (h : S l = some (.lst ds)) : IsL S (.ref l) ds
theorem IsL.rd {K : PySem.W.Frag} {H : Hp} {T : Sto} {x : D} {ds : List D} {u : V} (h : IsL S x ds) (cl : Cells K H S T) (r : Rep K H T u x) : ∃ a xs, u = .ref a ∧ SqL K H a xs ∧ RepL K H T xs ds := by
  cases h with
  | v => obtain ⟨a, xs, e, s, h, r⟩ := r.seqL; exact ⟨a, xs, e, .of h, r⟩
  | r => obtain ⟨a, xs, e, h, r⟩ := r.seqR; exact ⟨a, xs, e, h _ _ Mv.refl, r⟩
  | c h => cases r; obtain ⟨xs, h1, r⟩ := cl.ok _ _ (cl.at h); exact ⟨_, xs, rfl, .of h1, r⟩
/-- a list that may be added to another one -/
inductive IsA (S : Sto) : D → List D → Prop
  | v {ds : List D} : IsA S (.lst ds) ds
  | c {l : Addr} {ds : List D} (h : S l = some (.lst ds)) : IsA S (.ref l) ds
theorem IsA.rd {K : PySem.W.Frag} {H : Hp} {T : Sto} {x : D} {ds : List D} {u : V} (h : IsA S x ds) (cl : Cells K H S T) (r : Rep K H T u x) : ∃ a xs, u = .ref a ∧ H a = some (.lst xs) ∧ RepL K H T xs ds := by
  cases h with
  | v => obtain ⟨a, xs, e, s, h, r⟩ := r.seqL; exact ⟨a, xs, e, h, r⟩
  | c h => cases r; obtain ⟨xs, h1, r⟩ := cl.ok _ _ (cl.at h); exact ⟨_, xs, rfl, h1, r⟩
inductive IsQ (S : Sto) : D → List D → Prop
  | l {x : D} {ds : List D} (h : IsL S x ds) : IsQ S x ds
  | t {ds : List D} : IsQ S (.tup ds) ds
theorem IsQ.rd {K : PySem.W.Frag} {H : Hp} {T : Sto} {x : D} {ds : List D} {u : V} (h : IsQ S x ds) (cl : Cells K H S T) (r : Rep K H T u x) : ∃ a xs, u = .ref a ∧ (SqL K H a xs ∨ SqT K H a xs) ∧ RepL K H T xs ds := by
  cases h with
  | l h => obtain ⟨a, xs, e, s, r⟩ := h.rd cl r; exact ⟨a, xs, e, .inl s, r⟩
  | t => obtain ⟨a, xs, e, s, r⟩ := r.seqT; exact ⟨a, xs, e, .inr s, r⟩
/-! ### operations by value -/
theorem rv_II {g : Int → Int → Int} {i j : Int} (q : F (.int (g i j)) S) : RV c (rI0 fun i j => .int (g i j)) (.int i) (.int j) S F := fun T u w H cl r1 r2 Q k => by
  cases r1; cases r2; exact ⟨i, j, rfl, rfl, k _ _ S T H Mv.refl cl (.int _) q⟩
theorem rv_IB {g : Int → Int → Bool} {i j : Int} (q : F (.bl (g i j)) S) : RV c (rI0 fun i j => .bl (g i j)) (.int i) (.int j) S F := fun T u w H cl r1 r2 Q k => by
  cases r1; cases r2; exact ⟨i, j, rfl, rfl, k _ _ S T H Mv.refl cl (.bl _) q⟩
theorem rv_IC {C : Int → Int → Prop} {g : Int → Int → Int} {i j : Int} (hc : C i j) (q : F (.int (g i j)) S) : RV c (rI C fun i j => .int (g i j)) (.int i) (.int j) S F := fun T u w H cl r1 r2 Q k => by
  cases r1; cases r2; exact ⟨i, j, rfl, rfl, hc, k _ _ S T H Mv.refl cl (.int _) q⟩
theorem ru_I {g : Int → Int} {i : Int} (q : F (.int (g i)) S) : RU c (rU fun i => .int (g i)) (.int i) S F := fun T u H cl r1 Q k => by
  cases r1; exact ⟨i, rfl, k _ _ S T H Mv.refl cl (.int _) q⟩
/-- == and != of ints, texts, truths, None -/
def sEq : D → D → Option Bool
  | .int i, .int j => some (decide (i = j))
  | .str i, .str j => some (decide (i = j))
  | .bl i, .bl j => some (decide (i = j))
  | .non, .non => some true
  | .non, .int _ => some false | .int _, .non => some false | .non, .bl _ => some false | .bl _, .non => some false
  | .non, .str _ => some false | .str _, .non => some false | .int _, .str _ => some false | .str _, .int _ => some false
  | .bl _, .str _ => some false | .str _, .bl _ => some false
  | _, _ => none
theorem sEq_ok {K : PySem.W.Frag} {H : Hp} {x y : D} {u w : V} {b : Bool} (h : sEq x y = some b) (r1 : Rep K H S u x) (r2 : Rep K H S w y) : scal u w = true ∧ decide (u = w) = b := by
  cases r1 <;> cases r2 <;> first | (cases h; done) | (cases h; refine ⟨rfl, ?_⟩; first | rfl | simp)
theorem rv_eq {x y : D} {b : Bool} (h : sEq x y = some b) (q : F (.bl b) S) : RV c rEq x y S F := fun T u w H cl r1 r2 Q k => by
  obtain ⟨h1, h2⟩ := sEq_ok h r1 r2
  exact ⟨h1, by rw [h2]; exact k _ _ S T H Mv.refl cl (.bl _) q⟩
theorem rv_ne {x y : D} {b : Bool} (h : sEq x y = some b) (q : F (.bl (!b)) S) : RV c rNe x y S F := fun T u w H cl r1 r2 Q k => by
  obtain ⟨h1, h2⟩ := sEq_ok h r1 r2
  exact ⟨h1, by rw [h2]; exact k _ _ S T H Mv.refl cl (.bl _) q⟩
def isNoD : D → Bool
  | .non => true
  | _ => false
theorem isNo_ok {K : PySem.W.Frag} {H : Hp} {x : D} {u : V} (r : Rep K H S u x) : decide (u = V.non) = isNoD x := by
  cases r <;> first | rfl | (show decide _ = false; simp)
theorem rv_isNo {x : D} (q : F (.bl (isNoD x)) S) : RV c rIsNo x .non S F := fun T u w H cl r1 r2 Q k => by
  cases r2; exact ⟨rfl, by rw [isNo_ok r1]; exact k _ _ S T H Mv.refl cl (.bl _) q⟩
theorem rv_notNo {x : D} (q : F (.bl (!isNoD x)) S) : RV c rNotNo x .non S F := fun T u w H cl r1 r2 Q k => by
  cases r2; exact ⟨rfl, by rw [isNo_ok r1]; exact k _ _ S T H Mv.refl cl (.bl _) q⟩
theorem RepL.at {K : PySem.W.Frag} {H : Hp} {xs : List V} {ds : List D} {i : Int} (r : RepL K H S xs ds) (h : atI ds i = some d) : ∃ v, atI xs i = some v ∧ Rep K H S v d := by
  unfold atI at h ⊢
  rw [r.length]
  cases e : ixN ds.length i with
  | none => rw [e] at h; cases h
  | some j => rw [e] at h; exact r.get h
theorem rv_ixL {x : D} {ds : List D} {i : Int} (h : IsL S x ds) (e : atI ds i = some d) (q : F d S) : RV c (rIxL c.K) x (.int i) S F := fun T u w H cl r1 r2 Q k => by
  cases r2
  obtain ⟨a, xs, rfl, s, r⟩ := h.rd cl r1
  obtain ⟨v, h1, h2⟩ := r.at e
  exact ⟨a, xs, i, v, rfl, rfl, s, h1, k _ _ S T H Mv.refl cl h2 q⟩
theorem rv_ixT {ds : List D} {i : Int} (e : atI ds i = some d) (q : F d S) : RV c (rIxT c.K) (.tup ds) (.int i) S F := fun T u w H cl r1 r2 Q k => by
  cases r2
  obtain ⟨a, xs, rfl, s, r⟩ := r1.seqT
  obtain ⟨v, h1, h2⟩ := r.at e
  exact ⟨a, xs, i, v, rfl, rfl, s, h1, k _ _ S T H Mv.refl cl h2 q⟩
theorem rv_ixS {z : Str} {i : Int} {n : Nat} (hz : z.length ≤ sizeLine) (e : atI z.cps.toList i = some n) (q : F (.str ⟨#[n]⟩) S) : RV c rIxS (.str z) (.int i) S F := fun T u w H cl r1 r2 Q k => by
  cases r1; cases r2; exact ⟨z, i, n, rfl, rfl, hz, e, k _ _ S T H Mv.refl cl (.str _) q⟩
theorem rv_addS {x y : Str} (h : x.length + y.length ≤ sizeLine) (q : F (.str (x ++ y)) S) : RV c rAddStr (.str x) (.str y) S F := fun T u w H cl r1 r2 Q k => by
  cases r1; cases r2; exact ⟨x, y, rfl, rfl, h, k _ _ S T H Mv.refl cl (.str _) q⟩
theorem rv_ltS {x y : Str} (q : F (.bl (decide (x.cps.toList < y.cps.toList))) S) : RV c rLtStr (.str x) (.str y) S F := fun T u w H cl r1 r2 Q k => by
  cases r1; cases r2; exact ⟨x, y, rfl, rfl, k _ _ S T H Mv.refl cl (.bl _) q⟩
theorem rv_leS {x y : Str} (q : F (.bl (!decide (y.cps.toList < x.cps.toList))) S) : RV c rLeStr (.str x) (.str y) S F := fun T u w H cl r1 r2 Q k => by
  cases r1; cases r2; exact ⟨x, y, rfl, rfl, k _ _ S T H Mv.refl cl (.bl _) q⟩
theorem found_one (x : Str) (n : Nat) : (!(Builtin.Str.occurrences x ⟨#[n]⟩ 0 x.length 1).isEmpty) = decide (n ∈ x.cps.toList) := StrLaws.found_one x n
theorem rv_inS {n : Nat} {y : Str} (q : F (.bl (decide (n ∈ y.cps.toList))) S) : RV c rInStr (.str ⟨#[n]⟩) (.str y) S F := fun T u w H cl r1 r2 Q k => by
  cases r1; cases r2; exact ⟨_, y, rfl, rfl, by rw [found_one]; exact k _ _ S T H Mv.refl cl (.bl _) q⟩
theorem rv_notInS {n : Nat} {y : Str} (q : F (.bl (!decide (n ∈ y.cps.toList))) S) : RV c rNotInStr (.str ⟨#[n]⟩) (.str y) S F := fun T u w H cl r1 r2 Q k => by
  cases r1; cases r2; exact ⟨_, y, rfl, rfl, by rw [found_one]; exact k _ _ S T H Mv.refl cl (.bl _) q⟩
theorem rv_cat {x y : D} {ds es : List D} (h1 : IsA S x ds) (h2 : IsA S y es) (hl : ds.length + es.length ≤ sizeLine) (q : F (.lst (ds ++ es)) S) : RV c rCat x y S F := fun T u w H cl r1 r2 Q k => by
  obtain ⟨a, xs, rfl, s, r⟩ := h1.rd cl r1
  obtain ⟨b, zs, rfl, s', r'⟩ := h2.rd cl r2
  exact ⟨a, b, xs, zs, rfl, rfl, s, s', by rw [r.length, r'.length]; exact hl, fun p hp => k _ _ S T _ (mv_new hp) (cl.new hp) (.lst (cl.free hp) upd_same ((r.append r').mv (mv_new hp))) q⟩
/-- flat values, in a row -/
def flatD : D → Bool
  | .non => true | .bl _ => true | .int _ => true | .str _ => true | _ => false
def eqD : D → D → Bool
  | .non, .non => true
  | .bl a, .bl b => a == b
  | .bl a, .int b => (if a then 1 else 0) == b
  | .int a, .bl b => a == (if b then 1 else 0)
  | .int a, .int b => a == b
  | .str a, .str b => a == b
  | _, _ => false
def inD (x : D) (xs : List D) : Bool := xs.any fun y => eqD y x
theorem flat_ok {K : PySem.W.Frag} {H : Hp} {x : D} {u : V} (r : Rep K H S u x) : flatV u = flatD x := by cases r <;> rfl
theorem eq_ok {K : PySem.W.Frag} {H : Hp} {x y : D} {u w : V} (r : Rep K H S u x) (r' : Rep K H S w y) : eqV u w = eqD x y := by cases r <;> cases r' <;> rfl
theorem RepL.flat {K : PySem.W.Frag} {H : Hp} : ∀ {xs : List V} {ds : List D}, RepL K H S xs ds → xs.all flatV = ds.all flatD
  | _, _, .nil => rfl
  | _, _, .cons h t => by rw [List.all_cons, List.all_cons, flat_ok h, RepL.flat t]
theorem RepL.inV {K : PySem.W.Frag} {H : Hp} {x : D} {u : V} (r : Rep K H S u x) : ∀ {xs : List V} {ds : List D}, RepL K H S xs ds → L2.inV u xs = inD x ds
  | _, _, .nil => rfl
  | _, _, .cons h t => by
    have e := RepL.inV r t
    unfold L2.inV inD at *
    rw [List.any_cons, List.any_cons, eq_ok h r, e]
theorem rv_in {neg : Bool} {x y : D} {ds : List D} (h : IsQ S y ds) (h1 : flatD x = true) (h2 : ds.all flatD = true) (q : F (.bl (if neg then !inD x ds else inD x ds)) S) : RV c (rIn c.K neg) x y S F := fun T u w H cl r1 r2 Q k => by
  obtain ⟨a, xs, rfl, s, r⟩ := h.rd cl r2
  exact ⟨a, xs, rfl, s, by rw [flat_ok r1]; exact h1, by rw [r.flat]; exact h2, by rw [RepL.inV r1 r]; exact k _ _ S T H Mv.refl cl (.bl _) q⟩
/-! ### calls of built-ins -/
theorem rc_lenQ {x : D} {ds : List D} (h : IsQ S x ds) (q : F (.int ds.length) S) : RC c (rLen c.K) [x] S F := fun T us H cl r Q k => by
  cases r with
  | cons h1 t =>
    cases t
    obtain ⟨a, xs, rfl, s, r⟩ := h.rd cl h1
    refine ⟨_, ds.length, rfl, ?_, k _ _ S T H Mv.refl cl (.int _) q⟩
    rcases s with s | s
    · exact .inl ⟨xs, s, r.length.symm⟩
    · exact .inr ⟨xs, s, r.length.symm⟩
theorem rc_lenS {x : Str} (h : x.length ≤ sizeLine) (q : F (.int x.length) S) : RC c (rLen c.K) [.str x] S F := fun T us H cl r Q k => by
  cases r with
  | cons h1 t => cases t; cases h1; exact ⟨_, _, rfl, ⟨h, rfl⟩, k _ _ S T H Mv.refl cl (.int _) q⟩
theorem rc_abs {i : Int} (q : F (.int (if i < 0 then -i else i)) S) : RC c rAbs [.int i] S F := fun T us H cl r Q k => by
  cases r with
  | cons h1 t => cases t; cases h1; exact ⟨_, rfl, k _ _ S T H Mv.refl cl (.int _) q⟩
theorem rc_max2 {i j : Int} (q : F (.int (if j > i then j else i)) S) : RC c rMax2 [.int i, .int j] S F := fun T us H cl r Q k => by
  cases r with
  | cons h1 t => cases t with
    | cons h2 t => cases t; cases h1; cases h2; exact ⟨_, _, rfl, k _ _ S T H Mv.refl cl (.int _) q⟩
theorem rc_min2 {i j : Int} (q : F (.int (if j < i then j else i)) S) : RC c rMin2 [.int i, .int j] S F := fun T us H cl r Q k => by
  cases r with
  | cons h1 t => cases t with
    | cons h2 t => cases t; cases h1; cases h2; exact ⟨_, _, rfl, k _ _ S T H Mv.refl cl (.int _) q⟩
theorem rc_int {i : Int} (q : F (.int i) S) : RC c rInt1 [.int i] S F := fun T us H cl r Q k => by
  cases r with
  | cons h1 t => cases t; cases h1; exact .inl ⟨_, rfl, k _ _ S T H Mv.refl cl (.int _) q⟩
theorem rc_intB {b : Bool} (q : F (.int (if b then 1 else 0)) S) : RC c rInt1 [.bl b] S F := fun T us H cl r Q k => by
  cases r with
  | cons h1 t => cases t; cases h1; exact .inr ⟨_, rfl, k _ _ S T H Mv.refl cl (.int _) q⟩
theorem rc_strI {i : Int} (h : i.natAbs.log2 < 1920) (q : F (.str (toString i)) S) : RC c rStrInt [.int i] S F := fun T us H cl r Q k => by
  cases r with
  | cons h1 t => cases t; cases h1; exact ⟨_, rfl, h, k _ _ S T H Mv.refl cl (.str _) q⟩
theorem rc_ord {n : Nat} (q : F (.int n) S) : RC c rOrd [.str ⟨#[n]⟩] S F := fun T us H cl r Q k => by
  cases r with
  | cons h1 t => cases t; cases h1; exact ⟨_, rfl, rfl, k _ _ S T H Mv.refl cl (.int _) q⟩
theorem rc_list {x : D} {ds : List D} (h : IsQ S x ds) (q : F (.lst ds) S) : RC c (rListOf c.K) [x] S F := fun T us H cl r Q k => by
  cases r with
  | cons h1 t =>
    cases t
    obtain ⟨a, xs, rfl, s, r⟩ := h.rd cl h1
    exact ⟨a, xs, rfl, s, fun p hp => k _ _ S T _ (mv_new hp) (cl.new hp) (.lst (cl.free hp) upd_same (r.mv (mv_new hp))) q⟩
theorem rc_tupleL {x : D} {ds : List D} (h : IsL S x ds) (q : F (.tup ds) S) : RC c (rTupleOf c.K) [x] S F := fun T us H cl r Q k => by
  cases r with
  | cons h1 t =>
    cases t
    obtain ⟨a, xs, rfl, s, r⟩ := h.rd cl h1
    exact ⟨a, xs, rfl, .inl ⟨s, fun p hp => k _ _ S T _ (mv_new hp) (cl.new hp) (.tup (cl.free hp) upd_same (r.mv (mv_new hp))) q⟩⟩
theorem rc_all {bs : List Bool} {x : D} (h : IsL S x (bs.map D.bl)) (q : F (.bl (bs.all id)) S) : RC c (rAll c.K) [x] S F := fun T us H cl r Q k => by
  cases r with
  | cons h1 t =>
    cases t
    obtain ⟨a, xs, rfl, s, r⟩ := h.rd cl h1
    have e := r.bls
    subst e
    exact ⟨a, bs, rfl, s, k _ _ S T H Mv.refl cl (.bl _) q⟩
/-- isinstance by a built-in class -/
inductive TyS (S : Sto) : D → String → Prop
  | non : TyS S .non "NoneType" | bl (b : Bool) : TyS S (.bl b) "bool" | int (i : Int) : TyS S (.int i) "int" | str (x : Str) : TyS S (.str x) "str"
  | rol (ds : List D) : TyS S (.rol ds) "list" | lst (ds : List D) : TyS S (.lst ds) "list" | tup (ds : List D) : TyS S (.tup ds) "tuple" | dK (ds : List (Key × D)) : TyS S (.dK ds) "dict"
  | cl {l : Addr} {ds : List D} (h : S l = some (.lst ds)) : TyS S (.ref l) "list" | cd {l : Addr} {ds : List (Key × D)} (h : S l = some (.dK ds)) : TyS S (.ref l) "dict"
theorem TyS.ok {K : PySem.W.Frag} {H : Hp} {T : Sto} {x : D} {n : String} {u : V} (t : TyS S x n) (cl : Cells K H S T) (r : Rep K H T u x) : TyX K H u (.type n) := by
  cases t with
  | non => cases r; exact .base .non
  | bl => cases r; exact .base (.bl _)
  | int => cases r; exact .base (.int _)
  | str => cases r; exact .base (.str _)
  | rol =>
    cases r with
    | rol _ h _ => exact .base (.frz h)
    | rolK h _ => obtain ⟨o, its, n, h1, h2, _⟩ := h; exact .kList h1 h2
  | lst => cases r with | lst _ h _ => exact .base (.lst h)
  | tup =>
    cases r with
    | tup _ h _ => exact .base (.tup h)
    | tupK h _ => obtain ⟨o, its, n, h1, h2, _⟩ := h; exact .kTuple h1 h2
  | dK => cases r with | dK _ h _ => exact h.elim (fun h => .base (.dK h)) fun ⟨_, h⟩ => .fDict h
  | cl h => cases r; obtain ⟨xs, h1, _⟩ := cl.ok _ _ (cl.at h); exact .base (.lst h1)
  | cd h => cases r; obtain ⟨xs, h1, _⟩ := cl.ok _ _ (cl.at h); exact .base (.dK h1)
theorem rc_isi {x : D} {n N : String} {b : Bool} (t : TyS S x n) (h : kitB n N = some b) (q : F (.bl b) S) : RC c (rIsiZ c.K) [x, .ty N] S F := fun T us H cl r Q k => by
  cases r with
  | cons h1 r => cases r with
    | cons h2 r =>
      cases r
      cases h2
      exact ⟨_, _, _, _, b, rfl, .ty N, TyZ.x (t.ok cl h1), kit_ty h, k _ _ S T H Mv.refl cl (.bl _) q⟩
/-! ### methods of built-ins -/
theorem ve_m1 {r : MR1} {to te : TE} (h : VE c to ρ S fun x S1 => ∃ z, x = .str z ∧ VE c te ρ S1 fun y S2 => RM c r (.str z) [y] S2 F) : VE c (tM1 r to te) ρ S F := fun T σ H I Q k =>
  h T σ H I _ fun vx x S1 T1 H1 m1 c1 r1 ⟨z, e, h1⟩ => by
    subst e
    cases r1
    exact ⟨⟨z, rfl⟩, h1 T1 σ H1 (I.mv m1 c1) _ fun vy y S2 T2 H2 m2 c2 r2 h2 => h2 T2 _ _ H2 c2 (.str z) (.cons r2 .nil) Q fun v d S3 T3 H3 m3 c3 r3 q => k v d S3 T3 H3 (m1.trans (m2.trans m3)) c3 r3 q⟩
theorem ve_m0 {r : MR1} {to : TE} (h : VE c to ρ S fun x S1 => ∃ z, x = .str z ∧ RM c r (.str z) [] S1 F) : VE c (tM0 r to) ρ S F := fun T σ H I Q k =>
  h T σ H I _ fun vx x S1 T1 H1 m1 c1 r1 ⟨z, e, h1⟩ => by
    subst e
    cases r1
    exact ⟨⟨z, rfl⟩, h1 T1 _ _ H1 c1 (.str z) .nil Q fun v d S3 T3 H3 m3 c3 r3 q => k v d S3 T3 H3 (m1.trans m3) c3 r3 q⟩
theorem rm_join {a : Str} {x : D} {ys : List Str} (h : IsQ S x (ys.map D.str)) (hl : (ys.map (·.length)).sum + ys.length * a.length ≤ 16777216) (q : F (.str (Txt.join a ys)) S) : RM c (rJoin c.K) (.str a) [x] S F := fun T u us H cl r1 r2 Q k => by
  cases r1
  cases r2 with
  | cons h1 t =>
    cases t
    obtain ⟨p, xs, rfl, s, r⟩ := h.rd cl h1
    have e := r.strs
    subst e
    exact ⟨a, p, ys, rfl, rfl, s, hl, k _ _ S T H Mv.refl cl (.str _) q⟩
/-- a method of a list that is known by reference -/
theorem ve_bm {r : MR1} {to : TE} {t : TA} (h : VE c to ρ S fun x S1 => ∃ l ds, x = .ref l ∧ S1 l = some (.lst ds) ∧ VA c t ρ S1 fun es S2 => RM c r (.ref l) es S2 F) : VE c (tBM c.K "list" r to t) ρ S F := fun T σ H I Q k =>
  h T σ H I _ fun vx x S1 T1 H1 m1 c1 r1 ⟨l, ds, e, hl, h1⟩ => by
    subst e
    cases r1
    obtain ⟨xs, hx, _⟩ := c1.ok _ _ (c1.at hl)
    exact ⟨.inl ⟨rfl, xs, .of hx⟩, h1 T1 σ H1 (I.mv m1 c1) _ fun vs es S2 T2 H2 m2 c2 r2 h2 => h2 T2 _ vs H2 c2 (.ref l) r2 Q fun v d S3 T3 H3 m3 c3 r3 q => k v d S3 T3 H3 (m1.trans (m2.trans m3)) c3 r3 q⟩
theorem ve_bm0 {r : MR1} {to : TE} (h : VE c to ρ S fun x S1 => ∃ l ds, x = .ref l ∧ S1 l = some (.lst ds) ∧ RM c r (.ref l) [] S1 F) : VE c (tBM0 c.K "list" r to) ρ S F := fun T σ H I Q k =>
  h T σ H I _ fun vx x S1 T1 H1 m1 c1 r1 ⟨l, ds, e, hl, h1⟩ => by
    subst e
    cases r1
    obtain ⟨xs, hx, _⟩ := c1.ok _ _ (c1.at hl)
    exact ⟨.inl ⟨rfl, xs, .of hx⟩, h1 T1 _ _ H1 c1 (.ref l) .nil Q fun v d S3 T3 H3 m3 c3 r3 q => k v d S3 T3 H3 (m1.trans m3) c3 r3 q⟩
theorem rm_append {l : Addr} {ds : List D} {x : D} (h : S l = some (.lst ds)) (hl : ds.length < sizeLine) (q : F .non (put S l (.lst (ds ++ [x])))) : RM c rAppend (.ref l) [x] S F := fun T u us H cl r1 r2 Q k => by
  cases r1
  cases r2 with
  | cons h1 t =>
    cases t
    obtain ⟨xs, hx, r⟩ := cl.ok _ _ (cl.at h)
    exact ⟨l, xs, _, rfl, rfl, hx, by rw [r.length]; exact hl, k _ _ _ _ _ (mv_wr (cl.at h)) (cl.wr (cl.at h) (cell_l upd_same ((r.append (.cons h1 .nil)).mv (mv_wr (cl.at h))))) .non q⟩
theorem rm_popAt {l : Addr} {ds : List D} {i : Int} {j : Nat} (h : S l = some (.lst ds)) (hj : i = (j : Int)) (hlt : j < 2 ^ 62) (e : ds[j]? = some d) (q : F d (put S l (.lst (ds.eraseIdx j)))) : RM c rPopAt (.ref l) [.int i] S F := fun T u us H cl r1 r2 Q k => by
  subst hj
  cases r1
  cases r2 with
  | cons h1 t =>
    cases t
    cases h1
    obtain ⟨xs, hx, r⟩ := cl.ok _ _ (cl.at h)
    obtain ⟨v, e1, e2⟩ := r.get e
    have hb : j < xs.length := (List.getElem?_eq_some_iff.mp e1).1
    have hs : seqIndex? (j : Int) xs.length = some j := (ixN_seq (by unfold ixN; rw [if_pos (by omega), if_pos (by omega)]; simp)).1
    exact ⟨l, xs, (j : Int), j, v, rfl, rfl, hx, by omega, by omega, hs, e1, k _ _ _ _ _ (mv_wr (cl.at h)) (cl.wr (cl.at h) (cell_l upd_same ((r.eraseIdx j).mv (mv_wr (cl.at h))))) (e2.mv (mv_wr (cl.at h))) q⟩
/-! ### slices -/
theorem vo_none {F : Option Int → Sto → Prop} (q : F none S) : VO c tNoPart ρ S F := fun T σ H I Q k => k none S T H Mv.refl I.cells q
theorem vo_some {F : Option Int → Sto → Prop} {te : TE} (h : VE c te ρ S fun x S1 => ∃ i, x = .int i ∧ F (some i) S1) : VO c (tPart te) ρ S F := fun T σ H I Q k =>
  h T σ H I _ fun vx x S1 T1 H1 m1 c1 r1 ⟨i, e, q⟩ => by
    subst e
    cases r1
    exact ⟨i, rfl, k _ S1 T1 H1 m1 c1 q⟩
def RS (c : Ctx) (r : V → Option Int → Option Int → Hp → VK → Prop) (x : D) (lo hi : Option Int) (S : Sto) (F : D → Sto → Prop) : Prop := ∀ T u H, Cells c.K H S T → Rep c.K H T u x → ∀ Q : VK,
  (∀ v d S' T' H', Mv T H T' H' → Cells c.K H' S' T' → Rep c.K H' T' v d → F d S' → Q v H') → r u lo hi H Q
theorem ve_sl {r : V → Option Int → Option Int → Hp → VK → Prop} {te : TE} {tl th : TO} (h : VE c te ρ S fun x S1 => VO c tl ρ S1 fun lo S2 => VO c th ρ S2 fun hi S3 => RS c r x lo hi S3 F) : VE c (tSl r te tl th) ρ S F := fun T σ H I Q k =>
  h T σ H I _ fun vx x S1 T1 H1 m1 c1 r1 h1 => h1 T1 σ H1 (I.mv m1 c1) _ fun lo S2 T2 H2 m2 c2 h2 => h2 T2 σ H2 (I.mv (m1.trans m2) c2) _ fun hi S3 T3 H3 m3 c3 h3 => h3 T3 vx H3 c3 (r1.mv (m2.trans m3)) Q fun v d S4 T4 H4 m4 => k v d S4 T4 H4 (m1.trans (m2.trans (m3.trans m4)))
theorem rs_str {z : Str} {lo hi : Option Int} (hz : z.length ≤ sizeLine) (q : F (.str (cutS z lo hi)) S) : RS c rSlS (.str z) lo hi S F := fun T u H cl r Q k => by
  cases r; exact ⟨z, rfl, hz, k _ _ S T H Mv.refl cl (.str _) q⟩
def cutD (xs : List D) (lo hi : Option Int) : List D := (xs.drop (HT.sIx xs.length 0 lo)).take (HT.sIx xs.length xs.length hi - HT.sIx xs.length 0 lo)
theorem RepL.cut {K : PySem.W.Frag} {H : Hp} {xs : List V} {ds : List D} (r : RepL K H S xs ds) (lo hi : Option Int) : RepL K H S (cutV xs lo hi) (cutD ds lo hi) := by
  unfold cutV cutD
  rw [r.length]
  exact (r.drop _).take _
theorem rs_list {x : D} {ds : List D} {lo hi : Option Int} (h : IsL S x ds) (q : F (.lst (cutD ds lo hi)) S) : RS c (rSlL c.K) x lo hi S F := fun T u H cl r Q k => by
  obtain ⟨a, xs, rfl, s, r⟩ := h.rd cl r
  exact ⟨a, xs, rfl, s, fun p hp => k _ _ S T _ (mv_new hp) (cl.new hp) (.lst (cl.free hp) upd_same ((r.cut lo hi).mv (mv_new hp))) q⟩
/-! ### calls of defs -/
/-- a def's promise by value: from the arguments and what is known by reference to what is wanted of the value, of an exception -/
abbrev Pt := List D → Sto → (D → Sto → Prop) → (Addr → List (Str × D) → Sto → Prop) → Prop
def spOf (K : PySem.W.Frag) (p : Pt) : Sp := fun vs H Q E => ∃ ds S T F Y, RepL K H T vs ds ∧ Cells K H S T ∧ p ds S F Y ∧
  (∀ v d S' T' H', Mv T H T' H' → Cells K H' S' T' → Rep K H' T' v d → F d S' → Q v H') ∧
  (∀ (C : Addr) (x : Option Addr) (fs : List (Str × D)) (S' T' : Sto) (H' : Hp), Mv T H T' H' → Cells K H' S' T' → XRep K H' T' x fs → Y C fs S' → E (.ref C) x H')
abbrev noY : Addr → List (Str × D) → Sto → Prop := fun _ _ _ => False
/-! ### statements -/
variable {P : Po}
theorem vx_next {nx bk ct : Rho → Sto → Prop} {rt : D → Sto → Prop} (q : nx ρ S) : VX c tNext ρ S ⟨nx, rt, bk, ct⟩ := fun T σ H I D b => b.nx σ ρ S T H Mv.refl I q
theorem vx_break {nx bk ct : Rho → Sto → Prop} {rt : D → Sto → Prop} (q : bk ρ S) : VX c tBreak ρ S ⟨nx, rt, bk, ct⟩ := fun T σ H I D b => b.bk σ ρ S T H Mv.refl I q
theorem vx_cont {nx bk ct : Rho → Sto → Prop} {rt : D → Sto → Prop} (q : ct ρ S) : VX c tCont ρ S ⟨nx, rt, bk, ct⟩ := fun T σ H I D b => b.ct σ ρ S T H Mv.refl I q
theorem vx_seq {t u : TS} {nx bk ct : Rho → Sto → Prop} {rt : D → Sto → Prop} (h : VX c t ρ S ⟨fun ρ1 S1 => VX c u ρ1 S1 ⟨nx, rt, bk, ct⟩, rt, bk, ct⟩) : VX c (tSeq t u) ρ S ⟨nx, rt, bk, ct⟩ := fun T σ H I D b =>
  h T σ H I _ ⟨fun σ' ρ' S' T' H' m I' q => q T' σ' H' I' D (b.mv m), b.rt, b.bk, b.ct⟩
theorem VX.imp {t : TS} {P' : Po} (h : VX c t ρ S P) (n : ∀ ρ S, P.nx ρ S → P'.nx ρ S) (r : ∀ d S, P.rt d S → P'.rt d S) (bk : ∀ ρ S, P.bk ρ S → P'.bk ρ S) (ct : ∀ ρ S, P.ct ρ S → P'.ct ρ S) : VX c t ρ S P' := fun T σ H I D b =>
  h T σ H I D ⟨fun σ' ρ' S' T' H' m I' q => b.nx σ' ρ' S' T' H' m I' (n _ _ q), fun v d S' T' H' m cl rr q => b.rt v d S' T' H' m cl rr (r _ _ q), fun σ' ρ' S' T' H' m I' q => b.bk σ' ρ' S' T' H' m I' (bk _ _ q), fun σ' ρ' S' T' H' m I' q => b.ct σ' ρ' S' T' H' m I' (ct _ _ q)⟩
theorem vx_asg {te : TE} {g : TG} {nx bk ct : Rho → Sto → Prop} {rt : D → Sto → Prop} (h : VE c te ρ S fun x S1 => VG c g x ρ S1 nx) : VX c (tAsg te g) ρ S ⟨nx, rt, bk, ct⟩ := fun T σ H I D b =>
  h T σ H I _ fun v x S1 T1 H1 m1 c1 r1 h1 => h1 T1 v σ H1 (I.mv m1 c1) r1 _ fun σ' ρ' S' T' H' m' I' q => b.nx σ' ρ' S' T' H' (m1.trans m') I' q
theorem vx_drop {te : TE} {nx bk ct : Rho → Sto → Prop} {rt : D → Sto → Prop} (h : VE c te ρ S fun _ S1 => nx ρ S1) : VX c (tDrop te) ρ S ⟨nx, rt, bk, ct⟩ := fun T σ H I D b =>
  h T σ H I _ fun v x S1 T1 H1 m1 c1 r1 h1 => b.nx σ ρ S1 T1 H1 m1 (I.mv m1 c1) h1
theorem vx_ret {te : TE} {nx bk ct : Rho → Sto → Prop} {rt : D → Sto → Prop} (h : VE c te ρ S rt) : VX c (tRet te) ρ S ⟨nx, rt, bk, ct⟩ := fun T σ H I D b => h T σ H I _ fun v x S1 T1 H1 m1 c1 r1 h1 => b.rt v x S1 T1 H1 m1 c1 r1 h1
theorem vx_retN {nx bk ct : Rho → Sto → Prop} {rt : D → Sto → Prop} (h : rt .non S) : VX c tRetN ρ S ⟨nx, rt, bk, ct⟩ := fun T σ H I D b => b.rt _ _ S T H Mv.refl I.cells .non h
theorem vx_if {tc : TT} {t u : TS} (h : VT c tc ρ S fun b S1 => (b = true → VX c t ρ S1 P) ∧ (b = false → VX c u ρ S1 P)) : VX c (tIfS tc t u) ρ S P := fun T σ H I D bb =>
  h T σ H I _ fun b S1 T1 H1 m1 c1 ⟨h1, h2⟩ => by
    cases b with
    | true => exact iteT (h1 rfl T1 σ H1 (I.mv m1 c1) D (bb.mv m1))
    | false => exact iteF (h2 rfl T1 σ H1 (I.mv m1 c1) D (bb.mv m1))
theorem Cells.nohid {K : PySem.W.Frag} {H : Hp} {S T : Sto} {l : Addr} {d : D} (cl : Cells K H S T) (hl : S l = some d) (ne : d ≠ .hid) : T l ≠ some .hid := fun z => by
  rw [cl.at hl] at z
  cases z
  exact ne rfl
/-- a slot's object is from now on known by value -/
theorem vx_freeze {t : TS} (i : Nat) {l : Addr} (h : ρ[i]? = some (some (.ref l))) (hl : S l = some d) (k : VX c t (ρ.set i (some d)) (del S l) P) (ne : d ≠ .hid := by nofun) : VX c t ρ S P := fun T σ H I D b => by
  have nh := I.cells.nohid hl ne
  have J : In c σ H ρ (del S l) (del T l) := I.mv (mv_del nh) (I.cells.del nh)
  have I' : In c σ H (ρ.set i (some d)) (del S l) (del T l) := by
    refine J.reword h fun v r => ?_
    cases r
    exact I.cells.rep (I.cells.at hl) nh
  exact k _ σ H I' D (b.mv (mv_del nh))
theorem ve_freeze {te : TE} (h : VE c te ρ S fun x S1 => ∃ l d, x = .ref l ∧ S1 l = some d ∧ d ≠ .hid ∧ F d (del S1 l)) : VE c te ρ S F := fun T σ H I Q k =>
  h T σ H I Q fun v x S1 T1 H1 m1 c1 r1 ⟨l, d, e1, hl, ne, q⟩ => by
    subst e1
    cases r1
    have nh := c1.nohid hl ne
    exact k _ d _ _ H1 (m1.trans (mv_del nh)) (c1.del nh) (c1.rep (c1.at hl) nh) q
theorem vg_name {i : Nat} {F : Rho → Sto → Prop} (q : F (ρ.set i (some d)) S) : VG c (gName i) d ρ S F := fun T v σ H I r Q k => k _ _ S T H Mv.refl (I.set i r) q
/-- several targets -/
def VGs (c : Ctx) (g : TGs) (ds : List D) (ρ : Rho) (S : Sto) (F : Rho → Sto → Prop) : Prop := ∀ T vs σ H, In c σ H ρ S T → RepL c.K H T vs ds → ∀ Q : St → Hp → Prop,
  (∀ σ' ρ' S' T' H', Mv T H T' H' → In c σ' H' ρ' S' T' → F ρ' S' → Q σ' H') → g vs σ H Q
theorem vgs_nil {F : Rho → Sto → Prop} (q : F ρ S) : VGs c gNil [] ρ S F := fun T vs σ H I r Q k => by
  cases r; exact ⟨rfl, k σ ρ S T H Mv.refl I q⟩
theorem vgs_cons {g : TG} {gs : TGs} {ds : List D} {F : Rho → Sto → Prop} (h : VG c g d ρ S fun ρ1 S1 => VGs c gs ds ρ1 S1 F) : VGs c (gCons g gs) (d :: ds) ρ S F := fun T vs σ H I r Q k => by
  cases r with
  | cons h1 t => exact ⟨_, _, rfl, h T _ σ H I h1 _ fun σ1 ρ1 S1 T1 H1 m1 I1 q => q T1 _ σ1 H1 I1 (t.mv m1) Q fun σ2 ρ2 S2 T2 H2 m2 => k σ2 ρ2 S2 T2 H2 (m1.trans m2)⟩
theorem vg_tup {n : Nat} {gs : TGs} {ds : List D} {F : Rho → Sto → Prop} (hn : ds.length = n) (h : VGs c gs ds ρ S F) : VG c (gTup c.K n gs) (.tup ds) ρ S F := fun T v σ H I r Q k => by
  obtain ⟨a, xs, rfl, s, r⟩ := r.seqT
  exact ⟨a, xs, rfl, s, by rw [r.length]; exact hn, h T xs σ H I r Q k⟩
/-- l[i] = e -/
theorem vg_subL {to ti : TE} {F : Rho → Sto → Prop} (h : VE c to ρ S fun x S1 => ∃ l, x = .ref l ∧ VE c ti ρ S1 fun y S2 => ∃ (i : Int) (j : Nat) (ds : List D), y = .int i ∧ S2 l = some (.lst ds) ∧ ixN ds.length i = some j ∧ F ρ (put S2 l (.lst (ds.set j d)))) : VG c (gSub to ti rSetL) d ρ S F := fun T v σ H I r Q k =>
  h T σ H I _ fun vx x S1 T1 H1 m1 c1 r1 ⟨l, e, h1⟩ => h1 T1 σ H1 (I.mv m1 c1) _ fun vy y S2 T2 H2 m2 c2 r2 ⟨i, j, ds, e2, hl, hj, q⟩ => by
    subst e e2
    cases r1
    cases r2
    obtain ⟨xs, hx, rr⟩ := c2.ok _ _ (c2.at hl)
    have rd : Rep c.K H2 T2 v d := r.mv (m1.trans m2)
    have w := mv_wr (H := H2) (d := .lst (ds.set j d)) (o := .lst (xs.set j v)) (c2.at hl)
    have cl' : Cells c.K (upd H2 l (.lst (xs.set j v))) (put S2 l (.lst (ds.set j d))) (put T2 l (.lst (ds.set j d))) := c2.wr (c2.at hl) (cell_l upd_same ((RepL.set rd j rr).mv w))
    exact ⟨l, xs, i, j, rfl, rfl, hx, by rw [rr.length]; exact hj, k σ ρ _ _ _ (m1.trans (m2.trans w)) (I.mv (m1.trans (m2.trans w)) cl') q⟩
end
end VS
namespace VS
open PySem L2 C8
section
variable {c : Ctx} {ρ : Rho} {S : Sto} {F : D → Sto → Prop} {d : D}
/-! ### what is walked -/
theorem yl_list {K : PySem.W.Frag} {T : Sto} {H : Hp} {a : Addr} {xs : List V} {ds : List D} (h : ∀ T1 H1, Mv T H T1 H1 → SqL K H1 a xs) (r : RepL K H T xs ds) : Yl K (Itl K a) ds T H := by
  refine ⟨fun H => SqL K H a xs, YAt xs, by rw [← r.length]; exact walk_list, fun T1 H1 m => h T1 H1 m, fun i d S1 T1 H1 H2 x e m cl y => ?_⟩
  obtain ⟨e1, e2⟩ := y
  subst e1
  obtain ⟨v, e3, r'⟩ := r.get e
  rw [e2] at e3
  cases e3
  exact ⟨Mv.refl, cl, r'.mv m⟩
theorem SqL.mv {K : PySem.W.Frag} {S S' : Sto} {H H' : Hp} {a : Addr} {xs : List V} (m : Mv S H S' H') (s : S a = none) (h : SqL K H a xs) : SqL K H' a xs := by
  rcases h with (h | ⟨o, h⟩) | h
  · exact .inl (.inl (m.keep _ _ s h))
  · exact .inl (.inr ⟨o, m.keep _ _ s h⟩)
  · exact .inr h
/-- a list by value -/
inductive IsW : D → List D → Prop
  | v {ds : List D} : IsW (.lst ds) ds
  | r {ds : List D} : IsW (.rol ds) ds
theorem IsW.rd {K : PySem.W.Frag} {H : Hp} {x : D} {ds : List D} {u : V} (h : IsW x ds) (r : Rep K H S u x) : ∃ a xs, u = .ref a ∧ (∀ S' H', Mv S H S' H' → SqL K H' a xs) ∧ RepL K H S xs ds := by
  cases h with
  | v => obtain ⟨a, xs, e, s, h, r⟩ := r.seqL; exact ⟨a, xs, e, fun S' H' m => SqL.mv m s (.of h), r⟩
  | r => exact r.seqR
theorem vi_list {te : TE} {W : List D → Sto → Prop} (h : VE c te ρ S fun x S1 => ∃ ds, IsW x ds ∧ W ds S1) : VI c (iList c.K te) ρ S W := fun T σ H I R k =>
  h T σ H I _ fun vx x S1 T1 H1 m1 c1 r1 ⟨ds, hx, q⟩ => by
    obtain ⟨a, xs, rfl, hq, r⟩ := hx.rd r1
    exact ⟨a, rfl, ⟨xs, hq _ _ Mv.refl⟩, k _ ds S1 T1 H1 m1 c1 (yl_list hq r) q⟩
theorem SqT.mv {K : PySem.W.Frag} {H H' : Hp} {a : Addr} {xs : List V} (k : ∀ o, H a = some o → H' a = some o) (h : SqT K H a xs) : SqT K H' a xs := by
  rcases h with (h | ⟨o, h⟩) | h
  · exact .inl (.inl (k _ h))
  · exact .inl (.inr ⟨o, k _ h⟩)
  · exact .inr h
theorem vi_tup {te : TE} {W : List D → Sto → Prop} (h : VE c te ρ S fun x S1 => ∃ ds, x = .tup ds ∧ W ds S1) : VI c (iTup c.K te) ρ S W := fun T σ H I R k =>
  h T σ H I _ fun vx x S1 T1 H1 m1 c1 r1 ⟨ds, hx, q⟩ => by
    subst hx
    have fin : ∀ a xs, vx = .ref a → (∀ T2 H2, Mv T1 H1 T2 H2 → SqT c.K H2 a xs) → RepL c.K H1 T1 xs ds → iTup c.K te = iTup c.K te → ∃ b, vx = .ref b ∧ (∃ xs, SqT c.K H1 b xs) ∧ R (Itt c.K b) H1 := fun a xs e hq r _ => by
      refine ⟨a, e, ⟨xs, hq T1 H1 Mv.refl⟩, k _ ds S1 T1 H1 m1 c1 ⟨fun H => SqT c.K H a xs, YAt xs, by rw [← r.length]; exact walk_tup, hq, fun i d S2 T2 H2 H3 x e m cl y => ?_⟩ q⟩
      obtain ⟨e1, e2⟩ := y
      subst e1
      obtain ⟨v, e3, r'⟩ := r.get e
      rw [e2] at e3
      cases e3
      exact ⟨Mv.refl, cl, r'.mv m⟩
    cases r1 with
    | tup s h r => exact fin _ _ rfl (fun T2 H2 m => .inl (.inl (m.keep _ _ s h))) r rfl
    | tupK h r => exact fin _ _ rfl (fun T2 H2 m => .inr h) r rfl
def rngD (lo : Int) (n : Nat) : List D := (List.range n).map fun i => .int (lo + (i : Nat))
theorem rngD_len {lo : Int} {n : Nat} : (rngD lo n).length = n := by simp [rngD]
theorem rngD_get {lo : Int} {n i : Nat} {d : D} (h : (rngD lo n)[i]? = some d) : i < n ∧ d = .int (lo + (i : Nat)) := by
  unfold rngD at h
  rw [List.getElem?_map] at h
  cases e : (List.range n)[i]? with
  | none => rw [e] at h; cases h
  | some j =>
    rw [e] at h
    obtain ⟨h1, h2⟩ := List.getElem?_eq_some_iff.mp e
    rw [List.getElem_range] at h2
    subst h2
    cases h
    rw [List.length_range] at h1
    exact ⟨h1, rfl⟩
theorem yl_rng {K : PySem.W.Frag} {T : Sto} {H : Hp} {lo : Int} {n : Nat} : Yl K (Itr lo n) (rngD lo n) T H := by
  refine ⟨fun _ => True, YFn fun i => .int (lo + (i : Nat)), by rw [rngD_len]; exact walk_range, fun _ _ _ => trivial, fun i d S1 T1 H1 H2 x e m cl y => ?_⟩
  obtain ⟨e1, e2⟩ := y
  subst e1 e2
  obtain ⟨_, e3⟩ := rngD_get e
  subst e3
  exact ⟨Mv.refl, cl, .int _⟩
theorem vi_rng1 {ta : TA} {W : List D → Sto → Prop} (h : VA c ta ρ S fun es S1 => ∃ j : Int, es = [.int j] ∧ (-(2 ^ 62) ≤ j ∧ j < 2 ^ 62) ∧ W (rngD 0 j.toNat) S1) : VI c (iRng1 ta) ρ S W := fun T σ H I R k =>
  h T σ H I _ fun vs es S1 T1 H1 m1 c1 r1 ⟨j, e, ⟨hl, hh⟩, q⟩ => by
    subst e
    cases r1 with
    | cons h1 t => cases t; cases h1; exact ⟨j, rfl, hl, hh, k _ _ S1 T1 H1 m1 c1 yl_rng q⟩
theorem vi_rng2 {ta : TA} {W : List D → Sto → Prop} (h : VA c ta ρ S fun es S1 => ∃ i j : Int, es = [.int i, .int j] ∧ (-(2 ^ 62) ≤ i ∧ i < 2 ^ 62 ∧ -(2 ^ 62) ≤ j ∧ j < 2 ^ 62) ∧ W (rngD i (j - i).toNat) S1) : VI c (iRng2 ta) ρ S W := fun T σ H I R k =>
  h T σ H I _ fun vs es S1 T1 H1 m1 c1 r1 ⟨i, j, e, hb, q⟩ => by
    subst e
    cases r1 with
    | cons h1 t => cases t with
      | cons h2 t => cases t; cases h1; cases h2; exact ⟨i, j, rfl, hb, k _ _ S1 T1 H1 m1 c1 yl_rng q⟩
/-- a text's signs -/
def signsD (x : Str) : List D := x.cps.toList.map fun n => .str ⟨#[n]⟩
theorem vi_str {te : TE} {W : List D → Sto → Prop} (h : VE c te ρ S fun x S1 => ∃ z, x = .str z ∧ W (signsD z) S1) : VI c (iStr te) ρ S W := fun T σ H I R k =>
  h T σ H I _ fun vx x S1 T1 H1 m1 c1 r1 ⟨z, e, q⟩ => by
    subst e
    cases r1
    refine ⟨z, rfl, k _ (signsD z) S1 T1 H1 m1 c1 ⟨fun _ => True, _, by rw [show (signsD z).length = z.cps.size by simp [signsD]]; exact walk_str, fun _ _ _ => trivial, fun i d S2 T2 H2 H3 x e m cl y => ?_⟩ q⟩
    obtain ⟨e1, n, e2, e3⟩ := y
    subst e1 e3
    unfold signsD at e
    rw [List.getElem?_map, Array.getElem?_toList, e2] at e
    cases e
    exact ⟨Mv.refl, cl, .str _⟩
def enumD (ds : List D) : List D := ds.zipIdx.map fun p => .tup [.int (p.2 : Nat), p.1]
theorem enumD_len {ds : List D} : (enumD ds).length = ds.length := by simp [enumD]
theorem enumD_get {ds : List D} {i : Nat} {d : D} (h : (enumD ds)[i]? = some d) : ∃ e, ds[i]? = some e ∧ d = .tup [.int (i : Nat), e] := by
  unfold enumD at h
  rw [List.getElem?_map, List.getElem?_zipIdx] at h
  cases e : ds[i]? with
  | none => rw [e] at h; cases h
  | some x =>
    rw [e] at h
    simp at h
    exact ⟨x, rfl, h.symm⟩
def zipD (ds es : List D) : List D := (ds.zip es).map fun p => .tup [p.1, p.2]
theorem zipD_len {ds es : List D} : (zipD ds es).length = min ds.length es.length := by simp [zipD]
theorem zipD_get {ds es : List D} {i : Nat} {d : D} (h : (zipD ds es)[i]? = some d) : ∃ a b, ds[i]? = some a ∧ es[i]? = some b ∧ d = .tup [a, b] := by
  unfold zipD at h
  rw [List.getElem?_map] at h
  cases e : (ds.zip es)[i]? with
  | none => rw [e] at h; cases h
  | some p =>
    rw [e] at h
    cases h
    obtain ⟨h1, h2⟩ := List.getElem?_zip_eq_some.mp e
    exact ⟨_, _, h1, h2, rfl⟩
theorem vi_zip {ta : TA} {W : List D → Sto → Prop} (h : VA c ta ρ S fun xs S1 => ∃ x y ds es, xs = [x, y] ∧ IsW x ds ∧ IsW y es ∧ W (zipD ds es) S1) : VI c (iZip c.K ta) ρ S W := fun T σ H I R k =>
  h T σ H I _ fun vs es S1 T1 H1 m1 c1 r1 ⟨x, y, ds, es', e, hx, hy, q⟩ => by
    subst e
    cases r1 with
    | cons h1 t => cases t with
      | cons h2 t =>
        cases t
        obtain ⟨a, xs, rfl, hq, r⟩ := hx.rd h1
        obtain ⟨b, ys, rfl, hq', r2⟩ := hy.rd h2
        refine ⟨a, b, xs, ys, rfl, hq _ _ Mv.refl, hq' _ _ Mv.refl, k _ (zipD ds es') S1 T1 H1 m1 c1 ⟨fun H => SqL c.K H a xs ∧ SqL c.K H b ys, _, walk_zip (by rw [zipD_len, r.length, r2.length]), fun T2 H2 m => ⟨hq T2 H2 m, hq' T2 H2 m⟩, fun i d S2 T2 H2 H3 y e m cl yy => ?_⟩ q⟩
        obtain ⟨T, u, w, e1, hT, e2, e3, e4⟩ := yy
        obtain ⟨p, p', e5, e6, e7⟩ := zipD_get e
        subst e1 e2 e7
        obtain ⟨v, e8, q1⟩ := r.get e5
        obtain ⟨v', e9, q2⟩ := r2.get e6
        have e3' : xs[i]? = some u := e3
        have e4' : ys[i]? = some w := e4
        rw [e3'] at e8
        rw [e4'] at e9
        cases e8
        cases e9
        exact ⟨mv_new hT, cl.new hT, .tup (cl.free hT) upd_same (.cons ((q1.mv m).mv (mv_new hT)) (.cons ((q2.mv m).mv (mv_new hT)) .nil))⟩
/-! ### for -/
theorem vx_for {wi : TI} {g : TG} {tb : TS} {nx bk ct : Rho → Sto → Prop} {rt : D → Sto → Prop}
    (h : VI c wi ρ S fun ds S1 => ∃ W : Nat → Rho → Sto → Prop, W 0 ρ S1 ∧ (∀ (i : Nat) (d : D) ρ2 S2, ds[i]? = some d → W i ρ2 S2 → VG c g d ρ2 S2 fun ρ3 S3 => VX c tb ρ3 S3 ⟨W (i + 1), rt, nx, W (i + 1)⟩) ∧ (∀ ρ2 S2, W ds.length ρ2 S2 → nx ρ2 S2)) :
    VX c (tFor wi g tb) ρ S ⟨nx, rt, bk, ct⟩ := fun T σ H I D b =>
  h T σ H I _ fun J ds S1 T1 H1 m1 c1 ⟨G, Y, w, hG, hY⟩ ⟨W, h0, hs, hd⟩ => by
    refine for_it w (fun i σ' H' => ∃ ρ2 S2 T2, Mv T1 H1 T2 H' ∧ In c σ' H' ρ2 S2 T2 ∧ W i ρ2 S2) ⟨ρ, S1, T1, Mv.refl, I.mv m1 c1, h0⟩ (fun i σ' H' _ ⟨ρ2, S2, T2, m, _, _⟩ => hG T2 H' m) ?_ ?_
    · rintro i x σ' H' H'' hi ⟨ρ2, S2, T2, m, I2, hw⟩ y
      obtain ⟨d, e⟩ : ∃ d, ds[i]? = some d := ⟨ds[i], List.getElem?_eq_getElem hi⟩
      obtain ⟨m3, c3, r3⟩ := hY i d S2 T2 H' H'' x e m I2.cells y
      refine hs i d ρ2 S2 e hw T2 x σ' H'' (I2.mv m3 c3) r3 _ fun σ3 ρ3 S3 T3 H3 m4 I3 q => ?_
      have mm := m.trans (m3.trans m4)
      have mb := m1.trans mm
      exact q T3 σ3 H3 I3 _ ⟨fun σ4 ρ4 S4 T4 H4 m5 I4 q4 => ⟨ρ4, S4, T4, mm.trans m5, I4, q4⟩, fun v d S4 T4 H4 m5 => b.rt v d S4 T4 H4 (mb.trans m5), fun σ4 ρ4 S4 T4 H4 m5 => b.nx σ4 ρ4 S4 T4 H4 (mb.trans m5), fun σ4 ρ4 S4 T4 H4 m5 I4 q4 => ⟨ρ4, S4, T4, mm.trans m5, I4, q4⟩⟩
    · rintro σ' H' ⟨ρ2, S2, T2, m, I2, hw⟩
      exact b.nx σ' ρ2 S2 T2 H' (m1.trans m) I2 (hd ρ2 S2 hw)
theorem vx_while {tc : TT} {tb : TS} {nx bk ct : Rho → Sto → Prop} {rt : D → Sto → Prop} (W : Nat → Rho → Sto → Prop) (m0 : Nat) (h0 : W m0 ρ S)
    (hs : ∀ m ρ2 S2, W m ρ2 S2 → VT c tc ρ2 S2 fun b S3 => (b = true → VX c tb ρ2 S3 ⟨fun ρ4 S4 => ∃ m', m' < m ∧ W m' ρ4 S4, rt, nx, fun ρ4 S4 => ∃ m', m' < m ∧ W m' ρ4 S4⟩) ∧ (b = false → nx ρ2 S3)) :
    VX c (tWhile tc tb) ρ S ⟨nx, rt, bk, ct⟩ := fun T σ H I D b => by
  refine ⟨fun m σ' H' => ∃ ρ2 S2 T2, Mv T H T2 H' ∧ In c σ' H' ρ2 S2 T2 ∧ W m ρ2 S2, ⟨m0, ρ, S, T, Mv.refl, I, h0⟩, fun m σ' H' ⟨ρ2, S2, T2, mm, I2, hw⟩ => ?_⟩
  refine hs m ρ2 S2 hw T2 σ' H' I2 _ fun k S3 T3 H3 m3 c3 ⟨h1, h2⟩ => ?_
  cases k with
  | true =>
    refine iteT ⟨fun σ4 H4 => ∃ ρ4 S4 T4, Mv T H T4 H4 ∧ In c σ4 H4 ρ4 S4 T4 ∧ ∃ m', m' < m ∧ W m' ρ4 S4, fun σ4 H4 ⟨ρ4, S4, T4, a, I4, m', l, w⟩ => ⟨m', l, ρ4, S4, T4, a, I4, w⟩, ?_⟩
    have mb := mm.trans m3
    exact h1 rfl T3 σ' H3 (I2.mv m3 c3) _ ⟨fun σ4 ρ4 S4 T4 H4 m5 I4 q4 => ⟨ρ4, S4, T4, mb.trans m5, I4, q4⟩, fun v d S4 T4 H4 m5 => b.rt v d S4 T4 H4 (mb.trans m5), fun σ4 ρ4 S4 T4 H4 m5 => b.nx σ4 ρ4 S4 T4 H4 (mb.trans m5), fun σ4 ρ4 S4 T4 H4 m5 I4 q4 => ⟨ρ4, S4, T4, mb.trans m5, I4, q4⟩⟩
  | false => exact iteF (b.nx σ' ρ2 S3 T3 H3 (mm.trans m3) (I2.mv m3 c3) (h2 rfl))
/-! ### comprehensions -/
def wipeR (ρ : Rho) : List Nat → Rho
  | [] => ρ
  | v :: vs => (wipeR ρ vs).set v none
theorem In.wipe {T : Sto} {σ : St} {H : Hp} (I : In c σ H ρ S T) : ∀ vs : List Nat, In c (L2.wipe σ vs) H (wipeR ρ vs) S T
  | [] => I
  | v :: vs => by
    have J := In.wipe I vs
    refine ⟨J.cells, fun j e q => ?_, by simp [L2.wipe, wipeR, J.len], J.exc⟩
    unfold wipeR at q
    by_cases z : v = j
    · subst z
      by_cases hv : v < (wipeR ρ vs).length
      · rw [List.getElem?_set_self hv] at q; cases q
      · rw [List.getElem?_eq_none (by simpa using hv)] at q; cases q
    · rw [List.getElem?_set_ne z] at q
      obtain ⟨u, h1, h2⟩ := J.slots j e q
      exact ⟨u, by unfold L2.wipe; rw [List.getElem?_set_ne z]; exact h1, h2⟩
theorem wipe_set_out {σ : St} {i : Nat} {x : Option V} : ∀ us : List Nat, i ∉ us → L2.wipe (σ.set i x) us = (L2.wipe σ us).set i x
  | [], _ => rfl
  | u :: us, hu => by
    simp only [List.mem_cons, not_or] at hu
    unfold L2.wipe
    rw [wipe_set_out us hu.2, List.set_comm _ _ hu.1]
theorem wipe_set {σ : St} {i : Nat} {x : Option V} : ∀ {vs : List Nat}, i ∈ vs → L2.wipe (σ.set i x) vs = L2.wipe σ vs
  | v :: vs, h => by
    unfold L2.wipe
    by_cases hm : i ∈ vs
    · rw [wipe_set hm]
    · have z : i = v := by
        rcases List.mem_cons.mp h with q | q
        · exact q
        · exact absurd q hm
      subst z
      rw [wipe_set_out vs hm, List.set_set]
theorem wipe_wipe {σ : St} (vs : List Nat) : ∀ us : List Nat, (∀ v ∈ us, v ∈ vs) → L2.wipe (L2.wipe σ us) vs = L2.wipe σ vs
  | [], _ => rfl
  | u :: us, h => by
    show L2.wipe ((L2.wipe σ us).set u none) vs = _
    rw [wipe_set (h u List.mem_cons_self), wipe_wipe vs us fun v hv => h v (List.mem_cons_of_mem _ hv)]
/-- the targets of a comprehension: they store its own names alone -/
def VGw (c : Ctx) (vs : List Nat) (g : TG) (d : D) (ρ : Rho) (S : Sto) (F : Rho → Sto → Prop) : Prop := ∀ T v σ H, In c σ H ρ S T → Rep c.K H T v d → ∀ Q : St → Hp → Prop,
  (∀ σ' ρ' S' T' H', L2.wipe σ' vs = L2.wipe σ vs → Mv T H T' H' → In c σ' H' ρ' S' T' → F ρ' S' → Q σ' H') → g v σ H Q
theorem vgw_name {vs : List Nat} {i : Nat} {F : Rho → Sto → Prop} (hi : i ∈ vs) (q : F (ρ.set i (some d)) S) : VGw c vs (gName i) d ρ S F := fun T v σ H I r Q k => k _ _ S T H (wipe_set hi) Mv.refl (I.set i r) q
def VGws (c : Ctx) (vs : List Nat) (g : TGs) (ds : List D) (ρ : Rho) (S : Sto) (F : Rho → Sto → Prop) : Prop := ∀ T us σ H, In c σ H ρ S T → RepL c.K H T us ds → ∀ Q : St → Hp → Prop,
  (∀ σ' ρ' S' T' H', L2.wipe σ' vs = L2.wipe σ vs → Mv T H T' H' → In c σ' H' ρ' S' T' → F ρ' S' → Q σ' H') → g us σ H Q
theorem vgws_nil {vs : List Nat} {F : Rho → Sto → Prop} (q : F ρ S) : VGws c vs gNil [] ρ S F := fun T us σ H I r Q k => by
  cases r; exact ⟨rfl, k σ ρ S T H rfl Mv.refl I q⟩
theorem vgws_cons {vs : List Nat} {g : TG} {gs : TGs} {ds : List D} {F : Rho → Sto → Prop} (h : VGw c vs g d ρ S fun ρ1 S1 => VGws c vs gs ds ρ1 S1 F) : VGws c vs (gCons g gs) (d :: ds) ρ S F := fun T us σ H I r Q k => by
  cases r with
  | cons h1 t => exact ⟨_, _, rfl, h T _ σ H I h1 _ fun σ1 ρ1 S1 T1 H1 e1 m1 I1 q => q T1 _ σ1 H1 I1 (t.mv m1) Q fun σ2 ρ2 S2 T2 H2 e2 m2 => k σ2 ρ2 S2 T2 H2 (e2.trans e1) (m1.trans m2)⟩
theorem vgw_tup {vs : List Nat} {n : Nat} {gs : TGs} {ds : List D} {F : Rho → Sto → Prop} (hn : ds.length = n) (h : VGws c vs gs ds ρ S F) : VGw c vs (gTup c.K n gs) (.tup ds) ρ S F := fun T v σ H I r Q k => by
  obtain ⟨a, xs, rfl, s, r⟩ := r.seqT
  exact ⟨a, xs, rfl, s, by rw [r.length]; exact hn, h T xs σ H I r Q k⟩
/-- the heart -/
theorem lc_heart {wi : TI} {g : TG} {tt : TT} {te : TE} {vs : List Nat} {R : List D → Sto → Prop}
    (h : VI c wi ρ S fun ds S1 => ds.length ≤ 100000 ∧ ∃ W : Nat → List D → Sto → Prop, W 0 [] S1 ∧ (∀ (i : Nat) (d : D) acc S2, ds[i]? = some d → W i acc S2 → acc.length ≤ i → VGw c vs g d (wipeR ρ vs) S2 fun ρ3 S3 => VT c tt ρ3 S3 fun b S4 => (b = true → VE c te ρ3 S4 fun y S5 => W (i + 1) (acc ++ [y]) S5) ∧ (b = false → W (i + 1) acc S4)) ∧
      (∀ acc S2, W ds.length acc S2 → acc.length ≤ ds.length → R acc S2)) {T : Sto} {σ : St} {H : Hp} (I : In c σ H ρ S T) {Q : VK}
    (k : ∀ p xs acc S' T' H' T1 H1, Mv T H T1 H1 → Mv T1 H1 T' H' → Cells c.K H' S' T' → T' p = some .hid → H1 p = none → H' p = some (.lst xs) → RepL c.K H' T' xs acc → R acc S' → Q (.ref p) H') : tLc wi g tt te vs σ H Q :=
  h T σ H I _ fun J ds S1 T1 H1 m1 c1 ⟨G, Y, w, hG, hY⟩ ⟨hl, W, h0, hs, hd⟩ => fun p hp => by
    refine lc_it w (fun i H' => ∃ S2 T2 xs acc, Mv T1 H1 T2 H' ∧ Cells c.K H' S2 T2 ∧ T2 p = some .hid ∧ H' p = some (.lst xs) ∧ RepL c.K H' T2 xs acc ∧ acc.length ≤ i ∧ W i acc S2)
      ⟨S1, put T1 p .hid, [], [], mv_newc hp, c1.newh hp, put_same, upd_same, .nil, Nat.le_refl _, h0⟩ (fun i H' _ ⟨S2, T2, _, _, m, _⟩ => hG T2 H' m) ?_ ?_
    · rintro i x H' H'' hi ⟨S2, T2, xs, acc, m, c2, s2, hx, r2, hle, hw⟩ y
      obtain ⟨d, e⟩ : ∃ d, ds[i]? = some d := ⟨ds[i], List.getElem?_eq_getElem hi⟩
      obtain ⟨m3, c3, r3⟩ := hY i d S2 T2 H' H'' x e m c2 y
      have I2 : In c σ H'' ρ S2 T2 := I.mv (m1.trans (m.trans m3)) c3
      refine hs i d acc S2 e hw hle T2 x (L2.wipe σ vs) H'' (I2.wipe vs) r3 _ fun σ3 ρ3 S3 T3 H3 ew m4 I3 q => ⟨ew.trans (wipe_wipe vs vs fun _ h => h), ?_⟩
      refine q T3 σ3 H3 I3 _ fun b S4 T4 H4 m5 c4 ⟨q1, q2⟩ => ?_
      have mm := m3.trans (m4.trans m5)
      cases b with
      | true =>
        refine iteT (q1 rfl T4 σ3 H4 (I3.mv m5 c4) _ fun v y S5 T5 H5 m6 c5 r5 q5 => ?_)
        have m7 := mm.trans m6
        obtain ⟨hx5, s5⟩ := m7.hid _ _ s2 hx
        refine ⟨xs, hx5, ?_, S5, T5, xs ++ [v], acc ++ [y], (m.trans m7).hidw hp, c5.hidw s5, s5, upd_same, ((r2.mv m7).append (.cons r5 .nil)).mk (mk_hid s5), ?_, q5⟩
        · rw [r2.length]
          exact Nat.lt_of_lt_of_le (show acc.length < 100001 by omega) (by decide)
        · rw [List.length_append, List.length_singleton]
          omega
      | false =>
        obtain ⟨hx5, s5⟩ := mm.hid _ _ s2 hx
        exact iteF ⟨S4, T4, xs, acc, m.trans mm, c4, s5, hx5, r2.mv mm, by omega, q2 rfl⟩
    · rintro H' ⟨S2, T2, xs, acc, m, c2, s2, hx, r2, hle, hw⟩
      exact k p xs acc S2 T2 H' T1 H1 m1 m c2 s2 hp hx r2 (hd acc S2 hw hle)
theorem Mv.unhid {S S' : Sto} {H H' : Hp} {p : Addr} (m : Mv S H S' H') (h : H p = none) : Mv S H (del S' p) H' where
  keep := m.keep
  fresh := fun a s e => by
    unfold del
    split
    · rfl
    · exact m.fresh a s e
  hid := fun a o s e => by
    obtain ⟨e1, e2⟩ := m.hid a o s e
    refine ⟨e1, ?_⟩
    rw [del_ne (ne_of_none e h)]
    exact e2
theorem Mv.show {S S' : Sto} {H H' : Hp} {p : Addr} {d : D} (m : Mv S H S' H') (h : H p = none) : Mv S H (put S' p d) H' where
  keep := m.keep
  fresh := fun a s e => by
    rw [put_ne]
    · exact m.fresh a s e
    · intro z; subst z; exact e h
  hid := fun a o s e => by
    obtain ⟨e1, e2⟩ := m.hid a o s e
    refine ⟨e1, ?_⟩
    rw [put_ne (ne_of_none e h)]
    exact e2
theorem Cells.show {K : PySem.W.Frag} {S T : Sto} {H : Hp} {p : Addr} {xs : List V} {ds : List D} (cl : Cells K H S T) (s : T p = some .hid) (hx : H p = some (.lst xs)) (r : RepL K H T xs ds) : Cells K H (put S p (.lst ds)) (put T p (.lst ds)) := by
  have m : Mk T H (put T p (.lst ds)) H := by
    refine ⟨fun _ _ _ h => h, fun a q _ => ?_⟩
    rw [put_ne]
    · exact q
    · intro z; subst z; rw [s] at q; cases q
  refine ⟨ov_put cl.ov (by nofun), fun a e q => ?_⟩
  by_cases z : a = p
  · subst z; rw [put_same] at q; cases q; exact cell_l hx (r.mk m)
  · rw [put_ne z] at q
    exact CellOk.mk m rfl (cl.ok a e q)
/-- [e for x in xs if t], by value -/
theorem ve_lc {wi : TI} {g : TG} {tt : TT} {te : TE} {vs : List Nat}
    (h : VI c wi ρ S fun ds S1 => ds.length ≤ 100000 ∧ ∃ W : Nat → List D → Sto → Prop, W 0 [] S1 ∧ (∀ (i : Nat) (d : D) acc S2, ds[i]? = some d → W i acc S2 → acc.length ≤ i → VGw c vs g d (wipeR ρ vs) S2 fun ρ3 S3 => VT c tt ρ3 S3 fun b S4 => (b = true → VE c te ρ3 S4 fun y S5 => W (i + 1) (acc ++ [y]) S5) ∧ (b = false → W (i + 1) acc S4)) ∧
      (∀ acc S2, W ds.length acc S2 → acc.length ≤ ds.length → F (.lst acc) S2)) : VE c (tLc wi g tt te vs) ρ S F := fun T σ H I Q k =>
  lc_heart (R := fun acc S2 => F (.lst acc) S2) h I fun p xs acc S' T' H' T1 H1 m1 m cl s n hx r q => by
    exact k _ (.lst acc) S' (del T' p) H' (m1.trans (m.unhid n)) (cl.unhid s) (.lst del_same hx (r.mk (mk_show s))) q
/-- .. by reference -/
theorem ve_lcc {wi : TI} {g : TG} {tt : TT} {te : TE} {vs : List Nat}
    (h : VI c wi ρ S fun ds S1 => ds.length ≤ 100000 ∧ ∃ W : Nat → List D → Sto → Prop, W 0 [] S1 ∧ (∀ (i : Nat) (d : D) acc S2, ds[i]? = some d → W i acc S2 → acc.length ≤ i → VGw c vs g d (wipeR ρ vs) S2 fun ρ3 S3 => VT c tt ρ3 S3 fun b S4 => (b = true → VE c te ρ3 S4 fun y S5 => W (i + 1) (acc ++ [y]) S5) ∧ (b = false → W (i + 1) acc S4)) ∧
      (∀ acc S2, W ds.length acc S2 → acc.length ≤ ds.length → ∀ p, S2 p = none → F (.ref p) (put S2 p (.lst acc)))) : VE c (tLc wi g tt te vs) ρ S F := fun T σ H I Q k =>
  lc_heart (R := fun acc S2 => ∀ p, S2 p = none → F (.ref p) (put S2 p (.lst acc))) h I fun p xs acc S' T' H' T1 H1 m1 m cl s n hx r q => by
    have sp : S' p = none := by
      rcases cl.ov p with ⟨_, e⟩ | ⟨e, _⟩
      · exact absurd s e
      · exact e
    exact k _ _ _ (put T' p (.lst acc)) H' (m1.trans (m.show n)) (cl.show s hx r) (.ref p) (q p sp)
end
end VS
namespace VS
open PySem L2 C8 PySem.Spec PyProof.Rows
/-! ### a def's promise where nothing is being shown around (repr asks that) -/
structure FnG (P : Program) (w : World) (K : PySem.W.Frag) (mg : Str → Option Value) (base : Heap) (CX : CXT) (k : Nat) (f : Addr) (fd : FuncData) (ps : List Str) (sp : Sp) : Prop where
  len : ∀ vs H Q E, sp vs H Q E → vs.length = ps.length
  run : ∀ (A : Around), A.guards = some [] → ∀ (outer : List Env) (s : Shared) (H : Hp) (args : Args) (us : List Value) (vs : List V) (Q : VK) (E : XK), Room k A →
    Env0 P w K mg base A outer s H → BindsTo s fd args (ps.zip us) → Vals vs us → sp vs H Q E → codeAny (model P w) A (.call (.ref f) args) (CR CX outer P w H s Q E) s
abbrev Fd (K : PySem.W.Frag) (x qual : Str) (st : Stmt) (dvs : List V) (f : Addr) (fd : FuncData) : Prop := FunD K x qual (defArgs st) (defBody st) (defScope st) dvs [] f fd
/-- what a callee lets out is taken, at the slots as they are -/
def PassS (CX : CXT) (X : Cx) (E : L2.St → XK) : Prop := ∀ (pins : List (Addr × Obj)) (σ : L2.St) (H : Hp) (s : Shared) (e : Value) (s' : Shared), Inv X pins σ H s → CX X.stack H s (E σ) e s' → X.xe e s'
theorem passS_of {X : Cx} {W : WX} (tk : Takes X W) : PassS (L2.CX X.prog X.w) X (fun σ cls d H => W cls d σ H) := fun _ σ _ _ e s' I c => tk e s' (XE.of_call I (fun _ _ _ h => h) c)
/-- nothing is let out -/
def noE : L2.St → XK := fun _ _ _ _ => False
theorem pass0 {X : Cx} : PassS (L2.CX X.prog X.w) X noE := fun _ _ _ _ _ _ _ h => by
  obtain ⟨_, _, _, _, _, _, _, _, _, _, _, _, z⟩ := h
  exact z.elim
section
variable {P : Program} {w : World} {K : PySem.W.Frag} {mg : Str → Option Value} {base : Heap} {CX : CXT}
/-- a def by its body -/
theorem fnG_of {x qual : Str} {st : Stmt} {dvs : List V} {f : Addr} {fd : FuncData} {N ps : List Str} {k : Nat} {sp : Sp} (F : Fd K x qual st dvs f fd) (Sc : FnScope N ps (defScope st)) (len : ∀ vs H Q E, sp vs H Q E → vs.length = ps.length)
    (body : ∀ (cdv : Value) (A : Around), A.guards = some [] → ∀ (outer : List Env) (s : Shared) (H : Hp) (vs : List V) (Q : VK) (E : XK), Room k (A.deeper (envOfC qual (defScope st) s.heap.objs.size f cdv)) → sp vs H Q E →
      ∃ t, PSs (cxOf CX P w K mg base N qual (defScope st) f cdv A outer s H E) (defBody st) t ∧ t ⟨fun _ H' => Q .non H', Q, fun _ _ => False, fun _ _ => False⟩ (L2.start N vs) H) : FnG P w K mg base CX (k + 1) f fd ps sp := by
  obtain ⟨oc, od, dV, kV, doc, pm, an, cdv, ct, osl, rfl, lk, hcd, _, _⟩ := F.ex
  refine ⟨len, fun A hgd outer s H args us vs Q E room en hb rv hsp => ?_⟩
  have heap_in : K.In s.heap := en.mod.kin.keeps fun b o e => (en.bs b o e).1
  have nolim : s.heap.NoLimit := en.mod.nolimit.keeps fun b o e => (en.bs b o e).1
  refine codeAny_call_function room.depth (heap_in _ _ lk) rfl Sc.co Sc.gen rfl (PySem.W.codeRec_of heap_in hcd) (hb _ _ _ _ ?_)
  have kinds : ∀ y ∈ ps.zip us, (defScope st).names.lookup y.1 = some .local ∨ ((defScope st).names.lookup y.1 = some .cell ∧ ((cellsFrom (s.heap.objs.size + 1) (defScope st).names []).lookup y.1).isSome = true) := by
    rintro ⟨n, v⟩ hy
    cases Sc.par n (List.of_mem_zip hy).1 with
    | inl q => exact .inl q
    | inr q => exact .inr ⟨q, PySem.W.cellsFrom_some _ _ _ (.inl q)⟩
  refine wpAny_newFunctionEnv_cells Sc.kind kinds fun env he s1 inc => ?_
  subst he
  obtain ⟨t, ht, hq⟩ := body cdv A hgd outer s H vs Q E (room.deeper _) hsp
  refine ⟨nolim.keeps inc.toInCall.keep, codeAny_func (wpAny_mono (ht.run [] s1 (L2.start N vs) H _ (inv_start Sc room.hd en (len _ _ _ _ hsp) rv inc) hq) (fun fl s2 hs => ?_) fun _ _ q => q)⟩
  cases fl with
  | next => obtain ⟨σ2, H2, J, q⟩ := hs; exact ⟨.non, H2, J.os, J.bare, J.base, J.hok, rfl, q⟩
  | ret u => obtain ⟨v, σ2, H2, J, r2, q⟩ := hs; exact ⟨v, H2, J.os, J.bare, J.base, J.hok, r2, q⟩
  | brk => obtain ⟨_, _, _, q⟩ := hs; exact q.elim
  | cont => obtain ⟨_, _, _, q⟩ := hs; exact q.elim
/-- .. by value -/
def startR (N : List Str) (ds : List D) : Rho := ds.map some ++ List.replicate (N.length - ds.length) none
theorem in_start {c : Ctx} {N : List Str} {vs : List V} {ds : List D} {S T : Sto} {H : Hp} (cl : Cells c.K H S T) (r : RepL c.K H T vs ds)
    (ex : ∀ (σ' : L2.St) (ρ' : Rho) (C : Addr) (d : Option Addr) (fs : List (Str × D)) (S' T' : Sto) (H' : Hp), Mv T H T' H' → Cells c.K H' S' T' → Sl c.K H' T' σ' ρ' → XRep c.K H' T' d fs → c.Y C fs ρ' S' → c.E σ' (.ref C) d H') : In c (L2.start N vs) H (startR N ds) S T := by
  refine ⟨cl, fun i d e => ?_, by simp [L2.start, startR, r.length], ex⟩
  unfold startR at e
  by_cases hi : i < ds.length
  · rw [List.getElem?_append_left (by simpa using hi), List.getElem?_map] at e
    cases q : ds[i]? with
    | none => rw [q] at e; cases e
    | some d' =>
      rw [q] at e
      cases e
      obtain ⟨v, h1, h2⟩ := r.get q
      refine ⟨v, ?_, h2⟩
      unfold L2.start
      rw [List.getElem?_append_left (by rw [List.length_map, r.length]; exact hi), List.getElem?_map, h1] <;> rfl
  · rw [List.getElem?_append_right (by simpa using Nat.le_of_not_lt hi), List.getElem?_replicate] at e
    split at e <;> cases e
theorem fn_val {x qual : Str} {st : Stmt} {dvs : List V} {f : Addr} {fd : FuncData} {N ps : List Str} {k : Nat} {p : Pt} (F : Fd K x qual st dvs f fd) (Sc : FnScope N ps (defScope st)) (len : ∀ ds S G Y, p ds S G Y → ds.length = ps.length)
    (body : ∀ (cdv : Value) (A : Around), A.guards = some [] → ∀ (outer : List Env) (s : Shared) (H : Hp) (E : XK), Room k (A.deeper (envOfC qual (defScope st) s.heap.objs.size f cdv)) →
      PassS (L2.CX P w) (cxOf (L2.CX P w) P w K mg base N qual (defScope st) f cdv A outer s H E) (fun _ => E) → Takes (cxOf (L2.CX P w) P w K mg base N qual (defScope st) f cdv A outer s H E) (fun cls d _ H' => E cls d H') →
      PassesOwn (model P w) (A.deeper (envOfC qual (defScope st) s.heap.objs.size f cdv)) (envOfC qual (defScope st) s.heap.objs.size f cdv) (cxOf (L2.CX P w) P w K mg base N qual (defScope st) f cdv A outer s H E).xe → ∀ ds S G Y, p ds S G Y →
      ∃ t, PSs (cxOf (L2.CX P w) P w K mg base N qual (defScope st) f cdv A outer s H E) (defBody st) t ∧ VX ⟨K, fun _ => E, fun C fs _ S' => Y C fs S'⟩ t (startR N ds) S ⟨fun _ S' => G .non S', G, fun _ _ => False, fun _ _ => False⟩) : FnG P w K mg base (L2.CX P w) (k + 1) f fd ps (spOf K p) := by
  refine fnG_of F Sc (fun vs H Q E h => ?_) fun cdv A hgd outer s H vs Q E room h => ?_
  · obtain ⟨ds, S, T, G, Y, r, _, hp, _⟩ := h
    rw [r.length]
    exact len _ _ _ _ hp
  · obtain ⟨ds, S, T, G, Y, r, cl, hp, hv, hx⟩ := h
    have tk : Takes (cxOf (L2.CX P w) P w K mg base N qual (defScope st) f cdv A outer s H E) (fun cls d _ H' => E cls d H') := takes_of rfl rfl rfl rfl
    obtain ⟨t, h1, h2⟩ := body cdv A hgd outer s H E room (passS_of tk) tk PassesOwn.leaving ds S G Y hp
    refine ⟨t, h1, h2 T _ H (in_start (c := ⟨K, fun _ => E, fun C fs _ S' => Y C fs S'⟩) cl r (fun _ _ C d fs S' T' H' m c2 _ x y => hx C d fs S' T' H' m c2 x y)) _ ⟨fun σ' ρ' S' T' H' m I' q => ?_, fun v d S' T' H' m c2 r2 q => hv v d S' T' H' m c2 r2 q, fun _ _ _ _ _ _ _ q => q.elim, fun _ _ _ _ _ _ _ q => q.elim⟩⟩
    exact hv .non .non S' T' H' m I'.cells .non q
end
/-! ### calls -/
def tCallE (sp : Sp) (dvs : List V) (E : L2.St → XK) (t : TA) : TE := fun σ H Q => t σ H fun vs H1 => sp (vs ++ dvs) H1 Q (E σ)
def tMethE (C : Addr) (m : Str) (sp : Sp) (dvs : List V) (E : L2.St → XK) (ta : TE) (t : TA) : TE := fun σ H Q => ta σ H fun y H1 => ∃ a dx fs, y = .ref a ∧ H1 a = some (.ins C dx fs) ∧ fs.lookup m = none ∧ t σ H1 fun vs H2 => sp (y :: (vs ++ dvs)) H2 Q (E σ)
def tMakeE (C : Addr) (sp : Sp) (dvs : List V) (E : L2.St → XK) (t : TA) : TE := fun σ H Q => t σ H fun vs H1 => ∀ y dx, H1 y = none → H1 dx = none → dx ≠ y →
  sp (.ref y :: (vs ++ dvs)) (upd (upd H1 dx (.own y)) y (.ins C dx [])) (fun v H2 => v = .non ∧ Q (.ref y) H2) (E σ)
section
variable {X : Cx} {CX : CXT} {k n : Nat} {f C : Addr} {fd : FuncData} {ps ks : List Str} {sp : Sp} {dvs : List V} {ds : List Value} {E : L2.St → XK} {x m : Str} {p pos apos : Pos} {e o : Expr} {es : List Expr} {kws : List Keyword} {ta : TE} {t tk : TA} {g : List Value → List Value → List Value} {gV : List V → List V → List V}
theorem call_end {pins : List (Addr × Obj)} {σ : L2.St} {H : Hp} {s s' : Shared} {Q : VK} {r : Result} (hx : PassS CX X E) (I : Inv X pins σ H s) (h : CR CX X.stack X.prog X.w H s Q (E σ) r s') :
    (match r with | .ok (.ret u) => EP X pins σ Q u s' | .ok _ => False | .error e => X.xe e s') := by
  cases r with
  | error e => exact hx pins σ H s e s' I h
  | ok fl =>
    cases fl with
    | ret u => exact I.after h
    | next => exact h
    | brk => exact h
    | cont => exact h
/-- the callee runs: us the values as handed, vs the values as bound -/
theorem callG {pins : List (Addr × Obj)} {σ : L2.St} {H : Hp} {s : Shared} {Q : VK} {us bs : List Value} {kw : List (Str × Value)} {vs : List V} (F : FnG X.prog X.w X.K X.mg X.base CX k f fd ps sp) (hgd : X.A.guards = some []) (hr : Room k X.A)
    (hb : BindsTo s fd ⟨us, kw⟩ (ps.zip bs)) (hx : PassS CX X E) (I : Inv X pins σ H s) (r : Vals vs bs) (h : sp vs H Q (E σ)) : wpAny (model X.prog X.w) X.A (call (.ref f) us kw) (EP X pins σ Q) X.xe s :=
  wpAny_call (codeAny_mono (F.run X.A hgd X.stack s H ⟨us, kw⟩ bs vs Q (E σ) hr I.env0 hb r h) fun r s' q => by
    have z := call_end hx I q
    cases r with
    | error e => exact z
    | ok fl => cases fl <;> exact z)
theorem bindsAt {fd : FuncData} {K : PySem.W.Frag} {s : Shared} {us : List Value} {vs : List V} (hb : Binds K fd ps ds) (hd : Vals dvs ds) (X : K.In s.heap) (r : Vals vs us) (hl : (vs ++ dvs).length = ps.length) : BindsTo s fd ⟨us, []⟩ (ps.zip (us ++ ds)) :=
  hb s us X ((r.append hd).length.symm.trans hl)
/-- f(e, ..) -/
theorem pe_cG (F : FnG X.prog X.w X.K X.mg X.base CX k f fd ps sp) (hgd : X.A.guards = some []) (hr : Room k X.A) (hg : Gl X x) (hm : X.mg x = some (.ref f)) (hk : PySem.W.keepIn X.K (.ref f) = true) (hb : Binds X.K fd ps ds) (hd : Vals dvs ds) (hx : PassS CX X E)
    (ha : PA X (e :: es) t) (hdb : (x == ("__debug__" : Str)) = false := by decide) (he : starEach (e :: es) X.env = (false, eval e X.env) :: starEach es X.env := by rfl) (hpl : (backTo pos (starEach es X.env)).any (·.1) = false := by rfl) :
    PE X (.Call (.Name x p) (e :: es) [] pos) (tCallE sp dvs E t) where
  run := fun pins s σ H Q I h => wpAny_Call_Name_kw (ld_glob I hg hm (PySem.W.callWith_K (h₀ := X.base) I.ok.mod.kin hk (thn (ha.run pos pins s σ H _ I h) fun us s1 ⟨vs, H1, I1, r, q⟩ =>
    ⟨I1.kIn, callG F hgd hr (bindsAt hb hd I1.kIn r (F.len _ _ _ _ q)) hx I1 (r.append hd) q⟩) he hpl) hdb)
theorem pe_cG0 (F : FnG X.prog X.w X.K X.mg X.base CX k f fd ps sp) (hgd : X.A.guards = some []) (hr : Room k X.A) (hg : Gl X x) (hm : X.mg x = some (.ref f)) (hk : PySem.W.keepIn X.K (.ref f) = true) (hb : Binds X.K fd ps ds) (hd : Vals dvs ds) (hx : PassS CX X E)
    (hdb : (x == ("__debug__" : Str)) = false := by decide) : PE X (.Call (.Name x p) [] [] pos) (tCallE sp dvs E tNil) where
  run := fun pins s σ H Q I h => wpAny_Call_Name_kw (ld_glob I hg hm (PySem.W.callWith_K0 I.kIn hk (callG F hgd hr (bindsAt (vs := []) (us := []) hb hd I.kIn .nil (F.len _ _ _ _ h)) hx I hd h)) hdb)
/-- o.m(e, ..) -/
theorem pe_mG {pl : Sem Bool} (he : PE X o ta) (c : Cls X.K C) (hm : Meth X.K C m f) (F : FnG X.prog X.w X.K X.mg X.base CX k f fd ps sp) (hgd : X.A.guards = some []) (hr : Room k X.A) (hb : Binds X.K fd ps ds) (hd : Vals dvs ds) (hx : PassS CX X E) (ha : PA X (e :: es) t)
    (hst : starEach (e :: es) X.env = (false, eval e X.env) :: starEach es X.env := by rfl) (hpl : (backTo pos (starEach es X.env)).any (·.1) = false := by rfl)
    (ht : eval (.Call (.Attribute o m apos) (e :: es) [] pos) X.env = (do
      let recv ← eval o X.env
      standAt apos.atName
      let (fn, ahead) ← holding [recv] (getMethod recv m pl)
      callWith pos fn ahead (backTo pos (starEach (e :: es) X.env)) (backToKw pos (keywordEach [] X.env))) := by rfl) :
    PE X (.Call (.Attribute o m apos) (e :: es) [] pos) (tMethE C m sp dvs E ta t) where
  run := fun pins s σ H Q I h => by
    refine PySem.W.methodCall_KW (pl := pl) (thn (he.run pins s σ H _ I h) fun u s1 ⟨y, H1, I1, ry, a, dx, fs, ey, ea, l, q⟩ => ?_) ht
    subst ey
    cases ry
    refine getmeth_ok I1 ea c hm l (PySem.W.callWith_K (first := [.ref a]) (h₀ := X.base) I.ok.mod.kin hm.kp (thn (ha.run pos pins s1 σ H1 _ I1 q) fun us s2 ⟨vs, H2, I2, r, q2⟩ => ⟨I2.kIn, ?_⟩) hst hpl)
    exact callG F hgd hr (bindsAt (vs := .ref a :: vs) (us := .ref a :: us) hb hd I2.kIn (.cons rfl r) (F.len _ _ _ _ q2)) hx I2 (vs := .ref a :: (vs ++ dvs)) (.cons rfl (r.append hd)) q2
theorem pe_mG0 {pl : Sem Bool} (he : PE X o ta) (c : Cls X.K C) (hm : Meth X.K C m f) (F : FnG X.prog X.w X.K X.mg X.base CX k f fd ps sp) (hgd : X.A.guards = some []) (hr : Room k X.A) (hb : Binds X.K fd ps ds) (hd : Vals dvs ds) (hx : PassS CX X E)
    (ht : eval (.Call (.Attribute o m apos) [] [] pos) X.env = (do
      let recv ← eval o X.env
      standAt apos.atName
      let (fn, ahead) ← holding [recv] (getMethod recv m pl)
      callWith pos fn ahead (backTo pos (starEach [] X.env)) (backToKw pos (keywordEach [] X.env))) := by rfl) :
    PE X (.Call (.Attribute o m apos) [] [] pos) (tMethE C m sp dvs E ta tNil) where
  run := fun pins s σ H Q I h => by
    refine PySem.W.methodCall_KW (pl := pl) (thn (he.run pins s σ H _ I h) fun u s1 ⟨y, H1, I1, ry, a, dx, fs, ey, ea, l, q⟩ => ?_) ht
    subst ey
    cases ry
    refine getmeth_ok I1 ea c hm l ?_
    exact PySem.W.callWith_K0 (first := [.ref a]) I1.kIn hm.kp (callG F hgd hr (bindsAt (vs := [.ref a]) (us := [.ref a]) hb hd I1.kIn (.cons rfl .nil) (F.len _ _ _ _ q)) hx I1 (vs := .ref a :: dvs) (.cons rfl hd) q)
/-- C(e, ..): the instance is made, __init__ runs; bs: the values as bound -/
theorem made_guards {A : Around} {us : List Value} {kw : List (Str × Value)} (h : A.guards = some []) : (A.under (.builtin "type.__call__" ⟨.ref C :: us, kw⟩)).guards = some [] := by
  have e : (Code.builtin "type.__call__" ⟨.ref C :: us, kw⟩).guards = [] := rfl
  show pushGuards (Code.builtin "type.__call__" ⟨.ref C :: us, kw⟩).guards A.guards = some []
  rw [e, h] <;> rfl
theorem makeG {pins : List (Addr × Obj)} {σ : L2.St} {H : Hp} {s : Shared} {Q : VK} {us : List Value} {kw : List (Str × Value)} {bs : Value → List Value} {bv : V → List V} (M : L2.Mk X.K C f) (F : FnG X.prog X.w X.K X.mg X.base CX k f fd ps sp) (hgd : X.A.guards = some []) (hr : Room (k + 1) X.A)
    (hb : ∀ y s', X.K.In s'.heap → (bv (.ref y)).length = ps.length → BindsTo s' fd ⟨.ref y :: us, kw⟩ (ps.zip (bs (.ref y)))) (hx : PassS CX X E) (I : Inv X pins σ H s) (r : ∀ y, Vals (bv (.ref y)) (bs (.ref y)))
    (h : ∀ y dx, H y = none → H dx = none → dx ≠ y → sp (bv (.ref y)) (upd (upd H dx (.own y)) y (.ins C dx [])) (fun v H2 => v = .non ∧ Q (.ref y) H2) (E σ)) : wpAny (model X.prog X.w) X.A (call (.ref C) us kw) (EP X pins σ Q) X.xe s := by
  have hs := h (s.heap.objs.size + 1) s.heap.objs.size (I.hok.fresh (Nat.le_succ _)) (I.hok.fresh (Nat.le_refl _)) (Nat.ne_of_lt (Nat.lt_succ_self _))
  have J := Inv.made (C := C) I
  have bd := hb (s.heap.objs.size + 1) _ J.kIn (F.len _ _ _ _ hs)
  refine wpAny_call (make_map (f := f) I.kIn M.makes M.init (beq_iff_eq.mp M.fn) (codeAny_mono (F.run _ (made_guards hgd) X.stack _ _ ⟨Value.ref (s.heap.objs.size + 1) :: us, kw⟩ _ _ _ (E σ) (hr.make C us kw) (J.env0.make C us kw) bd (r _) hs) fun rr s' q => ?_))
  have z := call_end hx J q
  cases rr with
  | error e => exact z
  | ok fl =>
    cases fl with
    | ret u =>
      obtain ⟨v, H3, I3, rv, ev, q3⟩ := z
      subst ev
      exact ⟨rv, V.ref (s.heap.objs.size + 1), H3, I3, rfl, q3⟩
    | next => exact z
    | brk => exact z
    | cont => exact z
theorem pe_kG (M : L2.Mk X.K C f) (F : FnG X.prog X.w X.K X.mg X.base CX k f fd ps sp) (hgd : X.A.guards = some []) (hr : Room (k + 1) X.A) (hg : Gl X x) (hm : X.mg x = some (.ref C)) (hb : Binds X.K fd ps ds) (hd : Vals dvs ds) (hx : PassS CX X E)
    (ha : PA X (e :: es) t) (hdb : (x == ("__debug__" : Str)) = false := by decide) (he : starEach (e :: es) X.env = (false, eval e X.env) :: starEach es X.env := by rfl) (hpl : (backTo pos (starEach es X.env)).any (·.1) = false := by rfl) :
    PE X (.Call (.Name x p) (e :: es) [] pos) (tMakeE C sp dvs E t) where
  run := fun pins s σ H Q I h => wpAny_Call_Name_kw (ld_glob I hg hm (PySem.W.callWith_K (h₀ := X.base) I.ok.mod.kin M.kp (thn (ha.run pos pins s σ H _ I h) fun us s1 ⟨vs, H1, I1, r, q⟩ =>
    ⟨I1.kIn, makeG (bs := fun y => y :: (us ++ ds)) (bv := fun y => y :: (vs ++ dvs)) M F hgd hr (fun y s' ki hl => bindsAt (vs := .ref y :: vs) (us := .ref y :: us) hb hd ki (.cons rfl r) hl) hx I1 (fun y => .cons rfl (r.append hd)) q⟩) he hpl) hdb)
theorem pe_kG0 (M : L2.Mk X.K C f) (F : FnG X.prog X.w X.K X.mg X.base CX k f fd ps sp) (hgd : X.A.guards = some []) (hr : Room (k + 1) X.A) (hg : Gl X x) (hm : X.mg x = some (.ref C)) (hb : Binds X.K fd ps ds) (hd : Vals dvs ds) (hx : PassS CX X E)
    (hdb : (x == ("__debug__" : Str)) = false := by decide) : PE X (.Call (.Name x p) [] [] pos) (tMakeE C sp dvs E tNil) where
  run := fun pins s σ H Q I h => wpAny_Call_Name_kw (ld_glob I hg hm (PySem.W.callWith_K0 I.kIn M.kp
    (makeG (us := []) (bs := fun y => y :: ([] ++ ds)) (bv := fun y => y :: ([] ++ dvs)) M F hgd hr (fun y s' ki hl => bindsAt (vs := [.ref y]) (us := [.ref y]) hb hd ki (.cons rfl .nil) hl) hx I (fun y => .cons rfl hd) h)) hdb)
end
/-! ### calls by value -/
section
variable {c : Ctx} {ρ : Rho} {S : Sto} {F : D → Sto → Prop} {d : D}
/-- what is wanted of a callee's exception: what the caller wishes, or nothing is raised -/
inductive XOk (c : Ctx) (ρ : Rho) : (L2.St → XK) → (Addr → List (Str × D) → Sto → Prop) → Prop
  | same {Y : Addr → List (Str × D) → Sto → Prop} (h : ∀ C fs S, Y C fs S → c.Y C fs ρ S) : XOk c ρ c.E Y
  | none {E : L2.St → XK} : XOk c ρ E noY
theorem XOk.ok {c : Ctx} {E : L2.St → XK} {Y : Addr → List (Str × D) → Sto → Prop} {ρ : Rho} (x : XOk c ρ E Y) {σ : L2.St} {H : Hp} {S T : Sto} (I : In c σ H ρ S T) :
    ∀ (C : Addr) (y : Option Addr) (fs : List (Str × D)) (S' T' : Sto) (H' : Hp), Mv T H T' H' → Cells c.K H' S' T' → XRep c.K H' T' y fs → Y C fs S' → E σ (.ref C) y H' := by
  cases x with
  | same h => exact fun C y fs S' T' H' m cl x q => I.exc σ ρ C y fs S' T' H' m cl (I.mv m cl).sl x (h C fs S' q)
  | none => exact fun _ _ _ _ _ _ _ _ _ z => z.elim
theorem ve_f {p : Pt} {E : L2.St → XK} {Y} {t : TA} (x : XOk c ρ E Y) (h : VA c t ρ S fun ds S1 => p ds S1 F Y) : VE c (tCallE (spOf c.K p) [] E t) ρ S F := fun T σ H I Q k =>
  h T σ H I _ fun us ds S1 T1 H1 m1 c1 r1 h1 => ⟨ds, S1, T1, F, Y, by rw [List.append_nil]; exact r1, c1, h1, fun v d S2 T2 H2 m2 c2 r2 q => k v d S2 T2 H2 (m1.trans m2) c2 r2 q, x.ok (I.mv m1 c1)⟩
/-- an instance, by value or by reference -/
inductive IsI (S : Sto) : D → Addr → List (Str × D) → Prop
  | v {C : Addr} {fs : List (Str × D)} : IsI S (.ins C fs) C fs
  | c {l C : Addr} {fs : List (Str × D)} (h : S l = some (.ins C fs)) : IsI S (.ref l) C fs
theorem IsI.rd {K : PySem.W.Frag} {H : Hp} {T : Sto} {x : D} {C : Addr} {ds : List (Str × D)} {u : V} (h : IsI S x C ds) (cl : Cells K H S T) (r : Rep K H T u x) : ∃ a dx fs, u = .ref a ∧ H a = some (.ins C dx fs) ∧ RepF K H T fs ds := by
  cases h with
  | v => cases r with | ins s h r => exact ⟨_, _, _, rfl, h, r⟩
  | c h => cases r; obtain ⟨dx, fs, h1, r⟩ := cl.ok _ _ (cl.at h); exact ⟨_, dx, fs, rfl, h1, r⟩
theorem ve_fld {ta : TE} {f : Str} (h : VE c ta ρ S fun x S1 => ∃ C fs e, IsI S1 x C fs ∧ Cls c.K C ∧ NoAttr c.K C f ∧ fs.lookup f = some e ∧ F e S1) : VE c (tFld c.K ta f) ρ S F := fun T σ H I Q k =>
  h T σ H I _ fun vx x S1 T1 H1 m1 c1 r1 ⟨C, fs, e, hi, hc, hn, hl, q⟩ => by
    obtain ⟨a, dx, fv, rfl, ha, r⟩ := hi.rd c1 r1
    obtain ⟨v, h1, h2⟩ := r.lookup hl
    exact ⟨a, C, dx, fv, v, rfl, ha, hc, hn, h1, k v e S1 T1 H1 m1 c1 h2 q⟩
theorem vx_fld {ta tv : TE} {f : Str} {nx bk ct : Rho → Sto → Prop} {rt : D → Sto → Prop} (h : VE c tv ρ S fun y S1 => VE c ta ρ S1 fun x S2 => ∃ l C fs, x = .ref l ∧ S2 l = some (.ins C fs) ∧ Cls c.K C ∧ NoAttr c.K C f ∧ fs.length < 1000 ∧ nx ρ (put S2 l (.ins C (putD f y fs)))) :
    VX c (sFld c.K ta tv f) ρ S ⟨nx, rt, bk, ct⟩ := fun T σ H I D b =>
  h T σ H I _ fun vy y S1 T1 H1 m1 c1 r1 h1 => h1 T1 σ H1 (I.mv m1 c1) _ fun vx x S2 T2 H2 m2 c2 r2 ⟨l, C, fs, e, hl, hc, hn, hz, q⟩ => by
    subst e
    cases r2
    obtain ⟨dx, fv, hx, rf⟩ := c2.ok _ _ (c2.at hl)
    have w := mv_wr (H := H2) (d := .ins C (putD f y fs)) (o := .ins C dx (putF f vy fv)) (c2.at hl)
    have cl' : Cells c.K (upd H2 l (.ins C dx (putF f vy fv))) (put S2 l (.ins C (putD f y fs))) (put T2 l (.ins C (putD f y fs))) := c2.wr (c2.at hl) (cell_i upd_same ((RepF.put (r1.mv m2) rf).mv w))
    exact ⟨l, C, dx, fv, rfl, hx, hc, hn, by rw [rf.length]; exact hz, b.nx σ ρ _ _ _ (m1.trans (m2.trans w)) (I.mv (m1.trans (m2.trans w)) cl') q⟩
theorem ve_mt {p : Pt} {E : L2.St → XK} {Y} {ta : TE} {t : TA} {C : Addr} {m : Str} {dvs : List V} {dds : List D} (x : XOk c ρ E Y) (hd : ∀ H T, RepL c.K H T dvs dds)
    (h : VE c ta ρ S fun y S1 => ∃ fs, IsI S1 y C fs ∧ fs.lookup m = none ∧ VA c t ρ S1 fun ds S2 => p (y :: (ds ++ dds)) S2 F Y) : VE c (tMethE C m (spOf c.K p) dvs E ta t) ρ S F := fun T σ H I Q k =>
  h T σ H I _ fun vy y S1 T1 H1 m1 c1 r1 ⟨fs, hi, hl, h1⟩ => by
    obtain ⟨a, dx, fv, rfl, ha, r⟩ := hi.rd c1 r1
    exact ⟨a, dx, fv, rfl, ha, r.lookup_none hl, h1 T1 σ H1 (I.mv m1 c1) _ fun vs ds S2 T2 H2 m2 c2 r2 h2 => ⟨y :: (ds ++ dds), S2, T2, F, Y, .cons (r1.mv m2) (r2.append (hd _ _)), c2, h2, fun v d S3 T3 H3 m3 c3 r3 q => k v d S3 T3 H3 (m1.trans (m2.trans m3)) c3 r3 q, x.ok (I.mv (m1.trans m2) c2)⟩⟩
/-- a new instance: by reference -/
theorem ve_mk {p : Pt} {E : L2.St → XK} {Y} {t : TA} {C : Addr} {dvs : List V} {dds : List D} (x : XOk c ρ E Y) (hd : ∀ H T, RepL c.K H T dvs dds)
    (h : VA c t ρ S fun ds S1 => ∀ y, S1 y = none → p (.ref y :: (ds ++ dds)) (put S1 y (.ins C [])) (fun d S2 => d = .non ∧ F (.ref y) S2) Y) : VE c (tMakeE C (spOf c.K p) dvs E t) ρ S F := fun T σ H I Q k =>
  h T σ H I _ fun vs ds S1 T1 H1 m1 c1 r1 h1 => fun y dx hy hdx ne => by
    have hy2 : upd H1 dx (.own y) y = none := by rw [upd_ne (Ne.symm ne)]; exact hy
    have n1 : Mv T1 H1 T1 (upd H1 dx (.own y)) := mv_new hdx
    have n2 := mv_newc (S := T1) (d := .ins C []) (o := .ins C dx []) hy2
    have cl := (c1.new (o := .own y) hdx).newc (d := .ins C []) (o := .ins C dx []) hy2 (cell_i upd_same .nil)
    refine ⟨.ref y :: (ds ++ dds), put S1 y (.ins C []), put T1 y (.ins C []), _, Y, .cons (.ref y) ((r1.mv (n1.trans n2)).append (hd _ _)), cl, h1 y (c1.freeS hy), fun v d S3 T3 H3 m3 c3 r3 ⟨ed, q⟩ => ?_, x.ok (I.mv (m1.trans (n1.trans n2)) cl)⟩
    subst ed
    cases r3
    exact ⟨rfl, k _ _ S3 T3 H3 (m1.trans (n1.trans (n2.trans m3))) c3 (.ref y) q⟩
end
end VS
namespace VS
open PySem L2 C8 PySem.Spec PyProof.Rows
/-! ### what is shown: repr, == of data -/
mutual
def pd : D → PyData
  | .non => .none
  | .bl b => .bool b
  | .int i => .int i
  | .str x => .str x
  | .rol xs => .list (pdL xs)
  | .lst xs => .list (pdL xs)
  | .tup xs => .tuple (pdL xs)
  | .dK kvs => .dict (pdK kvs)
  | _ => .none
def pdL : List D → List PyData
  | [] => []
  | x :: xs => pd x :: pdL xs
def pdK : List (Key × D) → List (PyData × PyData)
  | [] => []
  | (k, x) :: xs => ((match k with | .inl i => .int i | .inr z => .str z), pd x) :: pdK xs
end
mutual
def isP : D → Bool
  | .non => true
  | .bl _ => true
  | .int _ => true
  | .str _ => true
  | .lst xs => isPL xs
  | .tup xs => isPL xs
  | .dK kvs => isPK kvs
  | _ => false
def isPL : List D → Bool
  | [] => true
  | x :: xs => isP x && isPL xs
def isPK : List (Key × D) → Bool
  | [] => true
  | (_, x) :: xs => isP x && isPK xs
end
/-- sys.modules is one of the base's objects -/
def SysOk (base : Heap) : Prop := ∃ o, base.get? sysModules = some o
section
variable {X : Cx} {pins : List (Addr × Obj)} {σ : L2.St} {H : Hp} {s : Shared} {T : Sto}
theorem SysOk.ne (hs : SysOk X.base) (I : Inv X pins σ H s) {a : Addr} {o : HO} (h : H a = some o) : sysModules ≠ a := fun e => by
  obtain ⟨ob, hb⟩ := hs
  have q := (I.bs _ _ hb).2
  rw [e, h] at q
  cases q
mutual
/-- told apart from what is known by reference -/
theorem Rep.any {K : PySem.W.Frag} {H : Hp} {S : Sto} : ∀ {v : V} {d : D}, Rep K H S v d → Rep K H (fun _ => none) v d
  | _, _, .non => .non
  | _, _, .bl b => .bl b
  | _, _, .int i => .int i
  | _, _, .str x => .str x
  | _, _, .ty n => .ty n
  | _, _, .ref a => .ref a
  | _, _, .rol s h r => .rol rfl h (RepL.any r)
  | _, _, .rolK h r => .rolK h (RepL.any r)
  | _, _, .lst s h r => .lst rfl h (RepL.any r)
  | _, _, .tup s h r => .tup rfl h (RepL.any r)
  | _, _, .tupK h r => .tupK h (RepL.any r)
  | _, _, .dK s h r => .dK rfl h (RepK.any r)
  | _, _, .ins s h r => .ins rfl h (RepF.any r)
  | _, _, .xcp s h r => .xcp rfl h (RepF.any r)
  | _, _, .xv s h s2 h2 r => .xv rfl h rfl h2 (RepF.any r)
theorem RepL.any {K : PySem.W.Frag} {H : Hp} {S : Sto} : ∀ {vs : List V} {ds : List D}, RepL K H S vs ds → RepL K H (fun _ => none) vs ds
  | _, _, .nil => .nil
  | _, _, .cons h t => .cons (Rep.any h) (RepL.any t)
theorem RepK.any {K : PySem.W.Frag} {H : Hp} {S : Sto} : ∀ {vs : List (Key × V)} {ds : List (Key × D)}, RepK K H S vs ds → RepK K H (fun _ => none) vs ds
  | _, _, .nil => .nil
  | _, _, .cons h t => .cons (Rep.any h) (RepK.any t)
theorem RepF.any {K : PySem.W.Frag} {H : Hp} {S : Sto} : ∀ {vs : List (Str × V)} {ds : List (Str × D)}, RepF K H S vs ds → RepF K H (fun _ => none) vs ds
  | _, _, .nil => .nil
  | _, _, .cons h t => .cons (Rep.any h) (RepF.any t)
end
mutual
theorem Rep.reads (hs : SysOk X.base) (I : Inv X pins σ H s) : ∀ (d : D) (v : V) (u : Value), Rep X.K H T v d → isP d = true → L2.RelV v u → ∃ as, Reads s.heap u (pd d) as ∧ sysModules ∉ as
  | .non, _, _, h, _, r => by cases h; cases r; exact ⟨[], .none, by simp⟩
  | .bl b, _, _, h, _, r => by cases h; cases r; exact ⟨[], .bool b, by simp⟩
  | .int i, _, _, h, _, r => by cases h; obtain ⟨t, rfl⟩ := r; exact ⟨[], .int i t, by simp⟩
  | .str x, _, _, h, _, r => by cases h; obtain ⟨t, rfl⟩ := r; exact ⟨[], .str x t, by simp⟩
  | .lst ds, _, _, h, hp, r => by
    cases h with
    | lst st h rl =>
      cases r
      obtain ⟨its, rv, ⟨o, n, ho, hc, _, hd⟩, _⟩ := I.list (SqL.of h)
      obtain ⟨as, hr, hn⟩ := RepL.reads hs I ds _ its rl hp rv
      exact ⟨_, .list ho hc hd hr, by simp only [List.mem_cons, not_or]; exact ⟨hs.ne I h, hn⟩⟩
  | .tup ds, _, _, h, hp, r => by
    cases h with
    | tup st h rl =>
      cases r
      obtain ⟨its, rv, ⟨o, ho, hc, n, hd⟩, _⟩ := I.tuple (SqT.of h)
      obtain ⟨as, hr, hn⟩ := RepL.reads hs I ds _ its rl hp rv
      exact ⟨_, .tuple ho hc hd hr, hn⟩
    | tupK h rl =>
      cases r
      obtain ⟨its, rv, ⟨o, ho, hc, n, hd⟩, _⟩ := I.tuple (.inr h)
      obtain ⟨as, hr, hn⟩ := RepL.reads hs I ds _ its rl hp rv
      exact ⟨_, .tuple ho hc hd hr, hn⟩
  | .dK ds, _, _, h, hp, r => by
    cases h with
    | dK st h rk =>
      cases r
      obtain ⟨_, _, vs, kv, o, es, ep, ho, ex, hd, _, pr, _⟩ := h.ok I.hok
      obtain ⟨as, h1, h2, hn⟩ := RepK.reads hs I ds _ vs es.toList rk hp kv pr
      refine ⟨_, .dict ho ex.1 hd h1 h2, ?_⟩
      simp only [List.append_nil, List.mem_cons, List.mem_append, not_or]
      exact ⟨⟨h.elim (fun h => hs.ne I h) fun ⟨_, h⟩ => hs.ne I h, List.not_mem_nil⟩, hn⟩
  | .ty _, _, _, _, hp, _ => by cases hp
  | .ref _, _, _, _, hp, _ => by cases hp
  | .rol _, _, _, _, hp, _ => by cases hp
  | .hid, _, _, _, hp, _ => by cases hp
  | .ins _ _, _, _, _, hp, _ => by cases hp
  | .xcp _ _ _ _, _, _, _, hp, _ => by cases hp
  | .xv _ _, _, _, _, hp, _ => by cases hp
theorem RepL.reads (hs : SysOk X.base) (I : Inv X pins σ H s) : ∀ (ds : List D) (vs : List V) (us : List Value), RepL X.K H T vs ds → isPL ds = true → L2.Vals vs us → ∃ as, ReadsAll s.heap us (pdL ds) as ∧ sysModules ∉ as
  | [], _, _, h, _, r => by cases h; cases r; exact ⟨[], .nil, by simp⟩
  | d :: ds, _, _, h, hp, r => by
    have hp' : (isP d && isPL ds) = true := hp
    rw [Bool.and_eq_true] at hp'
    cases h with
    | cons h t =>
      cases r with
      | cons r1 r2 =>
        obtain ⟨as, q1, n1⟩ := Rep.reads hs I d _ _ h hp'.1 r1
        obtain ⟨bs, q2, n2⟩ := RepL.reads hs I ds _ _ t hp'.2 r2
        exact ⟨_, .cons q1 q2, by simp only [List.mem_append, not_or]; exact ⟨n1, n2⟩⟩
theorem RepK.reads (hs : SysOk X.base) (I : Inv X pins σ H s) : ∀ (ds : List (Key × D)) (vs : List (Key × V)) (us : List (Key × Value)) (es : List DictEntry), RepK X.K H T vs ds → isPK ds = true → KV vs us → Pairs (mixKind X.prog X.w) es us →
    ∃ as, ReadsAll s.heap (es.map (·.key)) ((pdK ds).map (·.1)) [] ∧ ReadsAll s.heap (es.map (·.val)) ((pdK ds).map (·.2)) as ∧ sysModules ∉ as
  | [], _, _, _, h, _, r, p => by cases h; cases r; cases p; exact ⟨[], .nil, .nil, by simp⟩
  | (k, d) :: ds, _, _, _, h, hp, r, p => by
    have hp' : (isP d && isPK ds) = true := hp
    rw [Bool.and_eq_true] at hp'
    cases h with
    | cons h t =>
      cases r with
      | cons r1 r2 =>
        cases p with
        | @cons e kv es kvs p1 p2 p3 =>
          obtain ⟨ek, er⟩ := r1
          obtain ⟨as, q1, n1⟩ := Rep.reads hs I d _ _ h hp'.1 er
          obtain ⟨bs, q2, q3, n2⟩ := RepK.reads hs I ds _ _ _ t hp'.2 r2 p3
          have kk : keyIs k e.key = true := by
            have ek' := ek
            dsimp only at ek'
            rw [ek']
            exact p1
          refine ⟨as ++ bs, ?_, ?_, by simp only [List.mem_append, not_or]; exact ⟨n1, n2⟩⟩
          · rcases keyIs_shape kk with ⟨i, t, e1, e2⟩ | ⟨x, t, e1, e2⟩
            · subst e1
              rw [List.map_cons, e2]
              exact ReadsAll.cons (as := []) (bs := []) (.int i t) q2
            · subst e1
              rw [List.map_cons, e2]
              exact ReadsAll.cons (as := []) (bs := []) (.str x t) q2
          · rw [List.map_cons, p2]
            exact ReadsAll.cons q1 q3
end
end
def rRepr (K : PySem.W.Frag) : CR1 := fun xs H Q => ∃ (v : V) (d : D) (T : Sto), xs = [v] ∧ Rep K H T v d ∧ isP d = true ∧ (pd d).showable = true ∧ (pd d).shown.length ≤ sizeLine ∧ (pd d).depth ≤ 50 ∧ Q (.str (pd d).shown) H
def rEqP (K : PySem.W.Frag) : R2 := fun x y H Q => ∃ (d e : D) (T : Sto), Rep K H T x d ∧ Rep K H T y e ∧ isP d = true ∧ isP e = true ∧ SeqAt.shaped (pd d) = true ∧ SeqAt.shaped (pd e) = true ∧ Q (.bl (PyData.eqv (pd d) (pd e))) H
section
variable {X : Cx} {k : Nat}
theorem repr_any {pins : List (Addr × Obj)} {σ : L2.St} {H : Hp} {s : Shared} {Q : VK} {u : Value} {d : PyData} {as : List Addr} (hgd : X.A.guards = some []) (hr : Room k X.A) (I : Inv X pins σ H s) (rd : Reads s.heap u d as) (hn : sysModules ∉ as)
    (sh : d.showable = true) (sz : d.shown.length ≤ sizeLine) (dp : d.depth ≤ 50) (q : Q (.str d.shown) H) : wpAny (model X.prog X.w) X.A (call (.builtin "repr") [u]) (EP X pins σ Q) X.xe s := by
  have hu : X.A.units + (d.depth + 1) < cLine := Nat.lt_of_le_of_lt (by omega) hr.units
  have whole : ∀ a, u = .ref a → wpAny (model X.prog X.w) X.A (call (.builtin "repr") [u]) (EP X pins σ Q) X.xe s := fun a e => by
    subst e
    exact repr_of_reads' rd sh (fun _ => hn) hgd hu (fun _ _ e => e) (fun h' u tk hk => ⟨.str d.shown, H, I.kept hk, ⟨_, rfl⟩, q⟩) sz
  cases rd with
  | none => exact PySem.P.repr_of_none ⟨.str (PyData.shown .none), H, I.tok _, ⟨_, rfl⟩, q⟩
  | bool b => exact PySem.P.repr_of_bool ⟨.str (PyData.shown (.bool b)), H, I.tok _, ⟨_, rfl⟩, q⟩
  | int i t => exact PySem.P.repr_of_int (of_decide_eq_true sh) ⟨.str (PyData.shown (.int i)), H, I.tok _, ⟨_, rfl⟩, q⟩
  | str x t => exact PySem.P.repr_of_str ⟨.str (PyData.shown (.str x)), H, I.tok _, ⟨_, rfl⟩, q⟩ sz
  | list h1 h2 h3 h4 => exact whole _ rfl
  | tuple h1 h2 h3 h4 => exact whole _ rfl
  | dict h1 h2 h3 h4 h5 => exact whole _ rfl
theorem c_repr (hgd : X.A.guards = some []) (hr : Room k X.A) (hs : SysOk X.base) : CallR X (.builtin "repr") (rRepr X.K) := by
  intro pins s σ H xs us Q I r h
  obtain ⟨v, d, T, rfl, rp, ip, sh, sz, dp, q⟩ := h
  obtain ⟨u, rfl, rv⟩ := vals1 r
  obtain ⟨as, rd, hn⟩ := Rep.reads hs I d v u rp ip rv
  exact repr_any hgd hr I rd hn sh sz dp q
theorem op_eqP (hr : Room k X.A) (hs : SysOk X.base) : OpR X (compareOp .Eq) (rEqP X.K) := by
  intro pins s σ H x y v u Q I rx ry h
  obtain ⟨d, e, T, r1, r2, i1, i2, s1, s2, q⟩ := h
  obtain ⟨as, h1, _⟩ := Rep.reads hs I d x v r1 i1 rx
  obtain ⟨bs, h2, _⟩ := Rep.reads hs I e y u r2 i2 ry
  exact SeqAt.compareEq_shaped h1 h2 s1 s2 hr.units ⟨.bl _, H, I, rfl, q⟩
end
section
variable {c : Ctx} {ρ : Rho} {S : Sto} {F : D → Sto → Prop}
/-- d, its cells read: what x is when all is known by value -/
inductive Vw (S : Sto) : D → D → Prop
  | v {d : D} : Vw S d d
  | c {l : Addr} {d : D} (h : S l = some d) (n : d ≠ .hid) : Vw S (.ref l) d
theorem Vw.rd {K : PySem.W.Frag} {H : Hp} {T : Sto} {x d : D} {u : V} (h : Vw S x d) (cl : Cells K H S T) (r : Rep K H T u x) : ∃ T', Mk T H T' H ∧ Rep K H T' u d := by
  cases h with
  | v => exact ⟨T, Mv.refl.toMk, r⟩
  | c h n => cases r; exact ⟨_, (mv_del (cl.nohid h n)).toMk, cl.rep (cl.at h) (cl.nohid h n)⟩
theorem rc_repr {x d : D} (h : Vw S x d) (ip : isP d = true) (sh : (pd d).showable = true) (sz : (pd d).shown.length ≤ sizeLine) (dp : (pd d).depth ≤ 50) (q : F (.str (pd d).shown) S) : RC c (rRepr c.K) [x] S F := fun T us H cl r Q k => by
  cases r with
  | cons h1 t =>
    cases t
    obtain ⟨T', _, r'⟩ := h.rd cl h1
    exact ⟨_, d, T', rfl, r', ip, sh, sz, dp, k _ _ S T H Mv.refl cl (.str _) q⟩
theorem rv_eqP {x y d e : D} (h1 : Vw S x d) (h2 : Vw S y e) (i1 : isP d = true) (i2 : isP e = true) (s1 : SeqAt.shaped (pd d) = true) (s2 : SeqAt.shaped (pd e) = true) (q : F (.bl (PyData.eqv (pd d) (pd e))) S) : RV c (rEqP c.K) x y S F := fun T u w H cl r1 r2 Q k => by
  obtain ⟨T1, m1, q1⟩ := h1.rd cl r1
  obtain ⟨T2, m2, q2⟩ := h2.rd cl r2
  exact ⟨d, e, fun _ => none, q1.any, q2.any, i1, i2, s1, s2, k _ _ S T H Mv.refl cl (.bl _) q⟩
end
/-! ### the law's own call -/
/-- the law's promise by value: told True, of any script -/
theorem law_val {P : Program} {w : World} {K : PySem.W.Frag} {mg mb : Str → Option Value} {CX : CXT} {k : Nat} {fa a : Addr} {fd : FuncData} {x : Str} {p : Pt} {s1 : Shared} {vs : List Value} {ns : List Int}
    (kin : K.In s1.heap) (hmg : s1.heap.Ns mainGlobals mg) (hmb : s1.heap.Ns builtinsNs mb) (boot : ∀ x : Str, x ≠ "__name__" → mb x = bootBuiltins x) (nolim : s1.heap.NoLimit) (sys : ∃ mm, s1.heap.Ns sysModules mm) (gens : s1.gens = #[])
    (ha : s1.heap.get? a = some { cls := .type "list", data := .seq vs.toArray }) (hi : IntsAre vs ns) (hl : ns.length ≤ sizeLine) (room : Room k callerA)
    (F : ∀ base : Heap, K.In base → base.Ns mainGlobals mg → SysOk base → FnG P w K mg base CX k fa fd [x] (spOf K p)) (bd : ∀ (s : Shared) (u : Value), BindsTo s fd ⟨[u], []⟩ [(x, u)])
    (hp : p [.rol (ns.map .int)] (fun _ => none) (fun d _ => d = .bl true) noY) (noexc : ∀ H e s', CX [] H s1 (fun _ _ _ => False) e s' → False) :
    codeAny (model P w) callerA (.call (.ref fa) ⟨[.ref a], []⟩) (fun r s' => r = .ok (.ret (.bool true)) ∧ OldK s1.heap s'.heap ∧ s'.os = s1.os ∧ AllBare s'.gens) s1 := by
  have iv := vals_ints hi
  -- whichever way the script is known: H tells it, and nothing else
  suffices go : ∀ H : Hp, (∀ b u, H b = some u → b = a ∧ u = .frz { cls := .type "list", data := .seq vs.toArray } (.lst (ns.map V.int))) → (H a ≠ none → K.lookup a = none) → Rep K H (fun _ => none) (.ref a) (.rol (ns.map .int)) →
      codeAny (model P w) callerA (.call (.ref fa) ⟨[.ref a], []⟩) (fun r s' => r = .ok (.ret (.bool true)) ∧ OldK s1.heap s'.heap ∧ s'.os = s1.os ∧ AllBare s'.gens) s1 by
    cases hk : K.lookup a with
    | none =>
      refine go (fun b => if b = a then some (.frz { cls := .type "list", data := .seq vs.toArray } (.lst (ns.map V.int))) else none) (fun b u z => ?_) (fun _ => hk) (.rol rfl (if_pos rfl) RepL.ofInts)
      by_cases e : b = a
      · have z' := (if_pos e).symm.trans z
        cases z'
        exact ⟨e, rfl⟩
      · have z' := (if_neg e).symm.trans z
        cases z'
    | some o =>
      have e := kin a o hk
      rw [ha] at e
      cases e
      exact go (fun _ => none) (fun b u z => by cases z) (fun z => absurd rfl z) (.rolK ⟨_, vs.toArray, _, hk, rfl, rfl, rfl, by simpa [hi.length] using hl, by simpa using iv⟩ RepL.ofInts)
  intro H only apart rep
  have kept : ∀ {b : Addr} {o : Obj}, s1.heap.get? b = some o → b ≠ a → (hidT s1.heap H).get? b = some o := fun {b o} e n => hidT_get e (by
    cases q : H b with
    | none => rfl
    | some u => exact absurd (only b u q).1 n)
  have nsk : ∀ {b : Addr} {m : Str → Option Value}, s1.heap.Ns b m → (hidT s1.heap H).Ns b m := fun {b m} ⟨o, es, ep, e, d, r⟩ => ⟨o, es, ep, kept e (fun z => by
    subst z
    rw [ha] at e
    have e2 := Option.some.inj e
    rw [← e2] at d
    cases d), d, r⟩
  have kinB : K.In (hidT s1.heap H) := fun b o e => hidT_get (kin b o e) (by
    cases q : H b with
    | none => rfl
    | some u =>
      have z := (only b u q).1
      subst z
      rw [apart (by rw [q]; simp)] at e
      cases e)
  have hok : HOk P w H s1.heap := fun b u z => by
    obtain ⟨e1, e2⟩ := only b u z
    subst e1 e2
    exact ⟨ha, by simpa using hl, vs, _, iv, ha⟩
  have sysB : SysOk (hidT s1.heap H) := by
    obtain ⟨mm, h⟩ := sys
    obtain ⟨o, _, _, e, _⟩ := nsk h
    exact ⟨o, e⟩
  have mod : Mod K mg (hidT s1.heap H) := ⟨kinB, nsk hmg, ⟨mb, nsk hmb, boot⟩, by obtain ⟨mc, h1, h2⟩ := nolim; exact ⟨mc, nsk h1, h2⟩⟩
  have en : Env0 P w K mg (hidT s1.heap H) callerA [] s1 H := ⟨rfl, mod, fun b o e => of_hidT e, Nat.le_of_eq (hidT_size _ _), trivial, fun b hb => absurd (show b ∈ ([] : List Addr) from hb) (by simp), hok, .of_eq gens⟩
  have cells : Cells K H (fun _ => none) (fun _ => none) := ⟨fun _ => .inl ⟨rfl, by simp⟩, fun _ _ z => by cases z⟩
  have told : spOf K p [.ref a] H (fun v _ => v = .bl true) (fun _ _ _ => False) := ⟨_, _, _, _, _, .cons rep .nil, cells, hp, fun v d S' T' H' _ _ r e => by subst e; cases r; rfl, fun _ _ _ _ _ _ _ _ _ z => z.elim⟩
  refine codeAny_mono ((F _ kinB (nsk hmg) sysB).run callerA rfl [] s1 H ⟨[.ref a], []⟩ [.ref a] [.ref a] _ _ room en (bd s1 (.ref a)) (.cons rfl .nil) told) fun r s' h => ?_
  cases r with
  | error e => exact (noexc H e s' h).elim
  | ok fl =>
    cases fl with
    | next => exact False.elim h
    | brk => exact False.elim h
    | cont => exact False.elim h
    | ret u =>
      obtain ⟨v, H', os, bare, un, hok', rv, q⟩ := h
      have q' : v = .bl true := q
      subst q'
      cases rv
      refine ⟨rfl, OldK.of_keep fun b o e => ?_, os, bare⟩
      cases z : H b with
      | none => exact un.keep b o e z (fun m => absurd (show b ∈ ([] : List Addr) from m) (by simp)) (by simp)
      | some u =>
        obtain ⟨e1, e2⟩ := only b u z
        subst e2
        have f1 := (hok b _ z).1
        have f2 := (hok' b _ (un.frzs b _ _ z)).1
        rw [e] at f1
        cases f1
        exact f2
/-- the goal that k_head leaves, from the law's promise by value -/
theorem walk_val {l : PySem.W.OpenLaw} {n k : Nat} {q : Program} {loose : List Str} {XP : (Str → Option Value) → Heap → Prop} {YP : World → Heap → Prop} {d : DefRec} {K : Params → PySem.W.Frag} {CX : World → CXT} {p : PySem.W.Frag → Pt} {x : Str}
    (hn : l.most = some n) (hn2 : n ≤ sizeLine) (hdf : d.params.defaults = []) (room : Room k callerA) (noimp : importsNone q = true) (hY : ∀ (w : World) (h : Heap), YP w h → (K w.params).In h)
    (F : ∀ (w : World) (mg : Str → Option Value) (fa : Addr) (h : Heap), (K w.params).In h → h.Ns mainGlobals mg → mg d.name = some (.ref fa) →
      ∃ fd : FuncData, (∀ (s : Shared) (u : Value), BindsTo s fd ⟨[u], []⟩ [(x, u)]) ∧ ∀ base : Heap, (K w.params).In base → base.Ns mainGlobals mg → SysOk base → FnG l.prog w (K w.params) mg base (CX w) k fa fd [x] (spOf (K w.params) (p (K w.params))))
    (hp : ∀ (K : PySem.W.Frag) (ns : List Int), ns.length ≤ n → p K [.rol (ns.map .int)] (fun _ => none) (fun d _ => d = .bl true) noY) (noexc : ∀ (w : World) (H : Hp) (s : Shared) (e : Value) (s' : Shared), CX w [] H s (fun _ _ _ => False) e s' → False) :
    PySem.W.WalkO q loose XP YP l.row.toRowW d [] (fun f vs => PySem.call f vs) :=
  Att.attach_call hn hdf fun w s₀ s₁ mg mb fa o pm cd doc a vs ns G Y ho hd hcd hmg hobj hints hlen hg => by
    obtain ⟨fd, hb, hF⟩ := F w mg fa _ (hY w _ Y) G.T.g hmg
    exact law_val (hY w _ Y) G.T.g G.T.b G.T.builtins G.T.nolimit (let ⟨mm, h, _⟩ := (G.T.seer noimp).mods; ⟨mm, h⟩) hg hobj hints (Nat.le_trans hlen hn2) room hF hb (hp _ ns hlen) fun H e s' => noexc w H s₁ e s'
end VS
namespace VS
open PySem L2 C8 PySem.Spec PyProof.Rows
/-! ### a def that may be called -/
structure Cf (P : Program) (w : World) (K : PySem.W.Frag) (mg : Str → Option Value) (base : Heap) (CX : CXT) (k : Nat) (x : Str) (st : Stmt) (dvs : List V) (ps : List Str) (p : Pt) (f : Addr) (fd : FuncData) : Prop where
  fn : FnG P w K mg base CX k f fd ps (spOf K p)
  df : Fd K x x st dvs f fd
  mg : mg x = some (.ref f)
  b : Binds K fd ps []
theorem Cf.kp {P : Program} {w : World} {K : PySem.W.Frag} {mg : Str → Option Value} {base : Heap} {CX : CXT} {k : Nat} {x : Str} {st : Stmt} {dvs : List V} {ps : List Str} {p : Pt} {f : Addr} {fd : FuncData} (c : Cf P w K mg base CX k x st dvs ps p f fd) : PySem.W.keepIn K (.ref f) = true := c.df.kp
theorem Cf.v {P : Program} {w : World} {K : PySem.W.Frag} {mg : Str → Option Value} {base : Heap} {CX : CXT} {k : Nat} {x : Str} {st : Stmt} {dvs : List V} {ps : List Str} {p : Pt} {f : Addr} {fd : FuncData} (_ : Cf P w K mg base CX k x st dvs ps p f fd) : Vals [] [] := .nil
/-- arguments by their places among the written ones -/
def pick {α : Type} (idx : List Nat) (us ws : List α) : List α := idx.filterMap fun i => (us ++ ws)[i]?
section
variable {c : Ctx} {ρ : Rho} {S : Sto} {F : D → Sto → Prop} {d : D}
/-! ### the branches of a test -/
theorem br {p A B : Prop} [Decidable p] (h1 : p → A) (h2 : ¬ p → B) : (decide p = true → A) ∧ (decide p = false → B) := ⟨fun h => h1 (of_decide_eq_true h), fun h => h2 (of_decide_eq_false h)⟩
theorem brN {p A B : Prop} [Decidable p] (h1 : ¬ p → A) (h2 : p → B) : ((!decide p) = true → A) ∧ ((!decide p) = false → B) := ⟨fun h => h1 (by simpa using h), fun h => h2 (by simpa using h)⟩
theorem brB {b : Bool} {A B : Prop} (h1 : b = false → A) (h2 : b = true → B) : ((!b) = true → A) ∧ ((!b) = false → B) := ⟨fun h => h1 (by simpa using h), fun h => h2 (by simpa using h)⟩
theorem brT {b : Bool} {A B : Prop} (h : b = true) (a : A) : (b = true → A) ∧ (b = false → B) := ⟨fun _ => a, fun z => (by rw [h] at z; cases z)⟩
theorem brF {b : Bool} {A B : Prop} (h : b = false) (a : B) : (b = true → A) ∧ (b = false → B) := ⟨fun z => (by rw [h] at z; cases z), fun _ => a⟩
theorem br2 {b : Bool} {A B : Prop} (h1 : b = true → A) (h2 : b = false → B) : (b = true → A) ∧ (b = false → B) := ⟨h1, h2⟩
/-- [e for x in xs], each by itself -/
theorem ve_lcM (f : D → D) {wi : TI} {g : TG} {tt : TT} {te : TE} {vs : List Nat}
    (h : VI c wi ρ S fun ds S1 => ds.length ≤ 100000 ∧ (∀ d ∈ ds, VGw c vs g d (wipeR ρ vs) S1 fun ρ3 S3 => VT c tt ρ3 S3 fun b S4 => b = true ∧ VE c te ρ3 S4 fun y S5 => y = f d ∧ S5 = S1) ∧ F (.lst (ds.map f)) S1) : VE c (tLc wi g tt te vs) ρ S F := by
  refine ve_lc (fun T σ H I R k => h T σ H I R fun J ds S1 T1 H1 m1 c1 w ⟨h1, h2, h3⟩ => k J ds S1 T1 H1 m1 c1 w ⟨h1, fun i acc S2 => acc = (ds.take i).map f ∧ S2 = S1, ⟨rfl, rfl⟩, ?_, ?_⟩)
  · rintro i d acc S2 hd ⟨e1, rfl⟩ hl T0 u0 σ0 H0 I0 r0 Q0 k0
    refine h2 d (List.mem_of_getElem? hd) T0 u0 σ0 H0 I0 r0 Q0 fun σ' ρ' S' T' H' hw m I' q => k0 σ' ρ' S' T' H' hw m I' ?_
    refine q.imp fun b S4 ⟨hb, hv⟩ => ?_
    subst hb
    refine ⟨fun _ => hv.imp fun y S5 ⟨e2, e3⟩ => ⟨?_, e3⟩, fun z => by cases z⟩
    rw [List.take_succ, hd, e1, e2, List.map_append] <;> rfl
  · rintro acc S2 ⟨e1, rfl⟩ _
    rw [List.take_length] at e1
    rw [e1]
    exact h3
theorem ex_bl {b : Bool} {G : Bool → Prop} (h : G b) : ∃ k, D.bl b = D.bl k ∧ G k := ⟨b, rfl, h⟩
theorem ex_ref {b : Addr} {G : Addr → Prop} (h : G b) : ∃ k, D.ref b = D.ref k ∧ G k := ⟨b, rfl, h⟩
theorem ex_str {b : Str} {G : Str → Prop} (h : G b) : ∃ k, D.str b = D.str k ∧ G k := ⟨b, rfl, h⟩
theorem ex_int {b : Int} {G : Int → Prop} (h : G b) : ∃ k, D.int b = D.int k ∧ G k := ⟨b, rfl, h⟩
theorem cpow {i j : Int} (h0 : 0 ≤ j) (h1 : j ≤ 1000000) (h2 : i.natAbs < 2 ^ 64) : CPow i j := ⟨h0, h1, h2⟩
theorem cmulW {i j : Int} (a : i.natAbs < 2 ^ 64) (b : j.natAbs < 2 ^ 64) : CMulW i j := wide_mul a b (by decide) (by decide) (by decide)
theorem cdivW {i j : Int} (a : 0 < j) (b : j < 2 ^ 128) : CDivW i j := wide_div (b := 128) a (by omega) (by decide) (by decide)
end
end VS
namespace VS
open PySem L2 C8 PySem.Spec PyProof.Rows
theorem szl : 1000000 ≤ sizeLine := by decide
/-! ### texts of plain signs -/
def Asc (n : Nat) (z : Str) : Prop := z.length ≤ n ∧ ∀ c ∈ z.cps.toList, c < 128
theorem str_len (z : Str) : z.cps.toList.length = z.length := Array.length_toList
theorem Asc.mono {n m : Nat} {z : Str} (h : Asc n z) (l : n ≤ m) : Asc m z := ⟨Nat.le_trans h.1 l, h.2⟩
theorem tl_add (x y : Str) : (x ++ y).cps.toList = x.cps.toList ++ y.cps.toList := TL.tl_append x y
theorem len_add (x y : Str) : (x ++ y).length = x.length + y.length := by
  rw [← str_len, ← str_len, ← str_len, tl_add, List.length_append]
theorem Asc.add {n m : Nat} {x y : Str} (h : Asc n x) (k : Asc m y) : Asc (n + m) (x ++ y) := by
  refine ⟨by rw [len_add]; exact Nat.add_le_add h.1 k.1, fun c hc => ?_⟩
  rw [tl_add] at hc
  exact (List.mem_append.mp hc).elim (h.2 c) (k.2 c)
theorem Asc.cut {n : Nat} {x : Str} (h : Asc n x) (lo hi : Option Int) : Asc n (cutS x lo hi) := by
  refine ⟨Nat.le_trans (cutS_length x lo hi) h.1, fun c hc => h.2 c ?_⟩
  have hc' : c ∈ (x.cps.toList.drop (HT.sIx x.length 0 lo)).take (HT.sIx x.length x.length hi - HT.sIx x.length 0 lo) := hc
  exact List.mem_of_mem_drop (List.mem_of_mem_take hc')
theorem tl_join0 (ys : List Str) : (Txt.join ("" : Str) ys).cps.toList = (ys.map fun y => y.cps.toList).flatten := by
  have e : (Txt.join ("" : Str) ys).cps.toList = TL.joinL (TL.tl ("" : Str)) (ys.map TL.tl) := (congrArg TL.tl (TL.join_eq ("" : Str) ys)).trans (TL.tl_join ("" : Str) ys)
  rw [e]
  have e0 : TL.tl ("" : Str) = [] := by decide +kernel
  rw [e0]
  have g : ∀ L : List (List Nat), TL.joinL [] L = L.flatten := by
    intro L
    induction L with
    | nil => rfl
    | cons p L ih =>
      cases L with
      | nil => simp [TL.joinL]
      | cons q r =>
        show p ++ ([] ++ TL.joinL [] (q :: r)) = _
        rw [ih]
        simp
  exact g _
theorem Asc.join0 {n : Nat} {ys : List Str} (h : ∀ y ∈ ys, Asc 1 y) (hl : ys.length ≤ n) : Asc n (Txt.join ("" : Str) ys) := by
  refine ⟨?_, fun c hc => ?_⟩
  · rw [← str_len, tl_join0, List.length_flatten, List.map_map]
    refine Nat.le_trans ?_ hl
    clear hl
    induction ys with
    | nil => exact Nat.le_refl _
    | cons y ys ih =>
      rw [List.map_cons, List.sum_cons, List.length_cons]
      have a := (h y (List.mem_cons_self ..)).1
      rw [← str_len] at a
      have b := ih fun z hz => h z (List.mem_cons_of_mem _ hz)
      show y.cps.toList.length + _ ≤ _
      omega
  · rw [tl_join0] at hc
    obtain ⟨l, hl1, hl2⟩ := List.mem_flatten.mp hc
    obtain ⟨y, hy, rfl⟩ := List.mem_map.mp hl1
    exact (h y hy).2 c hl2
theorem tl_numT (n : Nat) : (Str.ofString (toString ((n : Nat) : Int))).cps.toList = TL.numL n := TL.tl_num n
theorem Asc.one {n : Nat} (h : n < 128) : Asc 1 ⟨#[n]⟩ := ⟨Nat.le_refl _, fun c hc => by
  have : c = n := by simpa using hc
  omega⟩
/-- a written text -/
theorem Asc.lit {n : Nat} {z : Str} (h : (decide (z.length ≤ n) && z.cps.toList.all (· < 128)) = true) : Asc n z := by
  rw [Bool.and_eq_true, decide_eq_true_eq, List.all_eq_true] at h
  exact ⟨h.1, fun c hc => of_decide_eq_true (h.2 c hc)⟩
theorem Asc.at {n i : Nat} {z : Str} (h : Asc n z) (hi : i < z.length) : ∃ c, atI z.cps.toList (i : Int) = some c ∧ c < 128 := by
  rw [← str_len] at hi
  exact ⟨z.cps.toList[i], atI_nat (List.getElem?_eq_getElem hi), h.2 _ (List.getElem_mem hi)⟩
theorem log_lt {i : Int} {k : Nat} (h : i.natAbs < 2 ^ k) (hk : 0 < k) : i.natAbs.log2 < k := by
  by_cases z : i.natAbs = 0
  · rw [z]
    simpa using hk
  · exact (Nat.log2_lt z).mpr h
theorem rc_strI64 {c : Ctx} {S : Sto} {F : D → Sto → Prop} {i : Int} (h : i.natAbs < 2 ^ 64) (q : F (.str (Str.ofString (toString i))) S) : RC c rStrInt [.int i] S F := rc_strI (Nat.lt_trans (log_lt h (by decide)) (by decide)) q
end VS
namespace VS
open PySem L2 C8 PySem.Spec PyProof.Rows
/-! ### enumerate over a text -/
end VS
namespace VS
open PySem L2 C8 PySem.Spec PyProof.Rows PySem.W
/-! ### list(text) -/
def rListS : CR1 := fun xs H Q => ∃ x : Str, xs = [.str x] ∧ x.length ≤ sizeLine ∧ ∀ l, H l = none → Q (.ref l) (upd H l (.lst (x.cps.toList.map fun n => V.str ⟨#[n]⟩)))
theorem repL_signs {K : PySem.W.Frag} {H : Hp} {T : Sto} : ∀ L : List Nat, RepL K H T (L.map fun n => V.str ⟨#[n]⟩) (L.map fun n => D.str ⟨#[n]⟩)
  | [] => .nil
  | _ :: L => .cons (.str _) (repL_signs L)
section
variable {c : Ctx} {S : Sto} {F : D → Sto → Prop}
theorem rc_listS {x : Str} (hz : x.length ≤ sizeLine) (q : F (.lst (signsD x)) S) : RC c rListS [.str x] S F := fun T us H cl r Q k => by
  cases r with
  | cons h1 t =>
    cases t
    cases h1
    refine ⟨x, rfl, hz, fun l hl => ?_⟩
    have hx : Rep c.K (upd H l (.lst (x.cps.toList.map fun n => V.str ⟨#[n]⟩))) T (.ref l) (.lst (signsD x)) := by
      refine .lst (cl.free hl) upd_same ?_
      exact repL_signs _
    exact k _ _ S T _ (mv_new hl) (cl.new hl) hx q
end
end VS
namespace VS
open PySem L2 C8 PySem.Spec PyProof.Rows
def keyD : Key → D
  | .inl i => .int i
  | .inr x => .str x
theorem keyD_V {K : PySem.W.Frag} {H : Hp} {T : Sto} {k : Key} {v : V} (r : Rep K H T v (keyD k)) : v = kV k := by
  cases k with
  | inl i => cases r; rfl
  | inr x => cases r; rfl
theorem putK_fresh {kvs : List (Key × V)} {k : Key} {v : V} (h : k ∉ kvs.map Prod.fst) : putK kvs k v = kvs ++ [(k, v)] := by
  unfold putK
  rw [if_neg]
  intro z
  rw [List.any_eq_true] at z
  obtain ⟨p, hp, e⟩ := z
  exact h (List.mem_map.mpr ⟨p, hp, of_decide_eq_true e⟩)
theorem mergeK_new : ∀ {more kvs : List (Key × V)}, (kvs.map Prod.fst ++ more.map Prod.fst).Nodup → mergeK kvs more = kvs ++ more
  | [], kvs, _ => (List.append_nil kvs).symm
  | p :: more, kvs, h => by
    show mergeK (putK kvs p.1 p.2) more = _
    have h1 : p.1 ∉ kvs.map Prod.fst := fun z => by
      rw [List.map_cons, List.nodup_append] at h
      exact h.2.2 _ z _ (List.mem_cons_self ..) rfl
    rw [putK_fresh h1, mergeK_new, List.append_assoc]
    · rfl
    · rw [List.map_append, List.append_assoc]
      exact h
theorem repK_keys {K : PySem.W.Frag} {H : Hp} {T : Sto} : ∀ {vs : List (Key × V)} {ds : List (Key × D)}, RepK K H T vs ds → vs.map Prod.fst = ds.map Prod.fst
  | _, _, .nil => rfl
  | _, _, .cons _ t => by rw [List.map_cons, List.map_cons, repK_keys t]
def VPs (c : Ctx) (trs : List (TE × TE)) (ρ : Rho) (S : Sto) (F : List (Key × D) → Sto → Prop) : Prop := ∀ T σ H, In c σ H ρ S T → ∀ Q : List (V × V) → Hp → Prop,
  (∀ kvs es S' T' H', Mv T H T' H' → Cells c.K H' S' T' → RepK c.K H' T' kvs es → F es S' → Q (kvs.map fun kv => (kV kv.1, kv.2)) H') → tPairs trs σ H Q
section
variable {c : Ctx} {ρ : Rho} {S : Sto} {F : D → Sto → Prop} {d : D}
theorem vps_nil {G : List (Key × D) → Sto → Prop} (q : G [] S) : VPs c [] ρ S G := fun T σ H I Q k => k [] [] S T H Mv.refl I.cells .nil q
theorem vps_cons {tk tv : TE} {trs : List (TE × TE)} {G : List (Key × D) → Sto → Prop} (h : VE c tk ρ S fun x S1 => ∃ key, x = keyD key ∧ VE c tv ρ S1 fun y S2 => VPs c trs ρ S2 fun es S3 => G ((key, y) :: es) S3) : VPs c ((tk, tv) :: trs) ρ S G := fun T σ H I Q k =>
  h T σ H I _ fun vx x S1 T1 H1 m1 c1 r1 ⟨key, e, h1⟩ => h1 T1 σ H1 (I.mv m1 c1) _ fun vy y S2 T2 H2 m2 c2 r2 h2 => h2 T2 σ H2 (I.mv (m1.trans m2) c2) _ fun kvs es S3 T3 H3 m3 c3 r3 q => by
    subst e
    cases keyD_V r1
    exact k ((key, vy) :: kvs) ((key, y) :: es) S3 T3 H3 (m1.trans (m2.trans m3)) c3 (.cons (r2.mv m3) r3) q
/-- {k: v, ..}, by value -/
theorem ve_disp {trs : List (TE × TE)} (h : VPs c trs ρ S fun es S1 => es.length ≤ 15 ∧ (es.map Prod.fst).Nodup ∧ F (.dK es) S1) : VE c (tDisp trs) ρ S F := fun T σ H I Q k => fun p hp =>
  h (put T p .hid) σ (upd H p (.dK [])) (I.mv (mv_newc hp) (I.cells.newh hp)) _ fun kvs es S' T' H' m cl r ⟨h1, h2, q⟩ => by
    obtain ⟨hx, s⟩ := m.hid p _ put_same upd_same
    have hl : kvs.length = es.length := by
      have e := congrArg List.length (repK_keys r)
      simpa using e
    refine ⟨hx, kvs, rfl, by rw [hl]; exact h1, ?_⟩
    have em : mergeK [] kvs = kvs := by
      have e := mergeK_new (kvs := []) (more := kvs) (by rw [repK_keys r]; exact h2)
      exact e
    rw [em]
    have mm : Mv T H T' (upd H' p (.dK kvs)) := ((mv_newc (d := .hid) hp).trans m).hidw hp
    refine k _ (.dK es) S' (del T' p) _ (mm.unhid hp) ((cl.hidw s).unhid s) (.dK del_same (.inl upd_same) ((r.mk (mk_hid s)).mk (mk_show s))) q
end
end VS
namespace VS
open PySem L2 C8 PySem.Spec PyProof.Rows
/-! ### how long a shown thing is -/
structure Sh (d : D) (n k : Nat) : Prop where
  p : isP d = true
  s : (pd d).showable = true
  l : (pd d).shown.length ≤ n
  d : (pd d).depth ≤ k
structure ShL (xs : List D) (n k : Nat) : Prop where
  p : isPL xs = true
  s : PyData.showableAll (pdL xs) = true
  l : piled (PyData.shownAll (pdL xs)) ≤ n
  d : PyData.depthAll (pdL xs) ≤ k
theorem Sh.non : Sh .non 4 0 := ⟨rfl, rfl, (by decide +kernel), Nat.le_refl _⟩
theorem Sh.bl (b : Bool) : Sh (.bl b) 5 0 := ⟨rfl, rfl, (by cases b <;> decide +kernel), Nat.le_refl _⟩
theorem Sh.str {n : Nat} {z : Str} (h : Asc n z) : Sh (.str z) (10 * n + 2) 0 := ⟨rfl, rfl, (by
  have q := StrLaws.reprText_len z fun c hc => Nat.lt_of_lt_of_le (h.2 c hc) (by decide)
  have := h.1
  show (reprText z).length ≤ _
  omega), Nat.le_refl _⟩
theorem Sh.int {i : Int} {k : Nat} (h : i.natAbs < 2 ^ k) (hk : 0 < k) (hk2 : k ≤ 1920) : Sh (.int i) (k + 2) 0 := ⟨rfl, (by
  show decide (i.natAbs.log2 < 1920) = true
  exact decide_eq_true (Nat.lt_of_lt_of_le (log_lt h hk) hk2)), (by
  show (Str.ofString (toString i)).length ≤ k + 2
  have up : ∀ m : Nat, m < 2 ^ k → (TL.numL m).length ≤ k := fun m hm => TL.numL_len hk (Nat.lt_of_lt_of_le hm (Nat.pow_le_pow_left (by decide) k))
  cases i with
  | ofNat m =>
    rw [← str_len]
    have e : (Str.ofString (toString (Int.ofNat m))).cps.toList = TL.numL m := tl_numT m
    rw [e]
    have := up m h
    omega
  | negSucc m =>
    have e : toString (Int.negSucc m) = "-" ++ toString (m + 1) := rfl
    rw [e, ← str_len]
    have e2 : (Str.ofString ("-" ++ toString (m + 1))).cps.toList = 45 :: TL.numL (m + 1) := by
      have a : (Str.ofString ("-" ++ toString (m + 1))).cps.toList = ("-" ++ toString (m + 1)).toList.map Char.toNat := TL.tl_ofString _
      have b : TL.numL (m + 1) = (toString (m + 1)).toList.map Char.toNat := (tl_numT (m + 1)).symm.trans (TL.tl_ofString _)
      rw [a, b, String.toList_append, List.map_append]
      rfl
    rw [e2, List.length_cons]
    have := up (m + 1) h
    omega), Nat.le_refl _⟩
theorem ShL.nil : ShL [] 0 0 := ⟨rfl, rfl, Nat.le_refl _, Nat.le_refl _⟩
theorem ShL.cons {d : D} {ds : List D} {a b i j : Nat} (h : Sh d a i) (t : ShL ds b j) : ShL (d :: ds) (a + 2 + b) (max i j) := ⟨by
  show (isP d && isPL ds) = true
  rw [h.p, t.p]; rfl, by
  show ((pd d).showable && PyData.showableAll (pdL ds)) = true
  rw [h.s, t.s]; rfl, by
  show ((pd d).shown.length + 2) + piled (PyData.shownAll (pdL ds)) ≤ _
  have := h.l
  have := t.l
  omega, by
  show max (pd d).depth (PyData.depthAll (pdL ds)) ≤ _
  have := h.d
  have := t.d
  omega⟩
theorem Sh.mono {d : D} {n m k j : Nat} (h : Sh d n k) (a : n ≤ m) (b : k ≤ j) : Sh d m j := ⟨h.p, h.s, Nat.le_trans h.l a, Nat.le_trans h.d b⟩
theorem ShL.mono {d : List D} {n m k j : Nat} (h : ShL d n k) (a : n ≤ m) (b : k ≤ j) : ShL d m j := ⟨h.p, h.s, Nat.le_trans h.l a, Nat.le_trans h.d b⟩
theorem lit1 : ("[" : Str).length = 1 ∧ ("]" : Str).length = 1 ∧ ("(" : Str).length = 1 ∧ (")" : Str).length = 1 ∧ (",)" : Str).length = 2 ∧ ("{" : Str).length = 1 ∧ ("}" : Str).length = 1 ∧ (": " : Str).length = 2 := by decide +kernel
theorem listText_len : ∀ ts : List Str, (listText ts).length ≤ piled ts + 2
  | [] => by decide +kernel
  | t :: r => by
    have h := textFrom_length_pos r 1 (("[" : Str) ++ (if (0 : Nat) > 0 then ", " else "" : String) ++ t) (Nat.succ_pos 0)
    have e : ((("[" : Str) ++ (if (0 : Nat) > 0 then ", " else "" : String) ++ t)).length = 1 + t.length := by
      rw [len_add, len_add]; rfl
    have hX : (listText (t :: r)).length = (textFrom 0 "[" (t :: r)).length + 1 := by
      show (textFrom 0 "[" (t :: r) ++ "]").length = _
      rw [len_add]; rfl
    have hY : (textFrom 0 "[" (t :: r)).length = (textFrom 1 (("[" : Str) ++ (if (0 : Nat) > 0 then ", " else "" : String) ++ t) r).length := rfl
    rw [hX, hY, h, e, piled_cons]; omega
theorem join_len : ∀ ts : List Str, (Str.join ", " ts).length ≤ piled ts
  | [] => by decide +kernel
  | t :: r => by
    have := join_length_add (t :: r) (by simp)
    omega
theorem Sh.lst {xs : List D} {n k : Nat} (h : ShL xs n k) : Sh (.lst xs) (n + 2) (k + 1) := ⟨h.p, h.s, by
  show (listText (PyData.shownAll (pdL xs))).length ≤ _
  have := listText_len (PyData.shownAll (pdL xs))
  have := h.l
  omega, Nat.succ_le_succ h.d⟩
theorem Sh.tup {xs : List D} {n k : Nat} (h : ShL xs n k) : Sh (.tup xs) (n + 3) (k + 1) := ⟨h.p, h.s, by
  show (tupleText (PyData.shownAll (pdL xs))).length ≤ _
  have := join_len (PyData.shownAll (pdL xs))
  have := h.l
  have e := lit1
  unfold tupleText
  rw [len_add, len_add]
  split <;> omega, Nat.succ_le_succ h.d⟩
theorem rc_reprS {c : Ctx} {S : Sto} {F : D → Sto → Prop} {x d : D} {n k : Nat} (h : Vw S x d) (sh : Sh d n k) (hn : n ≤ 1000000) (hk : k ≤ 50) (q : F (.str (pd d).shown) S) : RC c (rRepr c.K) [x] S F :=
  rc_repr h sh.p sh.s (Nat.le_trans sh.l (Nat.le_trans hn szl)) (Nat.le_trans sh.d hk) q
end VS
namespace VS
open PySem L2 C8 PySem.Spec PyProof.Rows
theorem rngD_at {i : Nat} {d : D} {j : Int} (h : (rngD 0 j.toNat)[i]? = some d) : d = .int (i : Nat) ∧ (i : Int) < j := by
  have hi : i < j.toNat := by
    have := (List.getElem?_eq_some_iff.mp h).1
    unfold rngD at this
    simpa using this
  unfold rngD at h
  rw [List.getElem?_map, List.getElem?_range hi] at h
  cases h
  refine ⟨?_, by omega⟩
  show D.int (0 + (i : Int)) = D.int (i : Int)
  rw [Int.zero_add]
theorem mmB {a b l : Int} (h0 : 0 ≤ a) (h : a ≤ b) : 0 ≤ (if (if l < b then l else b) > a then (if l < b then l else b) else a) ∧ (if (if l < b then l else b) > a then (if l < b then l else b) else a) ≤ b := by
  split <;> (try split) <;> omega
/-- for k in range(max(a, min(b, len(script)))) : the cells of a law -/
theorem vi_cells {c : Ctx} {ρ : Rho} {S : Sto} {W : List D → Sto → Prop} {ns : List Int} {a b : Int} {i : Nat} (h0 : 0 ≤ a) (hab : a ≤ b) (hb : b < 1000) (hv : ρ[i]? = some (some (.rol (ns.map .int)))) (h : ∀ j : Int, 0 ≤ j → j ≤ b → W (rngD 0 j.toNat) S) :
    VI c (iRng1 (tCons (tCB rMax2 (tCons (tC (V.int a)) (tCons (tCB rMin2 (tCons (tC (V.int b)) (tCons (tCB (rLen c.K) (tCons (tVar i) tNil)) tNil))) tNil))) tNil)) ρ S W := by
  refine vi_rng1 (va_cons (ve_cb (va_cons (ve_int (va_cons (ve_cb (va_cons (ve_int (va_cons (ve_cb (va_cons (ve_var hv (va_nil (rc_lenQ (.l .r) (va_nil (rc_min2 (va_nil (rc_max2 (va_nil ?_)))))))))))))))))))
  have m := mmB (a := a) (b := b) (l := (((ns.map D.int).length : Nat) : Int)) h0 hab
  generalize (if (if (((ns.map D.int).length : Nat) : Int) < b then (((ns.map D.int).length : Nat) : Int) else b) > a then (if (((ns.map D.int).length : Nat) : Int) < b then (((ns.map D.int).length : Nat) : Int) else b) else a) = j at m ⊢
  exact ⟨j, rfl, by omega, h j m.1 m.2⟩
theorem ex_keyS {z : Str} {G : Key → Prop} (h : G (.inr z)) : ∃ k, D.str z = keyD k ∧ G k := ⟨.inr z, rfl, h⟩
theorem ex_keyI {z : Int} {G : Key → Prop} (h : G (.inl z)) : ∃ k, D.int z = keyD k ∧ G k := ⟨.inl z, rfl, h⟩
end VS
namespace VS
open PySem L2 C8 PySem.Spec PyProof.Rows
/-! ### words -/
def sp (w L : List Nat) : List (List Nat) := TL.spl [32] 0 w L
def W (z : Str) : List Str := Txt.split z " "
theorem joinL_mem (S : List Nat) (c : Nat) : ∀ ps : List (List Nat), c ∈ TL.joinL S ps → c ∈ S ∨ ∃ p ∈ ps, c ∈ p
  | [], h => by cases h
  | [p], h => .inr ⟨p, List.mem_cons_self .., h⟩
  | p :: q :: r, h => by
    have h' : c ∈ p ++ (S ++ TL.joinL S (q :: r)) := h
    rcases List.mem_append.mp h' with h1 | h1
    · exact .inr ⟨p, List.mem_cons_self .., h1⟩
    · rcases List.mem_append.mp h1 with h2 | h2
      · exact .inl h2
      · rcases joinL_mem S c (q :: r) h2 with h3 | ⟨p', h3, h4⟩
        · exact .inl h3
        · exact .inr ⟨p', List.mem_cons_of_mem _ h3, h4⟩
theorem joinL_len' (S : List Nat) {m : Nat} : ∀ ps : List (List Nat), (∀ p ∈ ps, p.length ≤ m) → (TL.joinL S ps).length ≤ ps.length * (m + S.length)
  | [], _ => by simp [TL.joinL]
  | [p], h => by
    have := h p (List.mem_cons_self ..)
    show p.length ≤ 1 * _
    omega
  | p :: q :: r, h => by
    have ih := joinL_len' S (q :: r) fun x hx => h x (List.mem_cons_of_mem _ hx)
    have := h p (List.mem_cons_self ..)
    show (p ++ (S ++ TL.joinL S (q :: r))).length ≤ _
    rw [List.length_append, List.length_append]
    have e : (p :: q :: r).length * (m + S.length) = (q :: r).length * (m + S.length) + (m + S.length) := by
      rw [List.length_cons, Nat.succ_mul]
    omega
theorem Asc.join {n m k : Nat} {x : Str} {ys : List Str} (hx : Asc k x) (h : ∀ y ∈ ys, Asc m y) (hl : ys.length ≤ n) : Asc (n * (m + k)) (Txt.join x ys) := by
  have e : (Txt.join x ys).cps.toList = TL.joinL (TL.tl x) (ys.map TL.tl) := (congrArg TL.tl (TL.join_eq x ys)).trans (TL.tl_join x ys)
  refine ⟨?_, fun c hc => ?_⟩
  · rw [← str_len, e]
    have q := joinL_len' (TL.tl x) (m := m) (ys.map TL.tl) fun p hp => by
      obtain ⟨y, hy, rfl⟩ := List.mem_map.mp hp
      exact Nat.le_trans (Nat.le_of_eq (str_len y)) (h y hy).1
    refine Nat.le_trans q ?_
    rw [List.length_map]
    have hk : (TL.tl x).length ≤ k := Nat.le_trans (Nat.le_of_eq (str_len x)) hx.1
    exact Nat.mul_le_mul hl (by omega)
  · rw [e] at hc
    rcases joinL_mem _ _ _ hc with q | ⟨p, hp, q⟩
    · exact hx.2 c q
    · obtain ⟨y, hy, rfl⟩ := List.mem_map.mp hp
      exact (h y hy).2 c q
/-! ### text * int, list * int, extend, split by value -/
section
variable {c : Ctx} {ρ : Rho} {S : Sto} {F : D → Sto → Prop} {d : D}
theorem RepL.rep {K : PySem.W.Frag} {H : Hp} {T : Sto} {xs : List V} {ds : List D} (r : RepL K H T xs ds) : ∀ n : Nat, RepL K H T (List.replicate n xs).flatten (List.replicate n ds).flatten
  | 0 => .nil
  | n + 1 => by
    rw [List.replicate_succ, List.replicate_succ, List.flatten_cons, List.flatten_cons]
    exact r.append (RepL.rep r n)
end
/-- all that was there is there -/
def Ext (S S' : Sto) : Prop := ∀ q d, S q = some d → S' q = some d
theorem Ext.refl {S : Sto} : Ext S S := fun _ _ h => h
theorem Ext.trans {S S' S'' : Sto} (a : Ext S S') (b : Ext S' S'') : Ext S S'' := fun q d h => b q d (a q d h)
theorem Ext.put {S : Sto} {p : Addr} {d : D} (h : S p = none) : Ext S (put S p d) := fun q e hq => by
  rw [put_ne]
  · exact hq
  · intro z; subst z; rw [h] at hq; cases hq
theorem Ext.wr {S S' : Sto} {p : Addr} {d : D} (h : S p = none) (x : Ext S S') : Ext S (VS.put S' p d) := fun q e hq => by
  rw [put_ne]
  · exact x q e hq
  · intro z; subst z; rw [h] at hq; cases hq
theorem atI_mem {α : Type} {xs : List α} {i : Int} (h0 : 0 ≤ i) (h1 : i < xs.length) : ∃ x ∈ xs, atI xs i = some x := by
  obtain ⟨k, rfl⟩ := Int.eq_ofNat_of_zero_le h0
  have hk : k < xs.length := Int.ofNat_lt.mp h1
  exact ⟨xs[k], List.getElem_mem hk, atI_nat (List.getElem?_eq_getElem hk)⟩
/-- all that was there, but for what lies at p, is there -/
def Ex1 (p : Addr) (S S' : Sto) : Prop := ∀ q d, q ≠ p → S q = some d → S' q = some d
theorem Ex1.refl {p : Addr} {S : Sto} : Ex1 p S S := fun _ _ _ h => h
theorem Ex1.trans {p : Addr} {S S' S'' : Sto} (a : Ex1 p S S') (b : Ex1 p S' S'') : Ex1 p S S'' := fun q d h e => b q d h (a q d h e)
theorem Ext.ex1 {p : Addr} {S S' : Sto} (a : Ext S S') : Ex1 p S S' := fun q d _ e => a q d e
theorem Ex1.wr {S S' : Sto} {p l : Addr} {d : D} (h : S l = none) (x : Ex1 p S S') : Ex1 p S (VS.put S' l d) := fun q e n hq => by
  rw [put_ne]
  · exact x q e n hq
  · intro z; subst z; rw [h] at hq; cases hq
/-- within a comprehension's block: K named -/
theorem kC {X : Cx} {K : PySem.W.Frag} {v : Value} {r : PySem.W.Frag → CR1} (c : CallR X v (r X.K)) (h : X.K = K := by rfl) : CallR X v (r K) := h ▸ c
theorem kI {X : Cx} {K : PySem.W.Frag} {r : PySem.W.Frag → R2} (c : IxR X (r X.K)) (h : X.K = K := by rfl) : IxR X (r K) := h ▸ c
theorem kO {X : Cx} {K : PySem.W.Frag} {f : Value → Value → Sem Value} {r : PySem.W.Frag → R2} (c : OpR X f (r X.K)) (h : X.K = K := by rfl) : OpR X f (r K) := h ▸ c
theorem ShL.uncons {d : D} {ds : List D} {n k : Nat} (h : ShL (d :: ds) n k) : ∃ a b, Sh d a k ∧ ShL ds b k ∧ a + 2 + b ≤ n := by
  have hp : (isP d && isPL ds) = true := h.p
  have hs : ((pd d).showable && PyData.showableAll (pdL ds)) = true := h.s
  have hl : ((pd d).shown.length + 2) + piled (PyData.shownAll (pdL ds)) ≤ n := h.l
  have hd : max (pd d).depth (PyData.depthAll (pdL ds)) ≤ k := h.d
  rw [Bool.and_eq_true] at hp hs
  exact ⟨_, _, ⟨hp.1, hs.1, Nat.le_refl _, by omega⟩, ⟨hp.2, hs.2, Nat.le_refl _, by omega⟩, hl⟩
theorem ShL.append : ∀ {xs ys : List D} {a b k : Nat}, ShL xs a k → ShL ys b k → ShL (xs ++ ys) (a + b) k
  | [], ys, a, b, k, _, h => h.mono (by omega) (Nat.le_refl _)
  | x :: xs, ys, a, b, k, h, h2 => by
    obtain ⟨c, e, h3, h4, h5⟩ := h.uncons
    exact ((ShL.cons h3 (ShL.append h4 h2)).mono (by omega) (by omega))
end VS
namespace VS
open PySem L2 C8 PySem.Spec PyProof.Rows
/-! ### x in a tuple of data -/
def rInP (K : PySem.W.Frag) : R2 := fun x y H Q => ∃ d ds T, Rep K H T x d ∧ Rep K H T y (.tup ds) ∧ isP d = true ∧ isP (.tup ds) = true ∧ SeqAt.shaped (pd d) = true ∧ SeqAt.shaped (pd (.tup ds)) = true ∧ Q (.bl ((pdL ds).any fun z => PyData.eqv z (pd d))) H
section
variable {X : Cx} {k : Nat}
theorem op_inP (hr : Room k X.A) (hs : SysOk X.base) : OpR X (compareOp .In) (rInP X.K) := by
  intro pins s σ H x y v u Q I rx ry h
  obtain ⟨d, ds, T, r1, r2, i1, i2, s1, s2, q⟩ := h
  obtain ⟨as, h1, _⟩ := Rep.reads hs I d x v r1 i1 rx
  obtain ⟨bs, h2, _⟩ := Rep.reads hs I (.tup ds) y u r2 i2 ry
  have hu : X.A.units + 65 < cLine := by have := hr.un; omega
  exact SeqAt.in_tuple_reads h2 h1 (SeqAt.canLay_of_shaped s2) (SeqAt.canLay_of_shaped s1) (room_in_shaped s1 hu) ⟨.bl _, H, I, rfl, q⟩
end
section
variable {c : Ctx} {S : Sto} {F : D → Sto → Prop}
theorem rv_inP {d : D} {ds : List D} (i1 : isP d = true) (i2 : isP (.tup ds) = true) (s1 : SeqAt.shaped (pd d) = true) (s2 : SeqAt.shaped (pd (.tup ds)) = true) (q : F (.bl ((pdL ds).any fun z => PyData.eqv z (pd d))) S) : RV c (rInP c.K) d (.tup ds) S F := fun T u w H cl r1 r2 Q k =>
  ⟨d, ds, T, r1, r2, i1, i2, s1, s2, k _ _ S T H Mv.refl cl (.bl _) q⟩
end
theorem asc_ok {z : Str} (h : ∀ c ∈ z.cps.toList, c < 128) : (pd (.str z)).canLay0 = true := by
  show z.cps.all (· < 0x110000) = true
  rw [← Array.all_toList]
  exact List.all_eq_true.mpr fun c hc => decide_eq_true (Nat.lt_trans (h c hc) (by decide))
theorem kBM {X : Cx} {K : PySem.W.Frag} {e : Expr} {ty : String} {r : MR1} {to : TE} {t : TA} (c : PE X e (tBM X.K ty r to t)) (h : X.K = K := by rfl) : PE X e (tBM K ty r to t) := h ▸ c
theorem kFld {X : Cx} {K : PySem.W.Frag} {e : Expr} {f : Str} {to : TE} (c : PE X e (tFld X.K to f)) (h : X.K = K := by rfl) : PE X e (tFld K to f) := h ▸ c
section
variable {c : Ctx} {ρ : Rho} {S : Sto} {F : D → Sto → Prop}
theorem ve_dnew (q : F (.dK []) S) : VE c tDNewK ρ S F := fun T σ H I Q k => fun p hp =>
  k _ (.dK []) S T _ (mv_new hp) (I.cells.new hp) (.dK (I.cells.free hp) (.inl upd_same) .nil) q
end
theorem kTup {X : Cx} {K : PySem.W.Frag} {e : Expr} {n : Nat} {t : TGs} (c : PG X e (gTup X.K n t)) (h : X.K = K := by rfl) : PG X e (gTup K n t) := h ▸ c
end VS
namespace VS
open PySem L2 PySem.Spec PyProof.Rows
/-! ### own exception classes over any exception of the language -/
/-- what the written part's chain bm of classes (made by nid) must have -/
structure BmG (bm : List Value) (nid : String) : Prop where
  fact : ∃ B ini bmB, ExcBaseFacts B nid ini bmB ∧ bm.contains (.type B) = true
  noA : bm.contains (.type "AttributeError") = false
  noN : bm.contains (.type "NameError") = false
  obj : bm.contains (.type "object") = true
  pass : ∀ self, refuseLoop self "__setattr__" bm = pure ()
theorem BmG.ne {bm : List Value} {nid : String} (b : BmG bm nid) : bm.isEmpty = false := by
  cases bm with
  | nil => exact absurd b.obj (by decide)
  | cons _ _ => rfl
theorem BmG.up {bm : List Value} {nid : String} {c : Addr} (b : BmG bm nid) : BmG (.ref c :: bm) nid := by
  have k : ∀ X : String, (Value.ref c :: bm).contains (.type X) = bm.contains (.type X) := fun X => by rw [List.contains_cons]; rfl
  obtain ⟨B, ini, bmB, F, h⟩ := b.fact
  exact ⟨⟨B, ini, bmB, F, (k B).trans h⟩, (k _).trans b.noA, (k _).trans b.noN, (k _).trans b.obj, fun self => by rw [refuseLoop_ref]; exact b.pass self⟩
theorem bmG_VE : BmG [.type "ValueError", .type "Exception", .type "BaseException", .type "object"] "ValueError.__new__" := ⟨⟨_, _, _, F.excBase_ValueError, by decide +kernel⟩, by decide +kernel, by decide +kernel, by decide +kernel, fun self => by kernel_rfl⟩
theorem bmG_KE : BmG [.type "KeyError", .type "LookupError", .type "Exception", .type "BaseException", .type "object"] "LookupError.__new__" := ⟨⟨_, _, _, F.excBase_LookupError, by decide +kernel⟩, by decide +kernel, by decide +kernel, by decide +kernel, fun self => by kernel_rfl⟩
structure OexG (K : PySem.W.Frag) (C : Addr) : Prop where
  cls : ∃ nm q N bs bm sn sub ab col dd k0 k1 k2 k3 k5 nid, K.lookup C = some (excClassObj nm q C N bs bm true sn sub ab col dd k0 k1 k2 k3 k5 nid) ∧ BmG bm nid
  sa : PySem.W.findIn K (.ref C) "__setattr__" = some (some (.builtin "object.__setattr__"))
  exC : PySem.W.subIn K (.ref C) (.type "BaseException") = some true
  tyC : PySem.W.typeIn K (.ref C) = some (.type "type")
  kC : PySem.W.keepIn K (.ref C) = true
end VS
namespace PySem
namespace VSX
open VS HandSPX Builtin PySem.Calls
section
variable {M : Model} {prog : Program} {w : World} {A : Around} {E : Value → Shared → Prop} {R : Result → Shared → Prop} {h : Heap} {g : Array GenState} {d : Drawn} {t : Nat} {os : OsState}
variable {nm q : Str} {C N : Addr} {bs bm : List Value} {hdct : Bool} {sn : List Str} {sub : List Value} {ab : Bool} {col : Option Bool} {dd : Option Addr} {k0 k1 k2 k3 k5 : Option Value} {nid : String}
theorem upC {bm : List Value} {X : String} {v : Bool} {C : Addr} (e : bm.contains (.type X) = v) : (Value.ref C :: bm).contains (.type X) = v := by rw [List.contains_cons, e]; rfl
theorem new_ownG (b : BmG bm nid) {rest : List Value} (hC : h.get? C = some (excClassObj nm q C N bs bm hdct sn sub ab col dd k0 k1 k2 k3 k5 nid))
    (hq : R (.ok (.ret (.ref (h.objs.size + 1)))) ⟨(h.push (PySem.W.kdv_tup rest)).push (excO C h.objs.size), g, d, t, os⟩) (hrest : rest.length ≤ sizeLine) :
    codeAny (model prog w) A (.builtin nid ⟨.ref C :: rest, []⟩) R ⟨h, g, d, t, os⟩ := by
  obtain ⟨B, ini, bmB, F, hB⟩ := b.fact
  have hcB := upC (C := C) hB
  have hcA := upC (C := C) b.noA
  have hcN := upC (C := C) b.noN
  have hends := F.ends
  refine codeAny_builtinAt F.entry ?_
  unfold Builtin.«BaseException.__new__»
  refine wpAt_bind ?_
  show wpAt _ _ _ (stack >>= _) _ _ _
  refine wpAt_bind (wpAt_stack fun p below => wpAt_of_wpAny ?_)
  wp_walk
  refine wpAt_of_wpAny ?_
  rw [F.owner]
  repeat (first | with_reducible refine wpAny_madeHere_exc F.canon hC ?_ | with_reducible refine wpAny_loadPart_at hC ?_ | (with_reducible refine wpAny_isSubtype_exc hC ?_; first | rw [hcB] | rw [hcA] | rw [hcN]) | wp_step)
  show R _ _
  rw [Heap.size_push]
  exact hq
theorem type_callG (b : BmG bm nid) {rest : List Value} {fI : Addr} {Q : Fin → Shared → Prop}
    (hC : h.get? C = some (excClassObj nm q C N bs bm hdct sn sub ab col dd k0 k1 k2 k3 k5 nid))
    (hi : PySem.W.Looks (model prog w) h (typeLookup (.ref C) "__init__") (some (.ref fI))) (hb : ∀ self, PySem.W.Looks (model prog w) h (bindSpecial (.ref fI) self) (.ref fI, [self])) (hrest : rest.length ≤ sizeLine)
    (hq : codeAny (model prog w) A (.call (.ref fI) ⟨.ref (h.objs.size + 1) :: rest, []⟩)
      (fun r s' => match r with | .ok (.ret v) => v = .none ∧ Q (.done (.ret (.ref (h.objs.size + 1)))) s' | .ok _ => False | .error e => E e s')
      ⟨(h.push (PySem.W.kdv_tup rest)).push (excO C h.objs.size), g, d, t, os⟩) :
    wpAny (model prog w) A (Builtin.«type.__call__» ⟨.ref C :: rest, []⟩) Q E ⟨h, g, d, t, os⟩ := by
  obtain ⟨B, ini, bmB, F, hB⟩ := b.fact
  have hcB := upC (C := C) hB
  have hcA := upC (C := C) b.noA
  have hcN := upC (C := C) b.noN
  repeat (first | with_reducible refine wpAny_loadPart_at hC ?_ | with_reducible refine wpAny_madeBy_exc hC ?_ | wp_step)
  refine codeAny_call_builtin_code (Code.quiet_builtin _ F.quiet) ?_
  have hstar := F.noStar
  simp only [checkBuiltinCall, F.newKind, F.newSplit, F.newRow]
  repeat (first | refine wpAny_loadPart_at hC ?_ | (refine wpAny_isSubtype_exc hC ?_; rw [hcB]) | refine wpAny_staticBase_exc hC ?_ | refine wpAny_madeBy_exc hC ?_ | simp only [bne_self_eq_false, Bool.false_eq_true, if_false] | wp_step)
  refine new_ownG b hC ?_ hrest
  show wpAny _ _ _ _ _ _
  have k : ∀ b o, h.get? b = some o → ((h.push (PySem.W.kdv_tup rest)).push (excO C h.objs.size)).get? b = some o := fun b o e => Heap.get?_push_of_some _ (Heap.get?_push_of_some _ e)
  have hC₁ := k _ _ hC
  have hget : ((h.push (PySem.W.kdv_tup rest)).push (excO C h.objs.size)).get? (h.objs.size + 1) = some (excO C h.objs.size) := by heap_get
  have hcC : (Value.ref C :: bm).contains (.ref C) = true := by simp
  have i1 := hi.keeps k
  have b1 := (hb (.ref (h.objs.size + 1))).keeps k
  unfold isInstance
  repeat (first | with_reducible refine wpAny_loadPart_at hget ?_ | (with_reducible refine wpAny_isSubtype_exc hC₁ ?_; rw [hcC]) | wp_step)
  show wpAny _ _ (typeLookup (.ref C) _) _ _ _
  refine i1.at ?_
  refine wpAny_holding (wpAny_bind (b1.at ?_))
  refine wpAny_bind (wpAny_call (codeAny_mono hq fun r s' z => ?_))
  rcases r with e | (v | _ | _ | _) <;> first | exact z | exact z.elim | skip
  obtain ⟨rfl, z⟩ := z
  first
    | exact wpAny_pure (wpAny_pure z)
    | (wp_walk; exact z)
theorem call_ownG (b : BmG bm nid) {rest : List Value} {fI : Addr}
    (hC : h.get? C = some (excClassObj nm q C N bs bm hdct sn sub ab col dd k0 k1 k2 k3 k5 nid))
    (hi : PySem.W.Looks (model prog w) h (typeLookup (.ref C) "__init__") (some (.ref fI))) (hb : ∀ self, PySem.W.Looks (model prog w) h (bindSpecial (.ref fI) self) (.ref fI, [self])) (hrest : rest.length ≤ sizeLine)
    (hq : codeAny (model prog w) (A.under (.builtin "type.__call__" ⟨.ref C :: rest, []⟩)) (.call (.ref fI) ⟨.ref (h.objs.size + 1) :: rest, []⟩) (PySem.W.InitBack (h.objs.size + 1) R)
      ⟨(h.push (PySem.W.kdv_tup rest)).push (excO C h.objs.size), g, d, t, os⟩) :
    codeAny (model prog w) A (.call (.ref C) ⟨rest, []⟩) R ⟨h, g, d, t, os⟩ := by
  have f1 := tc_lookup
  have f2 := tc_bind (.ref C)
  have hTy : (⟨h, g, d, t, os⟩ : Shared).TypeIs (.ref C) "type" := ⟨_, hC, rfl⟩
  refine codeAny_of_tree ?_
  show wpAny _ _ (callAny (.ref C) _) _ _ _
  repeat (any_goals (first | assumption | with_reducible refine wpAny_loadPart_at hC ?_ | wp_step))
  refine ⟨rfl, ?_⟩
  refine codeAny_call_builtin_at (Code.quiet_builtin _ (by decide +kernel)) entry_typeCall (wpAny_check_type_call_sub hC (type_callG b hC hi hb hrest ?_))
  refine codeAny_mono hq fun r s' z => ?_
  rcases r with e | (v | _ | _ | _) <;> exact z
end
section
open Builtin.ObjectAttr
variable {prog : Program} {w : World} {A : Around} {E : Value → Shared → Prop} {R : Result → Shared → Prop} {hp : Heap} {g : Array GenState} {d : Drawn} {t : Nat} {os : OsState}
theorem exc_osaG {K : W.Frag} {name : Str} {tk : Tok} {v : Value} {x C : Addr} {fv : Array Value} {cd : ClassData} {nid : String} {bm : List Value}
    (X : K.In hp) (hx : hp.get? x = some { cls := .ref C, data := .fields fv }) (hcd : W.clsIn K C = some cd) (b : BmG bm nid) (hm : cd.mro = .ref C :: bm) (hh : cd.hasDict = true) (ha : W.findIn K (.ref C) name = some none)
    (hq : ∀ h' tk' dx, (∀ b o, b ≠ x → hp.get? b = some o → h'.get? b = some o) → hp.objs.size ≤ dx → dx ≠ x → h'.get? x = some { cls := .ref C, dict := some dx, data := .fields fv } →
      h'.Ns1 dx (fun y => if y = name then some v else none) → R (.ok (.ret .none)) ⟨h', g, d, tk', os⟩) :
    codeAny (model prog w) A (.call (.builtin "object.__setattr__") ⟨[.ref x, .str name tk, v], []⟩) R ⟨hp, g, d, t, os⟩ := by
  have I : W.InstAt hp x { cls := .ref C, data := .fields fv } C none := ⟨hx, rfl, rfl, trivial⟩
  have SF := F.store_object
  have ne : cd.mro.isEmpty = false := by rw [hm]; rfl
  have hob : cd.mro.contains (.type "object") = true := by rw [hm]; exact b.up.obj
  have hps : refuseLoop (.ref x) "__setattr__" cd.mro = pure () := by rw [hm]; exact b.up.pass _
  have hxs : x ≠ hp.objs.size := Nat.ne_of_lt (Heap.lt_size hx)
  have sub : W.Looks (model prog w) hp (isInstance (.ref x) (.type "object")) true := I.type.andThen (W.looks_mroIn X (by unfold W.mroIn; rw [hcd, Option.bind_some, if_neg (by rw [ne]; decide), hob]))
  refine codeAny_call_builtin SF.slot.plain SF.entry (@W.check_slot (model prog w) _ _ ⟨hp, g, d, t, os⟩ "object.__setattr__" "object" "__setattr__" (.ref x) [.str name tk, v] [] _ SF.kind SF.split sub (SF.args (.ref x) (.str name tk) v) ?_)
  have hmr : W.Looks (model prog w) hp (mroOf (.ref C)) cd.mro := (W.looks_clsIn X hcd).andThen .now
  have L3 : W.Looks (model prog w) hp (storeTaker? none) none := .now
  have hcls : W.Looks (model prog w) hp (classData C) cd := W.looks_clsIn X hcd
  rw [W.osa_eq, refuse_eq]
  refine wpAny_bind (wpAny_bind (I.type.at (wpAny_bind (hmr.at ?_))))
  rw [hps]
  refine wpAny_pure (wpAny_bind (I.type.at (wpAny_bind ((W.looks_findIn X ha).at (wpAny_bind (L3.at ?_))))))
  show wpAny _ _ (storeInOwnDict (.ref x) (.ref C) (.str name tk) name v false) _ _ _
  obtain ⟨nm, bs, mro, ns, qn, hd, sn, sb, ab, col, del⟩ := cd
  dsimp only at hh
  subst hh
  unfold storeInOwnDict ownDictForStores
  repeat (first | with_reducible refine store_in_new ?_ ?_ | with_reducible refine wpAny_loadPart_at hx ?_ | with_reducible refine hcls.at ?_ | wp_step)
  · exact ⟨_, #[], _, (Heap.get?_update_ne _ _ _ _ hxs.symm).trans (Heap.get?_push_at rfl rfl), rfl, fun e he => absurd he (by simp), fun _ => rfl⟩
  · intro h' tk' hn' hs
    have hx₁ : (hp.push { cls := .type "dict", data := .dict #[] }).get? x = some { cls := .ref C, data := .fields fv } := Heap.get?_push_of_some _ hx
    refine hq h' tk' hp.objs.size (fun b o hb ho => ?_) (Nat.le_refl _) hxs.symm ?_ hn'
    · exact (hs.2 b (Nat.ne_of_lt (Heap.lt_size ho))).trans ((Heap.get?_update_ne _ _ _ _ hb).trans (Heap.get?_push_of_some _ ho))
    · exact (hs.2 x hxs).trans (Heap.get?_update_self _ hx₁ rfl)
end
end VSX
end PySem
namespace VS
open PySem L2 PySem.Spec PyProof.Rows PySem.VSX
theorem ost_newG {X : Cx} {pins : List (Addr × Obj)} {σ : L2.St} {H : Hp} {s : Shared} {a C : Addr} {f : Str} {y : V} {u : Value} {Q : Unit → Shared → Prop} {E : Value → Shared → Prop} {A : Around} (T : OexG X.K C) (I : Inv X pins σ H s) (e : H a = some (exo a C none)) (hno : PySem.W.findIn X.K (.ref C) f = some none) (ry : RelV y u)
    (h : ∀ dx s', H dx = none → dx ≠ a → Inv X pins σ (upd (upd H dx (exd dx [(f, y)])) a (exo a C (some dx))) s' → Q () s') : wpAny (model X.prog X.w) A (setAttr (.ref a) f u) Q E s := by
  obtain ⟨nm, q, N, bs, bm, sn, sub, ab, col, dd, k0, k1, k2, k3, k5, nid, hC, hbm⟩ := T.cls
  have hcl : PySem.W.clsIn X.K C = some { name := nm, bases := bs, mro := .ref C :: bm, ns := N, qualname := q, hasDict := true, slotNames := sn, subclasses := sub, abstract := ab, collection := col, hasDel := false } := by unfold PySem.W.clsIn; rw [hC] <;> rfl
  obtain ⟨t1, ho⟩ := exo_at I.hok e
  obtain ⟨hp, g, d, t, os⟩ := s
  refine PySem.W.set_plain I.kIn (ox := { cls := .ref C, dict := none, data := .fields #[.ref t1, .none, .none, .none, .bool false, .none] }) (od := none) ⟨ho, rfl, rfl, trivial⟩ T.sa ?_
  refine exc_osaG I.kIn ho hcl hbm rfl rfl hno (fun h' tk' dx k dn dne hx hn => ?_)
  have hnd : H dx = none := I.hok.fresh dn
  have nd : ∀ {b : Addr} {o : Obj}, hp.get? b = some o → b ≠ dx := fun {b o} q => Nat.ne_of_lt (Nat.lt_of_lt_of_le (Heap.lt_size q) dn)
  have na : ∀ {b : Addr}, H b = none → b ≠ a := fun {b} n z => by
    rw [z, e] at n
    cases n
  have Un1 : Un X.fs [] H (upd (upd H dx (exd dx [(f, y)])) a (exo a C (some dx))) hp h' := {
    keep := fun b o q n _ _ => k b o (na n) q
    slot := fun b o q n _ _ => ⟨o.slots, k b o (na n) q⟩
    free := fun b o q n _ => by rw [upd_ne (na n), upd_ne (nd q)]; exact n
    there := fun b o q _ => by
      by_cases hb : b = a
      · exact ⟨_, by rw [hb]; exact hx⟩
      · exact ⟨o, k b o hb q⟩
    tups := fun b xs q => by rw [upd_ne (at_ne e q exo_tup), upd_ne (ne_of_none q hnd)]; exact q
    frzs := fun b o v q => by rw [upd_ne (at_ne e q exo_frz), upd_ne (ne_of_none q hnd)]; exact q
    tbls := fun b ps q => ⟨#[], by rw [upd_ne (at_ne e q exo_tbl), upd_ne (ne_of_none q hnd), q]; simp⟩ }
  refine h dx _ hnd dne (I.un (t' := tk') Un1 fun b o q => ?_)
  by_cases hb : b = a
  · subst hb
    rw [upd_same] at q
    cases q
    exact exo_ok hx
  · rw [upd_ne hb] at q
    by_cases hd : b = dx
    · subst hd
      rw [upd_same] at q
      cases q
      exact exd_ok hn (relO_put (fs := []) ry fun g => True.intro)
    · rw [upd_ne hd] at q
      exact (I.hok b o q).stay (fun c v hc z => k c v (by
          rcases hc with hc | hc
          · rw [hc]
            exact hb
          · exact at_ne e hc exo_own) z)
        (fun c hc => by rw [upd_ne (at_ne e hc exo_own), upd_ne (ne_of_none hc hnd)]; exact hc) (fun c xs hc => by rw [upd_ne (at_ne e hc exo_tup), upd_ne (ne_of_none hc hnd)]; exact hc)
/-- self.f = e, the only field -/
def tOstG (K : PySem.W.Frag) (f : Str) (to te : TE) : TS := fun D σ H => te σ H fun y H1 => to σ H1 fun x H2 => ∃ a C : Addr, x = .ref a ∧ OexG K C ∧ PySem.W.findIn K (.ref C) f = some none ∧
  H2 a = some (exo a C none) ∧ ∀ dx, H2 dx = none → dx ≠ a → D.nx σ (upd (upd H2 dx (exd dx [(f, y)])) a (exo a C (some dx)))
section
variable {X : Cx} {o e : Expr} {es : List Expr} {to te : TE} {ta : TA} {f : Str} {p p' p1 p2 pos : Pos}
theorem ps_ostG (ho : PE X o to) (he : PE X e te) (hs : swapsWith e (some (.Attribute o f p')) pos.line X.env = pure false := by rfl) : PS X (.Assign [.Attribute o f p'] e pos) (tOstG X.K f to te) := by
  refine ⟨fun pins s σ H D I h => ?_⟩
  refine plainObj_wpAny_Assign_Attribute (thn (he.run pins s σ H _ I h) fun v s1 ⟨y, H1, I1, r1, q1⟩ => thn (ho.run pins s1 σ H1 _ I1 q1) fun u s2 ⟨x, H2, I2, r2, a, C, ex, T, hno, ea, q⟩ => ?_) hs
  subst ex
  obtain rfl : u = Value.ref a := r2
  exact ost_newG T I2 ea hno r1 fun dx s' n ne J => ⟨σ, _, J, q dx n ne⟩
theorem pmk_oexG {CX : CXT} {x : Str} {C fI : Addr} {k : Nat} {fd : FuncData} {ps : List Str} {sp : Sp} {ds : List Value} {dvs : List V} (T : OexG X.K C) (iC : PySem.W.findIn X.K (.ref C) "__init__" = some (some (.ref fI))) (tI : PySem.W.typeIn X.K (.ref fI) = some (.type "function"))
    (F1 : FnOk X.prog X.w X.K X.mg X.base CX k fI fd ps sp) (hr : Room (k + 1) X.A) (hb : Binds X.K fd ps ds) (hd : Vals dvs ds) (hx : Passes CX X (fun _ _ _ => False)) (hg : Gl X x) (hm : X.mg x = some (.ref C)) (ha : PA X (e :: es) ta)
    (hdb : (x == ("__debug__" : Str)) = false := by decide) (he : starEach (e :: es) X.env = (false, eval e X.env) :: starEach es X.env := by rfl) (hpl : (backTo pos (starEach es X.env)).any (·.1) = false := by rfl) :
    PMk X (.Call (.Name x p) (e :: es) [] pos) (tMkO C sp dvs ta) := by
  intro pins s σ H Q I h
  obtain ⟨nm, q, N, bs, bm, sn, sub, ab, col, dd, k0, k1, k2, k3, k5, nid, hC, hbm⟩ := T.cls
  refine wpAny_Call_Name_kw (ld_glob I hg hm ?_ hdb)
  refine PySem.W.callWith_K (h₀ := X.base) I.ok.mod.kin T.kC (thn (ha.run pos pins s σ H _ I h) fun us s1 ⟨vs, H1, I1, r1, hz, q1⟩ => ⟨I1.kIn, ?_⟩) he hpl
  show wpAny _ _ (call (.ref C) us) _ _ _
  obtain ⟨hp, g, dr, tk, os⟩ := s1
  have hsz : hp.objs.size ≤ hp.objs.size + 1 := Nat.le_succ _
  have hn : H1 (hp.objs.size + 1) = none := I1.hok.fresh hsz
  have hq := q1 (hp.objs.size + 1) hn
  have kk : ∀ b o, hp.get? b = some o → ((hp.push (PySem.W.kdv_tup us)).push (PySem.HandSPX.excO C hp.objs.size)).get? b = some o := fun b o e => Heap.get?_push_of_some _ (Heap.get?_push_of_some _ e)
  have hget : ((hp.push (PySem.W.kdv_tup us)).push (PySem.HandSPX.excO C hp.objs.size)).get? (hp.objs.size + 1) = some (PySem.HandSPX.excO C hp.objs.size) := by heap_get
  have I2 : Inv X pins σ (upd H1 (hp.objs.size + 1) (exo (hp.objs.size + 1) C none)) ⟨(hp.push (PySem.W.kdv_tup us)).push (PySem.HandSPX.excO C hp.objs.size), g, dr, tk, os⟩ :=
    I1.laid (t' := tk) (a := hp.objs.size + 1) (o := exo (hp.objs.size + 1) C none) (h' := (hp.push (PySem.W.kdv_tup us)).push (PySem.HandSPX.excO C hp.objs.size)) kk hsz (exo_ok hget)
  have r2 : Vals (V.ref (hp.objs.size + 1) :: (vs ++ dvs)) (Value.ref (hp.objs.size + 1) :: (us ++ ds)) := .cons rfl (r1.append hd)
  have hl : (Value.ref (hp.objs.size + 1) :: us ++ ds).length = ps.length := by
    have e := r2.length
    rw [F1.len _ _ _ _ hq] at e
    exact e.symm
  have hus : us.length ≤ sizeLine := by
    rw [← Paired.length r1, sizeLine_eq]
    omega
  refine wpAny_call (call_ownG hbm (I1.kIn _ _ hC) (PySem.W.looks_findIn I1.kIn iC) (fun self => PySem.W.bind_fn I1.kIn self tI) hus
    (codeAny_mono (F1.run _ X.stack _ _ ⟨Value.ref (hp.objs.size + 1) :: us, []⟩ (Value.ref (hp.objs.size + 1) :: (us ++ ds)) _ _ (fun _ _ _ => False) (hr.make C us []) (I2.env0.make C us []) (hb _ (Value.ref (hp.objs.size + 1) :: us) I2.kIn hl) r2 hq) fun r s' hq' => ?_))
  cases r with
  | error er => exact hx pins σ _ _ er s' I2 hq'
  | ok fl =>
    cases fl with
    | ret u =>
      obtain ⟨v, H2, os2, bare2, un2, hok2, rv, ev, d, fs, ea, ed, hd1, q2⟩ := hq'
      subst ev
      obtain ⟨h2, g2, d2, t2, os'⟩ := s'
      exact ⟨rv, mk_end (raises_own T.exC T.tyC) I1 hsz kk un2 hok2 os2 bare2 ea ed hd1 q2⟩
    | next => exact False.elim hq'
    | brk => exact False.elim hq'
    | cont => exact False.elim hq'
end
end VS
namespace VS
open PySem L2 PySem.Spec PyProof.Rows PySem.VSX
/-! ### an own exception of one field: its class, its making, raise -/
/-- what __init__ keeps: self.f = v -/
def spXi (C : Addr) (f : Str) : Sp := fun vs H Q _ => ∃ (a : Addr) (v : V), vs = [.ref a, v] ∧ H a = some (exo a C none) ∧ ∀ dx, H dx = none → dx ≠ a → Q .non (upd (upd H dx (exd dx [(f, v)])) a (exo a C (some dx)))
/-- the class x, at C, of exceptions with the field f -/
structure Xc (P : Program) (w : World) (K : PySem.W.Frag) (mg : Str → Option Value) (base : Heap) (x : Str) (C : Addr) (f : Str) : Prop where
  ox : OexG K C
  xf : XfC K C
  no : PySem.W.findIn K (.ref C) f = some none
  at_ : mg x = some (.ref C)
  fn : ∃ (fI : Addr) (fd : FuncData) (ps : List Str), PySem.W.findIn K (.ref C) "__init__" = some (some (.ref fI)) ∧ PySem.W.typeIn K (.ref fI) = some (.type "function") ∧ FnOk P w K mg base C8.CX0 1 fI fd ps (spXi C f) ∧ Binds K fd ps []
section
variable {P : Program} {w : World} {K : PySem.W.Frag} {mg : Str → Option Value} {base : Heap}
theorem xinit_ok {qual : Str} {st : Stmt} {C fI : Addr} {fd : FuncData} {f : Str} {N ps : List Str} (F : Fd K "__init__" qual st [] fI fd) (Sc : FnScope N ps (defScope st)) (h2 : ps.length = 2) (ox : OexG K C) (no : PySem.W.findIn K (.ref C) f = some none)
    (body : ∀ (cdv : Value) (A : Around) (outer : List Env) (s : Shared) (H : Hp) (E : XK), PSs (cxOf C8.CX0 P w K mg base N qual (defScope st) fI cdv A outer s H E) (defBody st) (tOstG K f (tVar 0) (tVar 1))) :
    FnOk P w K mg base C8.CX0 1 fI fd ps (spXi C f) :=
  FunD.ok F Sc (fun vs H Q E h => by obtain ⟨a, v, rfl, _⟩ := h; exact h2.symm) fun cdv A outer s H vs Q E _ h => by
    obtain ⟨a, v, rfl, ha, q⟩ := h
    exact ⟨_, body cdv A outer s H E, v, rfl, .ref a, rfl, a, C, rfl, ox, no, ha, fun dx hn ne => q dx hn ne⟩
end
def tRz (C : Addr) (f : Str) (te : TE) (W : L2.St → XK) : TS := fun _ σ H => tMkO C (spXi C f) [] (tCons te tNil) σ H fun cls d H' => W σ cls d H'
theorem ps_rz {X : Cx} {x : Str} {C : Addr} {f : Str} {e : Expr} {te : TE} {W : L2.St → XK} {p pos pos' : Pos} (tk : Takes X (fun cls d σ H => W σ cls d H)) (xc : Xc X.prog X.w X.K X.mg X.base x C f) (hr : Room 2 X.A) (hg : Gl X x) (he : PE X e te)
    (hc : X.calm = true := by rfl) (hdb : (x == ("__debug__" : Str)) = false := by decide) (hst : starEach [e] X.env = (false, eval e X.env) :: starEach [] X.env := by rfl) : PS X (.Raise (some (.Call (.Name x p) [e] [] pos)) none pos') (tRz C f te W) := by
  obtain ⟨fI, fd, ps, iC, tI, F1, b⟩ := xc.fn
  exact ps_raise hc tk (pmk_oexG xc.ox iC tI F1 hr b .nil C8.pass0 hg xc.at_ (pa_cons he pa_nil hst) hdb hst)
section
variable {c : Ctx} {ρ : Rho} {S : Sto} {P : Po}
theorem xd_heap {H1 : Hp} {a C dx : Addr} {f : Str} {v : V} (ha : H1 a = none) : upd (L2.del (upd (upd (upd H1 a (exo a C none)) dx (exd dx [(f, v)])) a (exo a C (some dx))) a) dx (.xd [(f, v)]) = upd H1 dx (.xd [(f, v)]) := by
  funext b
  by_cases z : b = dx
  · subst z; rw [upd_same, upd_same]
  · rw [upd_ne z, upd_ne z]
    by_cases y : b = a
    · subst y; rw [L2.del_same, ha]
    · rw [L2.del_ne y, upd_ne y, upd_ne z, upd_ne y]
theorem vx_raise {C : Addr} {f : Str} {te : TE} (h : VE c te ρ S fun x S1 => c.Y C [(f, x)] ρ S1) : VX c (tRz C f te c.E) ρ S P := fun T σ H I D b =>
  h T σ H I _ fun v x S1 T1 H1 m1 c1 r1 q => by
    refine ⟨(by decide : 1 ≤ 1000), fun a na => ⟨a, v, rfl, upd_same, fun dx hdx ne => ⟨rfl, dx, [(f, v)], upd_same, ?_, ?_, ?_⟩⟩⟩
    · rw [upd_ne ne, upd_same]
    · rw [upd_ne ne] at hdx; exact hdx
    · have hd : H1 dx = none := by rw [upd_ne ne] at hdx; exact hdx
      rw [xd_heap na]
      have m2 := m1.trans (mv_new (o := .xd [(f, v)]) hd)
      have cl := c1.new (o := .xd [(f, v)]) hd
      exact I.exc σ ρ C (some dx) [(f, x)] S1 T1 _ m2 cl (I.mv m2 cl).sl ⟨dx, [(f, v)], rfl, c1.free hd, upd_same, .cons (r1.mv (mv_new hd)) .nil⟩ q
/-! ### e.f in an except suite -/
theorem ve_xf {a C : Addr} {d : Option Addr} {f : Str} {te : TE} {F : D → Sto → Prop} (h : VE c te ρ S fun x S1 => ∃ dd fs e, x = .xcp a dd C fs ∧ d = some dd ∧ fs.lookup f = some e ∧ F e S1) : VE c (tXf a (.ref C) d C f te) ρ S F := fun T σ H I Q k =>
  h T σ H I _ fun v x S1 T1 H1 m1 c1 r1 ⟨dd, fs, e, e1, e2, hl, q⟩ => by
    subst e1
    cases r1 with
    | xcp s hx r =>
      obtain ⟨v, h1, h2⟩ := r.lookup hl
      exact ⟨rfl, rfl, dd, _, v, e2, hx, h1, k v e S1 T1 H1 m1 c1 h2 q⟩
end
/-! ### try: several clauses, with names or without; what stands behind them is never looked at -/
structure Cla where
  c : Value
  i : Option Nat
  t : Addr → Value → Option Addr → TS
def inSl (i : Option Nat) (a : Addr) (σ : L2.St) : L2.St := match i with
  | none => σ
  | some i => σ.set i (some (.ref a))
def offSl (i : Option Nat) (σ : L2.St) : L2.St := match i with
  | none => σ
  | some i => σ.set i none
def offE (i : Option Nat) (D : Ends) : Ends := { nx := fun σ H => D.nx (offSl i σ) H, rt := D.rt, bk := fun σ H => D.bk (offSl i σ) H, ct := fun σ H => D.ct (offSl i σ) H }
def wCla (K : PySem.W.Frag) (D : Ends) : List Cla → WX
  | [] => fun _ _ _ _ => False
  | k :: r => fun cls d σ H => ∃ b, PySem.W.exmOne K cls k.c = some b ∧ (b = true → ∀ a, H a = none → k.t a cls d (offE k.i D) (inSl k.i a σ) H) ∧ (b = false → wCla K D r cls d σ H)
/-- the suite of a clause, whatever the exception -/
abbrev SuR (X : Cx) (ss : List Stmt) (t : Addr → Value → Option Addr → TS) : Prop :=
  ∀ (a : Addr) (oe : Obj) (cls : Value) (d : Option Addr) (pn : List (Addr × Obj)), Zc cls d oe → (∃ vs, oe.data = .fields vs) → PSs (X.suite a ((a, oe) :: pn)) ss (t a cls d)
inductive Clas (X : Cx) : List ExceptHandler → List Cla → Prop
  | rest {hds : List ExceptHandler} : Clas X hds []
  | plain {x : Str} {c : Value} {t : Addr → Value → Option Addr → TS} {b₀ : Stmt} {ss : List Stmt} {p1 p2 : Pos} {hds : List ExceptHandler} {l : List Cla} (hc : Names X x c) (su : SuR X (b₀ :: ss) t) (r : Clas X hds l) :
      Clas X (.ExceptHandler (some (.Name x p1)) none (b₀ :: ss) p2 :: hds) (⟨c, none, t⟩ :: l)
  | named {x n : Str} {c : Value} {i : Nat} {t : Addr → Value → Option Addr → TS} {b₀ : Stmt} {ss : List Stmt} {p1 p2 : Pos} {hds : List ExceptHandler} {l : List Cla} (hc : Names X x c) (hi : X.N[i]? = some n) (hl : X.env.kindOf n = some .local) (su : SuR X (b₀ :: ss) t) (r : Clas X hds l) :
      Clas X (.ExceptHandler (some (.Name x p1)) (some n) (b₀ :: ss) p2 :: hds) (⟨c, some i, t⟩ :: l)
section
variable {X : Cx} {pins : List (Addr × Obj)} {σ : L2.St} {H : Hp} {sI s' : Shared} {B h3 : Heap} {a : Addr} {cls : Value} {d : Option Addr} {D : Ends}
theorem clause_name {x : Str} {c : Value} {s : Shared} {pn : List (Addr × Obj)} {p : Pos} {Q E : Value → Shared → Prop} (hc : Names X x c) (I : Inv (X.suite a pn) [] σ H s) (q : Q c s) : wpAny (model X.prog X.w) (X.A.mark (some (.ref a))) (eval (.Name x p) X.env) Q E s := by
  rcases hc with ⟨hg, hdb, hm | ⟨hm, hv, hn⟩⟩
  · exact ld_glob (X := X.suite a pn) I hg hm q hdb
  · exact ld_blt (X := X.suite a pn) I hg hm hv q hn hdb
theorem clauses_run (hN : X.N.Nodup) (J : Inv X pins σ H sI) (nb : ∀ b o, sI.heap.get? b = some o → b ∉ frs X.stack → B.get? b = some o) (up : sI.heap.UpToSlots h3) (os : s'.os = sI.os) (ag : AllBare s'.gens)
    (fl : HandSPX.FlyingZ B (X.env :: X.outer) a (Zc cls d) h3) (na : H a = none) (nL : a ≠ X.env.locals) (nF : a ∉ X.fs) {hds : List ExceptHandler} {l : List Cla} (hk : Clas X hds l) :
    wCla X.K D l cls d σ H → wpAny (model X.prog X.w) X.A (handleBy (.ref a) X.env hds) (SP X pins D) X.xe { s' with heap := h3 } := by
  have ok := J.ok
  have J3 : Inv X pins σ H { s' with heap := h3 } := J.landed nb fl.1 up os ag
  obtain ⟨oe, vs, he, hz, hd⟩ := fl.there
  have S3 := J3.suite he hd na nL nF
  have LT : PySem.W.Looks (model X.prog X.w) h3 (typeOf (.ref a)) cls := fun A Q E s k q => wpAny_typeOf_ref (k _ _ he) (by rw [hz.1]; exact q)
  induction hk with
  | rest => exact fun w => w.elim
  | plain hc su r ih =>
    rintro ⟨b, e, yes, no⟩
    refine wpAny_handleBy_cons (codeAny_handlers_test (clause_name hc S3 ((PySem.W.exm_one J3.kIn LT e).here ?_))) nofun
    cases b with
    | false => exact ih (no rfl)
    | true =>
      refine codeAny_handlers_suite (HandSPX.lands_againZ fl fun h4 fl4 up4 => ?_)
      have J4 : Inv X pins σ H { s' with heap := h4 } := J.landed nb fl4.1 (up.trans up4) os ag
      obtain ⟨oe4, vs4, he4, hz4, hd4⟩ := fl4.there
      refine wpAny_mono ((su a oe4 cls d (X.pn ++ pins) hz4 ⟨_, hd4⟩).run [] _ _ H _ (J4.suite he4 hd4 na nL nF) (yes rfl a na)) (fun f s6 q => ?_) fun _ _ z => z.elim
      cases f with
      | ret u => obtain ⟨v6, σ6, H6, S6, r6, q6⟩ := q; exact ⟨_, _, _, S6.unsuite ok, r6, q6⟩
      | next => obtain ⟨σ6, H6, S6, q6⟩ := q; exact ⟨_, _, S6.unsuite ok, q6⟩
      | brk => obtain ⟨σ6, H6, S6, q6⟩ := q; exact ⟨_, _, S6.unsuite ok, q6⟩
      | cont => obtain ⟨σ6, H6, S6, q6⟩ := q; exact ⟨_, _, S6.unsuite ok, q6⟩
  | @named x n c i t b₀ ss p1 p2 hds l hc hi hl su r ih =>
    rintro ⟨b, e, yes, no⟩
    refine wpAny_handleBy_cons (codeAny_handlers_test (clause_name hc S3 ((PySem.W.exm_one J3.kIn LT e).here ?_))) nofun
    cases b with
    | false => exact ih (no rfl)
    | true =>
      refine codeAny_handlers_suite_as (HandSPX.lands_againZ fl fun h4 fl4 up4 => ?_)
      have J4 : Inv X pins σ H { s' with heap := h4 } := J.landed nb fl4.1 (up.trans up4) os ag
      obtain ⟨oe4, vs4, he4, hz4, hd4⟩ := fl4.there
      have S4 := J4.suite he4 hd4 na nL nF
      refine store_ok (X := X.suite a ((a, oe4) :: (X.pn ++ pins))) (v := .ref a) S4 hN hi (.inl hl) rfl (fun s5 S5 => ?_) (.inr hl)
      refine wpAny_mono ((su a oe4 cls d (X.pn ++ pins) hz4 ⟨_, hd4⟩).run [] s5 _ H _ S5 (yes rfl a na)) (fun f s6 q => ?_) fun _ _ z => z.elim
      have fin : ∀ {σ6 : L2.St} {H6 : Hp} {R : Shared → Prop}, Inv (X.suite a ((a, oe4) :: (X.pn ++ pins))) [] σ6 H6 s6 → (∀ s7, Inv X pins (σ6.set i none) H6 s7 → R s7) →
          wpAny (model X.prog X.w) X.A (do bindName X.env n .none; unbindBehindTheSuite X.env n p2) (fun _ => R) X.xe s6 := fun S6 q => gone_ok (S6.unsuite ok) hN hi hl q
      cases f with
      | ret u => obtain ⟨v6, σ6, H6, S6, r6, q6⟩ := q; exact fin S6 fun s7 J7 => ⟨_, _, _, J7, r6, q6⟩
      | next => obtain ⟨σ6, H6, S6, q6⟩ := q; exact fin S6 fun s7 J7 => ⟨_, _, J7, q6⟩
      | brk => obtain ⟨σ6, H6, S6, q6⟩ := q; exact fin S6 fun s7 J7 => ⟨_, _, J7, q6⟩
      | cont => obtain ⟨σ6, H6, S6, q6⟩ := q; exact fin S6 fun s7 J7 => ⟨_, _, J7, q6⟩
theorem ps_tryC {body : List Stmt} {h₀ : ExceptHandler} {hds : List ExceptHandler} {l : List Cla} {tb : WX → TS} {pos : Pos} (hs : X.stack = X.env :: X.outer) (hf : X.env.frame = some X.env.locals) (hN : X.N.Nodup)
    (hb : ∀ (W : WX) (pn : List (Addr × Obj)) (xe : Value → Shared → Prop), Takes (X.tr pn xe) W → PassesOwn (model X.prog X.w) X.A X.env xe → PSs (X.tr pn xe) body (tb W)) (hh : Clas X (h₀ :: hds) l) :
    PS X (.Try body (h₀ :: hds) [] [] pos) (fun D σ H => tb (wCla X.K D l) D σ H) := by
  refine ⟨fun pins s σ H D I h => ?_⟩
  have ok := I.ok
  have hfr : X.A.frames = some (X.env :: X.outer) := ok.frames.trans (congrArg some hs)
  refine wpAny_Try_except (wpAny_mono ((hb (wCla X.K D l) (X.pn ++ pins) (fun e s₁ => wpAny (model X.prog X.w) X.A (noteFrame e X.env) (fun _ s₂ => wpAny (model X.prog X.w) X.A (setFlight e none) (fun _ s₃ =>
    wpAny (model X.prog X.w) X.A (handleBy e X.env (h₀ :: hds)) (SP X pins D) X.xe s₃) X.xe s₂) X.xe s₁) (fun u s' xx => ?_) PassesOwn.looking).run [] s σ H D (I.toTry _) h) (fun f s1 q => ?_) fun _ _ z => z)
  · obtain ⟨a, B, sI, _, σ', H', cls, d, rfl, J', nb, up, sky, na, os, ag, w⟩ := xx
    rw [show (X.tr (X.pn ++ pins) _).stack = X.env :: X.outer from hs] at sky
    refine Sky.land Zc.steady hfr hf sky fun h3 fl3 up3 => ?_
    obtain ⟨oe, vs, he, _, hd⟩ := fl3.there
    have nfr : a ∉ frs (X.env :: X.outer) := fun hm => by
      obtain ⟨_, o', e', hnf⟩ := fl3.2.2.1.mem hm
      cases he.symm.trans e'
      exact hnf _ hd
    refine clauses_run hN (J'.ofTry ok) nb (up.trans up3) os ag fl3 na (fun z => nfr (List.mem_filterMap.mpr ⟨X.env, List.mem_cons_self, by rw [hf, z]⟩)) (fun hm => ?_) hh w
    obtain ⟨e, m, q⟩ := List.mem_filterMap.mp hm
    exact nfr (List.mem_filterMap.mpr ⟨e, List.mem_cons_of_mem _ m, q⟩)
  · cases f with
    | ret u => obtain ⟨v, σ', H', J', r, q⟩ := q; exact ⟨v, σ', H', J'.ofTry ok, r, q⟩
    | next => obtain ⟨σ', H', J', q⟩ := q; exact wpAny_execs_nil ⟨σ', H', J'.ofTry ok, q⟩
    | brk => obtain ⟨σ', H', J', q⟩ := q; exact ⟨σ', H', J'.ofTry ok, q⟩
    | cont => obtain ⟨σ', H', J', q⟩ := q; exact ⟨σ', H', J'.ofTry ok, q⟩
end
/-! ### .. by value -/
def inR (i : Option Nat) (d : D) (ρ : Rho) : Rho := match i with
  | none => ρ
  | some i => ρ.set i (some d)
def offR (i : Option Nat) (ρ : Rho) : Rho := match i with
  | none => ρ
  | some i => ρ.set i none
def offP (i : Option Nat) (P : Po) : Po := ⟨fun ρ S => P.nx (offR i ρ) S, P.rt, fun ρ S => P.bk (offR i ρ) S, fun ρ S => P.ct (offR i ρ) S⟩
def HdV (c : Ctx) (P : Po) : List Cla → Addr → List (Str × D) → Rho → Sto → Prop
  | [], _, _, _, _ => False
  | k :: r, C, fs, ρ, S => ∃ b, PySem.W.exmOne c.K (.ref C) k.c = some b ∧ (b = true → ∀ a dd, VX c (k.t a (.ref C) (some dd)) (inR k.i (.xcp a dd C fs) ρ) S (offP k.i P)) ∧ (b = false → HdV c P r C fs ρ S)
theorem In.off {c : Ctx} {σ : L2.St} {H : Hp} {ρ : Rho} {S T : Sto} (I : In c σ H ρ S T) (i : Option Nat) : In c (offSl i σ) H (offR i ρ) S T := by
  cases i with
  | none => exact I
  | some i =>
    refine ⟨I.cells, fun j e q => ?_, by show (σ.set i none).length = (ρ.set i none).length; simp [I.len], I.exc⟩
    have q' : (ρ.set i none)[j]? = some (some e) := q
    by_cases z : i = j
    · subst z
      by_cases hv : i < ρ.length
      · rw [List.getElem?_set_self hv] at q'; cases q'
      · rw [List.getElem?_eq_none (by simpa using hv)] at q'; cases q'
    · rw [List.getElem?_set_ne z] at q'
      obtain ⟨u, h1, h2⟩ := I.slots j e q'
      exact ⟨u, by show (σ.set i none)[j]? = _; rw [List.getElem?_set_ne z]; exact h1, h2⟩
theorem Bh.off {c : Ctx} {P : Po} {D : Ends} {T : Sto} {H : Hp} (b : Bh c P D T H) (i : Option Nat) : Bh c (offP i P) (offE i D) T H :=
  ⟨fun _ _ S' T' H' m I q => b.nx _ _ S' T' H' m (I.off i) q, b.rt, fun _ _ S' T' H' m I q => b.bk _ _ S' T' H' m (I.off i) q, fun _ _ S' T' H' m I q => b.ct _ _ S' T' H' m (I.off i) q⟩
theorem vx_try {c : Ctx} {ρ : Rho} {S : Sto} {P : Po} {tb : WX → TS} {l : List Cla} (h : ∀ E' : L2.St → XK, VX ⟨c.K, E', fun C fs ρ' S' => HdV c P l C fs ρ' S'⟩ (tb (fun cls d σ H => E' σ cls d H)) ρ S P) :
    VX c (fun D σ H => tb (wCla c.K D l) D σ H) ρ S P := fun T σ H I Dn b => by
  have key : ∀ (l : List Cla) (σ' : L2.St) (ρ' : Rho) (C : Addr) (d : Option Addr) (fs : List (Str × D)) (S' T' : Sto) (H' : Hp), Mv T H T' H' → Cells c.K H' S' T' → Sl c.K H' T' σ' ρ' → XRep c.K H' T' d fs → HdV c P l C fs ρ' S' → wCla c.K Dn l (.ref C) d σ' H' := by
    intro l
    induction l with
    | nil => exact fun _ _ _ _ _ _ _ _ _ _ _ _ y => y.elim
    | cons k r ih =>
      rintro σ' ρ' C d fs S' T' H' m cl sl ⟨dd, fv, rfl, sd, hd, rf⟩ ⟨bb, e, yes, no⟩
      refine ⟨bb, e, fun z a na => ?_, fun z => ih σ' ρ' C _ fs S' T' H' m cl sl ⟨dd, fv, rfl, sd, hd, rf⟩ (no z)⟩
      have I2 : In c σ' H' ρ' S' T' := ⟨cl, sl.slots, sl.len, (I.mv m cl).exc⟩
      have rx : Rep c.K H' T' (.ref a) (.xcp a dd C fs) := .xcp sd hd rf
      have I3 : In c (inSl k.i a σ') H' (inR k.i (.xcp a dd C fs) ρ') S' T' := by
        cases k.i with
        | none => exact I2
        | some i => exact I2.set i rx
      exact yes z a dd T' _ H' I3 _ ((b.mv m).off k.i)
  have I' : In ⟨c.K, fun σ cls d H => wCla c.K Dn l cls d σ H, fun C fs ρ' S' => HdV c P l C fs ρ' S'⟩ σ H ρ S T := ⟨I.cells, I.slots, I.len, fun σ' ρ' C d fs S' T' H' m cl sl x y => key l σ' ρ' C d fs S' T' H' m cl sl x y⟩
  have b' : Bh ⟨c.K, fun σ cls d H => wCla c.K Dn l cls d σ H, fun C fs ρ' S' => HdV c P l C fs ρ' S'⟩ P Dn T H :=
    ⟨fun σ' ρ' S' T' H' m J q => b.nx σ' ρ' S' T' H' m ⟨J.cells, J.slots, J.len, (I.mv m J.cells).exc⟩ q, fun v d S' T' H' m cl r q => b.rt v d S' T' H' m cl r q,
     fun σ' ρ' S' T' H' m J q => b.bk σ' ρ' S' T' H' m ⟨J.cells, J.slots, J.len, (I.mv m J.cells).exc⟩ q, fun σ' ρ' S' T' H' m J q => b.ct σ' ρ' S' T' H' m ⟨J.cells, J.slots, J.len, (I.mv m J.cells).exc⟩ q⟩
  exact h (fun σ cls d H => wCla c.K Dn l cls d σ H) T σ H I' Dn b'
end VS
namespace VS
open PySem L2 C8 PySem.Spec PyProof.Rows
/-! ### sorted of whole numbers, of a list or a tuple -/
section
variable {prog : Program} {w : World} {A : Around} {E : Value → Shared → Prop} {s : Shared}
theorem collect_tup {t : Addr} {vs : List Value} {Q : List Value → Shared → Prop} (hl : s.heap.IsTuple t vs.toArray) (hz : vs.length ≤ sizeLine)
    (h : Q vs { s with heap := (s.heap.push (seqObj "list" #[] 0)).update s.heap.objs.size (Obj.mapSeq (· ++ vs.toArray)) }) : wpAny (model prog w) A (collect (.ref t)) Q E s := by
  obtain ⟨o, ho, hc, n, hd⟩ := id hl
  have ho' : (s.heap.push (seqObj "list" #[] 0)).get? t = some o := Heap.get?_push_of_some _ ho
  have ne : t ≠ s.heap.objs.size := Nat.ne_of_lt (Heap.lt_size ho)
  unfold collect
  refine wpAny_bind (wpAny_runValue (codeAny_builtin entry_proto_collect' ?_))
  show wpAny _ _ (newList [] >>= fun l => again (.builtin "list.__iadd__" ⟨[l, .ref t], []⟩)) _ _ s
  refine wpAny_bind (wpAny_newList (wpAny_pure ⟨Code.quiet_builtin _ (by decide +kernel), codeAny_builtin entry_list_iadd' ?_⟩))
  show wpAny _ _ (Builtin.List.listExtendWith (.ref s.heap.objs.size) (.ref t) (.ref s.heap.objs.size)) _ _ { s with heap := s.heap.push (seqObj "list" #[] 0) }
  unfold Builtin.List.listExtendWith
  refine wpAny_bind (wpAny_typeOf (T := "tuple") ⟨o, ho', hc⟩ ?_)
  have h3 : (Value.type "tuple" == Value.type "tuple") = true := by decide +kernel
  rw [if_pos (by rw [h3]; simp)]
  refine wpAny_bind (listItems_at ho' hd ?_)
  refine wpAny_bind (listItems_at (xs := #[]) (n := 0) (Heap.get?_push_size _ rfl) rfl ?_)
  rw [if_neg (by simp)]
  refine wpAny_bind (listUpdate_at (xs := #[]) (n := 0) (Heap.get?_push_size _ rfl) rfl ?_ (Nat.zero_le _) (by show (#[] ++ vs.toArray).size ≤ sizeLine + 1; simp only [Array.size_append, List.size_toArray, List.length_nil]; omega))
  refine wpAny_pure ?_
  show wpAny (model prog w) A (load s.heap.objs.size >>= fun o => match o.data with
      | .seq xs _ => pure xs.toList
      | _ => unsupported "internal:collect") Q E { s with heap := (s.heap.push (seqObj "list" #[] 0)).update s.heap.objs.size (Obj.mapSeq (· ++ vs.toArray)) }
  refine wpAny_bind (wpAny_load (get?_update_seq (Heap.get?_push_size _ rfl) _) ?_)
  show wpAny _ _ (pure ((#[] : Array Value) ++ vs.toArray).toList) Q E _
  rw [show ((#[] : Array Value) ++ vs.toArray).toList = vs by simp]
  exact wpAny_pure h
/-- sorted(x, ..): whatever x is that is collected to vs -/
theorem sorted_of {x : Value} {vs : List Value} {b : Bool} {kw : List (Str × Value)} {ltv : Value → Value → Bool} {Q : Value → Shared → Prop} (hk : ∀ a, Builtin.«list.sort» ⟨[.ref a], kw⟩ = Builtin.«list.sort» ⟨[.ref a], [(Str.ofString "reverse", .bool b)]⟩)
    (ha1 : argsOk "sorted" ⟨[x], kw⟩) (ha2 : ∀ a, argsOk "list.sort" ⟨[a], kw⟩) (O : SrtO.Swo ltv) (hz : vs.length ≤ sizeLine)
    (col : ∀ {B : Around} {R : List Value → Shared → Prop} {E' : Value → Shared → Prop}, R vs { s with heap := (s.heap.push (seqObj "list" #[] 0)).update s.heap.objs.size (Obj.mapSeq (· ++ vs.toArray)) } → wpAny (model prog w) B (collect x) R E' s)
    (hS : 2 ≤ vs.length → ∀ (h₁ : Heap) (a : Addr), SrtO.SortableO prog w A.in1.in1 { s with heap := h₁ } a vs ltv)
    (h : ∀ out : List Value, SrtO.Srtd ltv out → SrtO.Stb ltv out (if b = true then vs.reverse else vs) → Q (.ref (s.heap.objs.size + 1)) { s with heap := sortedAll s.heap vs (if b = true then out.toArray.reverse else out.toArray) }) :
    wpAny (model prog w) A (call (.builtin "sorted") [x] kw) Q E s := by
  refine call_function_entry_kw kind_sorted plain_sorted entry_sorted ha1 ?_
  unfold Builtin.«sorted»
  refine wpAny_bind (m := checkCount "sorted" 1 1 _) (wpAny_pure ?_)
  refine wpAny_bind (col (wpAny_bind (wpAny_newList ?_ hz)))
  have sz : ((s.heap.push (seqObj "list" #[] 0)).update s.heap.objs.size (Obj.mapSeq (· ++ vs.toArray))).objs.size = s.heap.objs.size + 1 := by rw [Heap.size_update, size_push']
  have at1 : (((s.heap.push (seqObj "list" #[] 0)).update s.heap.objs.size (Obj.mapSeq (· ++ vs.toArray))).push (seqObj "list" vs.toArray 0)).get? (s.heap.objs.size + 1) = some (seqObj "list" vs.toArray 0) := by
    rw [← sz]; exact Heap.get?_push_size _ rfl
  show wpAny _ _ _ _ _ { s with heap := ((s.heap.push (seqObj "list" #[] 0)).update s.heap.objs.size (Obj.mapSeq (· ++ vs.toArray))).push (seqObj "list" vs.toArray 0) }
  rw [sz]
  refine wpAny_bind (wpAny_holding (wpAny_call_entry_kw slot_list_sort ⟨_, at1, rfl⟩ entry_list_sort ?_ (ha2 _)))
  rw [hk]
  exact SrtR.list_sort_ordR O at1 hz (fun h2 => hS h2 _ _) fun out h1 h2 => ⟨_, rfl, wpAny_pure ⟨_, rfl, h out h1 h2⟩⟩
end
/-- the numbers rising; falling -/
def up (ns : List Int) : List Int := ns.mergeSort (fun a b => decide (a ≤ b))
def dn (ns : List Int) : List Int := (up ns).reverse
theorem up_perm (ns : List Int) : (up ns).Perm ns := List.mergeSort_perm ..
theorem up_sorted (ns : List Int) : (up ns).Pairwise (· ≤ ·) := by
  have h := List.pairwise_mergeSort (le := fun a b : Int => decide (a ≤ b)) (fun a b c h1 h2 => decide_eq_true (Int.le_trans (of_decide_eq_true h1) (of_decide_eq_true h2))) (fun a b => by
    rcases Int.le_total a b with h | h
    · rw [decide_eq_true h]; rfl
    · rw [decide_eq_true h, Bool.or_true]) ns
  exact h.imp of_decide_eq_true
theorem up_eq {ns ms : List Int} (h : ms.Perm ns) (h2 : ms.Pairwise (· ≤ ·)) : ms = up ns :=
  List.Perm.eq_of_pairwise (le := (· ≤ ·)) (fun a b _ _ h1 h2 => Int.le_antisymm h1 h2) h2 (up_sorted ns) (h.trans (up_perm ns).symm)
theorem dn_eq {ns ms : List Int} (h : ms.Perm ns) (h2 : ms.Pairwise (· ≥ ·)) : ms = dn ns := by
  have e := up_eq (ns := ns) (ms := ms.reverse) ((List.reverse_perm ms).trans h) (by rw [List.pairwise_reverse]; exact h2)
  unfold dn
  rw [← e, List.reverse_reverse]
theorem up_len (ns : List Int) : (up ns).length = ns.length := (up_perm ns).length_eq
theorem dn_len (ns : List Int) : (dn ns).length = ns.length := by unfold dn; rw [List.length_reverse, up_len]
def srtB (b : Bool) (ns : List Int) : List Int := if b = true then dn ns else up ns
def rSortedR (K : PySem.W.Frag) (b : Bool) : List V → List V → Hp → VK → Prop := fun vs zs H Q => ∃ (a : Addr) (ns : List Int), vs = [V.ref a] ∧ zs = [.bl b] ∧ (SqL K H a (ns.map V.int) ∨ SqT K H a (ns.map V.int)) ∧ ∀ p, H p = none → Q (.ref p) (upd H p (.lst ((srtB b ns).map V.int)))
section
variable {X : Cx}
theorem sorted_any {b : Bool} {kw : List (Str × Value)} {pins : List (Addr × Obj)} {s : Shared} {σ : L2.St} {H : Hp} {a : Addr} {ns : List Int} {Q : VK} (I : Inv X pins σ H s) (hs : SqL X.K H a (ns.map V.int) ∨ SqT X.K H a (ns.map V.int))
    (hk : ∀ a, Builtin.«list.sort» ⟨[.ref a], kw⟩ = Builtin.«list.sort» ⟨[.ref a], [(Str.ofString "reverse", .bool b)]⟩) (ha1 : argsOk "sorted" ⟨[.ref a], kw⟩) (ha2 : ∀ a, argsOk "list.sort" ⟨[a], kw⟩)
    (q : ∀ p, H p = none → Q (.ref p) (upd H p (.lst ((srtB b ns).map V.int)))) : wpAny (model X.prog X.w) X.A (call (.builtin "sorted") [.ref a] kw) (EP X pins σ Q) X.xe s := by
  have fin : ∀ its : List Value, Vals (ns.map V.int) its → (ns.map V.int).length ≤ sizeLine →
      (∀ {B : Around} {R : List Value → Shared → Prop} {E' : Value → Shared → Prop}, R its { s with heap := (s.heap.push (seqObj "list" #[] 0)).update s.heap.objs.size (Obj.mapSeq (· ++ its.toArray)) } → wpAny (model X.prog X.w) B (collect (.ref a)) R E' s) →
      wpAny (model X.prog X.w) X.A (call (.builtin "sorted") [.ref a] kw) (EP X pins σ Q) X.xe s := fun its rv hz col => by
    have hi := rv.ints
    refine sorted_of hk ha1 ha2 SrtO.swo_int (by rw [← rv.length]; exact hz) col (fun h2 h₁ a' => SrtO.ints_sortable hi h2) fun out h1 h2 => ?_
    obtain ⟨ns', k1, k2, k3⟩ := SrtR.ints_outR hi h1 h2
    have e : ns' = srtB b ns := by
      cases b with
      | true => exact dn_eq k2 k3
      | false => exact up_eq k2 k3
    subst e
    obtain ⟨ep, he'⟩ := PyProof.Rows.sortedAll_at s.heap its (if b = true then out.toArray.reverse else out.toArray)
    have hlen : ((srtB b ns).map V.int).length ≤ sizeLine := by
      rw [List.length_map, k2.length_eq]
      rw [List.length_map] at hz
      exact hz
    have e0 : ((if b = true then out.toArray.reverse else out.toArray).toList).toArray = (if b = true then out.toArray.reverse else out.toArray) := by rw [Array.toArray_toList]
    exact ⟨.ref _, upd H (s.heap.objs.size + 1) (.lst ((srtB b ns).map V.int)), I.laid (t' := s.toks) (fun _ _ => PyProof.Rows.sortedAll_old) (Nat.le_succ _) ⟨hlen, _, ep, vals_of_ints k1, by rw [e0]; exact he'⟩, rfl, q _ (I.hok.fresh (Nat.le_succ _))⟩
  rcases hs with hs | hs
  · obtain ⟨its, rv, hl, hz⟩ := I.list hs
    exact fin its rv hz fun r => collect_list hl.isList r (by rw [← rv.length]; exact hz)
  · obtain ⟨its, rv, hl, hz⟩ := I.tuple hs
    exact fin its rv hz fun r => collect_tup hl (by rw [← rv.length]; exact hz) r
theorem c_sortedR {b : Bool} : CallRK X (.builtin "sorted") [Str.ofString "reverse"] (rSortedR X.K b) := by
  intro pins s σ H vs zs us ws Q I r rz h
  obtain ⟨a, ns, rfl, rfl, hs, q⟩ := h
  obtain rfl := Vals.ref1 r
  obtain ⟨w1, rfl, e1⟩ := vals1 rz
  obtain rfl : w1 = Value.bool b := e1
  exact sorted_any I hs (fun _ => rfl) (PyProof.Rows.args_sorted_rev _ _) (fun _ => PyProof.Rows.args_list_sort_rev _ _) q
end
section
variable {c : Ctx} {ρ : Rho} {S : Sto} {F : D → Sto → Prop}
def RCK (c : Ctx) (r : List V → List V → Hp → VK → Prop) (ds es : List D) (S : Sto) (F : D → Sto → Prop) : Prop := ∀ T us ws H, Cells c.K H S T → RepL c.K H T us ds → RepL c.K H T ws es → ∀ Q : VK,
  (∀ v d S' T' H', Mv T H T' H' → Cells c.K H' S' T' → Rep c.K H' T' v d → F d S' → Q v H') → r us ws H Q
theorem ve_ckw {r : List V → List V → Hp → VK → Prop} {t tk : TA} (h : VA c t ρ S fun ds S1 => VA c tk ρ S1 fun es S2 => RCK c r ds es S2 F) : VE c (tCKw r t tk) ρ S F := fun T σ H I Q k =>
  h T σ H I _ fun us ds S1 T1 H1 m1 c1 r1 h1 => h1 T1 σ H1 (I.mv m1 c1) _ fun ws es S2 T2 H2 m2 c2 r2 h2 => h2 T2 us ws H2 c2 (r1.mv m2) r2 Q fun v d S3 T3 H3 m3 => k v d S3 T3 H3 (m1.trans (m2.trans m3))
theorem rck_sortedR {x : D} {b : Bool} {ns : List Int} (h : IsQ S x (ns.map D.int)) (q : F (.lst ((srtB b ns).map D.int)) S) : RCK c (rSortedR c.K b) [x] [.bl b] S F := fun T us ws H cl r r' Q k => by
  cases r with
  | cons h1 t =>
    cases t
    cases r' with
    | cons h2 t =>
      cases t
      cases h2
      obtain ⟨a, xs, rfl, s, r⟩ := h.rd cl h1
      have e := r.ints
      subst e
      exact ⟨a, ns, rfl, rfl, s, fun p hp => k _ _ S T _ (mv_new hp) (cl.new hp) (.lst (cl.free hp) upd_same RepL.ofInts) q⟩
/-! ### a list taken apart; zip of tuples or lists -/
theorem vg_unl {d : D} {n : Nat} {gs : TGs} {ds : List D} {F : Rho → Sto → Prop} (hd : IsL S d ds) (hn : ds.length = n) (h : VGs c gs ds ρ S F) : VG c (gUnl c.K n gs) d ρ S F := fun T v σ H I r Q k => by
  obtain ⟨a, xs, rfl, s, r⟩ := hd.rd I.cells r
  exact ⟨a, xs, rfl, s, by rw [r.length]; exact hn, h T xs σ H I r Q k⟩
/-- a tuple by value stays -/
theorem tup_stays {K : PySem.W.Frag} {T : Sto} {H : Hp} {u : V} {ds : List D} (r : Rep K H T u (.tup ds)) : ∃ a xs, u = .ref a ∧ (∀ T' H', Mv T H T' H' → SqT K H' a xs) ∧ RepL K H T xs ds := by
  cases r with
  | tup s h r => exact ⟨_, _, rfl, fun T2 H2 m => .inl (.inl (m.keep _ _ s h)), r⟩
  | tupK h r => exact ⟨_, _, rfl, fun T2 H2 m => .inr h, r⟩
theorem walk_zipT {K : PySem.W.Frag} {a b : Addr} {xs ys : List V} {n : Nat} (hn : n = min xs.length ys.length) : Walk (RZ.ItzT K a b) n (fun H => SqT K H a xs ∧ SqT K H b ys) (YPair (fun i => xs[i]?) (fun i => ys[i]?)) := by
  subst hn
  refine ⟨fun i H hi g => ?_, fun H g => ⟨xs, ys, g.1, g.2, by omega⟩, fun i H v H' hi g y => ?_⟩
  · exact ⟨xs, ys, xs[i]'(by omega), ys[i]'(by omega), g.1, g.2, List.getElem?_eq_getElem (by omega), List.getElem?_eq_getElem (by omega)⟩
  · obtain ⟨T, u, w, h1, h2, h3, h4, h5⟩ := y
    exact ⟨T, u, w, h1, h2, h3, h4 xs g.1, h5 ys g.2⟩
theorem vi_zipT {ta : TA} {W : List D → Sto → Prop} (h : VA c ta ρ S fun xs S1 => ∃ ds es, xs = [.tup ds, .tup es] ∧ W (zipD ds es) S1) : VI c (RZ.iZipA c.K ta) ρ S W := fun T σ H I R k =>
  h T σ H I _ fun vs es S1 T1 H1 m1 c1 r1 ⟨ds, es', e, q⟩ => by
    subst e
    cases r1 with
    | cons h1 t => cases t with
      | cons h2 t =>
        cases t
        obtain ⟨a, xs, rfl, hq, r⟩ := tup_stays h1
        obtain ⟨b, ys, rfl, hq', r2⟩ := tup_stays h2
        refine ⟨a, b, xs, ys, rfl, .inr ⟨hq _ _ Mv.refl, hq' _ _ Mv.refl, k _ (zipD ds es') S1 T1 H1 m1 c1 ⟨fun H => SqT c.K H a xs ∧ SqT c.K H b ys, _, walk_zipT (by rw [zipD_len, r.length, r2.length]), fun T2 H2 m => ⟨hq T2 H2 m, hq' T2 H2 m⟩, fun i d S2 T2 H2 H3 y e m cl yy => ?_⟩ q⟩⟩
        obtain ⟨T, u, w, e1, hT, e2, e3, e4⟩ := yy
        obtain ⟨p, p', e5, e6, e7⟩ := zipD_get e
        subst e1 e2 e7
        obtain ⟨v, e8, q1⟩ := r.get e5
        obtain ⟨v', e9, q2⟩ := r2.get e6
        have e3' : xs[i]? = some u := e3
        have e4' : ys[i]? = some w := e4
        rw [e3'] at e8
        rw [e4'] at e9
        cases e8
        cases e9
        exact ⟨mv_new hT, cl.new hT, .tup (cl.free hT) upd_same (.cons ((q1.mv m).mv (mv_new hT)) (.cons ((q2.mv m).mv (mv_new hT)) .nil))⟩
end
end VS
namespace VS
open PySem L2 C8 PySem.Spec PyProof.Rows
/-! ### enumerate over a tuple -/
def Itet (K : PySem.W.Frag) (a : Addr) : It :=
  ⟨fun i H => ∃ (xs : List V) (x : V), SqT K H a xs ∧ xs[i]? = some x, fun i H v H' => ∃ T x, v = .ref T ∧ H T = none ∧ H' = upd H T (.tup [.int (i : Nat), x]) ∧ ∀ xs, SqT K H a xs → xs[i]? = some x, fun i H => ∃ xs : List V, SqT K H a xs ∧ i = xs.length⟩
set_option maxHeartbeats 1000000 in
theorem new_enumT (t : Addr) (items : Array Value) :
    Meets (Builtin.«enumerate.__new__» ⟨[.type "enumerate", .ref t], []⟩) (fun _ R s => s.heap.IsTuple t items ∧
      R (.ok (.ret (.ref (s.heap.push { cls := .type "tuple_iterator", data := .fields #[.ref t, .int 0 0] }).objs.size)))
        { s with heap := (s.heap.push { cls := .type "tuple_iterator", data := .fields #[.ref t, .int 0 0] }).push { cls := .type "enumerate", data := .fields #[.none, .bool false, .ref s.heap.objs.size, rawInt 0, .none, .none] } }) :=
  .of_wp fun prog w A R s h => by
    obtain ⟨hp, g, dr, tk, os⟩ := s
    obtain ⟨ht, h⟩ := h
    have q1 : ∀ {A' : Around} {E : Value → Shared → Prop} {Q : Value → Shared → Prop}, Q (.ref hp.objs.size) ⟨hp.push { cls := .type "tuple_iterator", data := .fields #[.ref t, .int 0 0] }, g, dr, tk, os⟩ → wpAny (model prog w) A' (pyIter (.ref t)) Q E ⟨hp, g, dr, tk, os⟩ :=
      fun q => wpAny_pyIter_tuple ht q
    have hsub := sub_enumerate
    wp_walk using q1
    refine wpAny_stack_any fun st => wpAny_pure ?_
    split
    · rename_i c _ _ _ _ _
      cases (c == Value.type "enumerate") <;> (wp_walk using q1; exact ⟨_, rfl, h⟩)
    · wp_walk using q1
      exact ⟨_, rfl, h⟩
theorem call_enumT {prog : Program} {w : World} {A : Around} {E : Value → Shared → Prop} {s : Shared} {t : Addr} {items : Array Value} {Q : Value → Shared → Prop} (ht : s.heap.IsTuple t items)
    (h : ∀ h', IsEnum h' (s.heap.objs.size + 1) s.heap.objs.size 0 .none → h'.IsTupleIter s.heap.objs.size t 0 → (∀ b o, s.heap.get? b = some o → h'.get? b = some o) → Q (.ref (s.heap.objs.size + 1)) { s with heap := h' }) :
    wpAny (model prog w) A (call (.type "enumerate") [.ref t]) Q E s := by
  refine callType_new F.called_enumerate (by decide) (F.typeCall_enumerate_1 _) (F.newCall_enumerate_1 _) (fun obj => F.args_object_init_2 obj _) F.entry_enumerate_new (new_enumT t items) ⟨ht, ?_⟩
  have sz : (s.heap.push { cls := .type "tuple_iterator", data := .fields #[.ref t, .int 0 0] }).objs.size = s.heap.objs.size + 1 := Heap.size_push ..
  show _ ∧ _
  rw [sz]
  have he : IsEnum ((s.heap.push { cls := .type "tuple_iterator", data := .fields #[.ref t, .int 0 0] }).push { cls := .type "enumerate", data := .fields #[.none, .bool false, .ref s.heap.objs.size, rawInt 0, .none, .none] }) (s.heap.objs.size + 1) s.heap.objs.size 0 .none := by
    have q := Heap.get?_push_size (s.heap.push { cls := .type "tuple_iterator", data := .fields #[.ref t, .int 0 0] }) (o := { cls := .type "enumerate", data := .fields #[.none, .bool false, .ref s.heap.objs.size, rawInt 0, .none, .none] }) rfl
    rw [sz] at q; exact q
  exact ⟨⟨_, he, rfl⟩, h _ he ⟨_, Heap.get?_push_of_some _ (Heap.get?_push_size _ rfl), rfl, rfl⟩ fun b o x => Heap.get?_push_of_some _ (Heap.get?_push_of_some _ x)⟩
theorem turn_enumT {P : Program} {w : World} {K : PySem.W.Frag} {elts : List Expr} {kk : Nat} {tpos : Pos} (a e it : Addr) :
    Turn P w K (.Tuple elts kk tpos) (Itet K a) [e, it] e (fun i h => (∃ old, IsEnum h e it ((i : Nat) : Int) old) ∧ h.IsTupleIter it a i ∧ e ≠ it) where
  mem := by simp
  obj := fun i h st b hb => by
    obtain ⟨⟨old, he⟩, ⟨o, ho, hc, hd⟩, _⟩ := st
    have e' : b = e ∨ b = it := by simpa using hb
    rcases e' with z | z
    · rw [z]; exact ⟨_, he, fun v q => nomatch q⟩
    · rw [z]; exact ⟨o, ho, fun v q => by rw [hd] at q; cases q⟩
  keep := fun i h h' st k => let ⟨⟨old, he⟩, hi, hne⟩ := st; ⟨⟨old, k e (by simp) _ he⟩, hi.at fun o q => k it (by simp) o q, hne⟩
  item := by
    intro X hP hw hK hc i pins s σ H E I hf st hg
    subst hP hw hK
    obtain ⟨⟨old, he⟩, hit, hne⟩ := st
    obtain ⟨xs, x, hq, hx⟩ := hg
    obtain ⟨its, rv, p, hz⟩ := I.tuple hq
    obtain ⟨u, hu, ru⟩ := rv.get hx
    have hel : e < s.heap.objs.size := Heap.lt_size he
    have hil : it < s.heap.objs.size := by obtain ⟨_, q, _⟩ := hit; exact Heap.lt_size q
    have nea : a ≠ it := fun z => by
      subst z
      obtain ⟨o, q, hc', _⟩ := hit
      obtain ⟨o2, q2, hc2, _⟩ := id p
      rw [q] at q2
      cases q2
      rw [hc'] at hc2
      exact absurd hc2 (by decide +kernel)
    have nae : a ≠ e := fun z => by
      subst z
      obtain ⟨o2, q2, hc2, _⟩ := id p
      have he' : s.heap.get? a = _ := he
      rw [he'] at q2
      cases q2
      have hc3 : Value.type "enumerate" = Value.type "tuple" := hc2
      exact absurd hc3 (by decide +kernel)
    have hi : i < its.toArray.size := by
      rw [List.size_toArray, ← rv.length]
      exact (List.getElem?_eq_some_iff.mp hx).1
    have D := Draws.tuple (prog := X.prog) (w := X.w) (A := X.A.in1) (I.ok.hd hc) it a nea its.toArray
    refine wpAny_pyNext_enum_itemD D he ⟨hit, p⟩ hi hne (by simp only [List.mem_cons, List.not_mem_nil, or_false, not_or]; exact ⟨hne, Ne.symm nae⟩) fun xv h' tk hxv ho hit' hT hsz hk => ?_
    have exv : xv = u := by
      have z : its[i]? = some xv := by simpa using hxv
      rw [hu] at z
      exact (Option.some.inj z).symm
    subst exv
    refine ⟨_, rfl, wpAny_letOwnedTupleGo_enum (s := { s with heap := h', toks := tk + 1 }) ho fun h'' he' sb => ?_⟩
    have hT2 : h''.get? s.heap.objs.size = some { cls := .type "tuple", data := .seq #[.int i tk, xv] } := (sb.2 _ (Nat.ne_of_gt hel)).trans hT
    have new : ObjOk X.prog X.w (upd H s.heap.objs.size (.tup [.int (i : Nat), x])) h'' s.heap.objs.size (.tup [.int (i : Nat), x]) :=
      ⟨by show 2 ≤ sizeLine; decide, [.int i tk, xv], .cons ⟨_, rfl⟩ (.cons ru .nil), ⟨_, hT2, rfl, _, rfl⟩⟩
    have I1 : Inv X pins σ (upd H s.heap.objs.size (.tup [.int (i : Nat), x])) { s with heap := h'', toks := tk + 1 } :=
      I.turnedNew (ch := [e, it]) (fun b ob hb q => (sb.2 b (fun z => hb (by simp [z]))).trans (hk b ob (fun z => hb (by simp [z])) (fun z => hb (by simp [z])) q)) hf (Nat.le_refl _) new
    refine ⟨.ref s.heap.objs.size, _, I1, rfl, ⟨_, x, rfl, I.hok.fresh (Nat.le_refl _), rfl, fun ys hy => by rw [I.tuple_inj hy hq]; exact hx⟩, ⟨⟨xv, ?_⟩, hit'.1.at fun o q => (sb.2 it (Ne.symm hne)).trans q, hne⟩, fun b hb => ?_⟩
    · have e1 : ((i + 1 : Nat) : Int) = (i : Int) + 1 := by omega
      rw [e1]; exact he'
    · have hb' : b < s.heap.objs.size := by
        have e' : b = e ∨ b = it := by simpa using hb
        rcases e' with z | z
        · rw [z]; exact hel
        · rw [z]; exact hil
      rw [upd_ne (Nat.ne_of_lt hb')]
      exact (hf b hb).1
  done := by
    intro X hP hw hK hc i pins s σ H E I hf st hg
    subst hP hw hK
    obtain ⟨⟨old, he⟩, hit, hne⟩ := st
    obtain ⟨xs, hq, hx⟩ := hg
    obtain ⟨its, rv, p, hz⟩ := I.tuple hq
    obtain ⟨f0, f1, f2, f3, f4, f5⟩ := hf it (by simp)
    have nea : a ≠ it := fun z => by
      subst z
      obtain ⟨o, q, hc', _⟩ := hit
      obtain ⟨o2, q2, hc2, _⟩ := id p
      rw [q] at q2
      cases q2
      rw [hc'] at hc2
      exact absurd hc2 (by decide +kernel)
    have D := Draws.tuple (prog := X.prog) (w := X.w) (A := X.A.in1) (I.ok.hd hc) it a nea its.toArray
    have hi : i = its.toArray.size := by rw [List.size_toArray, ← rv.length]; exact hx
    subst hi
    exact wpAny_pyNext_enum_endD D he ⟨hit, p⟩ fun h' eb => ⟨rfl, I.turned (t' := s.toks) (fun b o hb q => eb b o hb q) f0 f1 f3 f4 f5⟩
  self := fun A i s Q E st h => let ⟨⟨_, he⟩, _⟩ := st; wpAny_pyIter_enum he h
def iEnumT (K : PySem.W.Frag) (ta : TA) : TI := fun σ H R => ta σ H fun vs H1 => ∃ a xs, vs = [.ref a] ∧ SqT K H1 a xs ∧ R (Itet K a) H1
theorem pi_enumT {X : Cx} {e : Expr} {ta : TA} {p pos tpos : Pos} {elts : List Expr} {kk : Nat} (hg : Gl X "enumerate") (hm : X.mg "enumerate" = none) (ha : PA X [e] ta) (hs : starEach [e] X.env = [(false, eval e X.env)] := by rfl) :
    PI X (.Tuple elts kk tpos) (.Call (.Name "enumerate" p) [e] [] pos) (iEnumT X.K ta) := by
  refine ⟨fun pins s σ H R I h => ?_⟩
  refine Call_ (ld_blt I hg hm boot_enumerate (PyProof.Rows.callWith_type1 (thn (ha.run pos pins s σ H _ I h) fun us s1 ⟨vs, H1, I1, r1, q1⟩ => ?_) hs rfl))
  obtain ⟨a, xs, ex, hq, q⟩ := q1
  subst ex
  cases r1 with
  | cons r rr =>
    cases rr
    cases r
    obtain ⟨its, rv, p', hz⟩ := I1.tuple hq
    refine call_enumT p' fun h' he hit hk => wpAny_pyIter_enum he ?_
    have I2 : Inv X pins σ H1 { s1 with heap := h' } := I1.kept (t' := s1.toks) hk
    refine ⟨s1.heap.objs.size + 1, [s1.heap.objs.size + 1, s1.heap.objs.size], _, _, H1, rfl, I2, turn_enumT a (s1.heap.objs.size + 1) s1.heap.objs.size, ⟨⟨.none, he⟩, hit, Nat.succ_ne_self _⟩, fun b hb => ?_, q⟩
    have e' : b = s1.heap.objs.size + 1 ∨ b = s1.heap.objs.size := by simpa using hb
    have hle : s1.heap.objs.size ≤ b := by
      rcases e' with z | z
      · rw [z]; exact Nat.le_add_right _ _
      · rw [z]; exact Nat.le_refl _
    exact I1.fpOk hle (I1.hok.fresh hle)
theorem walk_enumT {K : PySem.W.Frag} {a : Addr} {xs : List V} : Walk (Itet K a) xs.length (fun H => SqT K H a xs) (YPair (fun i => some (.int (i : Nat))) (fun i => xs[i]?)) :=
  ⟨fun i _ hi q => ⟨xs, xs[i], q, List.getElem?_eq_getElem hi⟩, fun _ q => ⟨xs, q, rfl⟩, fun i H v H' _ q y => by
    obtain ⟨T, x, h1, h2, h3, h4⟩ := y
    exact ⟨T, .int (i : Nat), x, h1, h2, h3, rfl, h4 xs q⟩⟩
section
variable {c : Ctx} {ρ : Rho} {S : Sto}
theorem vi_enumT {ta : TA} {W : List D → Sto → Prop} (h : VA c ta ρ S fun es S1 => ∃ ds, es = [.tup ds] ∧ W (enumD ds) S1) : VI c (iEnumT c.K ta) ρ S W := fun T σ H I R k =>
  h T σ H I _ fun vs es S1 T1 H1 m1 c1 r1 ⟨ds, e, q⟩ => by
    subst e
    cases r1 with
    | cons h1 t =>
      cases t
      obtain ⟨a, xs, rfl, hq, r⟩ := tup_stays h1
      refine ⟨a, xs, rfl, hq _ _ Mv.refl, k _ (enumD ds) S1 T1 H1 m1 c1 ⟨fun H => SqT c.K H a xs, _, by rw [enumD_len, ← r.length]; exact walk_enumT, hq, fun i d S2 T2 H2 H3 y e m cl yy => ?_⟩ q⟩
      obtain ⟨T, u, w, e1, hT, e2, e3, e4⟩ := yy
      obtain ⟨y', e5, e6⟩ := enumD_get e
      subst e1 e2 e6
      obtain ⟨v, e7, r'⟩ := r.get e5
      have e4' : xs[i]? = some w := e4
      rw [e4'] at e7
      cases e7
      cases e3
      exact ⟨mv_new hT, cl.new hT, .tup (cl.free hT) upd_same (.cons (.int _) (.cons ((r'.mv m).mv (mv_new hT)) .nil))⟩
end
end VS
namespace VS
open PySem L2 C8 PySem.Spec PyProof.Rows
/-! ### own classes: what is known of a thing's class, isinstance -/
inductive OfC (K : PySem.W.Frag) (S : Sto) : D → Value → Prop
  | p {x : D} {n : String} (h : TyS S x n) : OfC K S x (.type n)
  | i {x : D} {C : Addr} {fs : List (Str × D)} (h : IsI S x C fs) (c : InsC K C) : OfC K S x (.ref C)
  | e {C : Addr} {fs : List (Str × D)} (T : XcT K C) : OfC K S (.xv C fs) (.ref C)
theorem OfC.ok {K : PySem.W.Frag} {H : Hp} {S T : Sto} {x : D} {t : Value} {u : V} (o : OfC K S x t) (cl : Cells K H S T) (r : Rep K H T u x) : TyZ K H u t := by
  cases o with
  | e T => cases r with | xv s h s2 h2 r => exact .e h h2 T
  | p h => exact .x (h.ok cl r)
  | i h c =>
    obtain ⟨a, dx, fs, rfl, ha, _⟩ := h.rd cl r
    exact .x (.base (.ins ha c.cl c.ha c.hn c.htk c.hm))
def rIsiV (K : PySem.W.Frag) : CR1 := fun xs H Q => ∃ (x : V) (tp : Addr) (cs : List V) (t : Value) (us : List Value) (b : Bool), xs = [x, .ref tp] ∧ SqT K H tp cs ∧ Paired ClsV cs us ∧ TyZ K H x t ∧ PySem.W.kitAny K t us = some b ∧ Q (.bl b) H
theorem c_isiV {X : Cx} : CallR X (.builtin "isinstance") (rIsiV X.K) := by
  intro pins s σ H xs us Q I r h
  obtain ⟨x, tp, cs, t, ws, b, rfl, hT, k, ty, e, q⟩ := h
  obtain ⟨u1, u2, rfl, r1, r2⟩ := vals2 r
  cases (show u2 = Value.ref tp from r2)
  obtain ⟨P, Z, p, hx⟩ := kit_ofZ I r1 ty
  obtain ⟨its, rv, ⟨o, h1, h2, n, h3⟩, _⟩ := I.tuple hT
  have e3 := ClsV.all k rv
  subst e3
  obtain ⟨oc, od, dt, sl⟩ := o
  simp only at h2 h3
  subst h2 h3
  exact PySem.W.kia_tup Z I.kIn p h1 e hx fun tk => ⟨.bl b, H, I.tok tk, rfl, q⟩
section
variable {c : Ctx} {ρ : Rho} {S : Sto} {F : D → Sto → Prop}
theorem rc_isiO {x : D} {t : Value} {C : Addr} {b : Bool} (o : OfC c.K S x t) (h : PySem.W.kitOne c.K t (.ref C) = some b) (q : F (.bl b) S) : RC c (rIsiZ c.K) [x, .ref C] S F := fun T us H cl r Q k => by
  cases r with
  | cons h1 r => cases r with
    | cons h2 r =>
      cases r
      cases h2
      exact ⟨_, _, _, _, b, rfl, .own C, o.ok cl h1, h, k _ _ S T H Mv.refl cl (.bl _) q⟩
/-- an own class's name -/
theorem ve_cls {C : Addr} (q : F (.ref C) S) : VE c (tC (.ref C)) ρ S F := ve_ref q
/-- isinstance by several classes -/
inductive ClsD : D → Value → Prop
  | ty (n : String) : ClsD (.ty n) (.type n)
  | own (C : Addr) : ClsD (.ref C) (.ref C)
theorem clsD_all {K : PySem.W.Frag} {H : Hp} {T : Sto} : ∀ {cs : List V} {ds : List D} {us : List Value}, Paired ClsD ds us → RepL K H T cs ds → Paired ClsV cs us
  | _, _, _, .nil, .nil => .nil
  | _, _, _, .cons c t, .cons r rt => .cons (by
    cases c with
    | ty n => cases r; exact .ty n
    | own C => cases r; exact .own C) (clsD_all t rt)
theorem rc_isiV {x : D} {t : Value} {ds : List D} {us : List Value} {b : Bool} (o : OfC c.K S x t) (p : Paired ClsD ds us) (h : PySem.W.kitAny c.K t us = some b) (q : F (.bl b) S) : RC c (rIsiV c.K) [x, .tup ds] S F := fun T vs H cl r Q k => by
  cases r with
  | cons h1 r => cases r with
    | cons h2 r =>
      cases r
      obtain ⟨a, xs, rfl, s, rr⟩ := h2.seqT
      exact ⟨_, a, xs, t, us, b, rfl, s, clsD_all p rr, o.ok cl h1, h, k _ _ S T H Mv.refl cl (.bl _) q⟩
end
/-! ### == by an own __eq__ -/
section
variable {c : Ctx} {ρ : Rho} {S : Sto} {F : D → Sto → Prop}
/-! ### a new instance by value -/
theorem VA.imp {G G' : List D → Sto → Prop} {ta : TA} (h : VA c ta ρ S G) (i : ∀ d S, G d S → G' d S) : VA c ta ρ S G' := fun T σ H I Q k => h T σ H I Q fun v d S' T' H' m cl r q => k v d S' T' H' m cl r (i _ _ q)
theorem del_put {S : Sto} {p : Addr} {d : D} (h : S p = none) : del (put S p d) p = S := by
  funext b
  by_cases z : b = p
  · subst z; rw [del_same, h]
  · rw [del_ne z, put_ne z]
theorem del_put2 {S : Sto} {p : Addr} {d e : D} (h : S p = none) : del (put (put S p d) p e) p = S := by
  rw [put_put, del_put h]
/-- C(e, ..), known by value from then on -/
theorem ve_mkV {p : Pt} {E : L2.St → XK} {Y} {t : TA} {C : Addr} {dvs : List V} {dds : List D} (x : XOk c ρ E Y) (hd : ∀ H T, RepL c.K H T dvs dds)
    (h : VA c t ρ S fun ds S1 => ∀ y, S1 y = none → p (.ref y :: (ds ++ dds)) (put S1 y (.ins C [])) (fun d S2 => d = .non ∧ ∃ l d', D.ref y = .ref l ∧ S2 l = some d' ∧ d' ≠ .hid ∧ F d' (VS.del S2 l)) Y) : VE c (tMakeE C (spOf c.K p) dvs E t) ρ S F :=
  ve_freeze (ve_mk x hd h)
end
end VS
namespace VS
open PySem L2 C8 PySem.Spec PyProof.Rows
/-! ### what is known of a method, of a maker -/
structure Mf (P : Program) (w : World) (K : PySem.W.Frag) (mg : Str → Option Value) (base : Heap) (k : Nat) (C : Addr) (m qual : Str) (st : Stmt) (dvs : List V) (ps : List Str) (p : Pt) (f : Addr) (fd : FuncData) : Prop where
  fn : FnG P w K mg base (L2.CX P w) k f fd ps (spOf K p)
  df : Fd K m qual st dvs f fd
  cl : Cls K C
  me : Meth K C m f
  b : Binds K fd ps []
structure Kf (P : Program) (w : World) (K : PySem.W.Frag) (mg : Str → Option Value) (base : Heap) (k : Nat) (x : Str) (C : Addr) (qual : Str) (st : Stmt) (dvs : List V) (ps : List Str) (p : Pt) (f : Addr) (fd : FuncData) : Prop where
  mk_ : L2.Mk K C f
  fn : FnG P w K mg base (L2.CX P w) k f fd ps (spOf K p)
  df : Fd K "__init__" qual st dvs f fd
  mg : mg x = some (.ref C)
  b : Binds K fd ps []
/-- what a call that leaves some out fills up -/
structure Bd (K : PySem.W.Frag) (fd : FuncData) (ps : List Str) (dvs : List V) where
  ds : List Value
  v : Vals dvs ds
  b : Binds K fd ps ds
theorem bdN {K : PySem.W.Frag} {x qual : Str} {st : Stmt} {dvs : List V} {f : Addr} {fd : FuncData} {ps : List Str} (F : Fd K x qual st dvs f fd) (n j : Nat) (hd : dvs ≠ []) (hn : n + (dvs.length - j) = ps.length)
    (h : ∀ (T : Addr) (kV doc pm : Value) (an : Option Addr) (cdv ct : Value) (us its : List Value), us.length = n → its.length = dvs.length →
      ∃ k, bindArgs (PySem.W.fnOf x qual (defArgs st) (defBody st) (defScope st) (.ref T) kV doc pm an cdv ct) ⟨us, []⟩ = seqItems? (.ref T) >>= k ∧ k (some its.toArray) = pure (ps.zip (us ++ its.drop j))) : Nonempty (Bd K fd ps (dvs.drop j)) := by
  obtain ⟨ds, v, b⟩ := F.binds1 n j hd hn h
  exact ⟨⟨ds, v, b⟩⟩
theorem bd_nil {K : PySem.W.Frag} {fd : FuncData} {ps : List Str} (b : Bd K fd ps []) : Binds K fd ps [] := by
  obtain ⟨ds, v, q⟩ := b
  cases v
  exact q
/-- isinstance by an own class, from what the written part says -/
theorem kit_self {K : PySem.W.Frag} {C : Addr} : PySem.W.kitOne K (.ref C) (.ref C) = some true := by
  unfold PySem.W.kitOne
  rw [if_pos (beq_self_eq_true _)]
theorem kit_own {K : PySem.W.Frag} {v : Value} {C : Addr} {b : Bool} (n : (v == Value.ref C) = false) (h1 : PySem.W.isClsIn K C = true) (h2 : PySem.W.typeIn K (.ref C) = some (.type "type")) (h3 : PySem.W.subIn K v (.ref C) = some b) : PySem.W.kitOne K v (.ref C) = some b := by
  have h1' : (PySem.W.clsIn K C).isSome = true := h1
  unfold PySem.W.kitOne
  rw [if_neg (by rw [n]; decide)]
  show (if ((PySem.W.clsIn K C).isSome && PySem.W.typeIn K (.ref C) == some (.type "type")) = true then PySem.W.subIn K v (.ref C) else none) = some b
  rw [if_pos (by rw [h1', h2]; rfl)]
  exact h3
section
variable {c : Ctx} {ρ : Rho} {S : Sto} {F : D → Sto → Prop}
/-- o.m(), o.m(e, ..) -/
theorem ve_mt0 {p : Pt} {E : L2.St → XK} {Y} {ta : TE} {t : TA} {C : Addr} {m : Str} (x : XOk c ρ E Y) (h : VE c ta ρ S fun y S1 => ∃ fs, IsI S1 y C fs ∧ fs.lookup m = none ∧ VA c t ρ S1 fun ds S2 => p (y :: ds) S2 F Y) : VE c (tMethE C m (spOf c.K p) [] E ta t) ρ S F :=
  ve_mt (dds := []) x (fun _ _ => .nil) (h.imp fun y S1 ⟨fs, a, b, g⟩ => ⟨fs, a, b, g.imp fun ds S2 q => by rw [List.append_nil]; exact q⟩)
theorem ve_mk0 {p : Pt} {E : L2.St → XK} {Y} {t : TA} {C : Addr} (x : XOk c ρ E Y) (h : VA c t ρ S fun ds S1 => ∀ y, S1 y = none → p (.ref y :: ds) (put S1 y (.ins C [])) (fun d S2 => d = .non ∧ ∃ l d', D.ref y = .ref l ∧ S2 l = some d' ∧ d' ≠ .hid ∧ F d' (VS.del S2 l)) Y) : VE c (tMakeE C (spOf c.K p) [] E t) ρ S F :=
  ve_mkV (dds := []) x (fun _ _ => .nil) (h.imp fun ds S1 g y hy => by rw [List.append_nil]; exact g y hy)
end
end VS
namespace VS
open PySem L2 C8 PySem.Spec PyProof.Rows
/-! ### a list or a tuple walked -/
def iSeqA (K : PySem.W.Frag) (tl : TE) : TI := fun σ H R => tl σ H fun x H1 => ∃ a, x = .ref a ∧ (((∃ xs, SqL K H1 a xs) ∧ R (Itl K a) H1) ∨ ((∃ xs, SqT K H1 a xs) ∧ R (Itt K a) H1))
theorem pi_seq {X : Cx} {tg l : Expr} {tl : TE} (hl : PE X l tl) : PI X tg l (iSeqA X.K tl) := by
  refine ⟨fun pins s σ H R I h => thn (hl.run pins s σ H _ I h) fun v s1 ⟨x, H1, I1, r1, a, e, q⟩ => ?_⟩
  subst e
  cases r1
  have new : ∀ b, b ∈ [s1.heap.objs.size] → FpOk X pins H1 b := fun b hb => by
    have e : b = s1.heap.objs.size := by simpa using hb
    subst e
    exact I1.fpOk (Nat.le_refl _) (I1.hok.fresh (Nat.le_refl _))
  rcases q with ⟨⟨xs, hq⟩, q⟩ | ⟨⟨xs, hq⟩, q⟩
  · obtain ⟨its, rv, p, hz⟩ := I1.list hq
    exact wpAny_pyIter_list p.isList ⟨s1.heap.objs.size, [s1.heap.objs.size], _, _, H1, rfl, I1.kept (t' := s1.toks) fun b o e => Heap.get?_push_of_some _ e, turn_list a _, ⟨_, Heap.get?_push_size _ rfl, rfl, rfl⟩, new, q⟩
  · obtain ⟨its, rv, p, hz⟩ := I1.tuple hq
    exact wpAny_pyIter_tuple (show s1.heap.IsTuple a its.toArray from p) ⟨s1.heap.objs.size, [s1.heap.objs.size], _, _, H1, rfl, I1.kept (t' := s1.toks) fun b o e => Heap.get?_push_of_some _ e, turn_tuple a _, ⟨_, Heap.get?_push_size _ rfl, rfl, rfl⟩, new, q⟩
theorem yl_tup {K : PySem.W.Frag} {T : Sto} {H : Hp} {a : Addr} {xs : List V} {ds : List D} (hq : ∀ T1 H1, Mv T H T1 H1 → SqT K H1 a xs) (r : RepL K H T xs ds) : Yl K (Itt K a) ds T H := by
  refine ⟨fun H => SqT K H a xs, YAt xs, by rw [← r.length]; exact walk_tup, hq, fun i d S2 T2 H2 H3 x e m cl y => ?_⟩
  obtain ⟨e1, e2⟩ := y
  subst e1
  obtain ⟨v, e3, r'⟩ := r.get e
  rw [e2] at e3
  cases e3
  exact ⟨Mv.refl, cl, r'.mv m⟩
/-- a list or a tuple, by value -/
inductive IsS : D → List D → Prop
  | l {x : D} {ds : List D} (h : IsW x ds) : IsS x ds
  | t {ds : List D} : IsS (.tup ds) ds
section
variable {c : Ctx} {ρ : Rho} {S : Sto} {F : D → Sto → Prop}
theorem vi_seq {te : TE} {W : List D → Sto → Prop} (h : VE c te ρ S fun x S1 => ∃ ds, IsS x ds ∧ W ds S1) : VI c (iSeqA c.K te) ρ S W := fun T σ H I R k =>
  h T σ H I _ fun vx x S1 T1 H1 m1 c1 r1 ⟨ds, hx, q⟩ => by
    cases hx with
    | l hx =>
      obtain ⟨a, xs, rfl, hq, r⟩ := hx.rd r1
      exact ⟨a, rfl, .inl ⟨⟨xs, hq _ _ Mv.refl⟩, k _ ds S1 T1 H1 m1 c1 (yl_list hq r) q⟩⟩
    | t =>
      obtain ⟨a, xs, rfl, hq, r⟩ := tup_stays r1
      exact ⟨a, rfl, .inr ⟨⟨xs, hq _ _ Mv.refl⟩, k _ ds S1 T1 H1 m1 c1 (yl_tup hq r) q⟩⟩
/-- isinstance by a built-in class, whatever is known of the thing's own class -/
theorem rc_isiP {x : D} {t : Value} {N : String} {b : Bool} (o : OfC c.K S x t) (h : PySem.W.kitOne c.K t (.type N) = some b) (q : F (.bl b) S) : RC c (rIsiZ c.K) [x, .ty N] S F := fun T us H cl r Q k => by
  cases r with
  | cons h1 r => cases r with
    | cons h2 r =>
      cases r
      cases h2
      exact ⟨_, _, _, _, b, rfl, .ty N, o.ok cl h1, h, k _ _ S T H Mv.refl cl (.bl _) q⟩
end
/-! ### a, b = e1, e2 -/
section
variable {c : Ctx} {ρ : Rho} {S : Sto}
theorem vx_par {i j : Nat} {ta : TA} {nx bk ct : Rho → Sto → Prop} {rt : D → Sto → Prop} (h : VA c ta ρ S fun ds S1 => ∃ x y, ds = [x, y] ∧ nx ((ρ.set i (some x)).set j (some y)) S1) : VX c (tPar i j ta) ρ S ⟨nx, rt, bk, ct⟩ := fun T σ H I D b =>
  h T σ H I _ fun vs ds S1 T1 H1 m1 c1 r1 ⟨x, y, e, q⟩ => by
    subst e
    cases r1 with
    | cons r t => cases t with
      | cons r' t =>
        cases t
        exact ⟨_, _, rfl, b.nx _ _ S1 T1 H1 m1 (((I.mv m1 c1).set i r).set j r') q⟩
end
/-! ### a is not b of truths -/
/-! ### == of lists of whole numbers -/
end VS
namespace VS
open PySem L2 C8 PySem.Spec PyProof.Rows
/-! ### slices of tuples, the place of a flat thing in a list -/
section
variable {c : Ctx} {ρ : Rho} {S : Sto} {F : D → Sto → Prop}
theorem rs_tupA {ds : List D} {lo hi : Option Int} (n : ¬ (HT.sIx ds.length 0 lo = 0 ∧ HT.sIx ds.length ds.length hi = ds.length)) (q : F (.tup (cutD ds lo hi)) S) : RS c (rSlA c.K) (.tup ds) lo hi S F := fun T u H cl r Q k => by
  obtain ⟨a, xs, rfl, s, rr⟩ := r.seqT
  exact ⟨a, xs, rfl, s, fun z => absurd z (by rw [rr.length]; exact n), fun _ p hp => k _ _ S T _ (mv_new hp) (cl.new hp) (.tup (cl.free hp) upd_same ((rr.cut lo hi).mv (mv_new hp))) q⟩
end
theorem exm_own {K : PySem.W.Frag} {v : Value} {C : Addr} {b : Bool} (h1 : PySem.W.isClsIn K C = true) (h2 : PySem.W.typeIn K (.ref C) = some (.type "type")) (h3 : PySem.W.subIn K v (.ref C) = some b) (h4 : PySem.W.subIn K (.ref C) (.type "BaseException") = some true) : PySem.W.exmOne K v (.ref C) = some b := by
  have h1' : (PySem.W.clsIn K C).isSome = true := h1
  unfold PySem.W.exmOne PySem.W.kitCls
  rw [h4, if_pos (by decide)]
  show (if ((PySem.W.clsIn K C).isSome && PySem.W.typeIn K (.ref C) == some (.type "type")) = true then PySem.W.subIn K v (.ref C) else none) = some b
  rw [if_pos (by rw [h1', h2]; decide)]
  exact h3
end VS
namespace VS
open PySem L2 C8 PySem.Spec PyProof.Rows
/-! ### repr and str by an own def -/
section
variable {X : Cx} {k : Nat} {f C : Addr} {fd : FuncData} {ps : List Str} {sp : Sp} {A : Around}
/-- the callee runs, somewhere below the running body -/
theorem callG_at {pins : List (Addr × Obj)} {σ : L2.St} {H : Hp} {s : Shared} {Q : VK} {us : List Value} {vs : List V} (F : FnG X.prog X.w X.K X.mg X.base (L2.CX X.prog X.w) k f fd ps sp) (hgd : A.guards = some []) (hr : Room k A) (fr : A.frames = X.A.frames)
    (hb : Binds X.K fd ps []) (I : Inv X pins σ H s) (r : Vals vs us) (h : sp vs H Q (fun _ _ _ => False)) : wpAny (model X.prog X.w) A (call (.ref f) us) (EP X pins σ Q) X.xe s := by
  have e0 : Env0 X.prog X.w X.K X.mg X.base A X.stack s H := by
    have e := I.env0
    exact ⟨by rw [fr]; exact e.frames, e.mod, e.bs, e.bsz, e.funs, e.frf, e.hok, e.bare⟩
  have hl := F.len _ _ _ _ h
  have bd := bindsAt (dvs := []) (ds := []) (us := us) (vs := vs) hb .nil I.kIn r (by rw [List.append_nil]; exact hl)
  rw [List.append_nil] at bd
  refine wpAny_call (codeAny_mono (F.run A hgd X.stack s H ⟨us, []⟩ us vs Q (fun _ _ _ => False) hr e0 bd r h) fun rr s' q => ?_)
  have z := call_end (E := noE) pass0 I q
  cases rr with
  | error e => exact z
  | ok fl => cases fl <;> exact z
def rReprB (K : PySem.W.Frag) (C : Addr) (sp : Sp) : CR1 := fun xs H Q => rRepr K xs H Q ∨ ∃ a dx fs, xs = [.ref a] ∧ H a = some (.ins C dx fs) ∧ sp [.ref a] H (fun v H' => ∃ z, v = .str z ∧ Q (.str z) H') (fun _ _ _ => False)
theorem c_reprB (F : FnG X.prog X.w X.K X.mg X.base (L2.CX X.prog X.w) k f fd ps sp) (hgd : X.A.guards = some []) (hr : Room (k + 1) X.A) (hs : PySem.W.findIn X.K (.ref C) "__repr__" = some (some (.ref f))) (hf : PySem.W.isFn X.K (.ref f) = true) (hb : Binds X.K fd ps []) (hsys : SysOk X.base) :
    CallR X (.builtin "repr") (rReprB X.K C sp) := by
  intro pins s σ H xs us Q I r h
  rcases h with h | ⟨a, dx, fs, rfl, ha, hp⟩
  · exact c_repr hgd hr hsys pins s σ H xs us Q I r h
  · obtain ⟨u, rfl, rv⟩ := vals1 r
    cases (show u = Value.ref a from rv)
    obtain ⟨mA, J, _⟩ := ins_get I.hok ha
    obtain ⟨od, J, _⟩ := J.look
    obtain ⟨m, hF⟩ := I.fr
    refine PySem.W.repr_K hr.in1.units0 hF I.ok.mod.kin J hs hf ?_
    refine wpAny_mono (callG_at (A := X.A.in1) F hgd hr.in1 rfl hb I (.cons (show RelV (.ref a) (.ref a) from rfl) .nil) hp) (fun rr s' q => ?_) fun _ _ z => z
    obtain ⟨w, H', I', rw', z, ew, q'⟩ := q
    subst ew
    obtain ⟨tk, rfl⟩ := (show ∃ tk, rr = .str z tk from rw')
    exact ⟨.str z, H', I', ⟨_, rfl⟩, q'⟩
end
section
variable {c : Ctx} {ρ : Rho} {S : Sto} {F : D → Sto → Prop}
theorem rc_reprD {xs : List D} {C : Addr} {sp : Sp} (h : RC c (rRepr c.K) xs S F) : RC c (rReprB c.K C sp) xs S F := fun T us H cl r Q k => .inl (h T us H cl r Q k)
theorem rc_reprO {x : D} {C : Addr} {fs : List (Str × D)} {p : Pt} (i : IsI S x C fs) (h : p [x] S (fun d S' => ∃ z, d = .str z ∧ F (.str z) S') noY) : RC c (rReprB c.K C (spOf c.K p)) [x] S F := fun T us H cl r Q k => by
  cases r with
  | cons r1 r =>
    cases r
    obtain ⟨a, dx, fv, rfl, ha, rf⟩ := i.rd cl r1
    refine .inr ⟨a, dx, fv, rfl, ha, ⟨[x], S, T, _, noY, .cons r1 .nil, cl, h, ?_, fun _ _ _ _ _ _ _ _ _ z => z.elim⟩⟩
    rintro v d S' T' H' m cl' r' ⟨z, rfl, q⟩
    cases r'
    exact ⟨z, rfl, k _ _ S' T' H' m cl' (.str z) q⟩
end
end VS
namespace VS
open PySem L2 C8 PySem.Spec PyProof.Rows
/-! ### f-strings of texts and ints -/
def VJs (c : Ctx) (ts : List TE) (acc : Str) (ρ : Rho) (S : Sto) (F : Str → Sto → Prop) : Prop := ∀ T σ H, In c σ H ρ S T → ∀ Q : Str → Hp → Prop,
  (∀ z S' T' H', Mv T H T' H' → Cells c.K H' S' T' → F z S' → Q z H') → tJs ts acc σ H Q
section
variable {c : Ctx} {ρ : Rho} {S : Sto}
theorem vj_nil {acc : Str} {F : Str → Sto → Prop} (q : F acc S) : VJs c [] acc ρ S F := fun T σ H I Q k => k acc S T H Mv.refl I.cells q
theorem vj_cons {t : TE} {ts : List TE} {acc : Str} {F : Str → Sto → Prop} (h : VE c t ρ S fun x S1 => ∃ y, x = .str y ∧ (acc ++ y).length ≤ sizeLine ∧ VJs c ts (acc ++ y) ρ S1 F) : VJs c (t :: ts) acc ρ S F := fun T σ H I Q k =>
  h T σ H I _ fun vx x S1 T1 H1 m1 c1 r1 ⟨y, e, hl, q⟩ => by
    subst e
    cases r1
    exact ⟨y, rfl, hl, q T1 σ H1 (I.mv m1 c1) Q fun z S' T' H' m => k z S' T' H' (m1.trans m)⟩
theorem ve_fstr {ts : List TE} {F : D → Sto → Prop} (h : VJs c ts Str.empty ρ S fun z S1 => F (.str z) S1) : VE c (fun σ H Q => tJs ts Str.empty σ H fun out H1 => Q (.str out) H1) ρ S F := fun T σ H I Q k =>
  h T σ H I _ fun z S' T' H' m cl q => k _ _ S' T' H' m cl (.str z) q
theorem ve_fmtI {te : TE} {F : D → Sto → Prop} (h : VE c te ρ S fun x S1 => ∃ i : Int, x = .int i ∧ i.natAbs.log2 < 1920 ∧ F (.str (toString i)) S1) : VE c (tFmt te) ρ S F := fun T σ H I Q k =>
  h T σ H I _ fun vx x S1 T1 H1 m1 c1 r1 ⟨i, e, hl, q⟩ => by
    subst e
    cases r1
    exact .inr ⟨i, rfl, hl, k _ _ S1 T1 H1 m1 c1 (.str _) q⟩
end
end VS
namespace VS
open PySem L2 C8 PySem.Spec PyProof.Rows
/-! ### a comprehension over a list known by reference: it is hidden meanwhile -/
section
variable {c : Ctx} {ρ : Rho} {S : Sto} {F : D → Sto → Prop}
theorem lc_heartAt {wi : TI} {g : TG} {tt : TT} {te : TE} {vs : List Nat} {R : List D → Sto → Prop} {T : Sto} {σ : L2.St} {H : Hp}
    (h : ∀ Q : It → Hp → Prop, (∀ J ds S1 T1 H1, Mv T H T1 H1 → Cells c.K H1 S1 T1 → Yl c.K J ds T1 H1 → (ds.length ≤ 100000 ∧ ∃ W : Nat → List D → Sto → Prop, W 0 [] S1 ∧ (∀ (i : Nat) (d : D) acc S2, ds[i]? = some d → W i acc S2 → acc.length ≤ i → VGw c vs g d (wipeR ρ vs) S2 fun ρ3 S3 => VT c tt ρ3 S3 fun b S4 => (b = true → VE c te ρ3 S4 fun y S5 => W (i + 1) (acc ++ [y]) S5) ∧ (b = false → W (i + 1) acc S4)) ∧
      (∀ acc S2, W ds.length acc S2 → acc.length ≤ ds.length → R acc S2)) → Q J H1) → wi σ H Q) (I : In c σ H ρ S T) {Q : VK}
    (k : ∀ p xs acc S' T' H' T1 H1, Mv T H T1 H1 → Mv T1 H1 T' H' → Cells c.K H' S' T' → T' p = some .hid → H1 p = none → H' p = some (.lst xs) → RepL c.K H' T' xs acc → R acc S' → Q (.ref p) H') : tLc wi g tt te vs σ H Q :=
  h _ fun J ds S1 T1 H1 m1 c1 ⟨G, Y, w, hG, hY⟩ ⟨hl, W, h0, hs, hd⟩ => fun p hp => by
    refine lc_it w (fun i H' => ∃ S2 T2 xs acc, Mv T1 H1 T2 H' ∧ Cells c.K H' S2 T2 ∧ T2 p = some .hid ∧ H' p = some (.lst xs) ∧ RepL c.K H' T2 xs acc ∧ acc.length ≤ i ∧ W i acc S2)
      ⟨S1, put T1 p .hid, [], [], mv_newc hp, c1.newh hp, put_same, upd_same, .nil, Nat.le_refl _, h0⟩ (fun i H' _ ⟨S2, T2, _, _, m, _⟩ => hG T2 H' m) ?_ ?_
    · rintro i x H' H'' hi ⟨S2, T2, xs, acc, m, c2, s2, hx, r2, hle, hw⟩ y
      obtain ⟨d, e⟩ : ∃ d, ds[i]? = some d := ⟨ds[i], List.getElem?_eq_getElem hi⟩
      obtain ⟨m3, c3, r3⟩ := hY i d S2 T2 H' H'' x e m c2 y
      have I2 : In c σ H'' ρ S2 T2 := I.mv (m1.trans (m.trans m3)) c3
      refine hs i d acc S2 e hw hle T2 x (L2.wipe σ vs) H'' (I2.wipe vs) r3 _ fun σ3 ρ3 S3 T3 H3 ew m4 I3 q => ⟨ew.trans (wipe_wipe vs vs fun _ h => h), ?_⟩
      refine q T3 σ3 H3 I3 _ fun b S4 T4 H4 m5 c4 ⟨q1, q2⟩ => ?_
      have mm := m3.trans (m4.trans m5)
      cases b with
      | true =>
        refine iteT (q1 rfl T4 σ3 H4 (I3.mv m5 c4) _ fun v y S5 T5 H5 m6 c5 r5 q5 => ?_)
        have m7 := mm.trans m6
        obtain ⟨hx5, s5⟩ := m7.hid _ _ s2 hx
        refine ⟨xs, hx5, ?_, S5, T5, xs ++ [v], acc ++ [y], (m.trans m7).hidw hp, c5.hidw s5, s5, upd_same, ((r2.mv m7).append (.cons r5 .nil)).mk (mk_hid s5), ?_, q5⟩
        · rw [r2.length]
          exact Nat.lt_of_lt_of_le (show acc.length < 100001 by omega) (by decide)
        · rw [List.length_append, List.length_singleton]
          omega
      | false =>
        obtain ⟨hx5, s5⟩ := mm.hid _ _ s2 hx
        exact iteF ⟨S4, T4, xs, acc, m.trans mm, c4, s5, hx5, r2.mv mm, by omega, q2 rfl⟩
    · rintro H' ⟨S2, T2, xs, acc, m, c2, s2, hx, r2, hle, hw⟩
      exact k p xs acc S2 T2 H' T1 H1 m1 m c2 s2 hp hx r2 (hd acc S2 hw hle)
theorem mv_hide {T : Sto} {H : Hp} {l : Addr} {d : D} (h : T l = some d) (ne : d ≠ .hid) : Mv T H (put T l .hid) H where
  keep := fun _ _ _ h => h
  fresh := fun a s _ => by
    rw [put_ne]
    · exact s
    · intro z; subst z; rw [h] at s; cases s
  hid := fun a o s e => by
    refine ⟨e, ?_⟩
    rw [put_ne]
    · exact s
    · intro z; subst z; rw [h] at s; cases s; exact absurd rfl ne
theorem Cells.hide {K : PySem.W.Frag} {S T : Sto} {H : Hp} {l : Addr} {ds : List D} {xs : List V} (cl : Cells K H S T) (h : S l = some (.lst ds)) (hx : H l = some (.lst xs)) : Cells K H (VS.del S l) (put T l .hid) := by
  have ht := cl.at h
  refine ⟨fun a => ?_, fun a e q => ?_⟩
  · by_cases z : a = l
    · subst z; exact .inr ⟨del_same, put_same⟩
    · rw [put_ne z, VS.del_ne z]; exact cl.ov a
  · by_cases z : a = l
    · subst z; rw [put_same] at q; cases q; exact ⟨_, hx⟩
    · rw [put_ne z] at q
      exact CellOk.mk (mv_hide ht (by nofun)).toMk rfl (cl.ok a e q)
end
end VS
namespace VS
open PySem L2 C8 PySem.Spec PyProof.Rows
/-! ### x in, not in a list of data -/
end VS
namespace VS
open PySem L2 C8 PySem.Spec PyProof.Rows
/-! ### an own class beside a built-in one -/
theorem kit_tyO {K : PySem.W.Frag} {C : Addr} {T : String} {b : Bool} (h : PySem.W.kitMeta T = true) (h2 : PySem.W.subIn K (.ref C) (.type T) = some b) : PySem.W.kitOne K (.ref C) (.type T) = some b := by
  unfold PySem.W.kitOne
  rw [if_neg (by simp)]
  show (if PySem.W.kitMeta T = true then PySem.W.subIn K (.ref C) (.type T) else none) = some b
  rw [if_pos h]
  exact h2
end VS
namespace VS
open PySem L2
/-! ### further words of the walk -/
section
variable {c : Ctx} {ρ : Rho} {S : Sto} {F : D → Sto → Prop}
theorem ex_ins {x : D} {C : Addr} {fs : List (Str × D)} {m : Str} {G : Prop} (i : IsI S x C fs) (h : fs.lookup m = none) (g : G) : ∃ fs, IsI S x C fs ∧ fs.lookup m = none ∧ G := ⟨fs, i, h, g⟩
theorem ex_fldI {K : PySem.W.Frag} {x : D} {C : Addr} {fs : List (Str × D)} {f : Str} {e : D} {G : D → Prop} (i : IsI S x C fs) (k : Cls K C) (n : NoAttr K C f) (h : fs.lookup f = some e) (g : G e) :
    ∃ C fs e, IsI S x C fs ∧ Cls K C ∧ NoAttr K C f ∧ fs.lookup f = some e ∧ G e := ⟨C, fs, e, i, k, n, h, g⟩
theorem ex_cell {l : Addr} {ds : List D} {G : Addr → Prop} (h : S l = some (.lst ds)) (g : G l) : ∃ l' ds, D.ref l = .ref l' ∧ S l' = some (.lst ds) ∧ G l' := ⟨l, ds, rfl, h, g⟩
end
theorem joinP {A Q : Sto → Prop} {B : Prop} (h : (∀ S, A S → Q S) → B) (k : ∀ S, A S → Q S) : B := h k
end VS
namespace VS
theorem brYn {α : Type} {x y : α} [Decidable (x = y)] {A B : Prop} (e : x ≠ y) (b : B) : (decide (x = y) = true → A) ∧ (decide (x = y) = false → B) :=
  ⟨fun z => (by rw [decide_eq_false e] at z; cases z), fun _ => b⟩
theorem brYd {α : Type} {x y : α} [Decidable (x = y)] {A B : Prop} (e : x = y) (a : A) : (decide (x = y) = true → A) ∧ (decide (x = y) = false → B) :=
  ⟨fun _ => a, fun z => (by rw [decide_eq_true e] at z; cases z)⟩
end VS
namespace VS
open PySem L2
/-! ### data, by value or as a list or dict known by reference -/
inductive Da (S : Sto) : D → D → Prop
  | v {d : D} (p : isP d = true) : Da S d d
  | c {l : Addr} {ds : List D} (h : S l = some (.lst ds)) (p : isP (.lst ds) = true) : Da S (.ref l) (.lst ds)
  | k {l : Addr} {ds : List (Key × D)} (h : S l = some (.dK ds)) (p : isP (.dK ds) = true) : Da S (.ref l) (.dK ds)
def tyN : D → String
  | .non => "NoneType"
  | .bl _ => "bool"
  | .int _ => "int"
  | .str _ => "str"
  | .lst _ => "list"
  | .tup _ => "tuple"
  | .dK _ => "dict"
  | _ => ""
theorem tyN_all {P : String → Prop} (h1 : P "NoneType") (h2 : P "bool") (h3 : P "int") (h4 : P "str") (h5 : P "list") (h6 : P "tuple") (h7 : P "dict") : ∀ {d : D}, isP d = true → P (tyN d)
  | .non, _ => h1
  | .bl _, _ => h2
  | .int _, _ => h3
  | .str _, _ => h4
  | .lst _, _ => h5
  | .tup _, _ => h6
  | .dK _, _ => h7
  | .ty _, h => by cases h
  | .ref _, h => by cases h
  | .rol _, h => by cases h
  | .hid, h => by cases h
  | .ins _ _, h => by cases h
  | .xcp _ _ _ _, h => by cases h
  | .xv _ _, h => by cases h
section
variable {S S' : Sto} {d d' : D}
theorem Da.p (h : Da S d d') : isP d' = true := by cases h <;> assumption
theorem Da.ty (h : Da S d d') : TyS S d (tyN d') := by
  cases h with
  | v p =>
    cases d with
    | non => exact .non
    | bl b => exact .bl b
    | int i => exact .int i
    | str z => exact .str z
    | lst xs => exact .lst xs
    | tup xs => exact .tup xs
    | dK xs => exact .dK xs
    | _ => cases p
  | c h p => exact .cl h
  | k h p => exact .cd h
theorem Da.of {K : PySem.W.Frag} (h : Da S d d') : OfC K S d (.type (tyN d')) := .p h.ty
/-- of a built-in class -/
def isK (N : String) (d : D) : Bool := (kitB (tyN d) N).getD false
theorem isK_all {N : String} (h1 : (kitB "NoneType" N).isSome = true) (h2 : (kitB "bool" N).isSome = true) (h3 : (kitB "int" N).isSome = true) (h4 : (kitB "str" N).isSome = true) (h5 : (kitB "list" N).isSome = true) (h6 : (kitB "tuple" N).isSome = true) (h7 : (kitB "dict" N).isSome = true)
    (h : isP d = true) : kitB (tyN d) N = some (isK N d) := by
  have e := tyN_all (P := fun n => (kitB n N).isSome = true) h1 h2 h3 h4 h5 h6 h7 h
  unfold isK
  cases q : kitB (tyN d) N with
  | none => rw [q] at e; cases e
  | some b => rfl
theorem rc_isiD {c : Ctx} {F : D → Sto → Prop} {N : String} (h : Da S d d') (e : kitB (tyN d') N = some (isK N d')) (q : F (.bl (isK N d')) S) : RC c (rIsiZ c.K) [d, .ty N] S F := rc_isi h.ty e q
theorem isK_str (h : isP d = true) : kitB (tyN d) "str" = some (isK "str" d) := isK_all rfl rfl rfl rfl rfl rfl rfl h
theorem isK_list (h : isP d = true) : kitB (tyN d) "list" = some (isK "list" d) := isK_all rfl rfl rfl rfl rfl rfl rfl h
theorem isPL_of : ∀ {xs : List D}, (∀ x ∈ xs, isP x = true) → isPL xs = true
  | [], _ => rfl
  | y :: ys, h => by
    show (isP y && isPL ys) = true
    rw [h y (List.mem_cons_self ..), isPL_of fun x hx => h x (List.mem_cons_of_mem _ hx)]; rfl
/-- all items of a list are data, one to one -/
inductive DaL (S : Sto) : List D → List D → Prop
  | nil : DaL S [] []
  | cons {d d' : D} {ds ds' : List D} (h : Da S d d') (t : DaL S ds ds') : DaL S (d :: ds) (d' :: ds')
theorem DaL.at : ∀ {xs ys : List D} {i : Nat} {d : D}, DaL S xs ys → xs[i]? = some d → ∃ d', ys[i]? = some d' ∧ Da S d d'
  | _, _, _, _, .nil, e => by simp at e
  | _, _, 0, _, .cons h _, e => by simp at e; subst e; exact ⟨_, rfl, h⟩
  | _, _, i + 1, d, .cons _ t, e => by
    obtain ⟨d', h1, h2⟩ := DaL.at (i := i) (d := d) t (by simpa using e)
    exact ⟨d', by simpa using h1, h2⟩
theorem DaL.length : ∀ {xs ys : List D}, DaL S xs ys → xs.length = ys.length
  | _, _, .nil => rfl
  | _, _, .cons _ t => congrArg Nat.succ t.length
theorem DaL.append : ∀ {xs ys us vs : List D}, DaL S xs ys → DaL S us vs → DaL S (xs ++ us) (ys ++ vs)
  | _, _, _, _, .nil, k => k
  | _, _, _, _, .cons h t, k => .cons h (t.append k)
end
end VS
namespace VS
open L2
theorem atI_zero {α : Type} {x : α} {xs : List α} : atI (x :: xs) 0 = some x := atI_nat (j := 0) rfl
end VS
namespace VS
open PySem L2 C8
section
variable {c : Ctx} {S : Sto} {F : D → Sto → Prop}
theorem rv_catA {xs ys : List D} (hl : xs.length + ys.length ≤ sizeLine) (q : F (.tup (xs ++ ys)) S) : RV c (rCatA c.K) (.tup xs) (.tup ys) S F := fun T u w H cl r1 r2 Q k => by
  obtain ⟨a, us, rfl, s1, rr1⟩ := r1.seqT
  obtain ⟨b, ws, rfl, s2, rr2⟩ := r2.seqT
  refine ⟨a, b, us, ws, rfl, rfl, s1, s2, by rw [rr1.length, rr2.length]; exact hl, fun e => ?_, fun _ e => ?_, fun _ _ p hp => ?_⟩
  · subst e
    cases rr1
    exact k _ _ S T H Mv.refl cl r2 q
  · subst e
    cases rr2
    rw [List.append_nil] at q
    exact k _ _ S T H Mv.refl cl r1 q
  · exact k _ _ S T _ (mv_new hp) (cl.new hp) (.tup (cl.free hp) upd_same ((rr1.append rr2).mv (mv_new hp))) q
theorem rs_tupG {ds : List D} {lo hi : Option Int} (q : F (.tup (cutD ds lo hi)) S) : RS c (rSlA c.K) (.tup ds) lo hi S F := by
  by_cases n : HT.sIx ds.length 0 lo = 0 ∧ HT.sIx ds.length ds.length hi = ds.length
  · have e : cutD ds lo hi = ds := by
      unfold cutD
      rw [n.1, n.2, List.drop_zero, Nat.sub_zero, List.take_length]
    rw [e] at q
    exact fun T u H cl r Q k => by
      obtain ⟨a, xs, rfl, s, rr⟩ := r.seqT
      exact ⟨a, xs, rfl, s, fun _ => k _ _ S T H Mv.refl cl r q, fun z => absurd (by rw [rr.length]; exact n) z⟩
  · exact rs_tupA n q
end
end VS
namespace VS
theorem ex_two {x y : D} {G : D → D → Prop} (g : G x y) : ∃ x' y', ([x, y] : List D) = [x', y'] ∧ G x' y' := ⟨x, y, rfl, g⟩
end VS
namespace VS
open L2
end VS
namespace VS
open PySem L2
theorem keepc {S : Sto} {p a : Addr} {d x : D} (h : S a = some x) (hp : S p = none) : put S p d a = some x := (put_ne (ne_at h hp)).trans h
end VS
namespace VS
open PySem L2
theorem Da.put {S : Sto} {y : Addr} {x d d' : D} (h : Da S d d') (hy : S y = none) : Da (VS.put S y x) d d' := by
  cases h with
  | v p => exact .v p
  | c h p => exact .c (keepc h hy) p
  | k h p => exact .k (keepc h hy) p
end VS
namespace VS
end VS
namespace VS
open PySem L2 C8
/-! ### try by name -/
def tTry (K : PySem.W.Frag) (tb : WX → TS) (l : List Cla) : TS := fun D σ H => tb (wCla K D l) D σ H
section
variable {X : Cx}
theorem ps_tryD {body : List Stmt} {h₀ : ExceptHandler} {hds : List ExceptHandler} {l : List Cla} {tb : WX → TS} {pos : Pos} (hs : X.stack = X.env :: X.outer) (hf : X.env.frame = some X.env.locals) (hN : X.N.Nodup)
    (hb : ∀ (W : WX) (pn : List (Addr × Obj)) (xe : Value → Shared → Prop), Takes (X.tr pn xe) W → PassesOwn (model X.prog X.w) X.A X.env xe → PSs (X.tr pn xe) body (tb W)) (hh : Clas X (h₀ :: hds) l) :
    PS X (.Try body (h₀ :: hds) [] [] pos) (tTry X.K tb l) := ps_tryC hs hf hN hb hh
end
theorem vx_tryD {c : Ctx} {ρ : Rho} {S : Sto} {P : Po} {tb : WX → TS} {l : List Cla} (h : ∀ E' : L2.St → XK, VX ⟨c.K, E', fun C fs ρ' S' => HdV c P l C fs ρ' S'⟩ (tb (fun cls d σ H => E' σ cls d H)) ρ S P) :
    VX c (tTry c.K tb l) ρ S P := vx_try h
theorem hd_hit {c : Ctx} {ρ : Rho} {S : Sto} {P : Po} {k : Cla} {r : List Cla} {C : Addr} {fs : List (Str × D)} (e : PySem.W.exmOne c.K (.ref C) k.c = some true) (h : ∀ a dd, VX c (k.t a (.ref C) (some dd)) (inR k.i (.xcp a dd C fs) ρ) S (offP k.i P)) :
    HdV c P (k :: r) C fs ρ S := ⟨true, e, fun _ => h, nofun⟩
end VS
namespace VS
open PySem L2 C8
theorem ex_xf {a dd C : Addr} {fs : List (Str × D)} {f : Str} {e : D} {G : D → Prop} (h : fs.lookup f = some e) (g : G e) : ∃ dd' fs' e', D.xcp a dd C fs = .xcp a dd' C fs' ∧ some dd = some dd' ∧ fs'.lookup f = some e' ∧ G e' := ⟨dd, fs, e, rfl, rfl, h, g⟩
end VS
namespace VS
open PySem L2 C8
/-! ### within a clause's suite -/
end VS
namespace VS
open PySem L2
/-! ### what is known by reference read as by value meanwhile -/
end VS
namespace VS
open PySem L2
section
variable {c : Ctx} {ρ ρ' : Rho} {S : Sto} {F : D → Sto → Prop} {G : Bool → Sto → Prop}
/-- the items of a list or a tuple -/
def rowsOf : D → List D
  | .lst xs => xs
  | .tup xs => xs
  | _ => []
def isLT : D → Bool
  | .lst _ => true
  | .tup _ => true
  | _ => false
theorem isS_of {d : D} (h : isLT d = true) : IsS d (rowsOf d) := by
  cases d with
  | lst xs => exact .l .v
  | tup xs => exact .t
  | _ => cases h
theorem rc_isiLT {d d' : D} (hd : Da S d d') (q : F (.bl (isLT d')) S) : RC c (rIsiV c.K) [d, .tup [.ty "list", .ty "tuple"]] S F := by
  have e : PySem.W.kitAny c.K (.type (tyN d')) [.type "list", .type "tuple"] = some (isLT d') := by
    have p := hd.p
    cases d' with
    | non => rfl
    | bl b => rfl
    | int i => rfl
    | str z => rfl
    | lst xs => rfl
    | tup xs => rfl
    | dK xs => rfl
    | _ => cases p
  exact rc_isiV hd.of (.cons (.ty _) (.cons (.ty _) .nil)) e q
theorem ex_self {K : PySem.W.Frag} {l C : Addr} {fs : List (Str × D)} {f : Str} {G : Addr → Addr → List (Str × D) → Prop} (h : S l = some (.ins C fs)) (k : Cls K C) (n : NoAttr K C f) (hl : fs.length < 1000) (g : G l C fs) :
    ∃ l' C' fs', D.ref l = .ref l' ∧ S l' = some (.ins C' fs') ∧ Cls K C' ∧ NoAttr K C' f ∧ fs'.length < 1000 ∧ G l' C' fs' := ⟨l, C, fs, rfl, h, k, n, hl, g⟩
end
end VS
namespace VS
open PySem L2 C8 PySem.Spec PyProof.Rows
/-! ### len and != by an own def -/
end VS
namespace VS
open PySem L2 C8
end VS
namespace VS
open PySem L2 C8 PySem.Spec PyProof.Rows
/-! ### == with an empty list, an empty tuple -/
def rEqE (K : PySem.W.Frag) : R2 := fun x y H Q => ∃ a b xs, x = .ref a ∧ y = .ref b ∧ ((SqL K H a xs ∧ SqL K H b []) ∨ (SqT K H a xs ∧ SqT K H b [])) ∧ Q (.bl xs.isEmpty) H
theorem op_eqE {X : Cx} {k : Nat} (hr : Room k X.A) : OpR X (compareOp .Eq) (rEqE X.K) := by
  intro pins s σ H x y v u Q I rx ry h
  obtain ⟨a, b, xs, rfl, rfl, hq, q⟩ := h
  cases rx
  cases ry
  have sz : ∀ {ws : List V} {us : List Value}, Vals ws us → us.toArray.size = ws.length := fun r => by rw [List.size_toArray, r.length]
  rcases hq with ⟨h1, h2⟩ | ⟨h1, h2⟩
  · obtain ⟨its, rv, p, _⟩ := I.list h1
    obtain ⟨its2, rv2, p2, _⟩ := I.list h2
    cases rv2
    cases rv with
    | nil => exact SeqAt.eq_listAt (e := fun _ => true) p.isList p2.isList rfl hr.units0 (fun j h => absurd h (by simp)) ⟨.bl true, H, I, rfl, q⟩
    | cons r rs => exact SeqAt.eq_list_lengthsAt p.isList p2.isList (by simp) hr.units0 ⟨.bl false, H, I, rfl, q⟩
  · obtain ⟨its, rv, p, _⟩ := I.tuple h1
    obtain ⟨its2, rv2, p2, _⟩ := I.tuple h2
    cases rv2
    have e : ((List.range (min its.toArray.size ([] : List Value).toArray.size)).all (fun _ => true) && its.toArray.size == ([] : List Value).toArray.size) = xs.isEmpty := by
      cases rv with
      | nil => rfl
      | cons r rs => simp
    refine SeqAt.eq_tupleAt (e := fun _ => true) (show s.heap.IsTuple a its.toArray from p) (show s.heap.IsTuple b _ from p2) hr.units0 (fun j _ h => absurd h (by simp)) ?_
    rw [e]
    exact ⟨.bl xs.isEmpty, H, I, rfl, q⟩
section
variable {c : Ctx} {S : Sto} {F : D → Sto → Prop}
theorem rv_eqEL {x : D} {xs : List D} (h : IsL S x xs) (q : F (.bl xs.isEmpty) S) : RV c (rEqE c.K) x (.lst []) S F := fun T u w H cl r1 r2 Q k => by
  obtain ⟨a, us, rfl, s1, rr⟩ := h.rd cl r1
  obtain ⟨b, ws, rfl, s2, rr2⟩ := (IsL.v (S := S) (ds := [])).rd cl r2
  cases rr2
  refine ⟨a, b, us, rfl, rfl, .inl ⟨s1, s2⟩, ?_⟩
  have e : us.isEmpty = xs.isEmpty := by cases rr <;> rfl
  rw [e]
  exact k _ _ S T H Mv.refl cl (.bl _) q
theorem rv_eqET {xs : List D} (q : F (.bl xs.isEmpty) S) : RV c (rEqE c.K) (.tup xs) (.tup []) S F := fun T u w H cl r1 r2 Q k => by
  obtain ⟨a, us, rfl, s1, rr⟩ := r1.seqT
  obtain ⟨b, ws, rfl, s2, rr2⟩ := r2.seqT
  cases rr2
  refine ⟨a, b, us, rfl, rfl, .inr ⟨s1, s2⟩, ?_⟩
  have e : us.isEmpty = xs.isEmpty := by cases rr <;> rfl
  rw [e]
  exact k _ _ S T H Mv.refl cl (.bl _) q
end
end VS
namespace VS
open PySem L2 C8 PySem.Spec PyProof.Rows
def rNeE (K : PySem.W.Frag) : R2 := fun x y H Q => ∃ a b xs, x = .ref a ∧ y = .ref b ∧ ((SqL K H a xs ∧ SqL K H b []) ∨ (SqT K H a xs ∧ SqT K H b [])) ∧ Q (.bl (!xs.isEmpty)) H
theorem op_neE {X : Cx} {k : Nat} (hr : Room k X.A) : OpR X (compareOp .NotEq) (rNeE X.K) := by
  intro pins s σ H x y v u Q I rx ry h
  obtain ⟨a, b, xs, rfl, rfl, hq, q⟩ := h
  cases rx
  cases ry
  show wpAny _ _ (richCompare .NotEq (.ref a) (.ref b)) _ _ _
  rcases hq with ⟨h1, h2⟩ | ⟨h1, h2⟩
  · obtain ⟨its, rv, p, _⟩ := I.list h1
    obtain ⟨its2, rv2, p2, _⟩ := I.list h2
    cases rv2
    cases rv with
    | nil => exact SeqAt.RcNeAt.lists (e := fun _ => true) p.isList p2.isList rfl hr.units0 (fun j h => absurd h (by simp)) _ _ _ _ ⟨.bl false, H, I, rfl, q⟩
    | cons r rs => exact SeqAt.RcNeAt.lists_lengths p.isList p2.isList (by simp) hr.units0 _ _ _ _ ⟨.bl true, H, I, rfl, q⟩
  · obtain ⟨its, rv, p, _⟩ := I.tuple h1
    obtain ⟨its2, rv2, p2, _⟩ := I.tuple h2
    cases rv2
    have e : (!((List.range (min its.toArray.size ([] : List Value).toArray.size)).all (fun _ => true) && its.toArray.size == ([] : List Value).toArray.size)) = !xs.isEmpty := by
      cases rv with
      | nil => rfl
      | cons r rs => simp
    refine SeqAt.RcNeAt.tuples (e := fun _ => true) (show s.heap.IsTuple a its.toArray from p) (show s.heap.IsTuple b _ from p2) hr.units0 (fun j _ h => absurd h (by simp)) _ _ _ _ ?_
    rw [e]
    exact ⟨.bl (!xs.isEmpty), H, I, rfl, q⟩
section
variable {c : Ctx} {S : Sto} {F : D → Sto → Prop}
theorem rv_neEL {x : D} {xs : List D} (h : IsL S x xs) (q : F (.bl (!xs.isEmpty)) S) : RV c (rNeE c.K) x (.lst []) S F := fun T u w H cl r1 r2 Q k => by
  obtain ⟨a, us, rfl, s1, rr⟩ := h.rd cl r1
  obtain ⟨b, ws, rfl, s2, rr2⟩ := (IsL.v (S := S) (ds := [])).rd cl r2
  cases rr2
  refine ⟨a, b, us, rfl, rfl, .inl ⟨s1, s2⟩, ?_⟩
  have e : us.isEmpty = xs.isEmpty := by cases rr <;> rfl
  rw [e]
  exact k _ _ S T H Mv.refl cl (.bl _) q
theorem rv_neET {xs : List D} (q : F (.bl (!xs.isEmpty)) S) : RV c (rNeE c.K) (.tup xs) (.tup []) S F := fun T u w H cl r1 r2 Q k => by
  obtain ⟨a, us, rfl, s1, rr⟩ := r1.seqT
  obtain ⟨b, ws, rfl, s2, rr2⟩ := r2.seqT
  cases rr2
  refine ⟨a, b, us, rfl, rfl, .inr ⟨s1, s2⟩, ?_⟩
  have e : us.isEmpty = xs.isEmpty := by cases rr <;> rfl
  rw [e]
  exact k _ _ S T H Mv.refl cl (.bl _) q
end
end VS
namespace VS
open PySem L2 C8 PySem.Spec PyProof.Rows
/-! ### == with an own instance on the right -/
section
variable {prog : Program} {w : World} {A : Around} {E : Value → Shared → Prop} {s : Shared} {K : PySem.W.Frag} {x C dx f : Addr} {u : Value} {T : String}
/-- the kinds that decline -/
inductive LKd : Value → String → Prop
  | non : LKd .none "NoneType" | bl (b : Bool) : LKd (.bool b) "bool" | int (i : Int) (t : Tok) : LKd (.int i t) "int" | str (x : Str) (t : Tok) : LKd (.str x t) "str"
  | lst (a : Addr) : LKd (.ref a) "list" | tup (a : Addr) : LKd (.ref a) "tuple" | dct (a : Addr) : LKd (.ref a) "dict"
end
section
variable {X : Cx} {k : Nat} {f C : Addr} {fd : FuncData} {ps : List Str} {sp : Sp}
inductive KdV : V → String → Prop
  | non : KdV .non "NoneType" | bl (b : Bool) : KdV (.bl b) "bool" | int (i : Int) : KdV (.int i) "int" | str (x : Str) : KdV (.str x) "str"
  | lst (a : Addr) : KdV (.ref a) "list" | tup (a : Addr) : KdV (.ref a) "tuple" | dct (a : Addr) : KdV (.ref a) "dict"
theorem KdV.ok {x : V} {u : Value} {T : String} (k : KdV x T) (r : RelV x u) : LKd u T := by
  cases k with
  | non => cases (show u = Value.none from r); exact .non
  | bl b => cases (show u = Value.bool b from r); exact .bl b
  | int i => obtain ⟨t, q⟩ := (show ∃ t, u = Value.int i t from r); cases q; exact .int i t
  | str y => obtain ⟨t, q⟩ := (show ∃ t, u = Value.str y t from r); cases q; exact .str y t
  | lst a => cases (show u = Value.ref a from r); exact .lst a
  | tup a => cases (show u = Value.ref a from r); exact .tup a
  | dct a => cases (show u = Value.ref a from r); exact .dct a
end
end VS
namespace VS
open PySem L2 PySem.Spec PyProof.Rows
/-! ### C(e) as a value, C an own exception class of one field -/
end VS
namespace VS
open PySem L2 C8 PySem.Spec PyProof.Rows
/-! ### reversed(a list by value) -/
section
variable {c : Ctx} {ρ : Rho} {S : Sto}
theorem rev_get {α : Type} {xs : List α} {i : Nat} {x : α} (h : xs.reverse[i]? = some x) : xs[xs.length - 1 - i]? = some x ∧ i < xs.length := by
  have hi : i < xs.length := by
    have := (List.getElem?_eq_some_iff.mp h).1
    rwa [List.length_reverse] at this
  refine ⟨?_, hi⟩
  rw [List.getElem?_reverse hi] at h
  exact h
theorem vi_rev {ta : TA} {W : List D → Sto → Prop} (h : VA c ta ρ S fun es S1 => ∃ x ds, es = [x] ∧ IsW x ds ∧ W ds.reverse S1) : VI c (iRev c.K ta) ρ S W := fun T σ H I R k =>
  h T σ H I _ fun vs es S1 T1 H1 m1 c1 r1 ⟨x, ds, e, hx, q⟩ => by
    subst e
    cases r1 with
    | cons h1 t =>
      cases t
      obtain ⟨a, xs, rfl, hq, r⟩ := hx.rd h1
      refine ⟨a, xs, rfl, hq _ _ Mv.refl, k _ ds.reverse S1 T1 H1 m1 c1 ⟨fun H => SqL c.K H a xs, _, by rw [List.length_reverse, ← r.length]; exact walk_rev, hq, fun i d S2 T2 H2 H3 y e m cl yy => ?_⟩ q⟩
      obtain ⟨e1, e2⟩ := yy
      subst e1
      obtain ⟨e3, hi⟩ := rev_get e
      rw [← r.length] at e3
      obtain ⟨v, e4, r'⟩ := r.get e3
      rw [e2] at e4
      cases e4
      exact ⟨Mv.refl, cl, r'.mv m⟩
end
end VS
namespace VS
open PySem L2 PySem.Spec PyProof.Rows
/-! ### len(set(texts)) -/
/-- how many unlike ones stand among the first i -/
def unl (xs : List Str) : Nat → Nat
  | 0 => 0
  | i + 1 => bif (xs.take i).any (· == xs.getD i Str.empty) then unl xs i else unl xs i + 1
def inI (xs : List Str) (i : Nat) (k : Str) : Bool := (xs.take i).any (· == k)
theorem unl_le {xs : List Str} : ∀ i, unl xs i ≤ i
  | 0 => Nat.le_refl _
  | i + 1 => by
    have := unl_le (xs := xs) i
    unfold unl
    cases (xs.take i).any (· == xs.getD i Str.empty)
    · simp only [cond_false]; omega
    · simp only [cond_true]; omega
theorem getD_at {xs : List Str} {i : Nat} (h : i < xs.length) : xs.getD i Str.empty = xs[i] := by
  rw [List.getD_eq_getElem?_getD, List.getElem?_eq_getElem h] <;> rfl
theorem inI_put {xs : List Str} {i : Nat} (h : i < xs.length) (k : Str) : (inI xs i k || decide (k = xs.getD i Str.empty)) = inI xs (i + 1) k := by
  unfold inI
  rw [List.take_add_one, List.getElem?_eq_getElem h, getD_at h, List.any_append]
  congr 1
  show decide (k = xs[i]) = ((xs[i] == k) || false)
  rw [Bool.or_false]
  by_cases e : k = xs[i]
  · subst e; simp
  · rw [decide_eq_false e]; exact (beq_eq_false_iff_ne.mpr (Ne.symm e)).symm
section
variable {prog : Program} {w : World} {A : Around} {E : Value → Shared → Prop} {s : Shared}
abbrev HasT (prog : Program) (w : World) (h : Heap) (a : Addr) (xs : List Str) (i : Nat) : Prop := h.SetOf (PySem.strKind prog w) a (inI xs i) (unl xs i)
theorem HasT.keep {h h' : Heap} {a : Addr} {xs : List Str} {i : Nat} (t : HasT prog w h a xs i) (k : ∀ o, h.get? a = some o → h'.get? a = some o) : HasT prog w h' a xs i := by
  obtain ⟨o, es, ep, t, g, r⟩ := t
  exact ⟨o, es, ep, t, k _ g, r⟩
theorem put_each {R : Result → Shared → Prop} {I : Addr} {fp wr : List Addr} {G : Array GenState → Array GenState → Prop} {n : Nat} {P : Nat → Value → Prop} {St : Nat → Shared → Prop}
    (W : WalksS prog w A.in1 I fp wr G n P St) {a : Addr} (na : a ∉ fp) {xs : List Str} (le : xs.length = n) (sm : n + 1 < scanBound) (vl : ∀ i v, P i v → ∃ t, v = .str (xs.getD i Str.empty) t) (k : Nat) :
    ∀ (i : Nat) (s : Shared), i + k = n → St i s → HasT prog w s.heap a xs i → (∀ s', Moved (a :: wr) G s s' → HasT prog w s'.heap a xs n → R (.ok (.ret .none)) s') →
      codeAny (model prog w) A (.builtin "set.update.loop" ⟨[.ref a, .ref I], []⟩) R s := by
  have nw : a ∉ wr := fun z => na (W.sub a z)
  have wide : ∀ {x y : Shared}, Moved wr G x y → Moved (a :: wr) G x y := fun m => ⟨fun b o z => m.heap b o fun y => z (.tail _ y), m.gens, m.drawn, m.os, m.toks⟩
  induction k with
  | zero =>
    intro i s e st t q
    obtain rfl : i = n := e
    refine codeAny_builtin F.entry_set_update_loop ?_
    rw [Around.under_plainId F.plain_set_update_loop _]
    exact wpAny_bind (m := pyNext (.ref I)) (W.done s _ _ st fun s' m => wpAny_pure (q s' (wide m) (t.keep fun o => m.heap a o nw)))
  | succ k ih =>
    intro i s e st t q
    have lt : i < n := by omega
    refine codeAny_builtin F.entry_set_update_loop ?_
    rw [Around.under_plainId F.plain_set_update_loop _]
    refine wpAny_bind (m := pyNext (.ref I)) (W.item i s _ _ lt st fun v s1 p1 st1 m1 => ?_)
    obtain ⟨tk, rfl⟩ := vl i v p1
    have t1 : HasT prog w s1.heap a xs i := t.keep fun o => m1.heap a o nw
    have up := unl_le (xs := xs) i
    show wpAny _ A.in1 (holding _ (setAdd a (.str (xs.getD i Str.empty) tk)) >>= _) _ _ s1
    refine wpAny_bind (wpAny_holding ?_)
    unfold setAdd
    refine wpAny_holding (wpAny_bind ((PySem.strKind prog w).pyHash (k := xs.getD i Str.empty) (strKind_is _ _ _ _) ?_))
    refine wpAny_setAddHashed_of (knd := PySem.strKind prog w) (s := { s1 with toks := s1.toks + 1 }) (strKind_is _ _ _ _) rfl t1 (by omega) fun h2 sb t2 => ?_
    have t3 : HasT prog w h2 a xs (i + 1) := SetOf_congr t2 (inI_put (by omega)) (by show (if inI xs i _ = true then _ else _) = bif inI xs i _ then _ else _; cases inI xs i (xs.getD i Str.empty) <;> rfl)
    have away : ∀ b, b ≠ a → ∀ o, s1.heap.get? b = some o → h2.get? b = some o := fun b ne o z => by rw [sb.2 b ne]; exact z
    refine wpAny_pure ⟨plainId_quiet F.plain_set_update_loop _, ih (i + 1) _ (by omega) (W.frame _ s1 _ _ st1 (Nat.le_succ _) fun b hb o z => away b (fun y => na (y ▸ hb)) o z) t3 fun s4 m4 t4 => ?_⟩
    exact q s4 (Moved.trans W.gtrans ((wide m1).then_heap (Nat.le_succ _) fun b o hb z => away b (fun y => hb (y ▸ .head _)) o z) m4) t4
abbrev set0 (led : Bool) : Obj := { cls := .type "set", dict := none, data := .set #[] 0 (.fresh 0 0 led) }
theorem has0 {h : Heap} {a : Addr} {led : Bool} {xs : List Str} (g : h.get? a = some (set0 led)) : HasT prog w h a xs 0 := SetOf_congr ((setObjOf_fresh (knd := PySem.strKind prog w) led).setOf g (by decide)) (fun _ => rfl) rfl
theorem strs_get : ∀ {us : List Value} {xs : List Str}, StrsAre us xs → ∀ (i : Nat) (v : Value), us[i]? = some v → ∃ t, v = .str (xs.getD i Str.empty) t
  | _, _, .nil, i, v, h => by simp at h
  | _, _, .cons y t r, 0, v, h => ⟨t, (Option.some.inj h).symm⟩
  | _, _, .cons y t r, i + 1, v, h => strs_get r i v h
theorem iter_fill {l a : Addr} {its : Array Value} {xs : List Str} {led : Bool} {Q : Value → Shared → Prop} (hh : A.handled = none) (src : s.heap.IsList l its ∨ s.heap.IsTuple l its) (ts : StrsAre its.toList xs) (sm : its.size + 1 < scanBound)
    (ga : s.heap.get? a = some (set0 led)) (q : ∀ h' tk, HasT prog w h' a xs its.size → (∀ b o, b ≠ a → s.heap.get? b = some o → h'.get? b = some o) → Q .none { s with heap := h', toks := tk }) :
    wpAny (model prog w) A (pyIter (.ref l)) (fun it s1 => wpAny (model prog w) A (runValue (.builtin "set.update.loop" ⟨[.ref a, it], []⟩)) Q E s1) E s := by
  have len : xs.length = its.size := by rw [← StrsAre.len_eq ts, Array.length_toList]
  have la : a < s.heap.objs.size := Heap.lt_size ga
  have ll : l < s.heap.objs.size := by rcases src with ⟨o, g, _⟩ | ⟨o, g, _⟩ <;> exact Heap.lt_size g
  have nl : a ≠ l := fun z => by
    subst z
    rcases src with ⟨o, g, c, _⟩ | ⟨o, g, c, _⟩ <;>
    · rw [ga] at g
      cases g
      exact absurd (Value.type.inj c) (by decide)
  have vl : ∀ (i : Nat) (v : Value), its[i]? = some v → ∃ t, v = .str (xs.getD i Str.empty) t := fun i v hv => strs_get ts i v (by rw [Array.getElem?_toList]; exact hv)
  have nw : a ≠ s.heap.objs.size := Nat.ne_of_lt la
  have na : a ∉ [s.heap.objs.size, l] := fun z => by
    rcases List.mem_cons.mp z with z | z
    · exact nw z
    · exact nl (by simpa using z)
  have h1 : A.in1.handled = none := by simpa using hh
  have fin : ∀ (o : Obj) {P : Nat → Value → Prop} {St : Nat → Shared → Prop} {G : Array GenState → Array GenState → Prop}, WalksS prog w A.in1 s.heap.objs.size [s.heap.objs.size, l] [s.heap.objs.size] G its.size P St → (∀ x y, G x y → y = x) → (∀ i v, P i v → its[i]? = some v) →
      St 0 { s with heap := s.heap.push o } → wpAny (model prog w) A (runValue (.builtin "set.update.loop" ⟨[.ref a, .ref s.heap.objs.size], []⟩)) Q E { s with heap := s.heap.push o } := fun o P St G W eg pv st => by
    refine wpAny_runValue (put_each W na len sm (fun i v z => vl i v (pv i v z)) its.size 0 _ (Nat.zero_add _) st (has0 (led := led) (Heap.get?_push_of_some _ ga)) fun s' m t => ?_)
    obtain ⟨h', g', d', tk', os'⟩ := s'
    have e1 : g' = s.gens := eg _ _ m.gens
    have e2 : d' = s.drawn := m.drawn
    have e3 : os' = s.os := m.os
    subst e1; subst e2; subst e3
    refine q h' tk' t fun b o' nb z => m.heap b o' (fun y => ?_) (Heap.get?_push_of_some _ z)
    rcases List.mem_cons.mp y with y | y
    · exact nb y
    · have : b < s.heap.objs.size := Heap.lt_size z
      have e : b = s.heap.objs.size := by simpa using y
      exact absurd e (Nat.ne_of_lt this)
  rcases src with src | src
  · refine wpAny_pyIter_list src ?_
    exact fin _ (Walks.list h1 _ l (Nat.ne_of_lt ll) its).toS (fun _ _ e => e) (fun _ _ e => e) ⟨⟨_, Heap.get?_push_size _ rfl, rfl, rfl⟩, src.push _⟩
  · refine wpAny_pyIter_tuple src ?_
    exact fin _ (Walks.tuple h1 _ l (Nat.ne_of_lt ll) its).toS (fun _ _ e => e) (fun _ _ e => e) ⟨⟨_, Heap.get?_push_size _ rfl, rfl, rfl⟩, src.push _⟩
theorem set_made {l : Addr} {its : Array Value} {xs : List Str} {Q : Value → Shared → Prop} (hh : A.handled = none) (src : s.heap.IsList l its ∨ s.heap.IsTuple l its) (ts : StrsAre its.toList xs) (sm : its.size + 1 < scanBound)
    (q : ∀ h' tk, HasT prog w h' s.heap.objs.size xs its.size → (∀ b o, s.heap.get? b = some o → h'.get? b = some o) → Q (.ref s.heap.objs.size) { s with heap := h', toks := tk }) : wpAny (model prog w) A (call (.type "set") [.ref l]) Q E s := by
  obtain ⟨c, tl, mro⟩ := PySem.F.called_set.mro
  have f1 := PySem.F.called_set.made
  have f2 := PySem.F.called_set.sub
  have f3 := PySem.F.called_set.notType
  have f4 := PySem.F.called_set.canCreate
  have f5 := PySem.F.typeCall_set_1 (.ref l)
  refine wpAny_call (codeAny_of_tree ?_)
  show wpAny _ _ (callAny (.type "set") _) _ _ _
  refine wpAny_pure ⟨Code.quiet_builtin _ (by decide +kernel), codeAny_builtin PySem.F.entry_type_call ?_⟩
  rw [Around.under_plain (weight_type_call_type "set" [.ref l] []) rfl]
  repeat (any_goals (first | assumption | wp_step))
  refine codeAny_mono (code_set_new_1 (.ref l) (E := E) (Q₁ := fun v s1 => ∃ led, v = .ref s.heap.objs.size ∧ s1 = { s with heap := s.heap.push (set0 led) }) fun led => ⟨led, rfl, rfl⟩) fun r s1 hr => ?_
  rcases r with e | fl
  · exact hr
  cases fl <;> first | exact hr.elim | skip
  obtain ⟨led, rfl, rfl⟩ := hr
  have g0 : (s.heap.push (set0 led)).get? s.heap.objs.size = some (set0 led) := Heap.get?_push_size _ rfl
  have ty : Shared.TypeIs { s with heap := s.heap.push (set0 led) } (.ref s.heap.objs.size) "set" := ⟨_, g0, rfl⟩
  have i1 := PySem.F.called_set.init.lookup
  have i2 := PySem.F.called_set.init.bind (.ref s.heap.objs.size)
  have la : ∀ b o, s.heap.get? b = some o → b ≠ s.heap.objs.size := fun b o z => Nat.ne_of_lt (Heap.lt_size z)
  have src2 : (s.heap.push (set0 led)).IsList l its ∨ (s.heap.push (set0 led)).IsTuple l its := src.imp (·.push _) (·.push _)
  repeat (any_goals (first | assumption | wp_step))
  refine codeAny_mono (codeAny_call_builtin (R := wants (fun v s2 => v = .none ∧ ∃ h' tk, s2 = { s with heap := h', toks := tk } ∧ HasT prog w h' s.heap.objs.size xs its.size ∧ ∀ b o, s.heap.get? b = some o → h'.get? b = some o) E)
    PySem.F.called_set.init.plain PySem.F.entry_set_init (check_set_init_1 ty ?_)) fun r2 s2 hr2 => ?_
  · unfold Builtin.«set.__init__» noKeywords Builtin.Frozenset.updateFrom
    generalize hz : pyIter = Z
    have h2 : A.in1.in1.handled = none := by simpa using hh
    have fin : wpAny (model prog w) A.in1.in1 (pyIter (.ref l)) (fun it s1 => wpAny (model prog w) A.in1.in1 (runValue (.builtin "set.update.loop" ⟨[.ref s.heap.objs.size, it], []⟩)) (fun v s2 => v = .none ∧ ∃ h' tk, s2 = { s with heap := h', toks := tk } ∧ HasT prog w h' s.heap.objs.size xs its.size ∧ ∀ b o, s.heap.get? b = some o → h'.get? b = some o) E s1) E { s with heap := s.heap.push (set0 led) } :=
      iter_fill (led := led) h2 src2 ts sm g0 fun h' tk t k => ⟨rfl, h', tk, rfl, t, fun b o z => k b o (la b o z) (Heap.get?_push_of_some _ z)⟩
    rw [hz] at fin
    have kind : ∃ (T : String) (od : Option Addr) (n : Nat) (oz : Array (Option Value)), (s.heap.push (set0 led)).get? l = some ⟨.type T, od, .seq its n, oz⟩ ∧ isSubtype (.type T) (.type "set") = pure false ∧ isSubtype (.type T) (.type "frozenset") = pure false ∧ (Value.type T == Value.type "dict") = false := by
      rcases src2 with ⟨⟨oc, od, ot, oz⟩, g, c, n, e⟩ | ⟨⟨oc, od, ot, oz⟩, g, c, n, e⟩ <;> (simp only at c e; subst c; subst e)
      · exact ⟨_, _, _, _, g, PySem.F.sub_list_set, PySem.F.sub_list_frozenset, by decide⟩
      · exact ⟨_, _, _, _, g, PySem.F.sub_tuple_set, PySem.F.sub_tuple_frozenset, by decide⟩
    obtain ⟨T, od, n, oz, g, b1, b2, b3⟩ := kind
    clear src src2
    wp_walk
    refine wpAny_mono fin (fun it s1 k => wpAny_bind (wpAny_mono k (fun v s2 z => ?_) fun _ _ z => z)) fun _ _ z => z
    obtain ⟨rfl, z⟩ := z
    exact wpAny_pure (wpAny_pure ⟨rfl, z⟩)
  · rcases r2 with e | fl
    · exact hr2
    cases fl <;> first | exact hr2.elim | skip
    obtain ⟨rfl, h', tk, rfl, t, k⟩ := hr2
    repeat (any_goals (first | assumption | wp_step))
    exact q _ _ t k
end
theorem strs_of : ∀ {xs : List Str} {us : List Value}, Vals (xs.map V.str) us → StrsAre us xs
  | [], _, .nil => .nil
  | y :: _, _, .cons ⟨t, e⟩ r => e ▸ .cons y t (strs_of r)
def tLenS (K : PySem.W.Frag) (ta : TE) : TE := fun σ H Q => ta σ H fun x H1 => ∃ (l : Addr) (xs : List Str), x = .ref l ∧ (SqL K H1 l (xs.map V.str) ∨ SqT K H1 l (xs.map V.str)) ∧ xs.length + 1 < scanBound ∧ Q (.int (unl xs xs.length : Nat)) H1
theorem pe_lenS {X : Cx} {e : Expr} {te : TE} {n1 n2 c1 c2 : Pos} (g1 : Gl X "len") (m1 : X.mg "len" = none) (g2 : Gl X "set") (m2 : X.mg "set" = none) (he : PE X e te) (hc : X.calm = true := by rfl)
    (hs : starEach [e] X.env = (false, eval e X.env) :: starEach [] X.env := by rfl) : PE X (.Call (.Name "len" n1) [.Call (.Name "set" n2) [e] [] c2] [] c1) (tLenS X.K te) := by
  refine ⟨fun pins s σ H Q I h => Call_ (ld_blt I g1 m1 boot_len ?_)⟩
  refine callWith_builtin1 (args_cons ?_ rfl) rfl rfl
  refine Call_ (ld_blt I g2 m2 boot_set ?_)
  refine callWith_type1 (args_cons (thn (he.run pins s σ H _ I h) fun v s1 ⟨x, H1, I1, r1, q1⟩ => args_nil ?_) hs) hs rfl
  obtain ⟨l, xs, rfl, hq, small, q1⟩ := q1
  cases r1
  have src : ∃ its : List Value, Vals (xs.map V.str) its ∧ (s1.heap.IsList l its.toArray ∨ s1.heap.IsTuple l its.toArray) := by
    rcases hq with hq | hq
    · obtain ⟨its, r, pl, _⟩ := I1.list hq
      exact ⟨its, r, .inl pl.isList⟩
    · obtain ⟨its, r, pl, _⟩ := I1.tuple hq
      exact ⟨its, r, .inr pl⟩
  obtain ⟨its, r, src⟩ := src
  have len : its.toArray.size = xs.length := by rw [List.size_toArray, ← r.length, List.length_map]
  refine set_made (I1.ok.hd hc) src (by simpa using strs_of r) (by rw [len]; exact small) fun h' tk t k => args_nil ?_
  rw [len] at t
  obtain ⟨o, es, ep, tb, ho, ex, hd, _, _, _, ft, hn⟩ := t
  have I2 : Inv X pins σ H1 { s1 with heap := h', toks := tk } := I1.kept k
  have b := unl_le (xs := xs) xs.length
  have big : scanBound < 2 ^ 62 := by decide
  exact call_len_set ho ex hd ft (by rw [hn]; omega) ⟨.int (unl xs xs.length : Nat), H1, I2.tok _, ⟨_, by rw [hn]⟩, q1⟩
theorem ve_lenS {c : Ctx} {ρ : Rho} {S : Sto} {F : D → Sto → Prop} {te : TE} (h : VE c te ρ S fun x S1 => ∃ xs : List Str, IsQ S1 x (xs.map D.str) ∧ xs.length ≤ 1000 ∧ F (.int (unl xs xs.length : Nat)) S1) : VE c (tLenS c.K te) ρ S F := fun T σ H I Q k =>
  h T σ H I _ fun v x S1 T1 H1 m1 c1 r1 ⟨xs, q, small, f⟩ => by
    obtain ⟨a, vs, rfl, s, r⟩ := q.rd c1 r1
    have e := r.strs
    subst e
    have big : 2000 < scanBound := by decide
    exact ⟨a, xs, rfl, s, by omega, k _ _ S1 T1 H1 m1 c1 (.int _) f⟩
theorem unl_nodup {xs : List Str} (h : xs.Nodup) : ∀ i, i ≤ xs.length → unl xs i = i
  | 0, _ => rfl
  | i + 1, hi => by
    have ih := unl_nodup h i (by omega)
    unfold unl
    rw [ih]
    have no : ((xs.take i).any (· == xs.getD i Str.empty)) = false := by
      rw [Bool.eq_false_iff]
      intro z
      obtain ⟨y, hy, ey⟩ := List.any_eq_true.mp z
      rw [getD_at hi] at ey
      obtain ⟨j, hj, e⟩ := List.mem_take_iff_getElem.mp hy
      have e2 : xs[j] = xs[i] := e.trans (eq_of_beq ey)
      exact List.pairwise_iff_getElem.mp h j i (by omega) hi (by omega) e2
    rw [no]
    rfl
end VS
namespace VS
open PySem L2 PySem.Spec PyProof.Rows
/-! ### min of three, min of a list, list.insert, what is never reached -/
def rMin3 : List V → Hp → VK → Prop := fun xs H Q => ∃ i j k, xs = [.int i, .int j, .int k] ∧ Q (.int (min (min i j) k)) H
theorem c_min3 {X : Cx} (hc : X.calm = true) : CallR X (.builtin "min") rMin3 := by
  intro pins s σ H xs us Q I r h
  obtain ⟨i, j, k, rfl, q⟩ := h
  obtain ⟨t1, t2, t3, rfl⟩ : ∃ t1 t2 t3, us = [.int i t1, .int j t2, .int k t3] := by
    cases r with
    | cons r1 r2 =>
      obtain ⟨v, w, rfl, ⟨t2, rfl⟩, ⟨t3, rfl⟩⟩ := L2.vals2 r2
      obtain ⟨t1, rfl⟩ := r1
      exact ⟨t1, t2, t3, rfl⟩
  refine min_three_ints (I.ok.hd hc) fun h' tk kp => ⟨_, H, I.kept kp, ?_, q⟩
  by_cases e1 : j < i
  · rw [if_pos e1]
    by_cases e2 : k < j
    · rw [if_pos e2]; exact ⟨_, by rw [show min (min i j) k = k by omega]⟩
    · rw [if_neg e2]; exact ⟨_, by rw [show min (min i j) k = j by omega]⟩
  · rw [if_neg e1]
    by_cases e2 : k < i
    · rw [if_pos e2]; exact ⟨_, by rw [show min (min i j) k = k by omega]⟩
    · rw [if_neg e2]; exact ⟨_, by rw [show min (min i j) k = i by omega]⟩
def tNevS : TS := fun _ _ _ => False
theorem ps_nev {X : Cx} {st : Stmt} : PS X st tNevS := ⟨fun _ _ _ _ _ _ h => h.elim⟩
section
variable {c : Ctx} {ρ : Rho} {S : Sto} {F : D → Sto → Prop}
theorem rc_min3 {i j k : Int} (q : F (.int (min (min i j) k)) S) : RC c rMin3 [.int i, .int j, .int k] S F := fun T us H cl r Q kk => by
  cases r with
  | cons h1 t =>
    cases t with
    | cons h2 t =>
      cases t with
      | cons h3 t => cases t; cases h1; cases h2; cases h3; exact ⟨_, _, _, rfl, kk _ _ S T H Mv.refl cl (.int _) q⟩
def rInsert : V → List V → Hp → VK → Prop := fun x vs H Q => ∃ (l : Addr) (xs : List V) (i : Int) (y : V), x = .ref l ∧ vs = [.int i, y] ∧ H l = some (.lst xs) ∧ xs.length < sizeLine ∧ 0 ≤ i ∧ i < 2 ^ 63 ∧ Q .non (upd H l (.lst (xs.take i.toNat ++ [y] ++ xs.drop i.toNat)))
theorem mt_insertV {X : Cx} : MtR X "list.insert" rInsert := L2.mt_insert
theorem rm_insert {l : Addr} {ds : List D} {x : D} {i : Int} {n : Nat} (h : S l = some (.lst ds)) (hi : i = (n : Int)) (hn : n ≤ ds.length) (hl : ds.length < sizeLine) (q : F .non (put S l (.lst (ds.take n ++ [x] ++ ds.drop n)))) : RM c rInsert (.ref l) [.int i, x] S F := fun T u us H cl r1 r2 Q k => by
  subst hi
  cases r1
  cases r2 with
  | cons h0 t =>
    cases t with
    | cons h1 t =>
      cases t
      cases h0
      obtain ⟨xs, hx, r⟩ := cl.ok _ _ (cl.at h)
      have big : sizeLine < 2 ^ 62 := by decide
      refine ⟨l, xs, n, _, rfl, rfl, hx, by rw [r.length]; exact hl, by omega, by omega, ?_⟩
      rw [show ((n : Int)).toNat = n from rfl]
      exact k _ _ _ _ _ (mv_wr (cl.at h)) (cl.wr (cl.at h) (cell_l upd_same ((((r.take n).append (.cons h1 .nil)).append (r.drop n)).mv (mv_wr (cl.at h))))) .non q
end
end VS
namespace VS
open PySem L2 C8 PySem.Spec PyProof.Rows
/-! ### a module's constant that lies in the heap -/
def tKd (a : Addr) : TE := tC (.ref a)
theorem pe_kd {X : Cx} {x : Str} {pos : Pos} {a : Addr} (hg : Gl X x) (h : ∃ u, X.mg x = some u ∧ RelV (.ref a) u) (hd : (x == ("__debug__" : Str)) = false := by decide) : PE X (.Name x pos) (tKd a) := pe_gc hg h hd
theorem ve_kd {c : Ctx} {ρ : Rho} {S : Sto} {F : D → Sto → Prop} {a : Addr} {d : D} (r : ∀ H S, Rep c.K H S (.ref a) d) (q : F d S) : VE c (tKd a) ρ S F := ve_wr (r · ·) q
theorem isPL_strs : ∀ ms : List Str, isPL (ms.map D.str) = true
  | [] => rfl
  | m :: ms => by
    show (true && isPL (ms.map D.str)) = true
    rw [isPL_strs ms]
    rfl
theorem isP_strs (ms : List Str) : isP (.lst (ms.map D.str)) = true := isPL_strs ms
end VS
namespace VS
open PySem L2 PySem.Spec PyProof.Rows
section
variable {c : Ctx} {ρ : Rho} {S : Sto} {F : D → Sto → Prop}
/-- [e for x in xs if t], each by itself -/
theorem ve_lcF (p : D → Bool) (f : D → D) {wi : TI} {g : TG} {tt : TT} {te : TE} {vs : List Nat}
    (h : VI c wi ρ S fun ds S1 => ds.length ≤ 100000 ∧ (∀ d ∈ ds, VGw c vs g d (wipeR ρ vs) S1 fun ρ3 S3 => VT c tt ρ3 S3 fun b S4 => b = p d ∧ (p d = false → S4 = S1) ∧ (p d = true → VE c te ρ3 S4 fun y S5 => y = f d ∧ S5 = S1)) ∧ F (.lst ((ds.filter p).map f)) S1) : VE c (tLc wi g tt te vs) ρ S F := by
  refine ve_lc (fun T σ H I R k => h T σ H I R fun J ds S1 T1 H1 m1 c1 w ⟨h1, h2, h3⟩ => k J ds S1 T1 H1 m1 c1 w ⟨h1, fun i acc S2 => acc = ((ds.take i).filter p).map f ∧ S2 = S1, ⟨rfl, rfl⟩, ?_, ?_⟩)
  · rintro i d acc S2 hd ⟨e1, rfl⟩ hl T0 u0 σ0 H0 I0 r0 Q0 k0
    refine h2 d (List.mem_of_getElem? hd) T0 u0 σ0 H0 I0 r0 Q0 fun σ' ρ' S' T' H' hw m I' q => k0 σ' ρ' S' T' H' hw m I' ?_
    have tk : ds.take (i + 1) = ds.take i ++ [d] := by rw [List.take_succ, hd]; rfl
    refine q.imp fun b S4 ⟨hb, hf, hv⟩ => ?_
    subst hb
    refine ⟨fun z => (hv z).imp fun y S5 ⟨e2, e3⟩ => ⟨?_, e3⟩, fun z => ⟨?_, hf z⟩⟩
    · rw [tk, e1, e2, List.filter_append, List.map_append, List.filter_cons, if_pos z]
      rfl
    · rw [tk, e1, List.filter_append, List.map_append, List.filter_cons, if_neg (by rw [z]; decide)]
      simp
  · rintro acc S2 ⟨e1, rfl⟩ _
    rw [List.take_length] at e1
    rw [e1]
    exact h3
end
end VS
namespace VS
open PySem L2 PySem.Spec PyProof.Rows
section
variable {c : Ctx} {ρ : Rho} {S : Sto} {F : D → Sto → Prop}
/-- .. the list by reference -/
theorem ve_lccM (f : D → D) {wi : TI} {g : TG} {tt : TT} {te : TE} {vs : List Nat}
    (h : VI c wi ρ S fun ds S1 => ds.length ≤ 100000 ∧ (∀ d ∈ ds, VGw c vs g d (wipeR ρ vs) S1 fun ρ3 S3 => VT c tt ρ3 S3 fun b S4 => b = true ∧ VE c te ρ3 S4 fun y S5 => y = f d ∧ S5 = S1) ∧ ∀ l, S1 l = none → F (.ref l) (put S1 l (.lst (ds.map f)))) : VE c (tLc wi g tt te vs) ρ S F := by
  refine ve_lcc (fun T σ H I R k => h T σ H I R fun J ds S1 T1 H1 m1 c1 w ⟨h1, h2, h3⟩ => k J ds S1 T1 H1 m1 c1 w ⟨h1, fun i acc S2 => acc = (ds.take i).map f ∧ S2 = S1, ⟨rfl, rfl⟩, ?_, ?_⟩)
  · rintro i d acc S2 hd ⟨e1, rfl⟩ hl T0 u0 σ0 H0 I0 r0 Q0 k0
    refine h2 d (List.mem_of_getElem? hd) T0 u0 σ0 H0 I0 r0 Q0 fun σ' ρ' S' T' H' hw m I' q => k0 σ' ρ' S' T' H' hw m I' ?_
    refine q.imp fun b S4 ⟨hb, hv⟩ => ?_
    subst hb
    refine ⟨fun _ => hv.imp fun y S5 ⟨e2, e3⟩ => ⟨?_, e3⟩, fun z => by cases z⟩
    rw [List.take_succ, hd, e1, e2, List.map_append] <;> rfl
  · rintro acc S2 ⟨e1, rfl⟩ _ l hl
    rw [List.take_length] at e1
    rw [e1]
    exact h3 l hl
end
end VS
namespace VS
open PySem L2 PySem.Spec PyProof.Rows
section
variable {c : Ctx} {ρ : Rho} {S : Sto} {F : D → Sto → Prop}
/-- [e for x in xs]: Q holds of each element, J of the store -/
theorem ve_lcJ (Q : D → Prop) (J : Nat → Sto → Prop) {wi : TI} {g : TG} {tt : TT} {te : TE} {vs : List Nat}
    (h : VI c wi ρ S fun ds S1 => ds.length ≤ 100000 ∧ J 0 S1 ∧ (∀ (i : Nat) (d : D) S2, ds[i]? = some d → J i S2 → VGw c vs g d (wipeR ρ vs) S2 fun ρ3 S3 => VT c tt ρ3 S3 fun b S4 => b = true ∧ VE c te ρ3 S4 fun y S5 => Q y ∧ J (i + 1) S5) ∧
      ∀ acc S2, acc.length = ds.length → (∀ y ∈ acc, Q y) → J ds.length S2 → F (.lst acc) S2) : VE c (tLc wi g tt te vs) ρ S F := by
  refine ve_lc (fun T σ H I R k => h T σ H I R fun J1 ds S1 T1 H1 m1 c1 w ⟨h1, h0, h2, h3⟩ => k J1 ds S1 T1 H1 m1 c1 w ⟨h1, fun i acc S2 => acc.length = i ∧ (∀ y ∈ acc, Q y) ∧ J i S2, ⟨rfl, nofun, h0⟩, ?_, ?_⟩)
  · rintro i d acc S2 hd ⟨e1, e2, e3⟩ hl T0 u0 σ0 H0 I0 r0 Q0 k0
    refine h2 i d S2 hd e3 T0 u0 σ0 H0 I0 r0 Q0 fun σ' ρ' S' T' H' hw m I' q => k0 σ' ρ' S' T' H' hw m I' ?_
    refine q.imp fun b S4 ⟨hb, hv⟩ => ?_
    subst hb
    refine ⟨fun _ => hv.imp fun y S5 ⟨f2, f3⟩ => ⟨by rw [List.length_append, e1]; rfl, fun y' hy => (List.mem_append.mp hy).elim (e2 y') fun z => by rw [List.mem_singleton.mp z]; exact f2, f3⟩, fun z => by cases z⟩
  · rintro acc S2 ⟨e1, e2, e3⟩ _
    exact h3 acc S2 e1 e2 e3
/-- .. the list by reference -/
theorem ve_lccJ (Q : D → Prop) (J : Nat → Sto → Prop) {wi : TI} {g : TG} {tt : TT} {te : TE} {vs : List Nat}
    (h : VI c wi ρ S fun ds S1 => ds.length ≤ 100000 ∧ J 0 S1 ∧ (∀ (i : Nat) (d : D) S2, ds[i]? = some d → J i S2 → VGw c vs g d (wipeR ρ vs) S2 fun ρ3 S3 => VT c tt ρ3 S3 fun b S4 => b = true ∧ VE c te ρ3 S4 fun y S5 => Q y ∧ J (i + 1) S5) ∧
      ∀ acc S2, acc.length = ds.length → (∀ y ∈ acc, Q y) → J ds.length S2 → ∀ l, S2 l = none → F (.ref l) (put S2 l (.lst acc))) : VE c (tLc wi g tt te vs) ρ S F := by
  refine ve_lcc (fun T σ H I R k => h T σ H I R fun J1 ds S1 T1 H1 m1 c1 w ⟨h1, h0, h2, h3⟩ => k J1 ds S1 T1 H1 m1 c1 w ⟨h1, fun i acc S2 => acc.length = i ∧ (∀ y ∈ acc, Q y) ∧ J i S2, ⟨rfl, nofun, h0⟩, ?_, ?_⟩)
  · rintro i d acc S2 hd ⟨e1, e2, e3⟩ hl T0 u0 σ0 H0 I0 r0 Q0 k0
    refine h2 i d S2 hd e3 T0 u0 σ0 H0 I0 r0 Q0 fun σ' ρ' S' T' H' hw m I' q => k0 σ' ρ' S' T' H' hw m I' ?_
    refine q.imp fun b S4 ⟨hb, hv⟩ => ?_
    subst hb
    refine ⟨fun _ => hv.imp fun y S5 ⟨f2, f3⟩ => ⟨by rw [List.length_append, e1]; rfl, fun y' hy => (List.mem_append.mp hy).elim (e2 y') fun z => by rw [List.mem_singleton.mp z]; exact f2, f3⟩, fun z => by cases z⟩
  · rintro acc S2 ⟨e1, e2, e3⟩ _ l hl
    exact h3 acc S2 e1 e2 e3 l hl
end
theorem strs_all {Q : Str → Prop} : ∀ {xs : List D}, (∀ y ∈ xs, ∃ z, y = .str z ∧ Q z) → ∃ zs : List Str, xs = zs.map D.str ∧ ∀ z ∈ zs, Q z
  | [], _ => ⟨[], rfl, nofun⟩
  | x :: xs, h => by
    obtain ⟨z, rfl, q⟩ := h x (.head _)
    obtain ⟨zs, rfl, r⟩ := strs_all fun y hy => h y (.tail _ hy)
    exact ⟨z :: zs, rfl, fun y hy => (List.mem_cons.mp hy).elim (fun e => by rw [e]; exact q) (r y)⟩
end VS
namespace VS
open PySem L2 PySem.Spec PyProof.Rows
end VS
namespace VS
open PySem L2 C8 PySem.Spec PyProof.Rows
/-! ### x in [..] with own == -/
inductive FlK : D → String → Prop
  | non : FlK .non "NoneType" | bl (b : Bool) : FlK (.bl b) "bool" | int (i : Int) : FlK (.int i) "int" | str (z : Str) : FlK (.str z) "str"
theorem FlK.ty {S : Sto} {d : D} {n : String} (h : FlK d n) : TyS S d n := by
  cases h with
  | non => exact .non
  | bl b => exact .bl b
  | int i => exact .int i
  | str z => exact .str z
end VS
namespace VS
open PySem L2 C8 PySem.Spec PyProof.Rows
/-! ### bool of a truth; one operator, two readings -/
end VS
namespace VS
open PySem L2 PySem.Spec PyProof.Rows
/-! ### .. the list told by an expression -/
section
variable {c : Ctx} {ρ : Rho} {S : Sto} {F : D → Sto → Prop}
theorem ve_lcCellE {g : TG} {tt : TT} {te : TE} {vs : List Nat} {ti : TE} {l : Addr} {ds : List D} (hv : VE c ti ρ (VS.del S l) fun x S1 => x = .ref l ∧ S1 = VS.del S l) (hl : S l = some (.lst ds)) (hz : ds.length ≤ 100000) (W : Nat → List D → Sto → Prop) (h0 : W 0 [] (VS.del S l))
    (hs : ∀ (i : Nat) (d : D) acc S2, ds[i]? = some d → W i acc S2 → acc.length ≤ i → VGw c vs g d (wipeR ρ vs) S2 fun ρ3 S3 => VT c tt ρ3 S3 fun b S4 => (b = true → VE c te ρ3 S4 fun y S5 => W (i + 1) (acc ++ [y]) S5) ∧ (b = false → W (i + 1) acc S4))
    (hd : ∀ acc S2, W ds.length acc S2 → acc.length ≤ ds.length → F (.lst acc) (put S2 l (.lst ds))) : VE c (tLc (iList c.K ti) g tt te vs) ρ S F := fun T σ H I Q k => by
  have ht := I.cells.at hl
  obtain ⟨xs, hx, r⟩ := I.cells.ok _ _ ht
  have m0 : Mv T H (put T l .hid) H := mv_hide ht (by nofun)
  have c0 := I.cells.hide hl hx
  have I0 : In c σ H ρ (VS.del S l) (put T l .hid) := I.mv m0 c0
  refine lc_heartAt (R := fun acc S2 => F (.lst acc) (put S2 l (.lst ds))) (fun R kR => ?_) I0 fun p ys acc S' T' H' T1 H1 m1 m cl s n hp rr q => ?_
  · refine hv _ σ H I0 _ fun vx x S1 T1 H1 m1 c1 r1 ⟨e1, e2⟩ => ?_
    subst e1 e2
    cases r1
    obtain ⟨hx1, s1⟩ := m1.hid l _ put_same hx
    have rx : RepL c.K H1 T1 xs ds := (r.mk m0.toMk).mv m1
    have hq : ∀ T2 H2, Mv T1 H1 T2 H2 → SqL c.K H2 l xs := fun T2 H2 m2 => .inl (.inl (m2.hid l _ s1 hx1).1)
    exact ⟨l, rfl, ⟨xs, .inl (.inl hx1)⟩, kR _ ds _ T1 H1 m1 c1 (yl_list hq rx) ⟨hz, W, h0, hs, hd⟩⟩
  · have mm := m1.trans m
    obtain ⟨hx', s'⟩ := mm.hid l _ put_same hx
    obtain ⟨hx1, _⟩ := m1.hid l _ put_same hx
    have npl : l ≠ p := fun z => by subst z; rw [n] at hx1; cases hx1
    have rx : RepL c.K H' T' xs ds := (r.mk m0.toMk).mv mm
    have s2 : (VS.del T' p) l = some .hid := by rw [VS.del_ne npl]; exact s'
    have c2 := (cl.unhid s).show s2 hx' (rx.mk (mk_show s))
    have mk2 : Mk (VS.del T' p) H' (put (VS.del T' p) l (.lst ds)) H' := by
      refine ⟨fun _ _ _ h => h, fun a u1 _ => ?_⟩
      have nal : a ≠ l := fun z => by rw [z, s2] at u1; cases u1
      rw [put_ne nal]
      exact u1
    have m3 : Mv T H (put (VS.del T' p) l (.lst ds)) H' := by
      have ma := m0.trans mm
      refine ⟨⟨ma.keep, fun a u e => ?_⟩, fun a o u e => ?_⟩
      · have nal : a ≠ l := fun z => by subst z; rw [ht] at u; cases u
        rw [put_ne nal]
        unfold VS.del
        split
        · rfl
        · exact ma.fresh a u e
      · obtain ⟨e1, e2⟩ := ma.hid a o u e
        refine ⟨e1, ?_⟩
        have nal : a ≠ l := fun z => by subst z; rw [ht] at u; cases u
        have nap : a ≠ p := fun z => by
          subst z
          obtain ⟨e3, _⟩ := (m0.trans m1).hid a o u e
          rw [n] at e3; cases e3
        rw [put_ne nal, VS.del_ne nap]
        exact e2
    exact k _ (.lst acc) _ _ H' m3 c2 (.lst (by rw [put_ne (Ne.symm npl)]; exact del_same) hp ((rr.mk (mk_show s)).mk mk2)) q
theorem put_back {l : Addr} {d : D} (h : S l = some d) : put (VS.del S l) l d = S := by
  funext b
  by_cases e : b = l
  · subst e; rw [put_same, h]
  · rw [put_ne e, VS.del_ne e]
end
end VS
namespace VS
open PySem L2 PySem.Spec PyProof.Rows
/-! ### xs[::-1] -/
end VS
namespace VS
open PySem L2 PySem.Spec PyProof.Rows
end VS
namespace VS
open PySem L2
/-! ### what was known stays known where nothing is lost -/
section
variable {S S' : Sto}
theorem TyS.ext {d : D} {n : String} (h : TyS S d n) (x : Ext S S') : TyS S' d n := by
  cases h with
  | cl h => exact .cl (x _ _ h)
  | cd h => exact .cd (x _ _ h)
  | non => exact .non
  | bl b => exact .bl b
  | int i => exact .int i
  | str z => exact .str z
  | rol ds => exact .rol ds
  | lst ds => exact .lst ds
  | tup ds => exact .tup ds
  | dK ds => exact .dK ds
theorem IsI.ext {d : D} {C : Addr} {fs : List (Str × D)} (h : IsI S d C fs) (x : Ext S S') : IsI S' d C fs := by
  cases h with
  | v => exact .v
  | c h => exact .c (x _ _ h)
theorem OfC.ext {K : PySem.W.Frag} {d : D} {t : Value} (h : OfC K S d t) (x : Ext S S') : OfC K S' d t := by
  cases h with
  | p h => exact .p (h.ext x)
  | i h c => exact .i (h.ext x) c
  | e T => exact .e T
theorem Da.ext {d d' : D} (h : Da S d d') (x : Ext S S') : Da S' d d' := by
  cases h with
  | v p => exact .v p
  | c h p => exact .c (x _ _ h) p
  | k h p => exact .k (x _ _ h) p
theorem DaL.ext (x : Ext S S') : ∀ {ds es : List D}, DaL S ds es → DaL S' ds es
  | _, _, .nil => .nil
  | _, _, .cons h r => .cons (h.ext x) (r.ext x)
theorem Vw.ext {d d' : D} (h : Vw S d d') (x : Ext S S') : Vw S' d d' := by
  cases h with
  | v => exact .v
  | c h n => exact .c (x _ _ h) n
end
section
variable {c : Ctx} {ρ : Rho} {S : Sto} {F : D → Sto → Prop}
/-- a text and itself -/
theorem rv_neSame {z : Str} (q : F (.bl false) S) : RV c rNe (.str z) (.str z) S F := rv_ne (b := true) (by show some (decide (z = z)) = some true; rw [decide_eq_true rfl]) q
theorem rv_eqSame {z : Str} (q : F (.bl true) S) : RV c rEq (.str z) (.str z) S F := rv_eq (b := true) (by show some (decide (z = z)) = some true; rw [decide_eq_true rfl]) q
end
end VS
namespace VS
open PySem L2 C8 PySem.Spec PyProof.Rows
/-! ### a walk over a list known by reference: it is hidden meanwhile -/
section
variable {c : Ctx} {ρ : Rho} {S : Sto}
theorem mk_back {T : Sto} {H : Hp} {l : Addr} {d : D} (s : T l = some .hid) : Mk T H (put T l d) H := by
  refine ⟨fun _ _ _ h => h, fun a u1 _ => ?_⟩
  have nal : a ≠ l := fun z => by rw [z, s] at u1; cases u1
  rw [put_ne nal]
  exact u1
theorem mv_back {T T' : Sto} {H H' : Hp} {l : Addr} {d e : D} (ht : T l = some e) (ne : e ≠ .hid) (m : Mv (put T l .hid) H T' H') : Mv T H (put T' l d) H' := by
  have ma := (mv_hide (H := H) ht ne).trans m
  refine ⟨⟨ma.keep, fun a u e => ?_⟩, fun a o u e => ?_⟩
  · have nal : a ≠ l := fun z => by subst z; rw [ht] at u; cases u
    rw [put_ne nal]
    exact ma.fresh a u e
  · obtain ⟨e1, e2⟩ := ma.hid a o u e
    have nal : a ≠ l := fun z => by subst z; rw [ht] at u; cases u; exact ne rfl
    exact ⟨e1, by rw [put_ne nal]; exact e2⟩
/-- no exception leaves -/
abbrev Ctx.calm (c : Ctx) : Ctx := ⟨c.K, c.E, fun _ _ _ _ => False⟩
theorem vx_forCell {wi : TI} {g : TG} {tb : TS} {nx bk ct : Rho → Sto → Prop} {rt : D → Sto → Prop} {l : Addr} {ds es : List D} (hl : S l = some (.lst ds))
    (hw : ∀ T σ H xs, In c.calm σ H ρ (VS.del S l) T → T l = some .hid → H l = some (.lst xs) → RepL c.K H T xs ds → ∀ R : It → Hp → Prop, (∀ J T1 H1, Mv T H T1 H1 → Cells c.K H1 (VS.del S l) T1 → Yl c.K J es T1 H1 → R J H1) → wi σ H R)
    (W : Nat → Rho → Sto → Prop) (h0 : W 0 ρ (VS.del S l))
    (hs : ∀ (i : Nat) (d : D) ρ2 S2, es[i]? = some d → W i ρ2 S2 → VG c.calm g d ρ2 S2 fun ρ3 S3 => VX c.calm tb ρ3 S3 ⟨W (i + 1), fun d S4 => rt d (put S4 l (.lst ds)), fun ρ4 S4 => nx ρ4 (put S4 l (.lst ds)), W (i + 1)⟩)
    (hd : ∀ ρ2 S2, W es.length ρ2 S2 → nx ρ2 (put S2 l (.lst ds))) :
    VX c (tFor wi g tb) ρ S ⟨nx, rt, bk, ct⟩ := fun T σ H I D b => by
  have ht := I.cells.at hl
  obtain ⟨xs, hx, r⟩ := I.cells.ok _ _ ht
  have m0 : Mv T H (put T l .hid) H := mv_hide ht (by nofun)
  have c0 := I.cells.hide hl hx
  have I0 : In c.calm σ H ρ (VS.del S l) (put T l .hid) := ⟨c0, fun i d e => let ⟨v, h, r⟩ := I.slots i d e; ⟨v, h, r.mv m0⟩, I.len, fun _ _ _ _ _ _ _ _ _ _ _ _ z => z.elim⟩
  have r0 := r.mv m0
  -- back
  have bkI : ∀ {σ4 H4 ρ4 S4 T4}, Mv (put T l .hid) H T4 H4 → In c.calm σ4 H4 ρ4 S4 T4 → Mv T H (put T4 l (.lst ds)) H4 ∧ In c σ4 H4 ρ4 (put S4 l (.lst ds)) (put T4 l (.lst ds)) := by
    intro σ4 H4 ρ4 S4 T4 m4 I4
    obtain ⟨hx4, s4⟩ := m4.hid l _ put_same hx
    have m5 : Mv T H (put T4 l (.lst ds)) H4 := mv_back ht (by nofun) m4
    have cl := I4.cells.show s4 hx4 (r0.mv m4)
    exact ⟨m5, cl, fun i d e => let ⟨v, h, q⟩ := I4.slots i d e; ⟨v, h, Rep.mk (mk_back s4) q⟩, I4.len, fun σ2 ρ2 C d fs S2 T2 H2 m2 => I.exc σ2 ρ2 C d fs S2 T2 H2 (m5.trans m2)⟩
  have bkR : ∀ {v d H4 S4 T4}, Mv (put T l .hid) H T4 H4 → Cells c.K H4 S4 T4 → Rep c.K H4 T4 v d → Mv T H (put T4 l (.lst ds)) H4 ∧ Cells c.K H4 (put S4 l (.lst ds)) (put T4 l (.lst ds)) ∧ Rep c.K H4 (put T4 l (.lst ds)) v d := by
    intro v d H4 S4 T4 m4 cl4 q
    obtain ⟨hx4, s4⟩ := m4.hid l _ put_same hx
    exact ⟨mv_back ht (by nofun) m4, cl4.show s4 hx4 (r0.mv m4), Rep.mk (mk_back s4) q⟩
  refine hw _ σ H xs I0 put_same hx r0 _ fun J T1 H1 m1 c1 ⟨G, Y, w, hG, hY⟩ => ?_
  refine for_it w (fun i σ' H' => ∃ ρ2 S2 T2, Mv T1 H1 T2 H' ∧ In c.calm σ' H' ρ2 S2 T2 ∧ W i ρ2 S2) ⟨ρ, _, T1, Mv.refl, I0.mv m1 c1, h0⟩ (fun i σ' H' _ ⟨ρ2, S2, T2, m, _, _⟩ => hG T2 H' m) ?_ ?_
  · rintro i x σ' H' H'' hi ⟨ρ2, S2, T2, m, I2, hw2⟩ y
    obtain ⟨d, e⟩ : ∃ d, es[i]? = some d := ⟨es[i], List.getElem?_eq_getElem hi⟩
    obtain ⟨m3, c3, r3⟩ := hY i d S2 T2 H' H'' x e m I2.cells y
    refine hs i d ρ2 S2 e hw2 T2 x σ' H'' (I2.mv m3 c3) r3 _ fun σ3 ρ3 S3 T3 H3 m4 I3 q => ?_
    have mm := m.trans (m3.trans m4)
    have mb := m1.trans mm
    refine q T3 σ3 H3 I3 _ ⟨fun σ4 ρ4 S4 T4 H4 m5 I4 q4 => ⟨ρ4, S4, T4, mm.trans m5, I4, q4⟩, fun v d S4 T4 H4 m5 c4 r4 q4 => ?_, fun σ4 ρ4 S4 T4 H4 m5 I4 q4 => ?_, fun σ4 ρ4 S4 T4 H4 m5 I4 q4 => ⟨ρ4, S4, T4, mm.trans m5, I4, q4⟩⟩
    · obtain ⟨a1, a2, a3⟩ := bkR (mb.trans m5) c4 r4
      exact b.rt v d _ _ H4 a1 a2 a3 q4
    · obtain ⟨a1, a2⟩ := bkI (mb.trans m5) I4
      exact b.nx σ4 ρ4 _ _ H4 a1 a2 q4
  · rintro σ' H' ⟨ρ2, S2, T2, m, I2, hw2⟩
    obtain ⟨a1, a2⟩ := bkI (m1.trans m) I2
    exact b.nx σ' ρ2 _ _ H' a1 a2 (hd ρ2 S2 hw2)
/-- for i, x in enumerate(e), e a list known by reference -/
theorem vx_forCellE {te : TE} {g : TG} {tb : TS} {nx bk ct : Rho → Sto → Prop} {rt : D → Sto → Prop} {l : Addr} {ds : List D} (hl : S l = some (.lst ds))
    (he : VE c.calm te ρ (VS.del S l) fun x S1 => x = .ref l ∧ S1 = VS.del S l)
    (W : Nat → Rho → Sto → Prop) (h0 : W 0 ρ (VS.del S l))
    (hs : ∀ (i : Nat) (d : D) ρ2 S2, ds[i]? = some d → W i ρ2 S2 → VG c.calm g (.tup [.int (i : Nat), d]) ρ2 S2 fun ρ3 S3 => VX c.calm tb ρ3 S3 ⟨W (i + 1), fun d S4 => rt d (put S4 l (.lst ds)), fun ρ4 S4 => nx ρ4 (put S4 l (.lst ds)), W (i + 1)⟩)
    (hd : ∀ ρ2 S2, W ds.length ρ2 S2 → nx ρ2 (put S2 l (.lst ds))) :
    VX c (tFor (iEnum c.K (tCons te tNil)) g tb) ρ S ⟨nx, rt, bk, ct⟩ := by
  refine vx_forCell (es := enumD ds) hl (fun T σ H xs I s hx r R k => ?_) W h0 (fun i d ρ2 S2 hi hw => ?_) (by rw [enumD_len]; exact hd)
  · refine he T σ H I _ fun vx x S1 T1 H1 m1 c1 r1 ⟨e1, e2⟩ => ?_
    subst e1 e2
    cases r1
    obtain ⟨hx1, s1⟩ := m1.hid l _ s hx
    have hq : ∀ T2 H2, Mv T1 H1 T2 H2 → SqL c.K H2 l xs := fun T2 H2 m2 => .inl (.inl (m2.hid l _ s1 hx1).1)
    refine ⟨l, xs, rfl, hq _ _ Mv.refl, k _ T1 H1 m1 c1 ⟨fun H => SqL c.K H l xs, _, by rw [enumD_len, ← r.length]; exact walk_enum, hq, fun i d S2 T2 H2 H3 y e m cl yy => ?_⟩⟩
    obtain ⟨T, u, w, e1, hT, e2, e3, e4⟩ := yy
    obtain ⟨y', e5, e6⟩ := enumD_get e
    subst e1 e2 e6
    obtain ⟨v, e7, r'⟩ := (r.mv m1).get e5
    have e4' : xs[i]? = some w := e4
    rw [e4'] at e7
    cases e7
    cases e3
    exact ⟨mv_new hT, cl.new hT, .tup (cl.free hT) upd_same (.cons (.int _) (.cons ((r'.mv m).mv (mv_new hT)) .nil))⟩
  · obtain ⟨y, e5, rfl⟩ := enumD_get hi
    exact hs i y ρ2 S2 e5 hw
end
end VS
namespace VS
open PySem L2 C8 PySem.Spec PyProof.Rows
section
variable {c : Ctx} {ρ : Rho} {S : Sto}
/-- a statement, what is known behind it, and the rest: where ways meet -/
theorem vx_join {a b : TS} {nx bk ct : Rho → Sto → Prop} {rt : D → Sto → Prop} (W : Rho → Sto → Prop) (h1 : VX c a ρ S ⟨W, rt, bk, ct⟩) (h2 : ∀ ρ' S', W ρ' S' → VX c b ρ' S' ⟨nx, rt, bk, ct⟩) : VX c (tSeq a b) ρ S ⟨nx, rt, bk, ct⟩ :=
  vx_seq (fun T σ H I D k => h1 T σ H I D ⟨fun σ' ρ' S' T' H' m I' q => k.nx σ' ρ' S' T' H' m I' (h2 ρ' S' q), k.rt, k.bk, k.ct⟩)
/-- an if: the test's ways meet -/
theorem vx_ifJ {tc : TT} {t u : TS} {P : Po} (J : Bool → Sto → Prop) (hc : VT c tc ρ S J) (h1 : ∀ S1, J true S1 → VX c t ρ S1 P) (h2 : ∀ S1, J false S1 → VX c u ρ S1 P) : VX c (tIfS tc t u) ρ S P :=
  vx_if (hc.imp fun b S1 j => ⟨fun e => h1 _ (by rw [← e]; exact j), fun e => h2 _ (by rw [← e]; exact j)⟩)
end
end VS
namespace VS
open PySem L2 C8 PySem.Spec PyProof.Rows
/-! ### min and max of a tuple of whole numbers -/
end VS
namespace VS
open PySem L2 C8 PySem.Spec PyProof.Rows
/-! ### dicts whose keys are numbers and texts: d[k], d[k] = v, {} by reference -/
def valD (ds : List (Key × D)) (k : Key) : Option D := (ds.find? fun kv => decide (kv.1 = k)).map (·.2)
def dkPut (ds : List (Key × D)) (k : Key) (d : D) : List (Key × D) :=
  if (ds.any fun kv => decide (kv.1 = k)) = true then ds.map (fun kv => if kv.1 = k then (kv.1, d) else kv) else ds ++ [(k, d)]
def kD : Key → D
  | .inl i => .int i
  | .inr x => .str x
theorem kD_rep {K : PySem.W.Frag} {H : Hp} {S : Sto} {k : Key} {v : V} (r : Rep K H S v (kD k)) : v = kV k := by
  cases k with
  | inl i => cases r; rfl
  | inr x => cases r; rfl
theorem valD_pos {p : Key × D} {r : List (Key × D)} {k : Key} (e : p.1 = k) : valD (p :: r) k = some p.2 := by simp [valD, List.find?_cons, e]
theorem valD_neg {p : Key × D} {r : List (Key × D)} {k : Key} (e : ¬ p.1 = k) : valD (p :: r) k = valD r k := by simp [valD, List.find?_cons, e]
section
variable {K : PySem.W.Frag} {H : Hp} {S : Sto}
theorem RepK.val {k : Key} : ∀ {vs : List (Key × V)} {ds : List (Key × D)}, RepK K H S vs ds → (valV vs k = none ∧ valD ds k = none) ∨ ∃ v d, valV vs k = some v ∧ valD ds k = some d ∧ Rep K H S v d
  | _, _, .nil => .inl ⟨rfl, rfl⟩
  | _, _, .cons (k := k') h t => by
    by_cases e : k' = k
    · exact .inr ⟨_, _, valV_pos e, valD_pos e, h⟩
    · rw [valV_neg e, valD_neg e]
      exact RepK.val t
theorem RepK.anyK {k : Key} : ∀ {vs : List (Key × V)} {ds : List (Key × D)}, RepK K H S vs ds → (vs.any fun kv => decide (kv.1 = k)) = ds.any fun kv => decide (kv.1 = k)
  | _, _, .nil => rfl
  | _, _, .cons h t => by rw [List.any_cons, List.any_cons, RepK.anyK t]
theorem RepK.rep {k : Key} {v : V} {d : D} (r : Rep K H S v d) : ∀ {vs : List (Key × V)} {ds : List (Key × D)}, RepK K H S vs ds → RepK K H S (vs.map fun kv => if kv.1 = k then (kv.1, v) else kv) (ds.map fun kv => if kv.1 = k then (kv.1, d) else kv)
  | _, _, .nil => .nil
  | _, _, .cons (k := k') h t => by
    rw [List.map_cons, List.map_cons]
    by_cases e : k' = k
    · rw [if_pos e, if_pos e]; exact .cons r (RepK.rep r t)
    · rw [if_neg e, if_neg e]; exact .cons h (RepK.rep r t)
theorem RepK.app {k : Key} {v : V} {d : D} (r : Rep K H S v d) : ∀ {vs : List (Key × V)} {ds : List (Key × D)}, RepK K H S vs ds → RepK K H S (vs ++ [(k, v)]) (ds ++ [(k, d)])
  | _, _, .nil => .cons r .nil
  | _, _, .cons h t => .cons h (RepK.app r t)
theorem RepK.put {k : Key} {v : V} {d : D} {vs : List (Key × V)} {ds : List (Key × D)} (r : Rep K H S v d) (h : RepK K H S vs ds) : RepK K H S (putK vs k v) (dkPut ds k d) := by
  unfold putK dkPut
  rw [h.anyK]
  by_cases e : (ds.any fun kv => decide (kv.1 = k)) = true
  · rw [if_pos e, if_pos e]; exact RepK.rep r h
  · rw [if_neg e, if_neg e]; exact RepK.app r h
theorem RepK.length : ∀ {vs : List (Key × V)} {ds : List (Key × D)}, RepK K H S vs ds → vs.length = ds.length
  | _, _, .nil => rfl
  | _, _, .cons h t => congrArg (· + 1) (RepK.length t)
theorem RepK.keys : ∀ {vs : List (Key × V)} {ds : List (Key × D)}, RepK K H S vs ds → vs.map (·.1) = ds.map (·.1)
  | _, _, .nil => rfl
  | _, _, .cons h t => by rw [List.map_cons, List.map_cons, RepK.keys t]
end
inductive IsDk (S : Sto) : D → List (Key × D) → Prop
  | v {ds : List (Key × D)} : IsDk S (.dK ds) ds
  | c {l : Addr} {ds : List (Key × D)} (h : S l = some (.dK ds)) : IsDk S (.ref l) ds
theorem IsDk.rd {K : PySem.W.Frag} {H : Hp} {S T : Sto} {x : D} {ds : List (Key × D)} {u : V} (h : IsDk S x ds) (cl : Cells K H S T) (r : Rep K H T u x) : ∃ a vs, u = .ref a ∧ Rd H a (.dK vs) ∧ RepK K H T vs ds := by
  cases h with
  | v => cases r with
    | dK s h r => exact ⟨_, _, rfl, h, r⟩
  | c h => cases r; obtain ⟨xs, h1, r⟩ := cl.ok _ _ (cl.at h); exact ⟨_, xs, rfl, .inl h1, r⟩
theorem DGet.r {H : Hp} {a : Addr} {kvs : List (Key × V)} {k : Key} (e : Rd H a (.dK kvs)) : DGet H a (kV k) (valV kvs k) := .inl ⟨kvs, k, e, rfl, rfl⟩
section
variable {c : Ctx} {ρ : Rho} {S : Sto} {F : D → Sto → Prop}
/-- {}, by reference -/
theorem ve_dnewc (q : ∀ p, S p = none → F (.ref p) (put S p (.dK []))) : VE c tDNewK ρ S F := fun T σ H I Q k => fun p hp =>
  k _ _ _ _ _ (mv_newc hp) (I.cells.newc hp (cell_d upd_same .nil)) (.ref p) (q p (I.cells.freeS hp))
/-- d[k] -/
theorem ve_dget {td ty : TE} (h : VE c td ρ S fun x S1 => VE c ty ρ S1 fun y S2 => ∃ (ds : List (Key × D)) (k : Key) (d : D), IsDk S2 x ds ∧ y = kD k ∧ valD ds k = some d ∧ F d S2) : VE c (tDGet td ty) ρ S F := fun T σ H I Q kk =>
  h T σ H I _ fun vx x S1 T1 H1 m1 c1 r1 h1 => h1 T1 σ H1 (I.mv m1 c1) _ fun vy y S2 T2 H2 m2 c2 r2 ⟨ds, k, d, hd, ey, hv, q⟩ => by
    subst ey
    obtain rfl := kD_rep r2
    obtain ⟨a, vs, rfl, ha, rk⟩ := hd.rd c2 (r1.mv m2)
    rcases rk.val (k := k) with ⟨_, e⟩ | ⟨v, d', e1, e2, rv⟩
    · rw [hv] at e; cases e
    · rw [hv] at e2
      cases e2
      exact ⟨a, v, rfl, by rw [← e1]; exact DGet.r ha, kk v d S2 T2 H2 (m1.trans m2) c2 rv q⟩
/-- d[k] = v -/
theorem vx_dput {td ty tv : TE} {nx bk ct : Rho → Sto → Prop} {rt : D → Sto → Prop} (h : VE c tv ρ S fun d S1 => VE c td ρ S1 fun x S2 => ∃ l, x = .ref l ∧ VE c ty ρ S2 fun y S3 => ∃ (ds : List (Key × D)) (k : Key), S3 l = some (.dK ds) ∧ y = kD k ∧ ds.length < sizeLine ∧ nx ρ (put S3 l (.dK (dkPut ds k d)))) : VX c (sDPut td ty tv) ρ S ⟨nx, rt, bk, ct⟩ := fun T σ H I D b =>
  h T σ H I _ fun v d S1 T1 H1 m1 c1 r1 h1 => h1 T1 σ H1 (I.mv m1 c1) _ fun vx x S2 T2 H2 m2 c2 r2 ⟨l, ex, h2⟩ => h2 T2 σ H2 ((I.mv m1 c1).mv m2 c2) _ fun vy y S3 T3 H3 m3 c3 r3 ⟨ds, k, hl, ey, hs, q⟩ => by
    subst ex ey
    obtain rfl := kD_rep r3
    cases r2
    obtain ⟨vs, hx, rr⟩ := c3.ok _ _ (c3.at hl)
    have rd : Rep c.K H3 T3 v d := r1.mv (m2.trans m3)
    have w := mv_wr (H := H3) (d := .dK (dkPut ds k d)) (o := .dK (putK vs k v)) (c3.at hl)
    have cl' : Cells c.K (upd H3 l (.dK (putK vs k v))) (put S3 l (.dK (dkPut ds k d))) (put T3 l (.dK (dkPut ds k d))) := c3.wr (c3.at hl) (cell_d upd_same ((RepK.put rd rr).mv w))
    exact ⟨l, _, rfl, DPut.k hx (by rw [rr.length]; exact hs), b.nx σ ρ _ _ _ (m1.trans (m2.trans (m3.trans w))) (I.mv (m1.trans (m2.trans (m3.trans w))) cl') q⟩
end
/-! ### lists or tuples: s[i], s[i:j] -/
end VS
namespace VS
open PySem L2 PySem.Spec PyProof.Rows
/-! ### comprehensions over a list known by reference, once more: the result by reference; each element by itself -/
end VS
namespace VS
open PySem L2 C8 PySem.Spec PyProof.Rows
/-! ### sorted(xs, key=f, reverse=b), f an own def -/
end VS
namespace VS
open PySem L2 PySem.Spec PyProof.Rows
/-! ### things seen whole: what is known by reference within them, too -/
mutual
inductive Vd (S : Sto) : D → D → Prop
  | v {d : D} : Vd S d d
  | c {l : Addr} {d d' : D} (h : S l = some d) (n : d ≠ .hid) (k : Vd S d d') : Vd S (.ref l) d'
  | lst {xs ys : List D} (h : VdL S xs ys) : Vd S (.lst xs) (.lst ys)
  | tup {xs ys : List D} (h : VdL S xs ys) : Vd S (.tup xs) (.tup ys)
  | dK {xs ys : List (Key × D)} (h : VdK S xs ys) : Vd S (.dK xs) (.dK ys)
  | ins {C : Addr} {fs gs : List (Str × D)} (h : VdF S fs gs) : Vd S (.ins C fs) (.ins C gs)
inductive VdL (S : Sto) : List D → List D → Prop
  | nil : VdL S [] []
  | cons {x y : D} {xs ys : List D} (h : Vd S x y) (t : VdL S xs ys) : VdL S (x :: xs) (y :: ys)
inductive VdK (S : Sto) : List (Key × D) → List (Key × D) → Prop
  | nil : VdK S [] []
  | cons {k : Key} {x y : D} {xs ys : List (Key × D)} (h : Vd S x y) (t : VdK S xs ys) : VdK S ((k, x) :: xs) ((k, y) :: ys)
inductive VdF (S : Sto) : List (Str × D) → List (Str × D) → Prop
  | nil : VdF S [] []
  | cons {k : Str} {x y : D} {xs ys : List (Str × D)} (h : Vd S x y) (t : VdF S xs ys) : VdF S ((k, x) :: xs) ((k, y) :: ys)
end
section
variable {K : PySem.W.Frag} {H : Hp} {S T : Sto}
mutual
theorem Vd.rd (cl : Cells K H S T) : ∀ {x d : D} {u : V} {T' : Sto}, Vd S x d → Rep K H T' u x → Rep K H (fun _ => none) u d
  | _, _, _, _, .v, r => r.any
  | _, _, _, _, .c h n k, r => by
    cases r
    exact Vd.rd cl k (cl.rep (cl.at h) (cl.nohid h n))
  | _, _, _, _, .lst h, r => by
    cases r with
    | lst s e r => exact .lst rfl e (VdL.rd cl h r)
  | _, _, _, _, .tup h, r => by
    cases r with
    | tup s e r => exact .tup rfl e (VdL.rd cl h r)
    | tupK e r => exact .tupK e (VdL.rd cl h r)
  | _, _, _, _, .dK h, r => by
    cases r with
    | dK s e r => exact .dK rfl e (VdK.rd cl h r)
  | _, _, _, _, .ins h, r => by
    cases r with
    | ins s e r => exact .ins rfl e (VdF.rd cl h r)
theorem VdL.rd (cl : Cells K H S T) : ∀ {xs ds : List D} {us : List V} {T' : Sto}, VdL S xs ds → RepL K H T' us xs → RepL K H (fun _ => none) us ds
  | _, _, _, _, .nil, r => by cases r; exact .nil
  | _, _, _, _, .cons h t, r => by
    cases r with
    | cons r1 r2 => exact .cons (Vd.rd cl h r1) (VdL.rd cl t r2)
theorem VdK.rd (cl : Cells K H S T) : ∀ {xs ds : List (Key × D)} {us : List (Key × V)} {T' : Sto}, VdK S xs ds → RepK K H T' us xs → RepK K H (fun _ => none) us ds
  | _, _, _, _, .nil, r => by cases r; exact .nil
  | _, _, _, _, .cons h t, r => by
    cases r with
    | cons r1 r2 => exact .cons (Vd.rd cl h r1) (VdK.rd cl t r2)
theorem VdF.rd (cl : Cells K H S T) : ∀ {xs ds : List (Str × D)} {us : List (Str × V)} {T' : Sto}, VdF S xs ds → RepF K H T' us xs → RepF K H (fun _ => none) us ds
  | _, _, _, _, .nil, r => by cases r; exact .nil
  | _, _, _, _, .cons h t, r => by
    cases r with
    | cons r1 r2 => exact .cons (Vd.rd cl h r1) (VdF.rd cl t r2)
end
end
end VS
namespace VS
open PySem L2
/-! ### a pure test or expression, all cells read as by value meanwhile -/
section
variable {c : Ctx} {ρ ρ' : Rho} {S : Sto} {F : D → Sto → Prop} {G : Bool → Sto → Prop}
structure VdR (S : Sto) (ρ ρ' : Rho) : Prop where
  len : ρ'.length = ρ.length
  at_ : ∀ (i : Nat) (d' : D), ρ'[i]? = some (some d') → ∃ d, ρ[i]? = some (some d) ∧ Vd S d d'
theorem VdR.refl : VdR S ρ ρ := ⟨rfl, fun _ d h => ⟨d, h, .v⟩⟩
theorem VdR.set (w : VdR S ρ ρ') (i : Nat) {d d' : D} (h : ρ[i]? = some (some d)) (hd : Vd S d d') : VdR S ρ (ρ'.set i (some d')) := ⟨by rw [List.length_set]; exact w.len, fun j e q => by
  by_cases z : i = j
  · subst z
    rw [List.getElem?_set_self (by rw [w.len]; exact (List.getElem?_eq_some_iff.mp h).1)] at q
    cases q
    exact ⟨d, h, hd⟩
  · rw [List.getElem?_set_ne z] at q
    exact w.at_ j e q⟩
end
end VS
namespace VS
open PySem L2 C8 PySem.Spec PyProof.Rows
/-! ### xs.index(x) of a list by value -/
section
variable {c : Ctx} {ρ : Rho} {S : Sto} {F : D → Sto → Prop}
theorem ve_bmV {r : MR1} {to : TE} {t : TA} (h : VE c to ρ S fun x S1 => ∃ ds, IsL S1 x ds ∧ VA c t ρ S1 fun es S2 => RM c r x es S2 F) : VE c (tBM c.K "list" r to t) ρ S F := fun T σ H I Q k =>
  h T σ H I _ fun vx x S1 T1 H1 m1 c1 r1 ⟨ds, hi, h1⟩ => by
    obtain ⟨a, xs, e, s, _⟩ := hi.rd c1 r1
    subst e
    exact ⟨.inl ⟨rfl, xs, s⟩, h1 T1 σ H1 (I.mv m1 c1) _ fun vs es S2 T2 H2 m2 c2 r2 h2 => h2 T2 _ vs H2 c2 (r1.mv m2) r2 Q fun v d S3 T3 H3 m3 c3 r3 q => k v d S3 T3 H3 (m1.trans (m2.trans m3)) c3 r3 q⟩
theorem rm_indexV {y : D} {ds : List D} {x z : D} {j : Nat} (h : IsL S y ds) (h1 : flatD x = true) (h2 : ds.all flatD = true) (hj : ds[j]? = some z) (e : eqD z x = true) (no : ∀ (m : Nat) (z' : D), m < j → ds[m]? = some z' → eqD z' x = false) (q : F (.int (j : Nat)) S) :
    RM c (rIndex c.K) y [x] S F := fun T u us H cl r1 r2 Q k => by
  obtain ⟨a, xs, e0, hs, r⟩ := h.rd cl r1
  subst e0
  cases r2 with
  | cons hx t =>
    cases t
    obtain ⟨v, e1, e2⟩ := r.get hj
    refine ⟨a, xs, _, j, v, rfl, rfl, hs, by rw [flat_ok hx]; exact h1, by rw [r.flat]; exact h2, e1, by rw [eq_ok e2 hx]; exact e, fun m z' hm hz => ?_, k _ _ S T H Mv.refl cl (.int _) q⟩
    have hb : m < ds.length := by
      rw [← r.length]
      exact (List.getElem?_eq_some_iff.mp hz).1
    obtain ⟨v', f1, f2⟩ := r.get (List.getElem?_eq_getElem hb)
    rw [hz] at f1
    cases f1
    rw [eq_ok f2 hx]
    exact no m _ hm (List.getElem?_eq_getElem hb)
/-- the place of a text in a list of unlike texts -/
theorem rm_indexS {y : D} {ws : List Str} {z : Str} {j : Nat} (h : IsL S y (ws.map D.str)) (nd : ws.Nodup) (hj : ws[j]? = some z) (q : F (.int (j : Nat)) S) : RM c (rIndex c.K) y [.str z] S F := by
  have fl : (ws.map D.str).all flatD = true := by rw [List.all_map]; exact List.all_eq_true.mpr fun _ _ => rfl
  refine rm_indexV (j := j) (z := .str z) h rfl fl (by rw [List.getElem?_map, hj]; rfl) (by show (z == z) = true; exact beq_self_eq_true _) (fun m z' hm hz' => ?_) q
  rw [List.getElem?_map] at hz'
  cases em : ws[m]? with
  | none => rw [em] at hz'; cases hz'
  | some y' =>
    rw [em] at hz'
    cases hz'
    show (y' == z) = false
    rw [beq_eq_false_iff_ne]
    intro e
    subst e
    have := (List.getElem?_inj (List.getElem?_eq_some_iff.mp em).1 nd).mp (em.trans hj.symm)
    omega
end
end VS
namespace VS
open PySem L2 C8 PySem.Spec PyProof.Rows
/-! ### list(d), the keys texts -/
theorem is_str {P : Program} {w : World} {x : Str} {v : Value} (h : (mixKind P w).is (.inr x) v = true) : ∃ t, v = .str x t := by
  have h : keyIs (.inr x) v = true := h
  cases v with
  | str y t =>
    have : y = x := by simpa [keyIs, Value.isStr, Value.isStrOf] using h
    exact ⟨t, by rw [this]⟩
  | _ => exact absurd h (by simp [keyIs, Value.isStr, Value.isStrOf])
theorem vals_keys : ∀ (ns : List Str) (us : List Value), us.length = ns.length → (∀ (i : Nat) (v : Value), us[i]? = some v → ∃ x t, ns[i]? = some x ∧ v = .str x t) → Vals (ns.map V.str) us
  | [], [], _, _ => .nil
  | [], _ :: _, h, _ => by simp at h
  | _ :: _, [], h, _ => by simp at h
  | n :: ns, v :: us, h, k => by
    obtain ⟨x, t, h1, h2⟩ := k 0 v rfl
    cases h1
    exact .cons ⟨t, h2⟩ (vals_keys ns us (by simpa using h) fun i v hv => k (i + 1) v hv)
theorem kv_keys : ∀ {kvs : List (Key × V)} {vs : List (Key × Value)}, KV kvs vs → vs.map Prod.fst = kvs.map Prod.fst := by
  intro kvs vs h
  induction h <;> simp_all
def rListDk (_ : PySem.W.Frag) : CR1 := fun xs H Q => ∃ p kvs, ∃ ns : List Str, xs = [.ref p] ∧ Rd H p (.dK kvs) ∧ kvs.map Prod.fst = ns.map .inr ∧ ∀ l, H l = none → Q (.ref l) (upd H l (.lst (ns.map V.str)))
theorem c_listDk {X : Cx} (hc : X.calm = true) : CallR X (.type "list") (rListDk X.K) := by
  intro pins s σ H xs us Q I r h
  obtain ⟨p, kvs, ns, rfl, hp, hk, q⟩ := h
  obtain ⟨u, rfl, rx⟩ := vals1 r
  cases (show u = Value.ref p from rx)
  obtain ⟨h1, h2, vs, h3, h4⟩ := (show ObjOk X.prog X.w H s.heap p (.dK kvs) from hp.ok I.hok)
  obtain ⟨es, ep, hr, hz, he⟩ := Heap.DictOf.raw h4
  have hkv := kv_keys h3
  have hl : vs.length = kvs.length := by
    have := congrArg List.length hkv
    simpa using this
  have hn : ns.length = kvs.length := by
    have := congrArg List.length hk
    simpa using this.symm
  refine PySem.W.kdl_call (PySem.KdlSrc.rawDict h2) (I.ok.hd hc) hr (by rw [hz, hl]; exact h1) fun h' tk acc' c' kp e hacc => ?_
  have hv : Vals (ns.map V.str) acc'.toList := by
    refine vals_keys _ _ (by rw [Array.length_toList, hacc.1, hz, hl, hn]) fun i v hv => ?_
    rw [Array.getElem?_toList] at hv
    obtain ⟨hi, rfl⟩ := hacc.2 i v hv
    have hi' : i < vs.length := by rw [← hz]; exact hi
    have hin : i < ns.length := by rw [hn, ← hl]; exact hi'
    have ek : (vs[i]'hi').1 = .inr ns[i] := by
      have e1 : (vs.map Prod.fst)[i]? = (ns.map (Sum.inr : Str → Key))[i]? := by rw [hkv, hk]
      rw [List.getElem?_map, List.getElem?_map, List.getElem?_eq_getElem hi', List.getElem?_eq_getElem hin] at e1
      injection e1
    obtain ⟨t, ht⟩ := is_str (he i hi (.inr ns[i]) (vs[i]'hi').2 (by rw [List.getElem?_eq_getElem hi', ← ek])).1
    exact ⟨ns[i], t, List.getElem?_eq_getElem hin, ht⟩
  exact ⟨.ref s.heap.objs.size, _, I.laid (t' := tk) kp (Nat.le_refl _) (show ObjOk X.prog X.w _ h' _ (.lst _) from ⟨by rw [List.length_map, hn]; exact h1, acc'.toList, c', hv, by rw [Array.toArray_toList]; exact e⟩), rfl, q _ (I.hok.fresh (Nat.le_refl _))⟩
section
variable {c : Ctx} {S : Sto} {F : D → Sto → Prop}
theorem rc_listDk {x : D} {ds : List (Key × D)} {ns : List Str} (h : IsDk S x ds) (hk : ds.map Prod.fst = ns.map .inr) (q : F (.lst (ns.map D.str)) S) : RC c (rListDk c.K) [x] S F := fun T us H cl r Q k => by
  cases r with
  | cons h1 t =>
    cases t
    obtain ⟨a, vs, rfl, ha, rk⟩ := h.rd cl h1
    exact ⟨a, vs, ns, rfl, ha, by rw [RepK.keys rk]; exact hk, fun l hl => k _ _ S T _ (mv_new hl) (cl.new hl) (.lst (cl.free hl) upd_same (RepL.ofStrs)) q⟩
end
/-! ### a comprehension in a comprehension -/
theorem lookup_rel {f : Str × NameKind → Str × NameKind} (hf : ∀ x, (f x).1 = x.1 ∧ ((f x).2 = x.2 ∨ (f x).2 = .cell)) {k : Str} : ∀ {ns : List (Str × NameKind)}, (ns.lookup k = some .cell ∨ ns.lookup k = some .free) → ((ns.map f).lookup k = some .cell ∨ (ns.map f).lookup k = some .free)
  | [], h => h
  | (n, m) :: ns, h => by
    obtain ⟨h1, h2⟩ := hf (n, m)
    rw [List.map_cons]
    rcases hx : f (n, m) with ⟨n', m'⟩
    rw [hx] at h1 h2
    obtain rfl : n' = n := h1
    by_cases e : (k == n') = true
    · rw [List.lookup_cons, e] at h ⊢
      rcases h2 with h2 | h2
      · rw [show m' = m from h2]; exact h
      · rw [show m' = .cell from h2]; exact .inl rfl
    · have e : (k == n') = false := by simpa using e
      rw [List.lookup_cons, e] at h ⊢
      exact lookup_rel hf h
theorem blkOk_c {N : List Str} {sc scope : Scope} {cl : List (Str × Addr)} {C : Addr} {env : Env} {own : List (Str × Nat)} (h : blkC N sc scope own = true) : BlkOk N (compEnvC sc cl C env).scope scope own := by
  have b : BlkOk N sc scope own := blkOk_by h
  refine ⟨b.kind, b.uniq, b.ix, fun y hy e => ?_, b.own⟩
  have := b.free y hy e
  show List.lookup y.1 (relabel sc env).names = _ ∨ List.lookup y.1 (relabel sc env).names = _
  unfold relabel
  refine lookup_rel (fun x => ?_) this
  obtain ⟨n, k⟩ := x
  dsimp only
  split
  · exact ⟨rfl, .inr rfl⟩
  · exact ⟨rfl, .inl rfl⟩
end VS
namespace VS
open PySem L2 C8 PySem.Spec PyProof.Rows
/-! ### a module's dict of own defs, by texts -/
structure KDct (P : Program) (w : World) (K : PySem.W.Frag) (a : Addr) (kvs : List (Str × Addr)) : Prop where
  sys : (a == sysModules) = false
  nd : (kvs.map Prod.fst).Nodup
  ob : ∃ o es ep, K.lookup a = some o ∧ o.ExactDict ∧ o.data = .dict es ep ∧ KeysOf (PySem.strKind P w) es ∧ Pairs (PySem.strKind P w) es.toList (kvs.map fun x => (x.1, Value.ref x.2))
theorem KDct.map {P : Program} {w : World} {K : PySem.W.Frag} {a : Addr} {kvs : List (Str × Addr)} (h : KDct P w K a kvs) {hp : Heap} (i : K.In hp) : Heap.MapOf (PySem.strKind P w) hp a (valueAt (kvs.map fun x => (x.1, Value.ref x.2))) := by
  obtain ⟨o, es, ep, h1, h2, h3, h4, h5⟩ := h.ob
  refine Heap.DictOf.mapOf ⟨o, es, ep, i _ _ h1, h2, h3, h4, h5, ?_⟩
  rw [List.map_map]
  exact h.nd
def entK (w : World) (x : Str × Addr × Tok) : DictEntry := ⟨hashStr w x.1, .str x.1 x.2.2, .ref x.2.1⟩
theorem pairs_ents {P : Program} {w : World} : ∀ ents : List (Str × Addr × Tok), Pairs (PySem.strKind P w) (ents.map (entK w)) ((ents.map fun x => (x.1, x.2.1)).map fun x => (x.1, Value.ref x.2))
  | [] => .nil
  | (z, f, t) :: es => .cons (show Value.isStrOf z (Value.str z t) = true by simp [Value.isStrOf]) rfl (pairs_ents es)
theorem KDct.of {P : Program} {w : World} {K : PySem.W.Frag} {a : Addr} {ep : Nat} (ents : List (Str × Addr × Tok)) (h : K.lookup a = some ⟨.type "dict", none, .dict (ents.map (entK w)).toArray ep, #[]⟩) (nd : (ents.map Prod.fst).Nodup) (sy : (a == sysModules) = false) : KDct P w K a (ents.map fun x => (x.1, x.2.1)) := by
  refine ⟨sy, by rw [List.map_map]; exact nd, _, _, _, h, ⟨rfl, rfl, rfl⟩, rfl, fun e he => ?_, by rw [List.toList_toArray]; exact pairs_ents ents⟩
  have he : e ∈ ents.map (entK w) := by simpa using he
  obtain ⟨x, hx, rfl⟩ := List.mem_map.mp he
  exact ⟨x.1, (show Value.isStrOf x.1 (Value.str x.1 x.2.2) = true by simp [Value.isStrOf]), rfl⟩
/-! ### sorted(xs, key=f): one of several f -/
end VS
namespace VS
open PySem L2 PySem.Spec PyProof.Rows
/-! ### max of three -/
end VS
namespace VS
open PySem L2 C8 PySem.Spec PyProof.Rows
/-! ### sorted of a list of texts -/
end VS
namespace VS
open PySem L2 C8 PySem.Spec PyProof.Rows
/-! ### sorted of a list of pairs of whole numbers -/
end VS
namespace VS
/-! ### pairs (number, place) sorted: the things sorted by the number, alike ones as they stood -/
end VS
namespace VS
open PySem L2 C8 PySem.Spec PyProof.Rows
/-! ### several lists known by reference, hidden for the time of a walk -/
theorem Mk.trans {S S1 S2 : Sto} {H H1 H2 : Hp} (a : Mk S H S1 H1) (b : Mk S1 H1 S2 H2) : Mk S H S2 H2 :=
  ⟨fun x o h1 h2 => b.keep x o (a.fresh x h1 (by rw [h2]; nofun)) (a.keep x o h1 h2), fun x h1 h2 => by
    cases e : H x with
    | none => exact absurd e h2
    | some o => exact b.fresh x (a.fresh x h1 h2) (by rw [a.keep x o h1 e]; nofun)⟩
end VS
namespace VS
open PySem L2 C8 PySem.Spec PyProof.Rows
/-! ### list.reverse; texts sorted, as the mergeSort of things by a text -/
end VS
namespace VS
open PySem L2 C8 PySem.Spec PyProof.Rows
/-! ### max(xs, default=d); list(d.values()) -/
end VS
namespace VS
open PySem L2 C8 PySem.Spec PyProof.Rows
/-! ### for k in d, d a dict by value: it is locked meanwhile, where it is not locked as yet -/
theorem CellOk.ml {K : PySem.W.Frag} {S S' : Sto} {H H' : Hp} {a : Addr} (m : Ml S H S' H') (e : H' a = H a) : ∀ {d : D}, CellOk K H S a d → CellOk K H' S' a d
  | .lst _, ⟨xs, h, r⟩ => ⟨xs, by rw [e]; exact h, r.ml m⟩
  | .dK _, ⟨xs, h, r⟩ => ⟨xs, by rw [e]; exact h, r.ml m⟩
  | .ins _ _, ⟨dx, fs, h, r⟩ => ⟨dx, fs, by rw [e]; exact h, r.ml m⟩
  | .hid, ⟨o, h⟩ => ⟨o, by rw [e]; exact h⟩
theorem Cells.ml {K : PySem.W.Frag} {S T : Sto} {H H' : Hp} {a : Addr} (c : Cells K H S T) (s : T a = none) (m : Ml T H T H') (e : ∀ b, b ≠ a → H' b = H b) : Cells K H' S T :=
  ⟨c.ov, fun b d q => CellOk.ml m (e b (fun z => by subst z; rw [s] at q; cases q)) (c.ok b d q)⟩
theorem RepK.key {K : PySem.W.Frag} {H : Hp} {S : Sto} {k : Key} {v : V} : ∀ {vs : List (Key × V)} {ds : List (Key × D)} {i : Nat}, RepK K H S vs ds → vs[i]? = some (k, v) → ∃ d, ds[i]? = some (k, d)
  | _, _, _, .nil, e => by simp at e
  | _, _, 0, .cons _ _, e => by simp at e; obtain ⟨rfl, _⟩ := e; exact ⟨_, rfl⟩
  | _, _, i + 1, .cons _ t, e => by simpa using RepK.key (i := i) t (by simpa using e)
end VS
namespace VS
open PySem L2 C8 PySem.Spec PyProof.Rows
/-! ### [e for k in d if t], d a dict by value -/
end VS
namespace VS
open PySem L2
/-! ### some cells are known by value from now on -/
section
variable {K : PySem.W.Frag} {H : Hp} {S T : Sto} {A : Addr → Prop}
open Classical in
noncomputable def cutA (A : Addr → Prop) (T : Sto) : Sto := fun b => if A b then none else T b
open Classical in
noncomputable def onlyA (A : Addr → Prop) (T : Sto) : Sto := fun b => if A b then T b else none
theorem cutA_in {a : Addr} (h : A a) : cutA A T a = none := if_pos h
theorem cutA_out {a : Addr} (h : ¬ A a) : cutA A T a = T a := if_neg h
theorem cutA_none {a : Addr} (h : T a = none) : cutA A T a = none := by
  unfold cutA
  split
  · rfl
  · exact h
theorem onlyA_in {a : Addr} (h : A a) : onlyA A T a = T a := if_pos h
theorem onlyA_some {a : Addr} {d : D} (e : onlyA A T a = some d) : A a ∧ T a = some d := by
  unfold onlyA at e
  split at e
  · rename_i h; exact ⟨h, e⟩
  · cases e
theorem cutA_some {a : Addr} {d : D} (e : cutA A T a = some d) : ¬ A a ∧ T a = some d := by
  unfold cutA at e
  split at e
  · cases e
  · rename_i h; exact ⟨h, e⟩
theorem mv_cut (hA : ∀ a, A a → T a ≠ some .hid) : Mv T H (cutA A T) H :=
  ⟨⟨fun _ _ _ h => h, fun _ s _ => cutA_none s⟩, fun a o s e => ⟨e, by rw [cutA_out (fun z => hA a z s)]; exact s⟩⟩
theorem Cells.cut (cl : Cells K H S T) (hA : ∀ a, A a → T a ≠ some .hid) : Cells K H (cutA A S) (cutA A T) := by
  refine ⟨fun a => ?_, fun a d e => ?_⟩
  · by_cases z : A a
    · exact .inl ⟨by rw [cutA_in z, cutA_in z], by rw [cutA_in z]; nofun⟩
    · rw [cutA_out z, cutA_out z]; exact cl.ov a
  · exact CellOk.mk (mv_cut hA).toMk rfl (cl.ok a d (cutA_some e).2)
mutual
theorem Vd.rdA (cl : Cells K H S T) (hA : ∀ a, A a → T a ≠ some .hid) : ∀ {x d : D} {u : V} {T' : Sto}, (∀ a, T' a = none → cutA A T a = none) → Vd (onlyA A S) x d → Rep K H T' u x → Rep K H (cutA A T) u d
  | _, _, _, _, hT, .v, r => r.mk ⟨fun _ _ _ h => h, fun a s _ => hT a s⟩
  | _, _, _, _, hT, .c (l := l) h n k, r => by
    cases r
    obtain ⟨hl, h⟩ := onlyA_some h
    refine Vd.rdA cl hA (T' := VS.del T l) (fun a e => ?_) k (cl.rep (cl.at h) (cl.nohid h n))
    by_cases z : a = l
    · subst z; exact cutA_in hl
    · rw [VS.del_ne z] at e; exact cutA_none e
  | _, _, _, _, hT, .lst h, r => by
    cases r with
    | lst s e r => exact .lst (hT _ s) e (VdL.rdA cl hA hT h r)
  | _, _, _, _, hT, .tup h, r => by
    cases r with
    | tup s e r => exact .tup (hT _ s) e (VdL.rdA cl hA hT h r)
    | tupK e r => exact .tupK e (VdL.rdA cl hA hT h r)
  | _, _, _, _, hT, .dK h, r => by
    cases r with
    | dK s e r => exact .dK (hT _ s) e (VdK.rdA cl hA hT h r)
  | _, _, _, _, hT, .ins h, r => by
    cases r with
    | ins s e r => exact .ins (hT _ s) e (VdF.rdA cl hA hT h r)
theorem VdL.rdA (cl : Cells K H S T) (hA : ∀ a, A a → T a ≠ some .hid) : ∀ {xs ds : List D} {us : List V} {T' : Sto}, (∀ a, T' a = none → cutA A T a = none) → VdL (onlyA A S) xs ds → RepL K H T' us xs → RepL K H (cutA A T) us ds
  | _, _, _, _, _, .nil, r => by cases r; exact .nil
  | _, _, _, _, hT, .cons h t, r => by
    cases r with
    | cons r1 r2 => exact .cons (Vd.rdA cl hA hT h r1) (VdL.rdA cl hA hT t r2)
theorem VdK.rdA (cl : Cells K H S T) (hA : ∀ a, A a → T a ≠ some .hid) : ∀ {xs ds : List (Key × D)} {us : List (Key × V)} {T' : Sto}, (∀ a, T' a = none → cutA A T a = none) → VdK (onlyA A S) xs ds → RepK K H T' us xs → RepK K H (cutA A T) us ds
  | _, _, _, _, _, .nil, r => by cases r; exact .nil
  | _, _, _, _, hT, .cons h t, r => by
    cases r with
    | cons r1 r2 => exact .cons (Vd.rdA cl hA hT h r1) (VdK.rdA cl hA hT t r2)
theorem VdF.rdA (cl : Cells K H S T) (hA : ∀ a, A a → T a ≠ some .hid) : ∀ {xs ds : List (Str × D)} {us : List (Str × V)} {T' : Sto}, (∀ a, T' a = none → cutA A T a = none) → VdF (onlyA A S) xs ds → RepF K H T' us xs → RepF K H (cutA A T) us ds
  | _, _, _, _, _, .nil, r => by cases r; exact .nil
  | _, _, _, _, hT, .cons h t, r => by
    cases r with
    | cons r1 r2 => exact .cons (Vd.rdA cl hA hT h r1) (VdF.rdA cl hA hT t r2)
end
end
section
variable {c : Ctx} {ρ ρ' : Rho} {S : Sto} {F : D → Sto → Prop} {P : Po}
/-- what stands in the cells of A is by value from here on; they are known no more -/
theorem vx_see (A : Addr → Prop) {t : TS} (hA : ∀ a, A a → ∃ d, S a = some d ∧ d ≠ .hid) (w : VdR (onlyA A S) ρ ρ') (h : VX c t ρ' (cutA A S) P) : VX c t ρ S P := fun T σ H I D b => by
  have nh : ∀ a, A a → T a ≠ some .hid := fun a z => let ⟨_, e, n⟩ := hA a z; I.cells.nohid e n
  have m := mv_cut (H := H) nh
  have cl := I.cells.cut nh
  refine h _ σ H ⟨cl, fun i d' e => ?_, by rw [w.len]; exact I.len, (I.mv m cl).exc⟩ D (b.mv m)
  obtain ⟨d, h1, hv⟩ := w.at_ i d' e
  obtain ⟨v, h2, h3⟩ := I.slots i d h1
  exact ⟨v, h2, hv.rdA I.cells nh (fun a e => cutA_none e) h3⟩
theorem ext_cut {S0 : Sto} {A : Addr → Prop} (x : Ext S0 S) (h : ∀ a, A a → S0 a = none) : Ext S0 (cutA A S) := fun a d e => by
  rw [cutA_out (fun z => by rw [h a z] at e; cases e)]
  exact x a d e
end
end VS
namespace VS
open PySem L2 C8 PySem.Spec PyProof.Rows
/-! ### d != {}, d == {} -/
def rEqD0 : R2 := fun x y H Q => ∃ a b ka, x = V.ref a ∧ y = V.ref b ∧ Rd H a (.dK ka) ∧ Rd H b (.dK []) ∧ Q (.bl ka.isEmpty) H
theorem op_eqD0 {X : Cx} (hu : X.A.units < cLine) : OpR X (compareOp .Eq) rEqD0 := by
  intro pins s σ H x y v u Q I rx ry h
  obtain ⟨a, b, ka, rfl, rfl, ea, eb, q⟩ := h
  obtain rfl : v = Value.ref a := rx
  obtain rfl : u = Value.ref b := ry
  obtain ⟨_, ya, va, ra, da⟩ := (show ObjOk X.prog X.w H s.heap a (.dK ka) from ea.ok I.hok)
  obtain ⟨_, yb, vb, rb, db⟩ := (show ObjOk X.prog X.w H s.heap b (.dK []) from eb.ok I.hok)
  have hb : vb = [] := List.length_eq_zero_iff.mp rb.length.symm
  have hl : va.length = ka.length := ra.length.symm
  subst hb
  refine PySem.W.keq_eq (knd := mixKind X.prog X.w) (r := true) ya yb da db hu (fun e => ?_) (fin_bl I q ?_)
  · rw [List.length_eq_zero_iff.mp (show va.length = 0 from e)]
    exact .nil
  · cases ka with
    | nil => rw [hl]; rfl
    | cons p r => rw [hl]; rfl
section
variable {c : Ctx} {S : Sto} {F : D → Sto → Prop}
theorem rd_val {T : Sto} {H : Hp} {u : V} {x : D} {ds : List (Key × D)} (cl : Cells c.K H S T) (h : IsDk S x ds) (r : Rep c.K H T u x) : ∃ a kvs, u = .ref a ∧ Rd H a (.dK kvs) ∧ kvs.isEmpty = ds.isEmpty := by
  obtain ⟨a, vs, rfl, ha, rk⟩ := h.rd cl r
  refine ⟨a, vs, rfl, ha, ?_⟩
  cases rk <;> rfl
theorem rv_eqD0 {x y : D} {ds : List (Key × D)} (hx : IsDk S x ds) (hy : IsDk S y []) (q : F (.bl ds.isEmpty) S) : RV c rEqD0 x y S F := fun T u w H cl rx ry Q k => by
  obtain ⟨a, ka, rfl, ha, e⟩ := rd_val cl hx rx
  obtain ⟨b, kb, rfl, hb, e'⟩ := rd_val cl hy ry
  have e2 : kb = [] := by cases kb with | nil => rfl | cons _ _ => cases e'
  subst e2
  exact ⟨a, b, ka, rfl, rfl, ha, hb, k _ _ S T H Mv.refl cl (.bl _) (by rw [e]; exact q)⟩
end
end VS
namespace VS
open PySem L2 C8 PySem.Spec PyProof.Rows
/-! ### k not in d, len(d) -/
section
variable {c : Ctx} {ρ : Rho} {S : Sto} {F : D → Sto → Prop}
def rLenDk : List V → Hp → VK → Prop := fun xs H Q => ∃ a kvs, xs = [V.ref a] ∧ Rd H a (.dK kvs) ∧ Q (.int kvs.length) H
theorem c_lenDk {X : Cx} : CallR X (.builtin "len") rLenDk := by
  intro pins s σ H xs us Q I r h
  obtain ⟨a, kvs, rfl, ha, q⟩ := h
  obtain ⟨u, rfl, ru⟩ := vals1 r
  cases ru
  exact d_len I ha fun t s' I' => ⟨.int kvs.length, H, I', ⟨t, rfl⟩, q⟩
theorem rc_lenDk {x : D} {ds : List (Key × D)} (h : IsDk S x ds) (q : F (.int ds.length) S) : RC c rLenDk [x] S F := fun T us H cl r Q k => by
  cases r with
  | cons h1 t =>
    cases t
    obtain ⟨a, vs, rfl, ha, rk⟩ := h.rd cl h1
    refine ⟨a, vs, rfl, ha, ?_⟩
    rw [rk.length]
    exact k _ _ S T H Mv.refl cl (.int _) q
end
end VS
namespace VS
open PySem L2 C8 PySem.Spec PyProof.Rows
/-! ### how long a shown dict is -/
structure ShK (xs : List (Key × D)) (n k : Nat) : Prop where
  p : isPK xs = true
  s : PyData.showableKv (pdK xs) = true
  l : piled (PyData.shownKv (pdK xs)) ≤ n
  d : PyData.depthKv (pdK xs) ≤ k
theorem ShK.nil : ShK [] 0 0 := ⟨rfl, rfl, Nat.le_refl _, Nat.le_refl _⟩
theorem ShK.cons {z : Str} {d : D} {ds : List (Key × D)} {n a b i j : Nat} (hz : Asc n z) (h : Sh d a i) (t : ShK ds b j) : ShK ((.inr z, d) :: ds) (10 * n + a + 6 + b) (max i j) := ⟨by
  show (isP d && isPK ds) = true
  rw [h.p, t.p]; rfl, by
  show (true && (pd d).showable && PyData.showableKv (pdK ds)) = true
  rw [h.s, t.s]; rfl, by
  show ((reprText z ++ ": " ++ (pd d).shown).length + 2) + piled (PyData.shownKv (pdK ds)) ≤ _
  have := h.l
  have := t.l
  have e := lit1
  have q : (reprText z).length ≤ 10 * n + 2 := (Sh.str hz).l
  rw [len_add, len_add]
  omega, by
  show max (max 0 (pd d).depth) (PyData.depthKv (pdK ds)) ≤ _
  have := h.d
  have := t.d
  omega⟩
/-- a walk over a list, K named (within comprehensions) -/
theorem pi_listK {X : Cx} {K : PySem.W.Frag} {tg l : Expr} {tl : TE} (hl : PE X l tl) (h : X.K = K := by rfl) : PI X tg l (iList K tl) := h ▸ pi_list hl
end VS
namespace VS
open PySem L2 C8 PySem.Spec PyProof.Rows
/-! ### defs that call themselves; a local name that holds one of some defs -/
end VS
namespace VS
open PySem L2 C8 PySem.Spec PyProof.Rows
/-! ### xs.remove(x), flat items -/
end VS
namespace VS
open PySem L2 C8 PySem.Spec PyProof.Rows
/-! ### a dict's keys as a list known by reference; lists of lists seen by value -/
/-- lists known by reference, one by one -/
structure Rws (S : Sto) (as : List Addr) (yss : List (List D)) : Prop where
  l : as.length = yss.length
  at_ : ∀ (j : Nat) (a : Addr) (ys : List D), as[j]? = some a → yss[j]? = some ys → S a = some (.lst ys)
theorem Rws.nil {S : Sto} : Rws S [] [] := ⟨rfl, nofun⟩
theorem Rws.ge {S : Sto} {as : List Addr} {yss : List (List D)} (h : Rws S as yss) {j : Nat} (hj : j < yss.length) : ∃ a ys, as[j]? = some a ∧ yss[j]? = some ys ∧ S a = some (.lst ys) := by
  have e1 : as[j]? = some (as[j]'(by rw [h.l]; exact hj)) := List.getElem?_eq_getElem _
  have e2 : yss[j]? = some (yss[j]'hj) := List.getElem?_eq_getElem _
  exact ⟨_, _, e1, e2, h.at_ j _ _ e1 e2⟩
theorem Rws.mem {S : Sto} {as : List Addr} {yss : List (List D)} (h : Rws S as yss) {a : Addr} (ha : a ∈ as) : ∃ ys ∈ yss, S a = some (.lst ys) := by
  obtain ⟨j, hj⟩ := List.getElem?_of_mem ha
  obtain ⟨b, ys, e1, e2, e3⟩ := h.ge (j := j) (by rw [← h.l]; exact (List.getElem?_eq_some_iff.mp hj).1)
  rw [hj] at e1
  cases e1
  exact ⟨ys, List.mem_of_getElem? e2, e3⟩
theorem Rws.ext {S S' : Sto} {as : List Addr} {yss : List (List D)} (h : Rws S as yss) (x : Ext S S') : Rws S' as yss := ⟨h.l, fun j a ys e1 e2 => x _ _ (h.at_ j a ys e1 e2)⟩
theorem Rws.free {S : Sto} {as : List Addr} {yss : List (List D)} (h : Rws S as yss) {a : Addr} (ha : S a = none) : a ∉ as := fun z => by
  obtain ⟨ys, _, e⟩ := h.mem z
  rw [e] at ha
  cases ha
theorem Rws.new {S : Sto} {as : List Addr} {yss : List (List D)} (h : Rws S as yss) {a : Addr} {ys : List D} (ha : S a = none) : Rws (put S a (.lst ys)) (as ++ [a]) (yss ++ [ys]) := by
  refine ⟨by rw [List.length_append, List.length_append, h.l]; rfl, fun j b zs e1 e2 => ?_⟩
  by_cases hj : j < as.length
  · rw [List.getElem?_append_left hj] at e1
    rw [List.getElem?_append_left (by rw [← h.l]; exact hj)] at e2
    rw [put_ne (fun z => h.free ha (by rw [← z]; exact List.mem_of_getElem? e1))]
    exact h.at_ j b zs e1 e2
  · rw [List.getElem?_append_right (by omega)] at e1
    rw [List.getElem?_append_right (by rw [← h.l]; omega)] at e2
    obtain ⟨d, hd⟩ : ∃ d, d = j - as.length := ⟨_, rfl⟩
    rw [← hd] at e1
    rw [← h.l, ← hd] at e2
    cases d with
    | zero => cases e1; cases e2; exact put_same
    | succ d => cases e1
theorem Rws.wr {S : Sto} {as : List Addr} {yss : List (List D)} (h : Rws S as yss) (nd : as.Nodup) {i : Nat} {a : Addr} {ys : List D} (e : as[i]? = some a) : Rws (put S a (.lst ys)) as (yss.set i ys) := by
  have hi := (List.getElem?_eq_some_iff.mp e).1
  refine ⟨by rw [List.length_set]; exact h.l, fun j b zs e1 e2 => ?_⟩
  by_cases z : j = i
  · subst z
    rw [List.getElem?_set_self (by rw [← h.l]; exact hi)] at e2
    rw [e] at e1
    cases e1; cases e2
    exact put_same
  · rw [List.getElem?_set_ne (Ne.symm z)] at e2
    rw [put_ne (fun w => z ((List.getElem?_inj (List.getElem?_eq_some_iff.mp e1).1 nd).mp (by rw [e1, w, e])))]
    exact h.at_ j b zs e1 e2
end VS
namespace VS
open PySem L2 C8 PySem.Spec PyProof.Rows
/-! ### range(i, j, -1); list(range(n)) -/
def rngC (lo c : Int) (n : Nat) : List D := (List.range n).map fun i => D.int (lo + (i : Nat) * c)
theorem rngC_len {lo c : Int} {n : Nat} : (rngC lo c n).length = n := by unfold rngC; rw [List.length_map, List.length_range]
theorem rngC_get {lo c : Int} {n i : Nat} {d : D} (h : (rngC lo c n)[i]? = some d) : i < n ∧ d = .int (lo + (i : Nat) * c) := by
  unfold rngC at h
  rw [List.getElem?_map] at h
  cases e : (List.range n)[i]? with
  | none => rw [e] at h; cases h
  | some k =>
    rw [e] at h
    cases h
    obtain ⟨h1, h2⟩ := List.getElem?_eq_some_iff.mp e
    rw [List.length_range] at h1
    rw [List.getElem_range] at h2
    subst h2
    exact ⟨h1, rfl⟩
theorem yl_rngC {K : PySem.W.Frag} {T : Sto} {H : Hp} {lo c : Int} {n : Nat} : Yl K (Itc lo c n) (rngC lo c n) T H := by
  refine ⟨fun _ => True, YFn fun i => .int (lo + (i : Nat) * c), by rw [rngC_len]; exact walk_rangeC, fun _ _ _ => trivial, fun i d S1 T1 H1 H2 x e m cl y => ?_⟩
  obtain ⟨e1, e2⟩ := y
  subst e1 e2
  obtain ⟨_, e3⟩ := rngC_get e
  subst e3
  exact ⟨Mv.refl, cl, .int _⟩
section
variable {c : Ctx} {ρ : Rho} {S : Sto}
theorem vi_rngDn {ta : TA} {W : List D → Sto → Prop} (h : VA c ta ρ S fun es S1 => ∃ i j : Int, es = [.int i, .int j, .int (-1)] ∧ (-(2 ^ 62) ≤ i ∧ i < 2 ^ 62 ∧ -(2 ^ 62) ≤ j ∧ j < 2 ^ 62) ∧ W (rngC i (-1) (i - j).toNat) S1) : VI c (iRng3 ta) ρ S W := fun T σ H I R k =>
  h T σ H I _ fun vs es S1 T1 H1 m1 c1 r1 ⟨i, j, e, ⟨b1, b2, b3, b4⟩, q⟩ => by
    subst e
    cases r1 with
    | cons h1 t => cases t with
      | cons h2 t => cases t with
        | cons h3 t => cases t; cases h1; cases h2; cases h3; exact ⟨i, j, -1, _, rfl, RgC.neg b1 b2 b3 b4, k _ _ S1 T1 H1 m1 c1 yl_rngC q⟩
/-- list(range(n)) -/
theorem repL_rg {K : PySem.W.Frag} {H : Hp} {T : Sto} (a : Int) : ∀ n : Nat, RepL K H T ((List.range n).map fun i => V.int (a + (i : Nat))) ((List.range n).map fun i => D.int (a + (i : Nat)))
  | n => by
    generalize List.range n = l
    induction l with
    | nil => exact .nil
    | cons i l ih => exact .cons (.int _) ih
theorem ve_listRgc {F : D → Sto → Prop} {te : TE} (h : VE c te ρ S fun x S1 => ∃ n : Int, x = .int n ∧ 0 ≤ n ∧ n ≤ 100000 ∧ ∀ p, S1 p = none → F (.ref p) (put S1 p (.lst (rngD 0 n.toNat)))) : VE c (tLstRg (tRg1 te)) ρ S F := fun T σ H I Q k =>
  h T σ H I _ fun v x S1 T1 H1 m1 c1 r1 ⟨n, e, n0, n1, f⟩ => by
    subst e
    cases r1
    refine ⟨n, rfl, RgOk.of_le (Int.le_refl _) (by omega) (by omega) n0, fun q hq => k _ _ _ _ _ (m1.trans (mv_newc hq)) (c1.newc hq (cell_l upd_same ?_)) (.ref q) (f q (c1.freeS hq))⟩
    unfold rgV
    rw [show (n - 0).toNat = n.toNat by omega]
    exact repL_rg 0 n.toNat
end
end VS
namespace VS
open PySem L2 C8 PySem.Spec PyProof.Rows
/-- a method of a builtin type, K named (within comprehensions) -/
theorem kMt {X : Cx} {K : PySem.W.Frag} {m : String} {r : PySem.W.Frag → MR1} (c : MtR X m (r X.K)) (h : X.K = K := by rfl) : MtR X m (r K) := h ▸ c
end VS
namespace VS
open PySem L2 PySem.Spec PyProof.Rows PySem.VSX
/-! ### an own exception of two fields: its class, its making, raise -/
/-- what __init__ keeps: self.f = v; self.g = u -/
def spXi2 (C : Addr) (f g : Str) : Sp := fun vs H Q _ => ∃ (a : Addr) (v u : V), vs = [.ref a, v, u] ∧ H a = some (exo a C none) ∧ ∀ dx, H dx = none → dx ≠ a → Q .non (upd (upd H dx (exd dx [(g, u), (f, v)])) a (exo a C (some dx)))
def tRz2 (C : Addr) (f g : Str) (te tu : TE) (W : L2.St → XK) : TS := fun _ σ H => tMkO C (spXi2 C f g) [] (tCons te (tCons tu tNil)) σ H fun cls d H' => W σ cls d H'
section
variable {c : Ctx} {ρ : Rho} {S : Sto} {P : Po}
theorem xd_heap2 {H1 : Hp} {a C dx : Addr} {fs : List (Str × V)} (ha : H1 a = none) : upd (L2.del (upd (upd (upd H1 a (exo a C none)) dx (exd dx fs)) a (exo a C (some dx))) a) dx (.xd fs) = upd H1 dx (.xd fs) := by
  funext b
  by_cases z : b = dx
  · subst z; rw [upd_same, upd_same]
  · rw [upd_ne z, upd_ne z]
    by_cases y : b = a
    · subst y; rw [L2.del_same, ha]
    · rw [L2.del_ne y, upd_ne y, upd_ne z, upd_ne y]
theorem vx_raise2 {C : Addr} {f g : Str} {te tu : TE} (h : VE c te ρ S fun x S1 => VE c tu ρ S1 fun y S2 => c.Y C [(g, y), (f, x)] ρ S2) : VX c (tRz2 C f g te tu c.E) ρ S P := fun T σ H I D b =>
  h T σ H I _ fun v x S1 T1 H1 m1 c1 r1 h2 => h2 T1 σ H1 (I.mv m1 c1) _ fun u y S2 T2 H2 m2 c2 r2 q => by
    refine ⟨(by decide : 2 ≤ 1000), fun a na => ⟨a, v, u, rfl, upd_same, fun dx hdx ne => ⟨rfl, dx, [(g, u), (f, v)], upd_same, ?_, ?_, ?_⟩⟩⟩
    · rw [upd_ne ne, upd_same]
    · rw [upd_ne ne] at hdx; exact hdx
    · have hd : H2 dx = none := by rw [upd_ne ne] at hdx; exact hdx
      rw [xd_heap2 na]
      have mm := m1.trans m2
      have m3 := mm.trans (mv_new (o := .xd [(g, u), (f, v)]) hd)
      have cl := c2.new (o := .xd [(g, u), (f, v)]) hd
      exact I.exc σ ρ C (some dx) [(g, y), (f, x)] S2 T2 _ m3 cl (I.mv m3 cl).sl ⟨dx, [(g, u), (f, v)], rfl, c2.free hd, upd_same, .cons (r2.mv (mv_new hd)) (.cons ((r1.mv m2).mv (mv_new hd)) .nil)⟩ q
end
end VS
open PySem L2 C8 PySem.Spec PyProof.Rows VS
local macro_rules | `(tactic| walk_at "g1") => `(tactic| with_reducible first
  | refine vx_seq ?_ | refine vx_next ?_ | refine vx_asg ?_ | refine vx_drop ?_ | refine vx_ret ?_ | refine vx_retN ?_ | refine vx_if ?_ | refine vx_break ?_ | refine vx_cont ?_ | refine vx_fld ?_
  | refine ve_int ?_ | refine ve_bl ?_ | refine ve_str ?_ | refine ve_non ?_ | refine ve_ty ?_ | refine ve_op ?_ | refine ve_un ?_ | refine ve_cb ?_ | refine ve_tup ?_
  | refine ve_if ?_ | refine ve_andV ?_ | refine ve_orV ?_ | refine ve_notV ?_ | refine ve_chain ?_ | refine ve_m1 ?_ | refine ve_m0 ?_ | refine ve_bm ?_ | refine ve_bm0 ?_ | refine ve_sl ?_ | refine ve_fld ?_
  | refine va_nil ?_ | refine va_cons ?_ | refine vo_none ?_ | refine vo_some ?_
  | refine vt_test ?_ | refine vt_B ?_ | refine vt_and ?_ | refine vt_or ?_ | refine vt_not ?_ | refine vt_yes ?_
  | refine vg_name ?_ | refine vg_subL ?_ | refine ex_ref ?_ | refine vgw_name (by simp) ?_ | refine vgs_nil ?_ | refine vgs_cons ?_ | refine vgws_nil ?_ | refine vgws_cons ?_
  | refine rv_II ?_ | refine rv_IB ?_ | refine rv_isNo ?_ | refine rv_notNo ?_ | refine rv_inS ?_ | refine rv_notInS ?_ | refine rv_ltS ?_ | refine rv_leS ?_
  | refine rc_max2 ?_ | refine rc_min2 ?_ | refine rc_int ?_ | refine rc_intB ?_ | refine rc_ord ?_ | refine rc_abs ?_ | refine ru_I ?_
  | refine ex_bl ?_ | refine ex_str ?_ | refine ex_int ?_)
local macro_rules | `(tactic| walk_at "g2") => `(tactic| first
  | ((with_reducible apply ve_var); · rfl)
  | ((with_reducible refine brT ?_ ?_); · rfl)
  | ((with_reducible refine brF ?_ ?_); · rfl)
  | ((with_reducible apply rv_eq); · rfl)
  | ((with_reducible apply rv_ne); · rfl)
  | ((with_reducible refine rc_lenS ?_ ?_); (· first | assumption | (have q := szl; omega)))
  | ((with_reducible refine rv_IC ?_ ?_); · (first | decide | (show (0 : Int) < _; omega) | (refine cpow ?_ ?_ ?_ <;> first | decide | omega) | (refine cmulW ?_ ?_ <;> first | omega | decide) | (refine cdivW ?_ ?_ <;> first | omega | decide)))
  | ((with_reducible apply rv_ixL); (· first | exact .c (by assumption) | exact .c put_same | exact .v | exact .r); (· rfl))
  | ((with_reducible apply rc_strI64); (· omega))
  | ((with_reducible refine rs_str ?_ ?_); (· first | assumption | (have q := szl; omega)))
  | ((with_reducible refine rv_addS ?_ ?_); (· first | assumption | (have q := szl; omega)))
  | ((with_reducible apply rc_isi); (· first | assumption | constructor | exact .cl (by assumption)); (· first | assumption | rfl))
  | (with_reducible refine ve_f (XOk.none (E := noE)) ?_)
  | (with_reducible refine vg_tup rfl ?_) | (with_reducible refine vgw_tup rfl ?_))
local macro_rules | `(tactic| walk_at "go") => `(tactic| repeat (first | walk_at "g1" | walk_at "g2"))
local macro_rules | `(tactic| walk_at "g7") => `(tactic| first
  | ((with_reducible refine ve_lst ?_); refine va_cons ?_)
  | with_reducible refine ve_lst ?_)
local macro_rules | `(tactic| walk_at "g3") => `(tactic| first
  | with_reducible refine ve_disp ?_
  | with_reducible refine ve_dnew ?_
  | with_reducible refine vps_cons ?_
  | with_reducible refine vps_nil ?_
  | with_reducible refine ex_keyS ?_
  | with_reducible refine ex_keyI ?_
  | ((with_reducible refine rc_listS ?_ ?_); (· first | assumption | (have q := szl; omega)))
  | ((with_reducible refine ⟨?_, ?_, ?_⟩); (· (show _ ≤ 15; simp; done)); (· (show List.Nodup _; simp; done)))
  | ((with_reducible refine ⟨?_, ?_⟩); (· (show _ ≤ sizeLine; have q := szl; simp only [List.length_append, List.length_map, List.length_cons, List.length_nil]; omega))))
local macro_rules | `(tactic| walk_at "g5") => `(tactic| first
  | ((with_reducible apply rv_cat); (· first | exact .v | exact .c put_same | exact .c (by assumption)); (· first | exact .v | exact .c put_same | exact .c (by assumption)); (· (have q := szl; simp only [List.length_append, List.length_map, List.length_cons, List.length_nil]; omega))))
local macro_rules | `(tactic| walk_at "gv") => `(tactic| repeat (first | walk_at "g1" | walk_at "g2" | walk_at "g3" | walk_at "g7" | walk_at "g5"))
local macro_rules | `(tactic| walk_at "ii") => `(tactic| first | exact .v | exact .c put_same | exact .c (by assumption))
local macro_rules | `(tactic| walk_at "g4") => `(tactic| first
  | ((with_reducible apply ex_ins); (· walk_at "ii"); (· rfl))
  | ((with_reducible apply ex_fldI); (· walk_at "ii"); (· assumption); (· assumption); (· rfl))
  | ((with_reducible apply ex_cell); (· first | exact put_same | assumption))
  | ((with_reducible apply ex_self); (· first | exact put_same | assumption); (· assumption); (· assumption); (· decide))
  | with_reducible refine ve_cls ?_
  | with_reducible refine vx_par ?_
  | with_reducible refine ex_two ?_
  | with_reducible refine ve_mt0 (XOk.none (E := noE)) ?_
  | ((with_reducible apply rv_ixT); (· first | rfl | exact atI_zero))
  | with_reducible refine ve_mk0 (XOk.none (E := noE)) ?_
  | with_reducible refine ve_mk0 (XOk.same fun _ _ _ h => h) ?_
  | with_reducible refine ve_f (XOk.same fun _ _ _ h => h) ?_
  | with_reducible refine ve_mt0 (XOk.same fun _ _ _ h => h) ?_
  | with_reducible refine vx_raise ?_
  | with_reducible refine vx_raise2 ?_
  | with_reducible refine ve_xf ?_
  | ((with_reducible apply ex_xf); (· rfl))
  | with_reducible refine vx_tryD fun E' => ?_
  | with_reducible refine rv_eqET ?_
  | with_reducible refine rv_neET ?_
  | ((with_reducible apply rv_eqEL); (· first | exact .v | exact .r | exact .c put_same | exact .c (by assumption)))
  | ((with_reducible apply rv_neEL); (· first | exact .v | exact .r | exact .c put_same | exact .c (by assumption)))
  | with_reducible refine rs_tupG ?_
  | ((with_reducible refine rv_catA ?_ ?_); (· (have q := szl; simp only [List.length_append, List.length_map, List.length_cons, List.length_nil]; omega)))
  | ((with_reducible apply rc_tupleL); (· first | exact .v | exact .r | exact .c put_same | exact .c (by assumption)))
  | ((with_reducible apply rc_lenQ); (· first | exact .t | exact .l .v | exact .l .r | exact .l (.c put_same) | exact .l (.c (by assumption)))))
local macro_rules | `(tactic| walk_at "g8") => `(tactic| first
  | ((with_reducible apply rs_list); (· first | exact .v | exact .r | exact .c put_same | exact .c (by assumption)))
  | ((with_reducible apply rc_list); (· first | exact .t | exact .l .v | exact .l .r | exact .l (.c put_same) | exact .l (.c (by assumption)))))
local macro_rules | `(tactic| walk_at "gr") => `(tactic| repeat (first | walk_at "g1" | walk_at "gp" | walk_at "g2" | walk_at "g4" | walk_at "g3"))
local macro_rules | `(tactic| walk_at "ga") => `(tactic| repeat (first | walk_at "g1" | walk_at "gp" | walk_at "g2" | walk_at "g4" | walk_at "g8" | walk_at "g3" | walk_at "g7" | walk_at "g5"))
local macro_rules | `(tactic| walk_at "gn") => `(tactic| repeat (first | walk_at "g1" | walk_at "gp" | walk_at "g2" | walk_at "g4" | walk_at "g8" | walk_at "g3" | walk_at "g7"))
local macro_rules | `(tactic| walk_at "gl") => `(tactic| repeat (first | walk_at "g1" | walk_at "gp" | walk_at "g2" | walk_at "g4" | walk_at "g8" | walk_at "g3" | walk_at "g5"))
local macro_rules | `(tactic| walk_at "gp") => `(tactic| ((with_reducible apply ve_kd); · assumption))
namespace LW
open PySem L2 C8 PySem.Spec PyProof.Rows VS
def top (i : Nat) : Stmt := PySem.Challenge.pw_boxinbox_k26_lying_in_the_outer_one.main.body.getD i (.Pass ⟨0, 0, 0, 0⟩)
def inClass (st : Stmt) (j : Nat) : Stmt := match st with
  | .ClassDef (body := b) .. => b.getD j (.Pass ⟨0, 0, 0, 0⟩)
  | _ => .Pass ⟨0, 0, 0, 0⟩
abbrev s_is_whole : Stmt := top 20
abbrev n_is_whole : List Str := ["thing", "low", "high"]
abbrev a_is_whole : List Str := ["thing", "low", "high"]
theorem sc_is_whole : FnScope n_is_whole a_is_whole (defScope s_is_whole) := ⟨rfl, rfl, rfl, by decide +kernel, rfl, by decide +kernel, by decide +kernel⟩
abbrev s_is_name : Stmt := top 21
abbrev n_is_name : List Str := ["thing", "sign"]
abbrev a_is_name : List Str := ["thing"]
theorem sc_is_name : FnScope n_is_name a_is_name (defScope s_is_name) := ⟨rfl, rfl, rfl, by decide +kernel, rfl, by decide +kernel, by decide +kernel⟩
abbrev s_is_order : Stmt := top 22
abbrev n_is_order : List Str := ["thing", "number"]
abbrev a_is_order : List Str := ["thing"]
theorem sc_is_order : FnScope n_is_order a_is_order (defScope s_is_order) := ⟨rfl, rfl, rfl, by decide +kernel, rfl, by decide +kernel, by decide +kernel⟩
abbrev s_Sides___init__ : Stmt := inClass (top 25) 0
abbrev n_Sides___init__ : List Str := ["self", "one", "other", "third", "side"]
abbrev a_Sides___init__ : List Str := ["self", "one", "other", "third"]
theorem sc_Sides___init__ : FnScope n_Sides___init__ a_Sides___init__ (defScope s_Sides___init__) := ⟨rfl, rfl, rfl, by decide +kernel, rfl, by decide +kernel, by decide +kernel⟩
abbrev s_Sides_told : Stmt := inClass (top 25) 1
abbrev n_Sides_told : List Str := ["self"]
abbrev a_Sides_told : List Str := ["self"]
theorem sc_Sides_told : FnScope n_Sides_told a_Sides_told (defScope s_Sides_told) := ⟨rfl, rfl, rfl, by decide +kernel, rfl, by decide +kernel, by decide +kernel⟩
abbrev s_Sides_ranked : Stmt := inClass (top 25) 2
abbrev n_Sides_ranked : List Str := ["self"]
abbrev a_Sides_ranked : List Str := ["self"]
theorem sc_Sides_ranked : FnScope n_Sides_ranked a_Sides_ranked (defScope s_Sides_ranked) := ⟨rfl, rfl, rfl, by decide +kernel, rfl, by decide +kernel, by decide +kernel⟩
abbrev s_Sides___repr__ : Stmt := inClass (top 25) 6
abbrev n_Sides___repr__ : List Str := ["self", "one", "other", "third"]
abbrev a_Sides___repr__ : List Str := ["self"]
theorem sc_Sides___repr__ : FnScope n_Sides___repr__ a_Sides___repr__ (defScope s_Sides___repr__) := ⟨rfl, rfl, rfl, by decide +kernel, rfl, by decide +kernel, by decide +kernel⟩
abbrev s_need_spare : Stmt := top 28
abbrev n_need_spare : List Str := ["spare"]
abbrev a_need_spare : List Str := ["spare"]
theorem sc_need_spare : FnScope n_need_spare a_need_spare (defScope s_need_spare) := ⟨rfl, rfl, rfl, by decide +kernel, rfl, by decide +kernel, by decide +kernel⟩
abbrev s_Sides_turned : Stmt := inClass (top 25) 7
abbrev n_Sides_turned : List Str := ["self", "order", "one", "other", "third", "number"]
abbrev a_Sides_turned : List Str := ["self", "order"]
theorem sc_Sides_turned : FnScope n_Sides_turned a_Sides_turned (defScope s_Sides_turned) := ⟨rfl, rfl, rfl, by decide +kernel, rfl, by decide +kernel, by decide +kernel⟩
abbrev s_need_both : Stmt := top 29
abbrev n_need_both : List Str := ["one", "room", "spare", "thing"]
abbrev a_need_both : List Str := ["one", "room", "spare"]
theorem sc_need_both : FnScope n_need_both a_need_both (defScope s_need_both) := ⟨rfl, rfl, rfl, by decide +kernel, rfl, by decide +kernel, by decide +kernel⟩
abbrev s_goes_by : Stmt := top 30
abbrev n_goes_by : List Str := ["one", "room", "order", "spare", "side", "most"]
abbrev a_goes_by : List Str := ["one", "room", "order", "spare"]
theorem sc_goes_by : FnScope n_goes_by a_goes_by (defScope s_goes_by) := ⟨rfl, rfl, rfl, by decide +kernel, rfl, by decide +kernel, by decide +kernel⟩
abbrev s_goes_in : Stmt := top 31
abbrev n_goes_in : List Str := ["one", "room", "spare", "order", "rank", "side"]
abbrev a_goes_in : List Str := ["one", "room", "spare"]
theorem sc_goes_in : FnScope n_goes_in a_goes_in (defScope s_goes_in) := ⟨rfl, rfl, rfl, by decide +kernel, rfl, by decide +kernel, by decide +kernel⟩
abbrev s_are_labels : Stmt := top 42
abbrev n_are_labels : List Str := ["thing", "word"]
abbrev a_are_labels : List Str := ["thing"]
theorem sc_are_labels : FnScope n_are_labels a_are_labels (defScope s_are_labels) := ⟨rfl, rfl, rfl, by decide +kernel, rfl, by decide +kernel, by decide +kernel⟩
abbrev s_room_in : Stmt := top 43
abbrev n_room_in : List Str := ["sides", "wall", "one", "other", "third", "side"]
abbrev a_room_in : List Str := ["sides", "wall"]
theorem sc_room_in : FnScope n_room_in a_room_in (defScope s_room_in) := ⟨rfl, rfl, rfl, by decide +kernel, rfl, by decide +kernel, by decide +kernel⟩
abbrev s_Parcel___init__ : Stmt := inClass (top 44) 0
abbrev n_Parcel___init__ : List Str := ["self", "name", "sides", "wall", "weight", "bears", "labels", "number", "word"]
abbrev a_Parcel___init__ : List Str := ["self", "name", "sides", "wall", "weight", "bears", "labels"]
theorem sc_Parcel___init__ : FnScope n_Parcel___init__ a_Parcel___init__ (defScope s_Parcel___init__) := ⟨rfl, rfl, rfl, by decide +kernel, rfl, by decide +kernel, by decide +kernel⟩
abbrev s_Parcel_name : Stmt := inClass (top 44) 1
abbrev n_Parcel_name : List Str := ["self"]
abbrev a_Parcel_name : List Str := ["self"]
theorem sc_Parcel_name : FnScope n_Parcel_name a_Parcel_name (defScope s_Parcel_name) := ⟨rfl, rfl, rfl, by decide +kernel, rfl, by decide +kernel, by decide +kernel⟩
abbrev s_Parcel_room : Stmt := inClass (top 44) 7
abbrev n_Parcel_room : List Str := ["self"]
abbrev a_Parcel_room : List Str := ["self"]
theorem sc_Parcel_room : FnScope n_Parcel_room a_Parcel_room (defScope s_Parcel_room) := ⟨rfl, rfl, rfl, by decide +kernel, rfl, by decide +kernel, by decide +kernel⟩
abbrev s_Parcel_goes_in : Stmt := inClass (top 44) 13
abbrev n_Parcel_goes_in : List Str := ["self", "other", "spare", "parcel"]
abbrev a_Parcel_goes_in : List Str := ["self", "other", "spare"]
theorem sc_Parcel_goes_in : FnScope n_Parcel_goes_in a_Parcel_goes_in (defScope s_Parcel_goes_in) := ⟨rfl, rfl, rfl, by decide +kernel, rfl, by decide +kernel, by decide +kernel⟩
abbrev s_Heap___init__ : Stmt := inClass (top 47) 0
abbrev n_Heap___init__ : List Str := ["self"]
abbrev a_Heap___init__ : List Str := ["self"]
theorem sc_Heap___init__ : FnScope n_Heap___init__ a_Heap___init__ (defScope s_Heap___init__) := ⟨rfl, rfl, rfl, by decide +kernel, rfl, by decide +kernel, by decide +kernel⟩
abbrev s_Heap_names : Stmt := inClass (top 47) 5
abbrev n_Heap_names : List Str := ["self", "parcel"]
abbrev a_Heap_names : List Str := ["self"]
theorem sc_Heap_names : FnScope n_Heap_names a_Heap_names (defScope s_Heap_names) := ⟨rfl, rfl, rfl, by decide +kernel, rfl, by decide +kernel, by decide +kernel⟩
abbrev s_Heap_place_of : Stmt := inClass (top 47) 1
abbrev n_Heap_place_of : List Str := ["self", "name", "place", "parcel"]
abbrev a_Heap_place_of : List Str := ["self", "name"]
theorem sc_Heap_place_of : FnScope n_Heap_place_of a_Heap_place_of (defScope s_Heap_place_of) := ⟨rfl, rfl, rfl, by decide +kernel, rfl, by decide +kernel, by decide +kernel⟩
abbrev s_Heap_put : Stmt := inClass (top 47) 2
abbrev n_Heap_put : List Str := ["self", "parcel", "ahead", "place"]
abbrev a_Heap_put : List Str := ["self", "parcel", "ahead"]
theorem sc_Heap_put : FnScope n_Heap_put a_Heap_put (defScope s_Heap_put) := ⟨rfl, rfl, rfl, by decide +kernel, rfl, by decide +kernel, by decide +kernel⟩
abbrev s_Heap_out : Stmt := inClass (top 47) 3
abbrev n_Heap_out : List Str := ["self", "name"]
abbrev a_Heap_out : List Str := ["self", "name"]
theorem sc_Heap_out : FnScope n_Heap_out a_Heap_out (defScope s_Heap_out) := ⟨rfl, rfl, rfl, by decide +kernel, rfl, by decide +kernel, by decide +kernel⟩
abbrev s_Heap_parcel : Stmt := inClass (top 47) 4
abbrev n_Heap_parcel : List Str := ["self", "name"]
abbrev a_Heap_parcel : List Str := ["self", "name"]
theorem sc_Heap_parcel : FnScope n_Heap_parcel a_Heap_parcel (defScope s_Heap_parcel) := ⟨rfl, rfl, rfl, by decide +kernel, rfl, by decide +kernel, by decide +kernel⟩
abbrev s_goes : Stmt := top 34
abbrev n_goes : List Str := ["one", "other", "spare"]
abbrev a_goes : List Str := ["one", "other", "spare"]
theorem sc_goes : FnScope n_goes a_goes (defScope s_goes) := ⟨rfl, rfl, rfl, by decide +kernel, rfl, by decide +kernel, by decide +kernel⟩
abbrev s_are_names : Stmt := top 35
abbrev n_are_names : List Str := ["heap", "thing", "least", "held", "name"]
abbrev a_are_names : List Str := ["heap", "thing", "least"]
theorem sc_are_names : FnScope n_are_names a_are_names (defScope s_are_names) := ⟨rfl, rfl, rfl, by decide +kernel, rfl, by decide +kernel, by decide +kernel⟩
abbrev s_first_apart : Stmt := top 36
abbrev n_first_apart : List Str := ["heap", "names", "spare", "place"]
abbrev a_first_apart : List Str := ["heap", "names", "spare"]
theorem sc_first_apart : FnScope n_first_apart a_first_apart (defScope s_first_apart) := ⟨rfl, rfl, rfl, by decide +kernel, rfl, by decide +kernel, by decide +kernel⟩
abbrev s_Nest___init__ : Stmt := inClass (top 37) 0
abbrev n_Nest___init__ : List Str := ["self", "heap", "names", "spare", "place", "name", "one", "other"]
abbrev a_Nest___init__ : List Str := ["self", "heap", "names", "spare"]
theorem sc_Nest___init__ : FnScope n_Nest___init__ a_Nest___init__ (defScope s_Nest___init__) := ⟨rfl, rfl, rfl, by decide +kernel, rfl, by decide +kernel, by decide +kernel⟩
abbrev s_Nest_names : Stmt := inClass (top 37) 1
abbrev n_Nest_names : List Str := ["self", "parcel"]
abbrev a_Nest_names : List Str := ["self"]
theorem sc_Nest_names : FnScope n_Nest_names a_Nest_names (defScope s_Nest_names) := ⟨rfl, rfl, rfl, by decide +kernel, rfl, by decide +kernel, by decide +kernel⟩
abbrev s_Nest_turns : Stmt := inClass (top 37) 4
abbrev n_Nest_turns : List Str := ["self"]
abbrev a_Nest_turns : List Str := ["self"]
theorem sc_Nest_turns : FnScope n_Nest_turns a_Nest_turns (defScope s_Nest_turns) := ⟨rfl, rfl, rfl, by decide +kernel, rfl, by decide +kernel, by decide +kernel⟩
abbrev s_Nest_lies : Stmt := inClass (top 37) 8
abbrev n_Nest_lies : List Str := ["self", "name", "names", "order", "turn", "number"]
abbrev a_Nest_lies : List Str := ["self", "name"]
theorem sc_Nest_lies : FnScope n_Nest_lies a_Nest_lies (defScope s_Nest_lies) := ⟨rfl, rfl, rfl, by decide +kernel, rfl, by decide +kernel, by decide +kernel⟩
abbrev s__law_cell : Stmt := top 49
abbrev n__law_cell : List Str := ["_law_script", "_law_k"]
abbrev a__law_cell : List Str := ["_law_script", "_law_k"]
theorem sc__law_cell : FnScope n__law_cell a__law_cell (defScope s__law_cell) := ⟨rfl, rfl, rfl, by decide +kernel, rfl, by decide +kernel, by decide +kernel⟩
abbrev s__law_purse : Stmt := top 50
abbrev n__law_purse : List Str := ["_law_cell_here"]
abbrev a__law_purse : List Str := ["_law_cell_here"]
theorem sc__law_purse : FnScope n__law_purse a__law_purse (defScope s__law_purse) := ⟨rfl, rfl, rfl, by decide +kernel, rfl, by decide +kernel, by decide +kernel⟩
abbrev s__law_take : Stmt := top 51
abbrev n__law_take : List Str := ["_law_purse_here", "_law_below", "_law_digit", "_law_left", "_law_right_here"]
abbrev a__law_take : List Str := ["_law_purse_here", "_law_below"]
theorem sc__law_take : FnScope n__law_take a__law_take (defScope s__law_take) := ⟨rfl, rfl, rfl, by decide +kernel, rfl, by decide +kernel, by decide +kernel⟩
abbrev s__law_names : Stmt := top 52
abbrev n__law_names : List Str := ["_law_purse_here", "_law_size", "_law_letters", "_law_way", "_law_first", "_law_step", "_law_words", "_law_stem", "_law_at", "_law_head", "_law_tail", "_law_found", "_law_k", "_law_same", "_law_name"]
abbrev a__law_names : List Str := ["_law_purse_here", "_law_size"]
theorem sc__law_names : FnScope n__law_names a__law_names (defScope s__law_names) := ⟨rfl, rfl, rfl, by decide +kernel, rfl, by decide +kernel, by decide +kernel⟩
abbrev s__law_sides : Stmt := top 53
abbrev n__law_sides : List Str := ["_law_purse_here", "_law_base", "_law_more", "_law_deep", "_law_way", "_law_great", "_law_menu", "_law_first", "_law_second", "_law_found", "_law_at", "_law_side", "_law_k"]
abbrev a__law_sides : List Str := ["_law_purse_here", "_law_base", "_law_more", "_law_deep"]
theorem sc__law_sides : FnScope n__law_sides a__law_sides (defScope s__law_sides) := ⟨rfl, rfl, rfl, by decide +kernel, rfl, by decide +kernel, by decide +kernel⟩
abbrev s__law_row : Stmt := top 54
abbrev n__law_row : List Str := ["_law_purse_here", "_law_name", "_law_made_here", "_law_spare_here", "_law_deep", "_law_shut", "_law_base", "_law_sides_here", "_law_weight", "_law_bears", "_law_labels", "_law_word"]
abbrev a__law_row : List Str := ["_law_purse_here", "_law_name", "_law_made_here", "_law_spare_here", "_law_deep"]
theorem sc__law_row : FnScope n__law_row a__law_row (defScope s__law_row) := ⟨rfl, rfl, rfl, by decide +kernel, rfl, by decide +kernel, by decide +kernel⟩
abbrev s__law_rows : Stmt := top 55
abbrev n__law_rows : List Str := ["_law_purse_here", "_law_spare_here", "_law_size", "_law_deep", "_law_made_here", "_law_found", "_law_name", "_law_row_here"]
abbrev a__law_rows : List Str := ["_law_purse_here", "_law_spare_here"]
theorem sc__law_rows : FnScope n__law_rows a__law_rows (defScope s__law_rows) := ⟨rfl, rfl, rfl, by decide +kernel, rfl, by decide +kernel, by decide +kernel⟩
abbrev s__law_spare : Stmt := top 56
abbrev n__law_spare : List Str := ["_law_purse_here"]
abbrev a__law_spare : List Str := ["_law_purse_here"]
theorem sc__law_spare : FnScope n__law_spare a__law_spare (defScope s__law_spare) := ⟨rfl, rfl, rfl, by decide +kernel, rfl, by decide +kernel, by decide +kernel⟩
abbrev s__law_made : Stmt := top 57
abbrev n__law_made : List Str := ["_law_row_here", "_law_sides_here"]
abbrev a__law_made : List Str := ["_law_row_here"]
theorem sc__law_made : FnScope n__law_made a__law_made (defScope s__law_made) := ⟨rfl, rfl, rfl, by decide +kernel, rfl, by decide +kernel, by decide +kernel⟩
abbrev s__law_heap : Stmt := top 58
abbrev n__law_heap : List Str := ["_law_rows_here", "_law_heap_here", "_law_row_here"]
abbrev a__law_heap : List Str := ["_law_rows_here"]
theorem sc__law_heap : FnScope n__law_heap a__law_heap (defScope s__law_heap) := ⟨rfl, rfl, rfl, by decide +kernel, rfl, by decide +kernel, by decide +kernel⟩
abbrev s__law_orders : Stmt := top 59
abbrev n__law_orders : List Str := []
abbrev a__law_orders : List Str := []
theorem sc__law_orders : FnScope n__law_orders a__law_orders (defScope s__law_orders) := ⟨rfl, rfl, rfl, by decide +kernel, rfl, by decide +kernel, by decide +kernel⟩
abbrev s__law_turns : Stmt := top 60
abbrev n__law_turns : List Str := ["_law_one", "_law_other", "_law_spare_here", "_law_room", "_law_orders_here", "_law_side", "_law_order", "_law_k"]
abbrev a__law_turns : List Str := ["_law_one", "_law_other", "_law_spare_here"]
theorem sc__law_turns : FnScope n__law_turns a__law_turns (defScope s__law_turns) := ⟨rfl, rfl, rfl, by decide +kernel, rfl, by decide +kernel, by decide +kernel⟩
abbrev s__law_outwards : Stmt := top 61
abbrev n__law_outwards : List Str := ["_law_rows_here", "_law_spare_here", "_law_found", "_law_one", "_law_other"]
abbrev a__law_outwards : List Str := ["_law_rows_here", "_law_spare_here"]
theorem sc__law_outwards : FnScope n__law_outwards a__law_outwards (defScope s__law_outwards) := ⟨rfl, rfl, rfl, by decide +kernel, rfl, by decide +kernel, by decide +kernel⟩
abbrev s__law_chain : Stmt := top 62
abbrev n__law_chain : List Str := ["_law_purse_here", "_law_outwards_here", "_law_found", "_law_step", "_law_more", "_law_name", "_law_one"]
abbrev a__law_chain : List Str := ["_law_purse_here", "_law_outwards_here"]
theorem sc__law_chain : FnScope n__law_chain a__law_chain (defScope s__law_chain) := ⟨rfl, rfl, rfl, by decide +kernel, rfl, by decide +kernel, by decide +kernel⟩
abbrev s__law_dues : Stmt := top 63
abbrev n__law_dues : List Str := ["_law_chain_here", "_law_spare_here", "_law_found", "_law_k", "_law_turn", "_law_number"]
abbrev a__law_dues : List Str := ["_law_chain_here", "_law_spare_here"]
theorem sc__law_dues : FnScope n__law_dues a__law_dues (defScope s__law_dues) := ⟨rfl, rfl, rfl, by decide +kernel, rfl, by decide +kernel, by decide +kernel⟩
abbrev s__law_side_by_side : Stmt := top 64
abbrev n__law_side_by_side : List Str := ["_law_chain_here", "_law_orders_here", "_law_spare_here", "_law_k", "_law_more", "_law_at", "_law_side", "_law_room"]
abbrev a__law_side_by_side : List Str := ["_law_chain_here", "_law_orders_here", "_law_spare_here"]
theorem sc__law_side_by_side : FnScope n__law_side_by_side a__law_side_by_side (defScope s__law_side_by_side) := ⟨rfl, rfl, rfl, by decide +kernel, rfl, by decide +kernel, by decide +kernel⟩
abbrev s__law_drawn_order : Stmt := top 65
abbrev n__law_drawn_order : List Str := ["_law_purse_here", "_law_size", "_law_left", "_law_found"]
abbrev a__law_drawn_order : List Str := ["_law_purse_here", "_law_size"]
theorem sc__law_drawn_order : FnScope n__law_drawn_order a__law_drawn_order (defScope s__law_drawn_order) := ⟨rfl, rfl, rfl, by decide +kernel, rfl, by decide +kernel, by decide +kernel⟩
abbrev s__law_refused : Stmt := top 66
abbrev n__law_refused : List Str := ["_law_nest", "_law_thing", "e", "_law_kept"]
abbrev a__law_refused : List Str := ["_law_nest", "_law_thing"]
theorem sc__law_refused : FnScope n__law_refused a__law_refused (defScope s__law_refused) := ⟨rfl, rfl, rfl, by decide +kernel, rfl, by decide +kernel, by decide +kernel⟩
abbrev s__law_right : Stmt := top 67
abbrev n__law_right : List Str := ["_law_purse_here", "_law_nest", "_law_chain_here", "_law_spare_here", "_law_dues_here", "_law_found", "_law_k", "_law_turns_here", "_law_row_here"]
abbrev a__law_right : List Str := ["_law_purse_here", "_law_nest", "_law_chain_here", "_law_spare_here"]
theorem sc__law_right : FnScope n__law_right a__law_right (defScope s__law_right) := ⟨rfl, rfl, rfl, by decide +kernel, rfl, by decide +kernel, by decide +kernel⟩
abbrev s__law_strange : Stmt := top 68
abbrev n__law_strange : List Str := ["_law_purse_here", "_law_rows_here", "_law_chain_here", "_law_called", "_law_other", "_law_name", "_law_odd", "_law_row_here"]
abbrev a__law_strange : List Str := ["_law_purse_here", "_law_rows_here", "_law_chain_here"]
theorem sc__law_strange : FnScope n__law_strange a__law_strange (defScope s__law_strange) := ⟨rfl, rfl, rfl, by decide +kernel, rfl, by decide +kernel, by decide +kernel⟩
abbrev s_law : Stmt := top 69
abbrev n_law : List Str := ["_law_script", "_law_k", "_law_purse_here", "_law_spare_here", "_law_rows_here", "_law_heap_here", "_law_outwards_here", "_law_known", "_law_chains", "_law_some", "_law_less", "_law_drawn", "_law_nests", "_law_at", "_law_chain_here", "_law_gap", "_law_row_here", "_law_name"]
abbrev a_law : List Str := ["_law_script"]
theorem sc_law : FnScope n_law a_law (defScope s_law) := ⟨rfl, rfl, rfl, by decide +kernel, rfl, by decide +kernel, by decide +kernel⟩
abbrev s_NoNumber___init__ : Stmt := inClass (top 5) 0
abbrev n_NoNumber___init__ : List Str := ["self", "found"]
abbrev a_NoNumber___init__ : List Str := ["self", "found"]
theorem sc_NoNumber___init__ : FnScope n_NoNumber___init__ a_NoNumber___init__ (defScope s_NoNumber___init__) := ⟨rfl, rfl, rfl, by decide +kernel, rfl, by decide +kernel, by decide +kernel⟩
abbrev s_NoSide___init__ : Stmt := inClass (top 7) 0
abbrev n_NoSide___init__ : List Str := ["self", "found"]
abbrev a_NoSide___init__ : List Str := ["self", "found"]
theorem sc_NoSide___init__ : FnScope n_NoSide___init__ a_NoSide___init__ (defScope s_NoSide___init__) := ⟨rfl, rfl, rfl, by decide +kernel, rfl, by decide +kernel, by decide +kernel⟩
abbrev s_NoSides___init__ : Stmt := inClass (top 8) 0
abbrev n_NoSides___init__ : List Str := ["self", "found"]
abbrev a_NoSides___init__ : List Str := ["self", "found"]
theorem sc_NoSides___init__ : FnScope n_NoSides___init__ a_NoSides___init__ (defScope s_NoSides___init__) := ⟨rfl, rfl, rfl, by decide +kernel, rfl, by decide +kernel, by decide +kernel⟩
abbrev s_NoOrder___init__ : Stmt := inClass (top 9) 0
abbrev n_NoOrder___init__ : List Str := ["self", "found"]
abbrev a_NoOrder___init__ : List Str := ["self", "found"]
theorem sc_NoOrder___init__ : FnScope n_NoOrder___init__ a_NoOrder___init__ (defScope s_NoOrder___init__) := ⟨rfl, rfl, rfl, by decide +kernel, rfl, by decide +kernel, by decide +kernel⟩
abbrev s_NoParcel___init__ : Stmt := inClass (top 11) 0
abbrev n_NoParcel___init__ : List Str := ["self", "found"]
abbrev a_NoParcel___init__ : List Str := ["self", "found"]
theorem sc_NoParcel___init__ : FnScope n_NoParcel___init__ a_NoParcel___init__ (defScope s_NoParcel___init__) := ⟨rfl, rfl, rfl, by decide +kernel, rfl, by decide +kernel, by decide +kernel⟩
abbrev s_NotInHeap___init__ : Stmt := inClass (top 16) 0
abbrev n_NotInHeap___init__ : List Str := ["self", "found"]
abbrev a_NotInHeap___init__ : List Str := ["self", "found"]
theorem sc_NotInHeap___init__ : FnScope n_NotInHeap___init__ a_NotInHeap___init__ (defScope s_NotInHeap___init__) := ⟨rfl, rfl, rfl, by decide +kernel, rfl, by decide +kernel, by decide +kernel⟩
def perms : List (List Int) := [[0, 1, 2], [0, 2, 1], [1, 0, 2], [1, 2, 0], [2, 0, 1], [2, 1, 0]]
structure Tx (K : PySem.W.Frag) (mg : Str → Option Value) : Prop where
  b_all : mg "all" = none
  b_bool : mg "bool" = none
  b_enumerate : mg "enumerate" = none
  b_int : mg "int" = none
  b_isinstance : mg "isinstance" = none
  b_len : mg "len" = none
  b_list : mg "list" = none
  b_max : mg "max" = none
  b_min : mg "min" = none
  b_range : mg "range" = none
  b_repr : mg "repr" = none
  b_reversed : mg "reversed" = none
  b_set : mg "set" = none
  b_sorted : mg "sorted" = none
  b_str : mg "str" = none
  b_tuple : mg "tuple" = none
  b_zip : mg "zip" = none
  c_LETTERS : ∃ u, mg "LETTERS" = some u ∧ RelV (.str "abcdefghijklmnopqrstuvwxyz") u
  c_MOST_PARCELS : ∃ u, mg "MOST_PARCELS" = some u ∧ RelV (.int 12) u
  c_MOST_SIDE : ∃ u, mg "MOST_SIDE" = some u ∧ RelV (.int 100000) u
  c_MOST_SPARE : ∃ u, mg "MOST_SPARE" = some u ∧ RelV (.int 1000) u
  c_MOST_WALL : ∃ u, mg "MOST_WALL" = some u ∧ RelV (.int 1000) u
  c_MOST_WEIGHT : ∃ u, mg "MOST_WEIGHT" = some u ∧ RelV (.int 100000) u
  c_ORDERS : ∃ a : Addr, (∃ u, mg "ORDERS" = some u ∧ RelV (.ref a) u) ∧ ∀ H S, Rep K H S (.ref a) (.tup (perms.map fun p => .tup (p.map .int)))
  c_LABELS : ∃ a : Addr, (∃ u, mg "LABELS" = some u ∧ RelV (.ref a) u) ∧ ∀ H S, Rep K H S (.ref a) (.tup [.str "alone", .str "top", .str "upright"])
  al_goes_in_fits : mg "goes_in_fits" = mg "goes_in"
  e_NotInHeap_NotInHeap : ∀ A B : Addr, mg "NotInHeap" = some (.ref A) → mg "NotInHeap" = some (.ref B) → PySem.W.exmOne K (.ref A) (.ref B) = some true
structure Kl_Sides (K : PySem.W.Frag) (mg : Str → Option Value) (C : Addr) : Prop where
  at_ : mg "Sides" = some (.ref C)
  ins : C8.InsC K C
  a_three : NoAttr K C "three"
  t_int : PySem.W.kitOne K (.type "int") (.ref C) = some false
  t_bool : PySem.W.kitOne K (.type "bool") (.ref C) = some false
  t_str : PySem.W.kitOne K (.type "str") (.ref C) = some false
  t_NoneType : PySem.W.kitOne K (.type "NoneType") (.ref C) = some false
  t_list : PySem.W.kitOne K (.type "list") (.ref C) = some false
  t_tuple : PySem.W.kitOne K (.type "tuple") (.ref C) = some false
  t_dict : PySem.W.kitOne K (.type "dict") (.ref C) = some false
  u_str : PySem.W.kitOne K (.ref C) (.type "str") = some false
  u_list : PySem.W.kitOne K (.ref C) (.type "list") = some false
theorem Kl_Sides.no {K : PySem.W.Frag} {mg : Str → Option Value} {C : Addr} (k : Kl_Sides K mg C) {d : D} (h : isP d = true) : PySem.W.kitOne K (.type (tyN d)) (.ref C) = some false :=
  tyN_all (P := fun n => PySem.W.kitOne K (.type n) (.ref C) = some false) k.t_NoneType k.t_bool k.t_int k.t_str k.t_list k.t_tuple k.t_dict h
structure Kl_Parcel (K : PySem.W.Frag) (mg : Str → Option Value) (C : Addr) : Prop where
  at_ : mg "Parcel" = some (.ref C)
  ins : C8.InsC K C
  a_called : NoAttr K C "called"
  a_outside : NoAttr K C "outside"
  a_thick : NoAttr K C "thick"
  a_heavy : NoAttr K C "heavy"
  a_strong : NoAttr K C "strong"
  a_marks : NoAttr K C "marks"
  a_told : NoAttr K C "told"
  a_names : NoAttr K C "names"
  t_int : PySem.W.kitOne K (.type "int") (.ref C) = some false
  t_bool : PySem.W.kitOne K (.type "bool") (.ref C) = some false
  t_str : PySem.W.kitOne K (.type "str") (.ref C) = some false
  t_NoneType : PySem.W.kitOne K (.type "NoneType") (.ref C) = some false
  t_list : PySem.W.kitOne K (.type "list") (.ref C) = some false
  t_tuple : PySem.W.kitOne K (.type "tuple") (.ref C) = some false
  t_dict : PySem.W.kitOne K (.type "dict") (.ref C) = some false
theorem Kl_Parcel.no {K : PySem.W.Frag} {mg : Str → Option Value} {C : Addr} (k : Kl_Parcel K mg C) {d : D} (h : isP d = true) : PySem.W.kitOne K (.type (tyN d)) (.ref C) = some false :=
  tyN_all (P := fun n => PySem.W.kitOne K (.type n) (.ref C) = some false) k.t_NoneType k.t_bool k.t_int k.t_str k.t_list k.t_tuple k.t_dict h
structure Kl_Heap (K : PySem.W.Frag) (mg : Str → Option Value) (C : Addr) : Prop where
  at_ : mg "Heap" = some (.ref C)
  ins : C8.InsC K C
  a_held : NoAttr K C "held"
  a_told : NoAttr K C "told"
  a_kind : NoAttr K C "kind"
structure Kl_Nest (K : PySem.W.Frag) (mg : Str → Option Value) (C : Addr) : Prop where
  at_ : mg "Nest" = some (.ref C)
  ins : C8.InsC K C
  a_layers : NoAttr K C "layers"
  a_ways : NoAttr K C "ways"
  t_int : PySem.W.kitOne K (.type "int") (.ref C) = some false
  t_bool : PySem.W.kitOne K (.type "bool") (.ref C) = some false
  t_str : PySem.W.kitOne K (.type "str") (.ref C) = some false
  t_NoneType : PySem.W.kitOne K (.type "NoneType") (.ref C) = some false
  t_list : PySem.W.kitOne K (.type "list") (.ref C) = some false
  t_tuple : PySem.W.kitOne K (.type "tuple") (.ref C) = some false
  t_dict : PySem.W.kitOne K (.type "dict") (.ref C) = some false
theorem Kl_Nest.no {K : PySem.W.Frag} {mg : Str → Option Value} {C : Addr} (k : Kl_Nest K mg C) {d : D} (h : isP d = true) : PySem.W.kitOne K (.type (tyN d)) (.ref C) = some false :=
  tyN_all (P := fun n => PySem.W.kitOne K (.type n) (.ref C) = some false) k.t_NoneType k.t_bool k.t_int k.t_str k.t_list k.t_tuple k.t_dict h
end LW
namespace LW
open PySem L2 C8 PySem.Spec PyProof.Rows VS
/-- what a thing is, as far as whole numbers go -/
inductive Wh (K : PySem.W.Frag) (S : Sto) : D → Option Int → Prop
  | i (i : Int) : Wh K S (.int i) (some i)
  | b (b : Bool) : Wh K S (.bl b) none
  | o {d : D} {t : Value} (h : OfC K S d t) (k : PySem.W.kitOne K t (.type "int") = some false) (n : ∀ i, d ≠ .int i) : Wh K S d none
def whB (o : Option Int) (lo hi : Int) : Bool := match o with
  | some i => decide (lo ≤ i) && decide (i ≤ hi)
  | none => false
theorem whB_yes {o : Option Int} {lo hi : Int} (h : whB o lo hi = true) : ∃ i, o = some i ∧ lo ≤ i ∧ i ≤ hi := by
  cases o with
  | none => cases h
  | some i =>
    have h' : (decide (lo ≤ i) && decide (i ≤ hi)) = true := h
    rw [Bool.and_eq_true] at h'
    exact ⟨i, rfl, of_decide_eq_true h'.1, of_decide_eq_true h'.2⟩
theorem whB_of {i lo hi : Int} (h : lo ≤ i ∧ i ≤ hi) : whB (some i) lo hi = true := by
  show (decide (lo ≤ i) && decide (i ≤ hi)) = true
  rw [decide_eq_true h.1, decide_eq_true h.2]; rfl
theorem Wh.some {K : PySem.W.Frag} {S : Sto} {d : D} {i : Int} (h : Wh K S d (some i)) : d = .int i := by cases h; rfl
def p_is_whole (K : PySem.W.Frag) : Pt := fun ds S G _ => ∃ d o lo hi, ds = [d, .int lo, .int hi] ∧ Wh K S d o ∧ G (.bl (whB o lo hi)) S
section
variable {P : Program} {w : World} {K : PySem.W.Frag} {mg : Str → Option Value} {base : Heap}
theorem ok_is_whole {f : Addr} {fd : FuncData} {C_Sides C_Parcel C_Heap C_Nest C_NoNumber C_NoSide C_NoSides C_NoOrder C_NoParcel C_NotInHeap : Addr}
    (F : Fd K "is_whole" "is_whole" s_is_whole [] f fd) (T : Tx K mg) (hsys : SysOk base) :
    FnG P w K mg base (L2.CX P w) 1 f fd a_is_whole (spOf K (p_is_whole K)) := by
  refine VS.unbox ?_
  simp (disch := with_unfolding_all
    refine fn_val F sc_is_whole (fun ds S G Y h => ?_) (fun cdv A hgd outer s H E hr px tk po ds S G Y h => ?_)
    · obtain ⟨d, o, lo, hi, rfl, _⟩ := h
      rfl
    · obtain ⟨d, o, lo, hi, rfl, h, q⟩ := h
      refine ⟨_, (pss_one (ps_ret (pe_and (pe_callB c_isiZ (by rfl) T.b_isinstance (by decide +kernel) (pa_cons (pv 0) (pa_cons (pe_bltn (v := .ty "int") (by rfl) T.b_int (by decide +kernel) rfl) pa_nil))) (pe_and (pe_not (pe_callB c_isiZ (by rfl) T.b_isinstance (by decide +kernel) (pa_cons (pv 0) (pa_cons (pe_bltn (v := .ty "bool") (by rfl) T.b_bool (by decide +kernel) rfl) pa_nil)))) (pe_one (pe_chain op_le op_le (pv 1) (pv 0) (pv 2))))))), ?_⟩
      dsimp only [cxOf, List.map]
      show VX _ _ [_, _, _] _ _
      cases h with
      | i i =>
        walk_at "go"
        refine br (fun h1 => ?_) (fun h1 => ?_)
        · walk_at "go"
          have e : whB (some i) lo hi = decide (i ≤ hi) := by show (decide (lo ≤ i) && decide (i ≤ hi)) = _; rw [decide_eq_true h1]; rfl
          rw [← e]
          exact q
        · have e : whB (some i) lo hi = false := by show (decide (lo ≤ i) && decide (i ≤ hi)) = _; rw [decide_eq_false h1]; rfl
          rw [← e]
          exact q
      | b b =>
        walk_at "go"
        exact q
      | o ht hk hn =>
        walk_at "go"
        refine rc_isiP ht hk ?_
        walk_at "go"
        exact q) only [↓VS.box]
end
/-! ### orders -/
def ordB : List D → Bool
  | [.int a, .int b, .int c] => perms.contains [a, b, c]
  | _ => false
theorem ordB_len {xs : List D} (h : xs.length ≠ 3) : ordB xs = false := by
  unfold ordB
  split
  · exact absurd rfl h
  · rfl
theorem ordB_yes {xs : List D} (h : ordB xs = true) : ∃ p ∈ perms, xs = p.map D.int := by
  unfold ordB at h
  split at h
  · rename_i a b c
    exact ⟨[a, b, c], List.contains_iff_mem.mp h, rfl⟩
  · cases h
theorem ordB_of {p : List Int} (h : p ∈ perms) : ordB (p.map D.int) = true := by
  simp only [perms, List.mem_cons, List.not_mem_nil, or_false] at h
  rcases h with rfl | rfl | rfl | rfl | rfl | rfl <;> rfl
/-- what a thing is, as far as orders go -/
inductive Od (K : PySem.W.Frag) (S : Sto) : D → Bool → Prop
  | t {xs : List D} (hl : xs.length ≤ 1000) (h : ∀ x ∈ xs, ∃ o, Wh K S x o) : Od K S (.tup xs) (ordB xs)
  | o {d : D} {t : Value} (h : OfC K S d t) (k : PySem.W.kitOne K t (.type "tuple") = some false) : Od K S d false
theorem Od.perm {K : PySem.W.Frag} {S : Sto} {p : List Int} (h : p ∈ perms) : Od K S (.tup (p.map D.int)) true := by
  rw [← ordB_of h]
  refine .t ?_ fun x hx => ?_
  · simp only [perms, List.mem_cons, List.not_mem_nil, or_false] at h
    rcases h with rfl | rfl | rfl | rfl | rfl | rfl <;> decide
  · obtain ⟨i, _, rfl⟩ := List.mem_map.mp hx
    exact ⟨_, .i i⟩
theorem Od.yes {K : PySem.W.Frag} {S : Sto} {d : D} {b : Bool} (h : Od K S d b) (e : b = true) : ∃ p ∈ perms, d = .tup (p.map D.int) := by
  cases h with
  | t hl h =>
    obtain ⟨p, hp, rfl⟩ := ordB_yes e
    exact ⟨p, hp, rfl⟩
  | o => cases e
def p_is_order (K : PySem.W.Frag) : Pt := fun ds S G _ => ∃ d b, ds = [d] ∧ Od K S d b ∧ G (.bl b) S
section
variable {P : Program} {w : World} {K : PySem.W.Frag} {mg : Str → Option Value} {base : Heap}
theorem ok_is_order {f : Addr} {fd : FuncData} {C_Sides C_Parcel C_Heap C_Nest C_NoNumber C_NoSide C_NoSides C_NoOrder C_NoParcel C_NotInHeap : Addr} {f_is_whole : Addr} {g_is_whole : FuncData}
    (F : Fd K "is_order" "is_order" s_is_order [] f fd) (T : Tx K mg) (hsys : SysOk base)
    (c_is_whole : Cf P w K mg base (L2.CX P w) 1 "is_whole" s_is_whole [] a_is_whole (p_is_whole K) f_is_whole g_is_whole) :
    FnG P w K mg base (L2.CX P w) 2 f fd a_is_order (spOf K (p_is_order K)) := by
  refine VS.unbox ?_
  simp (disch := with_unfolding_all
    refine fn_val F sc_is_order (fun ds S G Y h => ?_) (fun cdv A hgd outer s H E hr px tk po ds S G Y h => ?_)
    · obtain ⟨d, b, rfl, _⟩ := h
      rfl
    · obtain ⟨d, b, rfl, h, k⟩ := h
      obtain ⟨aO, hO, rO⟩ := T.c_ORDERS
      refine ⟨_, (pss_cons (ps_if (PW.pt (pw_or (pt_not (pt_val (pe_callB c_isiZ (by rfl) T.b_isinstance (by decide +kernel) (pa_cons (pv 0) (pa_cons (pe_bltn (v := .ty "tuple") (by rfl) T.b_tuple (by decide +kernel) rfl) pa_nil))))) (pw_or1 (pt_cmpR op_ne (pe_callB c_len (by rfl) T.b_len (by decide +kernel) (pa_cons (pv 0) pa_nil)) pe_int (nomark _))))) (pss_one (ps_ret pe_bl))
        pss_nil)
        (pss_one (ps_ret (pe_and (pe_callB (cr_all rfl) (by rfl) T.b_all (by decide +kernel) (pa_cons (pe_lc (own := [("number", 1)]) rfl sc_is_order.nd (pi_tup (pv 0)) (blkOk_by (own := [("number", 1)]) (N := n_is_order) (sc := defScope s_is_order) (by decide +kernel)) (fun _ _ _ _ _ => (pg_name (i := 1) sc_is_order.nd rfl (Or.inl rfl))) (fun _ _ _ _ _ => pts_nil) (fun _ _ _ _ _ => (pe_cG c_is_whole.fn hgd (hr.mono (by decide)) (by rfl) c_is_whole.mg c_is_whole.kp c_is_whole.b .nil VS.pass0 (pa_cons (pv 1) (pa_cons pe_int (pa_cons pe_int pa_nil)))))) pa_nil)) (pe_one (pe_cmpR (op_inP hr hsys) (pv 0) (pe_gc (by rfl) hO) (by rfl))))))), ?_⟩
      dsimp only [cxOf, List.map]
      show VX _ _ [_, _] _ _
      cases h with
      | @o d t ht hk =>
        walk_at "go"
        refine rc_isiP ht hk ?_
        walk_at "go"
        exact k
      | @t xs hz hk =>
        walk_at "go"
        refine rc_lenQ .t ?_
        walk_at "go"
        refine brN (fun h1 => ?_) (fun h1 => ?_)
        · walk_at "go"
          rw [ordB_len (fun e => h1 (by rw [e]; rfl))] at k
          exact k
        have h1' : xs.length = 3 := by exact_mod_cast h1
        walk_at "go"
        refine ve_lc (vi_tup (ve_var rfl ⟨xs, rfl, ?_⟩))
        refine ⟨by omega, fun i acc S2 => S2 = S ∧ ∃ bs : List Bool, acc = bs.map .bl ∧ (bs.all id = true ↔ ∀ x ∈ xs.take i, ∃ j : Int, x = .int j ∧ 0 ≤ j ∧ j ≤ 2), ⟨rfl, [], rfl, by simp⟩, ?_, ?_⟩
        · rintro i d acc S2 hd ⟨rfl, bs, rfl, hb⟩ hl
          have htk : xs.take (i + 1) = xs.take i ++ [d] := by rw [List.take_succ, hd]; rfl
          obtain ⟨o, ho⟩ := hk d (List.mem_of_getElem? hd)
          walk_at "go"
          refine ⟨d, o, 0, 2, rfl, ho, rfl, bs ++ [whB o 0 2], by rw [List.map_append]; rfl, ?_⟩
          rw [htk, List.all_append, Bool.and_eq_true, hb]
          constructor
          · rintro ⟨g1, g2⟩ x hx
            rcases List.mem_append.mp hx with q | q
            · exact g1 x q
            · rw [List.mem_singleton.mp q]
              have g3 : whB o 0 2 = true := by simpa using g2
              obtain ⟨j, rfl, j0, j2⟩ := whB_yes g3
              exact ⟨j, ho.some, j0, j2⟩
          · intro g
            refine ⟨fun x hx => g x (List.mem_append_left _ hx), ?_⟩
            obtain ⟨j, e, j0, j2⟩ := g d (List.mem_append_right _ (List.mem_cons_self ..))
            subst e
            cases ho with
            | i j =>
              have := whB_of (i := j) ⟨j0, j2⟩
              simpa using this
            | o h k n => exact absurd rfl (n _)
        · rintro acc S2 ⟨rfl, bs, rfl, hb⟩ hl
          rw [List.take_length] at hb
          walk_at "go"
          refine rc_all .v ?_
          walk_at "go"
          refine br2 (fun h2 => ?_) (fun h2 => ?_)
          · have hall := hb.mp h2
            walk_at "go"
            refine ve_wr (rO · ·) ?_
            match xs, h1', hall with
            | [x, y, z], _, hall =>
              obtain ⟨a, rfl, a0, a2⟩ := hall x (by simp)
              obtain ⟨b, rfl, b0, b2⟩ := hall y (by simp)
              obtain ⟨c, rfl, c0, c2⟩ := hall z (by simp)
              refine rv_inP rfl rfl rfl rfl ?_
              have e : ordB [.int a, .int b, .int c] = ((pdL (perms.map fun p => .tup (p.map .int))).any fun z => PyData.eqv z (pd (.tup [.int a, .int b, .int c]))) := by
                have ha : a = 0 ∨ a = 1 ∨ a = 2 := by omega
                have hbq : b = 0 ∨ b = 1 ∨ b = 2 := by omega
                have hc : c = 0 ∨ c = 1 ∨ c = 2 := by omega
                rcases ha with rfl | rfl | rfl <;> rcases hbq with rfl | rfl | rfl <;> rcases hc with rfl | rfl | rfl <;> rfl
              rw [← e]
              exact k
          · walk_at "go"
            rw [show ordB xs = false from ?_] at k
            · exact k
            · have hn : ¬ ∀ x ∈ xs, ∃ j : Int, x = .int j ∧ 0 ≤ j ∧ j ≤ 2 := fun g => by
                rw [hb.mpr g] at h2
                cases h2
              refine Bool.eq_false_iff.mpr fun g => hn fun x hx => ?_
              obtain ⟨p, hp, rfl⟩ := ordB_yes g
              obtain ⟨i, hi, rfl⟩ := List.mem_map.mp hx
              refine ⟨i, rfl, ?_⟩
              simp only [perms, List.mem_cons, List.not_mem_nil, or_false] at hp
              rcases hp with rfl | rfl | rfl | rfl | rfl | rfl <;> simp only [List.mem_cons, List.not_mem_nil, or_false] at hi <;> rcases hi with rfl | rfl | rfl <;> omega) only [↓VS.box]
end
end LW
namespace LW
open PySem L2 C8 PySem.Spec PyProof.Rows VS
/-! ### Sides by value -/
def fD (t : D) : List (Str × D) := [("three", t)]
def sd (C : Addr) (a b c : Int) : D := .ins C (fD (.tup [.int a, .int b, .int c]))
def In1 (a : Int) : Prop := 1 ≤ a ∧ a ≤ 100000
/-- the first thing that is no side -/
def bad : List (D × Option Int) → Option D
  | [] => none
  | (d, o) :: r => if whB o 1 100000 = true then bad r else some d
def p_Sides_init (K : PySem.W.Frag) (CS CX : Addr) : Pt := fun ds S G Y => ∃ y d1 d2 d3 o1 o2 o3, ds = [.ref y, d1, d2, d3] ∧ S y = some (.ins CS []) ∧ Wh K S d1 o1 ∧ Wh K S d2 o2 ∧ Wh K S d3 o3 ∧
  (bad [(d1, o1), (d2, o2), (d3, o3)] = none → G .non (put S y (.ins CS (fD (.tup [d1, d2, d3]))))) ∧ ∀ d, bad [(d1, o1), (d2, o2), (d3, o3)] = some d → Y CX [("found", d)] S
theorem bad_of {a b c : Int} {d1 d2 d3 : D} (ha : In1 a) (hb : In1 b) (hc : In1 c) : bad [(d1, some a), (d2, some b), (d3, some c)] = none := by
  unfold bad
  rw [if_pos (whB_of ha)]
  unfold bad
  rw [if_pos (whB_of hb)]
  unfold bad
  rw [if_pos (whB_of hc)]
  rfl
/-- the call of the maker where all is good -/
theorem init_ok {K : PySem.W.Frag} {CS CX : Addr} {a b c : Int} (ha : In1 a) (hb : In1 b) (hc : In1 c) {y : Addr} {S : Sto} (hy : S y = none) {G : D → Sto → Prop} {Y : Addr → List (Str × D) → Sto → Prop} (q : G .non (put (put S y (.ins CS [])) y (sd CS a b c))) :
    p_Sides_init K CS CX [.ref y, .int a, .int b, .int c] (put S y (.ins CS [])) G Y :=
  ⟨y, _, _, _, _, _, _, rfl, put_same, .i a, .i b, .i c, fun _ => q, fun d h => by rw [bad_of ha hb hc] at h; cases h⟩
def p_told (CS : Addr) : Pt := fun ds S G _ => ∃ a b c, ds = [sd CS a b c] ∧ G (.tup [.int a, .int b, .int c]) S
def p_ranked (CS : Addr) : Pt := fun ds S G _ => ∃ a b c, ds = [sd CS a b c] ∧ G (.tup ((dn [a, b, c]).map D.int)) S
/-- the side of a number -/
def tn (a b c i : Int) : Int := if i = 0 then a else if i = 1 then b else c
def tnl (a b c : Int) (p : List Int) : List Int := p.map (tn a b c)
theorem perm_len {p : List Int} (h : p ∈ perms) : ∃ i j k, p = [i, j, k] ∧ (i = 0 ∨ i = 1 ∨ i = 2) ∧ (j = 0 ∨ j = 1 ∨ j = 2) ∧ (k = 0 ∨ k = 1 ∨ k = 2) := by
  simp only [perms, List.mem_cons, List.not_mem_nil, or_false] at h
  rcases h with rfl | rfl | rfl | rfl | rfl | rfl <;> exact ⟨_, _, _, rfl, by decide, by decide, by decide⟩
theorem tn_in {a b c i : Int} (ha : In1 a) (hb : In1 b) (hc : In1 c) : In1 (tn a b c i) := by
  unfold tn
  split
  · exact ha
  · split
    · exact hb
    · exact hc
/-- turned by an order -/
def sdl (C : Addr) : List Int → D
  | [a, b, c] => sd C a b c
  | _ => .non
def p_turned (K : PySem.W.Frag) (CS CX : Addr) : Pt := fun ds S G Y => ∃ a b c d k, ds = [sd CS a b c, d] ∧ In1 a ∧ In1 b ∧ In1 c ∧ Od K S d k ∧ (k = true → ∀ p ∈ perms, d = .tup (p.map D.int) → G (sdl CS (tnl a b c p)) S) ∧ (k = false → Y CX [("found", d)] S)
/-- .. a good order -/
theorem turned_ok {K : PySem.W.Frag} {CS CX : Addr} {a b c : Int} {p : List Int} (ha : In1 a) (hb : In1 b) (hc : In1 c) (hp : p ∈ perms) {S : Sto} {G : D → Sto → Prop} {Y : Addr → List (Str × D) → Sto → Prop} (q : G (sdl CS (tnl a b c p)) S) :
    p_turned K CS CX [sd CS a b c, .tup (p.map D.int)] S G Y := by
  refine ⟨a, b, c, _, _, rfl, ha, hb, hc, .perm hp, fun _ p' hp' e => ?_, fun z => by cases z⟩
  have e' : p = p' := by
    injection e with e
    exact List.map_inj_right (fun x y h => by injection h) |>.mp e
  rw [← e']
  exact q
section
variable {P : Program} {w : World} {K : PySem.W.Frag} {mg : Str → Option Value} {base : Heap}
theorem ok_Sides___init__ {f : Addr} {fd : FuncData} {C_Sides C_Parcel C_Heap C_Nest C_NoNumber C_NoSide C_NoSides C_NoOrder C_NoParcel C_NotInHeap : Addr} {f_is_whole : Addr} {g_is_whole : FuncData}
    (F : Fd K "__init__" "Sides.__init__" s_Sides___init__ [] f fd) (T : Tx K mg) (hsys : SysOk base)
    (c_is_whole : Cf P w K mg base (L2.CX P w) 1 "is_whole" s_is_whole [] a_is_whole (p_is_whole K) f_is_whole g_is_whole)
    (x_NoSide : Xc P w K mg base "NoSide" C_NoSide "found")
    (k_Sides : Kl_Sides K mg C_Sides) :
    FnG P w K mg base (L2.CX P w) 3 f fd a_Sides___init__ (spOf K (p_Sides_init K C_Sides C_NoSide)) := by
  refine VS.unbox ?_
  simp (disch := with_unfolding_all
    have kc_Sides := k_Sides.ins.cl
    have ka_Sides_three := k_Sides.a_three
    refine fn_val F sc_Sides___init__ (fun ds S G Y h => ?_) (fun cdv A hgd outer s H E hr px tk po ds S G Y h => ?_)
    · obtain ⟨y, d1, d2, d3, o1, o2, o3, rfl, _⟩ := h
      rfl
    · obtain ⟨y, d1, d2, d3, o1, o2, o3, rfl, hy, w1, w2, w3, q, qx⟩ := h
      refine ⟨_, (pss_cons (ps_for po rfl (pi_tup (pe_tup (pa_cons (pv 1) (pa_cons (pv 2) (pa_cons (pv 3) pa_nil))))) (pg_name (i := 4) sc_Sides___init__.nd rfl (Or.inl rfl))
        (pss_one (ps_if (pt_not (pt_val (pe_cG c_is_whole.fn hgd (hr.mono (by decide)) (by rfl) c_is_whole.mg c_is_whole.kp c_is_whole.b .nil VS.pass0 (pa_cons (pv 4) (pa_cons pe_int (pa_cons (pe_gc (by rfl) T.c_MOST_SIDE) pa_nil)))))) (pss_one (ps_rz tk x_NoSide (hr.mono (by decide)) (by rfl) (pv 4)))
        pss_nil)))
        (pss_one (ps_fld (pv 0) (pe_tup (pa_cons (pv 1) (pa_cons (pv 2) (pa_cons (pv 3) pa_nil)))) rfl))), ?_⟩
      dsimp only [cxOf, List.map]
      show VX _ _ [_, _, _, _, _] _ _
      walk_at "go"
      refine vx_for (vi_tup ?_)
      walk_at "go"
      refine ⟨by show 3 ≤ sizeLine; decide, ?_⟩
      have step : ∀ (d : D) (o : Option Int) (ρ4 : Option D) (W : Nat → Rho → Sto → Prop) (i : Nat), Wh K S d o → (whB o 1 100000 = true → ∀ x, W (i + 1) [some (.ref y), some d1, some d2, some d3, x] S) → (whB o 1 100000 = false → Y C_NoSide [("found", d)] S) → True := fun _ _ _ _ _ _ _ _ => trivial
      refine ⟨_, rfl, fun i ρ2 S2 => S2 = S ∧ ∃ x, ρ2 = [some (.ref y), some d1, some d2, some d3, x] ∧ bad (([(d1, o1), (d2, o2), (d3, o3)]).drop i) = bad [(d1, o1), (d2, o2), (d3, o3)], ⟨rfl, _, rfl, rfl⟩, ?_, ?_⟩
      · rintro i d ρ2 S2 hd ⟨rfl, x, rfl, hb⟩
        walk_at "go"
        have hk : ∃ o, Wh K S2 d o ∧ ([(d1, o1), (d2, o2), (d3, o3)] : List (D × Option Int)).drop i = (d, o) :: ([(d1, o1), (d2, o2), (d3, o3)]).drop (i + 1) := by
          have hi := (List.getElem?_eq_some_iff.mp hd).1
          match i, hi, hd with
          | 0, _, hd => cases hd; exact ⟨o1, w1, rfl⟩
          | 1, _, hd => cases hd; exact ⟨o2, w2, rfl⟩
          | 2, _, hd => cases hd; exact ⟨o3, w3, rfl⟩
        obtain ⟨o, wo, ed⟩ := hk
        rw [ed] at hb
        refine ⟨d, o, 1, 100000, rfl, wo, ?_⟩
        walk_at "go"
        refine brB (fun h1 => ?_) (fun h1 => ?_)
        · walk_at "go"
          refine vx_raise ?_
          walk_at "go"
          refine qx d ?_
          rw [← hb]
          unfold bad
          rw [if_neg (by rw [h1]; decide)]
        · walk_at "go"
          refine ⟨rfl, _, rfl, ?_⟩
          rw [← hb]
          conv => rhs; unfold bad
          rw [if_pos h1]
      · rintro ρ2 S2 ⟨rfl, x, rfl, hb⟩
        walk_at "go"
        refine ⟨by show 3 ≤ sizeLine; decide, ?_⟩
        walk_at "go"
        refine ⟨_, _, _, rfl, hy, k_Sides.ins.cl, k_Sides.a_three, by decide, ?_⟩
        walk_at "go"
        exact q hb.symm) only [↓VS.box]
theorem ok_Sides_told {f : Addr} {fd : FuncData} {C_Sides C_Parcel C_Heap C_Nest C_NoNumber C_NoSide C_NoSides C_NoOrder C_NoParcel C_NotInHeap : Addr}
    (F : Fd K "told" "Sides.told" s_Sides_told [] f fd) (T : Tx K mg) (hsys : SysOk base)
    (k_Sides : Kl_Sides K mg C_Sides) :
    FnG P w K mg base (L2.CX P w) 1 f fd a_Sides_told (spOf K (p_told C_Sides)) := by
  refine VS.unbox ?_
  simp (disch := with_unfolding_all
    have kc_Sides := k_Sides.ins.cl
    have ka_Sides_three := k_Sides.a_three
    refine fn_val F sc_Sides_told (fun ds S G Y h => ?_) (fun cdv A hgd outer s H E hr px tk po ds S G Y h => ?_)
    · obtain ⟨a, b, c, rfl, _⟩ := h
      rfl
    · obtain ⟨a, b, c, rfl, q⟩ := h
      refine ⟨_, (pss_one (ps_ret (pe_fld (pv 0) rfl))), ?_⟩
      dsimp only [cxOf, List.map]
      show VX _ _ [_] _ _
      walk_at "go"
      exact ⟨_, _, _, .v, k_Sides.ins.cl, k_Sides.a_three, rfl, q⟩) only [↓VS.box]
theorem ok_Sides_ranked {f : Addr} {fd : FuncData} {C_Sides C_Parcel C_Heap C_Nest C_NoNumber C_NoSide C_NoSides C_NoOrder C_NoParcel C_NotInHeap : Addr}
    (F : Fd K "ranked" "Sides.ranked" s_Sides_ranked [] f fd) (T : Tx K mg) (hsys : SysOk base)
    (k_Sides : Kl_Sides K mg C_Sides) :
    FnG P w K mg base (L2.CX P w) 1 f fd a_Sides_ranked (spOf K (p_ranked C_Sides)) := by
  refine VS.unbox ?_
  simp (disch := with_unfolding_all
    have kc_Sides := k_Sides.ins.cl
    have ka_Sides_three := k_Sides.a_three
    refine fn_val F sc_Sides_ranked (fun ds S G Y h => ?_) (fun cdv A hgd outer s H E hr px tk po ds S G Y h => ?_)
    · obtain ⟨a, b, c, rfl, _⟩ := h
      rfl
    · obtain ⟨a, b, c, rfl, q⟩ := h
      refine ⟨_, (pss_one (ps_ret (pe_callTy c_tuple (by rfl) T.b_tuple (by decide +kernel) (pa_cons (pe_callBK (c_sortedR (b := true)) (by rfl) T.b_sorted (by decide +kernel) (pa_cons (pe_fld (pv 0) rfl) pa_nil) (pk_cons pe_bl pk_nil)) pa_nil)))), ?_⟩
      dsimp only [cxOf, List.map]
      show VX _ _ [_] _ _
      walk_at "go"
      refine ve_ckw ?_
      walk_at "go"
      refine ⟨_, _, _, .v, k_Sides.ins.cl, k_Sides.a_three, rfl, ?_⟩
      walk_at "go"
      refine rck_sortedR (ns := [a, b, c]) .t ?_
      walk_at "go"
      exact rc_tupleL .v q) only [↓VS.box]
theorem ok_Sides_turned {f : Addr} {fd : FuncData} {C_Sides C_Parcel C_Heap C_Nest C_NoNumber C_NoSide C_NoSides C_NoOrder C_NoParcel C_NotInHeap : Addr} {f_is_order f_Sides : Addr} {g_is_order g_Sides : FuncData}
    (F : Fd K "turned" "Sides.turned" s_Sides_turned [] f fd) (T : Tx K mg) (hsys : SysOk base)
    (c_is_order : Cf P w K mg base (L2.CX P w) 2 "is_order" s_is_order [] a_is_order (p_is_order K) f_is_order g_is_order)
    (c_Sides : Kf P w K mg base 3 "Sides" C_Sides "Sides.__init__" s_Sides___init__ [] a_Sides___init__ (p_Sides_init K C_Sides C_NoSide) f_Sides g_Sides)
    (x_NoOrder : Xc P w K mg base "NoOrder" C_NoOrder "found")
    (k_Sides : Kl_Sides K mg C_Sides) :
    FnG P w K mg base (L2.CX P w) 5 f fd a_Sides_turned (spOf K (p_turned K C_Sides C_NoOrder)) := by
  refine VS.unbox ?_
  simp (disch := with_unfolding_all
    have kc_Sides := k_Sides.ins.cl
    have ka_Sides_three := k_Sides.a_three
    refine fn_val F sc_Sides_turned (fun ds S G Y h => ?_) (fun cdv A hgd outer s H E hr px tk po ds S G Y h => ?_)
    · obtain ⟨a, b, c, d, k, rfl, _⟩ := h
      rfl
    · obtain ⟨a, b, c, d, k, rfl, ha, hb, hc, hd, q, qx⟩ := h
      refine ⟨_, (pss_cons (ps_if (pt_not (pt_val (pe_cG c_is_order.fn hgd (hr.mono (by decide)) (by rfl) c_is_order.mg c_is_order.kp c_is_order.b .nil VS.pass0 (pa_cons (pv 1) pa_nil)))) (pss_one (ps_rz tk x_NoOrder (hr.mono (by decide)) (by rfl) (pv 1)))
        pss_nil)
        (pss_cons (ps_asg (pe_lc (own := [("number", 5)]) rfl sc_Sides_turned.nd (pi_tup (pv 1)) (blkOk_by (own := [("number", 5)]) (N := n_Sides_turned) (sc := defScope s_Sides_turned) (by decide +kernel)) (fun _ _ _ _ _ => (pg_name (i := 5) sc_Sides_turned.nd rfl (Or.inl rfl))) (fun _ _ _ _ _ => pts_nil) (fun _ _ _ _ _ => (pe_ix (kI (K := K) (r := rIxT) ix_tup) (kFld (K := K) (pe_fld (pv 0) rfl)) (pv 5) (fun _ _ => rfl)))) (pg_unl (n := 3) rfl (pgs_cons (pg_name (i := 2) sc_Sides_turned.nd rfl (Or.inl rfl)) (pgs_cons (pg_name (i := 3) sc_Sides_turned.nd rfl (Or.inl rfl)) (pgs_cons (pg_name (i := 4) sc_Sides_turned.nd rfl (Or.inl rfl)) pgs_nil)))))
        (pss_one (ps_ret (pe_kG c_Sides.mk_ c_Sides.fn hgd (hr.mono (by decide)) (by rfl) c_Sides.mg  c_Sides.b .nil VS.pass0 (pa_cons (pv 2) (pa_cons (pv 3) (pa_cons (pv 4) pa_nil)))))))), ?_⟩
      dsimp only [cxOf, List.map]
      show VX _ _ [_, _, _, _, _, _] _ _
      walk_at "go"
      refine ⟨d, k, rfl, hd, ?_⟩
      walk_at "go"
      refine brB (fun h1 => ?_) (fun h1 => ?_)
      · walk_at "go"
        refine vx_raise ?_
        walk_at "go"
        exact qx h1
      · obtain ⟨p, hp, rfl⟩ := hd.yes h1
        have q := q h1 p hp rfl
        walk_at "go"
        refine ve_lcM (fun x => match x with | .int i => .int (tn a b c i) | _ => .non) (vi_tup (ve_var rfl ⟨_, rfl, ?_⟩))
        obtain ⟨i, j, l, rfl, hi, hj, hl⟩ := perm_len hp
        refine ⟨by show 3 ≤ 100000; decide, fun x hx => ?_, ?_⟩
        · obtain ⟨n, hn, rfl⟩ := List.mem_map.mp hx
          have hn : n = 0 ∨ n = 1 ∨ n = 2 := by
            simp only [List.mem_cons, List.not_mem_nil, or_false] at hn
            rcases hn with rfl | rfl | rfl <;> assumption
          walk_at "go"
          refine ⟨rfl, ?_⟩
          walk_at "go"
          refine ⟨_, _, _, .v, k_Sides.ins.cl, k_Sides.a_three, rfl, ?_⟩
          walk_at "go"
          rcases hn with rfl | rfl | rfl
          · exact rv_ixT rfl ⟨rfl, rfl⟩
          · exact rv_ixT rfl ⟨rfl, rfl⟩
          · exact rv_ixT rfl ⟨rfl, rfl⟩
        refine vg_unl .v rfl ?_
        show VGs _ _ [_, _, _] _ _ _
        walk_at "go"
        refine ve_mk0 (XOk.none (E := noE)) ?_
        walk_at "go"
        intro y hy
        refine init_ok (tn_in ha hb hc) (tn_in ha hb hc) (tn_in ha hb hc) hy ⟨rfl, y, _, rfl, put_same, nofun, ?_⟩
        rw [del_put2 hy]
        exact q) only [↓VS.box]
end
end LW
namespace LW
open PySem L2 C8 PySem.Spec PyProof.Rows VS
/-- whether a thing is Sides -/
inductive Sx (K : PySem.W.Frag) (S : Sto) (CS : Addr) : D → Bool → Prop
  | s (a b c : Int) : Sx K S CS (sd CS a b c) true
  | o {d : D} {t : Value} (h : OfC K S d t) (k : PySem.W.kitOne K t (.ref CS) = some false) : Sx K S CS d false
theorem Sx.yes {K : PySem.W.Frag} {S : Sto} {CS : Addr} {d : D} (h : Sx K S CS d true) : ∃ a b c, d = sd CS a b c := by
  cases h with
  | s a b c => exact ⟨a, b, c, rfl⟩
def p_need_spare (K : PySem.W.Frag) (CN : Addr) : Pt := fun ds S G Y => ∃ d o, ds = [d] ∧ Wh K S d o ∧ (whB o 0 1000 = true → G .non S) ∧ (whB o 0 1000 = false → Y CN [("found", d)] S)
def p_need_both (K : PySem.W.Frag) (CS CX CN : Addr) : Pt := fun ds S G Y => ∃ d1 d2 d3 k1 k2 o, ds = [d1, d2, d3] ∧ Sx K S CS d1 k1 ∧ Sx K S CS d2 k2 ∧ Wh K S d3 o ∧
  (k1 = false → Y CX [("found", d1)] S) ∧ (k1 = true → k2 = false → Y CX [("found", d2)] S) ∧ (k1 = true → k2 = true → whB o 0 1000 = false → Y CN [("found", d3)] S) ∧ (k1 = true → k2 = true → whB o 0 1000 = true → G .non S)
def fitB (l m : List Int) (sp : Int) : Bool := (l.zip m).all fun q => decide (q.1 + sp ≤ q.2)
def p_goes_by (CS : Addr) : Pt := fun ds S G _ => ∃ a b c x y z p sp, ds = [sd CS a b c, sd CS x y z, .tup (p.map D.int), .int sp] ∧ In1 a ∧ In1 b ∧ In1 c ∧ p ∈ perms ∧ G (.bl (fitB (tnl a b c p) [x, y, z] sp)) S
def many : List Int → List Int → Int → Nat → D
  | a :: l, x :: m, sp, r => if a + sp > x then .tup [.str "many", .int ((r : Int) + 1), .int (a + sp)] else many l m sp (r + 1)
  | _, _, _, _ => .tup [.str "many", .int 0, .int 0]
def goesD (a b c x y z sp : Int) : D := match perms.find? (fun p => fitB (tnl a b c p) [x, y, z] sp) with
  | some p => .tup [.str "turn", .tup (p.map D.int)]
  | none => many (dn [a, b, c]) (dn [x, y, z]) sp 0
def p_goes_in (K : PySem.W.Frag) (CS CX CN : Addr) : Pt := fun ds S G Y => ∃ d1 d2 d3 k1 k2 o, ds = [d1, d2, d3] ∧ Sx K S CS d1 k1 ∧ Sx K S CS d2 k2 ∧ Wh K S d3 o ∧
  (k1 = false → Y CX [("found", d1)] S) ∧ (k1 = true → k2 = false → Y CX [("found", d2)] S) ∧ (k1 = true → k2 = true → whB o 0 1000 = false → Y CN [("found", d3)] S) ∧
  (∀ a b c x y z sp, d1 = sd CS a b c → d2 = sd CS x y z → d3 = .int sp → 0 ≤ sp → sp ≤ 1000 → In1 a ∧ In1 b ∧ In1 c ∧ G (goesD a b c x y z sp) S)
theorem sd_inj {CS : Addr} {a b c x y z : Int} (h : sd CS a b c = sd CS x y z) : a = x ∧ b = y ∧ c = z := by
  injection h with _ h
  injection h with h _
  injection h with _ h
  injection h with h
  injection h with h1 h
  injection h with h2 h
  injection h with h3 _
  injection h1 with h1
  injection h2 with h2
  injection h3 with h3
  exact ⟨h1, h2, h3⟩
theorem goes_ok {K : PySem.W.Frag} {CS CX CN : Addr} {a b c x y z sp : Int} (ha : In1 a) (hb : In1 b) (hc : In1 c) (h : 0 ≤ sp ∧ sp ≤ 1000) {S : Sto} {G : D → Sto → Prop} {Y : Addr → List (Str × D) → Sto → Prop} (q : G (goesD a b c x y z sp) S) :
    p_goes_in K CS CX CN [sd CS a b c, sd CS x y z, .int sp] S G Y :=
  ⟨_, _, _, true, true, _, rfl, .s .., .s .., .i sp, fun z => (by cases z), fun _ z => (by cases z), fun _ _ z => (by rw [whB_of h] at z; cases z), fun a' b' c' x' y' z' sp' e1 e2 e3 _ _ => by
    obtain ⟨rfl, rfl, rfl⟩ := sd_inj e1
    obtain ⟨rfl, rfl, rfl⟩ := sd_inj e2
    injection e3 with e3
    subst e3
    exact ⟨ha, hb, hc, q⟩⟩
section
variable {P : Program} {w : World} {K : PySem.W.Frag} {mg : Str → Option Value} {base : Heap}
theorem ok_need_spare {f : Addr} {fd : FuncData} {C_Sides C_Parcel C_Heap C_Nest C_NoNumber C_NoSide C_NoSides C_NoOrder C_NoParcel C_NotInHeap : Addr} {f_is_whole : Addr} {g_is_whole : FuncData}
    (F : Fd K "need_spare" "need_spare" s_need_spare [] f fd) (T : Tx K mg) (hsys : SysOk base)
    (c_is_whole : Cf P w K mg base (L2.CX P w) 1 "is_whole" s_is_whole [] a_is_whole (p_is_whole K) f_is_whole g_is_whole)
    (x_NoNumber : Xc P w K mg base "NoNumber" C_NoNumber "found") :
    FnG P w K mg base (L2.CX P w) 3 f fd a_need_spare (spOf K (p_need_spare K C_NoNumber)) := by
  refine VS.unbox ?_
  simp (disch := with_unfolding_all
    refine fn_val F sc_need_spare (fun ds S G Y h => ?_) (fun cdv A hgd outer s H E hr px tk po ds S G Y h => ?_)
    · obtain ⟨d, o, rfl, _⟩ := h
      rfl
    · obtain ⟨d, o, rfl, wd, q, qx⟩ := h
      refine ⟨_, (pss_one (ps_if (pt_not (pt_val (pe_cG c_is_whole.fn hgd (hr.mono (by decide)) (by rfl) c_is_whole.mg c_is_whole.kp c_is_whole.b .nil VS.pass0 (pa_cons (pv 0) (pa_cons pe_int (pa_cons (pe_gc (by rfl) T.c_MOST_SPARE) pa_nil)))))) (pss_one (ps_rz tk x_NoNumber (hr.mono (by decide)) (by rfl) (pv 0)))
        pss_nil)), ?_⟩
      (try dsimp only [cxOf, List.map])
      show VX _ _ [_] _ _
      walk_at "go"
      refine ⟨d, o, 0, 1000, rfl, wd, ?_⟩
      walk_at "go"
      refine brB (fun h1 => ?_) (fun h1 => ?_)
      · walk_at "go"
        refine vx_raise ?_
        walk_at "go"
        exact qx h1
      · walk_at "go"
        exact q h1) only [↓VS.box]
theorem ok_need_both {f : Addr} {fd : FuncData} {C_Sides C_Parcel C_Heap C_Nest C_NoNumber C_NoSide C_NoSides C_NoOrder C_NoParcel C_NotInHeap : Addr} {f_need_spare : Addr} {g_need_spare : FuncData}
    (F : Fd K "need_both" "need_both" s_need_both [] f fd) (T : Tx K mg) (hsys : SysOk base)
    (c_need_spare : Cf P w K mg base (L2.CX P w) 3 "need_spare" s_need_spare [] a_need_spare (p_need_spare K C_NoNumber) f_need_spare g_need_spare)
    (x_NoSides : Xc P w K mg base "NoSides" C_NoSides "found")
    (k_Sides : Kl_Sides K mg C_Sides) :
    FnG P w K mg base (L2.CX P w) 4 f fd a_need_both (spOf K (p_need_both K C_Sides C_NoSides C_NoNumber)) := by
  refine VS.unbox ?_
  simp (disch := with_unfolding_all
    have kc_Sides := k_Sides.ins.cl
    have ka_Sides_three := k_Sides.a_three
    refine fn_val F sc_need_both (fun ds S G Y h => ?_) (fun cdv A hgd outer s H E hr px tk po ds S G Y h => ?_)
    · obtain ⟨d1, d2, d3, k1, k2, o, rfl, _⟩ := h
      rfl
    · obtain ⟨d1, d2, d3, k1, k2, o, rfl, s1, s2, w3, y1, y2, y3, q⟩ := h
      refine ⟨_, (pss_cons (ps_for po rfl (pi_tup (pe_tup (pa_cons (pv 0) (pa_cons (pv 1) pa_nil)))) (pg_name (i := 3) sc_need_both.nd rfl (Or.inl rfl))
        (pss_one (ps_if (pt_not (pt_val (pe_callB c_isiZ (by rfl) T.b_isinstance (by decide +kernel) (pa_cons (pv 3) (pa_cons (pe_gc (v := .ref C_Sides) (by rfl) ⟨_, k_Sides.at_, rfl⟩) pa_nil))))) (pss_one (ps_rz tk x_NoSides (hr.mono (by decide)) (by rfl) (pv 3)))
        pss_nil)))
        (pss_one (ps_expr (pe_cG c_need_spare.fn hgd (hr.mono (by decide)) (by rfl) c_need_spare.mg c_need_spare.kp c_need_spare.b .nil px (pa_cons (pv 2) pa_nil))))), ?_⟩
      (try dsimp only [cxOf, List.map])
      show VX _ _ [_, _, _, _] _ _
      walk_at "go"
      refine vx_for (vi_tup ?_)
      walk_at "go"
      refine ⟨by show 2 ≤ sizeLine; decide, ?_⟩
      refine ⟨_, rfl, fun i ρ2 S2 => S2 = S ∧ ∃ x, ρ2 = [some d1, some d2, some d3, x] ∧ (0 < i → k1 = true) ∧ (1 < i → k2 = true), ⟨rfl, _, rfl, fun z => absurd z (by decide), fun z => absurd z (by decide)⟩, ?_, ?_⟩
      · rintro i d ρ2 S2 hd ⟨rfl, x, rfl, hb1, hb2⟩
        have hi := (List.getElem?_eq_some_iff.mp hd).1
        have hk : ∃ k, Sx K S2 C_Sides d k ∧ (k = false → Y C_NoSides [("found", d)] S2) ∧ (k = true → (0 < i + 1 → k1 = true) ∧ (1 < i + 1 → k2 = true)) := by
          match i, hi, hd, hb1 with
          | 0, _, hd, _ => cases hd; exact ⟨k1, s1, y1, fun z => ⟨fun _ => z, fun z => absurd z (by decide)⟩⟩
          | 1, _, hd, hb1 => cases hd; exact ⟨k2, s2, y2 (hb1 (by decide)), fun z => ⟨fun _ => hb1 (by decide), fun _ => z⟩⟩
        obtain ⟨k, sk, kf, kt⟩ := hk
        walk_at "go"
        refine ve_cls ?_
        walk_at "go"
        cases sk with
        | s a b c =>
          refine rc_isiO (.i .v k_Sides.ins) k_Sides.ins.me ?_
          walk_at "go"
          exact ⟨rfl, _, rfl, kt rfl⟩
        | o ot hk =>
          refine rc_isiO ot hk ?_
          walk_at "go"
          refine vx_raise ?_
          walk_at "go"
          exact kf rfl
      · rintro ρ2 S2 ⟨rfl, x, rfl, hb1, hb2⟩
        have e1 := hb1 (by show 0 < 2; decide)
        have e2 := hb2 (by show 1 < 2; decide)
        walk_at "go"
        refine ve_f (.same fun _ _ _ h => h) ?_
        walk_at "go"
        exact ⟨d3, o, rfl, w3, q e1 e2, y3 e1 e2⟩) only [↓VS.box]
theorem ok_goes_by {f : Addr} {fd : FuncData} {C_Sides C_Parcel C_Heap C_Nest C_NoNumber C_NoSide C_NoSides C_NoOrder C_NoParcel C_NotInHeap : Addr} {f_Sides_turned f_Sides_told : Addr} {g_Sides_turned g_Sides_told : FuncData}
    (F : Fd K "goes_by" "goes_by" s_goes_by [] f fd) (T : Tx K mg) (hsys : SysOk base)
    (c_Sides_turned : Mf P w K mg base 5 C_Sides "turned" "Sides.turned" s_Sides_turned [] a_Sides_turned (p_turned K C_Sides C_NoOrder) f_Sides_turned g_Sides_turned)
    (c_Sides_told : Mf P w K mg base 1 C_Sides "told" "Sides.told" s_Sides_told [] a_Sides_told (p_told C_Sides) f_Sides_told g_Sides_told) :
    FnG P w K mg base (L2.CX P w) 6 f fd a_goes_by (spOf K (p_goes_by C_Sides)) := by
  refine VS.unbox ?_
  simp (disch := with_unfolding_all
    refine fn_val F sc_goes_by (fun ds S G Y h => ?_) (fun cdv A hgd outer s H E hr px tk po ds S G Y h => ?_)
    · obtain ⟨a, b, c, x, y, z, p, sp, rfl, _⟩ := h
      rfl
    · obtain ⟨a, b, c, x, y, z, p, sp, rfl, ha, hb, hc, hp, q⟩ := h
      refine ⟨_, (pss_one (ps_ret (pe_callB (cr_all rfl) (by rfl) T.b_all (by decide +kernel) (pa_cons (pe_lc (own := [("side", 4), ("most", 5)]) rfl sc_goes_by.nd (RZ.pi_zipA (by rfl) T.b_zip (pa_cons (pe_mG0 (pe_mG (pv 0) c_Sides_turned.cl c_Sides_turned.me c_Sides_turned.fn hgd (hr.mono (by decide)) c_Sides_turned.b .nil VS.pass0 (pa_cons (pv 2) pa_nil)) c_Sides_told.cl c_Sides_told.me c_Sides_told.fn hgd (hr.mono (by decide)) c_Sides_told.b .nil VS.pass0) (pa_cons (pe_mG0 (pv 1) c_Sides_told.cl c_Sides_told.me c_Sides_told.fn hgd (hr.mono (by decide)) c_Sides_told.b .nil VS.pass0) pa_nil))) (blkOk_by (own := [("side", 4), ("most", 5)]) (N := n_goes_by) (sc := defScope s_goes_by) (by decide +kernel)) (fun _ _ _ _ _ => (kTup (K := K) (pg_tup (n := 2) rfl (pgs_cons (pg_name (i := 4) sc_goes_by.nd rfl (Or.inl rfl)) (pgs_cons (pg_name (i := 5) sc_goes_by.nd rfl (Or.inl rfl)) pgs_nil))))) (fun _ _ _ _ _ => pts_nil) (fun _ _ _ _ _ => (pe_cmpR op_le (pe_op op_add (pv 4) (pv 3)) (pv 5) (nomark _)))) pa_nil)))), ?_⟩
      (try dsimp only [cxOf, List.map])
      show VX _ _ [_, _, _, _, _, _] _ _
      walk_at "go"
      refine ve_lcM (fun d => match d with | .tup [.int u, .int v] => .bl (decide (u + sp ≤ v)) | _ => .non) (vi_zipT ?_)
      walk_at "go"
      refine ve_mt0 (XOk.none (E := noE)) ?_
      refine ve_mt0 (XOk.none (E := noE)) ?_
      walk_at "go"
      refine ⟨_, .v, rfl, ?_⟩
      walk_at "go"
      refine turned_ok ha hb hc hp ?_
      have hm := hp
      obtain ⟨i, j, l, rfl, _, _, _⟩ := perm_len hp
      refine ⟨_, .v, rfl, ?_⟩
      walk_at "go"
      refine ⟨_, _, _, rfl, ?_⟩
      walk_at "go"
      refine ve_mt0 (XOk.none (E := noE)) ?_
      walk_at "go"
      refine ⟨_, .v, rfl, ?_⟩
      walk_at "go"
      refine ⟨_, _, _, rfl, ?_⟩
      walk_at "go"
      refine ⟨_, _, rfl, by show 3 ≤ 100000; decide, fun d hd => ?_, ?_⟩
      · have hd' : d = .tup [.int (tn a b c i), .int x] ∨ d = .tup [.int (tn a b c j), .int y] ∨ d = .tup [.int (tn a b c l), .int z] := by
          simpa [zipD] using hd
        rcases hd' with rfl | rfl | rfl
        all_goals
          walk_at "go"
          exact ⟨rfl, by walk_at "go"; exact ⟨rfl, rfl⟩⟩
      refine va_nil ?_
      show RC _ _ [.lst (([decide (tn a b c i + sp ≤ x), decide (tn a b c j + sp ≤ y), decide (tn a b c l + sp ≤ z)]).map D.bl)] _ _
      refine rc_all .v ?_
      exact q) only [↓VS.box]
theorem ok_goes_in {f : Addr} {fd : FuncData} {C_Sides C_Parcel C_Heap C_Nest C_NoNumber C_NoSide C_NoSides C_NoOrder C_NoParcel C_NotInHeap : Addr} {f_need_both f_goes_by f_Sides_ranked : Addr} {g_need_both g_goes_by g_Sides_ranked : FuncData}
    (F : Fd K "goes_in" "goes_in" s_goes_in [.int 0] f fd) (T : Tx K mg) (hsys : SysOk base)
    (c_need_both : Cf P w K mg base (L2.CX P w) 4 "need_both" s_need_both [] a_need_both (p_need_both K C_Sides C_NoSides C_NoNumber) f_need_both g_need_both)
    (c_goes_by : Cf P w K mg base (L2.CX P w) 6 "goes_by" s_goes_by [] a_goes_by (p_goes_by C_Sides) f_goes_by g_goes_by)
    (c_Sides_ranked : Mf P w K mg base 1 C_Sides "ranked" "Sides.ranked" s_Sides_ranked [] a_Sides_ranked (p_ranked C_Sides) f_Sides_ranked g_Sides_ranked) :
    FnG P w K mg base (L2.CX P w) 7 f fd a_goes_in (spOf K (p_goes_in K C_Sides C_NoSides C_NoNumber)) := by
  refine VS.unbox ?_
  simp (disch := with_unfolding_all
    refine fn_val F sc_goes_in (fun ds S G Y h => ?_) (fun cdv A hgd outer s H E hr px tk po ds S G Y h => ?_)
    · obtain ⟨d1, d2, d3, k1, k2, o, rfl, _⟩ := h
      rfl
    · obtain ⟨d1, d2, d3, k1, k2, o, rfl, s1, s2, w3, y1, y2, y3, q⟩ := h
      obtain ⟨aO, hO, rO⟩ := T.c_ORDERS
      refine ⟨_, (pss_cons (ps_expr (pe_cG c_need_both.fn hgd (hr.mono (by decide)) (by rfl) c_need_both.mg c_need_both.kp c_need_both.b .nil px (pa_cons (pv 0) (pa_cons (pv 1) (pa_cons (pv 2) pa_nil)))))
        (pss_cons (ps_for po rfl (pi_tup (pe_gc (by rfl) hO)) (pg_name (i := 3) sc_goes_in.nd rfl (Or.inl rfl))
        (pss_one (ps_if (pt_val (pe_cG c_goes_by.fn hgd (hr.mono (by decide)) (by rfl) c_goes_by.mg c_goes_by.kp c_goes_by.b .nil VS.pass0 (pa_cons (pv 0) (pa_cons (pv 1) (pa_cons (pv 3) (pa_cons (pv 2) pa_nil)))))) (pss_one (ps_ret (pe_tup (pa_cons pe_str (pa_cons (pv 3) pa_nil)))))
        pss_nil)))
        (pss_cons (ps_for po rfl (pi_enumT (by rfl) T.b_enumerate (pa_cons (pe_mG0 (pv 0) c_Sides_ranked.cl c_Sides_ranked.me c_Sides_ranked.fn hgd (hr.mono (by decide)) c_Sides_ranked.b .nil VS.pass0) pa_nil)) (pg_tup (n := 2) rfl (pgs_cons (pg_name (i := 4) sc_goes_in.nd rfl (Or.inl rfl)) (pgs_cons (pg_name (i := 5) sc_goes_in.nd rfl (Or.inl rfl)) pgs_nil)))
        (pss_one (ps_if (pt_cmpR op_gt (pe_op op_add (pv 5) (pv 2)) (pe_ix ix_tup (pe_mG0 (pv 1) c_Sides_ranked.cl c_Sides_ranked.me c_Sides_ranked.fn hgd (hr.mono (by decide)) c_Sides_ranked.b .nil VS.pass0) (pv 4) (fun _ _ => rfl)) (nomark _)) (pss_one (ps_ret (pe_tup (pa_cons pe_str (pa_cons (pe_op op_add (pv 4) pe_int) (pa_cons (pe_op op_add (pv 5) (pv 2)) pa_nil))))))
        pss_nil)))
        (pss_one (ps_ret (pe_tup (pa_cons pe_str (pa_cons pe_int (pa_cons pe_int pa_nil))))))))), ?_⟩
      (try dsimp only [cxOf, List.map])
      show VX _ _ [_, _, _, _, _, _] _ _
      walk_at "go"
      refine ve_f (.same fun _ _ _ h => h) ?_
      walk_at "go"
      refine ⟨d1, d2, d3, k1, k2, o, rfl, s1, s2, w3, y1, y2, y3, fun e1 e2 e3 => ?_⟩
      subst e1 e2
      obtain ⟨a, b, c, rfl⟩ := s1.yes
      obtain ⟨x, y, z, rfl⟩ := s2.yes
      obtain ⟨sp, rfl, p0, p1⟩ := whB_yes e3
      cases w3.some
      obtain ⟨ha, hb, hc, q⟩ := q a b c x y z sp rfl rfl rfl p0 p1
      walk_at "go"
      refine vx_for (vi_tup (ve_wr (rO · ·) ⟨_, rfl, ?_⟩))
      refine ⟨fun i ρ2 S2 => S2 = S ∧ ∃ u, ρ2 = [some (sd C_Sides a b c), some (sd C_Sides x y z), some (.int sp), u, none, none] ∧ ∀ p ∈ perms.take i, fitB (tnl a b c p) [x, y, z] sp = false, ⟨rfl, _, rfl, fun p hp => by cases hp⟩, ?_, ?_⟩
      · rintro i d ρ2 S2 hd ⟨rfl, u, rfl, hno⟩
        rw [List.getElem?_map] at hd
        cases hp : perms[i]? with
        | none => rw [hp] at hd; cases hd
        | some p =>
          rw [hp] at hd
          cases hd
          have hm : p ∈ perms := List.mem_of_getElem? hp
          have htk : perms.take (i + 1) = perms.take i ++ [p] := by rw [List.take_succ, hp]; rfl
          walk_at "go"
          refine ⟨a, b, c, x, y, z, p, sp, rfl, ha, hb, hc, hm, ?_⟩
          walk_at "go"
          refine ⟨fun h1 => ?_, fun h1 => ?_⟩
          · walk_at "go"
            refine ⟨by show 2 ≤ sizeLine; decide, ?_⟩
            have e : goesD a b c x y z sp = .tup [.str "turn", .tup (p.map D.int)] := by
              have hf : perms.find? (fun p => fitB (tnl a b c p) [x, y, z] sp) = some p := by
                rw [List.find?_eq_some_iff_append]
                refine ⟨h1, perms.take i, perms.drop (i + 1), ?_, fun r hr => by rw [hno r hr]; rfl⟩
                have hi := (List.getElem?_eq_some_iff.mp hp)
                obtain ⟨hi, e⟩ := hi
                rw [← e, List.getElem_cons_drop, List.take_append_drop]
              unfold goesD
              rw [hf]
            rw [e] at q
            exact q
          · walk_at "go"
            refine ⟨rfl, _, rfl, fun r hr => ?_⟩
            rw [htk] at hr
            rcases List.mem_append.mp hr with hr | hr
            · exact hno r hr
            · rw [List.mem_singleton.mp hr]; exact h1
      · rintro ρ2 S2 ⟨rfl, u, rfl, hno⟩
        have hno' : ∀ p ∈ perms, fitB (tnl a b c p) [x, y, z] sp = false := fun p hp => hno p (by rw [List.length_map, List.take_length]; exact hp)
        have e : goesD a b c x y z sp = many (dn [a, b, c]) (dn [x, y, z]) sp 0 := by
          have hf : perms.find? (fun p => fitB (tnl a b c p) [x, y, z] sp) = none := by
            rw [List.find?_eq_none]
            exact fun p hp => by rw [hno' p hp]; decide
          unfold goesD
          rw [hf]
        rw [e] at q
        have l1 := dn_len [a, b, c]
        have l2 := dn_len [x, y, z]
        generalize e1 : dn [a, b, c] = l at q l1 ⊢
        generalize e2 : dn [x, y, z] = m at q l2 ⊢
        walk_at "go"
        refine vx_for (vi_enumT ?_)
        walk_at "go"
        refine ve_mt0 (XOk.none (E := noE)) ?_
        walk_at "go"
        refine ⟨_, .v, rfl, ?_⟩
        walk_at "go"
        refine ⟨_, _, _, rfl, ?_⟩
        rw [e1]
        walk_at "go"
        refine ⟨_, rfl, fun i ρ2 S3 => S3 = S2 ∧ ∃ u v, ρ2 = [some (sd C_Sides a b c), some (sd C_Sides x y z), some (.int sp), _, u, v] ∧ many (l.drop i) (m.drop i) sp i = many l m sp 0, ⟨rfl, _, _, rfl, rfl⟩, ?_, ?_⟩
        · rintro i d ρ2 S3 hd ⟨rfl, u, v, rfl, hmm⟩
          obtain ⟨d', hd', rfl⟩ := enumD_get hd
          rw [List.getElem?_map] at hd'
          cases hp : l[i]? with
          | none => rw [hp] at hd'; cases hd'
          | some n =>
            rw [hp] at hd'
            cases hd'
            have hi := (List.getElem?_eq_some_iff.mp hp).1
            have hi2 : i < m.length := by rw [l2]; rw [l1] at hi; exact hi
            have hm2 : m[i]? = some m[i] := List.getElem?_eq_getElem hi2
            generalize m[i] = t at hm2
            have dl : l.drop i = n :: l.drop (i + 1) := by rw [List.drop_eq_getElem_cons hi]; rw [List.getElem?_eq_getElem hi] at hp; cases hp; rfl
            have dm : m.drop i = t :: m.drop (i + 1) := by rw [List.drop_eq_getElem_cons hi2]; rw [List.getElem?_eq_getElem hi2] at hm2; cases hm2; rfl
            rw [dl, dm] at hmm
            walk_at "go"
            refine ve_mt0 (XOk.none (E := noE)) ?_
            walk_at "go"
            refine ⟨_, .v, rfl, ?_⟩
            walk_at "go"
            refine ⟨_, _, _, rfl, ?_⟩
            rw [e2]
            walk_at "go"
            refine rv_ixT (d := .int t) (atI_nat (by rw [List.getElem?_map, hm2]; rfl)) ?_
            walk_at "go"
            refine br (fun h1 => ?_) (fun h1 => ?_)
            · walk_at "go"
              refine ⟨by show 3 ≤ sizeLine; decide, ?_⟩
              have e3 : many (n :: l.drop (i + 1)) (t :: m.drop (i + 1)) sp i = .tup [.str "many", .int ((i : Int) + 1), .int (n + sp)] := if_pos h1
              rw [← hmm, e3] at q
              exact q
            · walk_at "go"
              refine ⟨rfl, _, _, rfl, ?_⟩
              rw [← hmm]
              exact (if_neg h1).symm
        · rintro ρ2 S3 ⟨rfl, u, v, rfl, hmm⟩
          rw [enumD_len, List.length_map, List.drop_length] at hmm
          have e3 : many [] (m.drop l.length) sp l.length = .tup [.str "many", .int 0, .int 0] := rfl
          rw [e3] at hmm
          rw [← hmm] at q
          walk_at "go"
          exact ⟨by show 3 ≤ sizeLine; decide, q⟩) only [↓VS.box]
end
end LW
namespace LW
open PySem L2 C8 PySem.Spec PyProof.Rows VS
/-! ### turning and ranking, plain -/
theorem fit_iff {a b c x y z sp i j k : Int} : fitB (tnl a b c [i, j, k]) [x, y, z] sp = true ↔ tn a b c i + sp ≤ x ∧ tn a b c j + sp ≤ y ∧ tn a b c k + sp ≤ z := by
  show (decide (_ ≤ _) && (decide (_ ≤ _) && (decide (_ ≤ _) && true))) = true ↔ _
  simp only [Bool.and_eq_true, decide_eq_true_eq, and_true]
theorem tn012 {a b c : Int} : tn a b c 0 = a ∧ tn a b c 1 = b ∧ tn a b c 2 = c := ⟨rfl, rfl, rfl⟩
theorem perm_cases {p : List Int} (h : p ∈ perms) : p = [0, 1, 2] ∨ p = [0, 2, 1] ∨ p = [1, 0, 2] ∨ p = [1, 2, 0] ∨ p = [2, 0, 1] ∨ p = [2, 1, 0] := by
  simpa only [perms, List.mem_cons, List.not_mem_nil, or_false] using h
/-- two numbers the same but for their order -/
theorem perm2 {a b x y : Int} (h : [a, b].Perm [x, y]) : (x = a ∧ y = b) ∨ (x = b ∧ y = a) := by
  have hx : x ∈ [a, b] := h.mem_iff.mpr (List.mem_cons_self ..)
  simp only [List.mem_cons, List.not_mem_nil, or_false] at hx
  rcases hx with rfl | rfl
  · have := h.cons_inv
    exact .inl ⟨rfl, (List.singleton_perm_singleton.mp this).symm⟩
  · have := ((List.Perm.swap _ _ _).symm.trans h).cons_inv
    exact .inr ⟨rfl, (List.singleton_perm_singleton.mp this).symm⟩
theorem perm3 {a b c x y z : Int} (h : [a, b, c].Perm [x, y, z]) : ∃ p ∈ perms, [x, y, z] = tnl a b c p := by
  have hx : x ∈ [a, b, c] := h.mem_iff.mpr (List.mem_cons_self ..)
  simp only [List.mem_cons, List.not_mem_nil, or_false] at hx
  rcases hx with rfl | rfl | rfl
  · rcases perm2 h.cons_inv with ⟨rfl, rfl⟩ | ⟨rfl, rfl⟩
    · exact ⟨[0, 1, 2], by decide, rfl⟩
    · exact ⟨[0, 2, 1], by decide, rfl⟩
  · have h2 : [a, c].Perm [y, z] := ((List.Perm.swap a x [c]).trans h).cons_inv
    rcases perm2 h2 with ⟨rfl, rfl⟩ | ⟨rfl, rfl⟩
    · exact ⟨[1, 0, 2], by decide, rfl⟩
    · exact ⟨[1, 2, 0], by decide, rfl⟩
  · have h1 : [x, a, b].Perm [a, b, x] := List.perm_append_comm (l₁ := [x]) (l₂ := [a, b])
    have h2 : [a, b].Perm [y, z] := (h1.trans h).cons_inv
    rcases perm2 h2 with ⟨rfl, rfl⟩ | ⟨rfl, rfl⟩
    · exact ⟨[2, 0, 1], by decide, rfl⟩
    · exact ⟨[2, 1, 0], by decide, rfl⟩
theorem up3 (a b c : Int) : ∃ u v w, up [a, b, c] = [u, v, w] ∧ u ≤ v ∧ v ≤ w ∧ ∃ p ∈ perms, [a, b, c] = tnl u v w p := by
  have hp := up_perm [a, b, c]
  have hs := up_sorted [a, b, c]
  have hl := up_len [a, b, c]
  match e : up [a, b, c], hl, hs, hp with
  | [u, v, w], _, hs, hp =>
    refine ⟨u, v, w, rfl, ?_, ?_, perm3 hp⟩
    · exact (List.pairwise_cons.mp hs).1 v (by simp)
    · exact (List.pairwise_cons.mp (List.pairwise_cons.mp hs).2).1 w (by simp)
/-- turned twice -/
def comp (p q : List Int) : List Int := match p with
  | [i, j, k] => tnl i j k q
  | _ => []
theorem comp_mem : ∀ p ∈ perms, ∀ q ∈ perms, comp p q ∈ perms := by decide
theorem comp_ex : ∀ p ∈ perms, ∀ r ∈ perms, ∃ q ∈ perms, comp p q = r := by decide
theorem comp_of {a b c i j k : Int} {q : List Int} (hp : [i, j, k] ∈ perms) (hq : q ∈ perms) : tnl (tn a b c i) (tn a b c j) (tn a b c k) q = tnl a b c (comp [i, j, k] q) := by
  rcases perm_cases hq with rfl | rfl | rfl | rfl | rfl | rfl <;> rfl
def go (a b c x y z sp : Int) : Bool := perms.any fun p => fitB (tnl a b c p) [x, y, z] sp
theorem go_iff {a b c x y z sp : Int} : go a b c x y z sp = true ↔ ∃ p ∈ perms, fitB (tnl a b c p) [x, y, z] sp = true := List.any_eq_true
/-- rank by rank -/
def rk (l m : List Int) (sp : Int) : Bool := match l, m with
  | [u, v, w], [x, y, z] => decide (u + sp ≤ x) && (decide (v + sp ≤ y) && decide (w + sp ≤ z))
  | _, _ => false
theorem rk_iff {u v w x y z sp : Int} : rk [u, v, w] [x, y, z] sp = true ↔ u + sp ≤ x ∧ v + sp ≤ y ∧ w + sp ≤ z := by
  show (decide _ && (decide _ && decide _)) = true ↔ _
  simp only [Bool.and_eq_true, decide_eq_true_eq]
theorem go_rank (a b c x y z sp : Int) : go a b c x y z sp = rk (up [a, b, c]) (up [x, y, z]) sp := by
  obtain ⟨u, v, w, e1, uv, vw, p, hp, ep⟩ := up3 a b c
  obtain ⟨u', v', w', e2, uv', vw', q, hq, eq⟩ := up3 x y z
  rw [e1, e2]
  obtain ⟨i, j, k, rfl, _⟩ := perm_len hp
  obtain ⟨i', j', k', rfl, _⟩ := perm_len hq
  have ea : a = tn u v w i ∧ b = tn u v w j ∧ c = tn u v w k := by
    injection ep with h1 ep; injection ep with h2 ep; injection ep with h3 ep
    exact ⟨h1, h2, h3⟩
  have ex : x = tn u' v' w' i' ∧ y = tn u' v' w' j' ∧ z = tn u' v' w' k' := by
    injection eq with h1 ep; injection ep with h2 ep; injection ep with h3 ep
    exact ⟨h1, h2, h3⟩
  obtain ⟨ra, rb, rc⟩ := ea
  obtain ⟨rx, ry, rz⟩ := ex
  have key : go a b c x y z sp = true ↔ ∃ r ∈ perms, fitB (tnl u v w r) [x, y, z] sp = true := by
    rw [go_iff]
    constructor
    · rintro ⟨r, hr, h⟩
      refine ⟨comp [i, j, k] r, comp_mem _ hp _ hr, ?_⟩
      rw [← comp_of hp hr, ← ra, ← rb, ← rc]
      exact h
    · rintro ⟨r, hr, h⟩
      obtain ⟨s, hs, es⟩ := comp_ex _ hp _ hr
      refine ⟨s, hs, ?_⟩
      rw [ra, rb, rc, comp_of hp hs, es]
      exact h
  have fin : (∃ r ∈ perms, fitB (tnl u v w r) [x, y, z] sp = true) ↔ rk [u, v, w] [u', v', w'] sp = true := by
    rw [rk_iff]
    obtain ⟨t0, t1, t2⟩ := @tn012 u v w
    obtain ⟨s0, s1, s2⟩ := @tn012 u' v' w'
    constructor
    · rintro ⟨r, hr, h⟩
      rcases perm_cases hr with rfl | rfl | rfl | rfl | rfl | rfl <;>
        (have f := fit_iff.mp h; rw [t0, t1, t2, rx, ry, rz] at f; rcases perm_cases hq with e | e | e | e | e | e <;> (injection e with e1 e; injection e with e2 e; injection e with e3 e; subst e1 e2 e3; rw [s0, s1, s2] at f; omega))
    · intro f
      refine ⟨[i', j', k'], hq, ?_⟩
      rw [fit_iff, rx, ry, rz]
      rcases perm_cases hq with e | e | e | e | e | e <;> (injection e with e1 e; injection e with e2 e; injection e with e3 e; subst e1 e2 e3; rw [t0, t1, t2, s0, s1, s2]; omega)
  exact Bool.eq_iff_iff.mpr (key.trans fin)
theorem many_head {l m : List Int} {sp : Int} : ∀ {r : Nat}, ∃ th, many l m sp r = .tup (.str "many" :: th) := by
  induction l generalizing m with
  | nil => exact fun {r} => ⟨_, by unfold many; rfl⟩
  | cons a l ih =>
    intro r
    cases m with
    | nil => exact ⟨_, by unfold many; rfl⟩
    | cons x m =>
      unfold many
      split
      · exact ⟨_, rfl⟩
      · exact ih
theorem goes_head (a b c x y z sp : Int) : ∃ w th, goesD a b c x y z sp = .tup (.str w :: th) ∧ decide (w = ("turn" : Str)) = go a b c x y z sp := by
  cases h : perms.find? (fun p => fitB (tnl a b c p) [x, y, z] sp) with
  | some p =>
    refine ⟨"turn", [.tup (p.map D.int)], by unfold goesD; rw [h], ?_⟩
    have g : go a b c x y z sp = true := go_iff.mpr ⟨p, List.mem_of_find?_eq_some h, by simpa using List.find?_some h⟩
    rw [g]
    decide
  | none =>
    obtain ⟨th, e⟩ := many_head (l := dn [a, b, c]) (m := dn [x, y, z]) (sp := sp) (r := 0)
    refine ⟨"many", th, by unfold goesD; rw [h]; exact e, ?_⟩
    have g : go a b c x y z sp = false := by
      rw [Bool.eq_false_iff]
      intro q
      obtain ⟨p, hp, f⟩ := go_iff.mp q
      have := List.find?_eq_none.mp h p hp
      exact this f
    rw [g]
    decide
end LW
namespace LW
open PySem L2 C8 PySem.Spec PyProof.Rows VS
/-- a purse: after n draws at most -/
def Pu (S : Sto) (p : Addr) (n : Int) : Prop := ∃ a b c : Int, S p = some (.lst [.int a, .int b, .int c]) ∧ 0 ≤ b ∧ b < 2147483648 ∧ 0 ≤ c ∧ c ≤ n
def Off (p : Addr) (S S' : Sto) : Prop := ∀ q, q ≠ p → S' q = S q
theorem Off.refl {p : Addr} {S : Sto} : Off p S S := fun _ _ => rfl
theorem Off.trans {p : Addr} {S S' S'' : Sto} (a : Off p S S') (b : Off p S' S'') : Off p S S'' := fun q h => (b q h).trans (a q h)
theorem Off.put {p : Addr} {S : Sto} {d : D} : Off p S (put S p d) := fun _ h => put_ne h
theorem Off.ex1 {p : Addr} {S S' : Sto} (o : Off p S S') : Ex1 p S S' := fun q d n h => (o q n).trans h
theorem Pu.mono {S : Sto} {p : Addr} {n m : Int} (h : Pu S p n) (l : n ≤ m) : Pu S p m := by
  obtain ⟨a, b, c, h1, h2, h3, h4, h5⟩ := h
  exact ⟨a, b, c, h1, h2, h3, h4, by omega⟩
theorem Pu.off {S S' : Sto} {p q : Addr} {n : Int} (h : Pu S p n) (o : Off q S S') (ne : p ≠ q) : Pu S' p n := by
  obtain ⟨a, b, c, h1, h2⟩ := h
  exact ⟨a, b, c, (o p ne).trans h1, h2⟩
def p__law_take : Pt := fun ds S G _ => ∃ (p : Addr) (n m : Int), ds = [.ref p, .int m] ∧ Pu S p n ∧ n < 1000000 ∧ 0 < m ∧ m < 2 ^ 64 ∧ ∀ (d : Int) (S' : Sto), 0 ≤ d → d < m → Pu S' p (n + 1) → Off p S S' → G (.int d) S'
def p__law_cell : Pt := fun ds S G _ => ∃ (ns : List Int) (k : Nat), ds = [.rol (ns.map .int), .int k] ∧ k < 1000 ∧ ∀ z : Int, G (.int z) S
def p__law_purse : Pt := fun ds S G _ => ∃ z : Int, ds = [.int z] ∧ ∀ (p : Addr) (S' : Sto), S p = none → Pu S' p 0 → Off p S S' → G (.ref p) S'
section
variable {P : Program} {w : World} {K : PySem.W.Frag} {mg : Str → Option Value} {base : Heap}
theorem ok__law_cell {f : Addr} {fd : FuncData} {C_Sides C_Parcel C_Heap C_Nest C_NoNumber C_NoSide C_NoSides C_NoOrder C_NoParcel C_NotInHeap : Addr}
    (F : Fd K "_law_cell" "_law_cell" s__law_cell [] f fd) (T : Tx K mg) (hsys : SysOk base) :
    FnG P w K mg base (L2.CX P w) 1 f fd a__law_cell (spOf K p__law_cell) := by
  refine VS.unbox ?_
  simp (disch := with_unfolding_all
    refine fn_val F sc__law_cell (fun ds S G Y h => ?_) (fun cdv A hgd outer s H E hr px tk po ds S G Y h => ?_)
    · obtain ⟨ns, k, rfl, _⟩ := h
      rfl
    · obtain ⟨ns, k, rfl, hk, q⟩ := h
      refine ⟨_, (pss_cons (ps_if (pt_cmpR op_lt (pv 1) (pe_callB c_len (by rfl) T.b_len (by decide +kernel) (pa_cons (pv 0) pa_nil)) (nomark _)) (pss_one (ps_ret (pe_ix ix_list (pv 0) (pv 1) (fun _ _ => rfl))))
        pss_nil)
        (pss_one (ps_ret (pe_op op_add (pe_op op_mulW pe_int (pv 1)) pe_int)))), ?_⟩
      (try dsimp only [cxOf, List.map])
      show VX _ _ [_, _] _ _
      walk_at "go"
      refine rc_lenQ (.l .r) ?_
      walk_at "go"
      refine br (fun h1 => ?_) (fun h1 => ?_)
      · walk_at "go"
        have hl : k < ns.length := by
          rw [List.length_map] at h1
          omega
        refine rv_ixL .r (atI_nat (j := k) (by rw [List.getElem?_map, List.getElem?_eq_getElem hl]; rfl)) ?_
        exact q _
      · walk_at "go"
        exact q _) only [↓VS.box]
theorem ok__law_purse {f : Addr} {fd : FuncData} {C_Sides C_Parcel C_Heap C_Nest C_NoNumber C_NoSide C_NoSides C_NoOrder C_NoParcel C_NotInHeap : Addr}
    (F : Fd K "_law_purse" "_law_purse" s__law_purse [] f fd) (T : Tx K mg) (hsys : SysOk base) :
    FnG P w K mg base (L2.CX P w) 1 f fd a__law_purse (spOf K p__law_purse) := by
  refine VS.unbox ?_
  simp (disch := with_unfolding_all
    refine fn_val F sc__law_purse (fun ds S G Y h => ?_) (fun cdv A hgd outer s H E hr px tk po ds S G Y h => ?_)
    · obtain ⟨z, rfl, _⟩ := h
      rfl
    · obtain ⟨z, rfl, q⟩ := h
      refine ⟨_, (pss_one (ps_ret (pe_lst (pa_cons (pe_callB (c_max2 rfl) (by rfl) T.b_max (by decide +kernel) (pa_cons pe_int (pa_cons (pe_op op_sub (pv 0) (pe_op op_pow pe_int pe_int)) pa_nil))) (pa_cons (pe_op op_mod (pv 0) pe_int) (pa_cons pe_int pa_nil)))))), ?_⟩
      show VX _ _ [_] _ _
      walk_at "go"
      refine ve_lstc ?_
      walk_at "go"
      refine ⟨(by show 3 ≤ sizeLine; decide), fun p hp => q p _ hp ⟨_, _, _, put_same, Int.emod_nonneg _ (by decide), ?_, Int.le_refl _, Int.le_refl _⟩ .put⟩
      exact Int.lt_trans (Int.emod_lt_of_pos _ (by decide)) (by decide)) only [↓VS.box]
theorem ok__law_take {f : Addr} {fd : FuncData} {C_Sides C_Parcel C_Heap C_Nest C_NoNumber C_NoSide C_NoSides C_NoOrder C_NoParcel C_NotInHeap : Addr}
    (F : Fd K "_law_take" "_law_take" s__law_take [] f fd) (T : Tx K mg) (hsys : SysOk base) :
    FnG P w K mg base (L2.CX P w) 1 f fd a__law_take (spOf K p__law_take) := by
  refine VS.unbox ?_
  simp (disch := with_unfolding_all
    refine fn_val F sc__law_take (fun ds S G Y h => ?_) (fun cdv A hgd outer s H E hr px tk po ds S G Y h => ?_)
    · obtain ⟨p, n, m, rfl, _⟩ := h
      rfl
    · obtain ⟨p, n, m, rfl, ⟨a, b, c, hp, b0, b1, c0, c1⟩, hn, m0, m1, q⟩ := h
      refine ⟨_, (pss_cons (ps_if (pt_cmpR op_gt (pe_ix ix_list (pv 0) pe_int (fun _ _ => rfl)) pe_int (nomark _)) (pss_cons (ps_set (i := 2) sc__law_take.nd rfl (Or.inl rfl) (pe_op op_mod (pe_ix ix_list (pv 0) pe_int (fun _ _ => rfl)) (pv 1)))
        (pss_cons (ps_asg (pe_op op_fdivW (pe_ix ix_list (pv 0) pe_int (fun _ _ => rfl)) (pv 1)) (pg_sub (pv 0) pe_int set_list))
        (pss_one (ps_ret (pv 2)))))
        pss_nil)
        (pss_cons (ps_asg (pe_op op_add (pe_ix ix_list (pv 0) pe_int (fun _ _ => rfl)) pe_int) (pg_sub (pv 0) pe_int set_list))
        (pss_cons (ps_set (i := 3) sc__law_take.nd rfl (Or.inl rfl) (pe_op op_mod (pe_op op_pow (pe_op op_add (pe_op op_add (pe_ix ix_list (pv 0) pe_int (fun _ _ => rfl)) (pe_op op_mulW pe_int (pe_ix ix_list (pv 0) pe_int (fun _ _ => rfl)))) pe_int) pe_int) pe_int))
        (pss_cons (ps_set (i := 4) sc__law_take.nd rfl (Or.inl rfl) (pe_op op_mod (pe_op op_pow (pe_op op_add (pe_op op_mulW (pe_ix ix_list (pv 0) pe_int (fun _ _ => rfl)) (pe_ix ix_list (pv 0) pe_int (fun _ _ => rfl))) pe_int) pe_int) pe_int))
        (pss_one (ps_ret (pe_op op_mod (pe_op op_fdivW (pe_op op_add (pv 3) (pe_op op_mulW pe_int (pv 4))) pe_int) (pv 1)))))))), ?_⟩
      (try dsimp only [cxOf, List.map])
      show VX _ _ [_, _, _, _, _] _ _
      walk_at "go"
      refine br (fun h1 => ?_) (fun h1 => ?_)
      · walk_at "go"
        refine ⟨_, 0, _, rfl, hp, rfl, ?_⟩
        walk_at "go"
        exact q _ _ (Int.emod_nonneg _ (by omega)) (Int.emod_lt_of_pos _ m0) ⟨_, _, _, put_same, b0, b1, c0, by omega⟩ .put
      · walk_at "go"
        refine ⟨_, 2, _, rfl, hp, rfl, ?_⟩
        have g1 : 0 ≤ b * (c + 1) := Int.mul_nonneg b0 (by omega)
        have g2 : b * (c + 1) ≤ 2147483648 * 1000001 := Int.mul_le_mul (by omega) (by omega) (by omega) (by decide)
        walk_at "go"
        exact q _ _ (Int.emod_nonneg _ (by omega)) (Int.emod_lt_of_pos _ m0) ⟨_, _, _, put_same, b0, b1, by omega, by omega⟩ .put) only [↓VS.box]
end
end LW
namespace LW
open PySem L2 C8 PySem.Spec PyProof.Rows VS
/-! ### the purse, further -/
theorem Pu.ne {S : Sto} {p l : Addr} {n : Int} (h : Pu S p n) (hl : S l = none) : p ≠ l := by
  obtain ⟨a, b, c, e, _⟩ := h
  exact ne_at e hl
theorem Pu.put {S : Sto} {p l : Addr} {n : Int} {d : D} (h : Pu S p n) (hl : S l = none) : Pu (put S l d) p n := by
  have ne := h.ne hl
  obtain ⟨a, b, c, e, r⟩ := h
  exact ⟨a, b, c, by rw [put_ne ne]; exact e, r⟩
theorem Pu.wr {S : Sto} {p l : Addr} {n : Int} {d : D} (h : Pu S p n) (ne : p ≠ l) : Pu (VS.put S l d) p n := by
  obtain ⟨a, b, c, e, r⟩ := h
  exact ⟨a, b, c, by rw [put_ne ne]; exact e, r⟩
theorem _root_.VS.Ex1.new {p l : Addr} {S S' : Sto} {d : D} (x : Ex1 p S S') (hl : S' l = none) : Ex1 p S (put S' l d) := fun q e n h => by
  have h' := x q e n h
  rw [put_ne]
  · exact h'
  · intro z; subst z; rw [hl] at h'; cases h'
theorem _root_.VS.Ex1.wr2 {p l : Addr} {S S' : Sto} {d : D} (x : Ex1 p S S') (hl : S l = none) : Ex1 p S (VS.put S' l d) := fun q e n h => by
  rw [put_ne]
  · exact x q e n h
  · intro z; subst z; rw [hl] at h; cases h
theorem _root_.VS.Ex1.dl {p l : Addr} {S S' : Sto} (x : Ex1 p S S') (hl : S l = none) : Ex1 p S (VS.del S' l) := fun q e n h => by
  rw [VS.del_ne]
  · exact x q e n h
  · intro z; subst z; rw [hl] at h; cases h
theorem list3 {α : Type} {xs : List α} (h : xs.length = 3) : ∃ a b c, xs = [a, b, c] := by
  match xs, h with
  | [a, b, c], _ => exact ⟨a, b, c, rfl⟩
theorem take_ok {S : Sto} {p : Addr} {n m : Int} {G : D → Sto → Prop} {Y : Addr → List (Str × D) → Sto → Prop} (h : Pu S p n) (hn : n < 1000000) (h0 : 0 < m) (h1 : m < 2 ^ 64)
    (q : ∀ (d : Int) (S' : Sto), 0 ≤ d → d < m → Pu S' p (n + 1) → Off p S S' → G (.int d) S') : p__law_take [.ref p, .int m] S G Y := ⟨p, n, m, rfl, h, hn, h0, h1, q⟩
theorem cell_ok {ns : List Int} {k : Nat} {S : Sto} {G : D → Sto → Prop} {Y : Addr → List (Str × D) → Sto → Prop} (hk : k < 1000) (q : ∀ z : Int, G (.int z) S) : p__law_cell [.rol (ns.map .int), .int k] S G Y := ⟨ns, k, rfl, hk, q⟩
theorem purse_ok {z : Int} {S : Sto} {G : D → Sto → Prop} {Y : Addr → List (Str × D) → Sto → Prop} (q : ∀ (p : Addr) (S' : Sto), S p = none → Pu S' p 0 → Off p S S' → G (.ref p) S') : p__law_purse [.int z] S G Y := ⟨z, rfl, q⟩
end LW
open LW
local macro_rules | `(tactic| walk_at "gp") => `(tactic| ((with_reducible apply take_ok); (· assumption); (· first | decide | omega); (· first | decide | omega); (· first | decide | omega)))
local macro_rules | `(tactic| walk_at "gp") => `(tactic| ((with_reducible apply cell_ok); (· omega); intro cell))
local macro_rules | `(tactic| walk_at "gp") => `(tactic| with_reducible refine purse_ok ?_)
namespace LW
open PySem L2 C8 PySem.Spec PyProof.Rows VS
/-- three sides as a list -/
def li (a b c : Int) : D := .lst [.int a, .int b, .int c]
def p__law_three : Pt := fun ds S G _ => ∃ (p : Addr) (n : Int), ds = [.ref p] ∧ Pu S p n ∧ n < 900000 ∧ ∀ a b c S', In1 a → In1 b → In1 c → Pu S' p (n + 20) → Ex1 p S S' → G (li a b c) S'
def p__law_turned : Pt := fun ds S G _ => ∃ a b c p, ds = [li a b c, .tup (p.map D.int)] ∧ p ∈ perms ∧ G (.lst ((tnl a b c p).map D.int)) S
def ordsD : List D := perms.map fun p => .tup (p.map D.int)
def p__law_orders : Pt := fun ds S G _ => ds = [] ∧ G (.lst ordsD) S
section
variable {P : Program} {w : World} {K : PySem.W.Frag} {mg : Str → Option Value} {base : Heap}
theorem ok__law_orders {f : Addr} {fd : FuncData} {C_Sides C_Parcel C_Heap C_Nest C_NoNumber C_NoSide C_NoSides C_NoOrder C_NoParcel C_NotInHeap : Addr}
    (F : Fd K "_law_orders" "_law_orders" s__law_orders [] f fd) (T : Tx K mg) (hsys : SysOk base) :
    FnG P w K mg base (L2.CX P w) 1 f fd a__law_orders (spOf K p__law_orders) := by
  refine VS.unbox ?_
  simp (disch := with_unfolding_all
    refine fn_val F sc__law_orders (fun ds S G Y h => ?_) (fun cdv A hgd outer s H E hr px tk po ds S G Y h => ?_)
    · obtain ⟨rfl, _⟩ := h
      rfl
    · obtain ⟨rfl, q⟩ := h
      refine ⟨_, (pss_one (ps_ret (pe_lst (pa_cons (pe_tup (pa_cons pe_int (pa_cons pe_int (pa_cons pe_int pa_nil)))) (pa_cons (pe_tup (pa_cons pe_int (pa_cons pe_int (pa_cons pe_int pa_nil)))) (pa_cons (pe_tup (pa_cons pe_int (pa_cons pe_int (pa_cons pe_int pa_nil)))) (pa_cons (pe_tup (pa_cons pe_int (pa_cons pe_int (pa_cons pe_int pa_nil)))) (pa_cons (pe_tup (pa_cons pe_int (pa_cons pe_int (pa_cons pe_int pa_nil)))) (pa_cons (pe_tup (pa_cons pe_int (pa_cons pe_int (pa_cons pe_int pa_nil)))) pa_nil))))))))), ?_⟩
      (try dsimp only [cxOf, List.map])
      show VX _ _ [] _ _
      walk_at "gv"
      exact q) only [↓VS.box]
end
end LW
namespace LW
open PySem L2 C8 PySem.Spec PyProof.Rows VS
/-! ### data as whole numbers, orders, Sides -/
end LW
namespace LW
open PySem L2 C8 PySem.Spec PyProof.Rows VS
/-! ### promises met at once -/
theorem told_ok {CS : Addr} {a b c : Int} {S : Sto} {G : D → Sto → Prop} {Y : Addr → List (Str × D) → Sto → Prop} (q : G (.tup [.int a, .int b, .int c]) S) : p_told CS [sd CS a b c] S G Y := ⟨a, b, c, rfl, q⟩
theorem ranked_ok {CS : Addr} {a b c : Int} {S : Sto} {G : D → Sto → Prop} {Y : Addr → List (Str × D) → Sto → Prop} (q : G (.tup ((dn [a, b, c]).map D.int)) S) : p_ranked CS [sd CS a b c] S G Y := ⟨a, b, c, rfl, q⟩
/-- Sides made of good numbers, by value -/
theorem ve_mkSd {c : VS.Ctx} {ρ : Rho} {S : Sto} {F : D → Sto → Prop} {t : TA} {E : L2.St → XK} {CS CX : Addr}
    (h : VA c t ρ S fun ds S1 => ∃ a b d, ds = [.int a, .int b, .int d] ∧ In1 a ∧ In1 b ∧ In1 d ∧ F (sd CS a b d) S1) : VE c (tMakeE CS (spOf c.K (p_Sides_init c.K CS CX)) [] E t) ρ S F :=
  ve_mk0 XOk.none (h.imp fun ds S1 ⟨a, b, d, e, ha, hb, hd, q⟩ y hy => by
    subst e
    exact init_ok ha hb hd hy ⟨rfl, y, _, rfl, put_same, nofun, by rw [del_put2 hy]; exact q⟩)
theorem ex_sd {a b d : Int} {G : Int → Int → Int → Prop} (ha : In1 a) (hb : In1 b) (hd : In1 d) (q : G a b d) : ∃ a' b' d', ([.int a, .int b, .int d] : List D) = [.int a', .int b', .int d'] ∧ In1 a' ∧ In1 b' ∧ In1 d' ∧ G a' b' d' := ⟨a, b, d, rfl, ha, hb, hd, q⟩
theorem lturn_ok {a b c : Int} {o : List Int} {S : Sto} {G : D → Sto → Prop} {Y : Addr → List (Str × D) → Sto → Prop} (ho : o ∈ perms) (q : G (.lst ((tnl a b c o).map D.int)) S) : p__law_turned [li a b c, .tup (o.map D.int)] S G Y := ⟨a, b, c, o, rfl, ho, q⟩
theorem lords_ok {S : Sto} {G : D → Sto → Prop} {Y : Addr → List (Str × D) → Sto → Prop} (q : G (.lst ordsD) S) : p__law_orders [] S G Y := ⟨rfl, q⟩
theorem lthree_ok {S : Sto} {p : Addr} {n : Int} {G : D → Sto → Prop} {Y : Addr → List (Str × D) → Sto → Prop} (h : Pu S p n) (hn : n < 900000) (q : ∀ a b c S', In1 a → In1 b → In1 c → Pu S' p (n + 20) → Ex1 p S S' → G (li a b c) S') : p__law_three [.ref p] S G Y := ⟨p, n, rfl, h, hn, q⟩
theorem li_at {a b c : Int} : atI [D.int a, .int b, .int c] 0 = some (.int a) ∧ atI [D.int a, .int b, .int c] 1 = some (.int b) ∧ atI [D.int a, .int b, .int c] 2 = some (.int c) := ⟨rfl, rfl, rfl⟩
section
variable {c : VS.Ctx} {S : Sto} {F : D → Sto → Prop}
theorem isi_sd {mg : Str → Option Value} {CS : Addr} {a b d : Int} (k : Kl_Sides c.K mg CS) (q : F (.bl true) S) : RC c (rIsiZ c.K) [sd CS a b d, .ref CS] S F := rc_isiO (.i .v k.ins) k.ins.me q
end
end LW
open LW
local macro_rules | `(tactic| walk_at "gp") => `(tactic| with_reducible refine told_ok ?_)
local macro_rules | `(tactic| walk_at "gp") => `(tactic| with_reducible refine ranked_ok ?_)
local macro_rules | `(tactic| walk_at "gp") => `(tactic| with_reducible refine ve_mkSd ?_)
local macro_rules | `(tactic| walk_at "gp") => `(tactic| ((with_reducible refine ex_sd ?_ ?_ ?_ ?_); (· first | assumption | (unfold In1 at *; omega)); (· first | assumption | (unfold In1 at *; omega)); (· first | assumption | (unfold In1 at *; omega))))
local macro_rules | `(tactic| walk_at "gp") => `(tactic| ((with_reducible refine lturn_ok ?_ ?_); (· assumption)))
local macro_rules | `(tactic| walk_at "gp") => `(tactic| with_reducible refine lords_ok ?_)
local macro_rules | `(tactic| walk_at "gp") => `(tactic| ((with_reducible apply lthree_ok); (· assumption); (· first | decide | omega)))
local macro_rules | `(tactic| walk_at "gp") => `(tactic| ((with_reducible apply isi_sd); (· assumption)))
local macro_rules | `(tactic| walk_at "gp") => `(tactic| ((with_reducible apply rv_ixL); (· exact .v); (· with_reducible exact li_at.1)))
local macro_rules | `(tactic| walk_at "gp") => `(tactic| ((with_reducible apply rv_ixL); (· exact .v); (· with_reducible exact li_at.2.1)))
local macro_rules | `(tactic| walk_at "gp") => `(tactic| ((with_reducible apply rv_ixL); (· exact .v); (· with_reducible exact li_at.2.2)))
namespace LW
open PySem L2 C8 PySem.Spec PyProof.Rows VS
theorem li_pick {a b c t : Int} (h0 : 0 ≤ t) (h1 : t < 3) {Q : Int → Prop} (ha : Q a) (hb : Q b) (hc : Q c) : ∃ r, atI [D.int a, .int b, .int c] t = some (.int r) ∧ Q r := by
  have : t = 0 ∨ t = 1 ∨ t = 2 := by omega
  rcases this with rfl | rfl | rfl
  · exact ⟨a, rfl, ha⟩
  · exact ⟨b, rfl, hb⟩
  · exact ⟨c, rfl, hc⟩
end LW
namespace LW
open PySem L2 C8 PySem.Spec PyProof.Rows VS
def sidesText (a b c : Int) : Str := Str.empty ++ "Sides(" ++ toString a ++ ", " ++ toString b ++ ", " ++ toString c ++ ")"
def p_repr (CS : Addr) : Pt := fun ds S G _ => ∃ a b c, ds = [sd CS a b c] ∧ In1 a ∧ In1 b ∧ In1 c ∧ G (.str (sidesText a b c)) S
theorem int_len {a : Int} (h : In1 a) : (Str.ofString (toString a)).length ≤ 22 ∧ a.natAbs.log2 < 1920 := by
  unfold In1 at h
  have sh := Sh.int (i := a) (k := 20) (by omega) (by decide) (by decide)
  exact ⟨sh.l, of_decide_eq_true sh.s⟩
section
variable {P : Program} {w : World} {K : PySem.W.Frag} {mg : Str → Option Value} {base : Heap}
theorem ok_Sides___repr__ {f : Addr} {fd : FuncData} {C_Sides C_Parcel C_Heap C_Nest C_NoNumber C_NoSide C_NoSides C_NoOrder C_NoParcel C_NotInHeap : Addr}
    (F : Fd K "__repr__" "Sides.__repr__" s_Sides___repr__ [] f fd) (T : Tx K mg) (hsys : SysOk base)
    (k_Sides : Kl_Sides K mg C_Sides) :
    FnG P w K mg base (L2.CX P w) 1 f fd a_Sides___repr__ (spOf K (p_repr C_Sides)) := by
  refine VS.unbox ?_
  simp (disch := with_unfolding_all
    have kc_Sides := k_Sides.ins.cl
    have ka_Sides_three := k_Sides.a_three
    refine fn_val F sc_Sides___repr__ (fun ds S G Y h => ?_) (fun cdv A hgd outer s H E hr px tk po ds S G Y h => ?_)
    · obtain ⟨a, b, c, rfl, _⟩ := h
      rfl
    · obtain ⟨a, b, c, rfl, ha, hb, hc, q⟩ := h
      refine ⟨_, (pss_cons (ps_asg (pe_fld (pv 0) rfl) (pg_tup (n := 3) rfl (pgs_cons (pg_name (i := 1) sc_Sides___repr__.nd rfl (Or.inl rfl)) (pgs_cons (pg_name (i := 2) sc_Sides___repr__.nd rfl (Or.inl rfl)) (pgs_cons (pg_name (i := 3) sc_Sides___repr__.nd rfl (Or.inl rfl)) pgs_nil)))))
        (pss_one (ps_ret (pe_joined (.cons pe_str (.cons (pe_fmt (pv 1)) (.cons pe_str (.cons (pe_fmt (pv 2)) (.cons pe_str (.cons (pe_fmt (pv 3)) (.cons pe_str .nil))))))))))), ?_⟩
      (try dsimp only [cxOf, List.map])
      show VX _ _ [_, _, _, _] _ _
      obtain ⟨la, ga⟩ := int_len ha
      obtain ⟨lb, gb⟩ := int_len hb
      obtain ⟨lc, gc⟩ := int_len hc
      walk_at "go"
      refine ⟨_, _, _, .v, k_Sides.ins.cl, k_Sides.a_three, rfl, ?_⟩
      walk_at "go"
      have l1 : Str.empty.length = 0 := rfl
      have l2 : (Str.ofString "Sides(").length = 6 := by decide
      have l3 : (Str.ofString ", ").length = 2 := by decide
      have l4 : (Str.ofString ")").length = 1 := by decide
      have z := szl
      refine ve_fstr (vj_cons ?_)
      walk_at "go"
      refine ⟨by simp only [PySem.Str.length_append]; omega, vj_cons (ve_fmtI ?_)⟩
      walk_at "go"
      refine ⟨ga, _, rfl, by simp only [PySem.Str.length_append]; omega, vj_cons ?_⟩
      walk_at "go"
      refine ⟨by simp only [PySem.Str.length_append]; omega, vj_cons (ve_fmtI ?_)⟩
      walk_at "go"
      refine ⟨gb, _, rfl, by simp only [PySem.Str.length_append]; omega, vj_cons ?_⟩
      walk_at "go"
      refine ⟨by simp only [PySem.Str.length_append]; omega, vj_cons (ve_fmtI ?_)⟩
      walk_at "go"
      refine ⟨gc, _, rfl, by simp only [PySem.Str.length_append]; omega, vj_cons ?_⟩
      walk_at "go"
      refine ⟨by simp only [PySem.Str.length_append]; omega, vj_nil ?_⟩
      exact q) only [↓VS.box]
end
end LW
namespace LW
open PySem L2 C8 PySem.Spec PyProof.Rows VS
/-! ### data that may be shown and compared -/
structure Ok (d : D) (n k : Nat) : Prop where
  sh : Sh d n k
  s : SeqAt.shaped (pd d) = true
  l : ∀ zs, d = .tup zs → zs.length ≤ 1000
theorem Ok.mono {d : D} {n m k j : Nat} (h : Ok d n k) (a : n ≤ m) (b : k ≤ j) : Ok d m j := ⟨h.sh.mono a b, h.s, h.l⟩
theorem ok_all {n k : Nat} : ∀ {ys : List D}, (∀ y ∈ ys, Ok y n k) → ShL ys (ys.length * (n + 2)) k ∧ PyData.canLayAll0 (pdL ys) = true ∧ PyData.depthAll (pdL ys) ≤ k
  | [], _ => ⟨ShL.nil.mono (Nat.zero_le _) (Nat.zero_le _), rfl, Nat.zero_le _⟩
  | y :: ys, h => by
    obtain ⟨a, b, c⟩ := ok_all (ys := ys) fun z hz => h z (List.mem_cons_of_mem _ hz)
    have hy := h y (List.mem_cons_self ..)
    have s' : ((pd y).canLay0 && decide ((pd y).depth ≤ 64)) = true := hy.s
    rw [Bool.and_eq_true] at s'
    refine ⟨(ShL.cons hy.sh a).mono (by rw [List.length_cons, Nat.succ_mul]; omega) (Nat.max_le.mpr ⟨Nat.le_refl _, Nat.le_refl _⟩), ?_, Nat.max_le.mpr ⟨hy.sh.d, c⟩⟩
    show ((pd y).canLay0 && PyData.canLayAll0 (pdL ys)) = true
    rw [s'.1, b]; rfl
theorem Ok.tup {ys : List D} {n k : Nat} (m : Nat) (h : ∀ y ∈ ys, Ok y n k) (hl : ys.length ≤ m) (hm : m ≤ 1000) (hk : k + 1 ≤ 64) : Ok (.tup ys) (m * (n + 2) + 3) (k + 1) := by
  obtain ⟨a, b, c⟩ := ok_all h
  refine ⟨Sh.tup (a.mono (Nat.mul_le_mul_right _ hl) (Nat.le_refl _)), ?_, fun zs e => by injection e with e; rw [← e]; omega⟩
  show (PyData.canLayAll0 (pdL ys) && decide (PyData.depthAll (pdL ys) + 1 ≤ 64)) = true
  rw [b, decide_eq_true (by omega)]; rfl
theorem Ok.lst {ys : List D} {n k : Nat} (m : Nat) (h : ∀ y ∈ ys, Ok y n k) (hl : ys.length ≤ m) (hk : k + 1 ≤ 64) : Ok (.lst ys) (m * (n + 2) + 2) (k + 1) := by
  obtain ⟨a, b, c⟩ := ok_all h
  refine ⟨Sh.lst (a.mono (Nat.mul_le_mul_right _ hl) (Nat.le_refl _)), ?_, nofun⟩
  show (PyData.canLayAll0 (pdL ys) && decide (PyData.depthAll (pdL ys) + 1 ≤ 64)) = true
  rw [b, decide_eq_true (by omega)]; rfl
theorem ok_int {i : Int} (h : -(2 ^ 60) ≤ i ∧ i ≤ 2 ^ 60) : Ok (.int i) 200 2 := ⟨(Sh.int (k := 64) (by omega) (by decide) (by decide)).mono (by decide) (by decide), rfl, nofun⟩
theorem ok_of {d : D} (h : (isP d && ((pd d).showable && (decide ((pd d).shown.length ≤ 200) && (decide ((pd d).depth ≤ 2) && SeqAt.shaped (pd d))))) = true) (l : ∀ zs, d = .tup zs → zs.length ≤ 1000 := by nofun) : Ok d 200 2 := by
  simp only [Bool.and_eq_true, decide_eq_true_eq] at h
  exact ⟨⟨h.1, h.2.1, h.2.2.1, h.2.2.2.1⟩, h.2.2.2.2, l⟩
theorem all2 {Q : D → Prop} {a b : D} (h1 : Q a) (h2 : Q b) : ∀ y ∈ [a, b], Q y := fun y hy => by
  simp only [List.mem_cons, List.not_mem_nil, or_false] at hy
  rcases hy with rfl | rfl <;> assumption
theorem all3 {Q : D → Prop} {a b c : D} (h1 : Q a) (h2 : Q b) (h3 : Q c) : ∀ y ∈ [a, b, c], Q y := fun y hy => by
  simp only [List.mem_cons, List.not_mem_nil, or_false] at hy
  rcases hy with rfl | rfl | rfl <;> assumption
end LW
namespace LW
open PySem L2 C8 PySem.Spec PyProof.Rows VS
end LW
namespace LW
open PySem L2 C8 PySem.Spec PyProof.Rows VS
/-! ### names -/
def lcN (n : Nat) : Bool := decide (n ∈ ("abcdefghijklmnopqrstuvwxyz" : Str).cps.toList)
def lcs (x : Str) : Bool := x.cps.toList.all lcN
def nmB (x : Str) : Bool := (decide (1 ≤ (x.length : Int)) && decide ((x.length : Int) ≤ 8)) && lcs x
def p_is_name (K : PySem.W.Frag) : Pt := fun ds S G _ => ∃ d, ds = [d] ∧ ((∃ x : Str, d = .str x ∧ x.length ≤ 100000 ∧ G (.bl (nmB x)) S) ∨ ∃ t, OfC K S d t ∧ PySem.W.kitOne K t (.type "str") = some false ∧ G (.bl false) S)
theorem lcN_iff {n : Nat} : lcN n = true ↔ 97 ≤ n ∧ n ≤ 122 := by
  unfold lcN
  rw [decide_eq_true_eq]
  have e : ("abcdefghijklmnopqrstuvwxyz" : Str).cps.toList = [97, 98, 99, 100, 101, 102, 103, 104, 105, 106, 107, 108, 109, 110, 111, 112, 113, 114, 115, 116, 117, 118, 119, 120, 121, 122] := by decide +kernel
  rw [e]
  simp only [List.mem_cons, List.not_mem_nil, or_false]
  omega
theorem sum_le {n : Nat} : ∀ {ys : List Str}, (∀ y ∈ ys, y.length ≤ n) → (ys.map (·.length)).sum ≤ n * ys.length
  | [], _ => Nat.zero_le _
  | y :: ys, h => by
    have a := h y (.head _)
    have b := sum_le fun z hz => h z (.tail _ hz)
    rw [List.map_cons, List.sum_cons, List.length_cons, Nat.mul_succ]
    omega
/-- a word: small letters alone -/
def Lw (n : Nat) (z : Str) : Prop := z.length ≤ n ∧ ∀ c ∈ z.cps.toList, lcN c = true
theorem Lw.asc {n : Nat} {z : Str} (h : Lw n z) : Asc n z := ⟨h.1, fun c hc => by have := (lcN_iff.mp (h.2 c hc)).2; omega⟩
theorem Lw.mono {n m : Nat} {z : Str} (h : Lw n z) (l : n ≤ m) : Lw m z := ⟨Nat.le_trans h.1 l, h.2⟩
theorem Lw.add {n m : Nat} {x y : Str} (h : Lw n x) (k : Lw m y) : Lw (n + m) (x ++ y) := by
  refine ⟨by rw [len_add]; exact Nat.add_le_add h.1 k.1, fun c hc => ?_⟩
  rw [tl_add] at hc
  exact (List.mem_append.mp hc).elim (h.2 c) (k.2 c)
theorem Lw.cut {n : Nat} {x : Str} (h : Lw n x) (lo hi : Option Int) : Lw n (cutS x lo hi) := by
  refine ⟨Nat.le_trans (cutS_length x lo hi) h.1, fun c hc => h.2 c ?_⟩
  have hc' : c ∈ (x.cps.toList.drop (HT.sIx x.length 0 lo)).take (HT.sIx x.length x.length hi - HT.sIx x.length 0 lo) := hc
  exact List.mem_of_mem_drop (List.mem_of_mem_take hc')
theorem Lw.join0 {n : Nat} {ys : List Str} (h : ∀ y ∈ ys, Lw 1 y) (hl : ys.length ≤ n) : Lw n (Txt.join ("" : Str) ys) := by
  refine ⟨(Asc.join0 (fun y hy => (h y hy).asc) hl).1, fun c hc => ?_⟩
  rw [tl_join0] at hc
  obtain ⟨l, hl1, hl2⟩ := List.mem_flatten.mp hc
  obtain ⟨y, hy, rfl⟩ := List.mem_map.mp hl1
  exact (h y hy).2 c hl2
theorem Lw.one {n : Nat} (h : lcN n = true) : Lw 1 ⟨#[n]⟩ := ⟨Nat.le_refl _, fun c hc => by
  have : c = n := by simpa using hc
  rw [this]; exact h⟩
theorem Lw.lit {n : Nat} {z : Str} (h : (decide (z.length ≤ n) && z.cps.toList.all lcN) = true) : Lw n z := by
  rw [Bool.and_eq_true, decide_eq_true_eq, List.all_eq_true] at h
  exact ⟨h.1, fun c hc => h.2 c hc⟩
/-- a good name -/
def Nm (z : Str) : Prop := Lw 8 z ∧ 1 ≤ z.length
theorem Nm.ok {z : Str} (h : Nm z) : nmB z = true := by
  unfold nmB lcs
  rw [decide_eq_true (by have := h.2; omega), decide_eq_true (by have := h.1.1; omega), List.all_eq_true.mpr h.1.2]
  rfl
theorem lett_at {i : Int} (h0 : 0 ≤ i) (h1 : i < 26) : ∃ n, atI ("abcdefghijklmnopqrstuvwxyz" : Str).cps.toList i = some n ∧ lcN n = true := by
  obtain ⟨n, hn, e⟩ := atI_mem (xs := ("abcdefghijklmnopqrstuvwxyz" : Str).cps.toList) h0 (by rw [show ("abcdefghijklmnopqrstuvwxyz" : Str).cps.toList.length = 26 from by decide +kernel]; exact h1)
  exact ⟨n, e, decide_eq_true hn⟩
def lcD : D → D
  | .str y => .bl (lcN (y.cps.toList.headD 0))
  | _ => .non
theorem lcD_signs (x : Str) : (signsD x).map lcD = (x.cps.toList.map lcN).map D.bl := by
  unfold signsD
  rw [List.map_map, List.map_map]
  rfl
theorem lcs_all (x : Str) : (x.cps.toList.map lcN).all id = lcs x := by
  unfold lcs
  rw [List.all_map]
  rfl
theorem name_ok {K : PySem.W.Frag} {x : Str} {S : Sto} {G : D → Sto → Prop} {Y : Addr → List (Str × D) → Sto → Prop} (h : nmB x = true) (hl : x.length ≤ 100000) (q : G (.bl true) S) : p_is_name K [.str x] S G Y :=
  ⟨_, rfl, .inl ⟨x, rfl, hl, by rw [h]; exact q⟩⟩
section
variable {P : Program} {w : World} {K : PySem.W.Frag} {mg : Str → Option Value} {base : Heap}
theorem ok_is_name {f : Addr} {fd : FuncData} {C_Sides C_Parcel C_Heap C_Nest C_NoNumber C_NoSide C_NoSides C_NoOrder C_NoParcel C_NotInHeap : Addr}
    (F : Fd K "is_name" "is_name" s_is_name [] f fd) (T : Tx K mg) (hsys : SysOk base) :
    FnG P w K mg base (L2.CX P w) 1 f fd a_is_name (spOf K (p_is_name K)) := by
  refine VS.unbox ?_
  simp (disch := with_unfolding_all
    refine fn_val F sc_is_name (fun ds S G Y h => ?_) (fun cdv A hgd outer s H E hr px tk po ds S G Y h => ?_)
    · obtain ⟨d, rfl, _⟩ := h
      rfl
    · obtain ⟨d, rfl, h⟩ := h
      refine ⟨_, (pss_cons (ps_if (PW.pt (pw_or (pt_not (pt_val (pe_callB c_isiZ (by rfl) T.b_isinstance (by decide +kernel) (pa_cons (pv 0) (pa_cons (pe_bltn (v := .ty "str") (by rfl) T.b_str (by decide +kernel) rfl) pa_nil))))) (pw_or1 (pt_not (pt_chain op_le op_le pe_int (pe_callB c_len (by rfl) T.b_len (by decide +kernel) (pa_cons (pv 0) pa_nil)) pe_int))))) (pss_one (ps_ret pe_bl))
        pss_nil)
        (pss_one (ps_ret (pe_callB (cr_all rfl) (by rfl) T.b_all (by decide +kernel) (pa_cons (pe_lc (own := [("sign", 1)]) rfl sc_is_name.nd (pi_str (pv 0)) (blkOk_by (own := [("sign", 1)]) (N := n_is_name) (sc := defScope s_is_name) (by decide +kernel)) (fun _ _ _ _ _ => (pg_name (i := 1) sc_is_name.nd rfl (Or.inl rfl))) (fun _ _ _ _ _ => pts_nil) (fun _ _ _ _ _ => (pe_cmpR op_inStr (pv 1) (pe_gc (by rfl) T.c_LETTERS) (by rfl)))) pa_nil))))), ?_⟩
      (try dsimp only [cxOf, List.map])
      show VX _ _ [_, _] _ _
      walk_at "ga"
      rcases h with ⟨x, rfl, hl, q⟩ | ⟨t, ot, kt, q⟩
      · walk_at "ga"
        have no : ¬ (1 ≤ (x.length : Int) ∧ (x.length : Int) ≤ 8) → nmB x = false := fun z => by
          unfold nmB
          by_cases z1 : 1 ≤ (x.length : Int)
          · by_cases z2 : (x.length : Int) ≤ 8
            · exact absurd ⟨z1, z2⟩ z
            · rw [decide_eq_false z2, Bool.and_false, Bool.false_and]
          · rw [decide_eq_false z1, Bool.false_and, Bool.false_and]
        refine br (fun h1 => ?_) (fun h1 => ?_)
        · walk_at "ga"
          refine brN (fun h2 => ?_) (fun h2 => ?_)
          · walk_at "ga"
            rw [no (fun z => h2 z.2)] at q
            exact q
          · walk_at "ga"
            refine ve_lcM lcD (vi_str ?_)
            walk_at "ga"
            refine ⟨by unfold signsD; rw [List.length_map]; show x.cps.size ≤ 100000; exact hl, fun d hd => ?_, ?_⟩
            · obtain ⟨n, _, rfl⟩ := List.mem_map.mp hd
              walk_at "ga"
              refine ⟨rfl, ?_⟩
              walk_at "ga"
              exact ⟨rfl, rfl⟩
            · rw [lcD_signs]
              walk_at "ga"
              refine rc_all (bs := x.cps.toList.map lcN) .v ?_
              walk_at "ga"
              rw [lcs_all]
              have e : nmB x = lcs x := by
                unfold nmB
                rw [decide_eq_true h1, decide_eq_true h2, Bool.true_and, Bool.true_and]
              rw [← e]
              exact q
        · walk_at "ga"
          rw [no (fun z => h1 z.1)] at q
          exact q
      · refine rc_isiP ot kt ?_
        walk_at "ga"
        exact q) only [↓VS.box]
end
end LW
namespace LW
open PySem L2 C8 PySem.Spec PyProof.Rows VS
/-! ### parcels by value, well made -/
def labs : List Str := ["alone", "top", "upright"]
/-- good labels -/
structure Mk (ms : List Str) : Prop where
  l : ms.length ≤ 3
  e : ∀ m ∈ ms, m ∈ labs
  n : ms.Nodup
def mksOf (ms : List Str) : List Str := labs.filter fun m => decide (m ∈ ms)
def pcD (CP CS : Addr) (nm : Str) (a b c wl wt br : Int) (mk : List Str) : D := .ins CP [("called", .str nm), ("outside", sd CS a b c), ("thick", .int wl), ("heavy", .int wt), ("strong", .int br), ("marks", .lst (mk.map D.str))]
structure Pg (nm : Str) (a b c wl wt br : Int) (mk : List Str) : Prop where
  gn : nmB nm = true
  ln : nm.length ≤ 8
  a : In1 a
  b : In1 b
  c : In1 c
  wl : 1 ≤ wl ∧ wl ≤ 1000
  wt : 0 ≤ wt ∧ wt ≤ 100000
  br : 0 ≤ br ∧ br ≤ 100000
  lb : Mk mk
def p_are_labels : Pt := fun ds S G _ => ∃ ms : List Str, ds = [.lst (ms.map D.str)] ∧ Mk ms ∧ G (.bl true) S
def p_room_in (CS : Addr) : Pt := fun ds S G _ => ∃ a b c w, ds = [sd CS a b c, .int w] ∧ In1 a ∧ In1 b ∧ In1 c ∧ 1 ≤ w ∧ w ≤ 1000 ∧
  (min (min (a - 2 * w) (b - 2 * w)) (c - 2 * w) < 1 → G .non S) ∧ (¬ min (min (a - 2 * w) (b - 2 * w)) (c - 2 * w) < 1 → G (sd CS (a - 2 * w) (b - 2 * w) (c - 2 * w)) S)
def p_Pc_init (CP CS : Addr) : Pt := fun ds S G _ => ∃ y nm a b c wl wt br mk, ds = [.ref y, .str nm, sd CS a b c, .int wl, .int wt, .int br, .lst (mk.map D.str)] ∧ S y = some (.ins CP []) ∧ Pg nm a b c wl wt br mk ∧
  G .non (put S y (pcD CP CS nm a b c wl wt br (mksOf mk)))
def p_Pc_name (CP CS : Addr) : Pt := fun ds S G _ => ∃ nm a b c wl wt br mk, ds = [pcD CP CS nm a b c wl wt br mk] ∧ G (.str nm) S
abbrev noRoom (a b c w : Int) : Prop := min (min (a - 2 * w) (b - 2 * w)) (c - 2 * w) < 1
def p_Pc_room (CP CS : Addr) : Pt := fun ds S G _ => ∃ nm a b c wl wt br mk, ds = [pcD CP CS nm a b c wl wt br mk] ∧ Pg nm a b c wl wt br mk ∧ (noRoom a b c wl → G .non S) ∧ (¬ noRoom a b c wl → G (sd CS (a - 2 * wl) (b - 2 * wl) (c - 2 * wl)) S)
theorem flat_strs : ∀ ms : List Str, (ms.map D.str).all flatD = true
  | [] => rfl
  | m :: ms => by
    rw [List.map_cons, List.all_cons, flat_strs ms]
    rfl
theorem inD_strs {m : Str} (ms : List Str) : inD (.str m) (ms.map D.str) = decide (m ∈ ms) := by
  unfold inD
  rw [List.any_map, Bool.eq_iff_iff, List.any_eq_true, decide_eq_true_eq]
  exact ⟨fun ⟨x, hx, e⟩ => by have e : (x == m) = true := e; rw [← eq_of_beq e]; exact hx, fun h => ⟨m, h, by show (m == m) = true; exact beq_self_eq_true m⟩⟩
def pgoD (nm : Str) (a b c : Int) (mk : List Str) (nm' : Str) (x y z wl' : Int) (mk' : List Str) (sp : Int) : D :=
  if ("alone" : Str) ∈ mk then .tup [.str "alone", .str nm] else if ("alone" : Str) ∈ mk' then .tup [.str "alone", .str nm'] else
  if noRoom x y z wl' then .tup [.str "solid"] else goesD a b c (x - 2 * wl') (y - 2 * wl') (z - 2 * wl') sp
def p_Pc_goes (K : PySem.W.Frag) (CP CS CX CN : Addr) : Pt := fun ds S G Y => ∃ nm a b c wl wt br mk d sp, ds = [pcD CP CS nm a b c wl wt br mk, d, sp] ∧ Pg nm a b c wl wt br mk ∧
  ((∃ t, OfC K S d t ∧ PySem.W.kitOne K t (.ref CP) = some false ∧ Y CX [("found", d)] S) ∨
   ∃ nm' x y z wl' wt' br' mk', d = pcD CP CS nm' x y z wl' wt' br' mk' ∧ Pg nm' x y z wl' wt' br' mk' ∧ ∃ o, Wh K S sp o ∧ (whB o 0 1000 = false → Y CN [("found", sp)] S) ∧ ∀ i, sp = .int i → 0 ≤ i → i ≤ 1000 → G (pgoD nm a b c mk nm' x y z wl' mk' i) S)
theorem Pg.asc {nm : Str} {a b c wl wt br : Int} {mk : List Str} (g : Pg nm a b c wl wt br mk) : Asc 8 nm := by
  refine ⟨g.ln, fun c hc => ?_⟩
  have h := g.gn
  unfold nmB at h
  rw [Bool.and_eq_true] at h
  have h2 := List.all_eq_true.mp h.2 c hc
  have := (lcN_iff.mp h2).2
  omega
theorem labs_in {m : Str} : inD (.str m) [.str "alone", .str "top", .str "upright"] = decide (m ∈ labs) := by
  unfold inD labs
  simp only [List.any_cons, List.any_nil, Bool.or_false, List.mem_cons, List.not_mem_nil, or_false]
  rw [Bool.eq_iff_iff]
  simp only [eqD, Bool.or_eq_true, beq_iff_eq, decide_eq_true_eq]
  exact ⟨fun h => h.imp Eq.symm (·.imp Eq.symm Eq.symm), fun h => h.imp Eq.symm (·.imp Eq.symm Eq.symm)⟩
theorem wh_ok {K : PySem.W.Frag} {i lo hi : Int} (h : lo ≤ i ∧ i ≤ hi) {S : Sto} {G : D → Sto → Prop} {Y : Addr → List (Str × D) → Sto → Prop} (q : G (.bl true) S) : p_is_whole K [.int i, .int lo, .int hi] S G Y :=
  ⟨_, _, lo, hi, rfl, .i i, by rw [whB_of h]; exact q⟩
section
variable {P : Program} {w : World} {K : PySem.W.Frag} {mg : Str → Option Value} {base : Heap}
theorem ok_are_labels {f : Addr} {fd : FuncData} {C_Sides C_Parcel C_Heap C_Nest C_NoNumber C_NoSide C_NoSides C_NoOrder C_NoParcel C_NotInHeap : Addr}
    (F : Fd K "are_labels" "are_labels" s_are_labels [] f fd) (T : Tx K mg) (hsys : SysOk base) :
    FnG P w K mg base (L2.CX P w) 1 f fd a_are_labels (spOf K p_are_labels) := by
  refine VS.unbox ?_
  simp (disch := with_unfolding_all
    refine fn_val F sc_are_labels (fun ds S G Y h => ?_) (fun cdv A hgd outer s H E hr px tk po ds S G Y h => ?_)
    · obtain ⟨ms, rfl, _⟩ := h
      rfl
    · obtain ⟨ms, rfl, hm, q⟩ := h
      obtain ⟨aL, hL, rL⟩ := T.c_LABELS
      refine ⟨_, (pss_cons (ps_if (pt_cmpR op_isNo (pv 0) pe_non (nomark _)) (pss_one (ps_ret pe_bl))
        pss_nil)
        (pss_cons (ps_if (PW.pt (pw_or (pt_not (pt_val (pe_callB c_isiV (by rfl) T.b_isinstance (by decide +kernel) (pa_cons (pv 0) (pa_cons (pe_tup (pa_cons (pe_bltn (v := .ty "list") (by rfl) T.b_list (by decide +kernel) rfl) (pa_cons (pe_bltn (v := .ty "tuple") (by rfl) T.b_tuple (by decide +kernel) rfl) pa_nil))) pa_nil))))) (pw_or1 (pt_cmpR op_gt (pe_callB c_len (by rfl) T.b_len (by decide +kernel) (pa_cons (pv 0) pa_nil)) (pe_callB c_len (by rfl) T.b_len (by decide +kernel) (pa_cons (pe_kd (by rfl) hL) pa_nil)) (nomark _))))) (pss_one (ps_ret pe_bl))
        pss_nil)
        (pss_cons (ps_if (pt_not (pt_val (pe_callB (cr_all rfl) (by rfl) T.b_all (by decide +kernel) (pa_cons (pe_lc (own := [("word", 1)]) rfl sc_are_labels.nd (pi_list (pv 0)) (blkOk_by (own := [("word", 1)]) (N := n_are_labels) (sc := defScope s_are_labels) (by decide +kernel)) (fun _ _ _ _ _ => (pg_name (i := 1) sc_are_labels.nd rfl (Or.inl rfl))) (fun _ _ _ _ _ => pts_nil) (fun _ _ _ _ _ => (pe_and (pe_callB (kC (K := K) (r := rIsiZ) c_isiZ) (by rfl) T.b_isinstance (by decide +kernel) (pa_cons (pv 1) (pa_cons (pe_bltn (v := .ty "str") (by rfl) T.b_str (by decide +kernel) rfl) pa_nil))) (pe_one (pe_cmpR (kO (K := K) (r := (fun K => rIn K false)) op_in_seq) (pv 1) (pe_kd (by rfl) hL) (by rfl)))))) pa_nil)))) (pss_one (ps_ret pe_bl))
        pss_nil)
        (pss_one (ps_ret (pe_cmpR op_eq (pe_lenS (by rfl) T.b_len (by rfl) T.b_set (pv 0)) (pe_callB c_len (by rfl) T.b_len (by decide +kernel) (pa_cons (pv 0) pa_nil)) (nomark _))))))), ?_⟩
      (try dsimp only [cxOf, List.map])
      show VX _ _ [_, _] _ _
      walk_at "ga"
      refine rc_isiLT (.v (isP_strs ms)) ?_
      walk_at "ga"
      refine br (fun h => ?_) (fun _ => ?_)
      · have := hm.l
        simp only [List.length_map] at h
        have h : (ms.length : Int) > 3 := h
        omega
      walk_at "ga"
      refine ve_lcM (fun _ => .bl true) (vi_list ?_)
      walk_at "ga"
      refine ⟨_, .v, ?_⟩
      have len := hm.l
      refine ⟨by rw [List.length_map]; omega, fun d hd => ?_, ?_⟩
      · obtain ⟨m, hm', rfl⟩ := List.mem_map.mp hd
        have el := hm.e m hm'
        walk_at "ga"
        refine ⟨rfl, ?_⟩
        walk_at "ga"
        refine rv_in .t rfl rfl ?_
        rw [labs_in, decide_eq_true el]
        exact ⟨rfl, rfl⟩
      walk_at "ga"
      refine rc_all (bs := ms.map fun _ => true) (by rw [List.map_map, List.map_map]; exact .v) ?_
      walk_at "ga"
      have al : (ms.map fun _ => true).all id = true := by
        rw [List.all_eq_true]
        intro b hb
        obtain ⟨_, _, rfl⟩ := List.mem_map.mp hb
        rfl
      rw [al]
      walk_at "ga"
      refine ve_lenS ?_
      walk_at "ga"
      refine ⟨ms, .l .v, by omega, ?_⟩
      walk_at "ga"
      rw [unl_nodup hm.n _ (Nat.le_refl _), List.length_map, decide_eq_true rfl]
      exact q) only [↓VS.box]
theorem ok_room_in {f : Addr} {fd : FuncData} {C_Sides C_Parcel C_Heap C_Nest C_NoNumber C_NoSide C_NoSides C_NoOrder C_NoParcel C_NotInHeap : Addr} {f_Sides f_Sides_told : Addr} {g_Sides g_Sides_told : FuncData}
    (F : Fd K "room_in" "room_in" s_room_in [] f fd) (T : Tx K mg) (hsys : SysOk base)
    (c_Sides : Kf P w K mg base 3 "Sides" C_Sides "Sides.__init__" s_Sides___init__ [] a_Sides___init__ (p_Sides_init K C_Sides C_NoSide) f_Sides g_Sides)
    (c_Sides_told : Mf P w K mg base 1 C_Sides "told" "Sides.told" s_Sides_told [] a_Sides_told (p_told C_Sides) f_Sides_told g_Sides_told)
    (k_Sides : Kl_Sides K mg C_Sides) :
    FnG P w K mg base (L2.CX P w) 5 f fd a_room_in (spOf K (p_room_in C_Sides)) := by
  refine VS.unbox ?_
  simp (disch := with_unfolding_all
    have kc_Sides := k_Sides.ins.cl
    have ka_Sides_three := k_Sides.a_three
    refine fn_val F sc_room_in (fun ds S G Y h => ?_) (fun cdv A hgd outer s H E hr px tk po ds S G Y h => ?_)
    · obtain ⟨a, b, c, wl, rfl, _⟩ := h
      rfl
    · obtain ⟨a, b, c, wl, rfl, ha, hb, hc, h1, h2, q1, q2⟩ := h
      refine ⟨_, (pss_cons (ps_asg (pe_lc (own := [("side", 5)]) rfl sc_room_in.nd (pi_tup (pe_mG0 (pv 0) c_Sides_told.cl c_Sides_told.me c_Sides_told.fn hgd (hr.mono (by decide)) c_Sides_told.b .nil VS.pass0)) (blkOk_by (own := [("side", 5)]) (N := n_room_in) (sc := defScope s_room_in) (by decide +kernel)) (fun _ _ _ _ _ => (pg_name (i := 5) sc_room_in.nd rfl (Or.inl rfl))) (fun _ _ _ _ _ => pts_nil) (fun _ _ _ _ _ => (pe_op op_sub (pv 5) (pe_op op_mulW pe_int (pv 1))))) (pg_unl (n := 3) rfl (pgs_cons (pg_name (i := 2) sc_room_in.nd rfl (Or.inl rfl)) (pgs_cons (pg_name (i := 3) sc_room_in.nd rfl (Or.inl rfl)) (pgs_cons (pg_name (i := 4) sc_room_in.nd rfl (Or.inl rfl)) pgs_nil)))))
        (pss_cons (ps_if (pt_cmpR op_lt (pe_callB (c_min3 rfl) (by rfl) T.b_min (by decide +kernel) (pa_cons (pv 2) (pa_cons (pv 3) (pa_cons (pv 4) pa_nil)))) pe_int (nomark _)) (pss_one (ps_ret pe_non))
        pss_nil)
        (pss_one (ps_ret (pe_kG c_Sides.mk_ c_Sides.fn hgd (hr.mono (by decide)) (by rfl) c_Sides.mg  c_Sides.b .nil VS.pass0 (pa_cons (pv 2) (pa_cons (pv 3) (pa_cons (pv 4) pa_nil)))))))), ?_⟩
      (try dsimp only [cxOf, List.map])
      show VX _ _ [_, _, _, _, _, _] _ _
      walk_at "ga"
      refine ve_lcM (fun d => match d with | .int i => .int (i - 2 * wl) | _ => .non) (vi_tup ?_)
      walk_at "ga"
      have step : ∀ i : Int, In1 i → i - 2 * wl < 2 ^ 63 := fun i hi => by unfold In1 at hi; omega
      refine ⟨_, rfl, by show 3 ≤ 100000; decide, all3 ?_ ?_ ?_, ?_⟩
      · walk_at "ga"
        refine ⟨rfl, ?_⟩
        walk_at "ga"
        exact ⟨rfl, rfl⟩
      · walk_at "ga"
        refine ⟨rfl, ?_⟩
        walk_at "ga"
        exact ⟨rfl, rfl⟩
      · walk_at "ga"
        refine ⟨rfl, ?_⟩
        walk_at "ga"
        exact ⟨rfl, rfl⟩
      refine vg_unl .v rfl ?_
      show VGs _ _ [.int (a - 2 * wl), .int (b - 2 * wl), .int (c - 2 * wl)] _ _ _
      walk_at "ga"
      refine rc_min3 ?_
      walk_at "ga"
      refine br (fun h => ?_) (fun h => ?_)
      · walk_at "ga"
        exact q1 h
      · walk_at "ga"
        exact q2 h) only [↓VS.box]
theorem ok_Parcel___init__ {f : Addr} {fd : FuncData} {C_Sides C_Parcel C_Heap C_Nest C_NoNumber C_NoSide C_NoSides C_NoOrder C_NoParcel C_NotInHeap : Addr} {f_is_name f_is_whole f_are_labels : Addr} {g_is_name g_is_whole g_are_labels : FuncData}
    (F : Fd K "__init__" "Parcel.__init__" s_Parcel___init__ [.int 1, .int 0, .int 0, .non] f fd) (T : Tx K mg) (hsys : SysOk base)
    (c_is_name : Cf P w K mg base (L2.CX P w) 1 "is_name" s_is_name [] a_is_name (p_is_name K) f_is_name g_is_name)
    (c_is_whole : Cf P w K mg base (L2.CX P w) 1 "is_whole" s_is_whole [] a_is_whole (p_is_whole K) f_is_whole g_is_whole)
    (c_are_labels : Cf P w K mg base (L2.CX P w) 1 "are_labels" s_are_labels [] a_are_labels p_are_labels f_are_labels g_are_labels)
    (k_Sides : Kl_Sides K mg C_Sides)
    (k_Parcel : Kl_Parcel K mg C_Parcel) :
    FnG P w K mg base (L2.CX P w) 3 f fd a_Parcel___init__ (spOf K (p_Pc_init C_Parcel C_Sides)) := by
  refine VS.unbox ?_
  simp (disch := with_unfolding_all
    have kc_Sides := k_Sides.ins.cl
    have ka_Sides_three := k_Sides.a_three
    have kc_Parcel := k_Parcel.ins.cl
    have ka_Parcel_called := k_Parcel.a_called
    have ka_Parcel_outside := k_Parcel.a_outside
    have ka_Parcel_thick := k_Parcel.a_thick
    have ka_Parcel_heavy := k_Parcel.a_heavy
    have ka_Parcel_strong := k_Parcel.a_strong
    have ka_Parcel_marks := k_Parcel.a_marks
    have ka_Parcel_told := k_Parcel.a_told
    have ka_Parcel_names := k_Parcel.a_names
    refine fn_val F sc_Parcel___init__ (fun ds S G Y h => ?_) (fun cdv A hgd outer s H E hr px tk po ds S G Y h => ?_)
    · obtain ⟨y, nm, a, b, c, wl, wt, br, mk, rfl, _⟩ := h
      rfl
    · obtain ⟨y, nm, a, b, c, wl, wt, br, mk, rfl, hy, g, q⟩ := h
      obtain ⟨aL, hL, rL⟩ := T.c_LABELS
      refine ⟨_, (pss_cons (ps_if (pt_not (pt_val (pe_cG c_is_name.fn hgd (hr.mono (by decide)) (by rfl) c_is_name.mg c_is_name.kp c_is_name.b .nil VS.pass0 (pa_cons (pv 1) pa_nil)))) (pss_one ps_nev)
        pss_nil)
        (pss_cons (ps_if (pt_not (pt_val (pe_callB c_isiZ (by rfl) T.b_isinstance (by decide +kernel) (pa_cons (pv 2) (pa_cons (pe_gc (v := .ref C_Sides) (by rfl) ⟨_, k_Sides.at_, rfl⟩) pa_nil))))) (pss_one ps_nev)
        pss_nil)
        (pss_cons (ps_if (pt_not (pt_val (pe_cG c_is_whole.fn hgd (hr.mono (by decide)) (by rfl) c_is_whole.mg c_is_whole.kp c_is_whole.b .nil VS.pass0 (pa_cons (pv 3) (pa_cons pe_int (pa_cons (pe_gc (by rfl) T.c_MOST_WALL) pa_nil)))))) (pss_one ps_nev)
        pss_nil)
        (pss_cons (ps_for po rfl (pi_tup (pe_tup (pa_cons (pv 4) (pa_cons (pv 5) pa_nil)))) (pg_name (i := 7) sc_Parcel___init__.nd rfl (Or.inl rfl))
        (pss_one (ps_if (pt_not (pt_val (pe_cG c_is_whole.fn hgd (hr.mono (by decide)) (by rfl) c_is_whole.mg c_is_whole.kp c_is_whole.b .nil VS.pass0 (pa_cons (pv 7) (pa_cons pe_int (pa_cons (pe_gc (by rfl) T.c_MOST_WEIGHT) pa_nil)))))) (pss_one ps_nev)
        pss_nil)))
        (pss_cons (ps_if (pt_not (pt_val (pe_cG c_are_labels.fn hgd (hr.mono (by decide)) (by rfl) c_are_labels.mg c_are_labels.kp c_are_labels.b .nil VS.pass0 (pa_cons (pv 6) pa_nil)))) (pss_one ps_nev)
        pss_nil)
        (pss_cons (ps_fld (pv 0) (pv 1) rfl)
        (pss_cons (ps_fld (pv 0) (pv 2) rfl)
        (pss_cons (ps_fld (pv 0) (pv 3) rfl)
        (pss_cons (ps_fld (pv 0) (pv 4) rfl)
        (pss_cons (ps_fld (pv 0) (pv 5) rfl)
        (pss_one (ps_fld (pv 0) (pe_lc (own := [("word", 8)]) rfl sc_Parcel___init__.nd (pi_tup (pe_kd (by rfl) hL)) (blkOk_by (own := [("word", 8)]) (N := n_Parcel___init__) (sc := defScope s_Parcel___init__) (by decide +kernel)) (fun _ _ _ _ _ => (pg_name (i := 8) sc_Parcel___init__.nd rfl (Or.inl rfl))) (fun _ _ _ _ _ => (pts_one (PW.pt (pw_and (pt_cmpR op_notNo (pv 6) pe_non (nomark _)) (pw_and1 (pt_cmpR (kO (K := K) (r := (fun K => rIn K false)) op_in_seq) (pv 8) (pv 6) (by rfl))))))) (fun _ _ _ _ _ => (pv 8))) rfl)))))))))))), ?_⟩
      (try dsimp only [cxOf, List.map])
      show VX _ _ [_, _, _, _, _, _, _, _, _] _ _
      walk_at "ga"
      refine name_ok g.gn (Nat.le_trans g.ln (by decide)) ?_
      walk_at "ga"
      refine wh_ok g.wl ?_
      walk_at "ga"
      refine vx_for (vi_tup ?_)
      walk_at "ga"
      refine ⟨_, rfl, fun i ρ2 S2 => S2 = S ∧ ∃ x, ρ2 = [some (.ref y), some (.str nm), some (sd C_Sides a b c), some (.int wl), some (.int wt), some (.int br), some (.lst (mk.map D.str)), x, none], ⟨rfl, _, rfl⟩, ?_, ?_⟩
      · rintro i d ρ2 S2 hd ⟨rfl, x, rfl⟩
        obtain ⟨n, rfl, hn⟩ : ∃ n, d = .int n ∧ 0 ≤ n ∧ n ≤ 100000 := by
          have := List.mem_of_getElem? hd
          simp only [List.mem_cons, List.not_mem_nil, or_false] at this
          rcases this with rfl | rfl
          · exact ⟨_, rfl, g.wt⟩
          · exact ⟨_, rfl, g.br⟩
        walk_at "ga"
        refine wh_ok hn ?_
        walk_at "ga"
        exact ⟨rfl, _, rfl⟩
      · rintro ρ2 S2 ⟨rfl, x, rfl⟩
        walk_at "ga"
        refine ⟨mk, rfl, g.lb, ?_⟩
        walk_at "ga"
        refine ⟨y, C_Parcel, _, rfl, put_same, kc_Parcel, ka_Parcel_outside, by show 1 < 1000; decide, ?_⟩
        walk_at "ga"
        refine ⟨y, C_Parcel, _, rfl, put_same, kc_Parcel, ka_Parcel_thick, by show 2 < 1000; decide, ?_⟩
        walk_at "ga"
        refine ⟨y, C_Parcel, _, rfl, put_same, kc_Parcel, ka_Parcel_heavy, by show 3 < 1000; decide, ?_⟩
        walk_at "ga"
        refine ⟨y, C_Parcel, _, rfl, put_same, kc_Parcel, ka_Parcel_strong, by show 4 < 1000; decide, ?_⟩
        walk_at "ga"
        simp only [put_put]
        generalize hS : VS.put S2 y _ = S3
        refine ve_lcF (fun d => inD d (mk.map D.str)) id (vi_tup ?_)
        walk_at "ga"
        refine ⟨_, rfl, by show 3 ≤ 100000; decide, all3 ?_ ?_ ?_, ?_⟩
        · walk_at "ga"
          refine rv_in (.l .v) rfl (flat_strs mk) ?_
          walk_at "ga"
          exact ⟨rfl, fun _ => rfl, fun _ => by walk_at "ga"; exact ⟨rfl, rfl⟩⟩
        · walk_at "ga"
          refine rv_in (.l .v) rfl (flat_strs mk) ?_
          walk_at "ga"
          exact ⟨rfl, fun _ => rfl, fun _ => by walk_at "ga"; exact ⟨rfl, rfl⟩⟩
        · walk_at "ga"
          refine rv_in (.l .v) rfl (flat_strs mk) ?_
          walk_at "ga"
          exact ⟨rfl, fun _ => rfl, fun _ => by walk_at "ga"; exact ⟨rfl, rfl⟩⟩
        subst hS
        walk_at "ga"
        refine ⟨y, C_Parcel, _, rfl, put_same, kc_Parcel, ka_Parcel_marks, by show 5 < 1000; decide, ?_⟩
        rw [put_put]
        have e : List.map id (List.filter (fun d => inD d (mk.map D.str)) [D.str "alone", D.str "top", D.str "upright"]) = (mksOf mk).map D.str := by
          rw [List.map_id]
          show (labs.map D.str).filter _ = _
          rw [List.filter_map]
          unfold mksOf
          congr 1
          apply List.filter_congr
          intro m _
          exact inD_strs mk
        rw [e]
        exact q) only [↓VS.box]
theorem ok_Parcel_name {f : Addr} {fd : FuncData} {C_Sides C_Parcel C_Heap C_Nest C_NoNumber C_NoSide C_NoSides C_NoOrder C_NoParcel C_NotInHeap : Addr}
    (F : Fd K "name" "Parcel.name" s_Parcel_name [] f fd) (T : Tx K mg) (hsys : SysOk base)
    (k_Parcel : Kl_Parcel K mg C_Parcel)
    (k_Sides : Kl_Sides K mg C_Sides) :
    FnG P w K mg base (L2.CX P w) 1 f fd a_Parcel_name (spOf K (p_Pc_name C_Parcel C_Sides)) := by
  refine VS.unbox ?_
  simp (disch := with_unfolding_all
    have kc_Parcel := k_Parcel.ins.cl
    have ka_Parcel_called := k_Parcel.a_called
    have ka_Parcel_outside := k_Parcel.a_outside
    have ka_Parcel_thick := k_Parcel.a_thick
    have ka_Parcel_heavy := k_Parcel.a_heavy
    have ka_Parcel_strong := k_Parcel.a_strong
    have ka_Parcel_marks := k_Parcel.a_marks
    have ka_Parcel_told := k_Parcel.a_told
    have ka_Parcel_names := k_Parcel.a_names
    have kc_Sides := k_Sides.ins.cl
    have ka_Sides_three := k_Sides.a_three
    refine fn_val F sc_Parcel_name (fun ds S G Y h => ?_) (fun cdv A hgd outer s H E hr px tk po ds S G Y h => ?_)
    · obtain ⟨nm, a, b, c, wl, wt, br, mk, rfl, _⟩ := h
      rfl
    · obtain ⟨nm, a, b, c, wl, wt, br, mk, rfl, q⟩ := h
      refine ⟨_, (pss_one (ps_ret (pe_fld (pv 0) rfl))), ?_⟩
      (try dsimp only [cxOf, List.map])
      show VX _ _ [_] _ _
      walk_at "ga"
      exact q) only [↓VS.box]
theorem ok_Parcel_room {f : Addr} {fd : FuncData} {C_Sides C_Parcel C_Heap C_Nest C_NoNumber C_NoSide C_NoSides C_NoOrder C_NoParcel C_NotInHeap : Addr} {f_room_in : Addr} {g_room_in : FuncData}
    (F : Fd K "room" "Parcel.room" s_Parcel_room [] f fd) (T : Tx K mg) (hsys : SysOk base)
    (c_room_in : Cf P w K mg base (L2.CX P w) 5 "room_in" s_room_in [] a_room_in (p_room_in C_Sides) f_room_in g_room_in)
    (k_Parcel : Kl_Parcel K mg C_Parcel)
    (k_Sides : Kl_Sides K mg C_Sides) :
    FnG P w K mg base (L2.CX P w) 6 f fd a_Parcel_room (spOf K (p_Pc_room C_Parcel C_Sides)) := by
  refine VS.unbox ?_
  simp (disch := with_unfolding_all
    have kc_Parcel := k_Parcel.ins.cl
    have ka_Parcel_called := k_Parcel.a_called
    have ka_Parcel_outside := k_Parcel.a_outside
    have ka_Parcel_thick := k_Parcel.a_thick
    have ka_Parcel_heavy := k_Parcel.a_heavy
    have ka_Parcel_strong := k_Parcel.a_strong
    have ka_Parcel_marks := k_Parcel.a_marks
    have ka_Parcel_told := k_Parcel.a_told
    have ka_Parcel_names := k_Parcel.a_names
    have kc_Sides := k_Sides.ins.cl
    have ka_Sides_three := k_Sides.a_three
    refine fn_val F sc_Parcel_room (fun ds S G Y h => ?_) (fun cdv A hgd outer s H E hr px tk po ds S G Y h => ?_)
    · obtain ⟨nm, a, b, c, wl, wt, br, mk, rfl, _⟩ := h
      rfl
    · obtain ⟨nm, a, b, c, wl, wt, br, mk, rfl, g, q1, q2⟩ := h
      refine ⟨_, (pss_one (ps_ret (pe_cG c_room_in.fn hgd (hr.mono (by decide)) (by rfl) c_room_in.mg c_room_in.kp c_room_in.b .nil VS.pass0 (pa_cons (pe_fld (pv 0) rfl) (pa_cons (pe_fld (pv 0) rfl) pa_nil))))), ?_⟩
      (try dsimp only [cxOf, List.map])
      show VX _ _ [_] _ _
      walk_at "ga"
      exact ⟨a, b, c, wl, rfl, g.a, g.b, g.c, g.wl.1, g.wl.2, q1, q2⟩) only [↓VS.box]
theorem ok_Parcel_goes_in {f : Addr} {fd : FuncData} {C_Sides C_Parcel C_Heap C_Nest C_NoNumber C_NoSide C_NoSides C_NoOrder C_NoParcel C_NotInHeap : Addr} {f_need_spare f_Parcel_room f_goes_in : Addr} {g_need_spare g_Parcel_room g_goes_in : FuncData}
    (F : Fd K "goes_in" "Parcel.goes_in" s_Parcel_goes_in [.int 0] f fd) (T : Tx K mg) (hsys : SysOk base)
    (c_need_spare : Cf P w K mg base (L2.CX P w) 3 "need_spare" s_need_spare [] a_need_spare (p_need_spare K C_NoNumber) f_need_spare g_need_spare)
    (c_Parcel_room : Mf P w K mg base 6 C_Parcel "room" "Parcel.room" s_Parcel_room [] a_Parcel_room (p_Pc_room C_Parcel C_Sides) f_Parcel_room g_Parcel_room)
    (c_goes_in : Cf P w K mg base (L2.CX P w) 7 "goes_in" s_goes_in [.int 0] a_goes_in (p_goes_in K C_Sides C_NoSides C_NoNumber) f_goes_in g_goes_in)
    (x_NoParcel : Xc P w K mg base "NoParcel" C_NoParcel "found")
    (k_Parcel : Kl_Parcel K mg C_Parcel)
    (k_Sides : Kl_Sides K mg C_Sides) :
    FnG P w K mg base (L2.CX P w) 8 f fd a_Parcel_goes_in (spOf K (p_Pc_goes K C_Parcel C_Sides C_NoParcel C_NoNumber)) := by
  refine VS.unbox ?_
  simp (disch := with_unfolding_all
    have kc_Parcel := k_Parcel.ins.cl
    have ka_Parcel_called := k_Parcel.a_called
    have ka_Parcel_outside := k_Parcel.a_outside
    have ka_Parcel_thick := k_Parcel.a_thick
    have ka_Parcel_heavy := k_Parcel.a_heavy
    have ka_Parcel_strong := k_Parcel.a_strong
    have ka_Parcel_marks := k_Parcel.a_marks
    have ka_Parcel_told := k_Parcel.a_told
    have ka_Parcel_names := k_Parcel.a_names
    have kc_Sides := k_Sides.ins.cl
    have ka_Sides_three := k_Sides.a_three
    refine fn_val F sc_Parcel_goes_in (fun ds S G Y h => ?_) (fun cdv A hgd outer s H E hr px tk po ds S G Y h => ?_)
    · obtain ⟨nm, a, b, c, wl, wt, br, mk, d, sp, rfl, _⟩ := h
      rfl
    · obtain ⟨nm, a, b, c, wl, wt, br, mk, d, sp, rfl, g, h⟩ := h
      refine ⟨_, (pss_cons (ps_if (pt_not (pt_val (pe_callB c_isiZ (by rfl) T.b_isinstance (by decide +kernel) (pa_cons (pv 1) (pa_cons (pe_gc (v := .ref C_Parcel) (by rfl) ⟨_, k_Parcel.at_, rfl⟩) pa_nil))))) (pss_one (ps_rz tk x_NoParcel (hr.mono (by decide)) (by rfl) (pv 1)))
        pss_nil)
        (pss_cons (ps_expr (pe_cG c_need_spare.fn hgd (hr.mono (by decide)) (by rfl) c_need_spare.mg c_need_spare.kp c_need_spare.b .nil px (pa_cons (pv 2) pa_nil)))
        (pss_cons (ps_for po rfl (pi_tup (pe_tup (pa_cons (pv 0) (pa_cons (pv 1) pa_nil)))) (pg_name (i := 3) sc_Parcel_goes_in.nd rfl (Or.inl rfl))
        (pss_one (ps_if (pt_cmpR op_in_seq pe_str (pe_fld (pv 3) rfl) (by rfl)) (pss_one (ps_ret (pe_tup (pa_cons pe_str (pa_cons (pe_fld (pv 3) rfl) pa_nil)))))
        pss_nil)))
        (pss_cons (ps_if (pt_cmpR op_isNo (pe_mG0 (pv 1) c_Parcel_room.cl c_Parcel_room.me c_Parcel_room.fn hgd (hr.mono (by decide)) c_Parcel_room.b .nil VS.pass0) pe_non (nomark _)) (pss_one (ps_ret (pe_tup (pa_cons pe_str pa_nil))))
        pss_nil)
        (pss_one (ps_ret (pe_cG c_goes_in.fn hgd (hr.mono (by decide)) (by rfl) (T.al_goes_in_fits.trans c_goes_in.mg) c_goes_in.kp c_goes_in.b .nil px (pa_cons (pe_fld (pv 0) rfl) (pa_cons (pe_mG0 (pv 1) c_Parcel_room.cl c_Parcel_room.me c_Parcel_room.fn hgd (hr.mono (by decide)) c_Parcel_room.b .nil VS.pass0) (pa_cons (pv 2) pa_nil)))))))))), ?_⟩
      (try dsimp only [cxOf, List.map])
      show VX _ _ [_, _, _, _] _ _
      walk_at "ga"
      rcases h with ⟨t, ot, kt, q⟩ | ⟨nm', x, y, z, wl', wt', br', mk', rfl, g', o, wo, q1, q2⟩
      · refine rc_isiO ot kt ?_
        walk_at "ga"
        exact q
      · refine rc_isiO (.i .v k_Parcel.ins) k_Parcel.ins.me ?_
        walk_at "ga"
        refine ⟨sp, o, rfl, wo, fun e => ?_, q1⟩
        obtain ⟨i, rfl, i0, i1⟩ := whB_yes e
        cases wo.some
        have q := q2 i rfl i0 i1
        walk_at "ga"
        refine vx_for (vi_tup ?_)
        walk_at "ga"
        refine ⟨_, rfl, fun k ρ2 S2 => S2 = S ∧ ∃ u, ρ2 = [some (pcD C_Parcel C_Sides nm a b c wl wt br mk), some (pcD C_Parcel C_Sides nm' x y z wl' wt' br' mk'), some (.int i), u] ∧ (0 < k → ("alone" : Str) ∉ mk) ∧ (1 < k → ("alone" : Str) ∉ mk'), ⟨rfl, _, rfl, fun z => by omega, fun z => by omega⟩, ?_, ?_⟩
        · rintro k d ρ2 S2 hd ⟨rfl, u, rfl, n1, n2⟩
          match k, hd with
          | 0, hd =>
            cases hd
            walk_at "ga"
            refine rv_in (.l .v) rfl (flat_strs mk) ?_
            rw [inD_strs]
            walk_at "ga"
            refine VS.br (fun h => ?_) (fun h => ?_)
            · walk_at "ga"
              unfold pgoD at q
              rw [if_pos h] at q
              exact q
            · walk_at "ga"
              exact ⟨rfl, _, rfl, fun _ => h, fun z => by omega⟩
          | 1, hd =>
            cases hd
            walk_at "ga"
            refine rv_in (.l .v) rfl (flat_strs mk') ?_
            rw [inD_strs]
            walk_at "ga"
            refine VS.br (fun h => ?_) (fun h => ?_)
            · walk_at "ga"
              unfold pgoD at q
              rw [if_neg (n1 (by omega)), if_pos h] at q
              exact q
            · walk_at "ga"
              exact ⟨rfl, _, rfl, fun _ => n1 (by omega), fun _ => h⟩
          | k + 2, hd => cases hd
        · rintro ρ2 S2 ⟨rfl, u, rfl, n1, n2⟩
          unfold pgoD at q
          rw [if_neg (n1 (by show 0 < 2; omega)), if_neg (n2 (by show 1 < 2; omega))] at q
          walk_at "ga"
          refine ⟨nm', x, y, z, wl', wt', br', mk', rfl, g', fun h => ?_, fun h => ?_⟩
          · walk_at "ga"
            rw [if_pos h] at q
            exact q
          · walk_at "ga"
            refine ⟨nm', x, y, z, wl', wt', br', mk', rfl, g', fun h' => absurd h' h, fun _ => ?_⟩
            walk_at "ga"
            refine goes_ok g.a g.b g.c ⟨i0, i1⟩ ?_
            rw [if_neg h] at q
            exact q) only [↓VS.box]
end
end LW
namespace LW
open PySem L2 C8 PySem.Spec PyProof.Rows VS
/-! ### a parcel's labels -/
end LW
namespace LW
open PySem L2 C8 PySem.Spec PyProof.Rows VS
/-! ### a parcel's numbers -/
end LW
namespace LW
open PySem L2 C8 PySem.Spec PyProof.Rows VS
/-! ### heaps, known by reference -/
structure Pc where
  of ::
  nm : Str
  a : Int
  b : Int
  c : Int
  wl : Int
  wt : Int
  br : Int
  mk : List Str
def Pc.d (CP CS : Addr) (p : Pc) : D := pcD CP CS p.nm p.a p.b p.c p.wl p.wt p.br p.mk
def Pc.g (p : Pc) : Prop := Pg p.nm p.a p.b p.c p.wl p.wt p.br p.mk
/-- parcels that stand in a heap -/
structure Hps (ps : List Pc) : Prop where
  g : ∀ p ∈ ps, p.g
  n : (ps.map Pc.nm).Nodup
  l : ps.length ≤ 12
def HpS (S : Sto) (CH CP CS h l : Addr) (ps : List Pc) : Prop := S h = some (.ins CH [("held", .ref l)]) ∧ S l = some (.lst (ps.map (Pc.d CP CS)))
/-- p is the first one of its name -/
def Frs (ps : List Pc) (i : Nat) (p : Pc) : Prop := ps[i]? = some p ∧ ∀ j q, j < i → ps[j]? = some q → q.nm ≠ p.nm
theorem HpS.ext {S S' : Sto} {CH CP CS h l : Addr} {ps : List Pc} (x : HpS S CH CP CS h l ps) (e : Ext S S') : HpS S' CH CP CS h l ps := ⟨e _ _ x.1, e _ _ x.2⟩
theorem HpS.ne {S : Sto} {CH CP CS h l : Addr} {ps : List Pc} (x : HpS S CH CP CS h l ps) : h ≠ l := fun z => by
  have := x.1
  rw [z, x.2] at this
  cases this
theorem HpS.wr {S : Sto} {CH CP CS h l a : Addr} {ps : List Pc} {d : D} (x : HpS S CH CP CS h l ps) (n1 : h ≠ a) (n2 : l ≠ a) : HpS (VS.put S a d) CH CP CS h l ps := ⟨(put_ne n1).trans x.1, (put_ne n2).trans x.2⟩
theorem HpS.set {S : Sto} {CH CP CS h l : Addr} {ps qs : List Pc} (x : HpS S CH CP CS h l ps) : HpS (VS.put S l (.lst (qs.map (Pc.d CP CS)))) CH CP CS h l qs := ⟨(put_ne x.ne).trans x.1, put_same⟩
theorem Hps.frs {ps : List Pc} (h : (ps.map Pc.nm).Nodup) {i : Nat} {p : Pc} (e : ps[i]? = some p) : Frs ps i p := by
  refine ⟨e, fun j q hj hq en => ?_⟩
  have hi : i < ps.length := (List.getElem?_eq_some_iff.mp e).1
  have e1 : (ps.map Pc.nm)[i]? = some p.nm := by rw [List.getElem?_map, e]; rfl
  have e2 : (ps.map Pc.nm)[j]? = some p.nm := by rw [List.getElem?_map, hq]; exact congrArg some en
  have hi' : i < (ps.map Pc.nm).length := by rw [List.length_map]; exact hi
  have := (List.getElem?_inj hi' h).mp (e1.trans e2.symm)
  omega
theorem Hps.erase {ps : List Pc} (h : Hps ps) (i : Nat) : Hps (ps.eraseIdx i) := by
  refine ⟨fun p hp => h.g p (List.mem_of_mem_eraseIdx hp), ?_, Nat.le_trans (List.length_eraseIdx_le ..) h.l⟩
  exact h.n.sublist ((List.eraseIdx_sublist ..).map _)
theorem map_erase {α β : Type} (f : α → β) : ∀ (xs : List α) (i : Nat), (xs.eraseIdx i).map f = (xs.map f).eraseIdx i
  | [], _ => rfl
  | x :: xs, 0 => rfl
  | x :: xs, i + 1 => by
    show f x :: (xs.eraseIdx i).map f = f x :: (xs.map f).eraseIdx i
    rw [map_erase f xs i]
def p_Hp_init (CH : Addr) : Pt := fun ds S G _ => ∃ y, ds = [.ref y] ∧ S y = some (.ins CH []) ∧ ∀ l, S l = none → G .non (put (put S l (.lst [])) y (.ins CH [("held", .ref l)]))
def p_Hp_names (CH CP CS : Addr) : Pt := fun ds S G _ => ∃ h l ps, ds = [.ref h] ∧ HpS S CH CP CS h l ps ∧ ps.length ≤ 12 ∧ G (.lst ((ps.map Pc.nm).map D.str)) S
def p_Hp_place (CH CP CS : Addr) : Pt := fun ds S G _ => ∃ (h l : Addr) (ps : List Pc) (i : Nat) (p : Pc), ds = [.ref h, .str p.nm] ∧ HpS S CH CP CS h l ps ∧ ps.length ≤ 12 ∧ Frs ps i p ∧ G (.int i) S
def p_Hp_parcel (CH CP CS : Addr) : Pt := fun ds S G _ => ∃ (h l : Addr) (ps : List Pc) (i : Nat) (p : Pc), ds = [.ref h, .str p.nm] ∧ HpS S CH CP CS h l ps ∧ ps.length ≤ 12 ∧ Frs ps i p ∧ G (p.d CP CS) S
def p_Hp_out (CH CP CS : Addr) : Pt := fun ds S G _ => ∃ (h l : Addr) (ps : List Pc) (i : Nat) (p : Pc), ds = [.ref h, .str p.nm] ∧ HpS S CH CP CS h l ps ∧ ps.length ≤ 12 ∧ Frs ps i p ∧ G (p.d CP CS) (put S l (.lst ((ps.eraseIdx i).map (Pc.d CP CS))))
def p_Hp_put (CH CP CS : Addr) : Pt := fun ds S G _ => ∃ (h l : Addr) (ps : List Pc) (p : Pc), ds = [.ref h, p.d CP CS, .non] ∧ HpS S CH CP CS h l ps ∧ ps.length < 12 ∧ p.nm ∉ ps.map Pc.nm ∧ G .non (put S l (.lst ((ps ++ [p]).map (Pc.d CP CS))))
/-- a heap made, known by reference -/
theorem ve_mkHp {c : VS.Ctx} {ρ : Rho} {S : Sto} {F : D → Sto → Prop} {t : TA} {E : L2.St → XK} {CH : Addr}
    (h : VA c t ρ S fun ds S1 => ds = [] ∧ ∀ h l S2, S1 h = none → S1 l = none → Ext S1 S2 → S2 h = some (.ins CH [("held", .ref l)]) → S2 l = some (.lst []) → F (.ref h) S2) : VE c (tMakeE CH (spOf c.K (p_Hp_init CH)) [] E t) ρ S F :=
  ve_mk (dds := []) XOk.none (fun _ _ => .nil) (h.imp fun ds S1 ⟨e, q⟩ y hy => by
    subst e
    refine ⟨y, rfl, put_same, fun l hl => ⟨rfl, ?_⟩⟩
    have ne : l ≠ y := fun z => by subst z; rw [put_same] at hl; cases hl
    rw [put_ne ne] at hl
    refine q y l _ hy hl (fun a d ha => ?_) put_same ((put_ne ne).trans put_same)
    have n1 : a ≠ y := fun z => by subst z; rw [hy] at ha; cases ha
    have n2 : a ≠ l := fun z => by subst z; rw [hl] at ha; cases ha
    rw [put_ne n1, put_ne n2, put_ne n1]
    exact ha)
section
variable {P : Program} {w : World} {K : PySem.W.Frag} {mg : Str → Option Value} {base : Heap}
theorem ok_Heap___init__ {f : Addr} {fd : FuncData} {C_Sides C_Parcel C_Heap C_Nest C_NoNumber C_NoSide C_NoSides C_NoOrder C_NoParcel C_NotInHeap : Addr}
    (F : Fd K "__init__" "Heap.__init__" s_Heap___init__ [] f fd) (T : Tx K mg) (hsys : SysOk base)
    (k_Heap : Kl_Heap K mg C_Heap) :
    FnG P w K mg base (L2.CX P w) 1 f fd a_Heap___init__ (spOf K (p_Hp_init C_Heap)) := by
  refine VS.unbox ?_
  simp (disch := with_unfolding_all
    have kc_Heap := k_Heap.ins.cl
    have ka_Heap_held := k_Heap.a_held
    have ka_Heap_told := k_Heap.a_told
    have ka_Heap_kind := k_Heap.a_kind
    refine fn_val F sc_Heap___init__ (fun ds S G Y h => ?_) (fun cdv A hgd outer s H E hr px tk po ds S G Y h => ?_)
    · obtain ⟨y, rfl, _⟩ := h
      rfl
    · obtain ⟨y, rfl, hy, q⟩ := h
      refine ⟨_, (pss_one (ps_fld (pv 0) (pe_lst pa_nil) rfl)), ?_⟩
      (try dsimp only [cxOf, List.map])
      show VX _ _ [_] _ _
      walk_at "gr"
      refine ve_lstc ?_
      walk_at "gr"
      intro l hl
      have hy2 : VS.put S l (.lst []) y = some (.ins C_Heap []) := by rw [put_ne (ne_at hy hl)]; exact hy
      walk_at "gr"
      exact q l hl) only [↓VS.box]
theorem ok_Heap_names {f : Addr} {fd : FuncData} {C_Sides C_Parcel C_Heap C_Nest C_NoNumber C_NoSide C_NoSides C_NoOrder C_NoParcel C_NotInHeap : Addr} {f_Parcel_name : Addr} {g_Parcel_name : FuncData}
    (F : Fd K "names" "Heap.names" s_Heap_names [] f fd) (T : Tx K mg) (hsys : SysOk base)
    (c_Parcel_name : Mf P w K mg base 1 C_Parcel "name" "Parcel.name" s_Parcel_name [] a_Parcel_name (p_Pc_name C_Parcel C_Sides) f_Parcel_name g_Parcel_name)
    (k_Heap : Kl_Heap K mg C_Heap)
    (k_Parcel : Kl_Parcel K mg C_Parcel)
    (k_Sides : Kl_Sides K mg C_Sides) :
    FnG P w K mg base (L2.CX P w) 2 f fd a_Heap_names (spOf K (p_Hp_names C_Heap C_Parcel C_Sides)) := by
  refine VS.unbox ?_
  simp (disch := with_unfolding_all
    have kc_Heap := k_Heap.ins.cl
    have ka_Heap_held := k_Heap.a_held
    have ka_Heap_told := k_Heap.a_told
    have ka_Heap_kind := k_Heap.a_kind
    have kc_Parcel := k_Parcel.ins.cl
    have ka_Parcel_called := k_Parcel.a_called
    have ka_Parcel_outside := k_Parcel.a_outside
    have ka_Parcel_thick := k_Parcel.a_thick
    have ka_Parcel_heavy := k_Parcel.a_heavy
    have ka_Parcel_strong := k_Parcel.a_strong
    have ka_Parcel_marks := k_Parcel.a_marks
    have ka_Parcel_told := k_Parcel.a_told
    have ka_Parcel_names := k_Parcel.a_names
    have kc_Sides := k_Sides.ins.cl
    have ka_Sides_three := k_Sides.a_three
    refine fn_val F sc_Heap_names (fun ds S G Y h => ?_) (fun cdv A hgd outer s H E hr px tk po ds S G Y h => ?_)
    · obtain ⟨hh, l, ps, rfl, _⟩ := h
      rfl
    · obtain ⟨hh, l, ps, rfl, ⟨h1, h2⟩, hl, q⟩ := h
      refine ⟨_, (pss_one (ps_ret (pe_lc (own := [("parcel", 1)]) rfl sc_Heap_names.nd (pi_list (pe_fld (pv 0) rfl)) (blkOk_by (own := [("parcel", 1)]) (N := n_Heap_names) (sc := defScope s_Heap_names) (by decide +kernel)) (fun _ _ _ _ _ => (pg_name (i := 1) sc_Heap_names.nd rfl (Or.inl rfl))) (fun _ _ _ _ _ => pts_nil) (fun _ _ _ _ _ => (pe_mG0 (pv 1) c_Parcel_name.cl c_Parcel_name.me c_Parcel_name.fn hgd (hr.mono (by decide)) c_Parcel_name.b .nil VS.pass0))))), ?_⟩
      (try dsimp only [cxOf, List.map])
      show VX _ _ [_, _] _ _
      walk_at "gr"
      have ne : hh ≠ l := HpS.ne ⟨h1, h2⟩
      have h3 : (VS.del S l) hh = some (.ins C_Heap [("held", .ref l)]) := by rw [VS.del_ne ne]; exact h1
      refine ve_lcCellE (l := l) ?_ h2 (by rw [List.length_map]; omega) (fun i acc S2 => acc = ((ps.map Pc.nm).map D.str).take i ∧ S2 = VS.del S l) ⟨rfl, rfl⟩ (fun i d acc S2 hd hw _ => ?_) ?_
      · walk_at "gr"
        exact ⟨rfl, rfl⟩
      · obtain ⟨rfl, rfl⟩ := hw
        rw [List.getElem?_map] at hd
        cases e : ps[i]? with
        | none => rw [e] at hd; cases hd
        | some p =>
          rw [e] at hd
          cases hd
          walk_at "gr"
          refine ⟨p.nm, p.a, p.b, p.c, p.wl, p.wt, p.br, p.mk, rfl, ?_, rfl⟩
          rw [List.take_succ]
          congr 1
          rw [List.getElem?_map, List.getElem?_map, e]
          rfl
      · rintro acc S2 ⟨rfl, rfl⟩ _
        rw [put_back h2]
        rw [List.take_of_length_le (by simp)]
        exact q) only [↓VS.box]
theorem ok_Heap_place_of {f : Addr} {fd : FuncData} {C_Sides C_Parcel C_Heap C_Nest C_NoNumber C_NoSide C_NoSides C_NoOrder C_NoParcel C_NotInHeap : Addr} {f_Parcel_name : Addr} {g_Parcel_name : FuncData}
    (F : Fd K "place_of" "Heap.place_of" s_Heap_place_of [] f fd) (T : Tx K mg) (hsys : SysOk base)
    (c_Parcel_name : Mf P w K mg base 1 C_Parcel "name" "Parcel.name" s_Parcel_name [] a_Parcel_name (p_Pc_name C_Parcel C_Sides) f_Parcel_name g_Parcel_name)
    (k_Heap : Kl_Heap K mg C_Heap)
    (k_Parcel : Kl_Parcel K mg C_Parcel)
    (k_Sides : Kl_Sides K mg C_Sides) :
    FnG P w K mg base (L2.CX P w) 2 f fd a_Heap_place_of (spOf K (p_Hp_place C_Heap C_Parcel C_Sides)) := by
  refine VS.unbox ?_
  simp (disch := with_unfolding_all
    have kc_Heap := k_Heap.ins.cl
    have ka_Heap_held := k_Heap.a_held
    have ka_Heap_told := k_Heap.a_told
    have ka_Heap_kind := k_Heap.a_kind
    have kc_Parcel := k_Parcel.ins.cl
    have ka_Parcel_called := k_Parcel.a_called
    have ka_Parcel_outside := k_Parcel.a_outside
    have ka_Parcel_thick := k_Parcel.a_thick
    have ka_Parcel_heavy := k_Parcel.a_heavy
    have ka_Parcel_strong := k_Parcel.a_strong
    have ka_Parcel_marks := k_Parcel.a_marks
    have ka_Parcel_told := k_Parcel.a_told
    have ka_Parcel_names := k_Parcel.a_names
    have kc_Sides := k_Sides.ins.cl
    have ka_Sides_three := k_Sides.a_three
    refine fn_val F sc_Heap_place_of (fun ds S G Y h => ?_) (fun cdv A hgd outer s H E hr px tk po ds S G Y h => ?_)
    · obtain ⟨hh, l, ps, i, p, rfl, _⟩ := h
      rfl
    · obtain ⟨hh, l, ps, i, p, rfl, ⟨h1, h2⟩, hl, ⟨hi, hf⟩, q⟩ := h
      refine ⟨_, (pss_cons (ps_for po rfl (pi_enum (by rfl) T.b_enumerate (pa_cons (pe_fld (pv 0) rfl) pa_nil)) (pg_tup (n := 2) rfl (pgs_cons (pg_name (i := 2) sc_Heap_place_of.nd rfl (Or.inl rfl)) (pgs_cons (pg_name (i := 3) sc_Heap_place_of.nd rfl (Or.inl rfl)) pgs_nil)))
        (pss_one (ps_if (PW.pt (pw_and (pt_val (pe_callB c_isiZ (by rfl) T.b_isinstance (by decide +kernel) (pa_cons (pv 1) (pa_cons (pe_bltn (v := .ty "str") (by rfl) T.b_str (by decide +kernel) rfl) pa_nil)))) (pw_and1 (pt_cmpR op_eq (pe_mG0 (pv 3) c_Parcel_name.cl c_Parcel_name.me c_Parcel_name.fn hgd (hr.mono (by decide)) c_Parcel_name.b .nil VS.pass0) (pv 1) (nomark _))))) (pss_one (ps_ret (pv 2)))
        pss_nil)))
        (pss_one ps_nev)), ?_⟩
      (try dsimp only [cxOf, List.map])
      show VX _ _ [_, _, _, _] _ _
      walk_at "gr"
      have ne : hh ≠ l := HpS.ne ⟨h1, h2⟩
      have h3 : (VS.del S l) hh = some (.ins C_Heap [("held", .ref l)]) := by rw [VS.del_ne ne]; exact h1
      refine vx_forCellE h2 ?_ (fun k ρ2 S2 => k ≤ i ∧ S2 = VS.del S l ∧ ∃ x2 x3, ρ2 = [some (.ref hh), some (.str p.nm), x2, x3]) ⟨Nat.zero_le _, rfl, _, _, rfl⟩ (fun k d ρ2 S2 hd hw => ?_) (fun ρ2 S2 hw => ?_)
      · walk_at "gr"
        exact ⟨rfl, rfl⟩
      · obtain ⟨hk, rfl, x2, x3, rfl⟩ := hw
        rw [List.getElem?_map] at hd
        cases e : ps[k]? with
        | none => rw [e] at hd; cases hd
        | some r =>
          rw [e] at hd
          cases hd
          walk_at "gr"
          refine ⟨r.nm, r.a, r.b, r.c, r.wl, r.wt, r.br, r.mk, rfl, ?_⟩
          walk_at "gr"
          refine VS.br (fun en => ?_) (fun en => ?_)
          · walk_at "gr"
            have : k = i := by
              have n : ¬ k < i := fun z => hf k r z e en
              omega
            subst this
            rw [put_back h2]
            exact q
          · walk_at "gr"
            refine ⟨?_, rfl, _, _, rfl⟩
            have : k ≠ i := fun z => by
              subst z
              rw [hi] at e
              cases e
              exact en rfl
            omega
      · obtain ⟨hk, rfl, x2, x3, rfl⟩ := hw
        rw [List.length_map] at hk
        have := (List.getElem?_eq_some_iff.mp hi).1
        omega) only [↓VS.box]
theorem ok_Heap_parcel {f : Addr} {fd : FuncData} {C_Sides C_Parcel C_Heap C_Nest C_NoNumber C_NoSide C_NoSides C_NoOrder C_NoParcel C_NotInHeap : Addr} {f_Heap_place_of : Addr} {g_Heap_place_of : FuncData}
    (F : Fd K "parcel" "Heap.parcel" s_Heap_parcel [] f fd) (T : Tx K mg) (hsys : SysOk base)
    (c_Heap_place_of : Mf P w K mg base 2 C_Heap "place_of" "Heap.place_of" s_Heap_place_of [] a_Heap_place_of (p_Hp_place C_Heap C_Parcel C_Sides) f_Heap_place_of g_Heap_place_of)
    (k_Heap : Kl_Heap K mg C_Heap)
    (k_Parcel : Kl_Parcel K mg C_Parcel)
    (k_Sides : Kl_Sides K mg C_Sides) :
    FnG P w K mg base (L2.CX P w) 3 f fd a_Heap_parcel (spOf K (p_Hp_parcel C_Heap C_Parcel C_Sides)) := by
  refine VS.unbox ?_
  simp (disch := with_unfolding_all
    have kc_Heap := k_Heap.ins.cl
    have ka_Heap_held := k_Heap.a_held
    have ka_Heap_told := k_Heap.a_told
    have ka_Heap_kind := k_Heap.a_kind
    have kc_Parcel := k_Parcel.ins.cl
    have ka_Parcel_called := k_Parcel.a_called
    have ka_Parcel_outside := k_Parcel.a_outside
    have ka_Parcel_thick := k_Parcel.a_thick
    have ka_Parcel_heavy := k_Parcel.a_heavy
    have ka_Parcel_strong := k_Parcel.a_strong
    have ka_Parcel_marks := k_Parcel.a_marks
    have ka_Parcel_told := k_Parcel.a_told
    have ka_Parcel_names := k_Parcel.a_names
    have kc_Sides := k_Sides.ins.cl
    have ka_Sides_three := k_Sides.a_three
    refine fn_val F sc_Heap_parcel (fun ds S G Y h => ?_) (fun cdv A hgd outer s H E hr px tk po ds S G Y h => ?_)
    · obtain ⟨hh, l, ps, i, p, rfl, _⟩ := h
      rfl
    · obtain ⟨hh, l, ps, i, p, rfl, ⟨h1, h2⟩, hl, hf, q⟩ := h
      refine ⟨_, (pss_one (ps_ret (pe_ix ix_list (pe_fld (pv 0) rfl) (pe_mG (pv 0) c_Heap_place_of.cl c_Heap_place_of.me c_Heap_place_of.fn hgd (hr.mono (by decide)) c_Heap_place_of.b .nil VS.pass0 (pa_cons (pv 1) pa_nil)) (fun _ _ => rfl)))), ?_⟩
      (try dsimp only [cxOf, List.map])
      show VX _ _ [_, _] _ _
      walk_at "gr"
      refine ⟨hh, l, ps, i, p, rfl, ⟨h1, h2⟩, hl, hf, ?_⟩
      refine rv_ixL (.c h2) (atI_nat (j := i) (by rw [List.getElem?_map, hf.1]; rfl)) ?_
      exact q) only [↓VS.box]
theorem ok_Heap_out {f : Addr} {fd : FuncData} {C_Sides C_Parcel C_Heap C_Nest C_NoNumber C_NoSide C_NoSides C_NoOrder C_NoParcel C_NotInHeap : Addr} {f_Heap_place_of : Addr} {g_Heap_place_of : FuncData}
    (F : Fd K "out" "Heap.out" s_Heap_out [] f fd) (T : Tx K mg) (hsys : SysOk base)
    (c_Heap_place_of : Mf P w K mg base 2 C_Heap "place_of" "Heap.place_of" s_Heap_place_of [] a_Heap_place_of (p_Hp_place C_Heap C_Parcel C_Sides) f_Heap_place_of g_Heap_place_of)
    (k_Heap : Kl_Heap K mg C_Heap)
    (k_Parcel : Kl_Parcel K mg C_Parcel)
    (k_Sides : Kl_Sides K mg C_Sides) :
    FnG P w K mg base (L2.CX P w) 3 f fd a_Heap_out (spOf K (p_Hp_out C_Heap C_Parcel C_Sides)) := by
  refine VS.unbox ?_
  simp (disch := with_unfolding_all
    have kc_Heap := k_Heap.ins.cl
    have ka_Heap_held := k_Heap.a_held
    have ka_Heap_told := k_Heap.a_told
    have ka_Heap_kind := k_Heap.a_kind
    have kc_Parcel := k_Parcel.ins.cl
    have ka_Parcel_called := k_Parcel.a_called
    have ka_Parcel_outside := k_Parcel.a_outside
    have ka_Parcel_thick := k_Parcel.a_thick
    have ka_Parcel_heavy := k_Parcel.a_heavy
    have ka_Parcel_strong := k_Parcel.a_strong
    have ka_Parcel_marks := k_Parcel.a_marks
    have ka_Parcel_told := k_Parcel.a_told
    have ka_Parcel_names := k_Parcel.a_names
    have kc_Sides := k_Sides.ins.cl
    have ka_Sides_three := k_Sides.a_three
    refine fn_val F sc_Heap_out (fun ds S G Y h => ?_) (fun cdv A hgd outer s H E hr px tk po ds S G Y h => ?_)
    · obtain ⟨hh, l, ps, i, p, rfl, _⟩ := h
      rfl
    · obtain ⟨hh, l, ps, i, p, rfl, ⟨h1, h2⟩, hl, hf, q⟩ := h
      refine ⟨_, (pss_one (ps_ret (pe_bm PySem.F.plainAttrs_list PySem.F.slot_list_pop PySem.F.type_list_pop mt_popAt (pe_fld (pv 0) rfl) (pa_cons (pe_mG (pv 0) c_Heap_place_of.cl c_Heap_place_of.me c_Heap_place_of.fn hgd (hr.mono (by decide)) c_Heap_place_of.b .nil VS.pass0 (pa_cons (pv 1) pa_nil)) pa_nil)))), ?_⟩
      (try dsimp only [cxOf, List.map])
      show VX _ _ [_, _] _ _
      walk_at "gr"
      refine ⟨hh, l, ps, i, p, rfl, ⟨h1, h2⟩, hl, hf, ?_⟩
      have hi : i < ps.length := (List.getElem?_eq_some_iff.mp hf.1).1
      walk_at "gr"
      exact rm_popAt (j := i) h2 rfl (by omega) (by rw [List.getElem?_map, hf.1]; rfl) (by rw [← map_erase]; exact q)) only [↓VS.box]
theorem ok_Heap_put {f : Addr} {fd : FuncData} {C_Sides C_Parcel C_Heap C_Nest C_NoNumber C_NoSide C_NoSides C_NoOrder C_NoParcel C_NotInHeap : Addr} {f_Heap_names f_Parcel_name : Addr} {g_Heap_names g_Parcel_name : FuncData}
    (F : Fd K "put" "Heap.put" s_Heap_put [.non] f fd) (T : Tx K mg) (hsys : SysOk base)
    (c_Heap_names : Mf P w K mg base 2 C_Heap "names" "Heap.names" s_Heap_names [] a_Heap_names (p_Hp_names C_Heap C_Parcel C_Sides) f_Heap_names g_Heap_names)
    (c_Parcel_name : Mf P w K mg base 1 C_Parcel "name" "Parcel.name" s_Parcel_name [] a_Parcel_name (p_Pc_name C_Parcel C_Sides) f_Parcel_name g_Parcel_name)
    (k_Heap : Kl_Heap K mg C_Heap)
    (k_Parcel : Kl_Parcel K mg C_Parcel)
    (k_Sides : Kl_Sides K mg C_Sides) :
    FnG P w K mg base (L2.CX P w) 3 f fd a_Heap_put (spOf K (p_Hp_put C_Heap C_Parcel C_Sides)) := by
  refine VS.unbox ?_
  simp (disch := with_unfolding_all
    have kc_Heap := k_Heap.ins.cl
    have ka_Heap_held := k_Heap.a_held
    have ka_Heap_told := k_Heap.a_told
    have ka_Heap_kind := k_Heap.a_kind
    have kc_Parcel := k_Parcel.ins.cl
    have ka_Parcel_called := k_Parcel.a_called
    have ka_Parcel_outside := k_Parcel.a_outside
    have ka_Parcel_thick := k_Parcel.a_thick
    have ka_Parcel_heavy := k_Parcel.a_heavy
    have ka_Parcel_strong := k_Parcel.a_strong
    have ka_Parcel_marks := k_Parcel.a_marks
    have ka_Parcel_told := k_Parcel.a_told
    have ka_Parcel_names := k_Parcel.a_names
    have kc_Sides := k_Sides.ins.cl
    have ka_Sides_three := k_Sides.a_three
    refine fn_val F sc_Heap_put (fun ds S G Y h => ?_) (fun cdv A hgd outer s H E hr px tk po ds S G Y h => ?_)
    · obtain ⟨hh, l, ps, p, rfl, _⟩ := h
      rfl
    · obtain ⟨hh, l, ps, p, rfl, ⟨h1, h2⟩, hl, hn, q⟩ := h
      refine ⟨_, (pss_cons (ps_if (pt_not (pt_val (pe_callB c_isiZ (by rfl) T.b_isinstance (by decide +kernel) (pa_cons (pv 1) (pa_cons (pe_gc (v := .ref C_Parcel) (by rfl) ⟨_, k_Parcel.at_, rfl⟩) pa_nil))))) (pss_one ps_nev)
        pss_nil)
        (pss_cons (ps_if (pt_cmpR op_in_seq (pe_mG0 (pv 1) c_Parcel_name.cl c_Parcel_name.me c_Parcel_name.fn hgd (hr.mono (by decide)) c_Parcel_name.b .nil VS.pass0) (pe_mG0 (pv 0) c_Heap_names.cl c_Heap_names.me c_Heap_names.fn hgd (hr.mono (by decide)) c_Heap_names.b .nil VS.pass0) (by rfl)) (pss_one ps_nev)
        pss_nil)
        (pss_cons (ps_set (i := 3) sc_Heap_put.nd rfl (Or.inl rfl) (pe_callB c_len (by rfl) T.b_len (by decide +kernel) (pa_cons (pe_fld (pv 0) rfl) pa_nil)))
        (pss_cons (ps_if (pt_cmpR op_notNo (pv 2) pe_non (nomark _)) (pss_one ps_nev)
        pss_nil)
        (pss_cons (ps_if (pt_cmpR op_eq (pe_callB c_len (by rfl) T.b_len (by decide +kernel) (pa_cons (pe_fld (pv 0) rfl) pa_nil)) (pe_gc (by rfl) T.c_MOST_PARCELS) (nomark _)) (pss_one ps_nev)
        pss_nil)
        (pss_one (ps_expr (pe_bm PySem.F.plainAttrs_list PySem.F.slot_list_insert PySem.F.type_list_insert mt_insertV (pe_fld (pv 0) rfl) (pa_cons (pv 3) (pa_cons (pv 1) pa_nil)))))))))), ?_⟩
      (try dsimp only [cxOf, List.map])
      show VX _ _ [_, _, _, _] _ _
      unfold Pc.d
      walk_at "ga"
      refine rc_isiO (.i .v k_Parcel.ins) k_Parcel.ins.me ?_
      walk_at "ga"
      refine ⟨p.nm, p.a, p.b, p.c, p.wl, p.wt, p.br, p.mk, rfl, ?_⟩
      walk_at "ga"
      refine ⟨hh, l, ps, rfl, ⟨h1, h2⟩, by omega, ?_⟩
      refine rv_in (.l .v) rfl (flat_strs _) ?_
      rw [inD_strs, decide_eq_false hn]
      walk_at "ga"
      refine brYn (fun z => by rw [List.length_map] at z; omega) ?_
      walk_at "ga"
      refine rm_insert (n := ps.length) h2 (by rw [List.length_map]) (by rw [List.length_map]; exact Nat.le_refl _) (by rw [List.length_map]; have := szl; omega) ?_
      rw [List.take_of_length_le (by rw [List.length_map]; exact Nat.le_refl _), List.drop_of_length_le (by rw [List.length_map]; exact Nat.le_refl _), List.append_nil]
      rw [List.map_append] at q
      exact q) only [↓VS.box]
end
end LW
namespace LW
open PySem L2 C8 PySem.Spec PyProof.Rows VS
/-! ### the numbers by which a heap is ordered -/
/-- a heap whose list is a list, by value or by reference -/
def IsHl (S : Sto) (CH CP CS : Addr) (x : D) (ps : List Pc) : Prop := ∃ d, IsI S x CH [("held", d)] ∧ IsL S d (ps.map (Pc.d CP CS))
theorem IsHl.v {S : Sto} {CH CP CS : Addr} {ps : List Pc} : IsHl S CH CP CS (.ins CH [("held", .lst (ps.map (Pc.d CP CS)))]) ps := ⟨_, .v, .v⟩
theorem IsHl.ext {S S' : Sto} {CH CP CS : Addr} {x : D} {ps : List Pc} (s : IsHl S CH CP CS x ps) (e : Ext S S') : IsHl S' CH CP CS x ps := by
  obtain ⟨d, h1, h2⟩ := s
  refine ⟨d, h1.ext e, ?_⟩
  cases h2 with
  | v => exact .v
  | r => exact .r
  | c h => exact .c (e _ _ h)
local macro_rules | `(tactic| walk_at "ii") => `(tactic| assumption)
end LW
namespace LW
open PySem L2 C8 PySem.Spec PyProof.Rows VS
/-! ### in which ones each parcel goes -/
/-- a heap, by reference or by value, and its parcels -/
def IsHp (S : Sto) (CH CP CS : Addr) (x : D) (ps : List Pc) : Prop := ∃ d, IsI S x CH [("held", d)] ∧ IsQ S d (ps.map (Pc.d CP CS))
theorem HpS.is {S : Sto} {CH CP CS h l : Addr} {ps : List Pc} (s : HpS S CH CP CS h l ps) : IsHp S CH CP CS (.ref h) ps := ⟨.ref l, .c s.1, .l (.c s.2)⟩
theorem IsHp.ext {S S' : Sto} {CH CP CS : Addr} {x : D} {ps : List Pc} (s : IsHp S CH CP CS x ps) (e : Ext S S') : IsHp S' CH CP CS x ps := by
  obtain ⟨d, h1, h2⟩ := s
  refine ⟨d, ?_, ?_⟩
  · cases h1 with
    | v => exact .v
    | c h => exact .c (e _ _ h)
  · cases h2 with
    | t => exact .t
    | l h =>
      cases h with
      | v => exact .l .v
      | r => exact .l .r
      | c h => exact .l (.c (e _ _ h))
theorem IsHp.v {S : Sto} {CH CP CS : Addr} {ps : List Pc} : IsHp S CH CP CS (.ins CH [("held", .lst (ps.map (Pc.d CP CS)))]) ps := ⟨_, .v, .l .v⟩
/-- the ranked sides, falling -/
def rkD (a b c : Int) : D := .tup ((dn [a, b, c]).map D.int)
def shA (p : Pc) : D := if ("alone" : Str) ∈ p.mk then .non else rkD p.a p.b p.c
def shB (p : Pc) : D := if ("alone" : Str) ∈ p.mk then .non else if noRoom p.a p.b p.c p.wl then .non else rkD (p.a - 2 * p.wl) (p.b - 2 * p.wl) (p.c - 2 * p.wl)
def shG (x y : D) (sp : Int) : Bool := match x, y with
  | .tup [.int a, .int b, .int c], .tup [.int u, .int v, .int w] => decide (a + sp ≤ u) && (decide (b + sp ≤ v) && decide (c + sp ≤ w))
  | _, _ => false
theorem dn3 (a b c : Int) : ∃ u v w, dn [a, b, c] = [u, v, w] := by
  obtain ⟨u, v, w, e, _⟩ := up3 a b c
  exact ⟨w, v, u, by unfold dn; rw [e]; rfl⟩
/-- whether one parcel goes in another one, by the ranks -/
def goB (sp : Int) (p q : Pc) : Bool := shG (shA p) (shB q) sp
def goN (sp : Int) (ps : List Pc) (p : Pc) : List Str := (ps.filter (goB sp p)).map Pc.nm
/-- a dict from the names to lists, these by reference -/
def inD2 (ps : List Pc) (as : List Addr) : List (Key × D) := List.zipWith (fun p a => ((.inr p.nm : Key), D.ref a)) ps as
theorem dkPut_new {ds : List (Key × D)} {k : Key} {d : D} (h : ∀ x ∈ ds, x.1 ≠ k) : dkPut ds k d = ds ++ [(k, d)] := by
  unfold dkPut
  rw [if_neg]
  intro z
  obtain ⟨x, hx, e⟩ := List.any_eq_true.mp z
  exact h x hx (of_decide_eq_true e)
theorem inD2_app {ps : List Pc} {as : List Addr} {p : Pc} {a : Addr} (h : as.length = ps.length) : inD2 (ps ++ [p]) (as ++ [a]) = inD2 ps as ++ [((.inr p.nm : Key), D.ref a)] := by
  unfold inD2
  rw [List.zipWith_append h.symm]
  rfl
theorem inD2_keys : ∀ {ps : List Pc} {as : List Addr}, as.length = ps.length → (inD2 ps as).map Prod.fst = (ps.map Pc.nm).map (.inr : Str → Key)
  | [], [], _ => rfl
  | [], _ :: _, h => by cases h
  | _ :: _, [], h => by cases h
  | p :: ps, a :: as, h => by
    show _ :: (inD2 ps as).map Prod.fst = _ :: _
    rw [inD2_keys (Nat.succ.inj h)]
theorem _root_.VS.Ext.dl {S S' : Sto} {l : Addr} (x : Ext S S') (h : S l = none) : Ext S (VS.del S' l) := fun a d e => by
  have ne : a ≠ l := fun z => by rw [z, h] at e; cases e
  rw [VS.del_ne ne]
  exact x a d e
theorem _root_.VS.Ext.no {S S' : Sto} {l : Addr} (x : Ext S S') (h : S' l = none) : S l = none := by
  cases e : S l with
  | none => rfl
  | some d => rw [x _ _ e] at h; cases h
end LW
namespace LW
open PySem L2 C8 PySem.Spec PyProof.Rows VS
/-! ### a thing of a list; all of a list -/
theorem pick (Q : D → Prop) {xs : List D} {i : Int} (h0 : 0 ≤ i) (h1 : i < xs.length) (all : ∀ x ∈ xs, Q x) : ∃ x, atI xs i = some x ∧ Q x := by
  obtain ⟨x, hx, e⟩ := atI_mem h0 h1
  exact ⟨x, e, all x hx⟩
theorem ac {Q : D → Prop} {a : D} {l : List D} (h : Q a) (t : ∀ x ∈ l, Q x) : ∀ x ∈ a :: l, Q x := fun x hx => by
  rcases List.mem_cons.mp hx with rfl | hx
  · exact h
  · exact t x hx
theorem an {Q : D → Prop} : ∀ x ∈ ([] : List D), Q x := nofun
theorem rv_ixAll {c : VS.Ctx} {S : Sto} {F : D → Sto → Prop} (Q : D → Prop) {xs : List D} {i : Int} (h0 : 0 ≤ i) (h1 : i < xs.length) (all : ∀ x ∈ xs, Q x) (q : ∀ x, Q x → F x S) : RV c (rIxL c.K) (.lst xs) (.int i) S F := by
  obtain ⟨x, ea, hx⟩ := pick Q h0 h1 all
  exact rv_ixL .v ea (q x hx)
theorem Pu.ext {S S' : Sto} {p : Addr} {n : Int} (h : Pu S p n) (x : Ext S S') : Pu S' p n := by
  obtain ⟨a, b, c, e, r⟩ := h
  exact ⟨a, b, c, x _ _ e, r⟩
end LW
namespace LW
open PySem L2 C8 PySem.Spec PyProof.Rows VS
/-! ### the law's names, none twice -/
def p__law_names : Pt := fun ds S G _ => ∃ (p : Addr) (n m : Int), ds = [.ref p, .int m] ∧ Pu S p n ∧ n < 800000 ∧ 0 ≤ m ∧ m ≤ 12 ∧
  ∀ (zs : List Str) (S' : Sto), (zs.length : Int) = m → (∀ z ∈ zs, Nm z) → zs.Nodup → Pu S' p (n + 20) → Ex1 p S S' → G (.lst (zs.map D.str)) S'
theorem lett_ex {i : Int} (h0 : 0 ≤ i) (h1 : i < 26) : atI ("abcdefghijklmnopqrstuvwxyz" : Str).cps.toList i = some (97 + i.toNat) := by
  obtain ⟨k, rfl⟩ := Int.eq_ofNat_of_zero_le h0
  have h : ∀ k, k < 26 → ("abcdefghijklmnopqrstuvwxyz" : Str).cps.toList[k]? = some (97 + k) := by decide +kernel
  exact atI_nat (h k (by omega))
def chN (i : Int) : Nat := 97 + (i % 26).toNat
theorem chN_lc (i : Int) : lcN (chN i) = true := by
  have h0 : 0 ≤ i % 26 := Int.emod_nonneg _ (by decide)
  have h1 : i % 26 < 26 := Int.emod_lt_of_pos _ (by decide)
  obtain ⟨n, e, l⟩ := lett_at h0 h1
  rw [lett_ex h0 h1] at e
  cases e
  exact l
def smN (w : Int) (k : Nat) : Int := if w = 1 ∧ (k : Int) % 3 = 1 then (k : Int) - 1 else k
def xtN (w f : Int) (k : Nat) : Str := if (w = 1 ∧ (k : Int) % 3 = 1) ∨ (w = 2 ∧ (k : Int) % 2 = 1) then ⟨#[chN (f + k)]⟩ else Str.empty
def nmN (w f s : Int) (hd tl : Str) (k : Nat) : Str := hd ++ ⟨#[chN (f + s * smN w k)]⟩ ++ tl ++ xtN w f k
theorem xt_list (w f : Int) (k : Nat) : (xtN w f k).cps.toList = if (w = 1 ∧ (k : Int) % 3 = 1) ∨ (w = 2 ∧ (k : Int) % 2 = 1) then [chN (f + k)] else [] := by
  unfold xtN
  split <;> rfl
theorem nm_list (w f s : Int) (hd tl : Str) (k : Nat) : (nmN w f s hd tl k).cps.toList = hd.cps.toList ++ (chN (f + s * smN w k) :: (tl.cps.toList ++ (xtN w f k).cps.toList)) := by
  unfold nmN
  have e : ∀ a b : Str, (a ++ b).cps.toList = a.cps.toList ++ b.cps.toList := fun a b => by
    show (a.cps ++ b.cps).toList = _
    rw [Array.toList_append]
  rw [e, e, e, List.append_assoc, List.append_assoc]
  rfl
theorem nm_inj {w f s : Int} {hd tl : Str} (hs : s = 1 ∨ s = 5 ∨ s = 7 ∨ s = 11) {k j : Nat} (hk : k < j) (hj : j < 12) : nmN w f s hd tl k ≠ nmN w f s hd tl j := fun e => by
  have e : (nmN w f s hd tl k).cps.toList = (nmN w f s hd tl j).cps.toList := by rw [e]
  rw [nm_list, nm_list] at e
  have e := List.append_cancel_left e
  injection e with e1 e2
  have e2 := List.append_cancel_left e2
  rw [xt_list, xt_list] at e2
  unfold chN at e1
  have b : ∀ i : Nat, i < 12 → 0 ≤ smN w i ∧ smN w i ≤ 11 := fun i hi => by
    unfold smN
    split
    · omega
    · omega
  obtain ⟨b1, b2⟩ := b k (by omega)
  obtain ⟨b3, b4⟩ := b j hj
  have es : smN w k = smN w j := by
    rcases hs with rfl | rfl | rfl | rfl <;> omega
  unfold smN at es
  by_cases h1 : w = 1 ∧ (k : Int) % 3 = 1
  · rw [if_pos h1] at es
    by_cases h2 : w = 1 ∧ (j : Int) % 3 = 1
    · rw [if_pos h2] at es; omega
    · rw [if_neg h2] at es; omega
  · rw [if_neg h1] at es
    by_cases h2 : w = 1 ∧ (j : Int) % 3 = 1
    · rw [if_neg (fun z => z.elim h1 (fun z => by omega)), if_pos (.inl h2)] at e2
      cases e2
    · rw [if_neg h2] at es; omega
theorem nm_nodup {w f s : Int} {hd tl : Str} (hs : s = 1 ∨ s = 5 ∨ s = 7 ∨ s = 11) {n : Nat} (hn : n ≤ 12) : ((List.range n).map (nmN w f s hd tl)).Nodup := by
  rw [List.nodup_iff_pairwise_ne, List.pairwise_map]
  exact List.pairwise_lt_range.imp_of_mem fun _ hb h => nm_inj hs h (by have := List.mem_range.mp hb; omega)
theorem empty_lw : Lw 0 Str.empty := ⟨Nat.le_refl _, nofun⟩
theorem nm_ok {w f s : Int} {hd tl : Str} (h : Lw 6 (hd ++ tl)) (k : Nat) : Nm (nmN w f s hd tl k) := by
  have hl := h.1
  rw [len_add] at hl
  have x : Lw 1 (xtN w f k) := by
    unfold xtN
    split
    · exact Lw.one (chN_lc _)
    · exact empty_lw.mono (by decide)
  have xl := x.1
  have l1 : (⟨#[chN (f + s * smN w k)]⟩ : Str).length = 1 := rfl
  refine ⟨⟨?_, fun c hc => ?_⟩, ?_⟩
  · unfold nmN
    rw [len_add, len_add, len_add]
    omega
  · rw [nm_list] at hc
    have e : (hd ++ tl).cps.toList = hd.cps.toList ++ tl.cps.toList := by
      show (hd.cps ++ tl.cps).toList = _
      rw [Array.toList_append]
    rcases List.mem_append.mp hc with hc | hc
    · exact h.2 c (by rw [e]; exact List.mem_append.mpr (.inl hc))
    · rcases List.mem_cons.mp hc with rfl | hc
      · exact chN_lc _
      · rcases List.mem_append.mp hc with hc | hc
        · exact h.2 c (by rw [e]; exact List.mem_append.mpr (.inr hc))
        · exact x.2 c hc
  · unfold nmN
    rw [len_add, len_add, len_add]
    omega
def nmW12 : List Str := ["in", "x", "wall", "rest", "box", "parcel", "none", "alone", "top", "turn", "stack", "heavy"]
theorem nmW12_ok : ∀ z ∈ nmW12, Nm z := by
  have h : (nmW12.all fun z => (decide (z.length ≤ 8) && z.cps.toList.all lcN) && decide (1 ≤ z.length)) = true := by decide +kernel
  rw [List.all_eq_true] at h
  intro z hz
  have := h z hz
  rw [Bool.and_eq_true, decide_eq_true_eq] at this
  exact ⟨Lw.lit this.1, this.2⟩
theorem nmW12_nd : nmW12.Nodup := by decide +kernel
def w12 (f s : Int) (k : Nat) : Str := nmW12.getD ((f + s * (k : Int)) % 12).toNat Str.empty
theorem w12_at (f s : Int) (k : Nat) : atI (nmW12.map D.str) ((f + s * (k : Int)) % 12) = some (.str (w12 f s k)) ∧ w12 f s k ∈ nmW12 := by
  have h0 : 0 ≤ (f + s * (k : Int)) % 12 := Int.emod_nonneg _ (by decide)
  have h1 : (f + s * (k : Int)) % 12 < 12 := Int.emod_lt_of_pos _ (by decide)
  unfold w12
  generalize (f + s * (k : Int)) % 12 = i at h0 h1
  obtain ⟨j, rfl⟩ := Int.eq_ofNat_of_zero_le h0
  have hj : j < nmW12.length := by show j < 12; omega
  rw [Int.toNat_natCast, List.getD_eq_getElem?_getD, List.getElem?_eq_getElem hj]
  exact ⟨atI_nat (by rw [List.getElem?_map, List.getElem?_eq_getElem hj]; rfl), List.getElem_mem hj⟩
theorem w12_inj {f s : Int} (hs : s = 1 ∨ s = 5 ∨ s = 7 ∨ s = 11) {k j : Nat} (hk : k < j) (hj : j < 12) : w12 f s k ≠ w12 f s j := fun e => by
  have b : ∀ i : Int, ∃ n : Nat, i % 12 = n ∧ n < nmW12.length := fun i => by
    have h0 : 0 ≤ i % 12 := Int.emod_nonneg _ (by decide)
    have h1 : i % 12 < 12 := Int.emod_lt_of_pos _ (by decide)
    exact ⟨(i % 12).toNat, by omega, by show _ < 12; omega⟩
  obtain ⟨a, ea, ha⟩ := b (f + s * (k : Int))
  obtain ⟨c, ec, hc⟩ := b (f + s * (j : Int))
  unfold w12 at e
  rw [ea, ec, Int.toNat_natCast, Int.toNat_natCast, List.getD_eq_getElem?_getD, List.getD_eq_getElem?_getD, List.getElem?_eq_getElem ha, List.getElem?_eq_getElem hc] at e
  have := (List.getElem?_inj (i := a) (j := c) ha nmW12_nd).mp (by rw [List.getElem?_eq_getElem ha, List.getElem?_eq_getElem hc]; exact congrArg some e)
  subst this
  rcases hs with rfl | rfl | rfl | rfl <;> omega
theorem w12_nodup {f s : Int} (hs : s = 1 ∨ s = 5 ∨ s = 7 ∨ s = 11) {n : Nat} (hn : n ≤ 12) : ((List.range n).map (w12 f s)).Nodup := by
  rw [List.nodup_iff_pairwise_ne, List.pairwise_map]
  exact List.pairwise_lt_range.imp_of_mem fun _ hb h => w12_inj hs h (by have := List.mem_range.mp hb; omega)
theorem cut_two {α : Type} (f : α → D) (ys : List α) (k : Nat) : ∃ zs ws : List α, cutD (ys.map f) none (some (k : Int)) = zs.map f ∧ cutD (ys.map f) (some (k : Int)) none = ws.map f ∧ zs ++ ws = ys := by
  refine ⟨ys.take (min k ys.length), ys.drop (min k ys.length), ?_, ?_, List.take_append_drop _ _⟩
  · show ((ys.map f).drop 0).take (HT.sIx (ys.map f).length (ys.map f).length (some (k : Int)) - 0) = _
    rw [HT.sIx_nat, List.drop_zero, Nat.sub_zero, List.length_map, List.map_take]
  · show ((ys.map f).drop (HT.sIx (ys.map f).length 0 (some (k : Int)))).take ((ys.map f).length - HT.sIx (ys.map f).length 0 (some (k : Int))) = _
    rw [HT.sIx_nat, List.length_map, ← List.map_drop, List.take_of_length_le (by rw [List.length_map, List.length_drop]; exact Nat.le_refl _)]
/-- the texts of a walk over numbers -/
def rngF (f : Nat → Str) : D → D
  | .int i => .str (f i.toNat)
  | _ => .non
theorem rng_map {m : Int} {f : Nat → Str} : (rngD 0 m.toNat).map (rngF f) = ((List.range m.toNat).map f).map D.str := by
  unfold rngD
  rw [List.map_map, List.map_map]
  apply List.map_congr_left
  intro a _
  show D.str (f (0 + (a : Int)).toNat) = D.str (f a)
  rw [Int.zero_add, Int.toNat_natCast]
theorem rng_mem {m : Int} {d : D} (h : d ∈ rngD 0 m.toNat) : ∃ k : Nat, d = .int k ∧ (k : Int) < m := by
  obtain ⟨i, hi, rfl⟩ := List.mem_map.mp h
  have := List.mem_range.mp hi
  exact ⟨i, by rw [Int.zero_add], by omega⟩
section
variable {P : Program} {w : World} {K : PySem.W.Frag} {mg : Str → Option Value} {base : Heap}
theorem ok__law_names {f : Addr} {fd : FuncData} {C_Sides C_Parcel C_Heap C_Nest C_NoNumber C_NoSide C_NoSides C_NoOrder C_NoParcel C_NotInHeap : Addr} {f__law_take : Addr} {g__law_take : FuncData}
    (F : Fd K "_law_names" "_law_names" s__law_names [] f fd) (T : Tx K mg) (hsys : SysOk base)
    (c__law_take : Cf P w K mg base (L2.CX P w) 1 "_law_take" s__law_take [] a__law_take p__law_take f__law_take g__law_take) :
    FnG P w K mg base (L2.CX P w) 2 f fd a__law_names (spOf K p__law_names) := by
  refine VS.unbox ?_
  simp (disch := with_unfolding_all
    refine fn_val F sc__law_names (fun ds S G Y h => ?_) (fun cdv A hgd outer s H E hr px tk po ds S G Y h => ?_)
    · obtain ⟨p, n, m, rfl, _⟩ := h
      rfl
    · obtain ⟨p, n, m, rfl, hp, hn, m0, m1, q⟩ := h
      refine ⟨_, (pss_cons (ps_set (i := 2) sc__law_names.nd rfl (Or.inr rfl) pe_str)
        (pss_cons (ps_set (i := 3) sc__law_names.nd rfl (Or.inl rfl) (pe_cG c__law_take.fn hgd (hr.mono (by decide)) (by rfl) c__law_take.mg c__law_take.kp c__law_take.b .nil VS.pass0 (pa_cons (pv 0) (pa_cons pe_int pa_nil))))
        (pss_cons (ps_set (i := 4) sc__law_names.nd rfl (Or.inr rfl) (pe_cG c__law_take.fn hgd (hr.mono (by decide)) (by rfl) c__law_take.mg c__law_take.kp c__law_take.b .nil VS.pass0 (pa_cons (pv 0) (pa_cons pe_int pa_nil))))
        (pss_cons (ps_set (i := 5) sc__law_names.nd rfl (Or.inr rfl) (pe_ix ix_list (pe_lst (pa_cons pe_int (pa_cons pe_int (pa_cons pe_int (pa_cons pe_int pa_nil))))) (pe_cG c__law_take.fn hgd (hr.mono (by decide)) (by rfl) c__law_take.mg c__law_take.kp c__law_take.b .nil VS.pass0 (pa_cons (pv 0) (pa_cons pe_int pa_nil))) (fun _ _ => rfl)))
        (pss_cons (ps_if (pt_cmpR op_eq (pv 3) pe_int (nomark _)) (pss_cons (ps_set (i := 6) sc__law_names.nd rfl (Or.inr rfl) (pe_lst (pa_cons pe_str (pa_cons pe_str (pa_cons pe_str (pa_cons pe_str (pa_cons pe_str (pa_cons pe_str (pa_cons pe_str (pa_cons pe_str (pa_cons pe_str (pa_cons pe_str (pa_cons pe_str (pa_cons pe_str pa_nil))))))))))))))
        (pss_one (ps_ret (pe_lc (own := [("_law_k", 12)]) rfl sc__law_names.nd (pi_range1 (by rfl) T.b_range (pa_cons (pv 1) pa_nil)) (blkOk_by (own := [("_law_k", 12)]) (N := n__law_names) (sc := defScope s__law_names) (by decide +kernel)) (fun _ _ _ _ _ => (pg_name (i := 12) sc__law_names.nd rfl (Or.inl rfl))) (fun _ _ _ _ _ => pts_nil) (fun _ _ _ _ _ => (pe_ix (kI (K := K) (r := rIxL) ix_list) (pv 6) (pe_op op_mod (pe_op op_add (pv 4) (pe_op op_mulW (pv 5) (pv 12))) pe_int) (fun _ _ => rfl)))))))
        pss_nil)
        (pss_cons (ps_setLc (i := 7) (own := [("_law_k", 12)]) rfl sc__law_names.nd rfl rfl (sw_true rfl rfl rfl (by decide +kernel)) (pi_range1 (by rfl) T.b_range (pa_cons (pe_cG c__law_take.fn hgd (hr.mono (by decide)) (by rfl) c__law_take.mg c__law_take.kp c__law_take.b .nil VS.pass0 (pa_cons (pv 0) (pa_cons pe_int pa_nil))) pa_nil)) (blkOk_by (own := [("_law_k", 12)]) (N := n__law_names) (sc := defScope s__law_names) (by decide +kernel)) (fun _ _ _ _ _ => (pg_name (i := 12) sc__law_names.nd rfl (Or.inl rfl))) (fun _ _ _ _ _ => pts_nil) (fun _ _ _ _ _ => (pe_ix ix_str (pv 2) (pe_cG c__law_take.fn hgd (hr.mono (by decide)) (by rfl) c__law_take.mg c__law_take.kp c__law_take.b .nil VS.pass0 (pa_cons (pv 0) (pa_cons pe_int pa_nil))) (fun _ _ => rfl))))
        (pss_cons (ps_set (i := 8) sc__law_names.nd rfl (Or.inl rfl) (pe_cG c__law_take.fn hgd (hr.mono (by decide)) (by rfl) c__law_take.mg c__law_take.kp c__law_take.b .nil VS.pass0 (pa_cons (pv 0) (pa_cons (pe_op op_add (pe_callB c_len (by rfl) T.b_len (by decide +kernel) (pa_cons (pv 7) pa_nil)) pe_int) pa_nil))))
        (pss_cons (ps_par (i := 9) (j := 10) (by rfl) sc__law_names.nd rfl rfl (by decide) rfl rfl (pa_cons (pe_m1 PySem.F.slot_str_join PySem.F.type_str_join m_join pe_str (pe_slice sl_list (pv 7) po_none (po_some (pv 8)))) (pa_cons (pe_m1 PySem.F.slot_str_join PySem.F.type_str_join m_join pe_str (pe_slice sl_list (pv 7) (po_some (pv 8)) po_none)) pa_nil)) (by rfl))
        (pss_cons (ps_set (i := 11) sc__law_names.nd rfl (Or.inl rfl) (pe_lst pa_nil))
        (pss_cons (ps_for po rfl (pi_range1 (by rfl) T.b_range (pa_cons (pv 1) pa_nil)) (pg_name (i := 12) sc__law_names.nd rfl (Or.inl rfl))
        (pss_cons (ps_set (i := 13) sc__law_names.nd rfl (Or.inl rfl) (pe_op op_sub (pv 12) (pe_callTy c_int1 (by rfl) T.b_int (by decide +kernel) (pa_cons (pe_and (pe_cmpR op_eq (pv 3) pe_int (nomark _)) (pe_one (pe_cmpR op_eq (pe_op op_mod (pv 12) pe_int) pe_int (nomark _)))) pa_nil))))
        (pss_cons (ps_set (i := 14) sc__law_names.nd rfl (Or.inl rfl) (pe_op op_addS (pe_op op_addS (pv 9) (pe_ix ix_str (pv 2) (pe_op op_mod (pe_op op_add (pv 4) (pe_op op_mulW (pv 5) (pv 13))) pe_int) (fun _ _ => rfl))) (pv 10)))
        (pss_cons (ps_if (PW.pt (pw_or (PW.pt (pw_and (pt_cmpR op_eq (pv 3) pe_int (nomark _)) (pw_and1 (pt_cmpR op_eq (pe_op op_mod (pv 12) pe_int) pe_int (nomark _))))) (pw_or1 (PW.pt (pw_and (pt_cmpR op_eq (pv 3) pe_int (nomark _)) (pw_and1 (pt_cmpR op_eq (pe_op op_mod (pv 12) pe_int) pe_int (nomark _)))))))) (pss_one (ps_set (i := 14) sc__law_names.nd rfl (Or.inl rfl) (pe_op op_addS (pv 14) (pe_ix ix_str (pv 2) (pe_op op_mod (pe_op op_add (pv 4) (pv 12)) pe_int) (fun _ _ => rfl)))))
        pss_nil)
        (pss_one (ps_expr (pe_bm PySem.F.plainAttrs_list PySem.F.slot_list_append PySem.F.type_list_append mt_append (pv 11) (pa_cons (pv 14) pa_nil))))))))
        (pss_one (ps_ret (pv 11))))))))))))), ?_⟩
      (try dsimp only [cxOf, List.map])
      show VX _ _ [_, _, _, _, _, _, _, _, _, _, _, _, _, _, _] _ _
      walk_at "gr"
      intro w S1 w0 w1 h1 o1
      walk_at "gr"
      intro f S2 f0 f1 h2 o2
      have o2 := o1.trans o2
      clear h1 o1 hp
      walk_at "gr"
      refine ve_lst ?_
      walk_at "gr"
      intro t S3 t0 t1 h3 o3
      have o3 := o2.trans o3
      clear h2 o2
      obtain ⟨x, ea, s, rfl, hs⟩ := pick (fun d => ∃ s : Int, d = .int s ∧ (s = 1 ∨ s = 5 ∨ s = 7 ∨ s = 11)) (xs := [.int 1, .int 5, .int 7, .int 11]) t0 t1 (ac ⟨_, rfl, by decide⟩ (ac ⟨_, rfl, by decide⟩ (ac ⟨_, rfl, by decide⟩ (ac ⟨_, rfl, by decide⟩ an))))
      refine rv_ixL .v ea ?_
      clear ea t0 t1
      have sb : 1 ≤ s ∧ s ≤ 11 := by omega
      walk_at "gr"
      refine VS.br (fun e => ?_) (fun e => ?_)
      · walk_at "gr"
        refine ve_lst ?_
        walk_at "gr"
        refine ve_lcM (rngF (w12 f s)) (vi_rng1 ?_)
        walk_at "gr"
        refine ⟨m, rfl, by omega, by rw [rngD_len]; omega, fun d hd => ?_, ?_⟩
        · obtain ⟨k, rfl, hk⟩ := rng_mem hd
          have g1 : s * (k : Int) ≤ 11 * 12 := Int.mul_le_mul (by omega) (by omega) (by omega) (by decide)
          have g0 : 0 ≤ s * (k : Int) := Int.mul_nonneg (by omega) (by omega)
          walk_at "gr"
          refine ⟨rfl, ?_⟩
          walk_at "gr"
          refine rv_ixL .v (w12_at f s k).1 ?_
          exact ⟨by show _ = D.str (w12 f s (k : Int).toNat); rw [Int.toNat_natCast], rfl⟩
        · rw [rng_map]
          refine q _ _ (by rw [List.length_map, List.length_range]; omega) (fun z hz => ?_) (w12_nodup hs (by omega)) (h3.mono (by omega)) o3.ex1
          obtain ⟨k, _, rfl⟩ := List.mem_map.mp hz
          exact nmW12_ok _ (w12_at f s k).2
      · walk_at "gr"
        refine ve_lcJ (fun d => ∃ z, d = .str z ∧ Lw 1 z) (fun i S4 => Pu S4 p (n + 4 + (i : Nat)) ∧ Off p S S4) (vi_rng1 ?_)
        walk_at "gr"
        intro r S4 r0 r1 h4 o4
        have o4 := o3.trans o4
        walk_at "gr"
        refine ⟨r, rfl, by omega, by rw [rngD_len]; omega, ⟨h4.mono (by omega), o4⟩, ?_, ?_⟩
        · rintro i d S5 hd ⟨h5, o5⟩
          obtain ⟨rfl, hi⟩ := rngD_at hd
          walk_at "gr"
          refine ⟨rfl, ?_⟩
          walk_at "gr"
          intro t S6 t0 t1 h6 o6
          refine rv_ixS (by decide) (lett_ex t0 t1) ?_
          obtain ⟨ch, ea, el⟩ := lett_at t0 t1
          rw [lett_ex t0 t1] at ea
          cases ea
          exact ⟨⟨_, rfl, Lw.one el⟩, h6.mono (by omega), o5.trans o6⟩
        rintro acc S5 hl ha ⟨h5, o5⟩
        rw [rngD_len] at hl h5
        obtain ⟨ys, rfl, hy⟩ := strs_all ha
        rw [List.length_map] at hl
        have hl6 : ys.length ≤ 6 := by omega
        have h5 : Pu S5 p (n + 10) := h5.mono (by omega)
        clear h3 o3 h4 o4 ha
        walk_at "gr"
        refine take_ok h5 (by omega) (by omega) (by rw [List.length_map]; omega) fun at_ S6 at0 at1 h6 o6 => ?_
        have o6 := o5.trans o6
        clear h5 o5
        obtain ⟨ka, rfl⟩ := Int.eq_ofNat_of_zero_le at0
        obtain ⟨zs, ws, ez, ew, eys⟩ := cut_two D.str ys ka
        have lz : zs.length + ws.length ≤ 6 := by rw [← List.length_append, eys]; exact hl6
        have hz : ∀ z ∈ zs, Lw 1 z := fun z h => hy z (by rw [← eys]; exact List.mem_append.mpr (.inl h))
        have hw : ∀ z ∈ ws, Lw 1 z := fun z h => hy z (by rw [← eys]; exact List.mem_append.mpr (.inr h))
        have wz : Lw zs.length (Txt.join ("" : Str) zs) := Lw.join0 hz (Nat.le_refl _)
        have ww : Lw ws.length (Txt.join ("" : Str) ws) := Lw.join0 hw (Nat.le_refl _)
        have l0 : (Str.ofString "").length = 0 := by decide
        walk_at "gr"
        refine rs_list .v ?_
        rw [ez]
        refine rm_join (.l .v) (by have := sum_le fun y z => (hz y z).1; rw [l0]; omega) ?_
        walk_at "gr"
        refine rs_list .v ?_
        rw [ew]
        refine rm_join (.l .v) (by have := sum_le fun y z => (hw y z).1; rw [l0]; omega) ?_
        have w6 : Lw 6 (Txt.join ("" : Str) zs ++ Txt.join ("" : Str) ws) := (wz.add ww).mono lz
        generalize Txt.join ("" : Str) zs = hd at w6 wz ⊢
        generalize Txt.join ("" : Str) ws = tl at w6 ww ⊢
        have lh := wz.1
        have lt := ww.1
        clear wz ww hz hw ez ew eys hy hl hl6 r0 r1
        walk_at "gr"
        refine ve_lstc ?_
        walk_at "gr"
        intro fl hfl
        have npf := h6.ne hfl
        have hS : S fl = none := by rw [← o6 fl (Ne.symm npf)]; exact hfl
        have h7 : Pu (put S6 fl (.lst [])) p (n + 15) := (h6.put hfl).mono (by omega)
        have c7 : (put S6 fl (.lst [])) fl = some (.lst []) := put_same
        have o7 : Ex1 p S (put S6 fl (.lst [])) := o6.ex1.new hfl
        show VG _ _ _ _ (put S6 fl (.lst [])) _
        generalize put S6 fl (.lst []) = S7 at h7 c7 o7 ⊢
        clear h6 o6 hfl
        have hw4 : w = 1 ∨ w = 2 ∨ w = 3 ∨ w = 4 := by omega
        walk_at "gr"
        refine vx_for (vi_rng1 ?_)
        walk_at "gr"
        refine ⟨m, rfl, by constructor <;> omega, fun i ρ2 S2 => ∃ x12 x13 x14, ρ2 = [some (.ref p), some (.int m), some (.str "abcdefghijklmnopqrstuvwxyz"), some (.int w), some (.int f), some (.int s), none, some (.lst (ys.map D.str)), some (.int ka), some (.str hd), some (.str tl), some (.ref fl), x12, x13, x14] ∧
          S2 fl = some (.lst (((List.range i).map (nmN w f s hd tl)).map D.str)) ∧ Pu S2 p (n + 15) ∧ Ex1 p S S2, ⟨_, _, _, rfl, c7, h7, o7⟩, ?_, ?_⟩
        · rintro i d_ _ S2 hd_ ⟨x12, x13, x14, rfl, cf, h8, o8⟩
          obtain ⟨rfl, hi⟩ := rngD_at hd_
          have hl9 : (((List.range i).map (nmN w f s hd tl)).map D.str).length < sizeLine := by rw [List.length_map, List.length_map, List.length_range]; have := szl; omega
          have fin : ∀ z : Str, z = nmN w f s hd tl i → ∀ x12 x13 x14, ∃ y12 y13 y14, ([some (.ref p), some (.int m), some (.str "abcdefghijklmnopqrstuvwxyz"), some (.int w), some (.int f), some (.int s), none, some (.lst (ys.map D.str)), some (.int ka), some (.str hd), some (.str tl), some (.ref fl), x12, x13, x14] : Rho) = [some (.ref p), some (.int m), some (.str "abcdefghijklmnopqrstuvwxyz"), some (.int w), some (.int f), some (.int s), none, some (.lst (ys.map D.str)), some (.int ka), some (.str hd), some (.str tl), some (.ref fl), y12, y13, y14] ∧
              (VS.put S2 fl (.lst (((List.range i).map (nmN w f s hd tl)).map D.str ++ [.str z]))) fl = some (.lst (((List.range (i + 1)).map (nmN w f s hd tl)).map D.str)) ∧ Pu (VS.put S2 fl (.lst (((List.range i).map (nmN w f s hd tl)).map D.str ++ [.str z]))) p (n + 15) ∧ Ex1 p S (VS.put S2 fl (.lst (((List.range i).map (nmN w f s hd tl)).map D.str ++ [.str z]))) := by
            rintro z rfl x12 x13 x14
            exact ⟨_, _, _, rfl, by rw [put_same, List.range_succ, List.map_append, List.map_append]; rfl, h8.wr npf, o8.wr2 hS⟩
          have b1 : ∀ j : Int, 0 ≤ j % 26 := fun j => Int.emod_nonneg _ (by decide)
          have b2 : ∀ j : Int, j % 26 < 26 := fun j => Int.emod_lt_of_pos _ (by decide)
          have g0 : ∀ j : Int, 0 ≤ j → j ≤ 12 → 0 ≤ s * j ∧ s * j ≤ 11 * 12 := fun j h0 h1 => ⟨Int.mul_nonneg (by omega) h0, Int.mul_le_mul (by omega) h1 h0 (by decide)⟩
          have gi := g0 i (by omega) (by omega)
          have l1 : ∀ c : Nat, (⟨#[c]⟩ : Str).length = 1 := fun _ => rfl
          clear g0 hd_ c7 h7 o7
          rcases hw4 with rfl | rfl | rfl | rfl
          · walk_at "gr"
            by_cases k3 : (i : Int) % 3 = 1
            · have es : ((i : Int) - if decide ((i : Int) % 3 = 1) = true then 1 else 0) = smN 1 i := by unfold smN; rw [decide_eq_true k3, if_pos rfl, if_pos ⟨rfl, k3⟩]
              rw [es]
              have lc : (⟨#[97 + ((f + s * smN 1 i) % 26).toNat]⟩ : Str).length = 1 := rfl
              have lc2 : (hd ++ ⟨#[97 + ((f + s * smN 1 i) % 26).toNat]⟩ : Str).length = hd.length + 1 := by rw [len_add]; rfl
              have lc3 : (hd ++ ⟨#[97 + ((f + s * smN 1 i) % 26).toNat]⟩ ++ tl : Str).length = hd.length + 1 + tl.length := by rw [len_add, lc2]
              refine rv_ixS (by decide) (lett_ex (b1 _) (b2 _)) ?_
              walk_at "gr"
              refine brYd k3 ?_
              walk_at "gr"
              have le : (⟨#[97 + ((f + (i : Int)) % 26).toNat]⟩ : Str).length = 1 := rfl
              refine rv_ixS (by decide) (lett_ex (b1 _) (b2 _)) ?_
              walk_at "gr"
              refine rm_append cf hl9 ?_
              exact fin _ (by unfold nmN xtN; rw [if_pos (by exact .inl ⟨rfl, k3⟩)]; rfl) _ _ _
            · have es : ((i : Int) - if decide ((i : Int) % 3 = 1) = true then 1 else 0) = smN 1 i := by unfold smN; rw [decide_eq_false k3, if_neg (by decide), if_neg (fun z => k3 z.2)]; omega
              rw [es]
              have lc : (⟨#[97 + ((f + s * smN 1 i) % 26).toNat]⟩ : Str).length = 1 := rfl
              have lc2 : (hd ++ ⟨#[97 + ((f + s * smN 1 i) % 26).toNat]⟩ : Str).length = hd.length + 1 := by rw [len_add]; rfl
              have lc3 : (hd ++ ⟨#[97 + ((f + s * smN 1 i) % 26).toNat]⟩ ++ tl : Str).length = hd.length + 1 + tl.length := by rw [len_add, lc2]
              refine rv_ixS (by decide) (lett_ex (b1 _) (b2 _)) ?_
              walk_at "gr"
              refine brYn k3 ?_
              walk_at "gr"
              refine rm_append cf hl9 ?_
              exact fin _ (by unfold nmN xtN; rw [if_neg (by exact fun z => z.elim (fun z => k3 z.2) (fun z => by cases z.1))]; exact (PySem.Str.append_empty _).symm) _ _ _
          · walk_at "gr"
            by_cases k2 : (i : Int) % 2 = 1
            · have es : ((i : Int) - if false = true then 1 else 0) = smN 2 i := by unfold smN; rw [if_neg (by decide), if_neg (fun z => by cases z.1)]; omega
              rw [es]
              have lc : (⟨#[97 + ((f + s * smN 2 i) % 26).toNat]⟩ : Str).length = 1 := rfl
              have lc2 : (hd ++ ⟨#[97 + ((f + s * smN 2 i) % 26).toNat]⟩ : Str).length = hd.length + 1 := by rw [len_add]; rfl
              have lc3 : (hd ++ ⟨#[97 + ((f + s * smN 2 i) % 26).toNat]⟩ ++ tl : Str).length = hd.length + 1 + tl.length := by rw [len_add, lc2]
              refine rv_ixS (by decide) (lett_ex (b1 _) (b2 _)) ?_
              walk_at "gr"
              refine brYd k2 ?_
              walk_at "gr"
              have le : (⟨#[97 + ((f + (i : Int)) % 26).toNat]⟩ : Str).length = 1 := rfl
              refine rv_ixS (by decide) (lett_ex (b1 _) (b2 _)) ?_
              walk_at "gr"
              refine rm_append cf hl9 ?_
              exact fin _ (by unfold nmN xtN; rw [if_pos (by exact .inr ⟨rfl, k2⟩)]; rfl) _ _ _
            · have es : ((i : Int) - if false = true then 1 else 0) = smN 2 i := by unfold smN; rw [if_neg (by decide), if_neg (fun z => by cases z.1)]; omega
              rw [es]
              have lc : (⟨#[97 + ((f + s * smN 2 i) % 26).toNat]⟩ : Str).length = 1 := rfl
              have lc2 : (hd ++ ⟨#[97 + ((f + s * smN 2 i) % 26).toNat]⟩ : Str).length = hd.length + 1 := by rw [len_add]; rfl
              have lc3 : (hd ++ ⟨#[97 + ((f + s * smN 2 i) % 26).toNat]⟩ ++ tl : Str).length = hd.length + 1 + tl.length := by rw [len_add, lc2]
              refine rv_ixS (by decide) (lett_ex (b1 _) (b2 _)) ?_
              walk_at "gr"
              refine brYn k2 ?_
              walk_at "gr"
              refine rm_append cf hl9 ?_
              exact fin _ (by unfold nmN xtN; rw [if_neg (by exact fun z => z.elim (fun z => by cases z.1) (fun z => k2 z.2))]; exact (PySem.Str.append_empty _).symm) _ _ _
          · walk_at "gr"
            have es : ((i : Int) - if false = true then 1 else 0) = smN 3 i := by unfold smN; rw [if_neg (by decide), if_neg (fun z => by cases z.1)]; omega
            rw [es]
            have lc : (⟨#[97 + ((f + s * smN 3 i) % 26).toNat]⟩ : Str).length = 1 := rfl
            have lc2 : (hd ++ ⟨#[97 + ((f + s * smN 3 i) % 26).toNat]⟩ : Str).length = hd.length + 1 := by rw [len_add]; rfl
            have lc3 : (hd ++ ⟨#[97 + ((f + s * smN 3 i) % 26).toNat]⟩ ++ tl : Str).length = hd.length + 1 + tl.length := by rw [len_add, lc2]
            refine rv_ixS (by decide) (lett_ex (b1 _) (b2 _)) ?_
            walk_at "gr"
            refine rm_append cf hl9 ?_
            exact fin _ (by unfold nmN xtN; rw [if_neg (by exact fun z => z.elim (fun z => by cases z.1) (fun z => by cases z.1))]; exact (PySem.Str.append_empty _).symm) _ _ _
          · walk_at "gr"
            have es : ((i : Int) - if false = true then 1 else 0) = smN 4 i := by unfold smN; rw [if_neg (by decide), if_neg (fun z => by cases z.1)]; omega
            rw [es]
            have lc : (⟨#[97 + ((f + s * smN 4 i) % 26).toNat]⟩ : Str).length = 1 := rfl
            have lc2 : (hd ++ ⟨#[97 + ((f + s * smN 4 i) % 26).toNat]⟩ : Str).length = hd.length + 1 := by rw [len_add]; rfl
            have lc3 : (hd ++ ⟨#[97 + ((f + s * smN 4 i) % 26).toNat]⟩ ++ tl : Str).length = hd.length + 1 + tl.length := by rw [len_add, lc2]
            refine rv_ixS (by decide) (lett_ex (b1 _) (b2 _)) ?_
            walk_at "gr"
            refine rm_append cf hl9 ?_
            exact fin _ (by unfold nmN xtN; rw [if_neg (by exact fun z => z.elim (fun z => by cases z.1) (fun z => by cases z.1))]; exact (PySem.Str.append_empty _).symm) _ _ _
        · rintro ρ2 S2 ⟨x12, x13, x14, rfl, cf, h8, o8⟩
          rw [rngD_len] at cf
          refine vx_freeze 11 rfl cf ?_
          walk_at "gr"
          refine q _ _ (by rw [List.length_map, List.length_range]; omega) (fun z hz => ?_) (nm_nodup hs (by omega)) ?_ (o8.dl hS)
          · obtain ⟨k, _, rfl⟩ := List.mem_map.mp hz
            exact nm_ok w6 k
          · obtain ⟨x, y, z, e, r⟩ := h8
            exact ⟨x, y, z, (VS.del_ne npf).trans e, r.1, r.2.1, r.2.2.1, by have := r.2.2.2; omega⟩) only [↓VS.box]
end
end LW
namespace LW
open PySem L2 C8 PySem.Spec PyProof.Rows VS
/-! ### the law's rows of a heap -/
/-- an empty row, or three sides -/
def Bas (d : D) : Prop := d = .lst [] ∨ ∃ a b c, d = li a b c ∧ In1 a ∧ In1 b ∧ In1 c
def p__law_sides : Pt := fun ds S G _ => ∃ (p : Addr) (n m : Int) (b : D) (dp : Bool), ds = [.ref p, b, .int m, .bl dp] ∧ Pu S p n ∧ n < 800000 ∧ Bas b ∧ 0 ≤ m ∧ m ≤ 100000 ∧ ∀ a b c S', In1 a → In1 b → In1 c → Pu S' p (n + 20) → Ex1 p S S' → G (li a b c) S'
theorem li_get {a b c i : Int} (h0 : 0 ≤ i) (h1 : i < 3) (ha : In1 a) (hb : In1 b) (hc : In1 c) : ∃ v, atI ([D.int a, .int b, .int c] : List D) i = some (.int v) ∧ In1 v := by
  have : i = 0 ∨ i = 1 ∨ i = 2 := by omega
  rcases this with rfl | rfl | rfl
  · exact ⟨a, rfl, ha⟩
  · exact ⟨b, rfl, hb⟩
  · exact ⟨c, rfl, hc⟩
theorem li_setQ {Q : Int → Prop} {a b c w v : Int} (w0 : 0 ≤ w) (w1 : w < 3) (ha : Q a) (hb : Q b) (hc : Q c) (hv : Q v) : ∃ m x y z, ixN ([D.int a, .int b, .int c] : List D).length w = some m ∧ ([D.int a, .int b, .int c] : List D).set m (.int v) = [.int x, .int y, .int z] ∧ Q x ∧ Q y ∧ Q z := by
  have : w = 0 ∨ w = 1 ∨ w = 2 := by omega
  rcases this with rfl | rfl | rfl
  · exact ⟨0, v, b, c, rfl, rfl, hv, hb, hc⟩
  · exact ⟨1, a, v, c, rfl, rfl, ha, hv, hc⟩
  · exact ⟨2, a, b, v, rfl, rfl, ha, hb, hv⟩
def clampD : D → D := fun d => match d with | .int i => .int (if (if i < 100000 then i else 100000) > 1 then (if i < 100000 then i else 100000) else 1) | _ => .non
section
variable {P : Program} {w : World} {K : PySem.W.Frag} {mg : Str → Option Value} {base : Heap}
theorem ok__law_sides {f : Addr} {fd : FuncData} {C_Sides C_Parcel C_Heap C_Nest C_NoNumber C_NoSide C_NoSides C_NoOrder C_NoParcel C_NotInHeap : Addr} {f__law_take : Addr} {g__law_take : FuncData}
    (F : Fd K "_law_sides" "_law_sides" s__law_sides [] f fd) (T : Tx K mg) (hsys : SysOk base)
    (c__law_take : Cf P w K mg base (L2.CX P w) 1 "_law_take" s__law_take [] a__law_take p__law_take f__law_take g__law_take) :
    FnG P w K mg base (L2.CX P w) 2 f fd a__law_sides (spOf K p__law_sides) := by
  refine VS.unbox ?_
  simp (disch := with_unfolding_all
    refine fn_val F sc__law_sides (fun ds S G Y h => ?_) (fun cdv A hgd outer s H E hr px tk po ds S G Y h => ?_)
    · obtain ⟨p, n, m, b, dp, rfl, _⟩ := h
      rfl
    · obtain ⟨p, n, m, b, dp, rfl, hp, hn, hb, m0, m1, q⟩ := h
      refine ⟨_, (pss_cons (ps_set (i := 4) sc__law_sides.nd rfl (Or.inl rfl) (pe_cG c__law_take.fn hgd (hr.mono (by decide)) (by rfl) c__law_take.mg c__law_take.kp c__law_take.b .nil VS.pass0 (pa_cons (pv 0) (pa_cons pe_int pa_nil))))
        (pss_cons (ps_if (PW.pt (pw_and (pt_val (pv 3)) (pw_and1 (pt_cmpR op_lt (pv 4) pe_int (nomark _))))) (pss_one (ps_set (i := 4) sc__law_sides.nd rfl (Or.inl rfl) pe_int))
        pss_nil)
        (pss_cons (ps_if (PW.pt (pw_or (pt_cmpR op_lt (pv 4) pe_int (nomark _)) (pw_or1 (PW.pt (pw_and (pt_cmpR op_lt (pv 4) pe_int (nomark _)) (pw_and1 (pt_cmpR (op_eqE hr) (pv 1) (pe_lst pa_nil) (nomark _)))))))) (pss_cons (ps_set (i := 5) sc__law_sides.nd rfl (Or.inr rfl) (pe_ix ix_list (pe_lst (pa_cons pe_int (pa_cons pe_int (pa_cons pe_int pa_nil)))) (pe_cG c__law_take.fn hgd (hr.mono (by decide)) (by rfl) c__law_take.mg c__law_take.kp c__law_take.b .nil VS.pass0 (pa_cons (pv 0) (pa_cons pe_int pa_nil))) (fun _ _ => rfl)))
        (pss_one (ps_ret (pe_lc (own := [("_law_k", 12)]) rfl sc__law_sides.nd (pi_range1 (by rfl) T.b_range (pa_cons pe_int pa_nil)) (blkOk_by (own := [("_law_k", 12)]) (N := n__law_sides) (sc := defScope s__law_sides) (by decide +kernel)) (fun _ _ _ _ _ => (pg_name (i := 12) sc__law_sides.nd rfl (Or.inl rfl))) (fun _ _ _ _ _ => pts_nil) (fun _ _ _ _ _ => (pe_op op_add pe_int (pe_cG c__law_take.fn hgd (hr.mono (by decide)) (by rfl) c__law_take.mg c__law_take.kp c__law_take.b .nil VS.pass0 (pa_cons (pv 0) (pa_cons (pv 5) pa_nil)))))))))
        pss_nil)
        (pss_cons (ps_if (pt_cmpR op_eq (pv 4) pe_int (nomark _)) (pss_cons (ps_set (i := 6) sc__law_sides.nd rfl (Or.inr rfl) (pe_lst (pa_cons pe_int (pa_cons pe_int (pa_cons (pe_op op_add pe_int (pe_cG c__law_take.fn hgd (hr.mono (by decide)) (by rfl) c__law_take.mg c__law_take.kp c__law_take.b .nil VS.pass0 (pa_cons (pv 0) (pa_cons pe_int pa_nil)))) (pa_cons (pe_op op_add pe_int (pe_cG c__law_take.fn hgd (hr.mono (by decide)) (by rfl) c__law_take.mg c__law_take.kp c__law_take.b .nil VS.pass0 (pa_cons (pv 0) (pa_cons pe_int pa_nil)))) pa_nil))))))
        (pss_one (ps_ret (pe_lc (own := [("_law_k", 12)]) rfl sc__law_sides.nd (pi_range1 (by rfl) T.b_range (pa_cons pe_int pa_nil)) (blkOk_by (own := [("_law_k", 12)]) (N := n__law_sides) (sc := defScope s__law_sides) (by decide +kernel)) (fun _ _ _ _ _ => (pg_name (i := 12) sc__law_sides.nd rfl (Or.inl rfl))) (fun _ _ _ _ _ => pts_nil) (fun _ _ _ _ _ => (pe_ix (kI (K := K) (r := rIxL) ix_list) (pv 6) (pe_cG c__law_take.fn hgd (hr.mono (by decide)) (by rfl) c__law_take.mg c__law_take.kp c__law_take.b .nil VS.pass0 (pa_cons (pv 0) (pa_cons pe_int pa_nil))) (fun _ _ => rfl)))))))
        pss_nil)
        (pss_cons (ps_set (i := 7) sc__law_sides.nd rfl (Or.inl rfl) (pe_cG c__law_take.fn hgd (hr.mono (by decide)) (by rfl) c__law_take.mg c__law_take.kp c__law_take.b .nil VS.pass0 (pa_cons (pv 0) (pa_cons pe_int pa_nil))))
        (pss_cons (ps_set (i := 8) sc__law_sides.nd rfl (Or.inl rfl) (pe_op op_mod (pe_op op_add (pe_op op_add (pv 7) pe_int) (pe_cG c__law_take.fn hgd (hr.mono (by decide)) (by rfl) c__law_take.mg c__law_take.kp c__law_take.b .nil VS.pass0 (pa_cons (pv 0) (pa_cons pe_int pa_nil)))) pe_int))
        (pss_cons (ps_set (i := 9) sc__law_sides.nd rfl (Or.inl rfl) (pe_lst (pa_cons (pe_ix ix_list (pv 1) (pv 7) (fun _ _ => rfl)) (pa_cons (pe_ix ix_list (pv 1) (pv 8) (fun _ _ => rfl)) (pa_cons (pe_ix ix_list (pv 1) (pe_op op_sub (pe_op op_sub pe_int (pv 7)) (pv 8)) (fun _ _ => rfl)) pa_nil)))))
        (pss_cons (ps_if (pt_cmpR op_lt (pv 4) pe_int (nomark _)) (pss_one (ps_setLc (i := 9) (own := [("_law_side", 11)]) rfl sc__law_sides.nd rfl rfl (sw_true rfl rfl rfl (by decide +kernel)) (pi_list (pv 9)) (blkOk_by (own := [("_law_side", 11)]) (N := n__law_sides) (sc := defScope s__law_sides) (by decide +kernel)) (fun _ _ _ _ _ => (pg_name (i := 11) sc__law_sides.nd rfl (Or.inl rfl))) (fun _ _ _ _ _ => pts_nil) (fun _ _ _ _ _ => (pe_op op_add (pe_op op_add (pv 11) (pv 2)) (pe_ix (kI (K := K) (r := rIxL) ix_list) (pe_lst (pa_cons pe_int (pa_cons pe_int (pa_cons pe_int (pa_cons (pe_cG c__law_take.fn hgd (hr.mono (by decide)) (by rfl) c__law_take.mg c__law_take.kp c__law_take.b .nil VS.pass0 (pa_cons (pv 0) (pa_cons pe_int pa_nil))) pa_nil))))) (pe_cG c__law_take.fn hgd (hr.mono (by decide)) (by rfl) c__law_take.mg c__law_take.kp c__law_take.b .nil VS.pass0 (pa_cons (pv 0) (pa_cons pe_int pa_nil))) (fun _ _ => rfl))))))
        pss_nil)
        (pss_cons (ps_if (pt_cmpR op_eq (pv 4) pe_int (nomark _)) (pss_cons (ps_set (i := 10) sc__law_sides.nd rfl (Or.inl rfl) (pe_cG c__law_take.fn hgd (hr.mono (by decide)) (by rfl) c__law_take.mg c__law_take.kp c__law_take.b .nil VS.pass0 (pa_cons (pv 0) (pa_cons pe_int pa_nil))))
        (pss_one (ps_asg (pe_op op_sub (pe_op op_sub (pe_ix ix_list (pv 9) (pv 10) (fun _ _ => rfl)) pe_int) (pe_ix ix_list (pe_lst (pa_cons pe_int (pa_cons (pe_cG c__law_take.fn hgd (hr.mono (by decide)) (by rfl) c__law_take.mg c__law_take.kp c__law_take.b .nil VS.pass0 (pa_cons (pv 0) (pa_cons pe_int pa_nil))) pa_nil))) (pe_cG c__law_take.fn hgd (hr.mono (by decide)) (by rfl) c__law_take.mg c__law_take.kp c__law_take.b .nil VS.pass0 (pa_cons (pv 0) (pa_cons pe_int pa_nil))) (fun _ _ => rfl))) (pg_sub (pv 9) (pv 10) set_list))))
        pss_nil)
        (pss_one (ps_ret (pe_lc (own := [("_law_side", 11)]) rfl sc__law_sides.nd (pi_list (pv 9)) (blkOk_by (own := [("_law_side", 11)]) (N := n__law_sides) (sc := defScope s__law_sides) (by decide +kernel)) (fun _ _ _ _ _ => (pg_name (i := 11) sc__law_sides.nd rfl (Or.inl rfl))) (fun _ _ _ _ _ => pts_nil) (fun _ _ _ _ _ => (pe_callB (c_max2 rfl) (by rfl) T.b_max (by decide +kernel) (pa_cons pe_int (pa_cons (pe_callB (c_min2 rfl) (by rfl) T.b_min (by decide +kernel) (pa_cons pe_int (pa_cons (pv 11) pa_nil))) pa_nil)))))))))))))))), ?_⟩
      (try dsimp only [cxOf, List.map])
      show VX _ _ [_, _, _, _, _, _, _, _, _, _, _, _, _] _ _
      refine vx_seq (vx_asg ?_)
      walk_at "gr"
      intro w S1 w0 w1 h1 o1
      refine vg_name ?_
      refine vx_join (fun ρ2 S2 => S2 = S1 ∧ ∃ w, 0 ≤ w ∧ w < 7 ∧ ρ2 = [some (.ref p), some b, some (.int m), some (.bl dp), some (.int w), none, none, none, none, none, none, none, none]) ?_ ?_
      · walk_at "gr"
        cases dp
        · walk_at "gr"
          exact ⟨rfl, w, w0, w1, rfl⟩
        · walk_at "gr"
          refine VS.br (fun e => ?_) (fun e => ?_)
          · walk_at "gr"
            exact ⟨rfl, 3, by decide, by decide, rfl⟩
          · walk_at "gr"
            exact ⟨rfl, w, w0, w1, rfl⟩
      rintro _ S2 ⟨e, w, w0, w1, rfl⟩
      subst e
      refine vx_join (fun ρ2 S3 => S3 = S2 ∧ 2 ≤ w ∧ (w < 6 → b ≠ .lst []) ∧ ρ2 = [some (.ref p), some b, some (.int m), some (.bl dp), some (.int w), none, none, none, none, none, none, none, none]) ?_ ?_
      · refine vx_ifJ (fun k S3 => S3 = S2 ∧ (k = false → 2 ≤ w ∧ (w < 6 → b ≠ .lst []))) ?_ (fun S3 h => ?_) (fun S3 h => ?_)
        · walk_at "gr"
          refine VS.br (fun e => ?_) (fun e => ?_)
          · exact ⟨rfl, nofun⟩
          walk_at "gr"
          refine VS.br (fun e2 => ?_) (fun e2 => ?_)
          · walk_at "gr"
            refine ve_lst ?_
            walk_at "gr"
            rcases hb with rfl | ⟨a, b', c, rfl, ia, ib, ic⟩
            · refine rv_eqEL .v ?_
              walk_at "gr"
              exact ⟨rfl, nofun⟩
            · refine rv_eqEL .v ?_
              walk_at "gr"
              exact ⟨rfl, fun _ => ⟨by omega, fun _ => nofun⟩⟩
          · exact ⟨rfl, fun _ => ⟨by omega, fun z => absurd z e2⟩⟩
        · obtain ⟨e, _⟩ := h
          subst e
          walk_at "gr"
          refine ve_lst ?_
          walk_at "gr"
          intro t S4 t0 t1 h3 o3
          have o3 := o1.trans o3
          refine rv_ixAll (fun d => ∃ g : Int, d = .int g ∧ 1 ≤ g ∧ g ≤ 100000) t0 t1 (ac ⟨_, rfl, by decide, by decide⟩ (ac ⟨_, rfl, by decide, by decide⟩ (ac ⟨_, rfl, by decide, by decide⟩ an))) ?_
          rintro _ ⟨g, rfl, g0, g1⟩
          walk_at "gr"
          refine ve_lcJ (fun d => ∃ v, d = .int v ∧ In1 v) (fun i S4 => Pu S4 p (n + 5 + (i : Nat)) ∧ Off p S S4) (vi_rng1 ?_)
          walk_at "gr"
          refine ⟨3, rfl, by decide, by rw [rngD_len]; decide, ⟨h3.mono (by omega), o3⟩, ?_, ?_⟩
          · rintro i d S4 hd ⟨h4, o4⟩
            obtain ⟨rfl, hi⟩ := rngD_at hd
            walk_at "gr"
            refine ⟨rfl, ?_⟩
            walk_at "gr"
            intro t S5 t0 t1 h5 o5
            walk_at "gr"
            exact ⟨⟨_, rfl, by omega, by omega⟩, h5.mono (by omega), o4.trans o5⟩
          · rintro acc S4 hl ha ⟨h4, o4⟩
            rw [rngD_len] at hl h4
            obtain ⟨x, y, z, rfl⟩ := list3 hl
            obtain ⟨a, rfl, ia⟩ := ha x (by simp)
            obtain ⟨b', rfl, ib⟩ := ha y (by simp)
            obtain ⟨c, rfl, ic⟩ := ha z (by simp)
            exact q a b' c S4 ia ib ic (h4.mono (by show n + 5 + ((3 : Nat) : Int) ≤ _; omega)) o4.ex1
        · obtain ⟨e, h⟩ := h
          subst e
          obtain ⟨h2, h6⟩ := h rfl
          walk_at "gr"
          exact ⟨rfl, h2, h6, rfl⟩
      rintro _ S3 ⟨e, w2, hbs, rfl⟩
      subst e
      refine vx_join (fun ρ2 S4 => S4 = S3 ∧ w ≠ 6 ∧ ρ2 = [some (.ref p), some b, some (.int m), some (.bl dp), some (.int w), none, none, none, none, none, none, none, none]) ?_ ?_
      · walk_at "gr"
        refine VS.br (fun e => ?_) (fun e => ?_)
        · walk_at "gr"
          refine ve_lst ?_
          walk_at "gr"
          intro t S4 t0 t1 h3 o3
          have o3 := o1.trans o3
          walk_at "gr"
          intro t' S5 t0' t1' h4 o4
          have o4 := o3.trans o4
          clear h3 o3
          walk_at "gr"
          refine ve_lcJ (fun d => ∃ v, d = .int v ∧ In1 v) (fun i S4 => Pu S4 p (n + 5 + (i : Nat)) ∧ Off p S S4) (vi_rng1 ?_)
          walk_at "gr"
          refine ⟨3, rfl, by decide, by rw [rngD_len]; decide, ⟨h4.mono (by omega), o4⟩, ?_, ?_⟩
          · rintro i d S4 hd ⟨h4, o4⟩
            obtain ⟨rfl, hi⟩ := rngD_at hd
            walk_at "gr"
            refine ⟨rfl, ?_⟩
            walk_at "gr"
            intro u S5 u0 u1 h5 o5
            refine rv_ixAll (fun d => ∃ g : Int, d = .int g ∧ In1 g) u0 u1 (ac ⟨_, rfl, by decide, by decide⟩ (ac ⟨_, rfl, by decide, by decide⟩ (ac ⟨_, rfl, by omega, by omega⟩ (ac ⟨_, rfl, by omega, by omega⟩ an)))) ?_
            rintro _ ⟨g, rfl, hg⟩
            exact ⟨⟨_, rfl, hg⟩, h5.mono (by omega), o4.trans o5⟩
          · rintro acc S4 hl ha ⟨h4, o4⟩
            rw [rngD_len] at hl h4
            obtain ⟨x, y, z, rfl⟩ := list3 hl
            obtain ⟨a, rfl, ia⟩ := ha x (by simp)
            obtain ⟨b', rfl, ib⟩ := ha y (by simp)
            obtain ⟨c, rfl, ic⟩ := ha z (by simp)
            exact q a b' c S4 ia ib ic (h4.mono (by show n + 5 + ((3 : Nat) : Int) ≤ _; omega)) o4.ex1
        · walk_at "gr"
          exact ⟨rfl, e, rfl⟩
      rintro _ S4 ⟨e, w6, rfl⟩
      subst e
      obtain ⟨a, b', c, rfl, ia, ib, ic⟩ : ∃ a b' c, b = li a b' c ∧ In1 a ∧ In1 b' ∧ In1 c := hb.resolve_left (hbs (by omega))
      walk_at "gr"
      intro f S5 f0 f1 h5 o5
      have o5 := o1.trans o5
      clear h1 o1 hp
      walk_at "gr"
      intro g S6 g0 g1 h6 o6
      have o6 := o5.trans o6
      clear h5 o5
      walk_at "gr"
      have s0 : 0 ≤ (f + 1 + g) % 3 := Int.emod_nonneg _ (by decide)
      have s1 : (f + 1 + g) % 3 < 3 := Int.emod_lt_of_pos _ (by decide)
      have s2 : 0 ≤ 3 - f - (f + 1 + g) % 3 ∧ 3 - f - (f + 1 + g) % 3 < 3 := by omega
      generalize (f + 1 + g) % 3 = sc at s0 s1 s2 ⊢
      refine ve_lst ?_
      walk_at "gr"
      obtain ⟨v1, e1, i1⟩ := li_get f0 f1 ia ib ic
      refine rv_ixL .v e1 ?_
      walk_at "gr"
      obtain ⟨v2, e2, i2⟩ := li_get s0 s1 ia ib ic
      refine rv_ixL .v e2 ?_
      walk_at "gr"
      obtain ⟨v3, e3, i3⟩ := li_get s2.1 s2.2 ia ib ic
      refine rv_ixL .v e3 ?_
      refine va_nil ?_
      refine ⟨by show 3 ≤ sizeLine; decide, vg_name ?_⟩
      have bd : ∀ v, In1 v → -10 ≤ v ∧ v ≤ 300000 := fun v h => by unfold In1 at h; omega
      have fin : ∀ (x y z : Int) (S' : Sto), (-10 ≤ x ∧ x ≤ 300000) → (-10 ≤ y ∧ y ≤ 300000) → (-10 ≤ z ∧ z ≤ 300000) → Pu S' p (n + 20) → Ex1 p S S' → G (.lst ([D.int x, .int y, .int z].map clampD)) S' := by
        intro x y z S' hx hy hz h o
        refine q _ _ _ S' ?_ ?_ ?_ h o
        all_goals (unfold In1; constructor <;> (repeat' split) <;> omega)
      refine vx_join (fun ρ2 S7 => ∃ d : D, (w = 4 → ∃ l, d = .ref l) ∧ (∃ x y z, IsL S7 d [.int x, .int y, .int z] ∧ (-5 ≤ x ∧ x ≤ 300000) ∧ (-5 ≤ y ∧ y ≤ 300000) ∧ (-5 ≤ z ∧ z ≤ 300000)) ∧ (∀ l, d = .ref l → l ≠ p ∧ S l = none) ∧ Pu S7 p (n + 13) ∧ Ex1 p S S7 ∧ ρ2 = [some (.ref p), some (li a b' c), some (.int m), some (.bl dp), some (.int w), none, none, some (.int f), some (.int sc), some d, none, none, none]) ?_ ?_
      · walk_at "gr"
        refine VS.br (fun e5 => ?_) (fun e5 => ?_)
        · walk_at "gr"
          refine ve_lccJ (fun d => ∃ v, d = .int v ∧ -5 ≤ v ∧ v ≤ 300000) (fun i S4 => Pu S4 p (n + 6 + 2 * (i : Nat)) ∧ Off p S S4) (vi_list ?_)
          walk_at "gr"
          refine ⟨_, .v, by show 3 ≤ 100000; decide, ⟨h6.mono (by omega), o6⟩, ?_, ?_⟩
          · rintro i d S7 hd ⟨h7, o7⟩
            have hi : i < 3 := (List.getElem?_eq_some_iff.mp hd).1
            obtain ⟨v, rfl, hv⟩ : ∃ v, d = .int v ∧ In1 v := by
              have := List.mem_of_getElem? hd
              simp only [List.mem_cons, List.not_mem_nil, or_false] at this
              rcases this with rfl | rfl | rfl <;> exact ⟨_, rfl, by assumption⟩
            walk_at "gr"
            refine ⟨rfl, ?_⟩
            walk_at "gr"
            refine ve_lst ?_
            walk_at "gr"
            intro u S8 u0 u1 h8 o8
            walk_at "gr"
            intro u' S9 u0' u1' h9 o9
            refine rv_ixAll (fun d => ∃ g : Int, d = .int g ∧ 0 ≤ g ∧ g ≤ 9) u0' u1' (ac ⟨_, rfl, by decide, by decide⟩ (ac ⟨_, rfl, by decide, by decide⟩ (ac ⟨_, rfl, by decide, by decide⟩ (ac ⟨_, rfl, by omega, by omega⟩ an)))) ?_
            rintro _ ⟨g, rfl, hg⟩
            unfold In1 at hv
            walk_at "gr"
            exact ⟨⟨_, rfl, by omega, by omega⟩, h9.mono (by omega), (o7.trans o8).trans o9⟩
          · rintro acc S7 hl ha ⟨h7, o7⟩ l hl0
            have hl : acc.length = 3 := hl
            obtain ⟨x, y, z, rfl⟩ := list3 hl
            obtain ⟨x, rfl, hx⟩ := ha x (by simp)
            obtain ⟨y, rfl, hy⟩ := ha y (by simp)
            obtain ⟨z, rfl, hz⟩ := ha z (by simp)
            have h7 : Pu S7 p (n + 13) := h7.mono (by show n + 6 + 2 * ((3 : Nat) : Int) ≤ _; omega)
            have np := h7.ne hl0
            walk_at "gr"
            exact ⟨_, fun _ => ⟨l, rfl⟩, ⟨x, y, z, .c put_same, hx, hy, hz⟩, fun l' e => (by cases e; exact ⟨Ne.symm np, by rw [← o7 l (Ne.symm np)]; exact hl0⟩), h7.put hl0, o7.ex1.new hl0, rfl⟩
        · walk_at "gr"
          unfold In1 at i1 i2 i3
          exact ⟨_, fun z => by omega, ⟨v1, v2, v3, .v, by omega, by omega, by omega⟩, nofun, h6.mono (by omega), o6.ex1, rfl⟩
      rintro _ S7 ⟨d, hd4, ⟨x, y, z, hd, hx, hy, hz⟩, hne, h7, o7, rfl⟩
      refine vx_join (fun ρ2 S8 => ∃ x10, (∃ x y z, IsL S8 d [.int x, .int y, .int z] ∧ (-10 ≤ x ∧ x ≤ 300000) ∧ (-10 ≤ y ∧ y ≤ 300000) ∧ (-10 ≤ z ∧ z ≤ 300000)) ∧ Pu S8 p (n + 20) ∧ Ex1 p S S8 ∧ ρ2 = [some (.ref p), some (li a b' c), some (.int m), some (.bl dp), some (.int w), none, none, some (.int f), some (.int sc), some d, x10, none, none]) ?_ ?_
      · walk_at "gr"
        refine VS.br (fun e4 => ?_) (fun e4 => ?_)
        · obtain ⟨l, rfl⟩ := hd4 e4
          obtain ⟨nlp, nlS⟩ := hne l rfl
          cases hd with
          | c cl =>
            walk_at "gr"
            intro u S8 u0 u1 h8 o8
            have cl := (o8 l nlp).trans cl
            walk_at "gr"
            obtain ⟨v, ev, hv⟩ := li_pick (Q := fun v => -5 ≤ v ∧ v ≤ 300000) u0 u1 hx hy hz
            refine rv_ixL (.c cl) ev ?_
            walk_at "gr"
            refine ve_lst ?_
            walk_at "gr"
            intro r S9 r0 r1 h9 o9
            have cl := (o9 l nlp).trans cl
            have o9 := o8.trans o9
            clear h8 o8
            walk_at "gr"
            intro r' S10 r0' r1' h10 o10
            have cl := (o10 l nlp).trans cl
            have o10 := o9.trans o10
            clear h9 o9
            refine rv_ixAll (fun d => ∃ g : Int, d = .int g ∧ 0 ≤ g ∧ g ≤ 4) r0' r1' (ac ⟨_, rfl, by decide, by decide⟩ (ac ⟨_, rfl, by omega, by omega⟩ an)) ?_
            rintro _ ⟨g, rfl, hg⟩
            walk_at "gr"
            obtain ⟨m', x', y', z', em, es, hx', hy', hz'⟩ := li_setQ (Q := fun v => -10 ≤ v ∧ v ≤ 300000) (v := v - 1 - g) u0 u1 (by omega : -10 ≤ x ∧ x ≤ 300000) (by omega : -10 ≤ y ∧ y ≤ 300000) (by omega : -10 ≤ z ∧ z ≤ 300000) (by omega)
            refine ⟨u, m', _, rfl, cl, em, ?_⟩
            rw [es]
            exact ⟨_, ⟨x', y', z', .c put_same, hx', hy', hz'⟩, (h10.mono (by omega)).wr (Ne.symm nlp), (o7.trans o10.ex1).wr2 nlS, rfl⟩
        · walk_at "gr"
          exact ⟨_, ⟨x, y, z, hd, by omega, by omega, by omega⟩, h7.mono (by omega), o7, rfl⟩
      rintro _ S8 ⟨x10, ⟨x, y, z, hd, hx, hy, hz⟩, h8, o8, rfl⟩
      cases hd with
      | v =>
        walk_at "gr"
        refine ve_lcM clampD (vi_list ?_)
        walk_at "gr"
        refine ⟨_, .v, by show 3 ≤ 100000; decide, all3 ?_ ?_ ?_, ?_⟩
        · walk_at "gr"
          refine ⟨rfl, ?_⟩
          walk_at "gr"
          exact ⟨rfl, rfl⟩
        · walk_at "gr"
          refine ⟨rfl, ?_⟩
          walk_at "gr"
          exact ⟨rfl, rfl⟩
        · walk_at "gr"
          refine ⟨rfl, ?_⟩
          walk_at "gr"
          exact ⟨rfl, rfl⟩
        exact fin x y z _ hx hy hz h8 o8
      | r =>
        walk_at "gr"
        refine ve_lcM clampD (vi_list ?_)
        walk_at "gr"
        refine ⟨_, .r, by show 3 ≤ 100000; decide, all3 ?_ ?_ ?_, ?_⟩
        · walk_at "gr"
          refine ⟨rfl, ?_⟩
          walk_at "gr"
          exact ⟨rfl, rfl⟩
        · walk_at "gr"
          refine ⟨rfl, ?_⟩
          walk_at "gr"
          exact ⟨rfl, rfl⟩
        · walk_at "gr"
          refine ⟨rfl, ?_⟩
          walk_at "gr"
          exact ⟨rfl, rfl⟩
        exact fin x y z _ hx hy hz h8 o8
      | @c l _ cl =>
        obtain ⟨nlp, nlS⟩ := hne l rfl
        refine vx_freeze 9 rfl cl ?_
        walk_at "gr"
        refine ve_lcM clampD (vi_list ?_)
        walk_at "gr"
        refine ⟨_, .v, by show 3 ≤ 100000; decide, all3 ?_ ?_ ?_, ?_⟩
        · walk_at "gr"
          refine ⟨rfl, ?_⟩
          walk_at "gr"
          exact ⟨rfl, rfl⟩
        · walk_at "gr"
          refine ⟨rfl, ?_⟩
          walk_at "gr"
          exact ⟨rfl, rfl⟩
        · walk_at "gr"
          refine ⟨rfl, ?_⟩
          walk_at "gr"
          exact ⟨rfl, rfl⟩
        refine fin x y z _ hx hy hz ?_ (o8.dl nlS)
        obtain ⟨x, y, z, e, r⟩ := h8
        exact ⟨x, y, z, (VS.del_ne (Ne.symm nlp)).trans e, r⟩) only [↓VS.box]
end
end LW
namespace LW
open PySem L2 C8 PySem.Spec PyProof.Rows VS
/-! ### the law's rows, parcels, heaps -/
def rwD (r : Pc) : D := .lst [.str r.nm, li r.a r.b r.c, .int r.wl, .int r.wt, .int r.br, .lst (r.mk.map D.str)]
def Rwg (r : Pc) : Prop := r.g ∧ mksOf r.mk = r.mk
def mk3 (x y z : Bool) : List Str := (if x then [("alone" : Str)] else []) ++ ((if y then [("top" : Str)] else []) ++ (if z then [("upright" : Str)] else []))
theorem mk3_mk (x y z : Bool) : Mk (mk3 x y z) := by cases x <;> cases y <;> cases z <;> exact ⟨by decide, by decide, by decide⟩
theorem mk3_of (x y z : Bool) : mksOf (mk3 x y z) = mk3 x y z := by cases x <;> cases y <;> cases z <;> decide +kernel
structure Hrs (rs : List Pc) : Prop where
  g : ∀ r ∈ rs, Rwg r
  n : (rs.map Pc.nm).Nodup
  l : rs.length ≤ 12
theorem Hrs.hps {rs : List Pc} (h : Hrs rs) : Hps rs := ⟨fun p hp => (h.g p hp).1, h.n, h.l⟩
def p__law_row : Pt := fun ds S G _ => ∃ (p mm : Addr) (n sp : Int) (nm : Str) (dp : Bool) (rs : List Pc), ds = [.ref p, .str nm, .ref mm, .int sp, .bl dp] ∧ Pu S p n ∧ n < 700000 ∧ S mm = some (.lst (rs.map rwD)) ∧ p ≠ mm ∧ (∀ r ∈ rs, Rwg r) ∧ rs.length ≤ 100 ∧ Nm nm ∧ 0 ≤ sp ∧ sp ≤ 1000 ∧
  ∀ r S', r.nm = nm → Rwg r → Pu S' p (n + 50) → Ex1 p S S' → G (rwD r) S'
def p__law_rows : Pt := fun ds S G _ => ∃ (p : Addr) (n sp : Int), ds = [.ref p, .int sp] ∧ Pu S p n ∧ n < 600000 ∧ 0 ≤ sp ∧ sp ≤ 1000 ∧ ∀ rs S', Hrs rs → Pu S' p (n + 1000) → Ex1 p S S' → G (.lst (rs.map rwD)) S'
def p__law_spare : Pt := fun ds S G _ => ∃ (p : Addr) (n : Int), ds = [.ref p] ∧ Pu S p n ∧ n < 700000 ∧ ∀ v S', 0 ≤ v → v ≤ 1000 → Pu S' p (n + 3) → Off p S S' → G (.int v) S'
def p_made (CP CS : Addr) : Pt := fun ds S G _ => ∃ r : Pc, ds = [rwD r] ∧ Rwg r ∧ G (r.d CP CS) S
def p_heap (CH CP CS : Addr) : Pt := fun ds S G _ => ∃ rs : List Pc, ds = [.lst (rs.map rwD)] ∧ Hrs rs ∧ ∀ h l S', S h = none → S l = none → Ext S S' → HpS S' CH CP CS h l rs → G (.ref h) S'
section
variable {P : Program} {w : World} {K : PySem.W.Frag} {mg : Str → Option Value} {base : Heap}
theorem ok__law_spare {f : Addr} {fd : FuncData} {C_Sides C_Parcel C_Heap C_Nest C_NoNumber C_NoSide C_NoSides C_NoOrder C_NoParcel C_NotInHeap : Addr} {f__law_take : Addr} {g__law_take : FuncData}
    (F : Fd K "_law_spare" "_law_spare" s__law_spare [] f fd) (T : Tx K mg) (hsys : SysOk base)
    (c__law_take : Cf P w K mg base (L2.CX P w) 1 "_law_take" s__law_take [] a__law_take p__law_take f__law_take g__law_take) :
    FnG P w K mg base (L2.CX P w) 2 f fd a__law_spare (spOf K p__law_spare) := by
  refine VS.unbox ?_
  simp (disch := with_unfolding_all
    refine fn_val F sc__law_spare (fun ds S G Y h => ?_) (fun cdv A hgd outer s H E hr px tk po ds S G Y h => ?_)
    · obtain ⟨p, n, rfl, _⟩ := h
      rfl
    · obtain ⟨p, n, rfl, hp, hn, q⟩ := h
      refine ⟨_, (pss_one (ps_ret (pe_ix ix_list (pe_lst (pa_cons pe_int (pa_cons pe_int (pa_cons pe_int (pa_cons (pe_cG c__law_take.fn hgd (hr.mono (by decide)) (by rfl) c__law_take.mg c__law_take.kp c__law_take.b .nil VS.pass0 (pa_cons (pv 0) (pa_cons pe_int pa_nil))) (pa_cons pe_int (pa_cons (pe_cG c__law_take.fn hgd (hr.mono (by decide)) (by rfl) c__law_take.mg c__law_take.kp c__law_take.b .nil VS.pass0 (pa_cons (pv 0) (pa_cons pe_int pa_nil))) pa_nil))))))) (pe_cG c__law_take.fn hgd (hr.mono (by decide)) (by rfl) c__law_take.mg c__law_take.kp c__law_take.b .nil VS.pass0 (pa_cons (pv 0) (pa_cons pe_int pa_nil))) (fun _ _ => rfl)))), ?_⟩
      (try dsimp only [cxOf, List.map])
      show VX _ _ [_] _ _
      walk_at "gr"
      refine ve_lst ?_
      walk_at "gr"
      intro t S1 t0 t1 h1 o1
      walk_at "gr"
      intro u S2 u0 u1 h2 o2
      walk_at "gr"
      intro x S3 x0 x1 h3 o3
      refine rv_ixAll (fun d => ∃ v : Int, d = .int v ∧ 0 ≤ v ∧ v ≤ 1000) x0 x1 (ac ⟨_, rfl, by decide, by decide⟩ (ac ⟨_, rfl, by decide, by decide⟩ (ac ⟨_, rfl, by decide, by decide⟩ (ac ⟨_, rfl, by omega, by omega⟩ (ac ⟨_, rfl, by decide, by decide⟩ (ac ⟨_, rfl, by omega, by omega⟩ an)))))) ?_
      rintro _ ⟨v, rfl, v0, v1⟩
      exact q v S3 v0 v1 (h3.mono (by omega)) ((o1.trans o2).trans o3)) only [↓VS.box]
theorem ok__law_row {f : Addr} {fd : FuncData} {C_Sides C_Parcel C_Heap C_Nest C_NoNumber C_NoSide C_NoSides C_NoOrder C_NoParcel C_NotInHeap : Addr} {f__law_take f__law_sides : Addr} {g__law_take g__law_sides : FuncData}
    (F : Fd K "_law_row" "_law_row" s__law_row [] f fd) (T : Tx K mg) (hsys : SysOk base)
    (c__law_take : Cf P w K mg base (L2.CX P w) 1 "_law_take" s__law_take [] a__law_take p__law_take f__law_take g__law_take)
    (c__law_sides : Cf P w K mg base (L2.CX P w) 2 "_law_sides" s__law_sides [] a__law_sides p__law_sides f__law_sides g__law_sides) :
    FnG P w K mg base (L2.CX P w) 3 f fd a__law_row (spOf K p__law_row) := by
  refine VS.unbox ?_
  simp (disch := with_unfolding_all
    refine fn_val F sc__law_row (fun ds S G Y h => ?_) (fun cdv A hgd outer s H E hr px tk po ds S G Y h => ?_)
    · obtain ⟨p, mm, n, sp, nm, dp, rs, rfl, _⟩ := h
      rfl
    · obtain ⟨p, mm, n, sp, nm, dp, rs, rfl, hp, hn, hm, npm, hrs, hl, hnm, sp0, sp1, q⟩ := h
      refine ⟨_, (pss_cons (ps_set (i := 5) sc__law_row.nd rfl (Or.inl rfl) (pe_ix ix_list (pe_lst (pa_cons pe_int (pa_cons pe_int (pa_cons pe_int (pa_cons (pe_op op_add pe_int (pe_cG c__law_take.fn hgd (hr.mono (by decide)) (by rfl) c__law_take.mg c__law_take.kp c__law_take.b .nil VS.pass0 (pa_cons (pv 0) (pa_cons pe_int pa_nil)))) pa_nil))))) (pe_cG c__law_take.fn hgd (hr.mono (by decide)) (by rfl) c__law_take.mg c__law_take.kp c__law_take.b .nil VS.pass0 (pa_cons (pv 0) (pa_cons pe_int pa_nil))) (fun _ _ => rfl)))
        (pss_cons (ps_set (i := 6) sc__law_row.nd rfl (Or.inl rfl) (pe_lst pa_nil))
        (pss_cons (ps_if (pt_cmpR (op_neE hr) (pv 2) (pe_lst pa_nil) (nomark _)) (pss_one (ps_set (i := 6) sc__law_row.nd rfl (Or.inl rfl) (pe_ix ix_list (pe_ix ix_list (pv 2) (pe_ix ix_list (pe_lst (pa_cons (pe_op op_sub (pe_callB c_len (by rfl) T.b_len (by decide +kernel) (pa_cons (pv 2) pa_nil)) pe_int) (pa_cons (pe_cG c__law_take.fn hgd (hr.mono (by decide)) (by rfl) c__law_take.mg c__law_take.kp c__law_take.b .nil VS.pass0 (pa_cons (pv 0) (pa_cons (pe_callB c_len (by rfl) T.b_len (by decide +kernel) (pa_cons (pv 2) pa_nil)) pa_nil))) pa_nil))) (pe_callTy c_int1 (by rfl) T.b_int (by decide +kernel) (pa_cons (pe_and (pe_not (pv 4)) (pe_one (pe_cmpR op_eq (pe_cG c__law_take.fn hgd (hr.mono (by decide)) (by rfl) c__law_take.mg c__law_take.kp c__law_take.b .nil VS.pass0 (pa_cons (pv 0) (pa_cons pe_int pa_nil))) pe_int (nomark _)))) pa_nil)) (fun _ _ => rfl)) (fun _ _ => rfl)) pe_int (fun _ _ => rfl))))
        pss_nil)
        (pss_cons (ps_set (i := 7) sc__law_row.nd rfl (Or.inl rfl) (pe_cG c__law_sides.fn hgd (hr.mono (by decide)) (by rfl) c__law_sides.mg c__law_sides.kp c__law_sides.b .nil VS.pass0 (pa_cons (pv 0) (pa_cons (pv 6) (pa_cons (pe_op op_add (pv 3) (pe_op op_mulW pe_int (pv 5))) (pa_cons (pv 4) pa_nil))))))
        (pss_cons (ps_set (i := 8) sc__law_row.nd rfl (Or.inl rfl) (pe_ix ix_list (pe_lst (pa_cons pe_int (pa_cons (pe_op op_add pe_int (pe_cG c__law_take.fn hgd (hr.mono (by decide)) (by rfl) c__law_take.mg c__law_take.kp c__law_take.b .nil VS.pass0 (pa_cons (pv 0) (pa_cons pe_int pa_nil)))) (pa_cons (pe_cG c__law_take.fn hgd (hr.mono (by decide)) (by rfl) c__law_take.mg c__law_take.kp c__law_take.b .nil VS.pass0 (pa_cons (pv 0) (pa_cons pe_int pa_nil))) (pa_cons pe_int pa_nil))))) (pe_cG c__law_take.fn hgd (hr.mono (by decide)) (by rfl) c__law_take.mg c__law_take.kp c__law_take.b .nil VS.pass0 (pa_cons (pv 0) (pa_cons pe_int pa_nil))) (fun _ _ => rfl)))
        (pss_cons (ps_set (i := 9) sc__law_row.nd rfl (Or.inl rfl) (pe_ix ix_list (pe_lst (pa_cons pe_int (pa_cons (pe_op op_add pe_int (pe_cG c__law_take.fn hgd (hr.mono (by decide)) (by rfl) c__law_take.mg c__law_take.kp c__law_take.b .nil VS.pass0 (pa_cons (pv 0) (pa_cons pe_int pa_nil)))) (pa_cons (pe_cG c__law_take.fn hgd (hr.mono (by decide)) (by rfl) c__law_take.mg c__law_take.kp c__law_take.b .nil VS.pass0 (pa_cons (pv 0) (pa_cons pe_int pa_nil))) (pa_cons pe_int pa_nil))))) (pe_cG c__law_take.fn hgd (hr.mono (by decide)) (by rfl) c__law_take.mg c__law_take.kp c__law_take.b .nil VS.pass0 (pa_cons (pv 0) (pa_cons pe_int pa_nil))) (fun _ _ => rfl)))
        (pss_cons (ps_setLc (i := 10) (own := [("_law_word", 11)]) rfl sc__law_row.nd rfl rfl (sw_true rfl rfl rfl (by decide +kernel)) (pi_list (pe_lst (pa_cons pe_str (pa_cons pe_str (pa_cons pe_str pa_nil))))) (blkOk_by (own := [("_law_word", 11)]) (N := n__law_row) (sc := defScope s__law_row) (by decide +kernel)) (fun _ _ _ _ _ => (pg_name (i := 11) sc__law_row.nd rfl (Or.inl rfl))) (fun _ _ _ _ _ => (pts_one (pt_cmpR op_eq (pe_cG c__law_take.fn hgd (hr.mono (by decide)) (by rfl) c__law_take.mg c__law_take.kp c__law_take.b .nil VS.pass0 (pa_cons (pv 0) (pa_cons pe_int pa_nil))) pe_int (nomark _)))) (fun _ _ _ _ _ => (pv 11)))
        (pss_one (ps_ret (pe_lst (pa_cons (pv 1) (pa_cons (pv 7) (pa_cons (pv 5) (pa_cons (pv 8) (pa_cons (pv 9) (pa_cons (pv 10) pa_nil)))))))))))))))), ?_⟩
      (try dsimp only [cxOf, List.map])
      show VX _ _ [_, _, _, _, _, _, _, _, _, _, _, _] _ _
      walk_at "gr"
      refine ve_lst ?_
      walk_at "gr"
      intro t S1 t0 t1 h1 o1
      walk_at "gr"
      intro u S2 u0 u1 h2 o2
      have o2 := o1.trans o2
      clear h1 o1
      refine rv_ixAll (fun d => ∃ v : Int, d = .int v ∧ 1 ≤ v ∧ v ≤ 1000) u0 u1 (ac ⟨_, rfl, by decide, by decide⟩ (ac ⟨_, rfl, by decide, by decide⟩ (ac ⟨_, rfl, by decide, by decide⟩ (ac ⟨_, rfl, by omega, by omega⟩ an)))) ?_
      rintro _ ⟨wl, rfl, w0, w1⟩
      walk_at "gr"
      refine ve_lst ?_
      refine va_nil ?_
      refine ⟨by show 0 ≤ sizeLine; omega, vg_name ?_⟩
      have cm := (o2 mm (Ne.symm npm)).trans hm
      refine vx_join (fun ρ2 S3 => ∃ b : D, Bas b ∧ Pu S3 p (n + 5) ∧ Off p S S3 ∧ ρ2 = [some (.ref p), some (.str nm), some (.ref mm), some (.int sp), some (.bl dp), some (.int wl), some b, none, none, none, none, none]) ?_ ?_
      · walk_at "gr"
        refine ve_lst ?_
        walk_at "gr"
        cases rs with
        | nil =>
          walk_at "gr"
          exact ⟨.lst [], .inl rfl, h2.mono (by omega), o2, rfl⟩
        | cons r0 rs =>
          walk_at "gr"
          refine ve_lst ?_
          walk_at "gr"
          have hlen : ((List.map rwD (r0 :: rs)).length : Int) = (rs.length : Int) + 1 := by rw [List.length_map, List.length_cons]; omega
          rw [hlen]
          have hl : rs.length + 1 ≤ 100 := hl
          walk_at "gr"
          intro v S3 v0 v1 h3 o3
          have cm := (o3 mm (Ne.symm npm)).trans cm
          have o3 := o2.trans o3
          clear h2 o2
          walk_at "gr"
          have fin : ∀ (k : Int) (S4 : Sto), 0 ≤ k → k < 2 → Pu S4 p (n + 5) → Off p S S4 → S4 mm = some (.lst ((r0 :: rs).map rwD)) →
              ∀ (F : D → Sto → Prop), (∀ i, 0 ≤ i → i < (rs.length : Int) + 1 → F (.int i) S4) → RV ⟨K, fun _ => E, fun C fs _ S' => Y C fs S'⟩ (rIxL K) (.lst [.int ((rs.length : Int) + 1 - 1), .int v]) (.int k) S4 F := by
            intro k S4 k0 k1 _ _ _ F hF
            refine rv_ixAll (fun d => ∃ i : Int, d = .int i ∧ 0 ≤ i ∧ i < (rs.length : Int) + 1) k0 k1 (ac ⟨_, rfl, by omega, by omega⟩ (ac ⟨_, rfl, by omega, by omega⟩ an)) ?_
            rintro _ ⟨i, rfl, i0, i1⟩
            exact hF i i0 i1
          have fin2 : ∀ (i : Int) (S4 : Sto), 0 ≤ i → i < (rs.length : Int) + 1 → S4 mm = some (.lst ((r0 :: rs).map rwD)) → ∀ (F : D → Sto → Prop), (∀ r : Pc, Rwg r → F (rwD r) S4) → RV ⟨K, fun _ => E, fun C fs _ S' => Y C fs S'⟩ (rIxL K) (.ref mm) (.int i) S4 F := by
            intro i S4 i0 i1 c4 F hF
            obtain ⟨x, ea, r, rfl, hr⟩ := pick (fun d => ∃ r : Pc, d = rwD r ∧ Rwg r) (xs := (r0 :: rs).map rwD) (i := i) i0 (by rw [hlen]; exact i1) (fun x hx => by
              obtain ⟨r, hr, rfl⟩ := List.mem_map.mp hx
              exact ⟨r, rfl, hrs r hr⟩)
            exact rv_ixL (.c c4) ea (hF r hr)
          cases dp
          · walk_at "gr"
            intro z S4 z0 z1 h4 o4
            have cm := (o4 mm (Ne.symm npm)).trans cm
            have o4 := o3.trans o4
            walk_at "gr"
            refine fin _ S4 (by split <;> decide) (by split <;> decide) (h4.mono (by omega)) o4 cm _ fun i i0 i1 => ?_
            refine fin2 i S4 i0 i1 cm _ fun r hr => ?_
            walk_at "gr"
            exact ⟨_, .inr ⟨r.a, r.b, r.c, rfl, hr.1.a, hr.1.b, hr.1.c⟩, h4.mono (by omega), o4, rfl⟩
          · walk_at "gr"
            refine fin2 _ S3 (by omega) (by omega) cm _ fun r hr => ?_
            walk_at "gr"
            exact ⟨_, .inr ⟨r.a, r.b, r.c, rfl, hr.1.a, hr.1.b, hr.1.c⟩, h3.mono (by omega), o3, rfl⟩
      rintro _ S3 ⟨b, hb, h3, o3, rfl⟩
      clear h2 o2 cm t0 t1 u0 u1
      walk_at "gr"
      refine ⟨p, _, _, b, dp, rfl, h3, by omega, hb, by omega, by omega, fun a b' c S4 ha hb' hc h4 o4 => ?_⟩
      have o4 := o3.ex1.trans o4
      clear h3 o3 hp hm
      walk_at "gr"
      refine ve_lst ?_
      walk_at "gr"
      intro t S5 t0 t1 h5 o5
      walk_at "gr"
      intro t' S6 t0' t1' h6 o6
      walk_at "gr"
      intro u S7 u0 u1 h7 o7
      have o7 := o4.trans ((o5.trans o6).trans o7).ex1
      clear h4 h5 h6 o4 o5 o6
      refine rv_ixAll (fun d => ∃ v : Int, d = .int v ∧ 0 ≤ v ∧ v ≤ 100000) u0 u1 (ac ⟨_, rfl, by decide, by decide⟩ (ac ⟨_, rfl, by omega, by omega⟩ (ac ⟨_, rfl, by omega, by omega⟩ (ac ⟨_, rfl, by decide, by decide⟩ an)))) ?_
      rintro _ ⟨wt, rfl, wt0, wt1⟩
      clear t0 t1 t0' t1' u0 u1
      walk_at "gr"
      refine ve_lst ?_
      walk_at "gr"
      intro t S5 t0 t1 h5 o5
      walk_at "gr"
      intro t' S6 t0' t1' h6 o6
      walk_at "gr"
      intro u S8 u0 u1 h8 o8
      have o8 := o7.trans ((o5.trans o6).trans o8).ex1
      clear h5 h6 h7 o5 o6 o7
      refine rv_ixAll (fun d => ∃ v : Int, d = .int v ∧ 0 ≤ v ∧ v ≤ 100000) u0 u1 (ac ⟨_, rfl, by decide, by decide⟩ (ac ⟨_, rfl, by omega, by omega⟩ (ac ⟨_, rfl, by omega, by omega⟩ (ac ⟨_, rfl, by decide, by decide⟩ an)))) ?_
      rintro _ ⟨br, rfl, br0, br1⟩
      clear t0 t1 t0' t1' u0 u1
      have h8 : Pu S8 p (n + 35) := h8.mono (by omega)
      walk_at "gr"
      refine ve_lc (vi_list ?_)
      walk_at "gr"
      refine ve_lst ?_
      walk_at "gr"
      refine ⟨_, .v, by show 3 ≤ 100000; decide, fun i acc S2 => ∃ x y z, acc = (mk3 x y z).map D.str ∧ (i ≤ 0 → x = false) ∧ (i ≤ 1 → y = false) ∧ (i ≤ 2 → z = false) ∧ Pu S2 p (n + 35 + (i : Nat)) ∧ Ex1 p S S2, ⟨false, false, false, rfl, fun _ => rfl, fun _ => rfl, fun _ => rfl, h8.mono (by omega), o8⟩, ?_, ?_⟩
      · rintro i d acc S2 hd ⟨x, y, z, rfl, hx, hy, hz, h2, o2⟩ _
        have hi : i < 3 := (List.getElem?_eq_some_iff.mp hd).1
        walk_at "gr"
        intro t S3 t0 t1 h3 o3
        have o3 := o2.trans o3.ex1
        match i, hd with
        | 0, hd =>
          cases hd
          have h3 : Pu S3 p (n + 35 + ((0 + 1 : Nat) : Int)) := h3.mono (by omega)
          obtain rfl := hx (Nat.le_refl _)
          obtain rfl := hy (by omega)
          obtain rfl := hz (by omega)
          walk_at "gr"
          refine ⟨fun e => ?_, fun e => ?_⟩
          · walk_at "gr"
            exact ⟨true, false, false, rfl, fun z => by omega, fun _ => rfl, fun _ => rfl, h3, o3⟩
          · exact ⟨false, false, false, rfl, fun z => by omega, fun _ => rfl, fun _ => rfl, h3, o3⟩
        | 1, hd =>
          cases hd
          have h3 : Pu S3 p (n + 35 + ((1 + 1 : Nat) : Int)) := h3.mono (by omega)
          obtain rfl := hy (by omega)
          obtain rfl := hz (by omega)
          walk_at "gr"
          refine ⟨fun e => ?_, fun e => ?_⟩
          · walk_at "gr"
            exact ⟨x, true, false, by cases x <;> rfl, fun z => by omega, fun z => by omega, fun _ => rfl, h3, o3⟩
          · exact ⟨x, false, false, rfl, fun z => by omega, fun z => by omega, fun _ => rfl, h3, o3⟩
        | 2, hd =>
          cases hd
          have h3 : Pu S3 p (n + 35 + ((2 + 1 : Nat) : Int)) := h3.mono (by omega)
          obtain rfl := hz (by omega)
          walk_at "gr"
          refine ⟨fun e => ?_, fun e => ?_⟩
          · walk_at "gr"
            exact ⟨x, y, true, by cases x <;> cases y <;> rfl, fun z => by omega, fun z => by omega, fun z => by omega, h3, o3⟩
          · exact ⟨x, y, false, rfl, fun z => by omega, fun z => by omega, fun z => by omega, h3, o3⟩
        | k + 3, hd => cases hd
      rintro acc S2 ⟨x, y, z, rfl, hx, hy, hz, h2, o2⟩ _
      have h2 : Pu S2 p (n + 50) := h2.mono (by show n + 35 + ((3 : Nat) : Int) ≤ _; omega)
      walk_at "gr"
      refine ve_lst ?_
      walk_at "gr"
      exact q ⟨nm, a, b', c, wl, wt, br, mk3 x y z⟩ S2 rfl ⟨⟨hnm.ok, hnm.1.1, ha, hb', hc, ⟨w0, w1⟩, ⟨wt0, wt1⟩, ⟨br0, br1⟩, mk3_mk x y z⟩, mk3_of x y z⟩ h2 o2) only [↓VS.box]
end
end LW
namespace LW
open PySem L2 C8 PySem.Spec PyProof.Rows VS
/-! ### the law's rows put together; parcels and heaps made of them -/
theorem Hrs.ins {fs : List Pc} {r : Pc} {n : Nat} (h : Hrs fs) (g : Rwg r) (hn : r.nm ∉ fs.map Pc.nm) (l : fs.length < 12) : Hrs (fs.take n ++ [r] ++ fs.drop n) := by
  have pm : (fs.take n ++ [r] ++ fs.drop n).Perm (r :: fs) := by
    have h1 : (fs.take n ++ [r] ++ fs.drop n).Perm (r :: (fs.take n ++ fs.drop n)) := by
      rw [List.append_assoc]
      exact List.perm_middle
    rwa [List.take_append_drop] at h1
  refine ⟨fun x hx => ?_, ?_, by rw [pm.length_eq]; exact l⟩
  · rcases List.mem_cons.mp (pm.mem_iff.mp hx) with rfl | hx
    · exact g
    · exact h.g x hx
  · rw [(pm.map Pc.nm).nodup_iff, List.map_cons, List.nodup_cons]
    exact ⟨hn, h.n⟩
theorem ins_perm {fs : List Pc} {r : Pc} {n : Nat} : (fs.take n ++ [r] ++ fs.drop n).Perm (r :: fs) := by
  have h1 : (fs.take n ++ [r] ++ fs.drop n).Perm (r :: (fs.take n ++ fs.drop n)) := by
    rw [List.append_assoc]
    exact List.perm_middle
  rwa [List.take_append_drop] at h1
/-- Parcel(..) of good things, by value -/
theorem ve_mkPc {c : VS.Ctx} {ρ : Rho} {S : Sto} {F : D → Sto → Prop} {t : TA} {E : L2.St → XK} {CP CS : Addr}
    (h : VA c t ρ S fun ds S1 => ∃ nm a b d wl wt br mk, ds = [.str nm, sd CS a b d, .int wl, .int wt, .int br, .lst (mk.map D.str)] ∧ Pg nm a b d wl wt br mk ∧ F (pcD CP CS nm a b d wl wt br (mksOf mk)) S1) : VE c (tMakeE CP (spOf c.K (p_Pc_init CP CS)) [] E t) ρ S F :=
  ve_mk0 XOk.none (h.imp fun ds S1 ⟨nm, a, b, d, wl, wt, br, mk, e, g, q⟩ y hy => by
    subst e
    exact ⟨y, nm, a, b, d, wl, wt, br, mk, rfl, put_same, g, rfl, y, _, rfl, put_same, nofun, by rw [del_put2 hy]; exact q⟩)
local macro_rules | `(tactic| walk_at "gp") => `(tactic| with_reducible refine ve_mkPc ?_)
section
variable {P : Program} {w : World} {K : PySem.W.Frag} {mg : Str → Option Value} {base : Heap}
theorem ok__law_rows {f : Addr} {fd : FuncData} {C_Sides C_Parcel C_Heap C_Nest C_NoNumber C_NoSide C_NoSides C_NoOrder C_NoParcel C_NotInHeap : Addr} {f__law_take f__law_names f__law_row : Addr} {g__law_take g__law_names g__law_row : FuncData}
    (F : Fd K "_law_rows" "_law_rows" s__law_rows [] f fd) (T : Tx K mg) (hsys : SysOk base)
    (c__law_take : Cf P w K mg base (L2.CX P w) 1 "_law_take" s__law_take [] a__law_take p__law_take f__law_take g__law_take)
    (c__law_names : Cf P w K mg base (L2.CX P w) 2 "_law_names" s__law_names [] a__law_names p__law_names f__law_names g__law_names)
    (c__law_row : Cf P w K mg base (L2.CX P w) 3 "_law_row" s__law_row [] a__law_row p__law_row f__law_row g__law_row) :
    FnG P w K mg base (L2.CX P w) 4 f fd a__law_rows (spOf K p__law_rows) := by
  refine VS.unbox ?_
  simp (disch := with_unfolding_all
    refine fn_val F sc__law_rows (fun ds S G Y h => ?_) (fun cdv A hgd outer s H E hr px tk po ds S G Y h => ?_)
    · obtain ⟨p, n, sp, rfl, _⟩ := h
      rfl
    · obtain ⟨p, n, sp, rfl, hp, hn, sp0, sp1, q⟩ := h
      refine ⟨_, (pss_cons (ps_set (i := 2) sc__law_rows.nd rfl (Or.inl rfl) (pe_ix ix_list (pe_lst (pa_cons (pe_cG c__law_take.fn hgd (hr.mono (by decide)) (by rfl) c__law_take.mg c__law_take.kp c__law_take.b .nil VS.pass0 (pa_cons (pv 0) (pa_cons pe_int pa_nil))) (pa_cons pe_int (pa_cons (pe_cG c__law_take.fn hgd (hr.mono (by decide)) (by rfl) c__law_take.mg c__law_take.kp c__law_take.b .nil VS.pass0 (pa_cons (pv 0) (pa_cons pe_int pa_nil))) (pa_cons (pe_op op_add pe_int (pe_cG c__law_take.fn hgd (hr.mono (by decide)) (by rfl) c__law_take.mg c__law_take.kp c__law_take.b .nil VS.pass0 (pa_cons (pv 0) (pa_cons pe_int pa_nil)))) pa_nil))))) (pe_cG c__law_take.fn hgd (hr.mono (by decide)) (by rfl) c__law_take.mg c__law_take.kp c__law_take.b .nil VS.pass0 (pa_cons (pv 0) (pa_cons pe_int pa_nil))) (fun _ _ => rfl)))
        (pss_cons (ps_set (i := 3) sc__law_rows.nd rfl (Or.inl rfl) (pe_cmpR op_eq (pe_cG c__law_take.fn hgd (hr.mono (by decide)) (by rfl) c__law_take.mg c__law_take.kp c__law_take.b .nil VS.pass0 (pa_cons (pv 0) (pa_cons pe_int pa_nil))) pe_int (nomark _)))
        (pss_cons (ps_par (i := 4) (j := 5) (by rfl) sc__law_rows.nd rfl rfl (by decide) rfl rfl (pa_cons (pe_lst pa_nil) (pa_cons (pe_lst pa_nil) pa_nil)) (by rfl))
        (pss_cons (ps_for po rfl (pi_list (pe_cG c__law_names.fn hgd (hr.mono (by decide)) (by rfl) c__law_names.mg c__law_names.kp c__law_names.b .nil VS.pass0 (pa_cons (pv 0) (pa_cons (pv 2) pa_nil)))) (pg_name (i := 6) sc__law_rows.nd rfl (Or.inl rfl))
        (pss_cons (ps_set (i := 7) sc__law_rows.nd rfl (Or.inl rfl) (pe_cG c__law_row.fn hgd (hr.mono (by decide)) (by rfl) c__law_row.mg c__law_row.kp c__law_row.b .nil VS.pass0 (pa_cons (pv 0) (pa_cons (pv 6) (pa_cons (pv 4) (pa_cons (pv 1) (pa_cons (pv 3) pa_nil)))))))
        (pss_cons (ps_expr (pe_bm PySem.F.plainAttrs_list PySem.F.slot_list_append PySem.F.type_list_append mt_append (pv 4) (pa_cons (pv 7) pa_nil)))
        (pss_one (ps_expr (pe_bm PySem.F.plainAttrs_list PySem.F.slot_list_insert PySem.F.type_list_insert mt_insertV (pv 5) (pa_cons (pe_cG c__law_take.fn hgd (hr.mono (by decide)) (by rfl) c__law_take.mg c__law_take.kp c__law_take.b .nil VS.pass0 (pa_cons (pv 0) (pa_cons (pe_op op_add (pe_callB c_len (by rfl) T.b_len (by decide +kernel) (pa_cons (pv 5) pa_nil)) pe_int) pa_nil))) (pa_cons (pv 7) pa_nil))))))))
        (pss_one (ps_ret (pv 5))))))), ?_⟩
      (try dsimp only [cxOf, List.map])
      show VX _ _ [_, _, _, _, _, _, _, _] _ _
      walk_at "gr"
      refine ve_lst ?_
      walk_at "gr"
      intro t S1 t0 t1 h1 o1
      walk_at "gr"
      intro u S2 u0 u1 h2 o2
      walk_at "gr"
      intro v S3 v0 v1 h3 o3
      walk_at "gr"
      intro x S4 x0 x1 h4 o4
      have o4 := ((o1.trans o2).trans o3).trans o4
      clear h1 h2 h3 o1 o2 o3
      refine rv_ixAll (fun d => ∃ m : Int, d = .int m ∧ 0 ≤ m ∧ m ≤ 12) x0 x1 (ac ⟨_, rfl, by omega, by omega⟩ (ac ⟨_, rfl, by decide, by decide⟩ (ac ⟨_, rfl, by omega, by omega⟩ (ac ⟨_, rfl, by omega, by omega⟩ an)))) ?_
      rintro _ ⟨m, rfl, m0, m1⟩
      clear t0 t1 u0 u1 v0 v1 x0 x1
      walk_at "gr"
      intro t S5 t0 t1 h5 o5
      have o5 := o4.trans o5
      clear h4 o4
      walk_at "gr"
      refine ve_lstc ?_
      walk_at "gr"
      intro ml hml
      walk_at "gr"
      refine ve_lstc ?_
      walk_at "gr"
      intro fl hfl
      have npm := h5.ne hml
      have h6 : Pu (put S5 ml (.lst [])) p (n + 10) := (h5.put hml).mono (by omega)
      have npf := h6.ne hfl
      have nmf : ml ≠ fl := fun z => by subst z; rw [put_same] at hfl; cases hfl
      have h7 : Pu (put (put S5 ml (.lst [])) fl (.lst [])) p (n + 10) := h6.put hfl
      have cm : (put (put S5 ml (.lst [])) fl (.lst [])) ml = some (.lst []) := by rw [put_ne nmf]; exact put_same
      have cf : (put (put S5 ml (.lst [])) fl (.lst [])) fl = some (.lst []) := put_same
      have o7 : Ex1 p S (put (put S5 ml (.lst [])) fl (.lst [])) := (o5.ex1.new hml).new hfl
      have sm : S ml = none := by rw [← o5 ml (Ne.symm npm)]; exact hml
      have sf : S fl = none := by
        rw [put_ne (Ne.symm nmf)] at hfl
        rw [← o5 fl (Ne.symm npf)]
        exact hfl
      generalize put (put S5 ml (.lst [])) fl (.lst []) = S7 at h7 cm cf o7 ⊢
      clear h5 h6 o5 hml hfl
      walk_at "gr"
      refine vx_for (vi_list ?_)
      walk_at "gr"
      refine ⟨p, _, m, rfl, h7, by omega, m0, m1, fun zs S8 lz hz nz h8 o8 => ?_⟩
      have cm := o8 _ _ (Ne.symm npm) cm
      have cf := o8 _ _ (Ne.symm npf) cf
      have o8 := o7.trans o8
      clear h7 o7
      walk_at "gr"
      refine ⟨_, .v, fun i ρ2 S2 => ∃ (rs fs : List Pc) (x6 x7 : Option D), ρ2 = [some (.ref p), some (.int sp), some (.int m), some (.bl (decide (t = 0))), some (.ref ml), some (.ref fl), x6, x7] ∧ S2 ml = some (.lst (rs.map rwD)) ∧ S2 fl = some (.lst (fs.map rwD)) ∧ (∀ r ∈ rs, Rwg r) ∧ rs.length ≤ i ∧ Hrs fs ∧ (fs.map Pc.nm).Perm (zs.take i) ∧ Pu S2 p (n + 40 + 60 * (i : Nat)) ∧ Ex1 p S S2,
        ⟨[], [], _, _, rfl, cm, cf, nofun, Nat.le_refl _, ⟨nofun, by simp, by decide⟩, .nil, h8.mono (by omega), o8⟩, ?_, ?_⟩
      · clear h8 o8 cm cf
        rintro i d ρ2 S2 hd ⟨rs, fs, x6, x7, rfl, cm, cf, hrs, hl, hfs, hpm, h9, o9⟩
        rw [List.getElem?_map] at hd
        cases ez : zs[i]? with
        | none => rw [ez] at hd; cases hd
        | some z =>
          rw [ez] at hd
          cases hd
          have hi : i < zs.length := (List.getElem?_eq_some_iff.mp ez).1
          have tk : zs.take (i + 1) = zs.take i ++ [z] := by rw [List.take_succ, ez]; rfl
          have lf : fs.length = i := by
            have := hpm.length_eq
            rw [List.length_map, List.length_take] at this
            omega
          walk_at "gr"
          refine ⟨p, ml, _, sp, z, _, rs, rfl, h9, by omega, cm, npm, hrs, by omega, hz z (List.mem_of_getElem? ez), sp0, sp1, fun r S10 en hr1 h10 o10 => ?_⟩
          have cm := o10 _ _ (Ne.symm npm) cm
          have cf := o10 _ _ (Ne.symm npf) cf
          have o10 := o9.trans o10
          clear h9 o9
          walk_at "gr"
          refine rm_append cm (by rw [List.length_map]; have := szl; omega) ?_
          have cf : (VS.put S10 ml (.lst (rs.map rwD ++ [rwD r]))) fl = _ := (put_ne (Ne.symm nmf)).trans cf
          have cm : (VS.put S10 ml (.lst (rs.map rwD ++ [rwD r]))) ml = some (.lst ((rs ++ [r]).map rwD)) := by rw [put_same, List.map_append]; rfl
          have h11 := h10.wr (d := .lst (rs.map rwD ++ [rwD r])) npm
          have o11 := o10.wr2 (d := .lst (rs.map rwD ++ [rwD r])) sm
          generalize VS.put S10 ml (.lst (rs.map rwD ++ [rwD r])) = S11 at cf cm h11 o11 ⊢
          clear h10 o10
          walk_at "gr"
          refine take_ok h11 (by omega) (by rw [List.length_map]; omega) (by rw [List.length_map]; omega) fun k S12 k0 k1 h12 o12 => ?_
          have cm := (o12 ml (Ne.symm npm)).trans cm
          have cf := (o12 fl (Ne.symm npf)).trans cf
          have o12 := o11.trans o12.ex1
          clear h11 o11
          obtain ⟨k, rfl⟩ := Int.eq_ofNat_of_zero_le k0
          rw [List.length_map] at k1
          walk_at "gr"
          refine rm_insert (n := k) cf rfl (by rw [List.length_map]; omega) (by rw [List.length_map]; have := szl; omega) ?_
          have em : (fs.map rwD).take k ++ [rwD r] ++ (fs.map rwD).drop k = (fs.take k ++ [r] ++ fs.drop k).map rwD := by
            rw [List.map_append, List.map_append, List.map_take, List.map_drop]; rfl
          rw [em]
          have nn : r.nm ∉ fs.map Pc.nm := by
            rw [en]
            intro hzm
            have hzt := hpm.mem_iff.mp hzm
            have hn2 : (zs.take (i + 1)).Nodup := nz.sublist (List.take_sublist _ _)
            rw [tk, List.nodup_append] at hn2
            exact hn2.2.2 _ hzt _ (List.mem_singleton.mpr rfl) rfl
          refine ⟨rs ++ [r], fs.take k ++ [r] ++ fs.drop k, _, _, rfl, (put_ne nmf).trans cm, put_same, fun x hx => ?_, by rw [List.length_append]; show _ + 1 ≤ _; omega, hfs.ins hr1 nn (by omega), ?_, (h12.wr npf).mono (by omega), o12.wr2 sf⟩
          · rcases List.mem_append.mp hx with hx | hx
            · exact hrs x hx
            · rw [List.mem_singleton.mp hx]; exact hr1
          · rw [tk]
            refine ((ins_perm).map Pc.nm).trans ?_
            rw [List.map_cons, en]
            exact (hpm.cons z).trans (List.perm_append_comm (l₁ := [z]))
      · rintro ρ2 S2 ⟨rs, fs, x6, x7, rfl, cm, cf, hrs, hl, hfs, hpm, h9, o9⟩
        refine vx_freeze 5 rfl cf ?_
        walk_at "gr"
        refine q fs _ hfs ?_ (o9.dl sf)
        rw [List.length_map] at h9
        obtain ⟨x, y, z, e, r⟩ := h9
        exact ⟨x, y, z, (VS.del_ne npf).trans e, r.1, r.2.1, r.2.2.1, by have := r.2.2.2; omega⟩) only [↓VS.box]
theorem ok__law_made {f : Addr} {fd : FuncData} {C_Sides C_Parcel C_Heap C_Nest C_NoNumber C_NoSide C_NoSides C_NoOrder C_NoParcel C_NotInHeap : Addr} {f_Sides f_Parcel : Addr} {g_Sides g_Parcel : FuncData}
    (F : Fd K "_law_made" "_law_made" s__law_made [] f fd) (T : Tx K mg) (hsys : SysOk base)
    (c_Sides : Kf P w K mg base 3 "Sides" C_Sides "Sides.__init__" s_Sides___init__ [] a_Sides___init__ (p_Sides_init K C_Sides C_NoSide) f_Sides g_Sides)
    (c_Parcel : Kf P w K mg base 3 "Parcel" C_Parcel "Parcel.__init__" s_Parcel___init__ [.int 1, .int 0, .int 0, .non] a_Parcel___init__ (p_Pc_init C_Parcel C_Sides) f_Parcel g_Parcel)
    (k_Sides : Kl_Sides K mg C_Sides)
    (k_Parcel : Kl_Parcel K mg C_Parcel) :
    FnG P w K mg base (L2.CX P w) 5 f fd a__law_made (spOf K (p_made C_Parcel C_Sides)) := by
  refine VS.unbox ?_
  simp (disch := with_unfolding_all
    have kc_Sides := k_Sides.ins.cl
    have ka_Sides_three := k_Sides.a_three
    have kc_Parcel := k_Parcel.ins.cl
    have ka_Parcel_called := k_Parcel.a_called
    have ka_Parcel_outside := k_Parcel.a_outside
    have ka_Parcel_thick := k_Parcel.a_thick
    have ka_Parcel_heavy := k_Parcel.a_heavy
    have ka_Parcel_strong := k_Parcel.a_strong
    have ka_Parcel_marks := k_Parcel.a_marks
    have ka_Parcel_told := k_Parcel.a_told
    have ka_Parcel_names := k_Parcel.a_names
    refine fn_val F sc__law_made (fun ds S G Y h => ?_) (fun cdv A hgd outer s H E hr px tk po ds S G Y h => ?_)
    · obtain ⟨r, rfl, _⟩ := h
      rfl
    · obtain ⟨r, rfl, ⟨g, e⟩, q⟩ := h
      refine ⟨_, (pss_cons (ps_set (i := 1) sc__law_made.nd rfl (Or.inl rfl) (pe_kG c_Sides.mk_ c_Sides.fn hgd (hr.mono (by decide)) (by rfl) c_Sides.mg  c_Sides.b .nil VS.pass0 (pa_cons (pe_ix ix_list (pe_ix ix_list (pv 0) pe_int (fun _ _ => rfl)) pe_int (fun _ _ => rfl)) (pa_cons (pe_ix ix_list (pe_ix ix_list (pv 0) pe_int (fun _ _ => rfl)) pe_int (fun _ _ => rfl)) (pa_cons (pe_ix ix_list (pe_ix ix_list (pv 0) pe_int (fun _ _ => rfl)) pe_int (fun _ _ => rfl)) pa_nil)))))
        (pss_one (ps_ret (pe_kG c_Parcel.mk_ c_Parcel.fn hgd (hr.mono (by decide)) (by rfl) c_Parcel.mg  c_Parcel.b .nil VS.pass0 (pa_cons (pe_ix ix_list (pv 0) pe_int (fun _ _ => rfl)) (pa_cons (pv 1) (pa_cons (pe_ix ix_list (pv 0) pe_int (fun _ _ => rfl)) (pa_cons (pe_ix ix_list (pv 0) pe_int (fun _ _ => rfl)) (pa_cons (pe_ix ix_list (pv 0) pe_int (fun _ _ => rfl)) (pa_cons (pe_ix ix_list (pv 0) pe_int (fun _ _ => rfl)) pa_nil)))))))))), ?_⟩
      (try dsimp only [cxOf, List.map])
      show VX _ _ [_, _] _ _
      have ga := g.a
      have gb := g.b
      have gc := g.c
      unfold rwD
      walk_at "gr"
      refine ⟨r.nm, r.a, r.b, r.c, r.wl, r.wt, r.br, r.mk, rfl, g, ?_⟩
      rw [e]
      exact q) only [↓VS.box]
theorem ok__law_heap {f : Addr} {fd : FuncData} {C_Sides C_Parcel C_Heap C_Nest C_NoNumber C_NoSide C_NoSides C_NoOrder C_NoParcel C_NotInHeap : Addr} {f_Heap f_Heap_put f__law_made : Addr} {g_Heap g_Heap_put g__law_made : FuncData}
    (F : Fd K "_law_heap" "_law_heap" s__law_heap [] f fd) (T : Tx K mg) (hsys : SysOk base)
    (c_Heap : Kf P w K mg base 1 "Heap" C_Heap "Heap.__init__" s_Heap___init__ [] a_Heap___init__ (p_Hp_init C_Heap) f_Heap g_Heap)
    (c_Heap_put : Mf P w K mg base 3 C_Heap "put" "Heap.put" s_Heap_put [.non] a_Heap_put (p_Hp_put C_Heap C_Parcel C_Sides) f_Heap_put g_Heap_put)
    (d_Heap_put2 : Bd K g_Heap_put a_Heap_put [.non])
    (c__law_made : Cf P w K mg base (L2.CX P w) 5 "_law_made" s__law_made [] a__law_made (p_made C_Parcel C_Sides) f__law_made g__law_made)
    (k_Heap : Kl_Heap K mg C_Heap)
    (k_Parcel : Kl_Parcel K mg C_Parcel)
    (k_Sides : Kl_Sides K mg C_Sides) :
    FnG P w K mg base (L2.CX P w) 6 f fd a__law_heap (spOf K (p_heap C_Heap C_Parcel C_Sides)) := by
  refine VS.unbox ?_
  simp (disch := with_unfolding_all
    have kc_Heap := k_Heap.ins.cl
    have ka_Heap_held := k_Heap.a_held
    have ka_Heap_told := k_Heap.a_told
    have ka_Heap_kind := k_Heap.a_kind
    have kc_Parcel := k_Parcel.ins.cl
    have ka_Parcel_called := k_Parcel.a_called
    have ka_Parcel_outside := k_Parcel.a_outside
    have ka_Parcel_thick := k_Parcel.a_thick
    have ka_Parcel_heavy := k_Parcel.a_heavy
    have ka_Parcel_strong := k_Parcel.a_strong
    have ka_Parcel_marks := k_Parcel.a_marks
    have ka_Parcel_told := k_Parcel.a_told
    have ka_Parcel_names := k_Parcel.a_names
    have kc_Sides := k_Sides.ins.cl
    have ka_Sides_three := k_Sides.a_three
    refine fn_val F sc__law_heap (fun ds S G Y h => ?_) (fun cdv A hgd outer s H E hr px tk po ds S G Y h => ?_)
    · obtain ⟨rs, rfl, _⟩ := h
      rfl
    · obtain ⟨rs, rfl, hrs, q⟩ := h
      refine ⟨_, (pss_cons (ps_set (i := 1) sc__law_heap.nd rfl (Or.inl rfl) (pe_kG0 c_Heap.mk_ c_Heap.fn hgd (hr.mono (by decide)) (by rfl) c_Heap.mg  c_Heap.b .nil VS.pass0))
        (pss_cons (ps_for po rfl (pi_list (pv 0)) (pg_name (i := 2) sc__law_heap.nd rfl (Or.inl rfl))
        (pss_one (ps_expr (pe_mG (pv 1) c_Heap_put.cl c_Heap_put.me c_Heap_put.fn hgd (hr.mono (by decide)) d_Heap_put2.b d_Heap_put2.v VS.pass0 (pa_cons (pe_cG c__law_made.fn hgd (hr.mono (by decide)) (by rfl) c__law_made.mg c__law_made.kp c__law_made.b .nil VS.pass0 (pa_cons (pv 2) pa_nil)) pa_nil)))))
        (pss_one (ps_ret (pv 1))))), ?_⟩
      (try dsimp only [cxOf, List.map])
      show VX _ _ [_, _, _] _ _
      refine vx_seq (vx_asg ?_)
      refine ve_mkHp ?_
      refine va_nil ?_
      refine ⟨rfl, fun h' l' S1 nh nl x1 a1 a2 => ?_⟩
      walk_at "gr"
      refine vx_for (vi_list ?_)
      walk_at "gr"
      refine ⟨_, .v, fun k ρ2 S2 => Ext S S2 ∧ HpS S2 C_Heap C_Parcel C_Sides h' l' (rs.take k) ∧ ∃ x2, ρ2 = [some (.lst (rs.map rwD)), some (.ref h'), x2], ⟨x1, ⟨a1, a2⟩, _, rfl⟩, ?_, ?_⟩
      · rintro k d ρ2 S2 hd ⟨x2, hs2, x3, rfl⟩
        rw [List.getElem?_map] at hd
        cases e : rs[k]? with
        | none => rw [e] at hd; cases hd
        | some r =>
          rw [e] at hd
          cases hd
          have hk : k < rs.length := (List.getElem?_eq_some_iff.mp e).1
          have h12 := hrs.l
          have tk : rs.take (k + 1) = rs.take k ++ [r] := by rw [List.take_succ, e]; rfl
          have c1 := hs2.1
          walk_at "gr"
          refine ve_mt (dds := [.non]) (XOk.none (E := noE)) (fun _ _ => .cons .non .nil) ?_
          walk_at "gr"
          refine ⟨r, rfl, hrs.g r (List.mem_of_getElem? e), ?_⟩
          walk_at "gr"
          refine ⟨h', l', rs.take k, r, rfl, hs2, ?_, ?_, ?_⟩
          · have : (rs.take k).length ≤ k := by rw [List.length_take]; omega
            omega
          · have hn := hrs.n
            have es : rs.map Pc.nm = (rs.take (k + 1)).map Pc.nm ++ (rs.drop (k + 1)).map Pc.nm := by rw [← List.map_append, List.take_append_drop]
            rw [es, tk, List.map_append, List.nodup_append] at hn
            have hn := hn.1
            rw [List.nodup_append] at hn
            exact fun z => hn.2.2 _ z _ (List.mem_singleton.mpr rfl) rfl
          · refine ⟨Ext.wr nl x2, ?_, _, rfl⟩
            rw [tk]
            exact hs2.set
      · rintro ρ2 S2 ⟨x2, hs2, x3, rfl⟩
        rw [List.length_map, List.take_length] at hs2
        walk_at "gr"
        exact q h' l' S2 nh nl x2 hs2) only [↓VS.box]
end
end LW
namespace LW
open PySem L2 C8 PySem.Spec PyProof.Rows VS
/-! ### lists of texts compared; perms -/
theorem ok_strB {n : Nat} {z : Str} (h : Asc n z) (hn : n ≤ 19) : Ok (.str z) 200 2 := ⟨(Sh.str h).mono (by omega) (by decide), by show ((pd (.str z)).canLay0 && decide ((pd (.str z)).depth ≤ 64)) = true; rw [asc_ok h.2]; rfl, nofun⟩
theorem Hps.perm {rs ts : List Pc} (h : Hps rs) (p : ts.Perm rs) : Hps ts := ⟨fun x hx => h.g x (p.mem_iff.mp hx), (p.map Pc.nm).nodup_iff.mpr h.n, by rw [p.length_eq]; exact h.l⟩
theorem Hps.asc {rs : List Pc} (h : Hps rs) {z : Str} (hz : z ∈ rs.map Pc.nm) : Asc 19 z := by
  obtain ⟨r, hr, rfl⟩ := List.mem_map.mp hz
  exact (Pg.asc (h.g r hr)).mono (by decide)
end LW
namespace LW
open PySem L2 C8 PySem.Spec PyProof.Rows VS
/-! ### a law's world: its purse, and what it keeps by reference -/
structure Wd (S : Sto) (p : Addr) (n : Int) (L : List (Addr × D)) : Prop where
  pu : Pu S p n
  at_ : ∀ x ∈ L, S x.1 = some x.2
  ne : ∀ x ∈ L, x.1 ≠ p
  nd : (L.map Prod.fst).Nodup
theorem Wd.of {S : Sto} {p : Addr} {n : Int} (h : Pu S p n) : Wd S p n [] := ⟨h, nofun, nofun, .nil⟩
theorem Wd.mono {S : Sto} {p : Addr} {n m : Int} {L : List (Addr × D)} (w : Wd S p n L) (h : n ≤ m) : Wd S p m L := ⟨w.pu.mono h, w.at_, w.ne, w.nd⟩
theorem Wd.ex1 {S S' : Sto} {p : Addr} {n m : Int} {L : List (Addr × D)} (w : Wd S p n L) (h : Pu S' p m) (o : Ex1 p S S') : Wd S' p m L := ⟨h, fun x hx => o _ _ (w.ne x hx) (w.at_ x hx), w.ne, w.nd⟩
theorem Wd.off {S S' : Sto} {p : Addr} {n m : Int} {L : List (Addr × D)} (w : Wd S p n L) (h : Pu S' p m) (o : Off p S S') : Wd S' p m L := w.ex1 h o.ex1
theorem Wd.ext {S S' : Sto} {p : Addr} {n : Int} {L : List (Addr × D)} (w : Wd S p n L) (x : Ext S S') : Wd S' p n L := ⟨w.pu.ext x, fun y hy => x _ _ (w.at_ y hy), w.ne, w.nd⟩
theorem Wd.get {S : Sto} {p : Addr} {n : Int} {L : List (Addr × D)} (w : Wd S p n L) (i : Nat) {a : Addr} {d : D} (e : L[i]? = some (a, d)) : S a = some d := w.at_ _ (List.mem_of_getElem? e)
theorem Wd.nep {S : Sto} {p : Addr} {n : Int} {L : List (Addr × D)} (w : Wd S p n L) (i : Nat) {a : Addr} {d : D} (e : L[i]? = some (a, d)) : p ≠ a := Ne.symm (w.ne _ (List.mem_of_getElem? e))
theorem Wd.nij {S : Sto} {p : Addr} {n : Int} {L : List (Addr × D)} (w : Wd S p n L) (i j : Nat) {a b : Addr} {d d' : D} (e : L[i]? = some (a, d)) (e' : L[j]? = some (b, d')) (h : i ≠ j) : a ≠ b := fun z => by
  subst z
  have h1 : (L.map Prod.fst)[i]? = some a := by rw [List.getElem?_map, e]; rfl
  have h2 : (L.map Prod.fst)[j]? = some a := by rw [List.getElem?_map, e']; rfl
  exact h ((List.getElem?_inj (by rw [List.length_map]; exact (List.getElem?_eq_some_iff.mp e).1) w.nd).mp (h1.trans h2.symm))
theorem Wd.free {S : Sto} {p : Addr} {n : Int} {L : List (Addr × D)} {l : Addr} (w : Wd S p n L) (hl : S l = none) : l ∉ L.map Prod.fst := fun z => by
  obtain ⟨x, hx, rfl⟩ := List.mem_map.mp z
  rw [w.at_ x hx] at hl
  cases hl
theorem Wd.new {S : Sto} {p l : Addr} {n : Int} {L : List (Addr × D)} {d : D} (w : Wd S p n L) (hl : S l = none) : Wd (put S l d) p n ((l, d) :: L) := by
  have hf := w.free hl
  refine ⟨w.pu.put hl, fun x hx => ?_, fun x hx => ?_, List.nodup_cons.mpr ⟨hf, w.nd⟩⟩
  · rcases List.mem_cons.mp hx with e | hx
    · rw [e]; exact put_same
    · rw [put_ne]
      · exact w.at_ x hx
      · exact fun z => hf (List.mem_map.mpr ⟨x, hx, z⟩)
  · rcases List.mem_cons.mp hx with e | hx
    · rw [e]; exact Ne.symm (w.pu.ne hl)
    · exact w.ne x hx
theorem Wd.wr {S : Sto} {p a : Addr} {n : Int} {L : List (Addr × D)} {d d' : D} (w : Wd S p n L) (i : Nat) (e : L[i]? = some (a, d)) : Wd (VS.put S a d') p n (L.set i (a, d')) := by
  refine ⟨w.pu.wr (w.nep i e), fun x hx => ?_, fun x hx => ?_, ?_⟩
  · obtain ⟨j, hj⟩ := List.getElem?_of_mem hx
    by_cases z : j = i
    · subst z
      rw [List.getElem?_set_self (List.getElem?_eq_some_iff.mp e).1] at hj
      cases hj
      exact put_same
    · rw [List.getElem?_set_ne (Ne.symm z)] at hj
      have hj' : L[j]? = some (x.1, x.2) := hj
      rw [put_ne (w.nij j i hj' e z)]
      exact w.get j hj'
  · rcases List.mem_or_eq_of_mem_set hx with hx | hx
    · exact w.ne x hx
    · rw [hx]; exact Ne.symm (w.nep i e)
  · have : (L.set i (a, d')).map Prod.fst = L.map Prod.fst := by
      refine List.ext_getElem? fun j => ?_
      rw [List.getElem?_map, List.getElem?_map]
      by_cases z : j = i
      · subst z
        rw [List.getElem?_set_self (List.getElem?_eq_some_iff.mp e).1, e]
        rfl
      · rw [List.getElem?_set_ne (Ne.symm z)]
    rw [this]
    exact w.nd
theorem Wd.sub {S : Sto} {p : Addr} {n : Int} {L M : List (Addr × D)} (w : Wd S p n L) (h : M.Sublist L) : Wd S p n M := ⟨w.pu, fun x hx => w.at_ x (h.subset hx), fun x hx => w.ne x (h.subset hx), w.nd.sublist (h.map _)⟩
theorem Wd.tl {S : Sto} {p : Addr} {n : Int} {x : Addr × D} {L : List (Addr × D)} (w : Wd S p n (x :: L)) : Wd S p n L := w.sub (List.sublist_cons_self ..)
theorem Pu.dl' {S : Sto} {p l : Addr} {n : Int} (h : Pu S p n) (ne : p ≠ l) : Pu (VS.del S l) p n := by
  obtain ⟨x, y, z, e, r⟩ := h
  exact ⟨x, y, z, (VS.del_ne ne).trans e, r⟩
theorem Wd.dl {S : Sto} {p a : Addr} {n : Int} {L : List (Addr × D)} {d : D} (w : Wd S p n L) (i : Nat) (e : L[i]? = some (a, d)) : Wd (VS.del S a) p n (L.eraseIdx i) := by
  refine ⟨w.pu.dl' (w.nep i e), fun x hx => ?_, fun x hx => w.ne x (List.mem_of_mem_eraseIdx hx), w.nd.sublist ((List.eraseIdx_sublist ..).map _)⟩
  obtain ⟨j, ne, hj⟩ := List.mem_eraseIdx_iff_getElem?.mp hx
  have hj' : L[j]? = some (x.1, x.2) := hj
  rw [VS.del_ne (w.nij j i hj' e ne)]
  exact w.get j hj'
theorem Wd.g0 {S : Sto} {p a : Addr} {n : Int} {d : D} {L : List (Addr × D)} (w : Wd S p n ((a, d) :: L)) : S a = some d := w.get 0 rfl
theorem Wd.g1 {S : Sto} {p a : Addr} {n : Int} {d : D} {x0 : Addr × D} {L : List (Addr × D)} (w : Wd S p n (x0 :: (a, d) :: L)) : S a = some d := w.get 1 rfl
theorem Wd.g2 {S : Sto} {p a : Addr} {n : Int} {d : D} {x0 x1 : Addr × D} {L : List (Addr × D)} (w : Wd S p n (x0 :: x1 :: (a, d) :: L)) : S a = some d := w.get 2 rfl
theorem Wd.g3 {S : Sto} {p a : Addr} {n : Int} {d : D} {x0 x1 x2 : Addr × D} {L : List (Addr × D)} (w : Wd S p n (x0 :: x1 :: x2 :: (a, d) :: L)) : S a = some d := w.get 3 rfl
theorem Wd.g4 {S : Sto} {p a : Addr} {n : Int} {d : D} {x0 x1 x2 x3 : Addr × D} {L : List (Addr × D)} (w : Wd S p n (x0 :: x1 :: x2 :: x3 :: (a, d) :: L)) : S a = some d := w.get 4 rfl
theorem Wd.g5 {S : Sto} {p a : Addr} {n : Int} {d : D} {x0 x1 x2 x3 x4 : Addr × D} {L : List (Addr × D)} (w : Wd S p n (x0 :: x1 :: x2 :: x3 :: x4 :: (a, d) :: L)) : S a = some d := w.get 5 rfl
theorem Wd.g6 {S : Sto} {p a : Addr} {n : Int} {d : D} {x0 x1 x2 x3 x4 x5 : Addr × D} {L : List (Addr × D)} (w : Wd S p n (x0 :: x1 :: x2 :: x3 :: x4 :: x5 :: (a, d) :: L)) : S a = some d := w.get 6 rfl
theorem Wd.g7 {S : Sto} {p a : Addr} {n : Int} {d : D} {x0 x1 x2 x3 x4 x5 x6 : Addr × D} {L : List (Addr × D)} (w : Wd S p n (x0 :: x1 :: x2 :: x3 :: x4 :: x5 :: x6 :: (a, d) :: L)) : S a = some d := w.get 7 rfl
theorem take_w {S : Sto} {p : Addr} {n m : Int} {L : List (Addr × D)} {G : D → Sto → Prop} {Y : Addr → List (Str × D) → Sto → Prop} (w : Wd S p n L) (hn : n < 1000000) (h0 : 0 < m) (h1 : m < 2 ^ 64)
    (q : ∀ (d : Int) (S' : Sto), 0 ≤ d → d < m → Wd S' p (n + 1) L → G (.int d) S') : p__law_take [.ref p, .int m] S G Y := take_ok w.pu hn h0 h1 fun d S' d0 d1 h o => q d S' d0 d1 (w.off h o)
end LW
open LW
local macro_rules | `(tactic| walk_at "wd") => `(tactic| first | (apply Wd.g0; assumption) | (apply Wd.g1; assumption) | (apply Wd.g2; assumption) | (apply Wd.g3; assumption) | (apply Wd.g4; assumption) | (apply Wd.g5; assumption) | (apply Wd.g6; assumption) | (apply Wd.g7; assumption))
local macro_rules | `(tactic| walk_at "ii") => `(tactic| first | exact .v | exact .c put_same | exact .c (by assumption) | (apply IsL.c; walk_at "wd") | (apply IsA.c; walk_at "wd") | (refine .c ?_; walk_at "wd"))
local macro_rules | `(tactic| walk_at "gp") => `(tactic| ((with_reducible apply ex_cell); (· walk_at "wd")))
local macro_rules | `(tactic| walk_at "gp") => `(tactic| ((with_reducible apply take_w); (· assumption); (· first | decide | omega); (· first | decide | (simp only [List.length_map]; omega) | omega); (· first | decide | (simp only [List.length_map]; omega) | omega)))
local macro_rules | `(tactic| walk_at "gp") => `(tactic| ((with_reducible apply rv_ixL); (· (apply IsL.c; walk_at "wd")); (· rfl)))
local macro_rules | `(tactic| walk_at "gp") => `(tactic| ((with_reducible apply rc_lenQ); (· (apply IsQ.l; apply IsL.c; walk_at "wd"))))
namespace LW
open PySem L2 C8 PySem.Spec PyProof.Rows VS
/-! ### the longest nest: ranks and the chain, plain -/
section
variable (E : Str → List Str)
variable {E}
/-- a walk from one to one in which it goes -/
inductive Pth (E : Str → List Str) : List Str → Prop
  | nil : Pth E []
  | one {n : Str} : Pth E [n]
  | cons {n m : Str} {l : List Str} (h : m ∈ E n) (t : Pth E (m :: l)) : Pth E (n :: m :: l)
end
end LW
namespace LW
open PySem L2 C8 PySem.Spec PyProof.Rows VS
/-! ### the parcels by their longest side: whatever goes in another one stands ahead of it -/
theorem dn_max (a b c : Int) : ∃ v w, dn [a, b, c] = [max (max a b) c, v, w] := by
  obtain ⟨u, v, w, e⟩ := list3 (up_len [a, b, c])
  have s := up_sorted [a, b, c]
  have pm := up_perm [a, b, c]
  rw [e] at s pm
  have h1 : u ≤ v := (List.pairwise_cons.mp s).1 v (by simp)
  have h2 : v ≤ w := (List.pairwise_cons.mp (List.pairwise_cons.mp s).2).1 w (by simp)
  have hw : w ∈ [a, b, c] := pm.mem_iff.mp (by simp)
  have ha : a ∈ [u, v, w] := pm.mem_iff.mpr (by simp)
  have hb : b ∈ [u, v, w] := pm.mem_iff.mpr (by simp)
  have hc : c ∈ [u, v, w] := pm.mem_iff.mpr (by simp)
  simp only [List.mem_cons, List.not_mem_nil, or_false] at hw ha hb hc
  refine ⟨v, u, ?_⟩
  unfold dn
  rw [e]
  show [w, v, u] = _
  rw [show w = max (max a b) c by omega]
/-- those in which one goes, by its name -/
def Eof (sp : Int) (ps : List Pc) (n : Str) : List Str := match ps.find? fun p => decide (p.nm = n) with
  | some p => goN sp ps p
  | none => []
theorem find_nm : ∀ {ps : List Pc} {p : Pc}, (ps.map Pc.nm).Nodup → p ∈ ps → (ps.find? fun q => decide (q.nm = p.nm)) = some p
  | [], _, _, h => by simp at h
  | q :: ps, p, nd, h => by
    rw [List.map_cons, List.nodup_cons] at nd
    rcases List.mem_cons.mp h with rfl | h
    · rw [List.find?_cons_of_pos (by simp)]
    · have ne : q.nm ≠ p.nm := fun z => nd.1 (by rw [z]; exact List.mem_map.mpr ⟨p, h, rfl⟩)
      rw [List.find?_cons_of_neg (by simpa using ne)]
      exact find_nm nd.2 h
theorem Eof_at {sp : Int} {ps : List Pc} {p : Pc} (nd : (ps.map Pc.nm).Nodup) (h : p ∈ ps) : Eof sp ps p.nm = goN sp ps p := by
  unfold Eof
  rw [find_nm nd h]
theorem mem_goN {sp : Int} {ps : List Pc} {p : Pc} {o : Str} (h : o ∈ goN sp ps p) : ∃ q ∈ ps, q.nm = o ∧ goB sp p q = true := by
  obtain ⟨q, hq, e⟩ := List.mem_map.mp h
  exact ⟨q, (List.mem_filter.mp hq).1, e, (List.mem_filter.mp hq).2⟩
end LW
namespace LW
open PySem L2 C8 PySem.Spec PyProof.Rows VS
/-! ### how many parcels the longest nest has in which each is the outer one -/
def nmD (ns : List Str) : D := .lst (ns.map D.str)
/-- a dict from names to lists of names, by value -/
def ouDs (ns : List Str) (E : Str → List Str) : List (Key × D) := ns.map fun n => ((.inr n : Key), nmD (E n))
theorem valD_map {α : Type} {ns : List Str} {f : Str → D} {x : Str} (h : x ∈ ns) : valD (ns.map fun n => ((.inr n : Key), f n)) (.inr x) = some (f x) := by
  induction ns with
  | nil => simp at h
  | cons n ns ih =>
    by_cases e : n = x
    · subst e
      exact valD_pos rfl
    · rw [List.map_cons, valD_neg (fun z => e (Sum.inr.inj z))]
      exact ih (by rcases List.mem_cons.mp h with rfl | h; exact absurd rfl e; exact h)
theorem valD_ou {ns : List Str} {E : Str → List Str} {x : Str} (h : x ∈ ns) : valD (ouDs ns E) (.inr x) = some (nmD (E x)) := valD_map (α := Unit) h
end LW
namespace LW
open PySem L2 C8 PySem.Spec PyProof.Rows VS
/-! ### the law's own look at what goes in what, by the ranks -/
theorem go_alone {sp : Int} {p q : Pc} (h : ("alone" : Str) ∈ p.mk ∨ ("alone" : Str) ∈ q.mk) : goB sp p q = false := by
  unfold goB shA shB
  rcases h with h | h
  · rw [if_pos h]
    rfl
  · rw [if_pos h]
    split
    · rfl
    · obtain ⟨v, w, e⟩ := dn_max p.a p.b p.c
      unfold rkD
      rw [e]
      rfl
end LW
namespace LW
open PySem L2 C8 PySem.Spec PyProof.Rows VS
/-! ### rows of names, spoilt ones too: what is told of them -/
/-- a list of texts -/
def txs : List D → Option (List Str)
  | [] => some []
  | .str s :: r => (txs r).map (s :: ·)
  | _ :: _ => none
theorem txs_some : ∀ {xs : List D} {zs : List Str}, txs xs = some zs → xs = zs.map D.str
  | [], zs, h => by cases h; rfl
  | d :: r, zs, h => by
    cases d with
    | str s =>
      have h : (txs r).map (s :: ·) = some zs := h
      cases e : txs r with
      | none => rw [e] at h; cases h
      | some ys =>
        rw [e] at h
        cases h
        rw [txs_some e]
        rfl
    | _ => cases h
theorem txs_map : ∀ zs : List Str, txs (zs.map D.str) = some zs
  | [] => rfl
  | z :: r => by
    show (txs (r.map D.str)).map (z :: ·) = _
    rw [txs_map r]
    rfl
theorem txs_all : ∀ xs : List D, ((xs.map (isK "str")).all id) = (txs xs).isSome
  | [] => rfl
  | d :: r => by
    rw [List.map_cons, List.all_cons, txs_all r]
    cases d with
    | str s =>
      show (true && _) = ((txs r).map _).isSome
      rw [Option.isSome_map, Bool.true_and]
    | non => rfl
    | bl b => rfl
    | int i => rfl
    | lst xs => rfl
    | tup xs => rfl
    | dK xs => rfl
    | _ => rfl
/-- so many unlike names, or more -/
def namB (ns : List Str) (n : Int) (xs : List D) : Bool := !decide ((xs.length : Int) < n) && match txs xs with
  | some zs => zs.all (fun z => decide (z ∈ ns)) && decide ((unl zs zs.length : Int) = zs.length)
  | none => false
def chB (E : Str → List Str) : List Str → Bool
  | a :: b :: r => decide (b ∈ E a) && chB E (b :: r)
  | _ => true
theorem chB_iff {E : Str → List Str} : ∀ {zs : List Str}, chB E zs = true ↔ ∀ (j : Nat) (a b : Str), zs[j]? = some a → zs[j + 1]? = some b → b ∈ E a
  | [] => ⟨fun _ j a b h => by simp at h, fun _ => rfl⟩
  | [x] => ⟨fun _ j a b _ h => by simp at h, fun _ => rfl⟩
  | x :: y :: r => by
    have ih := chB_iff (E := E) (zs := y :: r)
    unfold chB
    rw [Bool.and_eq_true, decide_eq_true_eq, ih]
    constructor
    · rintro ⟨h1, h2⟩ j a b e1 e2
      cases j with
      | zero =>
        cases e1
        cases e2
        exact h1
      | succ j => exact h2 j a b e1 e2
    · intro h
      exact ⟨h 0 x y rfl rfl, fun j a b e1 e2 => h (j + 1) a b e1 e2⟩
theorem namB_nd {ns zs : List Str} {n : Int} (nd : zs.Nodup) (hin : ∀ z ∈ zs, z ∈ ns) (hn : n ≤ (zs.length : Int)) : namB ns n (zs.map D.str) = true := by
  unfold namB
  rw [txs_map]
  show (_ && (_ && _)) = true
  rw [unl_nodup nd _ (Nat.le_refl _), decide_eq_true rfl, List.all_eq_true.mpr fun z hz => decide_eq_true (hin z hz), List.length_map, decide_eq_false (by omega)]
  rfl
/-- a thing within a row -/
def Nm1 (d : D) : Prop := (∃ s, d = .str s ∧ Asc 19 s) ∨ d ∈ [D.non, .int 7, .bl true, .lst [.str "a"], .tup [.str "a"], .dK []]
def Rw (n : Nat) (d : D) : Prop := (∃ xs : List D, (d = .lst xs ∨ d = .tup xs) ∧ xs.length ≤ n ∧ ∀ x ∈ xs, Nm1 x) ∨ Nm1 d
def Nz (n m : Nat) (d : D) : Prop := (∃ ys : List D, (d = .lst ys ∨ d = .tup ys) ∧ ys.length ≤ m ∧ ∀ y ∈ ys, Rw n y) ∨ Rw n d
theorem Nm1.p {d : D} (h : Nm1 d) : isP d = true := by
  rcases h with ⟨s, rfl, _⟩ | h
  · rfl
  · simp only [List.mem_cons, List.not_mem_nil, or_false] at h
    rcases h with rfl | rfl | rfl | rfl | rfl | rfl <;> rfl
theorem isPL_of : ∀ {xs : List D}, (∀ x ∈ xs, isP x = true) → isPL xs = true
  | [], _ => rfl
  | x :: xs, h => by
    show (isP x && isPL xs) = true
    rw [h x List.mem_cons_self, isPL_of fun y hy => h y (List.mem_cons_of_mem _ hy)]
    rfl
theorem Rw.p {n : Nat} {d : D} (h : Rw n d) : isP d = true := by
  rcases h with ⟨xs, rfl | rfl, _, h⟩ | h
  · exact isPL_of fun x hx => (h x hx).p
  · exact isPL_of fun x hx => (h x hx).p
  · exact h.p
theorem Nz.p {n m : Nat} {d : D} (h : Nz n m d) : isP d = true := by
  rcases h with ⟨xs, rfl | rfl, _, h⟩ | h
  · exact isPL_of fun x hx => (h x hx).p
  · exact isPL_of fun x hx => (h x hx).p
  · exact h.p
theorem Nm1.a : Nm1 (.str "a") := .inl ⟨_, rfl, Asc.lit (by decide)⟩
theorem Rw.row {n : Nat} {xs : List D} (h : Rw n (.lst xs)) : xs.length ≤ n + 1 ∧ ∀ x ∈ xs, Nm1 x := by
  rcases h with ⟨ys, e | e, h1, h2⟩ | ⟨s, e, _⟩ | h
  · cases e; exact ⟨by omega, h2⟩
  · cases e
  · cases e
  · simp only [List.mem_cons, List.not_mem_nil, or_false] at h
    rcases h with h | h | h | h | h | h
    · cases h
    · cases h
    · cases h
    · cases h
      exact ⟨by simp, fun x hx => by rw [List.mem_singleton.mp hx]; exact Nm1.a⟩
    · cases h
    · cases h
theorem Rw.lst {n : Nat} {xs : List D} (hl : xs.length ≤ n) (h : ∀ x ∈ xs, Nm1 x) : Rw n (.lst xs) := .inl ⟨xs, .inl rfl, hl, h⟩
theorem Rw.mono {n m : Nat} {d : D} (h : Rw n d) (a : n ≤ m) : Rw m d := by
  rcases h with ⟨xs, e, h1, h2⟩ | h
  · exact .inl ⟨xs, e, by omega, h2⟩
  · exact .inr h
theorem Nz.lst {n m : Nat} {ys : List D} (hl : ys.length ≤ m) (h : ∀ y ∈ ys, Rw n y) : Nz n m (.lst ys) := .inl ⟨ys, .inl rfl, hl, h⟩
theorem Nz.mono {n m k j : Nat} {d : D} (h : Nz n m d) (a : n ≤ k) (b : m ≤ j) : Nz k j d := by
  rcases h with ⟨xs, e, h1, h2⟩ | h
  · exact .inl ⟨xs, e, by omega, fun y hy => (h2 y hy).mono a⟩
  · exact .inr (h.mono a)
end LW
namespace LW
open PySem L2 C8 PySem.Spec PyProof.Rows VS
/-! ### whether things are nests of a heap -/
def p_goes31 (CP CS : Addr) : Pt := fun ds S G _ => ∃ (p q : Pc) (sp : Int), ds = [p.d CP CS, q.d CP CS, .int sp] ∧ p.g ∧ q.g ∧ 0 ≤ sp ∧ sp ≤ 1000 ∧ G (.bl (goB sp p q)) S
def p_are_names31 (CH CP CS : Addr) : Pt := fun ds S G _ => ∃ (h l : Addr) (ps : List Pc) (xs : List D) (n : Int), ds = [.ref h, .lst xs, .int n] ∧ HpS S CH CP CS h l ps ∧ ps.length ≤ 12 ∧ xs.length ≤ 1000 ∧ (∀ x ∈ xs, isP x = true) ∧ G (.bl (namB (ps.map Pc.nm) n xs)) S
def p_apart (CH CP CS : Addr) : Pt := fun ds S G _ => ∃ (h l : Addr) (ps : List Pc) (zs : List Str) (sp : Int), ds = [.ref h, nmD zs, .int sp] ∧ HpS S CH CP CS h l ps ∧ Hps ps ∧ (∀ z ∈ zs, z ∈ ps.map Pc.nm) ∧ zs.length ≤ 1000 ∧ 0 ≤ sp ∧ sp ≤ 1000 ∧
  (chB (Eof sp ps) zs = true → G .non S) ∧ (chB (Eof sp ps) zs = false → ∀ i : Int, G (.int i) S)
theorem Eof_go {sp : Int} {ps : List Pc} {p q : Pc} (h : Hps ps) (hp : p ∈ ps) (hq : q ∈ ps) : decide (q.nm ∈ Eof sp ps p.nm) = goB sp p q := by
  rw [Eof_at h.n hp]
  unfold goN
  rw [Bool.eq_iff_iff, decide_eq_true_eq, List.mem_map]
  constructor
  · rintro ⟨r, hr, e⟩
    obtain ⟨h1, h2⟩ := List.mem_filter.mp hr
    have f1 := find_nm h.n h1
    have f2 := find_nm h.n hq
    rw [e] at f1
    rw [f1] at f2
    cases f2
    exact h2
  · intro g
    exact ⟨q, List.mem_filter.mpr ⟨hq, g⟩, rfl⟩
theorem inD_map (ks : List Str) : ∀ zs : List Str, (zs.map D.str).map (fun d => D.bl (inD d (ks.map D.str))) = (zs.map fun z => decide (z ∈ ks)).map D.bl
  | [] => rfl
  | z :: zs => by
    rw [List.map_cons, List.map_cons, List.map_cons, List.map_cons, inD_map ks zs, inD_strs]
theorem shG_rk31 {a b c x y z sp : Int} : shG (rkD a b c) (rkD x y z) sp = rk (up [a, b, c]) (up [x, y, z]) sp := by
  obtain ⟨u, v, w, e1, _⟩ := up3 a b c
  obtain ⟨u', v', w', e2, _⟩ := up3 x y z
  unfold rkD dn
  rw [e1, e2]
  show (decide (w + sp ≤ w') && (decide (v + sp ≤ v') && decide (u + sp ≤ u'))) = (decide (u + sp ≤ u') && (decide (v + sp ≤ v') && decide (w + sp ≤ w')))
  cases decide (w + sp ≤ w') <;> cases decide (v + sp ≤ v') <;> cases decide (u + sp ≤ u') <;> rfl
theorem pgo_head {sp : Int} {p q : Pc} (gp : p.g) (s0 : 0 ≤ sp) : ∃ w th, pgoD p.nm p.a p.b p.c p.mk q.nm q.a q.b q.c q.wl q.mk sp = .tup (.str w :: th) ∧ decide (w = ("turn" : Str)) = goB sp p q := by
  unfold pgoD
  by_cases h1 : ("alone" : Str) ∈ p.mk
  · rw [if_pos h1, go_alone (.inl h1)]
    exact ⟨_, _, rfl, by decide⟩
  · rw [if_neg h1]
    by_cases h2 : ("alone" : Str) ∈ q.mk
    · rw [if_pos h2, go_alone (.inr h2)]
      exact ⟨_, _, rfl, by decide⟩
    · rw [if_neg h2]
      by_cases h3 : noRoom q.a q.b q.c q.wl
      · rw [if_pos h3]
        refine ⟨_, _, rfl, ?_⟩
        unfold goB shA shB
        rw [if_neg h1, if_neg h2, if_pos h3]
        obtain ⟨u, v, w, e⟩ := dn3 p.a p.b p.c
        unfold rkD
        rw [e]
        exact (by decide : decide (("solid" : Str) = "turn") = false).trans rfl
      · rw [if_neg h3]
        obtain ⟨w, th, e1, e2⟩ := goes_head p.a p.b p.c (q.a - 2 * q.wl) (q.b - 2 * q.wl) (q.c - 2 * q.wl) sp
        refine ⟨w, th, e1, e2.trans ?_⟩
        unfold goB shA shB
        rw [if_neg h1, if_neg h2, if_neg h3, go_rank]
        exact shG_rk31.symm
section
variable {P : Program} {w : World} {K : PySem.W.Frag} {mg : Str → Option Value} {base : Heap}
theorem ok_goes {f : Addr} {fd : FuncData} {C_Sides C_Parcel C_Heap C_Nest C_NoNumber C_NoSide C_NoSides C_NoOrder C_NoParcel C_NotInHeap : Addr} {f_Parcel_goes_in : Addr} {g_Parcel_goes_in : FuncData}
    (F : Fd K "goes" "goes" s_goes [] f fd) (T : Tx K mg) (hsys : SysOk base)
    (c_Parcel_goes_in : Mf P w K mg base 8 C_Parcel "goes_in" "Parcel.goes_in" s_Parcel_goes_in [.int 0] a_Parcel_goes_in (p_Pc_goes K C_Parcel C_Sides C_NoParcel C_NoNumber) f_Parcel_goes_in g_Parcel_goes_in)
    (k_Parcel : Kl_Parcel K mg C_Parcel)
    (k_Sides : Kl_Sides K mg C_Sides) :
    FnG P w K mg base (L2.CX P w) 9 f fd a_goes (spOf K (p_goes31 C_Parcel C_Sides)) := by
  refine VS.unbox ?_
  simp (disch := with_unfolding_all
    have kc_Parcel := k_Parcel.ins.cl
    have ka_Parcel_called := k_Parcel.a_called
    have ka_Parcel_outside := k_Parcel.a_outside
    have ka_Parcel_thick := k_Parcel.a_thick
    have ka_Parcel_heavy := k_Parcel.a_heavy
    have ka_Parcel_strong := k_Parcel.a_strong
    have ka_Parcel_marks := k_Parcel.a_marks
    have ka_Parcel_told := k_Parcel.a_told
    have ka_Parcel_names := k_Parcel.a_names
    have kc_Sides := k_Sides.ins.cl
    have ka_Sides_three := k_Sides.a_three
    refine fn_val F sc_goes (fun ds S G Y h => ?_) (fun cdv A hgd outer s H E hr px tk po ds S G Y h => ?_)
    · obtain ⟨p, q, sp, rfl, _⟩ := h
      rfl
    · obtain ⟨p, q, sp, rfl, gp, gq, s0, s1, k⟩ := h
      refine ⟨_, (pss_one (ps_ret (pe_cmpR op_eq (pe_ix ix_tup (pe_mG (pv 0) c_Parcel_goes_in.cl c_Parcel_goes_in.me c_Parcel_goes_in.fn hgd (hr.mono (by decide)) c_Parcel_goes_in.b .nil VS.pass0 (pa_cons (pv 1) (pa_cons (pv 2) pa_nil))) pe_int (fun _ _ => rfl)) pe_str (nomark _)))), ?_⟩
      (try dsimp only [cxOf, List.map])
      show VX _ _ [_, _, _] _ _
      walk_at "gr"
      refine ⟨p.nm, p.a, p.b, p.c, p.wl, p.wt, p.br, p.mk, _, .int sp, rfl, gp, .inr ⟨q.nm, q.a, q.b, q.c, q.wl, q.wt, q.br, q.mk, rfl, gq, some sp, .i sp, fun z => ?_, fun i e i0 i1 => ?_⟩⟩
      · have : whB (some sp) 0 1000 = true := by
          show (decide (0 ≤ sp) && decide (sp ≤ 1000)) = true
          rw [decide_eq_true s0, decide_eq_true s1]; rfl
        rw [this] at z
        cases z
      · cases e
        obtain ⟨w, th, e1, e2⟩ := pgo_head (q := q) gp s0
        rw [e1]
        walk_at "gr"
        rw [e2]
        exact k) only [↓VS.box]
theorem ok_are_names {f : Addr} {fd : FuncData} {C_Sides C_Parcel C_Heap C_Nest C_NoNumber C_NoSide C_NoSides C_NoOrder C_NoParcel C_NotInHeap : Addr} {f_Heap_names : Addr} {g_Heap_names : FuncData}
    (F : Fd K "are_names" "are_names" s_are_names [] f fd) (T : Tx K mg) (hsys : SysOk base)
    (c_Heap_names : Mf P w K mg base 2 C_Heap "names" "Heap.names" s_Heap_names [] a_Heap_names (p_Hp_names C_Heap C_Parcel C_Sides) f_Heap_names g_Heap_names)
    (k_Heap : Kl_Heap K mg C_Heap)
    (k_Parcel : Kl_Parcel K mg C_Parcel)
    (k_Sides : Kl_Sides K mg C_Sides) :
    FnG P w K mg base (L2.CX P w) 3 f fd a_are_names (spOf K (p_are_names31 C_Heap C_Parcel C_Sides)) := by
  refine VS.unbox ?_
  simp (disch := with_unfolding_all
    have kc_Heap := k_Heap.ins.cl
    have ka_Heap_held := k_Heap.a_held
    have ka_Heap_told := k_Heap.a_told
    have ka_Heap_kind := k_Heap.a_kind
    have kc_Parcel := k_Parcel.ins.cl
    have ka_Parcel_called := k_Parcel.a_called
    have ka_Parcel_outside := k_Parcel.a_outside
    have ka_Parcel_thick := k_Parcel.a_thick
    have ka_Parcel_heavy := k_Parcel.a_heavy
    have ka_Parcel_strong := k_Parcel.a_strong
    have ka_Parcel_marks := k_Parcel.a_marks
    have ka_Parcel_told := k_Parcel.a_told
    have ka_Parcel_names := k_Parcel.a_names
    have kc_Sides := k_Sides.ins.cl
    have ka_Sides_three := k_Sides.a_three
    refine fn_val F sc_are_names (fun ds S G Y h => ?_) (fun cdv A hgd outer s H E hr px tk po ds S G Y h => ?_)
    · obtain ⟨h, l, ps, xs, n, rfl, _⟩ := h
      rfl
    · obtain ⟨h, l, ps, xs, n, rfl, hs, hl, xl, hp, q⟩ := h
      refine ⟨_, (pss_cons (ps_if (PW.pt (pw_or (pt_not (pt_val (pe_callB c_isiV (by rfl) T.b_isinstance (by decide +kernel) (pa_cons (pv 1) (pa_cons (pe_tup (pa_cons (pe_bltn (v := .ty "list") (by rfl) T.b_list (by decide +kernel) rfl) (pa_cons (pe_bltn (v := .ty "tuple") (by rfl) T.b_tuple (by decide +kernel) rfl) pa_nil))) pa_nil))))) (pw_or1 (pt_cmpR op_lt (pe_callB c_len (by rfl) T.b_len (by decide +kernel) (pa_cons (pv 1) pa_nil)) (pv 2) (nomark _))))) (pss_one (ps_ret pe_bl))
        pss_nil)
        (pss_cons (ps_if (pt_not (pt_val (pe_callB (cr_all rfl) (by rfl) T.b_all (by decide +kernel) (pa_cons (pe_lc (own := [("name", 4)]) rfl sc_are_names.nd (pi_seq (pv 1)) (blkOk_by (own := [("name", 4)]) (N := n_are_names) (sc := defScope s_are_names) (by decide +kernel)) (fun _ _ _ _ _ => (pg_name (i := 4) sc_are_names.nd rfl (Or.inl rfl))) (fun _ _ _ _ _ => pts_nil) (fun _ _ _ _ _ => (pe_callB (kC (K := K) (r := rIsiZ) c_isiZ) (by rfl) T.b_isinstance (by decide +kernel) (pa_cons (pv 4) (pa_cons (pe_bltn (v := .ty "str") (by rfl) T.b_str (by decide +kernel) rfl) pa_nil))))) pa_nil)))) (pss_one (ps_ret pe_bl))
        pss_nil)
        (pss_cons (ps_set (i := 3) sc_are_names.nd rfl (Or.inr rfl) (pe_mG0 (pv 0) c_Heap_names.cl c_Heap_names.me c_Heap_names.fn hgd (hr.mono (by decide)) c_Heap_names.b .nil VS.pass0))
        (pss_one (ps_ret (pe_and (pe_callB (cr_all rfl) (by rfl) T.b_all (by decide +kernel) (pa_cons (pe_lc (own := [("name", 4)]) rfl sc_are_names.nd (pi_seq (pv 1)) (blkOk_by (own := [("name", 4)]) (N := n_are_names) (sc := defScope s_are_names) (by decide +kernel)) (fun _ _ _ _ _ => (pg_name (i := 4) sc_are_names.nd rfl (Or.inl rfl))) (fun _ _ _ _ _ => pts_nil) (fun _ _ _ _ _ => (pe_cmpR (kO (K := K) (r := (fun K => rIn K false)) op_in_seq) (pv 4) (pv 3) (by rfl)))) pa_nil)) (pe_one (pe_cmpR op_eq (pe_lenS (by rfl) T.b_len (by rfl) T.b_set (pv 1)) (pe_callB c_len (by rfl) T.b_len (by decide +kernel) (pa_cons (pv 1) pa_nil)) (nomark _))))))))), ?_⟩
      (try dsimp only [cxOf, List.map])
      show VX _ _ [_, _, _, _, _] _ _
      have isp : isP (.lst xs) = true := isPL_of hp
      have c1 := hs.1
      walk_at "gr"
      refine rc_isiLT (.v isp) ?_
      rw [show isLT (.lst xs) = true from rfl]
      walk_at "gr"
      unfold namB at q
      refine VS.br (fun z => ?_) (fun z => ?_)
      · rw [decide_eq_true z] at q
        walk_at "gr"
        exact q
      rw [decide_eq_false z] at q
      walk_at "gr"
      refine ve_lcM (fun d => .bl (isK "str" d)) (vi_seq ?_)
      walk_at "gr"
      refine ⟨xs, isS_of rfl, by omega, fun x hx => ?_, ?_⟩
      · walk_at "gr"
        refine ⟨rfl, ?_⟩
        walk_at "gr"
        refine rc_isiD (.v (hp x hx)) (isK_str (hp x hx)) ?_
        exact ⟨rfl, rfl⟩
      walk_at "gr"
      refine rc_all (bs := xs.map (isK "str")) (by rw [List.map_map]; exact .v) ?_
      rw [txs_all]
      cases e : txs xs with
      | none =>
        rw [e] at q
        walk_at "gr"
        exact q
      | some zs =>
        rw [e] at q
        have ex := txs_some e
        subst ex
        walk_at "gr"
        refine ⟨h, l, ps, rfl, hs, hl, ?_⟩
        walk_at "gr"
        refine ve_lcM (fun d => .bl (inD d ((ps.map Pc.nm).map D.str))) (vi_seq ?_)
        walk_at "gr"
        refine ⟨zs.map D.str, isS_of rfl, by omega, fun x hx => ?_, ?_⟩
        · obtain ⟨z, hz, rfl⟩ := List.mem_map.mp hx
          walk_at "gr"
          refine ⟨rfl, ?_⟩
          walk_at "gr"
          refine rv_in (.l .v) rfl (flat_strs _) ?_
          exact ⟨rfl, rfl⟩
        walk_at "gr"
        refine rc_all (bs := zs.map fun z => decide (z ∈ ps.map Pc.nm)) ?_ ?_
        · rw [inD_map]
          exact .v
        rw [List.all_map, show (id ∘ fun z => decide (z ∈ ps.map Pc.nm)) = fun z => decide (z ∈ ps.map Pc.nm) from rfl]
        have q : G (.bl (!false && (zs.all (fun z => decide (z ∈ ps.map Pc.nm)) && decide ((unl zs zs.length : Int) = zs.length)))) S := q
        refine ⟨_, rfl, fun e1 => ?_, fun e1 => ?_⟩
        · rw [e1] at q
          rw [List.length_map] at xl
          walk_at "gr"
          refine ve_lenS ?_
          walk_at "gr"
          refine ⟨zs, .l .v, xl, ?_⟩
          walk_at "gr"
          rw [List.length_map]
          exact q
        · rw [e1] at q
          exact q) only [↓VS.box]
theorem ok_first_apart {f : Addr} {fd : FuncData} {C_Sides C_Parcel C_Heap C_Nest C_NoNumber C_NoSide C_NoSides C_NoOrder C_NoParcel C_NotInHeap : Addr} {f_goes f_Heap_parcel : Addr} {g_goes g_Heap_parcel : FuncData}
    (F : Fd K "first_apart" "first_apart" s_first_apart [] f fd) (T : Tx K mg) (hsys : SysOk base)
    (c_goes : Cf P w K mg base (L2.CX P w) 9 "goes" s_goes [] a_goes (p_goes31 C_Parcel C_Sides) f_goes g_goes)
    (c_Heap_parcel : Mf P w K mg base 3 C_Heap "parcel" "Heap.parcel" s_Heap_parcel [] a_Heap_parcel (p_Hp_parcel C_Heap C_Parcel C_Sides) f_Heap_parcel g_Heap_parcel)
    (k_Heap : Kl_Heap K mg C_Heap)
    (k_Parcel : Kl_Parcel K mg C_Parcel)
    (k_Sides : Kl_Sides K mg C_Sides) :
    FnG P w K mg base (L2.CX P w) 10 f fd a_first_apart (spOf K (p_apart C_Heap C_Parcel C_Sides)) := by
  refine VS.unbox ?_
  simp (disch := with_unfolding_all
    have kc_Heap := k_Heap.ins.cl
    have ka_Heap_held := k_Heap.a_held
    have ka_Heap_told := k_Heap.a_told
    have ka_Heap_kind := k_Heap.a_kind
    have kc_Parcel := k_Parcel.ins.cl
    have ka_Parcel_called := k_Parcel.a_called
    have ka_Parcel_outside := k_Parcel.a_outside
    have ka_Parcel_thick := k_Parcel.a_thick
    have ka_Parcel_heavy := k_Parcel.a_heavy
    have ka_Parcel_strong := k_Parcel.a_strong
    have ka_Parcel_marks := k_Parcel.a_marks
    have ka_Parcel_told := k_Parcel.a_told
    have ka_Parcel_names := k_Parcel.a_names
    have kc_Sides := k_Sides.ins.cl
    have ka_Sides_three := k_Sides.a_three
    refine fn_val F sc_first_apart (fun ds S G Y h => ?_) (fun cdv A hgd outer s H E hr px tk po ds S G Y h => ?_)
    · obtain ⟨h, l, ps, zs, sp, rfl, _⟩ := h
      rfl
    · obtain ⟨h, l, ps, zs, sp, rfl, hs, hps, hin, zl, s0, s1, q1, q2⟩ := h
      refine ⟨_, (pss_cons (ps_for po rfl (pi_range1 (by rfl) T.b_range (pa_cons (pe_op op_sub (pe_callB c_len (by rfl) T.b_len (by decide +kernel) (pa_cons (pv 1) pa_nil)) pe_int) pa_nil)) (pg_name (i := 3) sc_first_apart.nd rfl (Or.inl rfl))
        (pss_one (ps_if (pt_not (pt_val (pe_cG c_goes.fn hgd (hr.mono (by decide)) (by rfl) c_goes.mg c_goes.kp c_goes.b .nil VS.pass0 (pa_cons (pe_mG (pv 0) c_Heap_parcel.cl c_Heap_parcel.me c_Heap_parcel.fn hgd (hr.mono (by decide)) c_Heap_parcel.b .nil VS.pass0 (pa_cons (pe_ix ix_list (pv 1) (pv 3) (fun _ _ => rfl)) pa_nil)) (pa_cons (pe_mG (pv 0) c_Heap_parcel.cl c_Heap_parcel.me c_Heap_parcel.fn hgd (hr.mono (by decide)) c_Heap_parcel.b .nil VS.pass0 (pa_cons (pe_ix ix_list (pv 1) (pe_op op_add (pv 3) pe_int) (fun _ _ => rfl)) pa_nil)) (pa_cons (pv 2) pa_nil)))))) (pss_one (ps_ret (pv 3)))
        pss_nil)))
        (pss_one (ps_ret pe_non))), ?_⟩
      (try dsimp only [cxOf, List.map])
      show VX _ _ [_, _, _, _] _ _
      unfold nmD
      have c1 := hs.1
      walk_at "gr"
      refine vx_for (vi_rng1 ?_)
      walk_at "gr"
      have lm : (zs.map D.str).length = zs.length := List.length_map ..
      have n12 := hps.l
      refine ⟨_, rfl, by rw [lm]; omega, fun i ρ2 S2 => S2 = S ∧ (∀ (j : Nat) (a b : Str), j < i → zs[j]? = some a → zs[j + 1]? = some b → b ∈ Eof sp ps a) ∧ ∃ x3, ρ2 = [some (.ref h), some (.lst (zs.map D.str)), some (.int sp), x3], ⟨rfl, fun j a b z => by omega, _, rfl⟩, ?_, ?_⟩
      · rintro i d _ S2 hd ⟨rfl, hw, x3, rfl⟩
        obtain ⟨rfl, hlt⟩ := rngD_at hd
        rw [lm] at hlt
        obtain ⟨a, ha⟩ : ∃ a, zs[i]? = some a := ⟨_, List.getElem?_eq_getElem (by omega)⟩
        obtain ⟨b, hb⟩ : ∃ b, zs[i + 1]? = some b := ⟨_, List.getElem?_eq_getElem (by omega)⟩
        obtain ⟨p, hp, rfl⟩ := List.mem_map.mp (hin a (List.mem_of_getElem? ha))
        obtain ⟨r, hr2, rfl⟩ := List.mem_map.mp (hin b (List.mem_of_getElem? hb))
        obtain ⟨k1, hk1⟩ := List.getElem?_of_mem hp
        obtain ⟨k2, hk2⟩ := List.getElem?_of_mem hr2
        walk_at "gr"
        refine rv_ixL .v (d := .str p.nm) (atI_nat (j := i) (by rw [List.getElem?_map, ha]; rfl)) ?_
        walk_at "gr"
        refine ⟨h, l, ps, k1, p, rfl, hs, n12, Hps.frs hps.n hk1, ?_⟩
        walk_at "gr"
        refine rv_ixL .v (d := .str r.nm) (atI_nat (j := i + 1) (by rw [List.getElem?_map, hb]; rfl)) ?_
        walk_at "gr"
        refine ⟨h, l, ps, k2, r, rfl, hs, n12, Hps.frs hps.n hk2, ?_⟩
        walk_at "gr"
        refine ⟨p, r, sp, rfl, hps.g p hp, hps.g r hr2, s0, s1, ?_⟩
        refine ⟨_, rfl, fun e => ?_, fun e => ?_⟩
        · walk_at "gr"
          refine q2 ?_ _
          cases ec : chB (Eof sp ps) zs with
          | false => rfl
          | true =>
            have := chB_iff.mp ec i _ _ ha hb
            rw [← decide_eq_true_eq (p := r.nm ∈ _), Eof_go hps hp hr2] at this
            rw [this] at e
            cases e
        · walk_at "gr"
          refine ⟨rfl, fun j a b hj ea eb => ?_, _, rfl⟩
          by_cases hji : j < i
          · exact hw j a b hji ea eb
          · obtain rfl : j = i := by omega
            rw [ha] at ea
            rw [hb] at eb
            cases ea
            cases eb
            have g : goB sp p r = true := by
              cases g : goB sp p r with
              | true => rfl
              | false => rw [g] at e; cases e
            rw [← Eof_go hps hp hr2] at g
            exact of_decide_eq_true g
      · rintro ρ2 S2 ⟨rfl, hw, x3, rfl⟩
        walk_at "gr"
        refine q1 (chB_iff.mpr fun j a b ea eb => hw j a b ?_ ea eb)
        have := (List.getElem?_eq_some_iff.mp eb).1
        rw [rngD_len, lm]
        omega) only [↓VS.box]
end
end LW
namespace LW
open PySem L2 C8 PySem.Spec PyProof.Rows VS
/-! ### the law's own look -/
/-- the orders by which the one goes in the other -/
def turnsL (sp : Int) (p q : Pc) : List (List Int) := if ("alone" : Str) ∈ p.mk then [] else if ("alone" : Str) ∈ q.mk then [] else
  perms.filter fun o => fitB (tnl p.a p.b p.c o) [q.a - 2 * q.wl - sp, q.b - 2 * q.wl - sp, q.c - 2 * q.wl - sp] 0
def ordD (o : List Int) : D := .tup (o.map D.int)
def p__law_turns : Pt := fun ds S G _ => ∃ (p q : Pc) (sp : Int), ds = [rwD p, rwD q, .int sp] ∧ p.g ∧ q.g ∧ G (.lst ((turnsL sp p q).map ordD)) S
def goL (sp : Int) (p q : Pc) : Bool := !(turnsL sp p q).isEmpty
theorem li_tn {a b c i : Int} (h0 : 0 ≤ i) (h1 : i < 3) : atI ([D.int a, .int b, .int c] : List D) i = some (.int (tn a b c i)) := by
  have : i = 0 ∨ i = 1 ∨ i = 2 := by omega
  rcases this with rfl | rfl | rfl <;> rfl
def pk3 (a b c x y z i j l : Int) : D → Bool
  | .int k => decide (tn x y z k < tn a b c (tn i j l k))
  | _ => false
def po3 (a b c x y z : Int) : D → Bool
  | .tup [.int i, .int j, .int l] => fitB (tnl a b c [i, j, l]) [x, y, z] 0
  | _ => false
theorem pk_fit (a b c x y z i j l : Int) : (([.int 0, .int 1, .int 2] : List D).filter (pk3 a b c x y z i j l)).isEmpty = fitB (tnl a b c [i, j, l]) [x, y, z] 0 := by
  have e0 : pk3 a b c x y z i j l (.int 0) = !decide (tn a b c i + 0 ≤ x) := by
    show decide (x < tn a b c i) = _
    by_cases h : x < tn a b c i
    · rw [decide_eq_true h, decide_eq_false (by omega)]; rfl
    · rw [decide_eq_false h, decide_eq_true (by omega)]; rfl
  have e1 : pk3 a b c x y z i j l (.int 1) = !decide (tn a b c j + 0 ≤ y) := by
    show decide (y < tn a b c j) = _
    by_cases h : y < tn a b c j
    · rw [decide_eq_true h, decide_eq_false (by omega)]; rfl
    · rw [decide_eq_false h, decide_eq_true (by omega)]; rfl
  have e2 : pk3 a b c x y z i j l (.int 2) = !decide (tn a b c l + 0 ≤ z) := by
    show decide (z < tn a b c l) = _
    by_cases h : z < tn a b c l
    · rw [decide_eq_true h, decide_eq_false (by omega)]; rfl
    · rw [decide_eq_false h, decide_eq_true (by omega)]; rfl
  have ef : fitB (tnl a b c [i, j, l]) [x, y, z] 0 = (decide (tn a b c i + 0 ≤ x) && (decide (tn a b c j + 0 ≤ y) && (decide (tn a b c l + 0 ≤ z) && true))) := rfl
  rw [ef, List.filter_cons, List.filter_cons, List.filter_cons, e0, e1, e2, List.filter_nil]
  cases decide (tn a b c i + 0 ≤ x) <;> cases decide (tn a b c j + 0 ≤ y) <;> cases decide (tn a b c l + 0 ≤ z) <;> rfl
theorem po_perms (a b c x y z : Int) : ((perms.map ordD).filter (po3 a b c x y z)).map id = (perms.filter fun o => fitB (tnl a b c o) [x, y, z] 0).map ordD := by
  rw [List.map_id, List.filter_map]
  congr 1
section
variable {P : Program} {w : World} {K : PySem.W.Frag} {mg : Str → Option Value} {base : Heap}
theorem ok__law_turns {f : Addr} {fd : FuncData} {C_Sides C_Parcel C_Heap C_Nest C_NoNumber C_NoSide C_NoSides C_NoOrder C_NoParcel C_NotInHeap : Addr} {f__law_orders : Addr} {g__law_orders : FuncData}
    (F : Fd K "_law_turns" "_law_turns" s__law_turns [] f fd) (T : Tx K mg) (hsys : SysOk base)
    (c__law_orders : Cf P w K mg base (L2.CX P w) 1 "_law_orders" s__law_orders [] a__law_orders p__law_orders f__law_orders g__law_orders) :
    FnG P w K mg base (L2.CX P w) 2 f fd a__law_turns (spOf K p__law_turns) := by
  refine VS.unbox ?_
  simp (disch := with_unfolding_all
    refine fn_val F sc__law_turns (fun ds S G Y h => ?_) (fun cdv A hgd outer s H E hr px tk po ds S G Y h => ?_)
    · obtain ⟨p, q, sp, rfl, _⟩ := h
      rfl
    · obtain ⟨p, q, sp, rfl, gp, gq, qq⟩ := h
      refine ⟨_, (pss_cons (ps_if (PW.pt (pw_or (pt_cmpR op_in_seq pe_str (pe_ix ix_list (pv 0) pe_int (fun _ _ => rfl)) (by rfl)) (pw_or1 (pt_cmpR op_in_seq pe_str (pe_ix ix_list (pv 1) pe_int (fun _ _ => rfl)) (by rfl))))) (pss_one (ps_ret (pe_lst pa_nil)))
        pss_nil)
        (pss_cons (ps_set (i := 3) sc__law_turns.nd rfl (Or.inr rfl) (pe_lc (own := [("_law_side", 5)]) rfl sc__law_turns.nd (pi_list (pe_ix ix_list (pv 1) pe_int (fun _ _ => rfl))) (blkOk_by (own := [("_law_side", 5)]) (N := n__law_turns) (sc := defScope s__law_turns) (by decide +kernel)) (fun _ _ _ _ _ => (pg_name (i := 5) sc__law_turns.nd rfl (Or.inl rfl))) (fun _ _ _ _ _ => pts_nil) (fun _ _ _ _ _ => (pe_op op_sub (pe_op op_sub (pv 5) (pe_op op_mulW pe_int (pe_ix (kI (K := K) (r := rIxL) ix_list) (pv 1) pe_int (fun _ _ => rfl)))) (pv 2)))))
        (pss_cons (ps_set (i := 4) sc__law_turns.nd rfl (Or.inl rfl) (pe_cG0 c__law_orders.fn hgd (hr.mono (by decide)) (by rfl) c__law_orders.mg c__law_orders.kp c__law_orders.b .nil VS.pass0))
        (pss_one (ps_ret (pe_lc (own := [("_law_order", 6)]) rfl sc__law_turns.nd (pi_list (pv 4)) (blkOk_by (own := [("_law_order", 6)]) (N := n__law_turns) (sc := defScope s__law_turns) (by decide +kernel)) (fun _ _ _ _ _ => (pg_name (i := 6) sc__law_turns.nd rfl (Or.inr rfl))) (fun _ _ _ _ _ => (pts_one (pt_cmpR (kO (K := K) (r := rEqE) (op_eqE hr)) (pe_lc (own := [("_law_k", 7)]) rfl sc__law_turns.nd (pi_range1 (by rfl) T.b_range (pa_cons pe_int pa_nil)) (VS.blkOk_c (own := [("_law_k", 7)]) (N := n__law_turns) (by decide +kernel)) (fun _ _ _ _ _ => (pg_name (i := 7) sc__law_turns.nd rfl (Or.inl rfl))) (fun _ _ _ _ _ => (pts_one (pt_cmpR op_gt (pe_ix (kI (K := K) (r := rIxL) ix_list) (pe_ix (kI (K := K) (r := rIxL) ix_list) (pv 0) pe_int (fun _ _ => rfl)) (pe_ix (kI (K := K) (r := rIxT) ix_tup) (pv 6) (pv 7) (fun _ _ => rfl)) (fun _ _ => rfl)) (pe_ix (kI (K := K) (r := rIxL) ix_list) (pv 3) (pv 7) (fun _ _ => rfl)) (nomark _)))) (fun _ _ _ _ _ => (pv 7))) (pe_lst pa_nil) (nomark _)))) (fun _ _ _ _ _ => (pv 6)))))))), ?_⟩
      (try dsimp only [cxOf, List.map])
      show VX _ _ [_, _, _, _, _, _, _, _] _ _
      unfold rwD
      walk_at "ga"
      refine rv_in (.l .v) rfl (flat_strs _) ?_
      rw [inD_strs]
      refine ⟨_, rfl, fun e => ?_, fun e => ?_⟩
      · have et : turnsL sp p q = [] := if_pos (of_decide_eq_true e)
        rw [et] at qq
        walk_at "ga"
        exact qq
      · have e := of_decide_eq_false e
        walk_at "ga"
        refine rv_in (.l .v) rfl (flat_strs _) ?_
        rw [inD_strs]
        refine ⟨_, rfl, fun e2 => ?_, fun e2 => ?_⟩
        · have et : turnsL sp p q = [] := (if_neg e).trans (if_pos (of_decide_eq_true e2))
          rw [et] at qq
          walk_at "ga"
          exact qq
        · have et : turnsL sp p q = _ := (if_neg e).trans (if_neg (of_decide_eq_false e2))
          rw [et, ← po_perms] at qq
          have w0 := gq.wl
          walk_at "ga"
          refine ve_lcM (fun d => match d with | .int v => .int (v - 2 * q.wl - sp) | _ => .non) (vi_list ?_)
          walk_at "ga"
          refine ⟨_, .v, by show 3 ≤ 100000; decide, all3 ?_ ?_ ?_, ?_⟩
          · walk_at "ga"
            refine ⟨rfl, ?_⟩
            walk_at "ga"
            exact ⟨rfl, rfl⟩
          · walk_at "ga"
            refine ⟨rfl, ?_⟩
            walk_at "ga"
            exact ⟨rfl, rfl⟩
          · walk_at "ga"
            refine ⟨rfl, ?_⟩
            walk_at "ga"
            exact ⟨rfl, rfl⟩
          walk_at "ga"
          refine ve_lcF (po3 p.a p.b p.c (q.a - 2 * q.wl - sp) (q.b - 2 * q.wl - sp) (q.c - 2 * q.wl - sp)) id (vi_list ?_)
          walk_at "ga"
          refine ⟨_, .v, by show 6 ≤ 100000; decide, fun d hd => ?_, qq⟩
          obtain ⟨o, ho, rfl⟩ := List.mem_map.mp hd
          obtain ⟨i, j, l, rfl, hi, hj, hl⟩ := perm_len ho
          walk_at "ga"
          refine ve_lcF (pk3 p.a p.b p.c (q.a - 2 * q.wl - sp) (q.b - 2 * q.wl - sp) (q.c - 2 * q.wl - sp) i j l) id (vi_rng1 ?_)
          walk_at "ga"
          refine ⟨3, rfl, by decide, by rw [rngD_len]; decide, all3 ?_ ?_ ?_, ?_⟩
          · walk_at "ga"
            refine rv_ixL .v (li_tn (i := i) (by omega) (by omega)) ?_
            walk_at "ga"
            exact ⟨rfl, fun _ => rfl, fun _ => by walk_at "ga"; exact ⟨rfl, rfl⟩⟩
          · walk_at "ga"
            refine rv_ixL .v (li_tn (i := j) (by omega) (by omega)) ?_
            walk_at "ga"
            exact ⟨rfl, fun _ => rfl, fun _ => by walk_at "ga"; exact ⟨rfl, rfl⟩⟩
          · walk_at "ga"
            refine rv_ixL .v (li_tn (i := l) (by omega) (by omega)) ?_
            walk_at "ga"
            exact ⟨rfl, fun _ => rfl, fun _ => by walk_at "ga"; exact ⟨rfl, rfl⟩⟩
          walk_at "ga"
          refine ⟨?_, fun _ => rfl, fun _ => by walk_at "ga"; exact ⟨rfl, rfl⟩⟩
          rw [List.map_id]
          exact pk_fit ..) only [↓VS.box]
end
end LW
namespace LW
open PySem L2 C8 PySem.Spec PyProof.Rows VS
/-! ### the ranks tell the same as the law's own look; what is told is right -/
theorem any_ne {α : Type} (f : α → Bool) : ∀ l : List α, (!(l.filter f).isEmpty) = l.any f
  | [] => rfl
  | x :: l => by
    rw [List.any_cons, List.filter_cons]
    cases e : f x with
    | true => rw [if_pos rfl]; rfl
    | false => rw [if_neg (by decide), any_ne f l]; rfl
theorem fit_sp {a b c x y z sp : Int} {o : List Int} (ho : o ∈ perms) : fitB (tnl a b c o) [x - sp, y - sp, z - sp] 0 = fitB (tnl a b c o) [x, y, z] sp := by
  obtain ⟨i, j, k, rfl, _⟩ := perm_len ho
  have h1 := @fit_iff a b c (x - sp) (y - sp) (z - sp) 0 i j k
  have h2 := @fit_iff a b c x y z sp i j k
  cases e : fitB (tnl a b c [i, j, k]) [x, y, z] sp with
  | true =>
    refine h1.mpr ?_
    have := h2.mp e
    omega
  | false =>
    cases e1 : fitB (tnl a b c [i, j, k]) [x - sp, y - sp, z - sp] 0 with
    | false => rfl
    | true =>
      have := h1.mp e1
      rw [h2.mpr (by omega)] at e
      cases e
theorem any_congr {α : Type} {f g : α → Bool} : ∀ {l : List α}, (∀ x ∈ l, f x = g x) → l.any f = l.any g
  | [], _ => rfl
  | x :: l, h => by rw [List.any_cons, List.any_cons, h x (List.mem_cons_self ..), any_congr fun y hy => h y (List.mem_cons_of_mem _ hy)]
theorem goL_go {sp : Int} {p q : Pc} (h1 : ¬ ("alone" : Str) ∈ p.mk) (h2 : ¬ ("alone" : Str) ∈ q.mk) : goL sp p q = go p.a p.b p.c (q.a - 2 * q.wl) (q.b - 2 * q.wl) (q.c - 2 * q.wl) sp := by
  unfold goL
  rw [show turnsL sp p q = _ from (if_neg h1).trans (if_neg h2), any_ne]
  exact any_congr fun o ho => fit_sp ho
theorem shG_rk {a b c x y z sp : Int} : shG (rkD a b c) (rkD x y z) sp = rk (up [a, b, c]) (up [x, y, z]) sp := by
  obtain ⟨u, v, w, e1, _⟩ := up3 a b c
  obtain ⟨u', v', w', e2, _⟩ := up3 x y z
  unfold rkD dn
  rw [e1, e2]
  show (decide (w + sp ≤ w') && (decide (v + sp ≤ v') && decide (u + sp ≤ u'))) = (decide (u + sp ≤ u') && (decide (v + sp ≤ v') && decide (w + sp ≤ w')))
  cases decide (w + sp ≤ w') <;> cases decide (v + sp ≤ v') <;> cases decide (u + sp ≤ u') <;> rfl
theorem go_none {a b c x y z sp : Int} (ha : 1 ≤ a) (hb : 1 ≤ b) (hc : 1 ≤ c) (hs : 0 ≤ sp) (h : min (min x y) z < 1) : go a b c x y z sp = false := by
  cases e : go a b c x y z sp with
  | false => rfl
  | true =>
    exfalso
    obtain ⟨o, ho, hf⟩ := go_iff.mp e
    obtain ⟨t0, t1, t2⟩ := @tn012 a b c
    rcases perm_cases ho with rfl | rfl | rfl | rfl | rfl | rfl
    all_goals
      have := fit_iff.mp hf
      rw [t0, t1, t2] at this
      omega
theorem go_same {sp : Int} {p q : Pc} (gp : p.g) (s0 : 0 ≤ sp) : goB sp p q = goL sp p q := by
  have ga := gp.a
  have gb := gp.b
  have gc := gp.c
  unfold In1 at ga gb gc
  unfold goB
  by_cases h1 : ("alone" : Str) ∈ p.mk
  · rw [show shA p = .non from if_pos h1]
    have : turnsL sp p q = [] := if_pos h1
    unfold goL
    rw [this]
    rfl
  · rw [show shA p = rkD p.a p.b p.c from if_neg h1]
    by_cases h2 : ("alone" : Str) ∈ q.mk
    · rw [show shB q = .non from if_pos h2]
      have : turnsL sp p q = [] := (if_neg h1).trans (if_pos h2)
      unfold goL
      rw [this]
      obtain ⟨u, v, w, e⟩ := dn3 p.a p.b p.c
      unfold rkD
      rw [e]
      rfl
    · rw [goL_go h1 h2]
      by_cases nr : noRoom q.a q.b q.c q.wl
      · rw [show shB q = .non from (if_neg h2).trans (if_pos nr), go_none ga.1 gb.1 gc.1 s0 nr]
        obtain ⟨u, v, w, e⟩ := dn3 p.a p.b p.c
        unfold rkD
        rw [e]
        rfl
      · rw [show shB q = _ from (if_neg h2).trans (if_neg nr), shG_rk, go_rank]
end LW
namespace LW
open PySem L2 C8 PySem.Spec PyProof.Rows VS
/-! ### nests, made of good names -/
def wayI (sp : Int) (p q : Pc) : List Int := (perms.find? fun o => fitB (tnl p.a p.b p.c o) [q.a - 2 * q.wl, q.b - 2 * q.wl, q.c - 2 * q.wl] sp).getD [0, 1, 2]
def waysI (sp : Int) : List Pc → List (List Int)
  | p :: q :: r => wayI sp p q :: waysI sp (q :: r)
  | _ => []
/-- each goes in the following one -/
def Goes (sp : Int) : List Pc → Prop
  | p :: q :: r => goB sp p q = true ∧ Goes sp (q :: r)
  | _ => True
theorem way_go {sp : Int} {p q : Pc} (gp : p.g) (s0 : 0 ≤ sp) (h : goB sp p q = true) : pgoD p.nm p.a p.b p.c p.mk q.nm q.a q.b q.c q.wl q.mk sp = .tup [.str "turn", ordD (wayI sp p q)] ∧ wayI sp p q ∈ perms ∧ fitB (tnl p.a p.b p.c (wayI sp p q)) [q.a - 2 * q.wl, q.b - 2 * q.wl, q.c - 2 * q.wl] sp = true := by
  obtain ⟨w, th, e1, e2⟩ := pgo_head (q := q) gp s0
  rw [h] at e2
  have e2 := of_decide_eq_true e2
  subst e2
  unfold pgoD at e1 ⊢
  by_cases h1 : ("alone" : Str) ∈ p.mk
  · rw [if_pos h1] at e1
    injection e1 with e1
    injection e1 with e1 _
    injection e1 with e1
    exact absurd e1 (by decide)
  rw [if_neg h1] at e1 ⊢
  by_cases h2 : ("alone" : Str) ∈ q.mk
  · rw [if_pos h2] at e1
    injection e1 with e1
    injection e1 with e1 _
    injection e1 with e1
    exact absurd e1 (by decide)
  rw [if_neg h2] at e1 ⊢
  by_cases h3 : noRoom q.a q.b q.c q.wl
  · rw [if_pos h3] at e1
    injection e1 with e1
    injection e1 with e1 _
    injection e1 with e1
    exact absurd e1 (by decide)
  rw [if_neg h3] at e1 ⊢
  unfold goesD at e1 ⊢
  unfold wayI
  cases hf : perms.find? fun o => fitB (tnl p.a p.b p.c o) [q.a - 2 * q.wl, q.b - 2 * q.wl, q.c - 2 * q.wl] sp with
  | some o => exact ⟨rfl, List.mem_of_find?_eq_some hf, by simpa using List.find?_some hf⟩
  | none =>
    rw [hf] at e1
    obtain ⟨th2, e3⟩ := many_head (l := dn [p.a, p.b, p.c]) (m := dn [q.a - 2 * q.wl, q.b - 2 * q.wl, q.c - 2 * q.wl]) (sp := sp) (r := 0)
    have e1 : many (dn [p.a, p.b, p.c]) (dn [q.a - 2 * q.wl, q.b - 2 * q.wl, q.c - 2 * q.wl]) sp 0 = .tup (.str "turn" :: th) := e1
    rw [e3] at e1
    injection e1 with e1
    injection e1 with e1 _
    injection e1 with e1
    exact absurd e1 (by decide)
def nsD (CN CP CS : Addr) (sp : Int) (zs : List Pc) : D := .ins CN [("layers", .lst (zs.map (Pc.d CP CS))), ("ways", .lst ((waysI sp zs).map ordD))]
def p_Ns_init (CN CH CP CS : Addr) : Pt := fun ds S G _ => ∃ (y h l : Addr) (ps zs : List Pc) (sp : Int), ds = [.ref y, .ref h, nmD (zs.map Pc.nm), .int sp] ∧ S y = some (.ins CN []) ∧ HpS S CH CP CS h l ps ∧ Hps ps ∧ (∀ z ∈ zs, z ∈ ps) ∧ (zs.map Pc.nm).Nodup ∧ zs.length ≤ 12 ∧ zs ≠ [] ∧ Goes sp zs ∧ 0 ≤ sp ∧ sp ≤ 1000 ∧ y ≠ h ∧ y ≠ l ∧ G .non (put S y (nsD CN CP CS sp zs))
def p_Ns_names (CN CP CS : Addr) : Pt := fun ds S G _ => ∃ (zs : List Pc) (sp : Int), ds = [nsD CN CP CS sp zs] ∧ zs.length ≤ 12 ∧ G (nmD (zs.map Pc.nm)) S
def p_Ns_turns (CN CP CS : Addr) : Pt := fun ds S G _ => ∃ (zs : List Pc) (sp : Int), ds = [nsD CN CP CS sp zs] ∧ G (.lst ((waysI sp zs).map ordD)) S
/-- how one lies in the outer one -/
def lieI : List (List Int) → List Int
  | [] => [0, 1, 2]
  | t :: ws => (lieI ws).map fun n => t.getD n.toNat 0
/-- what is no name of a nest -/
inductive NoN (K : PySem.W.Frag) (S : Sto) (zs : List Pc) : D → Prop
  | s {z : Str} (h : z ∉ zs.map Pc.nm) : NoN K S zs (.str z)
  | d {y d' : D} (h : Da S y d') (k : isK "str" d' = false) : NoN K S zs y
  | o {y : D} {C : Addr} {fs : List (Str × D)} (i : IsI S y C fs) (c : InsC K C) (k : PySem.W.kitOne K (.ref C) (.type "str") = some false) : NoN K S zs y
def p_Ns_lies (K : PySem.W.Frag) (CN CP CS CX : Addr) : Pt := fun ds S G Y => ∃ (zs : List Pc) (sp : Int) (d : D), ds = [nsD CN CP CS sp zs, d] ∧ zs.length ≤ 12 ∧ (zs.map Pc.nm).Nodup ∧ Goes sp zs ∧ (∀ z ∈ zs, z.g) ∧ 0 ≤ sp ∧
  ((∃ (i : Nat) (z : Pc), zs[i]? = some z ∧ d = .str z.nm ∧ G (ordD (lieI (waysI sp (zs.drop i)))) S) ∨ (NoN K S zs d ∧ Y CX [("found", d)] S))
theorem way_perm {sp : Int} : ∀ {zs : List Pc}, Goes sp zs → (∀ z ∈ zs, z.g) → 0 ≤ sp → ∀ o ∈ waysI sp zs, o ∈ perms
  | [], _, _, _, o, ho => by cases ho
  | [_], _, _, _, o, ho => by cases ho
  | p :: q :: r, hg, gz, s0, o, ho => by
    rcases List.mem_cons.mp ho with e | ho
    · rw [e]
      exact (way_go (gz p (List.mem_cons_self ..)) s0 hg.1).2.1
    · exact way_perm hg.2 (fun z hz => gz z (List.mem_cons_of_mem _ hz)) s0 o ho
theorem cut_drD (xs : List D) {t : Nat} (h : t ≤ xs.length) : VS.cutD xs (some (t : Int)) none = xs.drop t := by
  show (xs.drop (HT.sIx xs.length 0 (some (t : Int)))).take (xs.length - HT.sIx xs.length 0 (some (t : Int))) = _
  rw [HT.sIx_nat, Nat.min_eq_left h]
  exact List.take_of_length_le (by rw [List.length_drop]; omega)
theorem ways_drop {sp : Int} : ∀ (zs : List Pc) (i : Nat), (waysI sp zs).drop i = waysI sp (zs.drop i)
  | [], i => by rw [List.drop_nil]; exact List.drop_nil
  | [x], 0 => rfl
  | [x], i + 1 => by
    show ([] : List (List Int)).drop (i + 1) = waysI sp (([] : List Pc).drop i)
    rw [List.drop_nil, List.drop_nil]
    rfl
  | x :: y :: r, 0 => rfl
  | x :: y :: r, i + 1 => ways_drop (y :: r) i
/-- an order's numbers, asked of another one -/
def trF (t : List Int) : D → D
  | .int n => .int (t.getD n.toNat 0)
  | d => d
theorem ord_at {t : List Int} (ht : t ∈ perms) {n : Int} (n0 : 0 ≤ n) (n2 : n ≤ 2) : atI (t.map D.int) n = some (.int (t.getD n.toNat 0)) := by
  have h : ∀ t ∈ perms, ∃ x y z : Int, t = [x, y, z] := by
    intro t ht
    simp only [perms, List.mem_cons, List.not_mem_nil, or_false] at ht
    rcases ht with rfl | rfl | rfl | rfl | rfl | rfl <;> exact ⟨_, _, _, rfl⟩
  obtain ⟨x, y, z, rfl⟩ := h t ht
  have : n = 0 ∨ n = 1 ∨ n = 2 := by omega
  rcases this with rfl | rfl | rfl <;> rfl
theorem perm_in {t : List Int} (ht : t ∈ perms) : ∀ n ∈ t, 0 ≤ n ∧ n ≤ 2 := by
  have h : ∀ t ∈ perms, ∀ n ∈ t, (0 : Int) ≤ n ∧ n ≤ 2 := by decide
  exact h t ht
theorem comp_in : ∀ t ∈ perms, ∀ o ∈ perms, (o.map fun n => t.getD n.toNat 0) ∈ perms := by decide
theorem lieI_perm : ∀ {ws : List (List Int)}, (∀ t ∈ ws, t ∈ perms) → lieI ws ∈ perms
  | [], _ => by show ([0, 1, 2] : List Int) ∈ perms; decide
  | t :: ws, h => comp_in t (h t (List.mem_cons_self ..)) _ (lieI_perm fun x hx => h x (List.mem_cons_of_mem _ hx))
theorem ways_at {sp : Int} : ∀ {zs : List Pc} {i : Nat} {p q : Pc}, Goes sp zs → zs[i]? = some p → zs[i + 1]? = some q → goB sp p q = true ∧ (waysI sp zs)[i]? = some (wayI sp p q)
  | [], i, p, q, _, h, _ => by simp at h
  | [x], i, p, q, _, _, h => by simp at h
  | x :: y :: r, 0, p, q, hg, h1, h2 => by
    cases h1
    cases h2
    exact ⟨hg.1, rfl⟩
  | x :: y :: r, i + 1, p, q, hg, h1, h2 => ways_at (zs := y :: r) hg.2 h1 h2
theorem ways_len {sp : Int} : ∀ zs : List Pc, (waysI sp zs).length = zs.length - 1
  | [] => rfl
  | [_] => rfl
  | x :: y :: r => by
    show (waysI sp (y :: r)).length + 1 = _
    rw [ways_len (y :: r)]
    simp
theorem ch_goes {sp : Int} {ps : List Pc} (hps : Hps ps) : ∀ {zs : List Pc}, (∀ z ∈ zs, z ∈ ps) → Goes sp zs → chB (Eof sp ps) (zs.map Pc.nm) = true
  | [], _, _ => rfl
  | [_], _, _ => rfl
  | x :: y :: r, hm, hg => by
    show (decide (y.nm ∈ Eof sp ps x.nm) && chB (Eof sp ps) ((y :: r).map Pc.nm)) = true
    rw [Eof_go hps (hm x (by simp)) (hm y (by simp)), hg.1, ch_goes hps (zs := y :: r) (fun z hz => hm z (List.mem_cons_of_mem _ hz)) hg.2]
    rfl
section
variable {P : Program} {w : World} {K : PySem.W.Frag} {mg : Str → Option Value} {base : Heap}
theorem ok_Nest___init__ {f : Addr} {fd : FuncData} {C_Sides C_Parcel C_Heap C_Nest C_NoNumber C_NoSide C_NoSides C_NoOrder C_NoParcel C_NotInHeap : Addr} {f_need_spare f_are_names f_first_apart f_Heap_parcel f_Parcel_goes_in : Addr} {g_need_spare g_are_names g_first_apart g_Heap_parcel g_Parcel_goes_in : FuncData}
    (F : Fd K "__init__" "Nest.__init__" s_Nest___init__ [.int 0] f fd) (T : Tx K mg) (hsys : SysOk base)
    (c_need_spare : Cf P w K mg base (L2.CX P w) 3 "need_spare" s_need_spare [] a_need_spare (p_need_spare K C_NoNumber) f_need_spare g_need_spare)
    (c_are_names : Cf P w K mg base (L2.CX P w) 3 "are_names" s_are_names [] a_are_names (p_are_names31 C_Heap C_Parcel C_Sides) f_are_names g_are_names)
    (c_first_apart : Cf P w K mg base (L2.CX P w) 10 "first_apart" s_first_apart [] a_first_apart (p_apart C_Heap C_Parcel C_Sides) f_first_apart g_first_apart)
    (c_Heap_parcel : Mf P w K mg base 3 C_Heap "parcel" "Heap.parcel" s_Heap_parcel [] a_Heap_parcel (p_Hp_parcel C_Heap C_Parcel C_Sides) f_Heap_parcel g_Heap_parcel)
    (c_Parcel_goes_in : Mf P w K mg base 8 C_Parcel "goes_in" "Parcel.goes_in" s_Parcel_goes_in [.int 0] a_Parcel_goes_in (p_Pc_goes K C_Parcel C_Sides C_NoParcel C_NoNumber) f_Parcel_goes_in g_Parcel_goes_in)
    (k_Nest : Kl_Nest K mg C_Nest)
    (k_Heap : Kl_Heap K mg C_Heap)
    (k_Parcel : Kl_Parcel K mg C_Parcel)
    (k_Sides : Kl_Sides K mg C_Sides) :
    FnG P w K mg base (L2.CX P w) 11 f fd a_Nest___init__ (spOf K (p_Ns_init C_Nest C_Heap C_Parcel C_Sides)) := by
  refine VS.unbox ?_
  simp (disch := with_unfolding_all
    have kc_Nest := k_Nest.ins.cl
    have ka_Nest_layers := k_Nest.a_layers
    have ka_Nest_ways := k_Nest.a_ways
    have kc_Heap := k_Heap.ins.cl
    have ka_Heap_held := k_Heap.a_held
    have ka_Heap_told := k_Heap.a_told
    have ka_Heap_kind := k_Heap.a_kind
    have kc_Parcel := k_Parcel.ins.cl
    have ka_Parcel_called := k_Parcel.a_called
    have ka_Parcel_outside := k_Parcel.a_outside
    have ka_Parcel_thick := k_Parcel.a_thick
    have ka_Parcel_heavy := k_Parcel.a_heavy
    have ka_Parcel_strong := k_Parcel.a_strong
    have ka_Parcel_marks := k_Parcel.a_marks
    have ka_Parcel_told := k_Parcel.a_told
    have ka_Parcel_names := k_Parcel.a_names
    have kc_Sides := k_Sides.ins.cl
    have ka_Sides_three := k_Sides.a_three
    refine fn_val F sc_Nest___init__ (fun ds S G Y h => ?_) (fun cdv A hgd outer s H E hr px tk po ds S G Y h => ?_)
    · obtain ⟨y, h, l, ps, zs, sp, rfl, _⟩ := h
      rfl
    · obtain ⟨y, h, l, ps, zs, sp, rfl, hy, hs, hps, zm, nd, z12, zne, hg, s0, s1, nyh, nyl, q⟩ := h
      refine ⟨_, (pss_cons (ps_expr (pe_cG c_need_spare.fn hgd (hr.mono (by decide)) (by rfl) c_need_spare.mg c_need_spare.kp c_need_spare.b .nil VS.pass0 (pa_cons (pv 3) pa_nil)))
        (pss_cons (ps_if (pt_not (pt_val (pe_cG c_are_names.fn hgd (hr.mono (by decide)) (by rfl) c_are_names.mg c_are_names.kp c_are_names.b .nil VS.pass0 (pa_cons (pv 1) (pa_cons (pv 2) (pa_cons pe_int pa_nil)))))) (pss_one ps_nev)
        pss_nil)
        (pss_cons (ps_set (i := 4) sc_Nest___init__.nd rfl (Or.inl rfl) (pe_cG c_first_apart.fn hgd (hr.mono (by decide)) (by rfl) c_first_apart.mg c_first_apart.kp c_first_apart.b .nil VS.pass0 (pa_cons (pv 1) (pa_cons (pv 2) (pa_cons (pv 3) pa_nil)))))
        (pss_cons (ps_if (pt_cmpR op_notNo (pv 4) pe_non (nomark _)) (pss_one ps_nev)
        pss_nil)
        (pss_cons (ps_fld (pv 0) (pe_lc (own := [("name", 5)]) rfl sc_Nest___init__.nd (pi_list (pv 2)) (blkOk_by (own := [("name", 5)]) (N := n_Nest___init__) (sc := defScope s_Nest___init__) (by decide +kernel)) (fun _ _ _ _ _ => (pg_name (i := 5) sc_Nest___init__.nd rfl (Or.inl rfl))) (fun _ _ _ _ _ => pts_nil) (fun _ _ _ _ _ => (pe_mG (pv 1) c_Heap_parcel.cl c_Heap_parcel.me c_Heap_parcel.fn hgd (hr.mono (by decide)) c_Heap_parcel.b .nil VS.pass0 (pa_cons (pv 5) pa_nil)))) rfl)
        (pss_one (ps_fld (pv 0) (pe_lc (own := [("one", 6), ("other", 7)]) rfl sc_Nest___init__.nd (pi_zip (by rfl) T.b_zip (pa_cons (pe_fld (pv 0) rfl) (pa_cons (pe_slice sl_list (pe_fld (pv 0) rfl) (po_some pe_int) po_none) pa_nil))) (blkOk_by (own := [("one", 6), ("other", 7)]) (N := n_Nest___init__) (sc := defScope s_Nest___init__) (by decide +kernel)) (fun _ _ _ _ _ => (kTup (K := K) (pg_tup (n := 2) rfl (pgs_cons (pg_name (i := 6) sc_Nest___init__.nd rfl (Or.inl rfl)) (pgs_cons (pg_name (i := 7) sc_Nest___init__.nd rfl (Or.inl rfl)) pgs_nil))))) (fun _ _ _ _ _ => pts_nil) (fun _ _ _ _ _ => (pe_ix (kI (K := K) (r := rIxT) ix_tup) (pe_mG (pv 6) c_Parcel_goes_in.cl c_Parcel_goes_in.me c_Parcel_goes_in.fn hgd (hr.mono (by decide)) c_Parcel_goes_in.b .nil VS.pass0 (pa_cons (pv 7) (pa_cons (pv 3) pa_nil))) pe_int (fun _ _ => rfl)))) rfl))))))), ?_⟩
      (try dsimp only [cxOf, List.map])
      show VX _ _ [_, _, _, _, _, _, _, _] _ _
      have c1 := hs.1
      have lz : (zs.map Pc.nm).length = zs.length := List.length_map ..
      have w1 : whB (some sp) 0 1000 = true := by
        show (decide (0 ≤ sp) && decide (sp ≤ 1000)) = true
        rw [decide_eq_true s0, decide_eq_true s1]; rfl
      have hin : ∀ z ∈ zs.map Pc.nm, z ∈ ps.map Pc.nm := fun z hz => by
        obtain ⟨x, hx, rfl⟩ := List.mem_map.mp hz
        exact List.mem_map.mpr ⟨x, zm x hx, rfl⟩
      have zpos : 0 < zs.length := List.length_pos_iff.mpr zne
      walk_at "gr"
      refine ⟨.int sp, some sp, rfl, .i sp, fun _ => ?_, fun z => by rw [w1] at z; cases z⟩
      walk_at "gr"
      refine ⟨h, l, ps, (zs.map Pc.nm).map D.str, 1, rfl, hs, hps.l, by rw [List.length_map, lz]; omega, fun x hx => by obtain ⟨z, _, rfl⟩ := List.mem_map.mp hx; rfl, ?_⟩
      rw [namB_nd nd hin (by rw [lz]; omega)]
      walk_at "gr"
      refine ⟨h, l, ps, zs.map Pc.nm, sp, rfl, hs, hps, hin, by rw [lz]; omega, s0, s1, fun _ => ?_, fun z => by rw [ch_goes hps zm hg] at z; cases z⟩
      unfold nmD
      walk_at "gr"
      refine ve_lc (vi_list ?_)
      walk_at "gr"
      refine ⟨_, .v, by rw [List.length_map, lz]; omega, fun i acc S2 => acc = (zs.take i).map (Pc.d C_Parcel C_Sides) ∧ S2 = S, ⟨rfl, rfl⟩, ?_, ?_⟩
      · rintro i dz acc S2 hd ⟨rfl, rfl⟩ _
        rw [List.map_map, List.getElem?_map] at hd
        cases e : zs[i]? with
        | none => rw [e] at hd; cases hd
        | some r =>
          rw [e] at hd
          cases hd
          have tk : zs.take (i + 1) = zs.take i ++ [r] := by rw [List.take_succ, e]; rfl
          obtain ⟨k, hk⟩ := List.getElem?_of_mem (zm r (List.mem_of_getElem? e))
          walk_at "gr"
          refine ⟨h, l, ps, k, r, rfl, hs, hps.l, Hps.frs hps.n hk, ?_⟩
          refine ⟨?_, rfl⟩
          rw [tk, List.map_append]
          rfl
      rintro acc S2 ⟨rfl, rfl⟩ _
      rw [List.length_map, lz, List.take_length]
      walk_at "gr"
      obtain ⟨S3, eS3⟩ : ∃ S3, S3 = VS.put S2 y (.ins C_Nest [("layers", .lst (zs.map (Pc.d C_Parcel C_Sides)))]) := ⟨_, rfl⟩
      have cy : S3 y = some (.ins C_Nest [("layers", .lst (zs.map (Pc.d C_Parcel C_Sides)))]) := by rw [eS3]; exact put_same
      show VE _ _ _ (VS.put S2 y (.ins C_Nest [("layers", .lst (zs.map (Pc.d C_Parcel C_Sides)))])) _
      rw [← eS3]
      have hc : VS.cutD (zs.map (Pc.d C_Parcel C_Sides)) (some 1) none = (zs.drop 1).map (Pc.d C_Parcel C_Sides) := by
        rw [show (some (1 : Int)) = some ((1 : Nat) : Int) from rfl, cut_drD _ (by rw [List.length_map]; omega), List.map_drop]
      refine ve_lc (vi_zip ?_)
      walk_at "gr"
      refine rs_list .v ?_
      rw [hc]
      refine va_nil ?_
      refine ⟨_, _, _, _, rfl, .v, .v, by rw [zipD_len, List.length_map]; omega, fun i acc S4 => acc = ((waysI sp zs).take i).map ordD ∧ S4 = S3, ⟨rfl, rfl⟩, ?_, ?_⟩
      · rintro i d acc S4 hd ⟨rfl, rfl⟩ _
        obtain ⟨a, b, h1, h2, rfl⟩ := zipD_get hd
        rw [List.getElem?_map] at h1 h2
        rw [List.getElem?_drop] at h2
        cases e1 : zs[i]? with
        | none => rw [e1] at h1; cases h1
        | some p =>
        cases e2 : zs[1 + i]? with
        | none => rw [e2] at h2; cases h2
        | some r =>
        rw [e1] at h1
        rw [e2] at h2
        cases h1
        cases h2
        rw [Nat.add_comm] at e2
        obtain ⟨g1, g2⟩ := ways_at hg e1 e2
        have gp := hps.g p (zm p (List.mem_of_getElem? e1))
        have gr := hps.g r (zm r (List.mem_of_getElem? e2))
        have tk : (waysI sp zs).take (i + 1) = (waysI sp zs).take i ++ [wayI sp p r] := by rw [List.take_succ, g2]; rfl
        walk_at "gr"
        refine ⟨p.nm, p.a, p.b, p.c, p.wl, p.wt, p.br, p.mk, _, .int sp, rfl, gp, .inr ⟨r.nm, r.a, r.b, r.c, r.wl, r.wt, r.br, r.mk, rfl, gr, some sp, .i sp, fun z => (by rw [w1] at z; cases z), fun i' e i0 i1 => ?_⟩⟩
        cases e
        rw [(way_go gp s0 g1).1]
        walk_at "gr"
        refine ⟨?_, rfl⟩
        rw [tk, List.map_append]
        rfl
      rintro acc S4 ⟨rfl, rfl⟩ _
      rw [zipD_len, List.length_map, List.length_map, List.length_drop, List.take_of_length_le (by rw [ways_len]; omega)]
      walk_at "gr"
      rw [eS3]
      refine ⟨y, C_Nest, _, rfl, put_same, kc_Nest, ka_Nest_ways, show 1 < 1000 by decide, ?_⟩
      show G .non (VS.put (VS.put S2 y _) y (nsD C_Nest C_Parcel C_Sides sp zs))
      rw [put_put]
      exact q) only [↓VS.box]
theorem ok_Nest_names {f : Addr} {fd : FuncData} {C_Sides C_Parcel C_Heap C_Nest C_NoNumber C_NoSide C_NoSides C_NoOrder C_NoParcel C_NotInHeap : Addr} {f_Parcel_name : Addr} {g_Parcel_name : FuncData}
    (F : Fd K "names" "Nest.names" s_Nest_names [] f fd) (T : Tx K mg) (hsys : SysOk base)
    (c_Parcel_name : Mf P w K mg base 1 C_Parcel "name" "Parcel.name" s_Parcel_name [] a_Parcel_name (p_Pc_name C_Parcel C_Sides) f_Parcel_name g_Parcel_name)
    (k_Nest : Kl_Nest K mg C_Nest)
    (k_Heap : Kl_Heap K mg C_Heap)
    (k_Parcel : Kl_Parcel K mg C_Parcel)
    (k_Sides : Kl_Sides K mg C_Sides) :
    FnG P w K mg base (L2.CX P w) 2 f fd a_Nest_names (spOf K (p_Ns_names C_Nest C_Parcel C_Sides)) := by
  refine VS.unbox ?_
  simp (disch := with_unfolding_all
    have kc_Nest := k_Nest.ins.cl
    have ka_Nest_layers := k_Nest.a_layers
    have ka_Nest_ways := k_Nest.a_ways
    have kc_Heap := k_Heap.ins.cl
    have ka_Heap_held := k_Heap.a_held
    have ka_Heap_told := k_Heap.a_told
    have ka_Heap_kind := k_Heap.a_kind
    have kc_Parcel := k_Parcel.ins.cl
    have ka_Parcel_called := k_Parcel.a_called
    have ka_Parcel_outside := k_Parcel.a_outside
    have ka_Parcel_thick := k_Parcel.a_thick
    have ka_Parcel_heavy := k_Parcel.a_heavy
    have ka_Parcel_strong := k_Parcel.a_strong
    have ka_Parcel_marks := k_Parcel.a_marks
    have ka_Parcel_told := k_Parcel.a_told
    have ka_Parcel_names := k_Parcel.a_names
    have kc_Sides := k_Sides.ins.cl
    have ka_Sides_three := k_Sides.a_three
    refine fn_val F sc_Nest_names (fun ds S G Y h => ?_) (fun cdv A hgd outer s H E hr px tk po ds S G Y h => ?_)
    · obtain ⟨zs, sp, rfl, _⟩ := h
      rfl
    · obtain ⟨zs, sp, rfl, z12, q⟩ := h
      refine ⟨_, (pss_one (ps_ret (pe_lc (own := [("parcel", 1)]) rfl sc_Nest_names.nd (pi_list (pe_fld (pv 0) rfl)) (blkOk_by (own := [("parcel", 1)]) (N := n_Nest_names) (sc := defScope s_Nest_names) (by decide +kernel)) (fun _ _ _ _ _ => (pg_name (i := 1) sc_Nest_names.nd rfl (Or.inl rfl))) (fun _ _ _ _ _ => pts_nil) (fun _ _ _ _ _ => (pe_mG0 (pv 1) c_Parcel_name.cl c_Parcel_name.me c_Parcel_name.fn hgd (hr.mono (by decide)) c_Parcel_name.b .nil VS.pass0))))), ?_⟩
      (try dsimp only [cxOf, List.map])
      show VX _ _ [_, _] _ _
      unfold nsD
      walk_at "gr"
      refine ve_lc (vi_list ?_)
      walk_at "gr"
      refine ⟨_, .v, by rw [List.length_map]; omega, fun i acc S2 => acc = ((zs.take i).map Pc.nm).map D.str ∧ S2 = S, ⟨rfl, rfl⟩, ?_, ?_⟩
      · rintro i dz acc S2 hd ⟨rfl, rfl⟩ _
        rw [List.getElem?_map] at hd
        cases e : zs[i]? with
        | none => rw [e] at hd; cases hd
        | some r =>
          rw [e] at hd
          cases hd
          have tk : zs.take (i + 1) = zs.take i ++ [r] := by rw [List.take_succ, e]; rfl
          walk_at "gr"
          refine ⟨r.nm, r.a, r.b, r.c, r.wl, r.wt, r.br, r.mk, rfl, ?_⟩
          refine ⟨?_, rfl⟩
          rw [tk, List.map_append, List.map_append]
          rfl
      rintro acc S2 ⟨rfl, rfl⟩ _
      rw [List.length_map, List.take_length]
      exact q) only [↓VS.box]
theorem ok_Nest_turns {f : Addr} {fd : FuncData} {C_Sides C_Parcel C_Heap C_Nest C_NoNumber C_NoSide C_NoSides C_NoOrder C_NoParcel C_NotInHeap : Addr}
    (F : Fd K "turns" "Nest.turns" s_Nest_turns [] f fd) (T : Tx K mg) (hsys : SysOk base)
    (k_Nest : Kl_Nest K mg C_Nest)
    (k_Heap : Kl_Heap K mg C_Heap)
    (k_Parcel : Kl_Parcel K mg C_Parcel)
    (k_Sides : Kl_Sides K mg C_Sides) :
    FnG P w K mg base (L2.CX P w) 1 f fd a_Nest_turns (spOf K (p_Ns_turns C_Nest C_Parcel C_Sides)) := by
  refine VS.unbox ?_
  simp (disch := with_unfolding_all
    have kc_Nest := k_Nest.ins.cl
    have ka_Nest_layers := k_Nest.a_layers
    have ka_Nest_ways := k_Nest.a_ways
    have kc_Heap := k_Heap.ins.cl
    have ka_Heap_held := k_Heap.a_held
    have ka_Heap_told := k_Heap.a_told
    have ka_Heap_kind := k_Heap.a_kind
    have kc_Parcel := k_Parcel.ins.cl
    have ka_Parcel_called := k_Parcel.a_called
    have ka_Parcel_outside := k_Parcel.a_outside
    have ka_Parcel_thick := k_Parcel.a_thick
    have ka_Parcel_heavy := k_Parcel.a_heavy
    have ka_Parcel_strong := k_Parcel.a_strong
    have ka_Parcel_marks := k_Parcel.a_marks
    have ka_Parcel_told := k_Parcel.a_told
    have ka_Parcel_names := k_Parcel.a_names
    have kc_Sides := k_Sides.ins.cl
    have ka_Sides_three := k_Sides.a_three
    refine fn_val F sc_Nest_turns (fun ds S G Y h => ?_) (fun cdv A hgd outer s H E hr px tk po ds S G Y h => ?_)
    · obtain ⟨zs, sp, rfl, _⟩ := h
      rfl
    · obtain ⟨zs, sp, rfl, q⟩ := h
      refine ⟨_, (pss_one (ps_ret (pe_callTy c_list (by rfl) T.b_list (by decide +kernel) (pa_cons (pe_fld (pv 0) rfl) pa_nil)))), ?_⟩
      (try dsimp only [cxOf, List.map])
      show VX _ _ [_] _ _
      unfold nsD
      walk_at "ga"
      exact q) only [↓VS.box]
theorem ok_Nest_lies {f : Addr} {fd : FuncData} {C_Sides C_Parcel C_Heap C_Nest C_NoNumber C_NoSide C_NoSides C_NoOrder C_NoParcel C_NotInHeap : Addr} {f_Nest_names : Addr} {g_Nest_names : FuncData}
    (F : Fd K "lies" "Nest.lies" s_Nest_lies [] f fd) (T : Tx K mg) (hsys : SysOk base)
    (c_Nest_names : Mf P w K mg base 2 C_Nest "names" "Nest.names" s_Nest_names [] a_Nest_names (p_Ns_names C_Nest C_Parcel C_Sides) f_Nest_names g_Nest_names)
    (x_NotInHeap : Xc P w K mg base "NotInHeap" C_NotInHeap "found")
    (k_Nest : Kl_Nest K mg C_Nest)
    (k_Heap : Kl_Heap K mg C_Heap)
    (k_Parcel : Kl_Parcel K mg C_Parcel)
    (k_Sides : Kl_Sides K mg C_Sides) :
    FnG P w K mg base (L2.CX P w) 3 f fd a_Nest_lies (spOf K (p_Ns_lies K C_Nest C_Parcel C_Sides C_NotInHeap)) := by
  refine VS.unbox ?_
  simp (disch := with_unfolding_all
    have kc_Nest := k_Nest.ins.cl
    have ka_Nest_layers := k_Nest.a_layers
    have ka_Nest_ways := k_Nest.a_ways
    have kc_Heap := k_Heap.ins.cl
    have ka_Heap_held := k_Heap.a_held
    have ka_Heap_told := k_Heap.a_told
    have ka_Heap_kind := k_Heap.a_kind
    have kc_Parcel := k_Parcel.ins.cl
    have ka_Parcel_called := k_Parcel.a_called
    have ka_Parcel_outside := k_Parcel.a_outside
    have ka_Parcel_thick := k_Parcel.a_thick
    have ka_Parcel_heavy := k_Parcel.a_heavy
    have ka_Parcel_strong := k_Parcel.a_strong
    have ka_Parcel_marks := k_Parcel.a_marks
    have ka_Parcel_told := k_Parcel.a_told
    have ka_Parcel_names := k_Parcel.a_names
    have kc_Sides := k_Sides.ins.cl
    have ka_Sides_three := k_Sides.a_three
    refine fn_val F sc_Nest_lies (fun ds S G Y h => ?_) (fun cdv A hgd outer s H E hr px tk po ds S G Y h => ?_)
    · obtain ⟨zs, sp, d, rfl, _⟩ := h
      rfl
    · obtain ⟨zs, sp, d, rfl, z12, nd, hg, gz, s0, q⟩ := h
      refine ⟨_, (pss_cons (ps_set (i := 2) sc_Nest_lies.nd rfl (Or.inl rfl) (pe_mG0 (pv 0) c_Nest_names.cl c_Nest_names.me c_Nest_names.fn hgd (hr.mono (by decide)) c_Nest_names.b .nil VS.pass0))
        (pss_cons (ps_if (PW.pt (pw_or (pt_not (pt_val (pe_callB c_isiZ (by rfl) T.b_isinstance (by decide +kernel) (pa_cons (pv 1) (pa_cons (pe_bltn (v := .ty "str") (by rfl) T.b_str (by decide +kernel) rfl) pa_nil))))) (pw_or1 (pt_cmpR op_notIn_seq (pv 1) (pv 2) (by rfl))))) (pss_one (ps_rz tk x_NotInHeap (hr.mono (by decide)) (by rfl) (pv 1)))
        pss_nil)
        (pss_cons (ps_set (i := 3) sc_Nest_lies.nd rfl (Or.inl rfl) (pe_tup (pa_cons pe_int (pa_cons pe_int (pa_cons pe_int pa_nil)))))
        (pss_cons (ps_for po rfl (pi_reversed (by rfl) T.b_reversed (pa_cons (pe_slice sl_list (pe_fld (pv 0) rfl) (po_some (pe_bm PySem.F.plainAttrs_list PySem.F.slot_list_index PySem.F.type_list_index mt_index (pv 2) (pa_cons (pv 1) pa_nil))) po_none) pa_nil)) (pg_name (i := 4) sc_Nest_lies.nd rfl (Or.inr rfl))
        (pss_one (ps_set (i := 3) sc_Nest_lies.nd rfl (Or.inl rfl) (pe_callTy c_tuple (by rfl) T.b_tuple (by decide +kernel) (pa_cons (pe_lc (own := [("number", 5)]) rfl sc_Nest_lies.nd (pi_tup (pv 3)) (blkOk_by (own := [("number", 5)]) (N := n_Nest_lies) (sc := defScope s_Nest_lies) (by decide +kernel)) (fun _ _ _ _ _ => (pg_name (i := 5) sc_Nest_lies.nd rfl (Or.inl rfl))) (fun _ _ _ _ _ => pts_nil) (fun _ _ _ _ _ => (pe_ix (kI (K := K) (r := rIxT) ix_tup) (pv 4) (pv 5) (fun _ _ => rfl)))) pa_nil)))))
        (pss_one (ps_ret (pv 3))))))), ?_⟩
      (try dsimp only [cxOf, List.map])
      show VX _ _ [_, _, _, _, _, _] _ _
      walk_at "gr"
      refine ⟨zs, sp, rfl, z12, ?_⟩
      unfold nmD
      rcases q with ⟨i, z, hz, rfl, q⟩ | ⟨hp, q⟩
      · have zin : z.nm ∈ zs.map Pc.nm := List.mem_map.mpr ⟨z, List.mem_of_getElem? hz, rfl⟩
        have il : i < zs.length := (List.getElem?_eq_some_iff.mp hz).1
        walk_at "gr"
        refine rv_in (.l .v) rfl (flat_strs _) ?_
        rw [inD_strs, decide_eq_true zin]
        walk_at "gr"
        have hz' : (zs.map Pc.nm)[i]? = some z.nm := by rw [List.getElem?_map, hz]; rfl
        refine vx_for (vi_rev ?_)
        unfold nsD
        refine va_cons (ve_sl (ve_fld (ve_var rfl ⟨_, _, _, .v, kc_Nest, ka_Nest_ways, rfl, ?_⟩)))
        refine vo_some (ve_bmV (ve_var rfl ⟨_, .v, va_cons (ve_var rfl (va_nil ?_))⟩))
        refine rm_indexS (j := i) .v nd hz' ?_
        refine ⟨_, rfl, ?_⟩
        refine vo_none ?_
        refine rs_list .v ?_
        rw [cut_drD _ (by rw [List.length_map, ways_len]; omega), ← List.map_drop, ways_drop]
        refine va_nil ?_
        have wp : ∀ t ∈ waysI sp (zs.drop i), t ∈ perms := fun t ht => by
          rw [← ways_drop] at ht
          exact way_perm hg gz s0 t (List.mem_of_mem_drop ht)
        generalize waysI sp (zs.drop i) = ws at q wp
        refine ⟨_, _, rfl, .v, fun j ρ2 S2 => S2 = S ∧ ∃ x4 x5, ρ2 = [some (.ins C_Nest [("layers", .lst (zs.map (Pc.d C_Parcel C_Sides))), ("ways", .lst ((waysI sp zs).map ordD))]), some (.str z.nm), some (.lst ((zs.map Pc.nm).map D.str)), some (ordD (lieI (ws.drop (ws.length - j)))), x4, x5], ⟨rfl, none, none, by rw [Nat.sub_zero, List.drop_length]; rfl⟩, ?_, ?_⟩
        · rintro j d _ S2 hd ⟨rfl, x4, x5, rfl⟩
          have jl : j < ws.length := by
            have := (List.getElem?_eq_some_iff.mp hd).1
            rw [List.length_reverse, List.length_map] at this
            exact this
          rw [List.getElem?_reverse (by rw [List.length_map]; exact jl), List.length_map, List.getElem?_map] at hd
          have kl : ws.length - 1 - j < ws.length := by omega
          have dr : ws.drop (ws.length - (j + 1)) = ws[ws.length - 1 - j] :: ws.drop (ws.length - j) := by
            rw [show ws.length - (j + 1) = ws.length - 1 - j by omega, List.drop_eq_getElem_cons kl, show ws.length - 1 - j + 1 = ws.length - j by omega]
          rw [List.getElem?_eq_getElem kl] at hd
          cases hd
          have tp := wp _ (List.getElem_mem kl)
          generalize ws[ws.length - 1 - j] = t at dr tp
          have op : lieI (ws.drop (ws.length - j)) ∈ perms := lieI_perm fun x hx => wp x (List.mem_of_mem_drop hx)
          have el : lieI (ws.drop (ws.length - (j + 1))) = (lieI (ws.drop (ws.length - j))).map fun n => t.getD n.toNat 0 := by rw [dr]; rfl
          generalize lieI (ws.drop (ws.length - j)) = o at op el ⊢
          have ol : o.length ≤ 3 := by
            have h : ∀ o ∈ perms, o.length ≤ 3 := by decide
            exact h o op
          unfold ordD
          walk_at "gr"
          refine ve_lcM (trF t) (vi_tup ?_)
          walk_at "gr"
          refine ⟨_, rfl, by rw [List.length_map]; omega, fun d hd => ?_, ?_⟩
          · obtain ⟨n, hn, rfl⟩ := List.mem_map.mp hd
            obtain ⟨n0, n2⟩ := perm_in op n hn
            walk_at "gr"
            refine ⟨rfl, ?_⟩
            walk_at "gr"
            exact rv_ixT (ord_at tp n0 n2) ⟨rfl, rfl⟩
          walk_at "gr"
          refine ⟨rfl, some (.tup (t.map D.int)), x5, ?_⟩
          have em : (o.map D.int).map (trF t) = (o.map fun n => t.getD n.toNat 0).map D.int := by
            rw [List.map_map, List.map_map]
            rfl
          rw [el, em]
          rfl
        · rintro _ S2 ⟨rfl, x4, x5, rfl⟩
          walk_at "gr"
          rw [List.length_reverse, List.length_map, Nat.sub_self, List.drop_zero]
          exact q
      · walk_at "gr"
        cases hp with
        | @s x hne =>
          refine rc_isi (N := "str") (b := true) (.str x) (by decide +kernel) ?_
          walk_at "gr"
          refine rv_in (.l .v) rfl (flat_strs _) ?_
          rw [inD_strs, decide_eq_false hne]
          walk_at "gr"
          exact q
        | @d y d' h k =>
          refine rc_isiD h (isK_str h.p) ?_
          rw [k]
          walk_at "gr"
          exact q
        | o i c k =>
          refine rc_isiP (.i i c) k ?_
          walk_at "gr"
          exact q) only [↓VS.box]
end
end LW
namespace LW
open PySem L2 C8 PySem.Spec PyProof.Rows VS
/-! ### how the parcels of a nest lie in the outer one -/
def sdI (p : Pc) (i : Int) : Int := tn p.a p.b p.c i
def lies (sp : Int) : List Pc → List (List Int)
  | [] => []
  | z :: r => lieI (waysI sp (z :: r)) :: lies sp r
theorem lies_len {sp : Int} : ∀ zs : List Pc, (lies sp zs).length = zs.length
  | [] => rfl
  | _ :: r => congrArg Nat.succ (lies_len r)
theorem lies_at {sp : Int} : ∀ {zs : List Pc} {i : Nat}, i < zs.length → (lies sp zs)[i]? = some (lieI (waysI sp (zs.drop i)))
  | [], i, h => by cases h
  | z :: r, 0, _ => rfl
  | z :: r, i + 1, h => lies_at (zs := r) (by simpa using h)
theorem comp_perm : ∀ t ∈ perms, ∀ o ∈ perms, (o.map fun n => t.getD n.toNat 0) ∈ perms := by decide
theorem lie_perm {sp : Int} : ∀ {zs : List Pc}, Goes sp zs → (∀ z ∈ zs, z.g) → 0 ≤ sp → lieI (waysI sp zs) ∈ perms
  | [], _, _, _ => by show ([0, 1, 2] : List Int) ∈ perms; decide
  | [_], _, _, _ => by show ([0, 1, 2] : List Int) ∈ perms; decide
  | p :: q :: r, hg, gz, s0 => by
    have ih := lie_perm (zs := q :: r) hg.2 (fun z hz => gz z (List.mem_cons_of_mem _ hz)) s0
    exact comp_perm _ (way_go (gz p (List.mem_cons_self ..)) s0 hg.1).2.1 _ ih
/-- what an order's three numbers are -/
theorem perm3L {o : List Int} (h : o ∈ perms) : ∃ x y z, o = [x, y, z] ∧ 0 ≤ x ∧ x ≤ 2 ∧ 0 ≤ y ∧ y ≤ 2 ∧ 0 ≤ z ∧ z ≤ 2 := by
  have : ∀ o ∈ perms, o.length = 3 ∧ ∀ x ∈ o, 0 ≤ x ∧ x ≤ 2 := by decide
  obtain ⟨h1, h2⟩ := this o h
  match o, h1 with
  | [x, y, z], _ => exact ⟨x, y, z, rfl, (h2 x (by simp)).1, (h2 x (by simp)).2, (h2 y (by simp)).1, (h2 y (by simp)).2, (h2 z (by simp)).1, (h2 z (by simp)).2⟩
theorem fit_at {p : Pc} {t : List Int} {x y z sp : Int} (ht : t ∈ perms) (h : fitB (tnl p.a p.b p.c t) [x, y, z] sp = true) : ∀ n : Int, 0 ≤ n → n ≤ 2 → sdI p (t.getD n.toNat 0) + sp ≤ tn x y z n := by
  obtain ⟨i, j, k, rfl, _⟩ := perm3L ht
  have h : (decide (tn p.a p.b p.c i + sp ≤ x) && (decide (tn p.a p.b p.c j + sp ≤ y) && (decide (tn p.a p.b p.c k + sp ≤ z) && true))) = true := h
  simp only [Bool.and_eq_true, decide_eq_true_eq, and_true] at h
  intro n n0 n2
  have : n = 0 ∨ n = 1 ∨ n = 2 := by omega
  rcases this with rfl | rfl | rfl
  · exact h.1
  · exact h.2.1
  · exact h.2.2
/-- one step outwards -/
theorem lie_step {sp : Int} {p q : Pc} {r : List Pc} (hg : Goes sp (p :: q :: r)) (gz : ∀ z ∈ p :: q :: r, z.g) (s0 : 0 ≤ sp) (a : Nat) (ha : a < 3) :
    sdI p ((lieI (waysI sp (p :: q :: r))).getD a 0) + sp + 2 * q.wl ≤ sdI q ((lieI (waysI sp (q :: r))).getD a 0) := by
  obtain ⟨_, h1, h2⟩ := way_go (gz p (List.mem_cons_self ..)) s0 hg.1
  have hp := lie_perm (zs := q :: r) hg.2 (fun z hz => gz z (List.mem_cons_of_mem _ hz)) s0
  obtain ⟨x, y, z, eo, x0, x2, y0, y2, z0, z2⟩ := perm3L hp
  have f := fit_at h1 h2
  have e : lieI (waysI sp (p :: q :: r)) = [x, y, z].map fun n => (wayI sp p q).getD n.toNat 0 := by
    show (lieI (waysI sp (q :: r))).map _ = _
    rw [eo]
  rw [e, eo]
  have tnm : ∀ n : Int, 0 ≤ n → n ≤ 2 → tn (q.a - 2 * q.wl) (q.b - 2 * q.wl) (q.c - 2 * q.wl) n = sdI q n - 2 * q.wl := fun n n0 n2 => by
    have : n = 0 ∨ n = 1 ∨ n = 2 := by omega
    rcases this with rfl | rfl | rfl <;> rfl
  have key : ∀ n : Int, 0 ≤ n → n ≤ 2 → sdI p ((wayI sp p q).getD n.toNat 0) + sp + 2 * q.wl ≤ sdI q n := fun n n0 n2 => by
    have h1 := f n n0 n2
    rw [tnm n n0 n2] at h1
    omega
  rcases a with _ | _ | _ | a
  · exact key x x0 x2
  · exact key y y0 y2
  · exact key z z0 z2
  · omega
/-- each lies in the rooms of all further out -/
theorem lie_all {sp : Int} (s0 : 0 ≤ sp) : ∀ {zs : List Pc}, Goes sp zs → (∀ z ∈ zs, z.g) → ∀ (i j : Nat) (p q : Pc) (a : Nat), i < j → zs[i]? = some p → zs[j]? = some q → a < 3 →
    sdI p ((lieI (waysI sp (zs.drop i))).getD a 0) + sp + 2 * q.wl ≤ sdI q ((lieI (waysI sp (zs.drop j))).getD a 0)
  | [], _, _, i, j, p, q, a, _, h1, _, _ => by simp at h1
  | [x], _, _, i, j, p, q, a, hij, h1, h2, _ => by
    have := (List.getElem?_eq_some_iff.mp h2).1
    simp at this
    omega
  | x :: y :: r, hg, gz, i, j, p, q, a, hij, h1, h2, ha => by
    have ih := lie_all s0 (zs := y :: r) hg.2 fun z hz => gz z (List.mem_cons_of_mem _ hz)
    cases i with
    | succ i =>
      cases j with
      | zero => omega
      | succ j => exact ih i j p q a (by omega) h1 h2 ha
    | zero =>
      cases h1
      cases j with
      | zero => omega
      | succ j =>
        have st := lie_step hg gz s0 a ha
        cases j with
        | zero =>
          cases h2
          exact st
        | succ j =>
          have := ih 0 (j + 1) y q a (by omega) rfl h2 ha
          have wy := (gz y (by simp)).wl.1
          show sdI x ((lieI (waysI sp (x :: y :: r))).getD a 0) + sp + 2 * q.wl ≤ sdI q ((lieI (waysI sp ((y :: r).drop (j + 1)))).getD a 0)
          have h3 : sdI y ((lieI (waysI sp (y :: r))).getD a 0) + sp + 2 * q.wl ≤ sdI q ((lieI (waysI sp ((y :: r).drop (j + 1)))).getD a 0) := this
          omega
end LW
namespace LW
open PySem L2 C8 PySem.Spec PyProof.Rows VS
/-! ### from each name to those in which it goes, by the law's own turns -/
def p__law_outwards : Pt := fun ds S G _ => ∃ (rs : List Pc) (sp : Int), ds = [.lst (rs.map rwD), .int sp] ∧ Hrs rs ∧ 0 ≤ sp ∧
  ∀ (d : Addr) (as : List Addr) (S' : Sto), S d = none → as.length = rs.length → as.Nodup → d ∉ as → (∀ a ∈ as, S a = none) → Ext S S' → S' d = some (.dK (inD2 rs as)) → (∀ (i : Nat) (a : Addr) (p : Pc), as[i]? = some a → rs[i]? = some p → S' a = some (.lst ((goN sp rs p).map D.str))) → G (.ref d) S'
section
variable {P : Program} {w : World} {K : PySem.W.Frag} {mg : Str → Option Value} {base : Heap}
theorem ok__law_outwards {f : Addr} {fd : FuncData} {C_Sides C_Parcel C_Heap C_Nest C_NoNumber C_NoSide C_NoSides C_NoOrder C_NoParcel C_NotInHeap : Addr} {f__law_turns : Addr} {g__law_turns : FuncData}
    (F : Fd K "_law_outwards" "_law_outwards" s__law_outwards [] f fd) (T : Tx K mg) (hsys : SysOk base)
    (c__law_turns : Cf P w K mg base (L2.CX P w) 2 "_law_turns" s__law_turns [] a__law_turns p__law_turns f__law_turns g__law_turns) :
    FnG P w K mg base (L2.CX P w) 3 f fd a__law_outwards (spOf K p__law_outwards) := by
  refine VS.unbox ?_
  simp (disch := with_unfolding_all
    refine fn_val F sc__law_outwards (fun ds S G Y h => ?_) (fun cdv A hgd outer s H E hr px tk po ds S G Y h => ?_)
    · obtain ⟨rs, sp, rfl, _⟩ := h
      rfl
    · obtain ⟨rs, sp, rfl, hrs, s0, q⟩ := h
      refine ⟨_, (pss_cons (ps_set (i := 2) sc__law_outwards.nd rfl (Or.inl rfl) pe_dnewK)
        (pss_cons (ps_for po rfl (pi_list (pv 0)) (pg_name (i := 3) sc__law_outwards.nd rfl (Or.inr rfl))
        (pss_one (ps_dput (hu_of hr) (pv 2) (pe_ix ix_list (pv 3) pe_int (fun _ _ => rfl)) (pe_lc (own := [("_law_other", 4)]) rfl sc__law_outwards.nd (pi_list (pv 0)) (blkOk_by (own := [("_law_other", 4)]) (N := n__law_outwards) (sc := defScope s__law_outwards) (by decide +kernel)) (fun _ _ _ _ _ => (pg_name (i := 4) sc__law_outwards.nd rfl (Or.inl rfl))) (fun _ _ _ _ _ => (pts_one (pt_cmpR (kO (K := K) (r := rNeE) (op_neE hr)) (pe_cG c__law_turns.fn hgd (hr.mono (by decide)) (by rfl) c__law_turns.mg c__law_turns.kp c__law_turns.b .nil VS.pass0 (pa_cons (pv 3) (pa_cons (pv 4) (pa_cons (pv 1) pa_nil)))) (pe_lst pa_nil) (nomark _)))) (fun _ _ _ _ _ => (pe_ix (kI (K := K) (r := rIxL) ix_list) (pv 4) pe_int (fun _ _ => rfl)))) (by rfl))))
        (pss_one (ps_ret (pv 2))))), ?_⟩
      (try dsimp only [cxOf, List.map])
      show VX _ _ [_, _, _, _, _] _ _
      have p12 := hrs.l
      refine vx_seq (vx_asg ?_)
      refine ve_dnewc fun d hd => ?_
      have sd0 : S d = none := hd
      have c5 : (put S d (.dK [])) d = some (.dK []) := put_same
      have x5' := Ext.put (S := S) (d := .dK []) hd
      generalize put S d (.dK []) = S4 at c5 x5' ⊢
      walk_at "gr"
      refine vx_for (vi_list ?_)
      walk_at "gr"
      refine ⟨_, .v, fun i ρ2 S2 => ∃ as : List Addr, as.length = i ∧ as.Nodup ∧ d ∉ as ∧ (∀ a ∈ as, S a = none) ∧ Ext S S2 ∧ S2 d = some (.dK (inD2 (rs.take i) as)) ∧ (∀ (j : Nat) (a : Addr) (p : Pc), as[j]? = some a → rs[j]? = some p → S2 a = some (.lst ((goN sp rs p).map D.str))) ∧ ∃ x3 x4, ρ2 = [some (.lst (rs.map rwD)), some (.int sp), some (.ref d), x3, x4], ⟨[], rfl, .nil, nofun, nofun, x5', c5, nofun, _, _, rfl⟩, ?_, ?_⟩
      · clear c5 x5'
        rintro i dd _ S5 hdd ⟨as, la, na, da, sa, x6, c6, h6, x3, x4, rfl⟩
        rw [List.getElem?_map] at hdd
        cases e : rs[i]? with
        | none => rw [e] at hdd; cases hdd
        | some r =>
          rw [e] at hdd
          cases hdd
          have hi : i < rs.length := (List.getElem?_eq_some_iff.mp e).1
          have tk : rs.take (i + 1) = rs.take i ++ [r] := by rw [List.take_succ, e]; rfl
          unfold rwD
          walk_at "gr"
          refine vx_dput ?_
          refine ve_lcc (vi_list ?_)
          walk_at "gr"
          refine ⟨_, .v, by rw [List.length_map]; omega, fun j acc S7 => acc = (((rs.take j).filter (goB sp r)).map Pc.nm).map D.str ∧ S7 = S5, ⟨rfl, rfl⟩, ?_, ?_⟩
          · rintro j dz acc S7 hdz ⟨rfl, rfl⟩ _
            have hdz : (rs.map rwD)[j]? = some dz := hdz
            rw [List.getElem?_map] at hdz
            cases e2 : rs[j]? with
            | none => rw [e2] at hdz; cases hdz
            | some t =>
              rw [e2] at hdz
              cases hdz
              have tk2 : rs.take (j + 1) = rs.take j ++ [t] := by rw [List.take_succ, e2]; rfl
              unfold rwD
              walk_at "gr"
              refine ⟨r, t, sp, rfl, (hrs.g r (List.mem_of_getElem? e)).1, (hrs.g t (List.mem_of_getElem? e2)).1, ?_⟩
              walk_at "ga"
              rw [show (!((turnsL sp r t).map ordD).isEmpty) = goB sp r t from by rw [List.isEmpty_map]; exact (go_same (hrs.g r (List.mem_of_getElem? e)).1 s0).symm]
              refine ⟨fun eb => ?_, fun eb => ?_⟩
              · walk_at "gr"
                refine ⟨?_, rfl⟩
                rw [tk2, List.filter_append, List.filter_cons_of_pos (show goB sp r t = true from eb), List.map_append, List.map_append]
                rfl
              · refine ⟨?_, rfl⟩
                rw [tk2, List.filter_append, List.filter_cons_of_neg (by rw [show goB sp r t = false from eb]; decide), List.filter_nil, List.append_nil]
          · rintro acc S7 ⟨ea, rfl⟩ _ a ha
            rw [List.length_map, List.take_length] at ea
            subst ea
            have nda : d ≠ a := ne_at c6 ha
            have naa : ∀ a' ∈ as, a' ≠ a := fun a' h' z => by
              obtain ⟨j, hj⟩ := List.getElem?_of_mem h'
              have hjl : j < as.length := (List.getElem?_eq_some_iff.mp hj).1
              have := h6 j a' _ hj (List.getElem?_eq_getElem (show j < rs.length by omega))
              rw [z, ha] at this
              cases this
            have c7 : (put S7 a (.lst (((rs.filter (goB sp r)).map Pc.nm).map D.str))) d = some (.dK (inD2 (rs.take i) as)) := (put_ne nda).trans c6
            walk_at "gr"
            refine ⟨inD2 (rs.take i) as, .inr r.nm, c7, rfl, ?_, as ++ [a], ?_, ?_, ?_, ?_, ?_, ?_, ?_, _, _, rfl⟩
            · have : (inD2 (rs.take i) as).length ≤ as.length := by unfold inD2; rw [List.length_zipWith]; omega
              have := szl
              omega
            · rw [List.length_append, la]; rfl
            · rw [List.nodup_append]
              exact ⟨na, by simp, fun x hx y hy => by rw [List.mem_singleton.mp hy]; exact naa x hx⟩
            · intro z
              rcases List.mem_append.mp z with z | z
              · exact da z
              · exact nda (List.mem_singleton.mp z)
            · intro x hx
              rcases List.mem_append.mp hx with hx | hx
              · exact sa x hx
              · rw [List.mem_singleton.mp hx]; exact x6.no ha
            · exact (x6.trans (Ext.put ha)).wr sd0
            · rw [put_same, dkPut_new, tk, inD2_app (by rw [List.length_take]; omega)]
              intro x hx z
              have hk : x.1 ∈ (inD2 (rs.take i) as).map Prod.fst := List.mem_map.mpr ⟨x, hx, rfl⟩
              rw [inD2_keys (by rw [List.length_take]; omega), z] at hk
              obtain ⟨w, hw, ew⟩ := List.mem_map.mp hk
              cases ew
              obtain ⟨t, ht, et⟩ := List.mem_map.mp hw
              obtain ⟨j, hj⟩ := List.getElem?_of_mem ht
              have jl : j < i := by
                have := (List.getElem?_eq_some_iff.mp hj).1
                rw [List.length_take] at this
                omega
              rw [List.getElem?_take_of_lt jl] at hj
              have := (Hps.frs hrs.n e).2 j t jl hj
              exact this et
            · intro j a' p' hj hp'
              by_cases z : j < as.length
              · rw [List.getElem?_append_left z] at hj
                have nea : a' ≠ a := naa a' (List.mem_of_getElem? hj)
                have ned : a' ≠ d := fun z => da (by rw [← z]; exact List.mem_of_getElem? hj)
                rw [put_ne ned, put_ne nea]
                exact h6 j a' p' hj hp'
              · rw [List.getElem?_append_right (by omega)] at hj
                have ez : j - as.length = 0 := by
                  have := (List.getElem?_eq_some_iff.mp hj).1
                  simp at this
                  omega
                rw [ez] at hj
                cases hj
                have ej : j = i := by omega
                subst ej
                rw [e] at hp'
                cases hp'
                rw [put_ne (Ne.symm nda)]
                exact put_same
      · rintro _ S5 ⟨as, la, na, da, sa, x6, c6, h6, x3, x4, rfl⟩
        rw [List.length_map, List.take_length] at c6
        rw [List.length_map] at la
        walk_at "gr"
        exact q d as S5 sd0 la na da sa x6 c6 h6) only [↓VS.box]
end
end LW
namespace LW
open PySem L2 C8 PySem.Spec PyProof.Rows VS
/-! ### a nest by the law's own walk -/
def p__law_chain : Pt := fun ds S G _ => ∃ (p : Addr) (n : Int) (ns : List Str) (E : Str → List Str) (L : List (Addr × D)), ds = [.ref p, .dK (ouDs ns E)] ∧ Wd S p n L ∧ n < 700000 ∧ ns.length ≤ 12 ∧ (∀ x ∈ ns, ∀ y ∈ E x, y ∈ ns) ∧ (∀ x ∈ ns, (E x).length ≤ 12) ∧
  ∀ (zs : List Str) (S' : Sto), (zs = [] ↔ ns = []) → (∀ z ∈ zs, z ∈ ns) → Pth E zs → zs.length ≤ 13 → Wd S' p (n + 60) L → G (nmD zs) S'
theorem atI_last (xs : List D) (x : D) : atI (xs ++ [x]) (-1) = some x := by
  unfold atI
  rw [show ixN (xs ++ [x]).length (-1) = some xs.length from ?_]
  · show (xs ++ [x])[xs.length]? = some x
    rw [List.getElem?_append_right (Nat.le_refl _), Nat.sub_self]
    rfl
  · unfold ixN
    simp
    constructor <;> omega
theorem pth_snoc {E : Str → List Str} : ∀ {zs : List Str} {a b : Str}, Pth E (zs ++ [a]) → b ∈ E a → Pth E (zs ++ [a] ++ [b])
  | [], a, b, _, h => .cons h .one
  | z :: zs, a, b, h, hb => by
    cases zs with
    | nil =>
      cases h with
      | cons h1 h2 => exact .cons h1 (.cons hb .one)
    | cons y zs =>
      cases h with
      | cons h1 h2 => exact .cons h1 (pth_snoc (zs := y :: zs) h2 hb)
section
variable {P : Program} {w : World} {K : PySem.W.Frag} {mg : Str → Option Value} {base : Heap}
theorem ok__law_chain {f : Addr} {fd : FuncData} {C_Sides C_Parcel C_Heap C_Nest C_NoNumber C_NoSide C_NoSides C_NoOrder C_NoParcel C_NotInHeap : Addr} {f__law_take : Addr} {g__law_take : FuncData}
    (F : Fd K "_law_chain" "_law_chain" s__law_chain [] f fd) (T : Tx K mg) (hsys : SysOk base)
    (c__law_take : Cf P w K mg base (L2.CX P w) 1 "_law_take" s__law_take [] a__law_take p__law_take f__law_take g__law_take) :
    FnG P w K mg base (L2.CX P w) 2 f fd a__law_chain (spOf K p__law_chain) := by
  refine VS.unbox ?_
  simp (disch := with_unfolding_all
    refine fn_val F sc__law_chain (fun ds S G Y h => ?_) (fun cdv A hgd outer s H E hr px tk po ds S G Y h => ?_)
    · obtain ⟨p, n, ns, E, L, rfl, _⟩ := h
      rfl
    · obtain ⟨p, n, ns, E, L, rfl, hp, hn, n12, hE, hEl, q⟩ := h
      refine ⟨_, (pss_cons (ps_if (pt_cmpR (VS.op_eqD0 (Nat.lt_of_succ_lt (hu_of hr))) (pv 1) pe_dnewK (nomark _)) (pss_one (ps_ret (pe_lst pa_nil)))
        pss_nil)
        (pss_cons (ps_set (i := 2) sc__law_chain.nd rfl (Or.inl rfl) (pe_lst (pa_cons (pe_ix ix_list (pe_callTy (c_listDk rfl) (by rfl) T.b_list (by decide +kernel) (pa_cons (pv 1) pa_nil)) (pe_cG c__law_take.fn hgd (hr.mono (by decide)) (by rfl) c__law_take.mg c__law_take.kp c__law_take.b .nil VS.pass0 (pa_cons (pv 0) (pa_cons (pe_callB VS.c_lenDk (by rfl) T.b_len (by decide +kernel) (pa_cons (pv 1) pa_nil)) pa_nil))) (fun _ _ => rfl)) pa_nil)))
        (pss_cons (ps_for po rfl (pi_range1 (by rfl) T.b_range (pa_cons (pe_cG c__law_take.fn hgd (hr.mono (by decide)) (by rfl) c__law_take.mg c__law_take.kp c__law_take.b .nil VS.pass0 (pa_cons (pv 0) (pa_cons pe_int pa_nil))) pa_nil)) (pg_name (i := 3) sc__law_chain.nd rfl (Or.inl rfl))
        (pss_cons (ps_set (i := 4) sc__law_chain.nd rfl (Or.inr rfl) (pe_dget (hu_of hr) (pv 1) (pe_ix ix_list (pv 2) (pe_un un_neg pe_int) (fun _ _ => rfl)) (fun _ _ => rfl)))
        (pss_cons (ps_if (pt_cmpR op_gt (pe_cG c__law_take.fn hgd (hr.mono (by decide)) (by rfl) c__law_take.mg c__law_take.kp c__law_take.b .nil VS.pass0 (pa_cons (pv 0) (pa_cons pe_int pa_nil))) pe_int (nomark _)) (pss_one (ps_set (i := 4) sc__law_chain.nd rfl (Or.inr rfl) (pe_lc (own := [("_law_name", 5)]) rfl sc__law_chain.nd (pi_list (pv 4)) (blkOk_by (own := [("_law_name", 5)]) (N := n__law_chain) (sc := defScope s__law_chain) (by decide +kernel)) (fun _ _ _ _ _ => (pg_name (i := 5) sc__law_chain.nd rfl (Or.inr rfl))) (fun _ _ _ _ _ => (pts_one (pt_cmpR (kO (K := K) (r := rEqE) (op_eqE hr)) (pe_lc (own := [("_law_one", 6)]) rfl sc__law_chain.nd (VS.pi_listK (K := K) (pv 4)) (VS.blkOk_c (own := [("_law_one", 6)]) (N := n__law_chain) (by decide +kernel)) (fun _ _ _ _ _ => (pg_name (i := 6) sc__law_chain.nd rfl (Or.inl rfl))) (fun _ _ _ _ _ => (pts_one (pt_cmpR (kO (K := K) (r := (fun K => rIn K false)) op_in_seq) (pv 5) (pe_dget (hu_of hr) (pv 1) (pv 6) (fun _ _ => rfl)) (by rfl)))) (fun _ _ _ _ _ => (pv 6))) (pe_lst pa_nil) (nomark _)))) (fun _ _ _ _ _ => (pv 5)))))
        pss_nil)
        (pss_one (ps_if (pt_cmpR (op_neE hr) (pv 4) (pe_lst pa_nil) (nomark _)) (pss_one (ps_expr (pe_bm PySem.F.plainAttrs_list PySem.F.slot_list_append PySem.F.type_list_append mt_append (pv 2) (pa_cons (pe_ix ix_list (pv 4) (pe_cG c__law_take.fn hgd (hr.mono (by decide)) (by rfl) c__law_take.mg c__law_take.kp c__law_take.b .nil VS.pass0 (pa_cons (pv 0) (pa_cons (pe_callB c_len (by rfl) T.b_len (by decide +kernel) (pa_cons (pv 4) pa_nil)) pa_nil))) (fun _ _ => rfl)) pa_nil))))
        pss_nil)))))
        (pss_one (ps_ret (pv 2)))))), ?_⟩
      (try dsimp only [cxOf, List.map])
      show VX _ _ [_, _, _, _, _, _, _] _ _
      walk_at "gr"
      refine rv_eqD0 .v .v ?_
      refine ⟨_, rfl, fun eb => ?_, fun eb => ?_⟩
      · have e0 : ns = [] := by
          cases ns with
          | nil => rfl
          | cons x r => cases eb
        walk_at "gr"
        refine ve_lst ?_
        walk_at "gr"
        have := q [] S ⟨fun _ => e0, fun _ => rfl⟩ nofun .nil (by decide) (hp.mono (by omega))
        exact this
      have e0 : ns ≠ [] := by
        intro z
        rw [z] at eb
        cases eb
      have npos : 0 < ns.length := List.length_pos_iff.mpr e0
      have kl : (ouDs ns E).map Prod.fst = ns.map .inr := by
        unfold ouDs
        rw [List.map_map]
        rfl
      have ol : (ouDs ns E).length = ns.length := by unfold ouDs; rw [List.length_map]
      walk_at "gr"
      refine ve_lstc ?_
      walk_at "gr"
      refine rc_listDk .v kl ?_
      walk_at "gr"
      refine rc_lenDk .v ?_
      rw [ol]
      walk_at "gr"
      intro d S1 d0 d1 w1
      clear hp
      refine rv_ixAll (fun x => ∃ z, x = .str z ∧ z ∈ ns) d0 (by rw [List.length_map]; exact d1) (fun x hx => by
        obtain ⟨z, hz, rfl⟩ := List.mem_map.mp hx
        exact ⟨z, rfl, hz⟩) ?_
      rintro x ⟨z0, rfl, hz0⟩
      walk_at "gr"
      intro f hf
      have w2 := w1.new (d := .lst [.str z0]) hf
      generalize VS.put S1 f (.lst [.str z0]) = S2 at w2 ⊢
      clear w1
      walk_at "gr"
      refine vx_for (vi_rng1 ?_)
      walk_at "gr"
      intro m S3 m0 m1 w3
      clear w2
      walk_at "gr"
      refine ⟨m, rfl, by omega, fun i ρ2 S4 => ∃ (ys : List Str) (z : Str) (x3 x4 : Option D), Pth E (ys ++ [z]) ∧ (∀ y ∈ ys ++ [z], y ∈ ns) ∧ ys.length ≤ i ∧ Wd S4 p (n + 2 + 2 * (i : Nat)) ((f, .lst ((ys ++ [z]).map D.str)) :: L) ∧ ρ2 = [some (.ref p), some (.dK (ouDs ns E)), some (.ref f), x3, x4, none, none], ⟨[], z0, none, none, .one, fun y hy => by rw [List.mem_singleton.mp hy]; exact hz0, Nat.le_refl _, w3.mono (by omega), rfl⟩, ?_, ?_⟩
      · rintro i d _ S4 hd ⟨ys, z, x3, x4, hpth, hm, yl, w4, rfl⟩
        obtain ⟨im, rfl⟩ := rngD_get hd
        have i13 : (i : Int) < 13 := by omega
        clear w3 hd
        have hz : z ∈ ns := hm z (by simp)
        walk_at "gr"
        rw [List.map_append] at w4
        have w4' : Wd S4 p (n + 2 + 2 * (i : Nat)) ((f, .lst (ys.map D.str ++ [.str z])) :: L) := w4
        clear w4
        walk_at "gr"
        refine ve_dget ?_
        walk_at "gr"
        refine rv_ixL (.c w4'.g0) (atI_last _ _) ?_
        refine ⟨_, .inr z, _, .v, rfl, valD_ou hz, ?_⟩
        refine vg_name ?_
        refine vx_join (fun ρ2 S5 => ∃ ms : List Str, ms.length ≤ 12 ∧ (∀ y ∈ ms, y ∈ E z) ∧ Wd S5 p (n + 3 + 2 * (i : Nat)) ((f, .lst (ys.map D.str ++ [.str z])) :: L) ∧ ρ2 = [some (.ref p), some (.dK (ouDs ns E)), some (.ref f), some (.int (0 + (i : Nat))), some (nmD ms), none, none]) ?_ ?_
        · walk_at "gr"
          intro t S5 t0 t1 w5
          clear w4'
          walk_at "gr"
          refine ⟨fun _ => ?_, fun _ => ?_⟩
          · unfold nmD
            walk_at "gr"
            refine ve_lc (vi_list ?_)
            walk_at "gr"
            refine ⟨_, .v, by rw [List.length_map]; have := hEl z hz; omega, fun j acc S6 => S6 = S5 ∧ acc.length ≤ j ∧ ∀ y ∈ acc, ∃ x, y = .str x ∧ x ∈ E z, ⟨rfl, Nat.le_refl _, nofun⟩, ?_, ?_⟩
            · rintro j dz acc S6 hdz ⟨rfl, al, ha⟩ _
              obtain ⟨y, hy, rfl⟩ := List.mem_map.mp (List.mem_of_getElem? hdz)
              walk_at "gr"
              refine ve_lc (vi_list ?_)
              walk_at "gr"
              refine ⟨_, .v, by rw [List.length_map]; have := hEl z hz; omega, fun j acc S7 => S7 = S6, rfl, ?_, ?_⟩
              · rintro k dy acc2 S7 hdy rfl _
                obtain ⟨o, ho, rfl⟩ := List.mem_map.mp (List.mem_of_getElem? hdy)
                walk_at "gr"
                refine ve_dget ?_
                walk_at "gr"
                refine ⟨_, .inr o, _, .v, rfl, valD_ou (hE z hz o ho), ?_⟩
                unfold nmD
                refine rv_in (.l .v) rfl (flat_strs _) ?_
                walk_at "gr"
                refine ⟨fun _ => ?_, fun _ => rfl⟩
                walk_at "gr"
                rfl
              · rintro acc2 S7 rfl _
                walk_at "gr"
                refine ve_lst ?_
                walk_at "gr"
                refine ⟨fun _ => ?_, fun _ => ⟨rfl, by omega, ha⟩⟩
                walk_at "gr"
                exact ⟨rfl, by rw [List.length_append]; show acc.length + 1 ≤ _; omega, fun y' hy' => (List.mem_append.mp hy').elim (ha y') fun h => ⟨y, List.mem_singleton.mp h, hy⟩⟩
            · rintro acc S6 ⟨rfl, al, ha⟩ _
              obtain ⟨ms, rfl, hms⟩ := strs_all ha
              rw [List.length_map, List.length_map] at al
              walk_at "gr"
              exact ⟨ms, by have := hEl z hz; omega, hms, w5.mono (by omega), rfl⟩
          · walk_at "gr"
            exact ⟨E z, hEl z hz, fun _ h => h, w5.mono (by omega), rfl⟩
        · rintro _ S5 ⟨ms, m12, hms, w5, rfl⟩
          clear w4'
          unfold nmD
          walk_at "gr"
          refine ve_lst ?_
          walk_at "gr"
          refine ⟨fun hb => ?_, fun _ => ?_⟩
          · have mne : ms ≠ [] := fun z => by rw [z] at hb; cases hb
            have mpos : 0 < ms.length := List.length_pos_iff.mpr mne
            walk_at "gr"
            intro u S6 u0 u1 w6
            clear w5
            refine rv_ixAll (fun x => ∃ y, x = .str y ∧ y ∈ E z) u0 u1 (fun x hx => by
              obtain ⟨y, hy, rfl⟩ := List.mem_map.mp hx
              exact ⟨y, rfl, hms y hy⟩) ?_
            rintro _ ⟨y, rfl, hy⟩
            walk_at "gr"
            have yz : (ys ++ [z]).length ≤ i + 1 := by rw [List.length_append]; show ys.length + 1 ≤ _; omega
            refine rm_append w6.g0 (by have := szl; rw [List.length_append, List.length_map]; show ys.length + 1 < _; omega) ?_
            have w7 := (w6.wr (d' := .lst ((ys ++ [z] ++ [y]).map D.str)) 0 rfl).mono (m := n + 2 + 2 * ((i + 1 : Nat) : Int)) (by omega)
            rw [show (ys ++ [z] ++ [y]).map D.str = ys.map D.str ++ [.str z] ++ [.str y] by rw [List.map_append, List.map_append]; rfl] at w7
            refine ⟨ys ++ [z], y, _, _, pth_snoc hpth hy, fun x hx => ?_, yz, ?_, rfl⟩
            · rcases List.mem_append.mp hx with hx | hx
              · exact hm x hx
              · rw [List.mem_singleton.mp hx]; exact hE z hz y hy
            · rw [show (ys ++ [z] ++ [y]).map D.str = ys.map D.str ++ [.str z] ++ [.str y] by rw [List.map_append, List.map_append]; rfl]
              exact w7
          · walk_at "gr"
            exact ⟨ys, z, _, _, hpth, hm, by omega, by rw [List.map_append]; exact w5.mono (by omega), rfl⟩
      · rintro _ S4 ⟨ys, z, x3, x4, hpth, hm, yl, w4, rfl⟩
        rw [rngD_len] at yl w4
        have c4 := w4.g0
        refine vx_freeze 2 rfl c4 ?_
        walk_at "gr"
        refine q (ys ++ [z]) (VS.del S4 f) ⟨fun h => by simp at h, fun h => absurd h e0⟩ hm hpth (by rw [List.length_append]; show _ + 1 ≤ 13; omega) ((w4.dl 0 rfl).mono (by omega))) only [↓VS.box]
end
end LW
namespace LW
open PySem L2 C8 PySem.Spec PyProof.Rows VS
/-! ### how each lies, by the law's own turns one after another -/
theorem turn_head {sp : Int} {p q : Pc} (gp : p.g) (s0 : 0 ≤ sp) (h : goB sp p q = true) : atI ((turnsL sp p q).map ordD) 0 = some (ordD (wayI sp p q)) := by
  have hL := go_same (q := q) gp s0
  rw [h] at hL
  have hf : ∀ l : List (List Int), (∀ o ∈ l, o ∈ perms) → (l.filter fun o => fitB (tnl p.a p.b p.c o) [q.a - 2 * q.wl - sp, q.b - 2 * q.wl - sp, q.c - 2 * q.wl - sp] 0)[0]? = l.find? fun o => fitB (tnl p.a p.b p.c o) [q.a - 2 * q.wl, q.b - 2 * q.wl, q.c - 2 * q.wl] sp := by
    intro l
    induction l with
    | nil => intro _; rfl
    | cons o l ih =>
      intro hm
      rw [List.filter_cons, List.find?_cons, fit_sp (hm o (List.mem_cons_self ..))]
      cases fitB (tnl p.a p.b p.c o) [q.a - 2 * q.wl, q.b - 2 * q.wl, q.c - 2 * q.wl] sp with
      | true => rfl
      | false => exact ih fun x hx => hm x (List.mem_cons_of_mem _ hx)
  have ht : turnsL sp p q = perms.filter fun o => fitB (tnl p.a p.b p.c o) [q.a - 2 * q.wl - sp, q.b - 2 * q.wl - sp, q.c - 2 * q.wl - sp] 0 := by
    unfold goL at hL
    unfold turnsL at hL ⊢
    by_cases h1 : ("alone" : Str) ∈ p.mk
    · rw [if_pos h1] at hL; cases hL
    rw [if_neg h1] at hL ⊢
    by_cases h2 : ("alone" : Str) ∈ q.mk
    · rw [if_pos h2] at hL; cases hL
    rw [if_neg h2]
  have h0 := hf perms fun o h => h
  rw [← ht] at h0
  have ne : turnsL sp p q ≠ [] := fun z => by unfold goL at hL; rw [z] at hL; cases hL
  obtain ⟨o, r, eo⟩ := List.exists_cons_of_ne_nil ne
  rw [eo] at h0 ⊢
  unfold wayI
  rw [← h0]
  exact atI_nat (j := 0) rfl
def p__law_dues : Pt := fun ds S G _ => ∃ (zs : List Pc) (sp : Int), ds = [.lst (zs.map rwD), .int sp] ∧ zs ≠ [] ∧ Goes sp zs ∧ (∀ z ∈ zs, z.g) ∧ 0 ≤ sp ∧ zs.length ≤ 13 ∧ ∀ S', Ext S S' → G (.lst ((lies sp zs).map ordD)) S'
def p__law_side_by_side : Pt := fun ds S G _ => ∃ (zs : List Pc) (sp : Int), ds = [.lst (zs.map rwD), .lst ((lies sp zs).map ordD), .int sp] ∧ Goes sp zs ∧ (∀ z ∈ zs, z.g) ∧ 0 ≤ sp ∧ zs.length ≤ 13 ∧ G (.bl true) S
section
variable {P : Program} {w : World} {K : PySem.W.Frag} {mg : Str → Option Value} {base : Heap}
theorem ok__law_dues {f : Addr} {fd : FuncData} {C_Sides C_Parcel C_Heap C_Nest C_NoNumber C_NoSide C_NoSides C_NoOrder C_NoParcel C_NotInHeap : Addr} {f__law_turns : Addr} {g__law_turns : FuncData}
    (F : Fd K "_law_dues" "_law_dues" s__law_dues [] f fd) (T : Tx K mg) (hsys : SysOk base)
    (c__law_turns : Cf P w K mg base (L2.CX P w) 2 "_law_turns" s__law_turns [] a__law_turns p__law_turns f__law_turns g__law_turns) :
    FnG P w K mg base (L2.CX P w) 3 f fd a__law_dues (spOf K p__law_dues) := by
  refine VS.unbox ?_
  simp (disch := with_unfolding_all
    refine fn_val F sc__law_dues (fun ds S G Y h => ?_) (fun cdv A hgd outer s H E hr px tk po ds S G Y h => ?_)
    · obtain ⟨zs, sp, rfl, _⟩ := h
      rfl
    · obtain ⟨zs, sp, rfl, zne, hg, gz, s0, z13, q⟩ := h
      refine ⟨_, (pss_cons (ps_set (i := 2) sc__law_dues.nd rfl (Or.inl rfl) (pe_lst (pa_cons (pe_tup (pa_cons pe_int (pa_cons pe_int (pa_cons pe_int pa_nil)))) pa_nil)))
        (pss_cons (ps_for po rfl (pi_range3 (by rfl) T.b_range (pa_cons (pe_op op_sub (pe_callB c_len (by rfl) T.b_len (by decide +kernel) (pa_cons (pv 0) pa_nil)) pe_int) (pa_cons (pe_un un_neg pe_int) (pa_cons (pe_un un_neg pe_int) pa_nil)))) (pg_name (i := 3) sc__law_dues.nd rfl (Or.inl rfl))
        (pss_cons (ps_set (i := 4) sc__law_dues.nd rfl (Or.inr rfl) (pe_ix ix_list (pe_cG c__law_turns.fn hgd (hr.mono (by decide)) (by rfl) c__law_turns.mg c__law_turns.kp c__law_turns.b .nil VS.pass0 (pa_cons (pe_ix ix_list (pv 0) (pv 3) (fun _ _ => rfl)) (pa_cons (pe_ix ix_list (pv 0) (pe_op op_add (pv 3) pe_int) (fun _ _ => rfl)) (pa_cons (pv 1) pa_nil)))) pe_int (fun _ _ => rfl)))
        (pss_one (ps_expr (pe_bm PySem.F.plainAttrs_list PySem.F.slot_list_insert PySem.F.type_list_insert mt_insertV (pv 2) (pa_cons pe_int (pa_cons (pe_callTy c_tuple (by rfl) T.b_tuple (by decide +kernel) (pa_cons (pe_lc (own := [("_law_number", 5)]) rfl sc__law_dues.nd (pi_tup (pe_ix ix_list (pv 2) pe_int (fun _ _ => rfl))) (blkOk_by (own := [("_law_number", 5)]) (N := n__law_dues) (sc := defScope s__law_dues) (by decide +kernel)) (fun _ _ _ _ _ => (pg_name (i := 5) sc__law_dues.nd rfl (Or.inl rfl))) (fun _ _ _ _ _ => pts_nil) (fun _ _ _ _ _ => (pe_ix (kI (K := K) (r := rIxT) ix_tup) (pv 4) (pv 5) (fun _ _ => rfl)))) pa_nil)) pa_nil)))))))
        (pss_one (ps_ret (pv 2))))), ?_⟩
      (try dsimp only [cxOf, List.map])
      show VX _ _ [_, _, _, _, _, _] _ _
      have lz : (zs.map rwD).length = zs.length := List.length_map ..
      have lne : 0 < zs.length := List.length_pos_iff.mpr zne
      walk_at "gr"
      refine ve_lstc ?_
      walk_at "gr"
      intro f hf
      have cf : (VS.put S f (.lst [.tup [.int 0, .int 1, .int 2]])) f = some (.lst ((lies sp (zs.drop (zs.length - 1 - 0))).map ordD)) := by
        have e1 : zs.drop (zs.length - 1) = zs[zs.length - 1] :: zs.drop (zs.length - 1 + 1) := List.drop_eq_getElem_cons (by omega)
        rw [put_same, Nat.sub_zero, e1, List.drop_eq_nil_of_le (by omega)]
        rfl
      have x1 := Ext.put (S := S) (d := .lst [.tup [.int 0, .int 1, .int 2]]) hf
      generalize VS.put S f (.lst [.tup [.int 0, .int 1, .int 2]]) = S1 at cf x1 ⊢
      walk_at "gr"
      refine vx_for (vi_rngDn ?_)
      walk_at "gr"
      refine ⟨_, _, rfl, by rw [lz]; omega, fun i ρ2 S2 => S2 f = some (.lst ((lies sp (zs.drop (zs.length - 1 - i))).map ordD)) ∧ Ext S S2 ∧ ∃ x3 x4, ρ2 = [some (.lst (zs.map rwD)), some (.int sp), some (.ref f), x3, x4, none], ⟨cf, x1, none, none, rfl⟩, ?_, ?_⟩
      · rintro i d _ S2 hd ⟨c2, x2, x3, x4, rfl⟩
        obtain ⟨il, rfl⟩ := rngC_get hd
        rw [lz] at il
        have il' : i < zs.length - 1 := by omega
        obtain ⟨k, hk⟩ : ∃ k, k = zs.length - 2 - i := ⟨_, rfl⟩
        have ek : ((zs.length : Nat) : Int) - 2 + (i : Nat) * -1 = (k : Nat) := by omega
        rw [lz, ek]
        have ek2 : zs.length - 1 - (i + 1) = k := by omega
        rw [show zs.length - 1 - i = k + 1 by omega] at c2
        have kl : k + 1 < zs.length := by omega
        have e1 : zs[k]? = some zs[k] := List.getElem?_eq_getElem (by omega)
        have e2 : zs[k + 1]? = some zs[k + 1] := List.getElem?_eq_getElem kl
        have d1 : zs.drop k = zs[k] :: zs.drop (k + 1) := List.drop_eq_getElem_cons (by omega)
        have d2 : zs.drop (k + 1) = zs[k + 1] :: zs.drop (k + 1 + 1) := List.drop_eq_getElem_cons kl
        obtain ⟨g1, -⟩ := ways_at hg e1 e2
        have gp := gz _ (List.mem_of_getElem? e1)
        have gq := gz _ (List.mem_of_getElem? e2)
        have r1 : atI (zs.map rwD) ((k : Nat) : Int) = some (rwD zs[k]) := atI_nat (by rw [List.getElem?_map, e1]; rfl)
        have r2 : atI (zs.map rwD) ((k : Nat) + 1 : Int) = some (rwD zs[k + 1]) := atI_nat (j := k + 1) (by rw [List.getElem?_map, e2]; rfl)
        have lp : lieI (waysI sp (zs.drop (k + 1))) ∈ perms := by
          rw [← ways_drop]
          exact lieI_perm fun t ht => way_perm hg gz s0 t (List.mem_of_mem_drop ht)
        have wp : wayI sp zs[k] zs[k + 1] ∈ perms := (way_go gp s0 g1).2.1
        have th := turn_head gp s0 g1
        have el : lies sp (zs.drop k) = ((lieI (waysI sp (zs.drop (k + 1)))).map fun n => (wayI sp zs[k] zs[k + 1]).getD n.toNat 0) :: lies sp (zs.drop (k + 1)) := by
          rw [d1, d2]
          rfl
        have c0 : atI ((lies sp (zs.drop (k + 1))).map ordD) 0 = some (ordD (lieI (waysI sp (zs.drop (k + 1))))) := by
          rw [d2]
          exact atI_zero
        have c2l : ((lies sp (zs.drop (k + 1))).map ordD).length ≤ 13 := by
          rw [List.length_map, lies_len, List.length_drop]
          omega
        generalize zs[k] = p at gp g1 r1 wp th el
        generalize zs[k + 1] = r at gq g1 r2 wp th el
        generalize wayI sp p r = t at wp th el
        generalize lieI (waysI sp (zs.drop (k + 1))) = o at lp c0 el
        generalize lies sp (zs.drop (k + 1)) = os at c0 c2 c2l el
        have ol : o.length ≤ 3 := by
          have h : ∀ o ∈ perms, o.length ≤ 3 := by decide
          exact h o lp
        walk_at "gr"
        refine rv_ixL .v r1 ?_
        walk_at "gr"
        refine rv_ixL .v r2 ?_
        walk_at "gr"
        refine ⟨p, r, sp, rfl, gp, gq, ?_⟩
        walk_at "gr"
        refine rv_ixL .v th ?_
        walk_at "gr"
        refine ve_lcM (trF t) (vi_tup ?_)
        walk_at "gr"
        refine rv_ixL (.c c2) c0 ?_
        unfold ordD
        refine ⟨_, rfl, by rw [List.length_map]; omega, fun d hd => ?_, ?_⟩
        · obtain ⟨n, hn, rfl⟩ := List.mem_map.mp hd
          obtain ⟨n0, n2⟩ := perm_in lp n hn
          walk_at "gr"
          refine ⟨rfl, ?_⟩
          walk_at "gr"
          exact rv_ixT (ord_at wp n0 n2) ⟨rfl, rfl⟩
        walk_at "gr"
        refine rm_insert (n := 0) c2 rfl (Nat.zero_le _) (by have := szl; omega) ?_
        have em : (o.map D.int).map (trF t) = (o.map fun n => t.getD n.toNat 0).map D.int := by
          rw [List.map_map, List.map_map]
          rfl
        refine ⟨?_, x2.wr hf, _, _, rfl⟩
        rw [put_same, ek2, el, em]
        rfl
      · rintro _ S2 ⟨c2, x2, x3, x4, rfl⟩
        rw [rngC_len, lz, show zs.length - 1 - ((zs.length : Int) - 2 - -1).toNat = 0 by omega, List.drop_zero] at c2
        refine vx_freeze 2 rfl c2 ?_
        walk_at "gr"
        refine q _ fun a d ha => ?_
        rw [VS.del_ne (fun z => by rw [z, hf] at ha; cases ha)]
        exact x2 a d ha) only [↓VS.box]
theorem ok__law_side_by_side {f : Addr} {fd : FuncData} {C_Sides C_Parcel C_Heap C_Nest C_NoNumber C_NoSide C_NoSides C_NoOrder C_NoParcel C_NotInHeap : Addr}
    (F : Fd K "_law_side_by_side" "_law_side_by_side" s__law_side_by_side [] f fd) (T : Tx K mg) (hsys : SysOk base) :
    FnG P w K mg base (L2.CX P w) 1 f fd a__law_side_by_side (spOf K p__law_side_by_side) := by
  refine VS.unbox ?_
  simp (disch := with_unfolding_all
    refine fn_val F sc__law_side_by_side (fun ds S G Y h => ?_) (fun cdv A hgd outer s H E hr px tk po ds S G Y h => ?_)
    · obtain ⟨zs, sp, rfl, _⟩ := h
      rfl
    · obtain ⟨zs, sp, rfl, hg, gz, s0, z13, q⟩ := h
      refine ⟨_, (pss_cons (ps_for po rfl (pi_range1 (by rfl) T.b_range (pa_cons (pe_callB c_len (by rfl) T.b_len (by decide +kernel) (pa_cons (pv 0) pa_nil)) pa_nil)) (pg_name (i := 3) sc__law_side_by_side.nd rfl (Or.inl rfl))
        (pss_one (ps_for po rfl (pi_range2 (by rfl) T.b_range (pa_cons (pe_op op_add (pv 3) pe_int) (pa_cons (pe_callB c_len (by rfl) T.b_len (by decide +kernel) (pa_cons (pv 0) pa_nil)) pa_nil))) (pg_name (i := 4) sc__law_side_by_side.nd rfl (Or.inl rfl))
        (pss_one (ps_for po rfl (pi_range1 (by rfl) T.b_range (pa_cons pe_int pa_nil)) (pg_name (i := 5) sc__law_side_by_side.nd rfl (Or.inl rfl))
        (pss_cons (ps_set (i := 6) sc__law_side_by_side.nd rfl (Or.inl rfl) (pe_op op_add (pe_ix ix_list (pe_ix ix_list (pe_ix ix_list (pv 0) (pv 3) (fun _ _ => rfl)) pe_int (fun _ _ => rfl)) (pe_ix ix_tup (pe_ix ix_list (pv 1) (pv 3) (fun _ _ => rfl)) (pv 5) (fun _ _ => rfl)) (fun _ _ => rfl)) (pv 2)))
        (pss_cons (ps_set (i := 7) sc__law_side_by_side.nd rfl (Or.inl rfl) (pe_ix ix_list (pe_ix ix_list (pe_ix ix_list (pv 0) (pv 4) (fun _ _ => rfl)) pe_int (fun _ _ => rfl)) (pe_ix ix_tup (pe_ix ix_list (pv 1) (pv 4) (fun _ _ => rfl)) (pv 5) (fun _ _ => rfl)) (fun _ _ => rfl)))
        (pss_one (ps_if (pt_cmpR op_gt (pe_op op_add (pv 6) (pe_op op_mulW pe_int (pe_ix ix_list (pe_ix ix_list (pv 0) (pv 4) (fun _ _ => rfl)) pe_int (fun _ _ => rfl)))) (pv 7) (nomark _)) (pss_one (ps_ret pe_bl))
        pss_nil)))))))))
        (pss_one (ps_ret pe_bl))), ?_⟩
      (try dsimp only [cxOf, List.map])
      show VX _ _ [_, _, _, _, _, _, _, _] _ _
      have lz : (zs.map rwD).length = zs.length := List.length_map ..
      walk_at "gr"
      refine vx_for (vi_rng1 ?_)
      walk_at "gr"
      refine ⟨_, rfl, by rw [lz]; omega, fun i ρ2 S2 => S2 = S ∧ ∃ x3 x4 x5 x6 x7, ρ2 = [some (.lst (zs.map rwD)), some (.lst ((lies sp zs).map ordD)), some (.int sp), x3, x4, x5, x6, x7], ⟨rfl, none, none, none, none, none, rfl⟩, ?_, ?_⟩
      · rintro i d _ S2 hd ⟨rfl, x3, x4, x5, x6, x7, rfl⟩
        obtain ⟨il, rfl⟩ := rngD_get hd
        rw [lz] at il
        have il' : i < zs.length := by omega
        have ll : ((lies sp zs).map ordD).length = zs.length := by rw [List.length_map, lies_len]
        rw [show (0 : Int) + (i : Nat) = (i : Nat) by omega]
        have e1 : zs[i]? = some zs[i] := List.getElem?_eq_getElem il'
        have r1 : atI (zs.map rwD) ((i : Nat) : Int) = some (rwD zs[i]) := atI_nat (by rw [List.getElem?_map, e1]; rfl)
        have o1 : atI ((lies sp zs).map ordD) ((i : Nat) : Int) = some (ordD (lieI (waysI sp (zs.drop i)))) := atI_nat (by rw [List.getElem?_map, lies_at il']; rfl)
        walk_at "gr"
        refine vx_for (vi_rng2 ?_)
        walk_at "gr"
        refine ⟨_, _, rfl, by rw [lz]; omega, fun j ρ2 S3 => S3 = S2 ∧ ∃ x4 x5 x6 x7, ρ2 = [some (.lst (zs.map rwD)), some (.lst ((lies sp zs).map ordD)), some (.int sp), some (.int (i : Nat)), x4, x5, x6, x7], ⟨rfl, x4, x5, x6, x7, rfl⟩, ?_, ?_⟩
        · rintro j d _ S3 hd ⟨rfl, y4, y5, y6, y7, rfl⟩
          obtain ⟨jl, rfl⟩ := rngD_get hd
          rw [lz] at jl
          obtain ⟨m, hm⟩ : ∃ m, m = i + 1 + j := ⟨_, rfl⟩
          have ml : m < zs.length := by omega
          rw [show ((i : Nat) : Int) + 1 + (j : Nat) = (m : Nat) by omega]
          have e2 : zs[m]? = some zs[m] := List.getElem?_eq_getElem ml
          have r2 : atI (zs.map rwD) ((m : Nat) : Int) = some (rwD zs[m]) := atI_nat (by rw [List.getElem?_map, e2]; rfl)
          have o2 : atI ((lies sp zs).map ordD) ((m : Nat) : Int) = some (ordD (lieI (waysI sp (zs.drop m)))) := atI_nat (by rw [List.getElem?_map, lies_at ml]; rfl)
          have key := fun a => lie_all (a := a) s0 hg gz i m zs[i] zs[m] (by omega) e1 e2
          have lp : ∀ k, lieI (waysI sp (zs.drop k)) ∈ perms := fun k => by
            rw [← ways_drop]
            exact lieI_perm fun t ht => way_perm hg gz s0 t (List.mem_of_mem_drop ht)
          have lp1 := lp i
          have lp2 := lp m
          have gw := (gz _ (List.mem_of_getElem? e2)).wl
          generalize zs[i] = p at r1 key
          generalize zs[m] = r at r2 key gw
          generalize lieI (waysI sp (zs.drop i)) = o at o1 key lp1
          generalize lieI (waysI sp (zs.drop m)) = u at o2 key lp2
          walk_at "gr"
          refine vx_for (vi_rng1 ?_)
          walk_at "gr"
          refine ⟨_, rfl, by decide, fun a ρ2 S4 => S4 = S3 ∧ ∃ x5 x6 x7, ρ2 = [some (.lst (zs.map rwD)), some (.lst ((lies sp zs).map ordD)), some (.int sp), some (.int (i : Nat)), some (.int (m : Nat)), x5, x6, x7], ⟨rfl, y5, y6, y7, rfl⟩, ?_, ?_⟩
          · rintro a d _ S4 hd ⟨rfl, z5, z6, z7, rfl⟩
            obtain ⟨al, rfl⟩ := rngD_get hd
            have al : a < 3 := al
            have al2 : (a : Int) < 3 := by omega
            rw [show (0 : Int) + (a : Nat) = (a : Nat) by omega]
            have kk := key a al
            have g1 : atI (o.map D.int) ((a : Nat) : Int) = some (.int (o.getD a 0)) := by
              have := ord_at lp1 (n := (a : Nat)) (by omega) (by omega)
              rwa [Int.toNat_natCast] at this
            have g2 : atI (u.map D.int) ((a : Nat) : Int) = some (.int (u.getD a 0)) := by
              have := ord_at lp2 (n := (a : Nat)) (by omega) (by omega)
              rwa [Int.toNat_natCast] at this
            have b1 : 0 ≤ o.getD a 0 ∧ o.getD a 0 < 3 := by
              have h : ∀ o ∈ perms, ∀ a ∈ [0, 1, 2], (0 : Int) ≤ o.getD a 0 ∧ o.getD a 0 < 3 := by decide
              exact h o lp1 a (by simp; omega)
            have b2 : 0 ≤ u.getD a 0 ∧ u.getD a 0 < 3 := by
              have h : ∀ o ∈ perms, ∀ a ∈ [0, 1, 2], (0 : Int) ≤ o.getD a 0 ∧ o.getD a 0 < 3 := by decide
              exact h u lp2 a (by simp; omega)
            walk_at "gr"
            refine rv_ixL .v r1 ?_
            have er : ∀ x, rwD x = .lst [.str x.nm, li x.a x.b x.c, .int x.wl, .int x.wt, .int x.br, .lst (x.mk.map D.str)] := fun _ => rfl
            rw [er p]
            walk_at "gr"
            refine rv_ixL .v o1 ?_
            unfold ordD
            walk_at "gr"
            refine rv_ixT g1 ?_
            refine rv_ixL .v (li_tn b1.1 b1.2) ?_
            walk_at "gr"
            refine rv_ixL .v r2 ?_
            rw [er r]
            walk_at "gr"
            refine rv_ixL .v o2 ?_
            unfold ordD
            walk_at "gr"
            refine rv_ixT g2 ?_
            refine rv_ixL .v (li_tn b2.1 b2.2) ?_
            walk_at "gr"
            refine rv_ixL .v r2 ?_
            rw [er r]
            have gw1 := gw.1
            have gw2 := gw.2
            walk_at "gr"
            refine ⟨fun z => ?_, fun _ => ?_⟩
            · have z := of_decide_eq_true z
              have kk : tn p.a p.b p.c (o.getD a 0) + sp + 2 * r.wl ≤ tn r.a r.b r.c (u.getD a 0) := kk
              omega
            · walk_at "gr"
              exact ⟨rfl, _, _, _, rfl⟩
          · rintro _ S4 ⟨rfl, z5, z6, z7, rfl⟩
            exact ⟨rfl, _, _, _, _, rfl⟩
        · rintro _ S3 ⟨rfl, y4, y5, y6, y7, rfl⟩
          exact ⟨rfl, _, _, _, _, _, rfl⟩
      · rintro _ S2 ⟨rfl, x3, x4, x5, x6, x7, rfl⟩
        walk_at "gr"
        exact q) only [↓VS.box]
end
end LW
namespace LW
open PySem L2 C8 PySem.Spec PyProof.Rows VS
/-! ### the names in a drawn order -/
def natD (k : Nat) : D := .int (k : Nat)
theorem er_map {α β : Type} (f : α → β) : ∀ (ls : List α) (j : Nat), (ls.map f).eraseIdx j = (ls.eraseIdx j).map f
  | [], _ => rfl
  | _ :: _, 0 => rfl
  | x :: ls, j + 1 => congrArg (f x :: ·) (er_map f ls j)
theorem er_perm {α : Type} : ∀ (ls : List α) (j : Nat) (h : j < ls.length), (ls[j] :: ls.eraseIdx j).Perm ls
  | x :: ls, 0, _ => .refl _
  | x :: ls, j + 1, h => ((List.Perm.swap x (ls[j]'(Nat.lt_of_succ_lt_succ h)) (ls.eraseIdx j)).trans ((er_perm ls j (Nat.lt_of_succ_lt_succ h)).cons x))
def p__law_drawn_order : Pt := fun ds S G _ => ∃ (p : Addr) (n : Int) (m : Nat) (L : List (Addr × D)), ds = [.ref p, .int (m : Nat)] ∧ Wd S p n L ∧ n < 800000 ∧ m ≤ 13 ∧
  ∀ (ks : List Nat) (S' : Sto), ks.Perm (List.range m) → Wd S' p (n + 13) L → G (.lst (ks.map natD)) S'
/-! ### what is no name of a nest is refused -/
/-- odd things -/
inductive Odn (CS : Addr) (zs : List Pc) (S : Sto) : D → Prop
  | l {l : Addr} {z : Str} (h : S l = some (.lst [.str z])) (a : Asc 19 z) : Odn CS zs S (.ref l)
  | s {z : Str} (h : z ∉ zs.map Pc.nm) (sh : Sh (.str z) 400 2) : Odn CS zs S (.str z)
  | d {d : D} (p : isP d = true) (ks : isK "str" d = false) (kl : isK "list" d = false) (sh : Sh d 400 2) : Odn CS zs S d
  | o : Odn CS zs S (sd CS 1 2 3)
def p__law_refused (CN CP CS : Addr) : Pt := fun ds S G _ => ∃ (zs : List Pc) (sp : Int) (d : D), ds = [nsD CN CP CS sp zs, d] ∧ zs.length ≤ 12 ∧ (zs.map Pc.nm).Nodup ∧ Goes sp zs ∧ (∀ z ∈ zs, z.g) ∧ 0 ≤ sp ∧ Odn CS zs S d ∧ ∀ S', (∀ a, d ≠ .ref a → S' a = S a) → G (.bl true) S'
section
variable {P : Program} {w : World} {K : PySem.W.Frag} {mg : Str → Option Value} {base : Heap}
theorem ok__law_drawn_order {f : Addr} {fd : FuncData} {C_Sides C_Parcel C_Heap C_Nest C_NoNumber C_NoSide C_NoSides C_NoOrder C_NoParcel C_NotInHeap : Addr} {f__law_take : Addr} {g__law_take : FuncData}
    (F : Fd K "_law_drawn_order" "_law_drawn_order" s__law_drawn_order [] f fd) (T : Tx K mg) (hsys : SysOk base)
    (c__law_take : Cf P w K mg base (L2.CX P w) 1 "_law_take" s__law_take [] a__law_take p__law_take f__law_take g__law_take) :
    FnG P w K mg base (L2.CX P w) 2 f fd a__law_drawn_order (spOf K p__law_drawn_order) := by
  refine VS.unbox ?_
  simp (disch := with_unfolding_all
    refine fn_val F sc__law_drawn_order (fun ds S G Y h => ?_) (fun cdv A hgd outer s H E hr px tk po ds S G Y h => ?_)
    · obtain ⟨p, n, m, L, rfl, _⟩ := h
      rfl
    · obtain ⟨p, n, m, L, rfl, hp, hn, m13, q⟩ := h
      refine ⟨_, (pss_cons (ps_set (i := 2) sc__law_drawn_order.nd rfl (Or.inl rfl) (pe_listRg (by rfl) (by rfl) T.b_list (prg_1 (by rfl) T.b_range (pv 1))))
        (pss_cons (ps_set (i := 3) sc__law_drawn_order.nd rfl (Or.inl rfl) (pe_lst pa_nil))
        (pss_cons (ps_while po (pt_cmpR (op_neE hr) (pv 2) (pe_lst pa_nil) (nomark _)) (pss_one (ps_expr (pe_bm PySem.F.plainAttrs_list PySem.F.slot_list_append PySem.F.type_list_append mt_append (pv 3) (pa_cons (pe_bm PySem.F.plainAttrs_list PySem.F.slot_list_pop PySem.F.type_list_pop mt_popAt (pv 2) (pa_cons (pe_cG c__law_take.fn hgd (hr.mono (by decide)) (by rfl) c__law_take.mg c__law_take.kp c__law_take.b .nil VS.pass0 (pa_cons (pv 0) (pa_cons (pe_callB c_len (by rfl) T.b_len (by decide +kernel) (pa_cons (pv 2) pa_nil)) pa_nil))) pa_nil)) pa_nil)))))
        (pss_one (ps_ret (pv 3)))))), ?_⟩
      (try dsimp only [cxOf, List.map])
      show VX _ _ [_, _, _, _] _ _
      walk_at "gr"
      refine ve_listRgc ?_
      walk_at "gr"
      refine ⟨by omega, by omega, fun l hl => ?_⟩
      have er : rngD 0 ((m : Int).toNat) = (List.range m).map natD := by
        unfold rngD
        rw [Int.toNat_natCast]
        refine List.map_congr_left fun i _ => ?_
        show D.int (0 + (i : Nat)) = _
        rw [Int.zero_add]
        rfl
      rw [er]
      have w1 := hp.new (d := .lst ((List.range m).map natD)) hl
      generalize VS.put S l (.lst ((List.range m).map natD)) = S1 at w1 ⊢
      clear hp
      walk_at "gr"
      refine ve_lstc ?_
      walk_at "gr"
      intro f hf
      have w2 := w1.new (d := .lst []) hf
      generalize VS.put S1 f (.lst []) = S2 at w2 ⊢
      clear w1
      walk_at "gr"
      refine vx_while (fun k ρ2 S3 => ∃ fs ls : List Nat, ls.length = k ∧ (fs ++ ls).Perm (List.range m) ∧ Wd S3 p (n + (fs.length : Nat)) ((f, .lst (fs.map natD)) :: (l, .lst (ls.map natD)) :: L) ∧ ρ2 = [some (.ref p), some (.int (m : Nat)), some (.ref l), some (.ref f)]) m ⟨[], List.range m, List.length_range, .refl _, w2.mono (by simp), rfl⟩ ?_
      rintro k _ S3 ⟨fs, ls, lk, pm, w3, rfl⟩
      clear w2
      have pl := pm.length_eq
      rw [List.length_append, List.length_range] at pl
      walk_at "gr"
      refine ve_lst ?_
      walk_at "gr"
      refine rv_neEL (.c w3.g1) ?_
      refine ⟨_, rfl, fun hb => ?_, fun hb => ?_⟩
      · have lne : ls ≠ [] := fun z => by rw [z] at hb; cases hb
        have lpos : 0 < ls.length := List.length_pos_iff.mpr lne
        walk_at "gr"
        intro u S4 u0 u1 w4
        clear w3
        have u1 : u < ((ls.map natD).length : Nat) := u1
        rw [List.length_map] at u1
        obtain ⟨j, rfl⟩ : ∃ j : Nat, u = (j : Nat) := ⟨u.toNat, by omega⟩
        have jl : j < ls.length := by omega
        have j62 : j < 2 ^ 62 := by
          have : (13 : Nat) < 2 ^ 62 := by decide
          omega
        walk_at "gr"
        refine rm_popAt w4.g1 rfl j62 (d := natD ls[j]) (by rw [List.getElem?_map, List.getElem?_eq_getElem jl]; rfl) ?_
        have w5 := w4.wr (d' := .lst ((ls.eraseIdx j).map natD)) 1 rfl
        have ee : (ls.map natD).eraseIdx j = (ls.eraseIdx j).map natD := er_map natD ls j
        rw [ee]
        generalize VS.put S4 l (.lst ((ls.eraseIdx j).map natD)) = S5 at w5 ⊢
        clear w4
        have w6 : Wd S5 p (n + (fs.length : Nat) + 1) ((f, .lst (fs.map natD)) :: (l, .lst ((ls.eraseIdx j).map natD)) :: L) := w5
        clear w5
        walk_at "gr"
        refine rm_append w6.g0 (by have := szl; rw [List.length_map]; omega) ?_
        have w7 := (w6.wr (d' := .lst ((fs ++ [ls[j]]).map natD)) 0 rfl)
        have ea : fs.map natD ++ [natD ls[j]] = (fs ++ [ls[j]]).map natD := by rw [List.map_append]; rfl
        rw [ea]
        generalize VS.put S5 f (.lst ((fs ++ [ls[j]]).map natD)) = S6 at w7 ⊢
        refine ⟨(ls.eraseIdx j).length, by rw [List.length_eraseIdx_of_lt jl]; omega, fs ++ [ls[j]], ls.eraseIdx j, rfl, ?_, w7.mono (by rw [List.length_append]; show _ ≤ n + ((fs.length + 1 : Nat) : Int); omega), rfl⟩
        refine List.Perm.trans ?_ pm
        rw [List.append_assoc]
        exact List.Perm.append_left _ (er_perm ls j jl)
      · have lnil : ls = [] := by
          cases ls with
          | nil => rfl
          | cons x r => cases hb
        subst lnil
        rw [List.append_nil] at pm
        refine vx_freeze 3 rfl w3.g0 ?_
        walk_at "gr"
        exact q fs _ pm (((w3.dl 0 rfl).tl).mono (by omega))) only [↓VS.box]
theorem ok__law_refused {f : Addr} {fd : FuncData} {C_Sides C_Parcel C_Heap C_Nest C_NoNumber C_NoSide C_NoSides C_NoOrder C_NoParcel C_NotInHeap : Addr} {f_Nest_lies f_Sides___repr__ : Addr} {g_Nest_lies g_Sides___repr__ : FuncData}
    (F : Fd K "_law_refused" "_law_refused" s__law_refused [] f fd) (T : Tx K mg) (hsys : SysOk base)
    (c_Nest_lies : Mf P w K mg base 3 C_Nest "lies" "Nest.lies" s_Nest_lies [] a_Nest_lies (p_Ns_lies K C_Nest C_Parcel C_Sides C_NotInHeap) f_Nest_lies g_Nest_lies)
    (c_Sides___repr__ : Mf P w K mg base 1 C_Sides "__repr__" "Sides.__repr__" s_Sides___repr__ [] a_Sides___repr__ (p_repr C_Sides) f_Sides___repr__ g_Sides___repr__)
    (x_NotInHeap : Xc P w K mg base "NotInHeap" C_NotInHeap "found")
    (k_Nest : Kl_Nest K mg C_Nest)
    (k_Heap : Kl_Heap K mg C_Heap)
    (k_Parcel : Kl_Parcel K mg C_Parcel)
    (k_Sides : Kl_Sides K mg C_Sides) :
    FnG P w K mg base (L2.CX P w) 4 f fd a__law_refused (spOf K (p__law_refused C_Nest C_Parcel C_Sides)) := by
  refine VS.unbox ?_
  simp (disch := with_unfolding_all
    have kc_Nest := k_Nest.ins.cl
    have ka_Nest_layers := k_Nest.a_layers
    have ka_Nest_ways := k_Nest.a_ways
    have kc_Heap := k_Heap.ins.cl
    have ka_Heap_held := k_Heap.a_held
    have ka_Heap_told := k_Heap.a_told
    have ka_Heap_kind := k_Heap.a_kind
    have kc_Parcel := k_Parcel.ins.cl
    have ka_Parcel_called := k_Parcel.a_called
    have ka_Parcel_outside := k_Parcel.a_outside
    have ka_Parcel_thick := k_Parcel.a_thick
    have ka_Parcel_heavy := k_Parcel.a_heavy
    have ka_Parcel_strong := k_Parcel.a_strong
    have ka_Parcel_marks := k_Parcel.a_marks
    have ka_Parcel_told := k_Parcel.a_told
    have ka_Parcel_names := k_Parcel.a_names
    have kc_Sides := k_Sides.ins.cl
    have ka_Sides_three := k_Sides.a_three
    have e_NotInHeap_NotInHeap := T.e_NotInHeap_NotInHeap _ _ x_NotInHeap.at_ x_NotInHeap.at_
    refine fn_val F sc__law_refused (fun ds S G Y h => ?_) (fun cdv A hgd outer s H E hr px tk po ds S G Y h => ?_)
    · obtain ⟨zs, sp, d, rfl, _⟩ := h
      rfl
    · obtain ⟨zs, sp, d, rfl, z12, nd, hg, gz, s0, hd, q⟩ := h
      refine ⟨_, (pss_cons (ps_tryD rfl rfl sc__law_refused.nd (fun W pn xe tk po => have px := passS_of tk; (pss_cons (ps_expr (pe_mG (pv 0) c_Nest_lies.cl c_Nest_lies.me c_Nest_lies.fn hgd (hr.mono (by decide)) c_Nest_lies.b .nil px (pa_cons (pv 1) pa_nil)))
        (pss_one (ps_ret pe_bl)))) (.named (i := 2) ⟨by rfl, by decide, .inl x_NotInHeap.at_⟩ rfl rfl (fun a oe cls d pn hz hf => (pss_one (ps_set (i := 3) sc__law_refused.nd rfl (Or.inl rfl) (pe_xf x_NotInHeap.xf x_NotInHeap.no hz hf (pv 2))))) .rest))
        (pss_cons (ps_if (pt_val (pe_callB c_isiZ (by rfl) T.b_isinstance (by decide +kernel) (pa_cons (pv 1) (pa_cons (pe_bltn (v := .ty "list") (by rfl) T.b_list (by decide +kernel) rfl) pa_nil)))) (pss_one (ps_expr (pe_bm PySem.F.plainAttrs_list PySem.F.slot_list_append PySem.F.type_list_append mt_append (pv 1) (pa_cons pe_int pa_nil))))
        pss_nil)
        (pss_one (ps_ret (pe_cmpR op_eq (pe_callB (c_reprB c_Sides___repr__.fn hgd (hr.mono (by decide)) c_Sides___repr__.me.at_ c_Sides___repr__.me.fn c_Sides___repr__.b hsys) (by rfl) T.b_repr (by decide +kernel) (pa_cons (pv 3) pa_nil)) (pe_callB (c_reprB c_Sides___repr__.fn hgd (hr.mono (by decide)) c_Sides___repr__.me.at_ c_Sides___repr__.me.fn c_Sides___repr__.b hsys) (by rfl) T.b_repr (by decide +kernel) (pa_cons (pv 1) pa_nil)) (nomark _)))))), ?_⟩
      (try dsimp only [cxOf, List.map])
      show VX _ _ [_, _, _, _] _ _
      have nn : NoN K S zs d := by
        cases hd with
        | l h a => exact .d (.c h rfl) rfl
        | s h sh => exact .s h
        | d p ks kl sh => exact .d (.v p) ks
        | o => exact .o .v k_Sides.ins k_Sides.u_str
      walk_at "gr"
      refine ⟨zs, sp, d, rfl, z12, nd, hg, gz, s0, .inr ⟨nn, hd_hit e_NotInHeap_NotInHeap fun ax dd => ?_⟩⟩
      walk_at "gr"
      show VX _ _ [some (nsD C_Nest C_Parcel C_Sides sp zs), some d, none, some d] S _
      cases hd with
      | @l l z hl a =>
        walk_at "gr"
        refine rc_isi (N := "list") (b := true) (.cl hl) (by decide +kernel) ?_
        walk_at "gr"
        refine rm_append hl (by have := szl; show 1 < _; omega) ?_
        have sh : Ok (.lst [.str z, .int 6]) 1000 4 := Ok.mono (Ok.lst 2 (all2 (ok_strB a (by decide)) (ok_int (by omega))) (Nat.le_refl 2) (by decide)) (by decide) (by decide)
        have cl : (VS.put S l (.lst ([.str z] ++ [.int 6]))) l = some (.lst [.str z, .int 6]) := put_same
        have off : ∀ a, (D.ref l) ≠ .ref a → (VS.put S l (.lst ([.str z] ++ [.int 6]))) a = S a := fun a n => put_ne fun e => n (by rw [e])
        generalize VS.put S l (.lst ([.str z] ++ [.int 6])) = S1 at cl off ⊢
        walk_at "gr"
        refine rc_reprD (rc_reprS (.c cl nofun) sh.sh (by decide) (by decide) ?_)
        walk_at "gr"
        refine rc_reprD (rc_reprS (.c cl nofun) sh.sh (by decide) (by decide) ?_)
        exact rv_eqSame (q S1 off)
      | @s z h sh =>
        walk_at "gr"
        refine rc_reprD (rc_reprS .v sh (by decide) (by decide) ?_)
        walk_at "gr"
        refine rc_reprD (rc_reprS .v sh (by decide) (by decide) ?_)
        exact rv_eqSame (q S fun _ _ => rfl)
      | d pp ks kl sh =>
        walk_at "gr"
        refine rc_isiD (.v pp) (isK_list pp) ?_
        rw [kl]
        walk_at "gr"
        refine rc_reprD (rc_reprS .v sh (by decide) (by decide) ?_)
        walk_at "gr"
        refine rc_reprD (rc_reprS .v sh (by decide) (by decide) ?_)
        exact rv_eqSame (q S fun _ _ => rfl)
      | o =>
        walk_at "gr"
        refine rc_isiP (.i .v k_Sides.ins) k_Sides.u_list ?_
        walk_at "gr"
        refine rc_reprO .v ⟨1, 2, 3, rfl, by unfold In1; decide, by unfold In1; decide, by unfold In1; decide, _, rfl, ?_⟩
        walk_at "gr"
        refine rc_reprO .v ⟨1, 2, 3, rfl, by unfold In1; decide, by unfold In1; decide, by unfold In1; decide, _, rfl, ?_⟩
        exact rv_eqSame (q S fun _ _ => rfl)) only [↓VS.box]
end
end LW
namespace LW
open PySem L2 C8 PySem.Spec PyProof.Rows VS
/-! ### whether a nest tells of each name how it lies -/
def p__law_right (CN CP CS : Addr) : Pt := fun ds S G _ => ∃ (p : Addr) (n : Int) (L : List (Addr × D)) (zs : List Pc) (sp : Int), ds = [.ref p, nsD CN CP CS sp zs, .lst (zs.map rwD), .int sp] ∧ Wd S p n L ∧ n < 800000 ∧ zs ≠ [] ∧ zs.length ≤ 12 ∧ (zs.map Pc.nm).Nodup ∧ Goes sp zs ∧ (∀ z ∈ zs, z.g) ∧ 0 ≤ sp ∧ ∀ S', Wd S' p (n + 13) L → G (.bl true) S'
def p__law_strange (CS : Addr) : Pt := fun ds S G _ => ∃ (p : Addr) (n : Int) (L : List (Addr × D)) (rs zs : List Pc), ds = [.ref p, .lst (rs.map rwD), .lst (zs.map rwD)] ∧ Wd S p n L ∧ n < 800000 ∧ Hrs rs ∧ (∀ z ∈ zs, z ∈ rs) ∧ zs ≠ [] ∧ zs.length ≤ 12 ∧
  ∀ d S' M, Odn CS zs S' d → (∀ l, d = .ref l → ∃ v, M = [(l, v)]) → Wd S' p (n + 3) (M ++ L) → G d S'
/-- how far the names are asked -/
def fndD (os : List (List Int)) (ks : List Nat) : List D := (List.range os.length).map fun j => if j ∈ ks then ordD (os.getD j []) else .non
theorem fnd_nil (os : List (List Int)) : fndD os [] = (List.range os.length).map fun _ => D.non := by
  unfold fndD
  refine List.map_congr_left fun j _ => ?_
  rw [if_neg (by simp)]
theorem fnd_set (os : List (List Int)) (ks : List Nat) (k : Nat) (h : k < os.length) : (fndD os ks).set k (ordD (os.getD k [])) = fndD os (ks ++ [k]) := by
  refine List.ext_getElem? fun j => ?_
  unfold fndD
  by_cases e : j = k
  · subst e
    rw [List.getElem?_set_self (by rw [List.length_map, List.length_range]; exact h), List.getElem?_map, List.getElem?_range h]
    simp
  · rw [List.getElem?_set_ne (Ne.symm e), List.getElem?_map, List.getElem?_map]
    cases hj : (List.range os.length)[j]? with
    | none => rfl
    | some i =>
      have : i = j := by
        obtain ⟨h1, h2⟩ := List.getElem?_eq_some_iff.mp hj
        rw [List.getElem_range] at h2
        exact h2.symm
      subst this
      show some (if i ∈ ks then ordD (os.getD i []) else .non) = some (if i ∈ ks ++ [k] then ordD (os.getD i []) else .non)
      by_cases hk : i ∈ ks
      · rw [if_pos hk, if_pos (List.mem_append_left _ hk)]
      · rw [if_neg hk, if_neg (fun z => (List.mem_append.mp z).elim hk fun z => e (List.mem_singleton.mp z))]
theorem fnd_all (os : List (List Int)) (ks : List Nat) (h : ks.Perm (List.range os.length)) : fndD os ks = os.map ordD := by
  refine List.ext_getElem? fun j => ?_
  unfold fndD
  rw [List.getElem?_map, List.getElem?_map]
  by_cases hj : j < os.length
  · rw [List.getElem?_range hj, List.getElem?_eq_getElem hj]
    show some (if j ∈ ks then _ else _) = some _
    rw [if_pos (h.mem_iff.mpr (List.mem_range.mpr hj)), List.getD_eq_getElem?_getD, List.getElem?_eq_getElem hj]
    rfl
  · rw [List.getElem?_eq_none (by rw [List.length_range]; omega), List.getElem?_eq_none (by omega)]
    rfl
theorem ok_ord {o : List Int} (h : o ∈ perms) : Ok (ordD o) 200 2 := by
  simp only [perms, List.mem_cons, List.not_mem_nil, or_false] at h
  rcases h with rfl | rfl | rfl | rfl | rfl | rfl <;> exact ok_of (by decide +kernel) (by rintro zs ⟨⟩; decide)
theorem ok_ords {os : List (List Int)} (h : ∀ o ∈ os, o ∈ perms) (hl : os.length ≤ 13) : Ok (.lst (os.map ordD)) 30000 4 :=
  (Ok.lst 13 (fun y hy => by
    obtain ⟨o, ho, rfl⟩ := List.mem_map.mp hy
    exact ok_ord (h o ho)) (by rw [List.length_map]; exact hl) (by decide)).mono (by decide) (by decide)
theorem rv_eqOrd {c : VS.Ctx} {S : Sto} {F : D → Sto → Prop} {o : List Int} (h : o ∈ perms) (q : F (.bl true) S) : RV c (rEqP c.K) (ordD o) (ordD o) S F := by
  have e : PyData.eqv (pd (ordD o)) (pd (ordD o)) = true := by
    have : ∀ o ∈ perms, PyData.eqv (pd (ordD o)) (pd (ordD o)) = true := by decide +kernel
    exact this o h
  refine rv_eqP .v .v (ok_ord h).sh.p (ok_ord h).sh.p (ok_ord h).s (ok_ord h).s ?_
  rw [e]
  exact q
theorem lies_perm {sp : Int} : ∀ {zs : List Pc}, Goes sp zs → (∀ z ∈ zs, z.g) → 0 ≤ sp → ∀ o ∈ lies sp zs, o ∈ perms
  | [], _, _, _, o, h => by cases h
  | z :: r, hg, gz, s0, o, h => by
    rcases List.mem_cons.mp h with e | h
    · rw [e]
      exact lie_perm hg gz s0
    · exact lies_perm (by cases r with | nil => trivial | cons y r => exact hg.2) (fun x hx => gz x (List.mem_cons_of_mem _ hx)) s0 o h
theorem Nm.of {z : Str} (h : nmB z = true) : Nm z := by
  unfold nmB lcs at h
  simp only [Bool.and_eq_true, decide_eq_true_eq, List.all_eq_true] at h
  exact ⟨⟨by omega, h.2⟩, by omega⟩
def nmF : D → D
  | .lst (x :: _) => x
  | _ => .non
theorem Odn.k {CS : Addr} {zs : List Pc} {S : Sto} {d : D} (h : (isP d && ((pd d).showable && (decide ((pd d).shown.length ≤ 200) && decide ((pd d).depth ≤ 2)))) = true) (ks : isK "str" d = false) (kl : isK "list" d = false) : Odn CS zs S d := by
  simp only [Bool.and_eq_true, decide_eq_true_eq] at h
  have sh : Sh d 200 2 := ⟨h.1, h.2.1, h.2.2.1, h.2.2.2⟩
  exact .d h.1 ks kl (sh.mono (by decide) (by decide))
theorem nmF_rows (zs : List Pc) : (zs.map rwD).map nmF = (zs.map Pc.nm).map D.str := by
  rw [List.map_map, List.map_map]
  rfl
section
variable {P : Program} {w : World} {K : PySem.W.Frag} {mg : Str → Option Value} {base : Heap}
theorem ok__law_right {f : Addr} {fd : FuncData} {C_Sides C_Parcel C_Heap C_Nest C_NoNumber C_NoSide C_NoSides C_NoOrder C_NoParcel C_NotInHeap : Addr} {f__law_dues f__law_drawn_order f_Nest_lies f__law_side_by_side f__law_turns f_Nest_turns : Addr} {g__law_dues g__law_drawn_order g_Nest_lies g__law_side_by_side g__law_turns g_Nest_turns : FuncData}
    (F : Fd K "_law_right" "_law_right" s__law_right [] f fd) (T : Tx K mg) (hsys : SysOk base)
    (c__law_dues : Cf P w K mg base (L2.CX P w) 3 "_law_dues" s__law_dues [] a__law_dues p__law_dues f__law_dues g__law_dues)
    (c__law_drawn_order : Cf P w K mg base (L2.CX P w) 2 "_law_drawn_order" s__law_drawn_order [] a__law_drawn_order p__law_drawn_order f__law_drawn_order g__law_drawn_order)
    (c_Nest_lies : Mf P w K mg base 3 C_Nest "lies" "Nest.lies" s_Nest_lies [] a_Nest_lies (p_Ns_lies K C_Nest C_Parcel C_Sides C_NotInHeap) f_Nest_lies g_Nest_lies)
    (c__law_side_by_side : Cf P w K mg base (L2.CX P w) 1 "_law_side_by_side" s__law_side_by_side [] a__law_side_by_side p__law_side_by_side f__law_side_by_side g__law_side_by_side)
    (c__law_turns : Cf P w K mg base (L2.CX P w) 2 "_law_turns" s__law_turns [] a__law_turns p__law_turns f__law_turns g__law_turns)
    (c_Nest_turns : Mf P w K mg base 1 C_Nest "turns" "Nest.turns" s_Nest_turns [] a_Nest_turns (p_Ns_turns C_Nest C_Parcel C_Sides) f_Nest_turns g_Nest_turns)
    (k_Nest : Kl_Nest K mg C_Nest)
    (k_Heap : Kl_Heap K mg C_Heap)
    (k_Parcel : Kl_Parcel K mg C_Parcel)
    (k_Sides : Kl_Sides K mg C_Sides) :
    FnG P w K mg base (L2.CX P w) 4 f fd a__law_right (spOf K (p__law_right C_Nest C_Parcel C_Sides)) := by
  refine VS.unbox ?_
  simp (disch := with_unfolding_all
    have kc_Nest := k_Nest.ins.cl
    have ka_Nest_layers := k_Nest.a_layers
    have ka_Nest_ways := k_Nest.a_ways
    have kc_Heap := k_Heap.ins.cl
    have ka_Heap_held := k_Heap.a_held
    have ka_Heap_told := k_Heap.a_told
    have ka_Heap_kind := k_Heap.a_kind
    have kc_Parcel := k_Parcel.ins.cl
    have ka_Parcel_called := k_Parcel.a_called
    have ka_Parcel_outside := k_Parcel.a_outside
    have ka_Parcel_thick := k_Parcel.a_thick
    have ka_Parcel_heavy := k_Parcel.a_heavy
    have ka_Parcel_strong := k_Parcel.a_strong
    have ka_Parcel_marks := k_Parcel.a_marks
    have ka_Parcel_told := k_Parcel.a_told
    have ka_Parcel_names := k_Parcel.a_names
    have kc_Sides := k_Sides.ins.cl
    have ka_Sides_three := k_Sides.a_three
    refine fn_val F sc__law_right (fun ds S G Y h => ?_) (fun cdv A hgd outer s H E hr px tk po ds S G Y h => ?_)
    · obtain ⟨p, n, L, zs, sp, rfl, _⟩ := h
      rfl
    · obtain ⟨p, n, L, zs, sp, rfl, hp, hn, zne, z12, nd, hg, gz, s0, q⟩ := h
      refine ⟨_, (pss_cons (ps_set (i := 4) sc__law_right.nd rfl (Or.inl rfl) (pe_cG c__law_dues.fn hgd (hr.mono (by decide)) (by rfl) c__law_dues.mg c__law_dues.kp c__law_dues.b .nil VS.pass0 (pa_cons (pv 2) (pa_cons (pv 3) pa_nil))))
        (pss_cons (ps_setLc (i := 5) (own := [("_law_row_here", 8)]) rfl sc__law_right.nd rfl rfl (sw_true rfl rfl rfl (by decide +kernel)) (pi_list (pv 2)) (blkOk_by (own := [("_law_row_here", 8)]) (N := n__law_right) (sc := defScope s__law_right) (by decide +kernel)) (fun _ _ _ _ _ => (pg_name (i := 8) sc__law_right.nd rfl (Or.inl rfl))) (fun _ _ _ _ _ => pts_nil) (fun _ _ _ _ _ => pe_non))
        (pss_cons (ps_for po rfl (pi_list (pe_cG c__law_drawn_order.fn hgd (hr.mono (by decide)) (by rfl) c__law_drawn_order.mg c__law_drawn_order.kp c__law_drawn_order.b .nil VS.pass0 (pa_cons (pv 0) (pa_cons (pe_callB c_len (by rfl) T.b_len (by decide +kernel) (pa_cons (pv 2) pa_nil)) pa_nil)))) (pg_name (i := 6) sc__law_right.nd rfl (Or.inl rfl))
        (pss_one (ps_asg (pe_mG (pv 1) c_Nest_lies.cl c_Nest_lies.me c_Nest_lies.fn hgd (hr.mono (by decide)) c_Nest_lies.b .nil VS.pass0 (pa_cons (pe_ix ix_list (pe_ix ix_list (pv 2) (pv 6) (fun _ _ => rfl)) pe_int (fun _ _ => rfl)) pa_nil)) (pg_sub (pv 5) (pv 6) set_list))))
        (pss_cons (ps_if (PW.pt (pw_or (pt_cmpR op_ne (pe_callB (c_repr hgd hr hsys) (by rfl) T.b_repr (by decide +kernel) (pa_cons (pv 5) pa_nil)) (pe_callB (c_repr hgd hr hsys) (by rfl) T.b_repr (by decide +kernel) (pa_cons (pv 4) pa_nil)) (nomark _)) (pw_or1 (pt_not (pt_val (pe_cG c__law_side_by_side.fn hgd (hr.mono (by decide)) (by rfl) c__law_side_by_side.mg c__law_side_by_side.kp c__law_side_by_side.b .nil VS.pass0 (pa_cons (pv 2) (pa_cons (pv 5) (pa_cons (pv 3) pa_nil))))))))) (pss_one (ps_ret pe_bl))
        pss_nil)
        (pss_cons (ps_setLc (i := 7) (own := [("_law_k", 6)]) rfl sc__law_right.nd rfl rfl (sw_true rfl rfl rfl (by decide +kernel)) (pi_range1 (by rfl) T.b_range (pa_cons (pe_op op_sub (pe_callB c_len (by rfl) T.b_len (by decide +kernel) (pa_cons (pv 2) pa_nil)) pe_int) pa_nil)) (blkOk_by (own := [("_law_k", 6)]) (N := n__law_right) (sc := defScope s__law_right) (by decide +kernel)) (fun _ _ _ _ _ => (pg_name (i := 6) sc__law_right.nd rfl (Or.inl rfl))) (fun _ _ _ _ _ => pts_nil) (fun _ _ _ _ _ => (pe_ix (kI (K := K) (r := rIxL) ix_list) (pe_cG c__law_turns.fn hgd (hr.mono (by decide)) (by rfl) c__law_turns.mg c__law_turns.kp c__law_turns.b .nil VS.pass0 (pa_cons (pe_ix (kI (K := K) (r := rIxL) ix_list) (pv 2) (pv 6) (fun _ _ => rfl)) (pa_cons (pe_ix (kI (K := K) (r := rIxL) ix_list) (pv 2) (pe_op op_add (pv 6) pe_int) (fun _ _ => rfl)) (pa_cons (pv 3) pa_nil)))) pe_int (fun _ _ => rfl))))
        (pss_one (ps_ret (pe_and (pe_cmpR (op_eqP hr hsys) (pe_mG (pv 1) c_Nest_lies.cl c_Nest_lies.me c_Nest_lies.fn hgd (hr.mono (by decide)) c_Nest_lies.b .nil VS.pass0 (pa_cons (pe_ix ix_list (pe_ix ix_list (pv 2) pe_int (fun _ _ => rfl)) pe_int (fun _ _ => rfl)) pa_nil)) (pe_ix ix_list (pv 4) pe_int (fun _ _ => rfl)) (nomark _)) (pe_one (pe_cmpR op_eq (pe_callB (c_repr hgd hr hsys) (by rfl) T.b_repr (by decide +kernel) (pa_cons (pe_mG0 (pv 1) c_Nest_turns.cl c_Nest_turns.me c_Nest_turns.fn hgd (hr.mono (by decide)) c_Nest_turns.b .nil VS.pass0) pa_nil)) (pe_callB (c_repr hgd hr hsys) (by rfl) T.b_repr (by decide +kernel) (pa_cons (pv 7) pa_nil)) (nomark _))))))))))), ?_⟩
      (try dsimp only [cxOf, List.map])
      show VX _ _ [_, _, _, _, _, _, _, _, _] _ _
      have lz : (zs.map rwD).length = zs.length := List.length_map ..
      have lne : 0 < zs.length := List.length_pos_iff.mpr zne
      walk_at "gr"
      refine ⟨zs, sp, rfl, zne, hg, gz, s0, by omega, fun S1 x1 => ?_⟩
      have w1 := hp.ext x1
      clear hp x1
      walk_at "gr"
      refine ve_lccM (fun _ => .non) (vi_list ?_)
      walk_at "gr"
      refine ⟨_, .v, by rw [lz]; omega, fun d hd => ?_, fun f hf => ?_⟩
      · walk_at "gr"
        refine ⟨rfl, ?_⟩
        walk_at "gr"
        exact ⟨rfl, rfl⟩
      have ef : (zs.map rwD).map (fun _ => D.non) = fndD (lies sp zs) [] := by
        rw [fnd_nil, lies_len]
        refine (List.eq_replicate_iff (n := zs.length) (a := D.non).mpr ⟨by rw [List.length_map, List.length_map], fun b hb => ?_⟩).trans (List.eq_replicate_iff.mpr ⟨by rw [List.length_map, List.length_range], fun b hb => ?_⟩).symm
        · obtain ⟨_, _, rfl⟩ := List.mem_map.mp hb
          rfl
        · obtain ⟨_, _, rfl⟩ := List.mem_map.mp hb
          rfl
      rw [ef]
      have w2 := w1.new (d := .lst (fndD (lies sp zs) [])) hf
      generalize VS.put S1 f (.lst (fndD (lies sp zs) [])) = S2 at w2 ⊢
      clear w1
      walk_at "gr"
      refine vx_for (vi_list ?_)
      walk_at "gr"
      rw [lz]
      refine ⟨p, n, zs.length, (f, .lst (fndD (lies sp zs) [])) :: L, rfl, w2, hn, by omega, fun ks S3 pm w3 => ?_⟩
      clear w2
      have ol := lies_len (sp := sp) zs
      have op := lies_perm hg gz s0
      refine ⟨_, .v, fun i ρ2 S4 => ∃ x6, Wd S4 p (n + 13) ((f, .lst (fndD (lies sp zs) (ks.take i))) :: L) ∧ ρ2 = [some (.ref p), some (nsD C_Nest C_Parcel C_Sides sp zs), some (.lst (zs.map rwD)), some (.int sp), some (.lst ((lies sp zs).map ordD)), some (.ref f), x6, none, none], ⟨_, w3, rfl⟩, ?_, ?_⟩
      · rintro i d _ S4 hd ⟨x6, w4, rfl⟩
        clear w3
        rw [List.getElem?_map] at hd
        cases e : ks[i]? with
        | none => rw [e] at hd; cases hd
        | some k =>
          rw [e] at hd
          cases hd
          have kl : k < zs.length := List.mem_range.mp (pm.mem_iff.mp (List.mem_of_getElem? e))
          have e1 : zs[k]? = some zs[k] := List.getElem?_eq_getElem kl
          have r1 : atI (zs.map rwD) ((k : Nat) : Int) = some (rwD zs[k]) := atI_nat (by rw [List.getElem?_map, e1]; rfl)
          have er : ∀ x, rwD x = .lst [.str x.nm, li x.a x.b x.c, .int x.wl, .int x.wt, .int x.br, .lst (x.mk.map D.str)] := fun _ => rfl
          unfold natD
          walk_at "gr"
          refine rv_ixL .v r1 ?_
          rw [er]
          walk_at "gr"
          refine ⟨zs, sp, _, rfl, z12, nd, hg, gz, s0, .inl ⟨k, zs[k], e1, rfl, ?_⟩⟩
          walk_at "gr"
          have fl : (fndD (lies sp zs) (ks.take i)).length = zs.length := by unfold fndD; rw [List.length_map, List.length_range, ol]
          have tk : ks.take (i + 1) = ks.take i ++ [k] := by rw [List.take_succ, e]; rfl
          have ek : ordD (lieI (waysI sp (zs.drop k))) = ordD ((lies sp zs).getD k []) := by
            rw [List.getD_eq_getElem?_getD, lies_at kl]
            rfl
          refine ⟨_, k, _, rfl, w4.g0, ?_, _, ?_, rfl⟩
          · rw [fl]
            unfold ixN
            rw [if_pos (by omega), if_pos (by omega), Int.toNat_natCast]
          · rw [tk, ← fnd_set _ _ _ (by rw [ol]; exact kl), ← ek]
            exact w4.wr 0 rfl
      · rintro _ S4 ⟨x6, w4, rfl⟩
        clear w3
        rw [List.length_map, List.take_length, fnd_all _ _ (by rw [ol]; exact pm)] at w4
        refine vx_freeze 5 rfl w4.g0 ?_
        have w5 : Wd (VS.del S4 f) p (n + 13) L := w4.dl 0 rfl
        generalize VS.del S4 f = S5 at w5 ⊢
        clear w4
        have ok := ok_ords op (by rw [ol]; omega)
        walk_at "gr"
        refine rc_reprS .v ok.sh (by decide) (by decide) ?_
        walk_at "gr"
        refine rc_reprS .v ok.sh (by decide) (by decide) ?_
        refine rv_neSame ?_
        walk_at "gr"
        refine ⟨zs, sp, rfl, hg, gz, s0, by omega, ?_⟩
        walk_at "gr"
        refine ve_lc (vi_rng1 ?_)
        walk_at "gr"
        rw [lz]
        have wl := ways_len (sp := sp) zs
        have wlp := way_perm hg gz s0
        refine ⟨_, rfl, by omega, by rw [rngD_len]; omega, fun i acc S6 => acc = ((waysI sp zs).take i).map ordD ∧ S6 = S5, ⟨rfl, rfl⟩, ?_, ?_⟩
        · rintro k d acc S6 hd ⟨rfl, rfl⟩ _
          obtain ⟨kl, rfl⟩ := rngD_get hd
          have kl : k + 1 < zs.length := by omega
          rw [show (0 : Int) + (k : Nat) = (k : Nat) by omega]
          have e1 : zs[k]? = some zs[k] := List.getElem?_eq_getElem (by omega)
          have e2 : zs[k + 1]? = some zs[k + 1] := List.getElem?_eq_getElem kl
          obtain ⟨g1, g2⟩ := ways_at hg e1 e2
          have gp := gz _ (List.mem_of_getElem? e1)
          have gq := gz _ (List.mem_of_getElem? e2)
          have r1 : atI (zs.map rwD) ((k : Nat) : Int) = some (rwD zs[k]) := atI_nat (by rw [List.getElem?_map, e1]; rfl)
          have r2 : atI (zs.map rwD) ((k : Nat) + 1 : Int) = some (rwD zs[k + 1]) := atI_nat (j := k + 1) (by rw [List.getElem?_map, e2]; rfl)
          have th := turn_head gp s0 g1
          have tk : (waysI sp zs).take (k + 1) = (waysI sp zs).take k ++ [wayI sp zs[k] zs[k + 1]] := by rw [List.take_succ, g2]; rfl
          walk_at "gr"
          refine rv_ixL .v r1 ?_
          walk_at "gr"
          refine rv_ixL .v r2 ?_
          walk_at "gr"
          refine ⟨zs[k], zs[k + 1], sp, rfl, gp, gq, ?_⟩
          walk_at "gr"
          refine rv_ixL .v th ?_
          refine ⟨?_, rfl⟩
          rw [tk, List.map_append]
          rfl
        rintro acc S6 ⟨rfl, rfl⟩ _
        rw [rngD_len, List.take_of_length_le (by rw [wl]; omega)]
        obtain ⟨z, r, rfl⟩ := List.exists_cons_of_ne_nil zne
        have e0 : atI ((z :: r).map rwD) 0 = some (rwD z) := atI_zero
        have er : ∀ x, rwD x = .lst [.str x.nm, li x.a x.b x.c, .int x.wl, .int x.wt, .int x.br, .lst (x.mk.map D.str)] := fun _ => rfl
        walk_at "gr"
        refine rv_ixL .v e0 ?_
        rw [er]
        walk_at "gr"
        refine ⟨z :: r, sp, _, rfl, z12, nd, hg, gz, s0, .inl ⟨0, z, rfl, rfl, ?_⟩⟩
        walk_at "gr"
        have f0 : atI ((lies sp (z :: r)).map ordD) 0 = some (ordD (lieI (waysI sp (z :: r)))) := atI_zero
        refine rv_ixL .v f0 ?_
        refine rv_eqOrd (lie_perm hg gz s0) ?_
        have okw := ok_ords wlp (by rw [wl]; omega)
        walk_at "gr"
        refine ⟨z :: r, sp, rfl, ?_⟩
        walk_at "gr"
        refine rc_reprS .v okw.sh (by decide) (by decide) ?_
        walk_at "gr"
        refine rc_reprS .v okw.sh (by decide) (by decide) ?_
        exact rv_eqSame (q _ w5)) only [↓VS.box]
theorem ok__law_strange {f : Addr} {fd : FuncData} {C_Sides C_Parcel C_Heap C_Nest C_NoNumber C_NoSide C_NoSides C_NoOrder C_NoParcel C_NotInHeap : Addr} {f__law_take f_Sides : Addr} {g__law_take g_Sides : FuncData}
    (F : Fd K "_law_strange" "_law_strange" s__law_strange [] f fd) (T : Tx K mg) (hsys : SysOk base)
    (c__law_take : Cf P w K mg base (L2.CX P w) 1 "_law_take" s__law_take [] a__law_take p__law_take f__law_take g__law_take)
    (c_Sides : Kf P w K mg base 3 "Sides" C_Sides "Sides.__init__" s_Sides___init__ [] a_Sides___init__ (p_Sides_init K C_Sides C_NoSide) f_Sides g_Sides)
    (k_Sides : Kl_Sides K mg C_Sides) :
    FnG P w K mg base (L2.CX P w) 5 f fd a__law_strange (spOf K (p__law_strange C_Sides)) := by
  refine VS.unbox ?_
  simp (disch := with_unfolding_all
    have kc_Sides := k_Sides.ins.cl
    have ka_Sides_three := k_Sides.a_three
    refine fn_val F sc__law_strange (fun ds S G Y h => ?_) (fun cdv A hgd outer s H E hr px tk po ds S G Y h => ?_)
    · obtain ⟨p, n, L, rs, zs, rfl, _⟩ := h
      rfl
    · obtain ⟨p, n, L, rs, zs, rfl, hp, hn, hrs, zm, zne, z12, q⟩ := h
      refine ⟨_, (pss_cons (ps_set (i := 3) sc__law_strange.nd rfl (Or.inr rfl) (pe_lc (own := [("_law_row_here", 7)]) rfl sc__law_strange.nd (pi_list (pv 2)) (blkOk_by (own := [("_law_row_here", 7)]) (N := n__law_strange) (sc := defScope s__law_strange) (by decide +kernel)) (fun _ _ _ _ _ => (pg_name (i := 7) sc__law_strange.nd rfl (Or.inl rfl))) (fun _ _ _ _ _ => pts_nil) (fun _ _ _ _ _ => (pe_ix (kI (K := K) (r := rIxL) ix_list) (pv 7) pe_int (fun _ _ => rfl)))))
        (pss_cons (ps_setLc (i := 4) (own := [("_law_row_here", 7)]) rfl sc__law_strange.nd rfl rfl (sw_true rfl rfl rfl (by decide +kernel)) (pi_list (pv 1)) (blkOk_by (own := [("_law_row_here", 7)]) (N := n__law_strange) (sc := defScope s__law_strange) (by decide +kernel)) (fun _ _ _ _ _ => (pg_name (i := 7) sc__law_strange.nd rfl (Or.inl rfl))) (fun _ _ _ _ _ => (pts_one (pt_cmpR (kO (K := K) (r := (fun K => rIn K true)) op_notIn_seq) (pe_ix (kI (K := K) (r := rIxL) ix_list) (pv 7) pe_int (fun _ _ => rfl)) (pv 3) (by rfl)))) (fun _ _ _ _ _ => (pe_ix (kI (K := K) (r := rIxL) ix_list) (pv 7) pe_int (fun _ _ => rfl))))
        (pss_cons (ps_if (PW.pt (pw_and (pt_cmpR (op_neE hr) (pv 4) (pe_lst pa_nil) (nomark _)) (pw_and1 (pt_cmpR op_eq (pe_cG c__law_take.fn hgd (hr.mono (by decide)) (by rfl) c__law_take.mg c__law_take.kp c__law_take.b .nil VS.pass0 (pa_cons (pv 0) (pa_cons pe_int pa_nil))) pe_int (nomark _))))) (pss_one (ps_ret (pe_ix ix_list (pv 4) (pe_cG c__law_take.fn hgd (hr.mono (by decide)) (by rfl) c__law_take.mg c__law_take.kp c__law_take.b .nil VS.pass0 (pa_cons (pv 0) (pa_cons (pe_callB c_len (by rfl) T.b_len (by decide +kernel) (pa_cons (pv 4) pa_nil)) pa_nil))) (fun _ _ => rfl))))
        pss_nil)
        (pss_cons (ps_set (i := 5) sc__law_strange.nd rfl (Or.inl rfl) (pe_ix ix_list (pv 3) (pe_cG c__law_take.fn hgd (hr.mono (by decide)) (by rfl) c__law_take.mg c__law_take.kp c__law_take.b .nil VS.pass0 (pa_cons (pv 0) (pa_cons (pe_callB c_len (by rfl) T.b_len (by decide +kernel) (pa_cons (pv 3) pa_nil)) pa_nil))) (fun _ _ => rfl)))
        (pss_cons (ps_set (i := 6) sc__law_strange.nd rfl (Or.inl rfl) (pe_lst (pa_cons pe_non (pa_cons pe_int (pa_cons pe_bl (pa_cons pe_str (pa_cons (pe_lst (pa_cons (pv 5) pa_nil)) (pa_cons (pe_tup (pa_cons (pv 5) pa_nil)) (pa_cons pe_dnewK pa_nil)))))))))
        (pss_cons (ps_set (i := 6) sc__law_strange.nd rfl (Or.inl rfl) (pe_op op_cat (pv 6) (pe_lst (pa_cons (pe_op op_addS (pe_op op_addS (pv 5) (pv 5)) pe_str) (pa_cons (pe_op op_addS pe_str (pv 5)) (pa_cons (pe_op op_pow pe_int pe_int) (pa_cons (pe_kG c_Sides.mk_ c_Sides.fn hgd (hr.mono (by decide)) (by rfl) c_Sides.mg  c_Sides.b .nil VS.pass0 (pa_cons pe_int (pa_cons pe_int (pa_cons pe_int pa_nil)))) pa_nil)))))))
        (pss_one (ps_ret (pe_ix ix_list (pv 6) (pe_cG c__law_take.fn hgd (hr.mono (by decide)) (by rfl) c__law_take.mg c__law_take.kp c__law_take.b .nil VS.pass0 (pa_cons (pv 0) (pa_cons pe_int pa_nil))) (fun _ _ => rfl)))))))))), ?_⟩
      (try dsimp only [cxOf, List.map])
      show VX _ _ [_, _, _, _, _, _, _, _] _ _
      have lz : (zs.map rwD).length = zs.length := List.length_map ..
      have lne : 0 < zs.length := List.length_pos_iff.mpr zne
      have lr := hrs.l
      have er : ∀ x, rwD x = .lst [.str x.nm, li x.a x.b x.c, .int x.wl, .int x.wt, .int x.br, .lst (x.mk.map D.str)] := fun _ => rfl
      have nmz : ∀ z ∈ zs, Nm z.nm := fun z hz => Nm.of (hrs.g z (zm z hz)).1.gn
      walk_at "gr"
      refine ve_lcM nmF (vi_list ?_)
      walk_at "gr"
      refine ⟨_, .v, by rw [lz]; omega, fun d hd => ?_, ?_⟩
      · obtain ⟨x, hx, rfl⟩ := List.mem_map.mp hd
        rw [er]
        walk_at "gr"
        refine ⟨rfl, ?_⟩
        walk_at "gr"
        exact ⟨rfl, rfl⟩
      rw [nmF_rows]
      walk_at "gr"
      refine ve_lc (vi_list ?_)
      walk_at "gr"
      refine ⟨_, .v, by rw [List.length_map]; omega, fun i acc S2 => S2 = S ∧ acc.length ≤ i ∧ ∀ y ∈ acc, ∃ x, y = .str x ∧ x ∈ rs.map Pc.nm ∧ x ∉ zs.map Pc.nm, ⟨rfl, Nat.le_refl _, nofun⟩, ?_, ?_⟩
      · rintro i d acc S2 hd ⟨rfl, al, ha⟩ _
        obtain ⟨x, hx, rfl⟩ := List.mem_map.mp (List.mem_of_getElem? hd)
        rw [er]
        walk_at "gr"
        refine rv_in (neg := true) (.l .v) rfl (flat_strs _) ?_
        rw [inD_strs]
        refine ⟨_, rfl, fun eb => ?_, fun _ => ⟨rfl, by omega, ha⟩⟩
        walk_at "gr"
        refine ⟨rfl, by rw [List.length_append]; show acc.length + 1 ≤ _; omega, fun y hy => (List.mem_append.mp hy).elim (ha y) fun h => ⟨x.nm, List.mem_singleton.mp h, List.mem_map.mpr ⟨x, hx, rfl⟩, fun z => ?_⟩⟩
        have z : x.nm ∈ zs.map Pc.nm := z
        rw [decide_eq_true z] at eb
        cases eb
      rintro acc S2 ⟨rfl, al, ha⟩ _
      obtain ⟨ms, rfl, hms⟩ := strs_all ha
      rw [List.length_map, List.length_map] at al
      have npos : 0 < (zs.map Pc.nm).length := by rw [List.length_map]; exact lne
      have nlen : (zs.map Pc.nm).length ≤ 12 := by rw [List.length_map]; exact z12
      -- the ways meet
      refine vg_name ?_
      refine vx_join (fun ρ2 S3 => Wd S3 p (n + 1) L ∧ ρ2 = [some (.ref p), some (.lst (rs.map rwD)), some (.lst (zs.map rwD)), some (.lst ((zs.map Pc.nm).map D.str)), some (.lst (ms.map D.str)), none, none, none]) ?_ ?_
      · walk_at "gr"
        refine ve_lst ?_
        walk_at "gr"
        refine ⟨fun hb => ?_, fun _ => ?_⟩
        · have mne : ms ≠ [] := fun z => by rw [z] at hb; cases hb
          have mpos : 0 < ms.length := List.length_pos_iff.mpr mne
          walk_at "gr"
          intro t S3 t0 t1 w3
          clear hp
          walk_at "gr"
          refine ⟨fun _ => ?_, fun _ => ?_⟩
          · walk_at "gr"
            have ml : ((ms.map D.str).length : Int) = (ms.length : Nat) := by rw [List.length_map]
            intro u S4 u0 u1 w4
            refine rv_ixAll (fun d => ∃ x, d = .str x ∧ x ∈ rs.map Pc.nm ∧ x ∉ zs.map Pc.nm) u0 u1 (fun d hd => by
              obtain ⟨x, hx, rfl⟩ := List.mem_map.mp hd
              exact ⟨x, rfl, hms x hx⟩) ?_
            rintro _ ⟨x, rfl, h1, h2⟩
            obtain ⟨r, hr', rfl⟩ := List.mem_map.mp h1
            have hN := Nm.of (hrs.g r hr').1.gn
            exact q _ S4 [] (.s h2 ((Sh.str hN.1.asc).mono (by decide) (by decide))) nofun (w4.mono (by omega))
          · walk_at "gr"
            exact ⟨w3, rfl⟩
        · walk_at "gr"
          exact ⟨hp.mono (by omega), rfl⟩
      rintro _ S3 ⟨w3, rfl⟩
      clear hp
      walk_at "gr"
      intro u S4 u0 u1 w4
      clear w3
      refine rv_ixAll (fun d => ∃ x, d = .str x ∧ x ∈ zs.map Pc.nm) u0 u1 (fun d hd => by
        obtain ⟨x, hx, rfl⟩ := List.mem_map.mp hd
        exact ⟨x, rfl, hx⟩) ?_
      rintro _ ⟨x, rfl, hx⟩
      obtain ⟨r, hr', rfl⟩ := List.mem_map.mp hx
      have hN := nmz r hr'
      generalize r.nm = nm at hN
      walk_at "gr"
      refine ve_lst ?_
      walk_at "gr"
      refine ve_lstc ?_
      walk_at "gr"
      intro l hl
      have w5 := w4.new (d := .lst [.str nm]) hl
      have cl : (VS.put S4 l (.lst [.str nm])) l = some (.lst [.str nm]) := put_same
      generalize VS.put S4 l (.lst [.str nm]) = S5 at w5 cl ⊢
      clear w4
      have h8 : nm.length ≤ 8 := hN.1.1
      have h16 : (nm ++ nm).length ≤ 16 := by rw [len_add]; omega
      have e8 : (Str.ofString "aaaaaaaa").length = 8 := rfl
      have e1 : (Str.ofString " ").length = 1 := rfl
      have hz := szl
      walk_at "gr"
      refine ve_lst ?_
      walk_at "gr"
      refine rv_cat .v .v (by show 11 ≤ _; omega) ?_
      walk_at "gr"
      intro v S6 v0 v1 w6
      clear w5
      have nin : ∀ z, (¬ Nm z) → z ∉ zs.map Pc.nm := fun z hz hm => by
        obtain ⟨r, hr', rfl⟩ := List.mem_map.mp hm
        exact hz (nmz r hr')
      have c6 := w6.g0
      have aN := hN.1.asc
      refine rv_ixAll (fun d => Odn C_Sides zs S6 d ∧ ∃ M, (∀ l', d = .ref l' → ∃ v, M = [(l', v)]) ∧ Wd S6 p (n + 3) (M ++ L)) v0 v1 ?_ ?_
      · have w7 : Wd S6 p (n + 3) L := w6.tl.mono (by omega)
        have w8 : Wd S6 p (n + 3) ([(l, D.lst [.str nm])] ++ L) := w6.mono (by omega)
        refine ac ⟨.k (by decide +kernel) rfl rfl, [], nofun, w7⟩ (ac ⟨.k (by decide +kernel) rfl rfl, [], nofun, w7⟩ (ac ⟨.k (by decide +kernel) rfl rfl, [], nofun, w7⟩ (ac ⟨.s (nin _ fun h => absurd h.2 (by decide)) ((Sh.str (n := 0) (Asc.lit (by decide +kernel))).mono (by decide) (by decide)), [], nofun, w7⟩ (ac ⟨.l c6 (aN.mono (by decide)), [(l, D.lst [.str nm])], fun l' e => ⟨_, by cases e; rfl⟩, w8⟩ (ac ⟨.d rfl rfl rfl ?_, [], nofun, w7⟩ (ac ⟨.k (by decide +kernel) rfl rfl, [], nofun, w7⟩ (ac ⟨.s (nin _ fun h => ?_) ((Sh.str (n := 24) ?_).mono (by decide) (by decide)), [], nofun, w7⟩ (ac ⟨.s (nin _ fun h => ?_) ((Sh.str (n := 9) ?_).mono (by decide) (by decide)), [], nofun, w7⟩ (ac ⟨.k (by decide +kernel) rfl rfl, [], nofun, w7⟩ (ac ⟨.o, [], nofun, w7⟩ an))))))))))
        · exact (Ok.mono (m := 400) (j := 2) (Ok.tup (ys := [.str nm]) 1 (fun y hy => by rw [List.mem_singleton.mp hy]; exact (⟨(Sh.str aN).mono (m := 82) (j := 1) (by decide) (by decide), (ok_strB aN (by decide)).s, nofun⟩ : Ok (.str nm) 82 1)) (Nat.le_refl 1) (by decide) (by decide)) (by decide) (by decide)).sh
        · have := h.1.1
          rw [len_add, len_add, e8] at this
          have := hN.2
          omega
        · exact (Asc.add (Asc.add aN aN) (Asc.lit (n := 8) (by decide +kernel))).mono (by decide)
        · have := h.1.2 32 (by rw [tl_add]; exact List.mem_append_left _ (by decide))
          exact absurd this (by decide)
        · exact (Asc.add (Asc.lit (n := 1) (by decide +kernel)) aN).mono (by decide)
      · rintro d ⟨hd, M, hM, w7⟩
        exact q d S6 M hd hM w7) only [↓VS.box]
end
end LW
namespace LW
open PySem L2 C8 PySem.Spec PyProof.Rows VS
/-! ### the law's chains: plain facts -/
theorem goB_mono {sp sq : Int} {p q : Pc} (h : goB sp p q = true) (le : sq ≤ sp) : goB sq p q = true := by
  unfold goB shG at h ⊢
  generalize shA p = x at h ⊢
  generalize shB q = y at h ⊢
  split at h
  · simp only [Bool.and_eq_true, decide_eq_true_eq] at h ⊢
    omega
  · cases h
theorem Goes.mono {sp sq : Int} (le : sq ≤ sp) : ∀ {zs : List Pc}, Goes sp zs → Goes sq zs
  | [], _ => trivial
  | [_], _ => trivial
  | _ :: y :: r, h => ⟨goB_mono h.1 le, Goes.mono le (zs := y :: r) h.2⟩
theorem sd_sum {p : Pc} {o : List Int} (h : o ∈ perms) : sdI p (o.getD 0 0) + sdI p (o.getD 1 0) + sdI p (o.getD 2 0) = p.a + p.b + p.c := by
  simp only [perms, List.mem_cons, List.not_mem_nil, or_false] at h
  rcases h with rfl | rfl | rfl | rfl | rfl | rfl <;> (show tn _ _ _ _ + tn _ _ _ _ + tn _ _ _ _ = _; simp [tn]; try omega)
theorem nm_inj26 {rs : List Pc} (nd : (rs.map Pc.nm).Nodup) {p q : Pc} (hp : p ∈ rs) (hq : q ∈ rs) (e : p.nm = q.nm) : p = q := by
  have h1 := find_nm nd hp
  have h2 := find_nm nd hq
  rw [e, h2] at h1
  exact (Option.some.inj h1).symm
theorem goes_nd {sp : Int} {zs rs : List Pc} (hg : Goes sp zs) (gz : ∀ z ∈ zs, z.g) (s0 : 0 ≤ sp) (nd : (rs.map Pc.nm).Nodup) (zm : ∀ z ∈ zs, z ∈ rs) : (zs.map Pc.nm).Nodup := by
  rw [List.nodup_iff_pairwise_ne, List.pairwise_map, List.pairwise_iff_getElem]
  intro i j hi hj hij e
  have ei : zs[i]? = some zs[i] := List.getElem?_eq_getElem hi
  have ej : zs[j]? = some zs[j] := List.getElem?_eq_getElem hj
  have e := nm_inj26 nd (zm _ (List.getElem_mem hi)) (zm _ (List.getElem_mem hj)) e
  have lp : ∀ k, lieI (waysI sp (zs.drop k)) ∈ perms := fun k => by
    rw [← ways_drop]
    exact lieI_perm fun t ht => way_perm hg gz s0 t (List.mem_of_mem_drop ht)
  have k0 := lie_all s0 hg gz i j _ _ 0 hij ei ej (by decide)
  have k1 := lie_all s0 hg gz i j _ _ 1 hij ei ej (by decide)
  have k2 := lie_all s0 hg gz i j _ _ 2 hij ei ej (by decide)
  have q1 := sd_sum (p := zs[i]) (lp i)
  have q2 := sd_sum (p := zs[j]) (lp j)
  have wl := (gz _ (List.getElem_mem hj)).wl.1
  rw [e] at k0 k1 k2 q1
  omega
theorem nd_len : ∀ {xs ys : List Str}, xs.Nodup → (∀ x ∈ xs, x ∈ ys) → xs.length ≤ ys.length
  | [], _, _, _ => Nat.zero_le _
  | x :: xs, ys, h, hm => by
    have hx := hm x (List.mem_cons_self ..)
    have hn := List.nodup_cons.mp h
    have := nd_len (xs := xs) (ys := ys.erase x) hn.2 fun z hz => (List.mem_erase_of_ne fun e => hn.1 (by rw [← e]; exact hz)).mpr (hm z (List.mem_cons_of_mem _ hz))
    rw [List.length_erase_of_mem hx] at this
    have : 0 < ys.length := List.length_pos_of_mem hx
    simp
    omega
/-- the parcels of names -/
theorem pcs_of {rs : List Pc} : ∀ {ms : List Str}, (∀ z ∈ ms, z ∈ rs.map Pc.nm) → ∃ zs : List Pc, zs.map Pc.nm = ms ∧ ∀ z ∈ zs, z ∈ rs
  | [], _ => ⟨[], rfl, nofun⟩
  | m :: ms, h => by
    obtain ⟨zs, e, hz⟩ := pcs_of (ms := ms) fun z hz => h z (List.mem_cons_of_mem _ hz)
    obtain ⟨p, hp, ep⟩ := List.mem_map.mp (h m (List.mem_cons_self ..))
    exact ⟨p :: zs, by rw [List.map_cons, e, ep], fun z hz' => (List.mem_cons.mp hz').elim (fun e => by rw [e]; exact hp) (hz z)⟩
theorem goes_pth {sp : Int} {rs : List Pc} (hps : Hps rs) : ∀ {zs : List Pc}, (∀ z ∈ zs, z ∈ rs) → Pth (Eof sp rs) (zs.map Pc.nm) → Goes sp zs
  | [], _, _ => trivial
  | [_], _, _ => trivial
  | x :: y :: r, hm, h => by
    cases h with
    | cons h1 h2 =>
      refine ⟨?_, goes_pth hps (zs := y :: r) (fun z hz => hm z (List.mem_cons_of_mem _ hz)) h2⟩
      rw [← Eof_go hps (hm x (by simp)) (hm y (by simp))]
      exact decide_eq_true h1
/-- a good chain of rows -/
structure Chn (sp : Int) (rs zs : List Pc) : Prop where
  m : ∀ z ∈ zs, z ∈ rs
  g : Goes sp zs
  ne : zs ≠ []
theorem Chn.gz {sp : Int} {rs zs : List Pc} (h : Chn sp rs zs) (hps : Hps rs) : ∀ z ∈ zs, z.g := fun z hz => hps.g z (h.m z hz)
theorem Chn.mono {sp sq : Int} {rs zs : List Pc} (h : Chn sp rs zs) (le : sq ≤ sp) : Chn sq rs zs := ⟨h.m, h.g.mono le, h.ne⟩
theorem Chn.nd {sp : Int} {rs zs : List Pc} (h : Chn sp rs zs) (hps : Hps rs) (s0 : 0 ≤ sp) : (zs.map Pc.nm).Nodup := goes_nd h.g (h.gz hps) s0 hps.n h.m
theorem Chn.l {sp : Int} {rs zs : List Pc} (h : Chn sp rs zs) (hps : Hps rs) (s0 : 0 ≤ sp) : zs.length ≤ 12 := by
  have := nd_len (h.nd hps s0) (ys := rs.map Pc.nm) fun x hx => by
    obtain ⟨z, hz, rfl⟩ := List.mem_map.mp hx
    exact List.mem_map.mpr ⟨z, h.m z hz, rfl⟩
  rw [List.length_map, List.length_map] at this
  exact Nat.le_trans this hps.l
theorem Chn.of {sp : Int} {rs : List Pc} (hps : Hps rs) {ms : List Str} (hm : ∀ z ∈ ms, z ∈ rs.map Pc.nm) (hp : Pth (Eof sp rs) ms) (ne : ms ≠ []) : ∃ zs, Chn sp rs zs ∧ zs.map Pc.nm = ms := by
  obtain ⟨zs, rfl, hz⟩ := pcs_of hm
  exact ⟨zs, ⟨hz, goes_pth hps hz hp, fun e => ne (by rw [e]; rfl)⟩, rfl⟩
end LW
namespace LW
open PySem L2 C8 PySem.Spec PyProof.Rows VS
/-! ### the law -/
def p_law : Pt := fun ds S G _ => ∃ ns : List Int, ds = [.rol (ns.map .int)] ∧ ns.length ≤ 63 ∧ ∀ S', G (.bl true) S'
def hpD (CH l : Addr) : D := .ins CH [("held", .ref l)]
theorem Wd.hp {S : Sto} {p h l CH CP CS : Addr} {n : Int} {L : List (Addr × D)} {ps : List Pc} (w : Wd S p n L) (j k : Nat) (hj : L[j]? = some (h, hpD CH l)) (hk : L[k]? = some (l, .lst (ps.map (Pc.d CP CS)))) : HpS S CH CP CS h l ps := ⟨w.get j hj, w.get k hk⟩
theorem Wd.newE2 {S S' : Sto} {p h k : Addr} {n : Int} {L : List (Addr × D)} {d e : D} (w : Wd S p n L) (hh : S h = none) (hk : S k = none) (ne : h ≠ k) (x : Ext S S') (e1 : S' h = some d) (e2 : S' k = some e) : Wd S' p n ((h, d) :: (k, e) :: L) := by
  have v := w.ext x
  refine ⟨v.pu, fun y hy => ?_, fun y hy => ?_, ?_⟩
  · rcases List.mem_cons.mp hy with z | hy
    · rw [z]; exact e1
    · rcases List.mem_cons.mp hy with z | hy
      · rw [z]; exact e2
      · exact v.at_ y hy
  · rcases List.mem_cons.mp hy with z | hy
    · rw [z]; exact Ne.symm (w.pu.ne hh)
    · rcases List.mem_cons.mp hy with z | hy
      · rw [z]; exact Ne.symm (w.pu.ne hk)
      · exact w.ne y hy
  · rw [List.map_cons, List.map_cons, List.nodup_cons, List.nodup_cons]
    refine ⟨fun z => ?_, w.free hk, w.nd⟩
    rcases List.mem_cons.mp z with z | z
    · exact ne z
    · exact w.free hh z
theorem Wd.but {S S' : Sto} {p : Addr} {n : Int} {L : List (Addr × D)} (w : Wd S p n L) (hp : S' p = S p) (h : ∀ a ∈ L.map Prod.fst, S' a = S a) : Wd S' p n L := by
  refine ⟨?_, fun x hx => (h _ (List.mem_map.mpr ⟨x, hx, rfl⟩)).trans (w.at_ x hx), w.ne, w.nd⟩
  obtain ⟨x, y, z, e, r⟩ := w.pu
  exact ⟨x, y, z, hp.trans e, r⟩
theorem vdK_in {S : Sto} {f : Pc → List Str} : ∀ {ps : List Pc} {as : List Addr}, as.length = ps.length → (∀ (i : Nat) (a : Addr) (p : Pc), as[i]? = some a → ps[i]? = some p → S a = some (.lst ((f p).map D.str))) → VdK S (inD2 ps as) (ps.map fun p => ((.inr p.nm : Key), nmD (f p)))
  | [], [], _, _ => .nil
  | [], _ :: _, h, _ => by cases h
  | _ :: _, [], h, _ => by cases h
  | p :: ps, a :: as, h, k => .cons (.c (k 0 a p rfl rfl) (by nofun) .v) (vdK_in (Nat.succ.inj h) fun i a' p' h1 h2 => k (i + 1) a' p' h1 h2)
theorem ou_of {sp : Int} {ps : List Pc} (nd : (ps.map Pc.nm).Nodup) : (ps.map fun p => ((.inr p.nm : Key), nmD (goN sp ps p))) = ouDs (ps.map Pc.nm) (Eof sp ps) := by
  unfold ouDs
  rw [List.map_map]
  refine List.map_congr_left fun p hp => ?_
  show _ = ((.inr p.nm : Key), nmD (Eof sp ps p.nm))
  rw [Eof_at nd hp]
theorem Eof_in {sp : Int} {ps : List Pc} {n o : Str} (h : o ∈ Eof sp ps n) : o ∈ ps.map Pc.nm := by
  unfold Eof at h
  split at h
  · obtain ⟨q, hq, e, _⟩ := mem_goN h
    exact List.mem_map.mpr ⟨q, hq, e⟩
  · simp at h
theorem Eof_len {sp : Int} {ps : List Pc} {n : Str} : (Eof sp ps n).length ≤ ps.length := by
  unfold Eof
  split
  · unfold goN
    rw [List.length_map]
    exact List.length_filter_le _ _
  · exact Nat.zero_le _
theorem Wd.offM {S S' : Sto} {p : Addr} {n : Int} {L M : List (Addr × D)} {d : D} (w : Wd S p n (M ++ L)) (hM : ∀ l, d = .ref l → ∃ v, M = [(l, v)]) (off : ∀ a, d ≠ .ref a → S' a = S a) : Wd S' p n L := by
  refine (w.sub (List.sublist_append_right M L)).but (off p fun e => ?_) fun a ha => off a fun e => ?_
  · obtain ⟨v, rfl⟩ := hM p e
    exact w.ne (p, v) (by simp) rfl
  · obtain ⟨v, rfl⟩ := hM a e
    have := w.nd
    rw [List.map_append, List.map_cons] at this
    exact (List.nodup_cons.mp this).1 ha
theorem tour (i : Nat) (d : D) (h : ([.int 1, .int 2, .int 0, .int 4, .int 3, .int 1, .int 0] : List D)[i]? = some d) : ∃ a : Nat, d = .int (a : Nat) ∧ a < 5 ∧ (a = 3 → i = 4) ∧ i < 7 := by
  have hi : i < 7 := (List.getElem?_eq_some_iff.mp h).1
  have : i = 0 ∨ i = 1 ∨ i = 2 ∨ i = 3 ∨ i = 4 ∨ i = 5 ∨ i = 6 := by omega
  rcases this with rfl | rfl | rfl | rfl | rfl | rfl | rfl <;> cases h
  · exact ⟨1, rfl, by decide, by decide, by decide⟩
  · exact ⟨2, rfl, by decide, by decide, by decide⟩
  · exact ⟨0, rfl, by decide, by decide, by decide⟩
  · exact ⟨4, rfl, by decide, by decide, by decide⟩
  · exact ⟨3, rfl, by decide, by decide, by decide⟩
  · exact ⟨1, rfl, by decide, by decide, by decide⟩
  · exact ⟨0, rfl, by decide, by decide, by decide⟩
/-- what is drawn, and the nests of it -/
def drZ (Z : List (List Pc × Int)) : List D := Z.map fun x => .tup [.lst (x.1.map rwD), .int x.2]
def neZ (CN CP CS : Addr) (Z : List (List Pc × Int)) : List D := Z.map fun x => nsD CN CP CS x.2 x.1
/-- chains as they are kept -/
def chD (cs : List (List Pc)) : List D := cs.map fun zs => .lst (zs.map rwD)
section
variable {P : Program} {w : World} {K : PySem.W.Frag} {mg : Str → Option Value} {base : Heap}
theorem ok_law {f : Addr} {fd : FuncData} {C_Sides C_Parcel C_Heap C_Nest C_NoNumber C_NoSide C_NoSides C_NoOrder C_NoParcel C_NotInHeap : Addr} {f__law_cell f__law_purse f__law_take f__law_rows f__law_spare f__law_heap f__law_outwards f__law_chain f_Nest f__law_refused f__law_strange f__law_right f_Heap_out : Addr} {g__law_cell g__law_purse g__law_take g__law_rows g__law_spare g__law_heap g__law_outwards g__law_chain g_Nest g__law_refused g__law_strange g__law_right g_Heap_out : FuncData}
    (F : Fd K "law" "law" s_law [] f fd) (T : Tx K mg) (hsys : SysOk base)
    (c__law_cell : Cf P w K mg base (L2.CX P w) 1 "_law_cell" s__law_cell [] a__law_cell p__law_cell f__law_cell g__law_cell)
    (c__law_purse : Cf P w K mg base (L2.CX P w) 1 "_law_purse" s__law_purse [] a__law_purse p__law_purse f__law_purse g__law_purse)
    (c__law_take : Cf P w K mg base (L2.CX P w) 1 "_law_take" s__law_take [] a__law_take p__law_take f__law_take g__law_take)
    (c__law_rows : Cf P w K mg base (L2.CX P w) 4 "_law_rows" s__law_rows [] a__law_rows p__law_rows f__law_rows g__law_rows)
    (c__law_spare : Cf P w K mg base (L2.CX P w) 2 "_law_spare" s__law_spare [] a__law_spare p__law_spare f__law_spare g__law_spare)
    (c__law_heap : Cf P w K mg base (L2.CX P w) 6 "_law_heap" s__law_heap [] a__law_heap (p_heap C_Heap C_Parcel C_Sides) f__law_heap g__law_heap)
    (c__law_outwards : Cf P w K mg base (L2.CX P w) 3 "_law_outwards" s__law_outwards [] a__law_outwards p__law_outwards f__law_outwards g__law_outwards)
    (c__law_chain : Cf P w K mg base (L2.CX P w) 2 "_law_chain" s__law_chain [] a__law_chain p__law_chain f__law_chain g__law_chain)
    (c_Nest : Kf P w K mg base 11 "Nest" C_Nest "Nest.__init__" s_Nest___init__ [.int 0] a_Nest___init__ (p_Ns_init C_Nest C_Heap C_Parcel C_Sides) f_Nest g_Nest)
    (c__law_refused : Cf P w K mg base (L2.CX P w) 4 "_law_refused" s__law_refused [] a__law_refused (p__law_refused C_Nest C_Parcel C_Sides) f__law_refused g__law_refused)
    (c__law_strange : Cf P w K mg base (L2.CX P w) 5 "_law_strange" s__law_strange [] a__law_strange (p__law_strange C_Sides) f__law_strange g__law_strange)
    (c__law_right : Cf P w K mg base (L2.CX P w) 4 "_law_right" s__law_right [] a__law_right (p__law_right C_Nest C_Parcel C_Sides) f__law_right g__law_right)
    (c_Heap_out : Mf P w K mg base 3 C_Heap "out" "Heap.out" s_Heap_out [] a_Heap_out (p_Hp_out C_Heap C_Parcel C_Sides) f_Heap_out g_Heap_out)
    (k_Nest : Kl_Nest K mg C_Nest)
    (k_Heap : Kl_Heap K mg C_Heap)
    (k_Parcel : Kl_Parcel K mg C_Parcel)
    (k_Sides : Kl_Sides K mg C_Sides) :
    FnG P w K mg base (L2.CX P w) 20 f fd a_law (spOf K p_law) := by
  refine VS.unbox ?_
  simp (disch := with_unfolding_all
    have kc_Nest := k_Nest.ins.cl
    have ka_Nest_layers := k_Nest.a_layers
    have ka_Nest_ways := k_Nest.a_ways
    have kc_Heap := k_Heap.ins.cl
    have ka_Heap_held := k_Heap.a_held
    have ka_Heap_told := k_Heap.a_told
    have ka_Heap_kind := k_Heap.a_kind
    have kc_Parcel := k_Parcel.ins.cl
    have ka_Parcel_called := k_Parcel.a_called
    have ka_Parcel_outside := k_Parcel.a_outside
    have ka_Parcel_thick := k_Parcel.a_thick
    have ka_Parcel_heavy := k_Parcel.a_heavy
    have ka_Parcel_strong := k_Parcel.a_strong
    have ka_Parcel_marks := k_Parcel.a_marks
    have ka_Parcel_told := k_Parcel.a_told
    have ka_Parcel_names := k_Parcel.a_names
    have kc_Sides := k_Sides.ins.cl
    have ka_Sides_three := k_Sides.a_three
    refine fn_val F sc_law (fun ds S G Y h => ?_) (fun cdv A hgd outer s H E hr px tk po ds S G Y h => ?_)
    · obtain ⟨ns, rfl, _⟩ := h
      rfl
    · obtain ⟨ns, rfl, hn, q⟩ := h
      refine ⟨_, (pss_cons (ps_for po rfl (pi_range1 (by rfl) T.b_range (pa_cons (pe_callB (c_max2 rfl) (by rfl) T.b_max (by decide +kernel) (pa_cons pe_int (pa_cons (pe_callB (c_min2 rfl) (by rfl) T.b_min (by decide +kernel) (pa_cons pe_int (pa_cons (pe_callB c_len (by rfl) T.b_len (by decide +kernel) (pa_cons (pv 0) pa_nil)) pa_nil))) pa_nil))) pa_nil)) (pg_name (i := 1) sc_law.nd rfl (Or.inl rfl))
        (pss_cons (ps_set (i := 2) sc_law.nd rfl (Or.inl rfl) (pe_cG c__law_purse.fn hgd (hr.mono (by decide)) (by rfl) c__law_purse.mg c__law_purse.kp c__law_purse.b .nil VS.pass0 (pa_cons (pe_cG c__law_cell.fn hgd (hr.mono (by decide)) (by rfl) c__law_cell.mg c__law_cell.kp c__law_cell.b .nil VS.pass0 (pa_cons (pv 0) (pa_cons (pv 1) pa_nil))) pa_nil)))
        (pss_cons (ps_set (i := 3) sc_law.nd rfl (Or.inl rfl) (pe_cG c__law_spare.fn hgd (hr.mono (by decide)) (by rfl) c__law_spare.mg c__law_spare.kp c__law_spare.b .nil VS.pass0 (pa_cons (pv 2) pa_nil)))
        (pss_cons (ps_set (i := 4) sc_law.nd rfl (Or.inr rfl) (pe_cG c__law_rows.fn hgd (hr.mono (by decide)) (by rfl) c__law_rows.mg c__law_rows.kp c__law_rows.b .nil VS.pass0 (pa_cons (pv 2) (pa_cons (pv 3) pa_nil))))
        (pss_cons (ps_set (i := 5) sc_law.nd rfl (Or.inr rfl) (pe_cG c__law_heap.fn hgd (hr.mono (by decide)) (by rfl) c__law_heap.mg c__law_heap.kp c__law_heap.b .nil VS.pass0 (pa_cons (pv 4) pa_nil)))
        (pss_cons (ps_set (i := 6) sc_law.nd rfl (Or.inl rfl) (pe_cG c__law_outwards.fn hgd (hr.mono (by decide)) (by rfl) c__law_outwards.mg c__law_outwards.kp c__law_outwards.b .nil VS.pass0 (pa_cons (pv 4) (pa_cons (pv 3) pa_nil))))
        (pss_cons (ps_set (i := 7) sc_law.nd rfl (Or.inr rfl) (pe_lc (own := [("_law_row_here", 16)]) rfl sc_law.nd (pi_list (pv 4)) (blkOk_by (own := [("_law_row_here", 16)]) (N := n_law) (sc := defScope s_law) (by decide +kernel)) (fun _ _ _ _ _ => (pg_name (i := 16) sc_law.nd rfl (Or.inl rfl))) (fun _ _ _ _ _ => pts_nil) (fun _ _ _ _ _ => (pe_ix (kI (K := K) (r := rIxL) ix_list) (pv 16) pe_int (fun _ _ => rfl)))))
        (pss_cons (ps_set (i := 8) sc_law.nd rfl (Or.inl rfl) (pe_lst pa_nil))
        (pss_cons (ps_for po rfl (pi_list (pe_lst (pa_cons (pe_cG c__law_chain.fn hgd (hr.mono (by decide)) (by rfl) c__law_chain.mg c__law_chain.kp c__law_chain.b .nil VS.pass0 (pa_cons (pv 2) (pa_cons (pv 6) pa_nil))) (pa_cons (pe_cG c__law_chain.fn hgd (hr.mono (by decide)) (by rfl) c__law_chain.mg c__law_chain.kp c__law_chain.b .nil VS.pass0 (pa_cons (pv 2) (pa_cons (pv 6) pa_nil))) pa_nil)))) (pg_name (i := 9) sc_law.nd rfl (Or.inl rfl))
        (pss_one (ps_expr (pe_bm PySem.F.plainAttrs_list PySem.F.slot_list_append PySem.F.type_list_append mt_append (pv 8) (pa_cons (pe_lc (own := [("_law_name", 17)]) rfl sc_law.nd (pi_list (pv 9)) (blkOk_by (own := [("_law_name", 17)]) (N := n_law) (sc := defScope s_law) (by decide +kernel)) (fun _ _ _ _ _ => (pg_name (i := 17) sc_law.nd rfl (Or.inl rfl))) (fun _ _ _ _ _ => pts_nil) (fun _ _ _ _ _ => (pe_ix (kI (K := K) (r := rIxL) ix_list) (pv 4) (kBM (K := K) (pe_bm PySem.F.plainAttrs_list PySem.F.slot_list_index PySem.F.type_list_index (VS.kMt (K := K) (r := rIndex) mt_index) (pv 7) (pa_cons (pv 17) pa_nil))) (fun _ _ => rfl)))) pa_nil)))))
        (pss_cons (ps_if (pt_cmpR (op_eqE hr) (pv 4) (pe_lst pa_nil) (nomark _)) (pss_one (ps_set (i := 8) sc_law.nd rfl (Or.inl rfl) (pe_lst pa_nil)))
        pss_nil)
        (pss_cons (ps_set (i := 10) sc_law.nd rfl (Or.inl rfl) (pe_cG c__law_take.fn hgd (hr.mono (by decide)) (by rfl) c__law_take.mg c__law_take.kp c__law_take.b .nil VS.pass0 (pa_cons (pv 2) (pa_cons (pe_op op_add (pv 3) pe_int) pa_nil))))
        (pss_cons (ps_setLc (i := 11) (own := [("_law_chain_here", 14), ("_law_gap", 15)]) rfl sc_law.nd rfl rfl (sw_true rfl rfl rfl (by decide +kernel)) (pi_zip (by rfl) T.b_zip (pa_cons (pe_op op_cat (pe_op op_cat (pv 8) (pv 8)) (pe_slice sl_list (pv 8) po_none (po_some pe_int))) (pa_cons (pe_lst (pa_cons (pv 3) (pa_cons (pv 3) (pa_cons (pv 10) (pa_cons (pv 10) (pa_cons pe_int pa_nil)))))) pa_nil))) (blkOk_by (own := [("_law_chain_here", 14), ("_law_gap", 15)]) (N := n_law) (sc := defScope s_law) (by decide +kernel)) (fun _ _ _ _ _ => (kTup (K := K) (pg_tup (n := 2) rfl (pgs_cons (pg_name (i := 14) sc_law.nd rfl (Or.inl rfl)) (pgs_cons (pg_name (i := 15) sc_law.nd rfl (Or.inl rfl)) pgs_nil))))) (fun _ _ _ _ _ => pts_nil) (fun _ _ _ _ _ => (pe_tup (pa_cons (pv 14) (pa_cons (pv 15) pa_nil)))))
        (pss_cons (ps_setLc (i := 12) (own := [("_law_chain_here", 14), ("_law_gap", 15)]) rfl sc_law.nd rfl rfl (sw_true rfl rfl rfl (by decide +kernel)) (pi_list (pv 11)) (blkOk_by (own := [("_law_chain_here", 14), ("_law_gap", 15)]) (N := n_law) (sc := defScope s_law) (by decide +kernel)) (fun _ _ _ _ _ => (kTup (K := K) (pg_tup (n := 2) rfl (pgs_cons (pg_name (i := 14) sc_law.nd rfl (Or.inl rfl)) (pgs_cons (pg_name (i := 15) sc_law.nd rfl (Or.inl rfl)) pgs_nil))))) (fun _ _ _ _ _ => pts_nil) (fun _ _ _ _ _ => (pe_kG c_Nest.mk_ c_Nest.fn hgd (hr.mono (by decide)) (by rfl) c_Nest.mg  c_Nest.b .nil VS.pass0 (pa_cons (pv 5) (pa_cons (pe_lc (own := [("_law_row_here", 16)]) rfl sc_law.nd (VS.pi_listK (K := K) (pv 14)) (VS.blkOk_c (own := [("_law_row_here", 16)]) (N := n_law) (by decide +kernel)) (fun _ _ _ _ _ => (pg_name (i := 16) sc_law.nd rfl (Or.inl rfl))) (fun _ _ _ _ _ => pts_nil) (fun _ _ _ _ _ => (pe_ix (kI (K := K) (r := rIxL) ix_list) (pv 16) pe_int (fun _ _ => rfl)))) (pa_cons (pv 15) pa_nil))))))
        (pss_cons (ps_if (PW.pt (pw_and (pt_cmpR (op_neE hr) (pv 8) (pe_lst pa_nil) (nomark _)) (pw_and1 (pt_not (pt_val (pe_cG c__law_refused.fn hgd (hr.mono (by decide)) (by rfl) c__law_refused.mg c__law_refused.kp c__law_refused.b .nil VS.pass0 (pa_cons (pe_ix ix_list (pv 12) pe_int (fun _ _ => rfl)) (pa_cons (pe_cG c__law_strange.fn hgd (hr.mono (by decide)) (by rfl) c__law_strange.mg c__law_strange.kp c__law_strange.b .nil VS.pass0 (pa_cons (pv 2) (pa_cons (pv 4) (pa_cons (pe_ix ix_list (pv 8) pe_int (fun _ _ => rfl)) pa_nil)))) pa_nil)))))))) (pss_one (ps_ret pe_bl))
        pss_nil)
        (pss_one (ps_for po rfl (pi_list (pe_lst (pa_cons pe_int (pa_cons pe_int (pa_cons pe_int (pa_cons pe_int (pa_cons pe_int (pa_cons pe_int (pa_cons pe_int pa_nil))))))))) (pg_name (i := 13) sc_law.nd rfl (Or.inl rfl))
        (pss_cons (ps_if (pt_cmpR (op_eqE hr) (pv 8) (pe_lst pa_nil) (nomark _)) (pss_one ps_continue)
        pss_nil)
        (pss_cons (ps_asg (pe_ix ix_list (pv 11) (pv 13) (fun _ _ => rfl)) (pg_tup (n := 2) rfl (pgs_cons (pg_name (i := 14) sc_law.nd rfl (Or.inl rfl)) (pgs_cons (pg_name (i := 15) sc_law.nd rfl (Or.inl rfl)) pgs_nil))))
        (pss_cons (ps_if (pt_not (pt_val (pe_cG c__law_right.fn hgd (hr.mono (by decide)) (by rfl) c__law_right.mg c__law_right.kp c__law_right.b .nil VS.pass0 (pa_cons (pv 2) (pa_cons (pe_ix ix_list (pv 12) (pv 13) (fun _ _ => rfl)) (pa_cons (pv 14) (pa_cons (pv 15) pa_nil))))))) (pss_one (ps_ret pe_bl))
        pss_nil)
        (pss_cons (ps_if (pt_cmpR op_eq (pv 13) pe_int (nomark _)) (pss_one (ps_expr (pe_mG (pv 5) c_Heap_out.cl c_Heap_out.me c_Heap_out.fn hgd (hr.mono (by decide)) c_Heap_out.b .nil VS.pass0 (pa_cons (pe_ix ix_list (pe_ix ix_list (pv 14) pe_int (fun _ _ => rfl)) pe_int (fun _ _ => rfl)) pa_nil))))
        pss_nil)
        (pss_one (ps_if (pt_not (pt_val (pe_cG c__law_refused.fn hgd (hr.mono (by decide)) (by rfl) c__law_refused.mg c__law_refused.kp c__law_refused.b .nil VS.pass0 (pa_cons (pe_ix ix_list (pv 12) (pv 13) (fun _ _ => rfl)) (pa_cons (pe_cG c__law_strange.fn hgd (hr.mono (by decide)) (by rfl) c__law_strange.mg c__law_strange.kp c__law_strange.b .nil VS.pass0 (pa_cons (pv 2) (pa_cons (pv 4) (pa_cons (pv 14) pa_nil)))) pa_nil))))) (pss_one (ps_ret pe_bl))
        pss_nil))))))))))))))))))))))
        (pss_one (ps_ret pe_bl))), ?_⟩
      (try dsimp only [cxOf, List.map])
      show VX _ _ [_, _, _, _, _, _, _, _, _, _, _, _, _, _, _, _, _, _] _ _
      walk_at "gr"
      refine vx_for (vi_cells (by decide) (by decide) (by decide) rfl fun j j0 j1 => ?_)
      refine ⟨fun i ρ2 S2 => ∃ x1 x2 x3 x4 x5 x6 x7 x8 x9 x10 x11 x12 x13 x14 x15, ρ2 = [some (.rol (ns.map .int)), x1, x2, x3, x4, x5, x6, x7, x8, x9, x10, x11, x12, x13, x14, x15, none, none], ⟨_, _, _, _, _, _, _, _, _, _, _, _, _, _, _, rfl⟩, ?_, ?_⟩
      · rintro i0 d_ _ S2 hd_ ⟨x1, x2, x3, x4, x5, x6, x7, x8, x9, x10, x11, x12, x13, x14, x15, rfl⟩
        obtain ⟨rfl, hi⟩ := rngD_at hd_
        walk_at "gr"
        intro p S3 hp0 h3 o3
        clear o3 hp0
        walk_at "gr"
        refine ⟨p, _, rfl, h3, by decide, fun sp S4 s0 s1 h4 o4 => ?_⟩
        clear h3 o4
        walk_at "gr"
        refine ⟨p, _, sp, rfl, h4, by decide, s0, s1, fun rs S5 hrs h5 o5 => ?_⟩
        clear h4 o5
        walk_at "gr"
        refine ⟨rs, rfl, hrs, fun h k S6 nh nk x6 hs6 => ?_⟩
        have w : Wd S6 p 1003 [(h, hpD C_Heap k), (k, .lst (rs.map (Pc.d C_Parcel C_Sides)))] := ((Wd.of h5).newE2 nh nk hs6.ne x6 hs6.1 hs6.2).mono (by decide)
        clear h5 nh nk x6 hs6
        walk_at "gr"
        refine ⟨rs, sp, rfl, hrs, s0, fun d as S7 nd la na da sa e7 hd ha => ?_⟩
        have w7 := w.ext e7
        refine vg_name ?_
        show VX _ _ [some (.rol (ns.map .int)), some (.int (i0 : Nat)), some (.ref p), some (.int sp), some (.lst (rs.map rwD)), some (.ref h), some (.ref d), x7, x8, x9, x10, x11, x12, x13, x14, x15, none, none] S7 _
        refine vx_see (fun a => a = d ∨ a ∈ as) (fun a ha' => ?_) (VdR.refl.set 6 rfl (d' := .dK (rs.map fun p => ((.inr p.nm : Key), nmD (goN sp rs p)))) (.c (d := .dK (inD2 rs as)) ?_ nofun (.dK (vdK_in la fun i a p e1 e2 => ?_)))) ?_
        · rcases ha' with rfl | ha'
          · exact ⟨_, hd, nofun⟩
          · obtain ⟨i, hi⟩ := List.getElem?_of_mem ha'
            obtain ⟨p, hp⟩ : ∃ p, rs[i]? = some p := ⟨_, List.getElem?_eq_getElem (by have := (List.getElem?_eq_some_iff.mp hi).1; omega)⟩
            exact ⟨_, ha i a p hi hp, nofun⟩
        · rw [onlyA_in (.inl rfl)]
          exact hd
        · rw [onlyA_in (.inr (List.mem_of_getElem? e1))]
          exact ha i a p e1 e2
        rw [ou_of hrs.n]
        show VX _ _ [some (.rol (ns.map .int)), some (.int (i0 : Nat)), some (.ref p), some (.int sp), some (.lst (rs.map rwD)), some (.ref h), some (.dK (ouDs (rs.map Pc.nm) (Eof sp rs))), x7, x8, x9, x10, x11, x12, x13, x14, x15, none, none] _ _
        have e8 : Ext S6 (cutA (fun a => a = d ∨ a ∈ as) S7) := ext_cut e7 fun a ha => by
          rcases ha with rfl | ha
          · exact nd
          · exact sa a ha
        have w8 := w.ext e8
        generalize cutA (fun a => a = d ∨ a ∈ as) S7 = S8 at w8 ⊢
        clear w7 hd ha e7 da na la sa nd d as e8 w
        have hps := hrs.hps
        have r12 := hrs.l
        have lr : (rs.map rwD).length = rs.length := List.length_map ..
        have er : ∀ x, rwD x = .lst [.str x.nm, li x.a x.b x.c, .int x.wl, .int x.wt, .int x.br, .lst (x.mk.map D.str)] := fun _ => rfl
        walk_at "gr"
        refine ve_lcM nmF (vi_list ?_)
        walk_at "gr"
        refine ⟨_, .v, by rw [lr]; omega, fun d hd => ?_, ?_⟩
        · obtain ⟨x, hx, rfl⟩ := List.mem_map.mp hd
          rw [er]
          walk_at "gr"
          refine ⟨rfl, ?_⟩
          walk_at "gr"
          exact ⟨rfl, rfl⟩
        rw [nmF_rows]
        walk_at "gr"
        refine ve_lstc ?_
        walk_at "gr"
        intro c hc
        have w9 := w8.new (d := .lst (chD [])) hc
        have ec : (.lst [] : D) = .lst (chD []) := rfl
        rw [ec]
        generalize VS.put S8 c (.lst (chD [])) = S9 at w9 ⊢
        clear w8
        walk_at "gr"
        have nl12 : (rs.map Pc.nm).length ≤ 12 := by rw [List.length_map]; exact r12
        have eh1 : ∀ x ∈ rs.map Pc.nm, ∀ y ∈ Eof sp rs x, y ∈ rs.map Pc.nm := fun x _ y hy => Eof_in hy
        have eh2 : ∀ x ∈ rs.map Pc.nm, (Eof sp rs x).length ≤ 12 := fun x _ => Nat.le_trans Eof_len r12
        refine vx_for (vi_list ?_)
        refine ve_lst ?_
        walk_at "gr"
        refine ⟨p, _, rs.map Pc.nm, Eof sp rs, _, rfl, w9, by decide, nl12, eh1, eh2, fun ma S10 na ia pa la w10 => ?_⟩
        clear w9
        walk_at "gr"
        refine ⟨p, _, rs.map Pc.nm, Eof sp rs, _, rfl, w10, by decide, nl12, eh1, eh2, fun mb S11 nb ib pb lb w11 => ?_⟩
        clear w10
        walk_at "gr"
        have gd : ∀ d ∈ [nmD ma, nmD mb], ∃ ms : List Str, d = nmD ms ∧ (ms = [] ↔ rs = []) ∧ (∀ z ∈ ms, z ∈ rs.map Pc.nm) ∧ Pth (Eof sp rs) ms ∧ ms.length ≤ 13 := fun d hd => by
          have en : rs.map Pc.nm = [] ↔ rs = [] := List.map_eq_nil_iff
          rcases List.mem_cons.mp hd with e | hd
          · exact ⟨ma, e, na.trans en, ia, pa, la⟩
          · exact ⟨mb, List.mem_singleton.mp hd, nb.trans en, ib, pb, lb⟩
        refine ⟨_, .v, fun i ρ2 S12 => ∃ (cs : List (List Pc)) (y9 : Option D), cs.length = i ∧ (∀ zs ∈ cs, (zs = [] ↔ rs = []) ∧ (∀ z ∈ zs, z ∈ rs) ∧ Pth (Eof sp rs) (zs.map Pc.nm)) ∧ Wd S12 p 1123 ((c, .lst (chD cs)) :: [(h, hpD C_Heap k), (k, .lst (rs.map (Pc.d C_Parcel C_Sides)))]) ∧ ρ2 = [some (.rol (ns.map .int)), some (.int (i0 : Nat)), some (.ref p), some (.int sp), some (.lst (rs.map rwD)), some (.ref h), some (.dK (ouDs (rs.map Pc.nm) (Eof sp rs))), some (.lst ((rs.map Pc.nm).map D.str)), some (.ref c), y9, x10, x11, x12, x13, x14, x15, none, none], ⟨[], _, rfl, nofun, w11.mono (by decide), rfl⟩, ?_, ?_⟩
        · rintro i d _ S12 hd ⟨cs, y9, cl, hcs, w12, rfl⟩
          have il : i < 2 := (List.getElem?_eq_some_iff.mp hd).1
          obtain ⟨ms, rfl, n1, n2, n3, n4⟩ := gd d (List.mem_of_getElem? hd)
          obtain ⟨zs, ez, zm⟩ := pcs_of n2
          subst ez
          rw [List.length_map] at n4
          unfold nmD
          walk_at "gr"
          refine ve_lc (vi_list ?_)
          walk_at "gr"
          refine ⟨_, .v, by rw [List.length_map, List.length_map]; omega, fun i acc S13 => acc = (zs.take i).map rwD ∧ S13 = S12, ⟨rfl, rfl⟩, ?_, ?_⟩
          · rintro m dz acc S13 hdz ⟨rfl, rfl⟩ _
            rw [List.map_map, List.getElem?_map] at hdz
            cases e : zs[m]? with
            | none => rw [e] at hdz; cases hdz
            | some z =>
              rw [e] at hdz
              cases hdz
              obtain ⟨t, ht⟩ := List.getElem?_of_mem (zm z (List.mem_of_getElem? e))
              have tk : zs.take (m + 1) = zs.take m ++ [z] := by rw [List.take_succ, e]; rfl
              have r1 : atI (rs.map rwD) ((t : Nat) : Int) = some (rwD z) := atI_nat (by rw [List.getElem?_map, ht]; rfl)
              refine vgw_name (by simp) (vt_yes ⟨fun _ => ?_, nofun⟩)
              refine ve_op (ve_var rfl (ve_bmV (ve_var rfl ⟨_, .v, va_cons (ve_var rfl (va_nil ?_))⟩)))
              refine rm_indexS (j := t) .v hrs.n (by rw [List.getElem?_map, ht]; rfl) ?_
              refine rv_ixL .v r1 ⟨?_, rfl⟩
              rw [tk, List.map_append]
              rfl
          · rintro acc S13 ⟨rfl, rfl⟩ _
            rw [List.length_map, List.length_map, List.take_length]
            walk_at "gr"
            refine rm_append w12.g0 (by unfold chD; rw [List.length_map]; have := szl; omega) ?_
            refine ⟨cs ++ [zs], _, by rw [List.length_append, cl]; rfl, fun ys hy => ?_, ?_, rfl⟩
            · rcases List.mem_append.mp hy with hy | hy
              · exact hcs ys hy
              · rw [List.mem_singleton.mp hy]
                exact ⟨List.map_eq_nil_iff.symm.trans n1, zm, n3⟩
            · have e : chD (cs ++ [zs]) = chD cs ++ [.lst (zs.map rwD)] := by unfold chD; rw [List.map_append]; rfl
              rw [e]
              exact w12.wr 0 rfl
        · rintro _ S12 ⟨cs, y9, cl, hcs, w12, rfl⟩
          clear w11 gd
          have cl : cs.length = 2 := cl
          refine vx_join (fun ρ2 S13 => ∃ (c' : Addr) (cs' : List (List Pc)), (rs = [] → cs' = []) ∧ (rs ≠ [] → ∃ za zb, cs' = [za, zb] ∧ Chn sp rs za ∧ Chn sp rs zb) ∧ Wd S13 p 1123 ((c', .lst (chD cs')) :: [(h, hpD C_Heap k), (k, .lst (rs.map (Pc.d C_Parcel C_Sides)))]) ∧ ρ2 = [some (.rol (ns.map .int)), some (.int (i0 : Nat)), some (.ref p), some (.int sp), some (.lst (rs.map rwD)), some (.ref h), some (.dK (ouDs (rs.map Pc.nm) (Eof sp rs))), some (.lst ((rs.map Pc.nm).map D.str)), some (.ref c'), y9, x10, x11, x12, x13, x14, x15, none, none]) ?_ ?_
          · walk_at "gr"
            refine ve_lst ?_
            walk_at "gr"
            refine ⟨fun hb => ?_, fun hb => ?_⟩
            · have r0 : rs = [] := by
                cases rs with
                | nil => rfl
                | cons x r => cases hb
              walk_at "gr"
              refine ve_lstc ?_
              walk_at "gr"
              intro c' hc'
              walk_at "gr"
              exact ⟨c', [], fun _ => rfl, fun z => absurd r0 z, (w12.tl).new hc', rfl⟩
            · have r0 : rs ≠ [] := fun z => by
                rw [z] at hb
                cases hb
              walk_at "gr"
              match cs, cl, hcs with
              | [za, zb], _, hcs =>
                obtain ⟨a1, a2, a3⟩ := hcs za (by simp)
                obtain ⟨b1, b2, b3⟩ := hcs zb (by simp)
                exact ⟨c, [za, zb], fun z => absurd z r0, fun _ => ⟨za, zb, rfl, ⟨a2, goes_pth hps a2 a3, fun z => r0 (a1.mp z)⟩, ⟨b2, goes_pth hps b2 b3, fun z => r0 (b1.mp z)⟩⟩, w12, rfl⟩
          rintro _ S13 ⟨c', cs', g0, g1, w13, rfl⟩
          clear w12 hcs cl
          refine vx_freeze 8 rfl w13.g0 ?_
          have w14 : Wd (VS.del S13 c') p 1123 [(h, hpD C_Heap k), (k, .lst (rs.map (Pc.d C_Parcel C_Sides)))] := w13.dl 0 rfl
          generalize VS.del S13 c' = S14 at w14 ⊢
          clear w13
          walk_at "gr"
          intro less S15 l0 l1 w15
          clear w14
          obtain ⟨Z, eZ, hZ, hZ0⟩ : ∃ Z : List (List Pc × Int), zipD (chD cs' ++ chD cs' ++ VS.cutD (chD cs') none (some 1)) [.int sp, .int sp, .int less, .int less, .int 0] = drZ Z ∧ (∀ x ∈ Z, Chn x.2 rs x.1 ∧ 0 ≤ x.2 ∧ x.2 ≤ 1000) ∧ ((rs = [] ∧ cs' = [] ∧ Z = []) ∨ (rs ≠ [] ∧ ∃ za zb, cs' = [za, zb] ∧ Z = [(za, sp), (zb, sp), (za, less), (zb, less), (za, 0)])) := by
            by_cases r0 : rs = []
            · rw [g0 r0]
              exact ⟨[], rfl, nofun, .inl ⟨r0, rfl, rfl⟩⟩
            · obtain ⟨za, zb, ec, ca, cb⟩ := g1 r0
              refine ⟨[(za, sp), (zb, sp), (za, less), (zb, less), (za, 0)], by rw [ec]; rfl, fun x hx => ?_, .inr ⟨r0, za, zb, ec, rfl⟩⟩
              simp only [List.mem_cons, List.not_mem_nil, or_false] at hx
              rcases hx with rfl | rfl | rfl | rfl | rfl
              · exact ⟨ca, s0, s1⟩
              · exact ⟨cb, s0, s1⟩
              · exact ⟨ca.mono (by omega), l0, by show less ≤ 1000; omega⟩
              · exact ⟨cb.mono (by omega), l0, by show less ≤ 1000; omega⟩
              · exact ⟨ca.mono s0, Int.le_refl _, by show (0 : Int) ≤ 1000; decide⟩
          have lens : (chD cs').length ≤ 2 ∧ (VS.cutD (chD cs') none (some 1)).length ≤ 1 := by
            rcases hZ0 with ⟨_, e, _⟩ | ⟨_, za, zb, e, _⟩
            · rw [e]; exact ⟨by decide, by decide⟩
            · rw [e]; exact ⟨Nat.le_refl 2, Nat.le_refl 1⟩
          have l1' := lens.1
          have l2' := lens.2
          clear lens g0 g1
          have hz := szl
          walk_at "gr"
          refine ve_lcM id (vi_zip ?_)
          walk_at "ga"
          refine rv_cat .v .v (by omega) ?_
          walk_at "ga"
          refine ⟨_, _, _, _, rfl, .v, .v, ?_⟩
          rw [eZ]
          have Zl : Z.length ≤ 5 := by
            rcases hZ0 with ⟨_, _, e⟩ | ⟨_, za, zb, _, e⟩
            · rw [e]; decide
            · rw [e]; exact Nat.le_refl 5
          refine ⟨by unfold drZ; rw [List.length_map]; omega, fun d hd => ?_, ?_⟩
          · obtain ⟨x, hx, rfl⟩ := List.mem_map.mp hd
            walk_at "gr"
            refine ⟨rfl, ?_⟩
            walk_at "gr"
            exact ⟨rfl, rfl⟩
          rw [List.map_id]
          have dl : (drZ Z).length = Z.length := by unfold drZ; rw [List.length_map]
          walk_at "gr"
          refine ve_lc (vi_list ?_)
          walk_at "gr"
          refine ⟨_, .v, by rw [dl]; omega, fun i acc S16 => acc = (neZ C_Nest C_Parcel C_Sides Z).take i ∧ S16 = S15, ⟨rfl, rfl⟩, ?_, ?_⟩
          · rintro i d acc S16 hd ⟨rfl, rfl⟩ _
            unfold drZ at hd
            rw [List.getElem?_map] at hd
            cases e : Z[i]? with
            | none => rw [e] at hd; cases hd
            | some x =>
              rw [e] at hd
              cases hd
              obtain ⟨hc, x0, x1'⟩ := hZ x (List.mem_of_getElem? e)
              have zl := hc.l hps x0
              have znd := hc.nd hps x0
              have tk : (neZ C_Nest C_Parcel C_Sides Z).take (i + 1) = (neZ C_Nest C_Parcel C_Sides Z).take i ++ [nsD C_Nest C_Parcel C_Sides x.2 x.1] := by
                rw [List.take_succ]
                unfold neZ
                rw [List.getElem?_map, e]
                rfl
              have hs : HpS S16 C_Heap C_Parcel C_Sides h k rs := w15.hp 0 1 rfl rfl
              walk_at "gr"
              refine ve_lcM nmF (vi_list ?_)
              walk_at "gr"
              refine ⟨_, .v, by rw [List.length_map]; omega, fun d hd => ?_, ?_⟩
              · obtain ⟨y, hy, rfl⟩ := List.mem_map.mp hd
                rw [er]
                walk_at "gr"
                refine ⟨rfl, ?_⟩
                walk_at "gr"
                exact ⟨rfl, rfl⟩
              rw [nmF_rows]
              walk_at "gr"
              intro y hy
              have nyh : y ≠ h := fun z => by rw [z, hs.1] at hy; cases hy
              have nyk : y ≠ k := fun z => by rw [z, hs.2] at hy; cases hy
              refine ⟨y, h, k, rs, x.1, x.2, rfl, put_same, ⟨(put_ne (Ne.symm nyh)).trans hs.1, (put_ne (Ne.symm nyk)).trans hs.2⟩, hps, hc.m, znd, zl, hc.ne, hc.g, x0, x1', nyh, nyk, ⟨rfl, y, _, rfl, put_same, nofun, ?_⟩⟩
              rw [put_put]
              refine ⟨?_, del_put hy⟩
              rw [tk]
          rintro acc S16 ⟨rfl, rfl⟩ _
          have nl : (neZ C_Nest C_Parcel C_Sides Z).length = Z.length := by unfold neZ; rw [List.length_map]
          rw [dl, List.take_of_length_le (by rw [nl]; omega)]
          refine vg_name ?_
          refine vx_join (fun ρ2 S17 => Wd S17 p 1127 [(h, hpD C_Heap k), (k, .lst (rs.map (Pc.d C_Parcel C_Sides)))] ∧ ρ2 = [some (.rol (ns.map .int)), some (.int (i0 : Nat)), some (.ref p), some (.int sp), some (.lst (rs.map rwD)), some (.ref h), some (.dK (ouDs (rs.map Pc.nm) (Eof sp rs))), some (.lst ((rs.map Pc.nm).map D.str)), some (.lst (chD cs')), y9, some (.int less), some (.lst (drZ Z)), some (.lst (neZ C_Nest C_Parcel C_Sides Z)), x13, x14, x15, none, none]) ?_ ?_
          · walk_at "gr"
            refine ve_lst ?_
            walk_at "gr"
            rcases hZ0 with ⟨r0, rfl, rfl⟩ | ⟨r0, za, zb, rfl, eZ0⟩
            · walk_at "gr"
              exact ⟨w15.mono (by decide), rfl⟩
            · have c0 : atI (chD [za, zb]) 0 = some (.lst (za.map rwD)) := rfl
              have n0 : atI (neZ C_Nest C_Parcel C_Sides Z) 0 = some (nsD C_Nest C_Parcel C_Sides sp za) := by rw [eZ0]; rfl
              obtain ⟨hc, -, -⟩ := hZ (za, sp) (by rw [eZ0]; simp)
              have hc : Chn sp rs za := hc
              walk_at "gr"
              refine rv_ixL .v n0 ?_
              walk_at "gr"
              refine ⟨p, _, _, rs, za, rfl, w15, by decide, hrs, hc.m, hc.ne, hc.l hps s0, fun d S17 M od hM w17 => ?_⟩
              clear w15
              walk_at "gr"
              refine ⟨za, sp, d, rfl, hc.l hps s0, hc.nd hps s0, hc.g, hc.gz hps, s0, od, fun S18 off => ?_⟩
              have w18 := w17.offM hM off
              clear w17
              walk_at "gr"
              exact ⟨w18.mono (by decide), rfl⟩
          rintro _ S17 ⟨w17, rfl⟩
          clear w15
          walk_at "gr"
          refine vx_for (vi_list ?_)
          refine ve_lst ?_
          walk_at "gr"
          refine ⟨_, .v, fun i ρ2 S18 => ∃ (ps : List Pc) (y13 y14 y15 : Option D), (i ≤ 4 → ps = rs) ∧ Hps ps ∧ Wd S18 p (1130 + 20 * (i : Nat)) [(h, hpD C_Heap k), (k, .lst (ps.map (Pc.d C_Parcel C_Sides)))] ∧ ρ2 = [some (.rol (ns.map .int)), some (.int (i0 : Nat)), some (.ref p), some (.int sp), some (.lst (rs.map rwD)), some (.ref h), some (.dK (ouDs (rs.map Pc.nm) (Eof sp rs))), some (.lst ((rs.map Pc.nm).map D.str)), some (.lst (chD cs')), y9, some (.int less), some (.lst (drZ Z)), some (.lst (neZ C_Nest C_Parcel C_Sides Z)), y13, y14, y15, none, none], ⟨rs, _, _, _, fun _ => rfl, hps, w17.mono (by decide), rfl⟩, ?_, ?_⟩
          · rintro i d _ S18 hd ⟨ps, y13, y14, y15, hpi, hpp, w18, rfl⟩
            obtain ⟨a, rfl, a5, a3, i7⟩ := tour i d hd
            clear w17 hd
            walk_at "gr"
            refine ve_lst ?_
            walk_at "gr"
            rcases hZ0 with ⟨r0, rfl, rfl⟩ | ⟨r0, za, zb, rfl, eZ0⟩
            · walk_at "gr"
              exact ⟨ps, _, _, _, fun h => hpi (by omega), hpp, w18.mono (by omega), rfl⟩
            · have z5 : Z.length = 5 := by rw [eZ0]; rfl
              have ex : Z[a]? = some Z[a] := List.getElem?_eq_getElem (by omega)
              obtain ⟨hc, x0, x1'⟩ := hZ _ (List.mem_of_getElem? ex)
              have d1 : atI (drZ Z) ((a : Nat) : Int) = some (.tup [.lst (Z[a].1.map rwD), .int Z[a].2]) := atI_nat (by unfold drZ; rw [List.getElem?_map, ex]; rfl)
              have n1 : atI (neZ C_Nest C_Parcel C_Sides Z) ((a : Nat) : Int) = some (nsD C_Nest C_Parcel C_Sides Z[a].2 Z[a].1) := atI_nat (by unfold neZ; rw [List.getElem?_map, ex]; rfl)
              generalize Z[a] = x at hc x0 x1' d1 n1
              have zl := hc.l hps x0
              have znd := hc.nd hps x0
              have gz := hc.gz hps
              walk_at "gr"
              refine rv_ixL .v d1 ?_
              walk_at "gr"
              refine rv_ixL .v n1 ?_
              walk_at "gr"
              refine ⟨p, _, _, x.1, x.2, rfl, w18, by omega, hc.ne, zl, znd, hc.g, gz, x0, fun S19 w19 => ?_⟩
              clear w18
              walk_at "gr"
              apply joinP (A := fun S20 => ∃ ps' : List Pc, (i + 1 ≤ 4 → ps' = rs) ∧ Hps ps' ∧ Wd S20 p (1130 + 20 * (i : Nat) + 13) [(h, hpD C_Heap k), (k, .lst (ps'.map (Pc.d C_Parcel C_Sides)))])
              · intro R
                refine ⟨fun e3 => ?_, fun _ => ?_⟩
                · have e3 := of_decide_eq_true e3
                  have i4 : i = 4 := a3 (by omega)
                  have e : ps = rs := hpi (by omega)
                  obtain ⟨z, r, ez⟩ := List.exists_cons_of_ne_nil hc.ne
                  have z0 : atI (x.1.map rwD) 0 = some (rwD z) := by rw [ez]; exact atI_zero
                  obtain ⟨t, ht⟩ := List.getElem?_of_mem (hc.m z (by rw [ez]; simp))
                  have hs : HpS S19 C_Heap C_Parcel C_Sides h k ps := w19.hp 0 1 rfl rfl
                  rw [← e] at ht
                  walk_at "gr"
                  refine ⟨_, .c hs.1, rfl, ?_⟩
                  walk_at "gr"
                  refine rv_ixL .v z0 ?_
                  rw [er]
                  walk_at "gr"
                  refine ⟨h, k, ps, t, z, rfl, hs, hpp.l, Hps.frs hpp.n ht, ?_⟩
                  have w20 := w19.wr (d' := .lst ((ps.eraseIdx t).map (Pc.d C_Parcel C_Sides))) 1 rfl
                  generalize VS.put S19 k (.lst ((ps.eraseIdx t).map (Pc.d C_Parcel C_Sides))) = S20 at w20 ⊢
                  have hsub : (ps.eraseIdx t).Sublist ps := List.eraseIdx_sublist ..
                  exact R S20 ⟨ps.eraseIdx t, fun h => by omega, ⟨fun y hy => hpp.g y (hsub.subset hy), hpp.n.sublist (hsub.map _), Nat.le_trans hsub.length_le hpp.l⟩, w20⟩
                · refine vx_next ?_
                  exact R S19 ⟨ps, fun h => hpi (by omega), hpp, w19⟩
              · rintro S20 ⟨ps', hpi', hpp', w20⟩
                clear w19
                walk_at "gr"
                refine rv_ixL .v n1 ?_
                walk_at "gr"
                refine ⟨p, _, _, rs, x.1, rfl, w20, by omega, hrs, hc.m, hc.ne, zl, fun d S21 M od hM w21 => ?_⟩
                clear w20
                walk_at "gr"
                refine ⟨x.1, x.2, d, rfl, zl, znd, hc.g, gz, x0, od, fun S22 off => ?_⟩
                have w22 := w21.offM hM off
                clear w21
                walk_at "gr"
                exact ⟨ps', _, _, _, fun h => hpi' (by omega), hpp', w22.mono (by omega), rfl⟩
          · rintro _ S18 ⟨ps, y13, y14, y15, hpi, hpp, w18, rfl⟩
            walk_at "gr"
            exact ⟨_, _, _, _, _, _, _, _, _, _, _, _, _, _, _, rfl⟩
      · rintro _ S2 ⟨x1, x2, x3, x4, x5, x6, x7, x8, x9, x10, x11, x12, x13, x14, x15, rfl⟩
        walk_at "gr"
        exact q S2) only [↓VS.box]
end
end LW
namespace LW
open PySem L2 C8 PySem.Spec PyProof.Rows
theorem fd_mk {K : PySem.W.Frag} {x qual : Str} {st : Stmt} {f : Addr} {od an : Option Addr} {sl : Array (Option Value)} {oc kV dc pm cd ct : Value}
    (l : K.lookup f = some ⟨oc, od, .func (PySem.W.fnOf x qual (defArgs st) (defBody st) (defScope st) .none kV dc pm an cd ct), sl⟩) (c : PySem.W.codeIn K cd qual = true) (k : PySem.W.keepIn K (.ref f) = true) : VS.Fd K x qual st [] f (PySem.W.fnOf x qual (defArgs st) (defBody st) (defScope st) .none kV dc pm an cd ct) :=
  ⟨⟨oc, od, .none, kV, dc, pm, an, cd, ct, sl, rfl, l, c, .inl ⟨rfl, rfl⟩, .inl rfl⟩, k⟩
theorem fd_mkD {K : PySem.W.Frag} {x qual : Str} {st : Stmt} {dvs : List V} {its : Array Value} {f T : Addr} {od an dd : Option Addr} {sl ds : Array (Option Value)} {oc kV dc pm cd ct dc2 : Value} {dn : Nat}
    (l : K.lookup f = some ⟨oc, od, .func (PySem.W.fnOf x qual (defArgs st) (defBody st) (defScope st) (.ref T) kV dc pm an cd ct), sl⟩) (c : PySem.W.codeIn K cd qual = true) (k : PySem.W.keepIn K (.ref f) = true) (hd : dvs ≠ [])
    (lT : K.lookup T = some ⟨dc2, dd, .seq its dn, ds⟩) (v : Vals dvs its.toList) : VS.Fd K x qual st dvs f (PySem.W.fnOf x qual (defArgs st) (defBody st) (defScope st) (.ref T) kV dc pm an cd ct) :=
  ⟨⟨oc, od, .ref T, kV, dc, pm, an, cd, ct, sl, rfl, l, c, .inr ⟨hd, T, _, its.toList, dn, rfl, lT, by simp, v⟩, .inl rfl⟩, k⟩
theorem all_mk {l : PySem.W.OpenLaw} {w : World} {K : PySem.W.Frag} {h : Heap} {mg : Str → Option Value} {fa C_Sides C_Parcel C_Heap C_Nest C_NoNumber C_NoSide C_NoSides C_NoOrder C_NoParcel C_NotInHeap BNoNumber_0 fXNoNumber BNoSide_0 fXNoSide BNoSides_0 fXNoSides BNoOrder_0 fXNoOrder BNoParcel_0 fXNoParcel BNotInHeap_0 fXNotInHeap f0 f1 f2 f3 f4 f5 f6 f7 f8 f9 f10 f11 T11 f12 f13 f14 T14 f15 f16 f17 T17 f18 f19 f20 f21 T21 f22 f23 f24 f25 f26 f27 T27 f28 f29 f30 f31 f32 f33 f34 f35 f36 f37 f38 f39 f40 f41 f42 f43 f44 f45 f46 f47 f48 f49 f50 f51 : Addr} (X : K.In h) (G : h.Ns mainGlobals mg) (hfa : mg "law" = some (.ref fa))
    (aKSides : PySem.W.nsIn K mainGlobals "Sides" = some (some (.ref C_Sides)))
    (pgKSides : PySem.W.plainGet K C_Sides Str.empty = true)
    (hdKSides : PySem.W.hasDictIn K C_Sides = true)
    (poKSides : PySem.W.plainOver K C_Sides = true)
    (saKSides : PySem.W.findIn K (.ref C_Sides) "__setattr__" = some (some (.builtin "object.__setattr__")))
    (haKSides : PySem.W.findIn K (.ref C_Sides) "__class__" = some (some (.builtin "object.__class__")))
    (hmKSides : PySem.W.mroIn K C_Sides (.type "object") = some true)
    (icKSides : PySem.W.isClsIn K C_Sides = true)
    (tcKSides : PySem.W.typeIn K (.ref C_Sides) = some (.type "type"))
    (nKSides_three : PySem.W.findIn K (.ref C_Sides) "three" = some none)
    (zKSides_int : PySem.W.subIn K (.type "int") (.ref C_Sides) = some false)
    (zKSides_bool : PySem.W.subIn K (.type "bool") (.ref C_Sides) = some false)
    (zKSides_str : PySem.W.subIn K (.type "str") (.ref C_Sides) = some false)
    (zKSides_NoneType : PySem.W.subIn K (.type "NoneType") (.ref C_Sides) = some false)
    (zKSides_list : PySem.W.subIn K (.type "list") (.ref C_Sides) = some false)
    (zKSides_tuple : PySem.W.subIn K (.type "tuple") (.ref C_Sides) = some false)
    (zKSides_dict : PySem.W.subIn K (.type "dict") (.ref C_Sides) = some false)
    (mKSides_0 : PySem.W.subIn K (.ref C_Sides) (.type "str") = some false)
    (mKSides_1 : PySem.W.subIn K (.ref C_Sides) (.type "list") = some false)
    (aKParcel : PySem.W.nsIn K mainGlobals "Parcel" = some (some (.ref C_Parcel)))
    (pgKParcel : PySem.W.plainGet K C_Parcel Str.empty = true)
    (hdKParcel : PySem.W.hasDictIn K C_Parcel = true)
    (poKParcel : PySem.W.plainOver K C_Parcel = true)
    (saKParcel : PySem.W.findIn K (.ref C_Parcel) "__setattr__" = some (some (.builtin "object.__setattr__")))
    (haKParcel : PySem.W.findIn K (.ref C_Parcel) "__class__" = some (some (.builtin "object.__class__")))
    (hmKParcel : PySem.W.mroIn K C_Parcel (.type "object") = some true)
    (icKParcel : PySem.W.isClsIn K C_Parcel = true)
    (tcKParcel : PySem.W.typeIn K (.ref C_Parcel) = some (.type "type"))
    (nKParcel_called : PySem.W.findIn K (.ref C_Parcel) "called" = some none)
    (nKParcel_outside : PySem.W.findIn K (.ref C_Parcel) "outside" = some none)
    (nKParcel_thick : PySem.W.findIn K (.ref C_Parcel) "thick" = some none)
    (nKParcel_heavy : PySem.W.findIn K (.ref C_Parcel) "heavy" = some none)
    (nKParcel_strong : PySem.W.findIn K (.ref C_Parcel) "strong" = some none)
    (nKParcel_marks : PySem.W.findIn K (.ref C_Parcel) "marks" = some none)
    (nKParcel_told : PySem.W.findIn K (.ref C_Parcel) "told" = some none)
    (nKParcel_names : PySem.W.findIn K (.ref C_Parcel) "names" = some none)
    (zKParcel_int : PySem.W.subIn K (.type "int") (.ref C_Parcel) = some false)
    (zKParcel_bool : PySem.W.subIn K (.type "bool") (.ref C_Parcel) = some false)
    (zKParcel_str : PySem.W.subIn K (.type "str") (.ref C_Parcel) = some false)
    (zKParcel_NoneType : PySem.W.subIn K (.type "NoneType") (.ref C_Parcel) = some false)
    (zKParcel_list : PySem.W.subIn K (.type "list") (.ref C_Parcel) = some false)
    (zKParcel_tuple : PySem.W.subIn K (.type "tuple") (.ref C_Parcel) = some false)
    (zKParcel_dict : PySem.W.subIn K (.type "dict") (.ref C_Parcel) = some false)
    (aKHeap : PySem.W.nsIn K mainGlobals "Heap" = some (some (.ref C_Heap)))
    (pgKHeap : PySem.W.plainGet K C_Heap Str.empty = true)
    (hdKHeap : PySem.W.hasDictIn K C_Heap = true)
    (poKHeap : PySem.W.plainOver K C_Heap = true)
    (saKHeap : PySem.W.findIn K (.ref C_Heap) "__setattr__" = some (some (.builtin "object.__setattr__")))
    (haKHeap : PySem.W.findIn K (.ref C_Heap) "__class__" = some (some (.builtin "object.__class__")))
    (hmKHeap : PySem.W.mroIn K C_Heap (.type "object") = some true)
    (icKHeap : PySem.W.isClsIn K C_Heap = true)
    (tcKHeap : PySem.W.typeIn K (.ref C_Heap) = some (.type "type"))
    (nKHeap_held : PySem.W.findIn K (.ref C_Heap) "held" = some none)
    (nKHeap_told : PySem.W.findIn K (.ref C_Heap) "told" = some none)
    (nKHeap_kind : PySem.W.findIn K (.ref C_Heap) "kind" = some none)
    (aKNest : PySem.W.nsIn K mainGlobals "Nest" = some (some (.ref C_Nest)))
    (pgKNest : PySem.W.plainGet K C_Nest Str.empty = true)
    (hdKNest : PySem.W.hasDictIn K C_Nest = true)
    (poKNest : PySem.W.plainOver K C_Nest = true)
    (saKNest : PySem.W.findIn K (.ref C_Nest) "__setattr__" = some (some (.builtin "object.__setattr__")))
    (haKNest : PySem.W.findIn K (.ref C_Nest) "__class__" = some (some (.builtin "object.__class__")))
    (hmKNest : PySem.W.mroIn K C_Nest (.type "object") = some true)
    (icKNest : PySem.W.isClsIn K C_Nest = true)
    (tcKNest : PySem.W.typeIn K (.ref C_Nest) = some (.type "type"))
    (nKNest_layers : PySem.W.findIn K (.ref C_Nest) "layers" = some none)
    (nKNest_ways : PySem.W.findIn K (.ref C_Nest) "ways" = some none)
    (zKNest_int : PySem.W.subIn K (.type "int") (.ref C_Nest) = some false)
    (zKNest_bool : PySem.W.subIn K (.type "bool") (.ref C_Nest) = some false)
    (zKNest_str : PySem.W.subIn K (.type "str") (.ref C_Nest) = some false)
    (zKNest_NoneType : PySem.W.subIn K (.type "NoneType") (.ref C_Nest) = some false)
    (zKNest_list : PySem.W.subIn K (.type "list") (.ref C_Nest) = some false)
    (zKNest_tuple : PySem.W.subIn K (.type "tuple") (.ref C_Nest) = some false)
    (zKNest_dict : PySem.W.subIn K (.type "dict") (.ref C_Nest) = some false)
    (hnO : PySem.W.specialIn K (.builtin "object.__class__") "__get__" = some (some (.builtin "getset_descriptor.__get__"))) (htkO : PySem.W.takesIn K (.builtin "object.__class__") = some true)
    {nmXNoNumber qnXNoNumber : Str} {NXNoNumber : Addr} {bsXNoNumber : List Value} {snXNoNumber : List Str} {suXNoNumber : List Value} {abXNoNumber : Bool} {coXNoNumber : Option Bool} {ddXNoNumber : Option Addr} {k0XNoNumber k1XNoNumber k2XNoNumber k3XNoNumber k5XNoNumber : Option Value}
    (aXNoNumber : PySem.W.nsIn K mainGlobals "NoNumber" = some (some (.ref C_NoNumber)))
    (xXNoNumber : K.lookup C_NoNumber = some (excClassObj nmXNoNumber qnXNoNumber C_NoNumber NXNoNumber bsXNoNumber [.ref BNoNumber_0, .type "ValueError", .type "Exception", .type "BaseException", .type "object"] true snXNoNumber suXNoNumber abXNoNumber coXNoNumber ddXNoNumber k0XNoNumber k1XNoNumber k2XNoNumber k3XNoNumber k5XNoNumber "ValueError.__new__"))
    (saXNoNumber : PySem.W.findIn K (.ref C_NoNumber) "__setattr__" = some (some (.builtin "object.__setattr__")))
    (gaXNoNumber : PySem.W.findIn K (.ref C_NoNumber) "__getattribute__" = some (some (.builtin "BaseException.__getattribute__")))
    (ggXNoNumber : PySem.W.findIn K (.ref C_NoNumber) "__getattr__" = some none)
    (noXNoNumber : PySem.W.findIn K (.ref C_NoNumber) "found" = some none)
    (exXNoNumber : PySem.W.subIn K (.ref C_NoNumber) (.type "BaseException") = some true)
    (tyXNoNumber : PySem.W.typeIn K (.ref C_NoNumber) = some (.type "type"))
    (kcXNoNumber : PySem.W.keepIn K (.ref C_NoNumber) = true)
    (hdXNoNumber : PySem.W.hasDictIn K C_NoNumber = true)
    (iXNoNumber : PySem.W.findIn K (.ref C_NoNumber) "__init__" = some (some (.ref fXNoNumber))) (tXNoNumber : PySem.W.typeIn K (.ref fXNoNumber) = some (.type "function"))
    {odXNoNumber anXNoNumber : Option Addr} {slXNoNumber : Array (Option Value)} {ocXNoNumber kVXNoNumber dcXNoNumber pmXNoNumber cdXNoNumber ctXNoNumber : Value}
    (lXNoNumber : K.lookup fXNoNumber = some ⟨ocXNoNumber, odXNoNumber, .func (PySem.W.fnOf "__init__" "NoNumber.__init__" (defArgs s_NoNumber___init__) (defBody s_NoNumber___init__) (defScope s_NoNumber___init__) .none kVXNoNumber dcXNoNumber pmXNoNumber anXNoNumber cdXNoNumber ctXNoNumber), slXNoNumber⟩) (cXNoNumber : PySem.W.codeIn K cdXNoNumber "NoNumber.__init__" = true) (kXNoNumber : PySem.W.keepIn K (.ref fXNoNumber) = true)
    {nmXNoSide qnXNoSide : Str} {NXNoSide : Addr} {bsXNoSide : List Value} {snXNoSide : List Str} {suXNoSide : List Value} {abXNoSide : Bool} {coXNoSide : Option Bool} {ddXNoSide : Option Addr} {k0XNoSide k1XNoSide k2XNoSide k3XNoSide k5XNoSide : Option Value}
    (aXNoSide : PySem.W.nsIn K mainGlobals "NoSide" = some (some (.ref C_NoSide)))
    (xXNoSide : K.lookup C_NoSide = some (excClassObj nmXNoSide qnXNoSide C_NoSide NXNoSide bsXNoSide [.ref BNoSide_0, .type "ValueError", .type "Exception", .type "BaseException", .type "object"] true snXNoSide suXNoSide abXNoSide coXNoSide ddXNoSide k0XNoSide k1XNoSide k2XNoSide k3XNoSide k5XNoSide "ValueError.__new__"))
    (saXNoSide : PySem.W.findIn K (.ref C_NoSide) "__setattr__" = some (some (.builtin "object.__setattr__")))
    (gaXNoSide : PySem.W.findIn K (.ref C_NoSide) "__getattribute__" = some (some (.builtin "BaseException.__getattribute__")))
    (ggXNoSide : PySem.W.findIn K (.ref C_NoSide) "__getattr__" = some none)
    (noXNoSide : PySem.W.findIn K (.ref C_NoSide) "found" = some none)
    (exXNoSide : PySem.W.subIn K (.ref C_NoSide) (.type "BaseException") = some true)
    (tyXNoSide : PySem.W.typeIn K (.ref C_NoSide) = some (.type "type"))
    (kcXNoSide : PySem.W.keepIn K (.ref C_NoSide) = true)
    (hdXNoSide : PySem.W.hasDictIn K C_NoSide = true)
    (iXNoSide : PySem.W.findIn K (.ref C_NoSide) "__init__" = some (some (.ref fXNoSide))) (tXNoSide : PySem.W.typeIn K (.ref fXNoSide) = some (.type "function"))
    {odXNoSide anXNoSide : Option Addr} {slXNoSide : Array (Option Value)} {ocXNoSide kVXNoSide dcXNoSide pmXNoSide cdXNoSide ctXNoSide : Value}
    (lXNoSide : K.lookup fXNoSide = some ⟨ocXNoSide, odXNoSide, .func (PySem.W.fnOf "__init__" "NoSide.__init__" (defArgs s_NoSide___init__) (defBody s_NoSide___init__) (defScope s_NoSide___init__) .none kVXNoSide dcXNoSide pmXNoSide anXNoSide cdXNoSide ctXNoSide), slXNoSide⟩) (cXNoSide : PySem.W.codeIn K cdXNoSide "NoSide.__init__" = true) (kXNoSide : PySem.W.keepIn K (.ref fXNoSide) = true)
    {nmXNoSides qnXNoSides : Str} {NXNoSides : Addr} {bsXNoSides : List Value} {snXNoSides : List Str} {suXNoSides : List Value} {abXNoSides : Bool} {coXNoSides : Option Bool} {ddXNoSides : Option Addr} {k0XNoSides k1XNoSides k2XNoSides k3XNoSides k5XNoSides : Option Value}
    (aXNoSides : PySem.W.nsIn K mainGlobals "NoSides" = some (some (.ref C_NoSides)))
    (xXNoSides : K.lookup C_NoSides = some (excClassObj nmXNoSides qnXNoSides C_NoSides NXNoSides bsXNoSides [.ref BNoSides_0, .type "ValueError", .type "Exception", .type "BaseException", .type "object"] true snXNoSides suXNoSides abXNoSides coXNoSides ddXNoSides k0XNoSides k1XNoSides k2XNoSides k3XNoSides k5XNoSides "ValueError.__new__"))
    (saXNoSides : PySem.W.findIn K (.ref C_NoSides) "__setattr__" = some (some (.builtin "object.__setattr__")))
    (gaXNoSides : PySem.W.findIn K (.ref C_NoSides) "__getattribute__" = some (some (.builtin "BaseException.__getattribute__")))
    (ggXNoSides : PySem.W.findIn K (.ref C_NoSides) "__getattr__" = some none)
    (noXNoSides : PySem.W.findIn K (.ref C_NoSides) "found" = some none)
    (exXNoSides : PySem.W.subIn K (.ref C_NoSides) (.type "BaseException") = some true)
    (tyXNoSides : PySem.W.typeIn K (.ref C_NoSides) = some (.type "type"))
    (kcXNoSides : PySem.W.keepIn K (.ref C_NoSides) = true)
    (hdXNoSides : PySem.W.hasDictIn K C_NoSides = true)
    (iXNoSides : PySem.W.findIn K (.ref C_NoSides) "__init__" = some (some (.ref fXNoSides))) (tXNoSides : PySem.W.typeIn K (.ref fXNoSides) = some (.type "function"))
    {odXNoSides anXNoSides : Option Addr} {slXNoSides : Array (Option Value)} {ocXNoSides kVXNoSides dcXNoSides pmXNoSides cdXNoSides ctXNoSides : Value}
    (lXNoSides : K.lookup fXNoSides = some ⟨ocXNoSides, odXNoSides, .func (PySem.W.fnOf "__init__" "NoSides.__init__" (defArgs s_NoSides___init__) (defBody s_NoSides___init__) (defScope s_NoSides___init__) .none kVXNoSides dcXNoSides pmXNoSides anXNoSides cdXNoSides ctXNoSides), slXNoSides⟩) (cXNoSides : PySem.W.codeIn K cdXNoSides "NoSides.__init__" = true) (kXNoSides : PySem.W.keepIn K (.ref fXNoSides) = true)
    {nmXNoOrder qnXNoOrder : Str} {NXNoOrder : Addr} {bsXNoOrder : List Value} {snXNoOrder : List Str} {suXNoOrder : List Value} {abXNoOrder : Bool} {coXNoOrder : Option Bool} {ddXNoOrder : Option Addr} {k0XNoOrder k1XNoOrder k2XNoOrder k3XNoOrder k5XNoOrder : Option Value}
    (aXNoOrder : PySem.W.nsIn K mainGlobals "NoOrder" = some (some (.ref C_NoOrder)))
    (xXNoOrder : K.lookup C_NoOrder = some (excClassObj nmXNoOrder qnXNoOrder C_NoOrder NXNoOrder bsXNoOrder [.ref BNoOrder_0, .type "ValueError", .type "Exception", .type "BaseException", .type "object"] true snXNoOrder suXNoOrder abXNoOrder coXNoOrder ddXNoOrder k0XNoOrder k1XNoOrder k2XNoOrder k3XNoOrder k5XNoOrder "ValueError.__new__"))
    (saXNoOrder : PySem.W.findIn K (.ref C_NoOrder) "__setattr__" = some (some (.builtin "object.__setattr__")))
    (gaXNoOrder : PySem.W.findIn K (.ref C_NoOrder) "__getattribute__" = some (some (.builtin "BaseException.__getattribute__")))
    (ggXNoOrder : PySem.W.findIn K (.ref C_NoOrder) "__getattr__" = some none)
    (noXNoOrder : PySem.W.findIn K (.ref C_NoOrder) "found" = some none)
    (exXNoOrder : PySem.W.subIn K (.ref C_NoOrder) (.type "BaseException") = some true)
    (tyXNoOrder : PySem.W.typeIn K (.ref C_NoOrder) = some (.type "type"))
    (kcXNoOrder : PySem.W.keepIn K (.ref C_NoOrder) = true)
    (hdXNoOrder : PySem.W.hasDictIn K C_NoOrder = true)
    (iXNoOrder : PySem.W.findIn K (.ref C_NoOrder) "__init__" = some (some (.ref fXNoOrder))) (tXNoOrder : PySem.W.typeIn K (.ref fXNoOrder) = some (.type "function"))
    {odXNoOrder anXNoOrder : Option Addr} {slXNoOrder : Array (Option Value)} {ocXNoOrder kVXNoOrder dcXNoOrder pmXNoOrder cdXNoOrder ctXNoOrder : Value}
    (lXNoOrder : K.lookup fXNoOrder = some ⟨ocXNoOrder, odXNoOrder, .func (PySem.W.fnOf "__init__" "NoOrder.__init__" (defArgs s_NoOrder___init__) (defBody s_NoOrder___init__) (defScope s_NoOrder___init__) .none kVXNoOrder dcXNoOrder pmXNoOrder anXNoOrder cdXNoOrder ctXNoOrder), slXNoOrder⟩) (cXNoOrder : PySem.W.codeIn K cdXNoOrder "NoOrder.__init__" = true) (kXNoOrder : PySem.W.keepIn K (.ref fXNoOrder) = true)
    {nmXNoParcel qnXNoParcel : Str} {NXNoParcel : Addr} {bsXNoParcel : List Value} {snXNoParcel : List Str} {suXNoParcel : List Value} {abXNoParcel : Bool} {coXNoParcel : Option Bool} {ddXNoParcel : Option Addr} {k0XNoParcel k1XNoParcel k2XNoParcel k3XNoParcel k5XNoParcel : Option Value}
    (aXNoParcel : PySem.W.nsIn K mainGlobals "NoParcel" = some (some (.ref C_NoParcel)))
    (xXNoParcel : K.lookup C_NoParcel = some (excClassObj nmXNoParcel qnXNoParcel C_NoParcel NXNoParcel bsXNoParcel [.ref BNoParcel_0, .type "ValueError", .type "Exception", .type "BaseException", .type "object"] true snXNoParcel suXNoParcel abXNoParcel coXNoParcel ddXNoParcel k0XNoParcel k1XNoParcel k2XNoParcel k3XNoParcel k5XNoParcel "ValueError.__new__"))
    (saXNoParcel : PySem.W.findIn K (.ref C_NoParcel) "__setattr__" = some (some (.builtin "object.__setattr__")))
    (gaXNoParcel : PySem.W.findIn K (.ref C_NoParcel) "__getattribute__" = some (some (.builtin "BaseException.__getattribute__")))
    (ggXNoParcel : PySem.W.findIn K (.ref C_NoParcel) "__getattr__" = some none)
    (noXNoParcel : PySem.W.findIn K (.ref C_NoParcel) "found" = some none)
    (exXNoParcel : PySem.W.subIn K (.ref C_NoParcel) (.type "BaseException") = some true)
    (tyXNoParcel : PySem.W.typeIn K (.ref C_NoParcel) = some (.type "type"))
    (kcXNoParcel : PySem.W.keepIn K (.ref C_NoParcel) = true)
    (hdXNoParcel : PySem.W.hasDictIn K C_NoParcel = true)
    (iXNoParcel : PySem.W.findIn K (.ref C_NoParcel) "__init__" = some (some (.ref fXNoParcel))) (tXNoParcel : PySem.W.typeIn K (.ref fXNoParcel) = some (.type "function"))
    {odXNoParcel anXNoParcel : Option Addr} {slXNoParcel : Array (Option Value)} {ocXNoParcel kVXNoParcel dcXNoParcel pmXNoParcel cdXNoParcel ctXNoParcel : Value}
    (lXNoParcel : K.lookup fXNoParcel = some ⟨ocXNoParcel, odXNoParcel, .func (PySem.W.fnOf "__init__" "NoParcel.__init__" (defArgs s_NoParcel___init__) (defBody s_NoParcel___init__) (defScope s_NoParcel___init__) .none kVXNoParcel dcXNoParcel pmXNoParcel anXNoParcel cdXNoParcel ctXNoParcel), slXNoParcel⟩) (cXNoParcel : PySem.W.codeIn K cdXNoParcel "NoParcel.__init__" = true) (kXNoParcel : PySem.W.keepIn K (.ref fXNoParcel) = true)
    {nmXNotInHeap qnXNotInHeap : Str} {NXNotInHeap : Addr} {bsXNotInHeap : List Value} {snXNotInHeap : List Str} {suXNotInHeap : List Value} {abXNotInHeap : Bool} {coXNotInHeap : Option Bool} {ddXNotInHeap : Option Addr} {k0XNotInHeap k1XNotInHeap k2XNotInHeap k3XNotInHeap k5XNotInHeap : Option Value}
    (aXNotInHeap : PySem.W.nsIn K mainGlobals "NotInHeap" = some (some (.ref C_NotInHeap)))
    (xXNotInHeap : K.lookup C_NotInHeap = some (excClassObj nmXNotInHeap qnXNotInHeap C_NotInHeap NXNotInHeap bsXNotInHeap [.ref BNotInHeap_0, .type "KeyError", .type "LookupError", .type "Exception", .type "BaseException", .type "object"] true snXNotInHeap suXNotInHeap abXNotInHeap coXNotInHeap ddXNotInHeap k0XNotInHeap k1XNotInHeap k2XNotInHeap k3XNotInHeap k5XNotInHeap "LookupError.__new__"))
    (saXNotInHeap : PySem.W.findIn K (.ref C_NotInHeap) "__setattr__" = some (some (.builtin "object.__setattr__")))
    (gaXNotInHeap : PySem.W.findIn K (.ref C_NotInHeap) "__getattribute__" = some (some (.builtin "BaseException.__getattribute__")))
    (ggXNotInHeap : PySem.W.findIn K (.ref C_NotInHeap) "__getattr__" = some none)
    (noXNotInHeap : PySem.W.findIn K (.ref C_NotInHeap) "found" = some none)
    (exXNotInHeap : PySem.W.subIn K (.ref C_NotInHeap) (.type "BaseException") = some true)
    (tyXNotInHeap : PySem.W.typeIn K (.ref C_NotInHeap) = some (.type "type"))
    (kcXNotInHeap : PySem.W.keepIn K (.ref C_NotInHeap) = true)
    (hdXNotInHeap : PySem.W.hasDictIn K C_NotInHeap = true)
    (iXNotInHeap : PySem.W.findIn K (.ref C_NotInHeap) "__init__" = some (some (.ref fXNotInHeap))) (tXNotInHeap : PySem.W.typeIn K (.ref fXNotInHeap) = some (.type "function"))
    {odXNotInHeap anXNotInHeap : Option Addr} {slXNotInHeap : Array (Option Value)} {ocXNotInHeap kVXNotInHeap dcXNotInHeap pmXNotInHeap cdXNotInHeap ctXNotInHeap : Value}
    (lXNotInHeap : K.lookup fXNotInHeap = some ⟨ocXNotInHeap, odXNotInHeap, .func (PySem.W.fnOf "__init__" "NotInHeap.__init__" (defArgs s_NotInHeap___init__) (defBody s_NotInHeap___init__) (defScope s_NotInHeap___init__) .none kVXNotInHeap dcXNotInHeap pmXNotInHeap anXNotInHeap cdXNotInHeap ctXNotInHeap), slXNotInHeap⟩) (cXNotInHeap : PySem.W.codeIn K cdXNotInHeap "NotInHeap.__init__" = true) (kXNotInHeap : PySem.W.keepIn K (.ref fXNotInHeap) = true)
    (a0 : PySem.W.nsIn K mainGlobals "is_whole" = some (some (.ref f0)))
    {od0 an0 : Option Addr} {sl0 : Array (Option Value)} {oc0 kV0 dc0 pm0 cd0 ct0 : Value}
    (l0 : K.lookup f0 = some ⟨oc0, od0, .func (PySem.W.fnOf "is_whole" "is_whole" (defArgs s_is_whole) (defBody s_is_whole) (defScope s_is_whole) .none kV0 dc0 pm0 an0 cd0 ct0), sl0⟩) (c0 : PySem.W.codeIn K cd0 "is_whole" = true) (k0 : PySem.W.keepIn K (.ref f0) = true)
    (a1 : PySem.W.nsIn K mainGlobals "is_name" = some (some (.ref f1)))
    {od1 an1 : Option Addr} {sl1 : Array (Option Value)} {oc1 kV1 dc1 pm1 cd1 ct1 : Value}
    (l1 : K.lookup f1 = some ⟨oc1, od1, .func (PySem.W.fnOf "is_name" "is_name" (defArgs s_is_name) (defBody s_is_name) (defScope s_is_name) .none kV1 dc1 pm1 an1 cd1 ct1), sl1⟩) (c1 : PySem.W.codeIn K cd1 "is_name" = true) (k1 : PySem.W.keepIn K (.ref f1) = true)
    (a2 : PySem.W.nsIn K mainGlobals "is_order" = some (some (.ref f2)))
    {od2 an2 : Option Addr} {sl2 : Array (Option Value)} {oc2 kV2 dc2 pm2 cd2 ct2 : Value}
    (l2 : K.lookup f2 = some ⟨oc2, od2, .func (PySem.W.fnOf "is_order" "is_order" (defArgs s_is_order) (defBody s_is_order) (defScope s_is_order) .none kV2 dc2 pm2 an2 cd2 ct2), sl2⟩) (c2 : PySem.W.codeIn K cd2 "is_order" = true) (k2 : PySem.W.keepIn K (.ref f2) = true)
    (a3 : PySem.W.findIn K (.ref C_Sides) "__init__" = some (some (.ref f3))) (i3 : PySem.W.isFn K (.ref f3) = true)
    {od3 an3 : Option Addr} {sl3 : Array (Option Value)} {oc3 kV3 dc3 pm3 cd3 ct3 : Value}
    (l3 : K.lookup f3 = some ⟨oc3, od3, .func (PySem.W.fnOf "__init__" "Sides.__init__" (defArgs s_Sides___init__) (defBody s_Sides___init__) (defScope s_Sides___init__) .none kV3 dc3 pm3 an3 cd3 ct3), sl3⟩) (c3 : PySem.W.codeIn K cd3 "Sides.__init__" = true) (k3 : PySem.W.keepIn K (.ref f3) = true)
    (mk3 : PySem.W.makesIn K C_Sides = true) (kc3 : PySem.W.keepIn K (.ref C_Sides) = true)
    (a4 : PySem.W.findIn K (.ref C_Sides) "told" = some (some (.ref f4))) (i4 : PySem.W.isFn K (.ref f4) = true)
    {od4 an4 : Option Addr} {sl4 : Array (Option Value)} {oc4 kV4 dc4 pm4 cd4 ct4 : Value}
    (l4 : K.lookup f4 = some ⟨oc4, od4, .func (PySem.W.fnOf "told" "Sides.told" (defArgs s_Sides_told) (defBody s_Sides_told) (defScope s_Sides_told) .none kV4 dc4 pm4 an4 cd4 ct4), sl4⟩) (c4 : PySem.W.codeIn K cd4 "Sides.told" = true) (k4 : PySem.W.keepIn K (.ref f4) = true)
    (a5 : PySem.W.findIn K (.ref C_Sides) "ranked" = some (some (.ref f5))) (i5 : PySem.W.isFn K (.ref f5) = true)
    {od5 an5 : Option Addr} {sl5 : Array (Option Value)} {oc5 kV5 dc5 pm5 cd5 ct5 : Value}
    (l5 : K.lookup f5 = some ⟨oc5, od5, .func (PySem.W.fnOf "ranked" "Sides.ranked" (defArgs s_Sides_ranked) (defBody s_Sides_ranked) (defScope s_Sides_ranked) .none kV5 dc5 pm5 an5 cd5 ct5), sl5⟩) (c5 : PySem.W.codeIn K cd5 "Sides.ranked" = true) (k5 : PySem.W.keepIn K (.ref f5) = true)
    (a6 : PySem.W.findIn K (.ref C_Sides) "__repr__" = some (some (.ref f6))) (i6 : PySem.W.isFn K (.ref f6) = true)
    {od6 an6 : Option Addr} {sl6 : Array (Option Value)} {oc6 kV6 dc6 pm6 cd6 ct6 : Value}
    (l6 : K.lookup f6 = some ⟨oc6, od6, .func (PySem.W.fnOf "__repr__" "Sides.__repr__" (defArgs s_Sides___repr__) (defBody s_Sides___repr__) (defScope s_Sides___repr__) .none kV6 dc6 pm6 an6 cd6 ct6), sl6⟩) (c6 : PySem.W.codeIn K cd6 "Sides.__repr__" = true) (k6 : PySem.W.keepIn K (.ref f6) = true)
    (a7 : PySem.W.nsIn K mainGlobals "need_spare" = some (some (.ref f7)))
    {od7 an7 : Option Addr} {sl7 : Array (Option Value)} {oc7 kV7 dc7 pm7 cd7 ct7 : Value}
    (l7 : K.lookup f7 = some ⟨oc7, od7, .func (PySem.W.fnOf "need_spare" "need_spare" (defArgs s_need_spare) (defBody s_need_spare) (defScope s_need_spare) .none kV7 dc7 pm7 an7 cd7 ct7), sl7⟩) (c7 : PySem.W.codeIn K cd7 "need_spare" = true) (k7 : PySem.W.keepIn K (.ref f7) = true)
    (a8 : PySem.W.findIn K (.ref C_Sides) "turned" = some (some (.ref f8))) (i8 : PySem.W.isFn K (.ref f8) = true)
    {od8 an8 : Option Addr} {sl8 : Array (Option Value)} {oc8 kV8 dc8 pm8 cd8 ct8 : Value}
    (l8 : K.lookup f8 = some ⟨oc8, od8, .func (PySem.W.fnOf "turned" "Sides.turned" (defArgs s_Sides_turned) (defBody s_Sides_turned) (defScope s_Sides_turned) .none kV8 dc8 pm8 an8 cd8 ct8), sl8⟩) (c8 : PySem.W.codeIn K cd8 "Sides.turned" = true) (k8 : PySem.W.keepIn K (.ref f8) = true)
    (a9 : PySem.W.nsIn K mainGlobals "need_both" = some (some (.ref f9)))
    {od9 an9 : Option Addr} {sl9 : Array (Option Value)} {oc9 kV9 dc9 pm9 cd9 ct9 : Value}
    (l9 : K.lookup f9 = some ⟨oc9, od9, .func (PySem.W.fnOf "need_both" "need_both" (defArgs s_need_both) (defBody s_need_both) (defScope s_need_both) .none kV9 dc9 pm9 an9 cd9 ct9), sl9⟩) (c9 : PySem.W.codeIn K cd9 "need_both" = true) (k9 : PySem.W.keepIn K (.ref f9) = true)
    (a10 : PySem.W.nsIn K mainGlobals "goes_by" = some (some (.ref f10)))
    {od10 an10 : Option Addr} {sl10 : Array (Option Value)} {oc10 kV10 dc10 pm10 cd10 ct10 : Value}
    (l10 : K.lookup f10 = some ⟨oc10, od10, .func (PySem.W.fnOf "goes_by" "goes_by" (defArgs s_goes_by) (defBody s_goes_by) (defScope s_goes_by) .none kV10 dc10 pm10 an10 cd10 ct10), sl10⟩) (c10 : PySem.W.codeIn K cd10 "goes_by" = true) (k10 : PySem.W.keepIn K (.ref f10) = true)
    (a11 : PySem.W.nsIn K mainGlobals "goes_in" = some (some (.ref f11)))
    {od11 an11 : Option Addr} {sl11 : Array (Option Value)} {oc11 kV11 dc11 pm11 cd11 ct11 : Value}
    (l11 : K.lookup f11 = some ⟨oc11, od11, .func (PySem.W.fnOf "goes_in" "goes_in" (defArgs s_goes_in) (defBody s_goes_in) (defScope s_goes_in) (.ref T11) kV11 dc11 pm11 an11 cd11 ct11), sl11⟩) (c11 : PySem.W.codeIn K cd11 "goes_in" = true) (k11 : PySem.W.keepIn K (.ref f11) = true)
    {dt11_0 : Tok}
    {dd11 : Option Addr} {dn11 : Nat} {ds11 : Array (Option Value)} {dc211 : Value} (t11 : K.lookup T11 = some ⟨dc211, dd11, .seq #[.int 0 dt11_0] dn11, ds11⟩)
    (a12 : PySem.W.nsIn K mainGlobals "are_labels" = some (some (.ref f12)))
    {od12 an12 : Option Addr} {sl12 : Array (Option Value)} {oc12 kV12 dc12 pm12 cd12 ct12 : Value}
    (l12 : K.lookup f12 = some ⟨oc12, od12, .func (PySem.W.fnOf "are_labels" "are_labels" (defArgs s_are_labels) (defBody s_are_labels) (defScope s_are_labels) .none kV12 dc12 pm12 an12 cd12 ct12), sl12⟩) (c12 : PySem.W.codeIn K cd12 "are_labels" = true) (k12 : PySem.W.keepIn K (.ref f12) = true)
    (a13 : PySem.W.nsIn K mainGlobals "room_in" = some (some (.ref f13)))
    {od13 an13 : Option Addr} {sl13 : Array (Option Value)} {oc13 kV13 dc13 pm13 cd13 ct13 : Value}
    (l13 : K.lookup f13 = some ⟨oc13, od13, .func (PySem.W.fnOf "room_in" "room_in" (defArgs s_room_in) (defBody s_room_in) (defScope s_room_in) .none kV13 dc13 pm13 an13 cd13 ct13), sl13⟩) (c13 : PySem.W.codeIn K cd13 "room_in" = true) (k13 : PySem.W.keepIn K (.ref f13) = true)
    (a14 : PySem.W.findIn K (.ref C_Parcel) "__init__" = some (some (.ref f14))) (i14 : PySem.W.isFn K (.ref f14) = true)
    {od14 an14 : Option Addr} {sl14 : Array (Option Value)} {oc14 kV14 dc14 pm14 cd14 ct14 : Value}
    (l14 : K.lookup f14 = some ⟨oc14, od14, .func (PySem.W.fnOf "__init__" "Parcel.__init__" (defArgs s_Parcel___init__) (defBody s_Parcel___init__) (defScope s_Parcel___init__) (.ref T14) kV14 dc14 pm14 an14 cd14 ct14), sl14⟩) (c14 : PySem.W.codeIn K cd14 "Parcel.__init__" = true) (k14 : PySem.W.keepIn K (.ref f14) = true)
    {dt14_0 : Tok}
    {dt14_1 : Tok}
    {dt14_2 : Tok}
    {dd14 : Option Addr} {dn14 : Nat} {ds14 : Array (Option Value)} {dc214 : Value} (t14 : K.lookup T14 = some ⟨dc214, dd14, .seq #[.int 1 dt14_0, .int 0 dt14_1, .int 0 dt14_2, .none] dn14, ds14⟩)
    (mk14 : PySem.W.makesIn K C_Parcel = true) (kc14 : PySem.W.keepIn K (.ref C_Parcel) = true)
    (a15 : PySem.W.findIn K (.ref C_Parcel) "name" = some (some (.ref f15))) (i15 : PySem.W.isFn K (.ref f15) = true)
    {od15 an15 : Option Addr} {sl15 : Array (Option Value)} {oc15 kV15 dc15 pm15 cd15 ct15 : Value}
    (l15 : K.lookup f15 = some ⟨oc15, od15, .func (PySem.W.fnOf "name" "Parcel.name" (defArgs s_Parcel_name) (defBody s_Parcel_name) (defScope s_Parcel_name) .none kV15 dc15 pm15 an15 cd15 ct15), sl15⟩) (c15 : PySem.W.codeIn K cd15 "Parcel.name" = true) (k15 : PySem.W.keepIn K (.ref f15) = true)
    (a16 : PySem.W.findIn K (.ref C_Parcel) "room" = some (some (.ref f16))) (i16 : PySem.W.isFn K (.ref f16) = true)
    {od16 an16 : Option Addr} {sl16 : Array (Option Value)} {oc16 kV16 dc16 pm16 cd16 ct16 : Value}
    (l16 : K.lookup f16 = some ⟨oc16, od16, .func (PySem.W.fnOf "room" "Parcel.room" (defArgs s_Parcel_room) (defBody s_Parcel_room) (defScope s_Parcel_room) .none kV16 dc16 pm16 an16 cd16 ct16), sl16⟩) (c16 : PySem.W.codeIn K cd16 "Parcel.room" = true) (k16 : PySem.W.keepIn K (.ref f16) = true)
    (a17 : PySem.W.findIn K (.ref C_Parcel) "goes_in" = some (some (.ref f17))) (i17 : PySem.W.isFn K (.ref f17) = true)
    {od17 an17 : Option Addr} {sl17 : Array (Option Value)} {oc17 kV17 dc17 pm17 cd17 ct17 : Value}
    (l17 : K.lookup f17 = some ⟨oc17, od17, .func (PySem.W.fnOf "goes_in" "Parcel.goes_in" (defArgs s_Parcel_goes_in) (defBody s_Parcel_goes_in) (defScope s_Parcel_goes_in) (.ref T17) kV17 dc17 pm17 an17 cd17 ct17), sl17⟩) (c17 : PySem.W.codeIn K cd17 "Parcel.goes_in" = true) (k17 : PySem.W.keepIn K (.ref f17) = true)
    {dt17_0 : Tok}
    {dd17 : Option Addr} {dn17 : Nat} {ds17 : Array (Option Value)} {dc217 : Value} (t17 : K.lookup T17 = some ⟨dc217, dd17, .seq #[.int 0 dt17_0] dn17, ds17⟩)
    (a18 : PySem.W.findIn K (.ref C_Heap) "__init__" = some (some (.ref f18))) (i18 : PySem.W.isFn K (.ref f18) = true)
    {od18 an18 : Option Addr} {sl18 : Array (Option Value)} {oc18 kV18 dc18 pm18 cd18 ct18 : Value}
    (l18 : K.lookup f18 = some ⟨oc18, od18, .func (PySem.W.fnOf "__init__" "Heap.__init__" (defArgs s_Heap___init__) (defBody s_Heap___init__) (defScope s_Heap___init__) .none kV18 dc18 pm18 an18 cd18 ct18), sl18⟩) (c18 : PySem.W.codeIn K cd18 "Heap.__init__" = true) (k18 : PySem.W.keepIn K (.ref f18) = true)
    (mk18 : PySem.W.makesIn K C_Heap = true) (kc18 : PySem.W.keepIn K (.ref C_Heap) = true)
    (a19 : PySem.W.findIn K (.ref C_Heap) "names" = some (some (.ref f19))) (i19 : PySem.W.isFn K (.ref f19) = true)
    {od19 an19 : Option Addr} {sl19 : Array (Option Value)} {oc19 kV19 dc19 pm19 cd19 ct19 : Value}
    (l19 : K.lookup f19 = some ⟨oc19, od19, .func (PySem.W.fnOf "names" "Heap.names" (defArgs s_Heap_names) (defBody s_Heap_names) (defScope s_Heap_names) .none kV19 dc19 pm19 an19 cd19 ct19), sl19⟩) (c19 : PySem.W.codeIn K cd19 "Heap.names" = true) (k19 : PySem.W.keepIn K (.ref f19) = true)
    (a20 : PySem.W.findIn K (.ref C_Heap) "place_of" = some (some (.ref f20))) (i20 : PySem.W.isFn K (.ref f20) = true)
    {od20 an20 : Option Addr} {sl20 : Array (Option Value)} {oc20 kV20 dc20 pm20 cd20 ct20 : Value}
    (l20 : K.lookup f20 = some ⟨oc20, od20, .func (PySem.W.fnOf "place_of" "Heap.place_of" (defArgs s_Heap_place_of) (defBody s_Heap_place_of) (defScope s_Heap_place_of) .none kV20 dc20 pm20 an20 cd20 ct20), sl20⟩) (c20 : PySem.W.codeIn K cd20 "Heap.place_of" = true) (k20 : PySem.W.keepIn K (.ref f20) = true)
    (a21 : PySem.W.findIn K (.ref C_Heap) "put" = some (some (.ref f21))) (i21 : PySem.W.isFn K (.ref f21) = true)
    {od21 an21 : Option Addr} {sl21 : Array (Option Value)} {oc21 kV21 dc21 pm21 cd21 ct21 : Value}
    (l21 : K.lookup f21 = some ⟨oc21, od21, .func (PySem.W.fnOf "put" "Heap.put" (defArgs s_Heap_put) (defBody s_Heap_put) (defScope s_Heap_put) (.ref T21) kV21 dc21 pm21 an21 cd21 ct21), sl21⟩) (c21 : PySem.W.codeIn K cd21 "Heap.put" = true) (k21 : PySem.W.keepIn K (.ref f21) = true)
    {dd21 : Option Addr} {dn21 : Nat} {ds21 : Array (Option Value)} {dc221 : Value} (t21 : K.lookup T21 = some ⟨dc221, dd21, .seq #[.none] dn21, ds21⟩)
    (a22 : PySem.W.findIn K (.ref C_Heap) "out" = some (some (.ref f22))) (i22 : PySem.W.isFn K (.ref f22) = true)
    {od22 an22 : Option Addr} {sl22 : Array (Option Value)} {oc22 kV22 dc22 pm22 cd22 ct22 : Value}
    (l22 : K.lookup f22 = some ⟨oc22, od22, .func (PySem.W.fnOf "out" "Heap.out" (defArgs s_Heap_out) (defBody s_Heap_out) (defScope s_Heap_out) .none kV22 dc22 pm22 an22 cd22 ct22), sl22⟩) (c22 : PySem.W.codeIn K cd22 "Heap.out" = true) (k22 : PySem.W.keepIn K (.ref f22) = true)
    (a23 : PySem.W.findIn K (.ref C_Heap) "parcel" = some (some (.ref f23))) (i23 : PySem.W.isFn K (.ref f23) = true)
    {od23 an23 : Option Addr} {sl23 : Array (Option Value)} {oc23 kV23 dc23 pm23 cd23 ct23 : Value}
    (l23 : K.lookup f23 = some ⟨oc23, od23, .func (PySem.W.fnOf "parcel" "Heap.parcel" (defArgs s_Heap_parcel) (defBody s_Heap_parcel) (defScope s_Heap_parcel) .none kV23 dc23 pm23 an23 cd23 ct23), sl23⟩) (c23 : PySem.W.codeIn K cd23 "Heap.parcel" = true) (k23 : PySem.W.keepIn K (.ref f23) = true)
    (a24 : PySem.W.nsIn K mainGlobals "goes" = some (some (.ref f24)))
    {od24 an24 : Option Addr} {sl24 : Array (Option Value)} {oc24 kV24 dc24 pm24 cd24 ct24 : Value}
    (l24 : K.lookup f24 = some ⟨oc24, od24, .func (PySem.W.fnOf "goes" "goes" (defArgs s_goes) (defBody s_goes) (defScope s_goes) .none kV24 dc24 pm24 an24 cd24 ct24), sl24⟩) (c24 : PySem.W.codeIn K cd24 "goes" = true) (k24 : PySem.W.keepIn K (.ref f24) = true)
    (a25 : PySem.W.nsIn K mainGlobals "are_names" = some (some (.ref f25)))
    {od25 an25 : Option Addr} {sl25 : Array (Option Value)} {oc25 kV25 dc25 pm25 cd25 ct25 : Value}
    (l25 : K.lookup f25 = some ⟨oc25, od25, .func (PySem.W.fnOf "are_names" "are_names" (defArgs s_are_names) (defBody s_are_names) (defScope s_are_names) .none kV25 dc25 pm25 an25 cd25 ct25), sl25⟩) (c25 : PySem.W.codeIn K cd25 "are_names" = true) (k25 : PySem.W.keepIn K (.ref f25) = true)
    (a26 : PySem.W.nsIn K mainGlobals "first_apart" = some (some (.ref f26)))
    {od26 an26 : Option Addr} {sl26 : Array (Option Value)} {oc26 kV26 dc26 pm26 cd26 ct26 : Value}
    (l26 : K.lookup f26 = some ⟨oc26, od26, .func (PySem.W.fnOf "first_apart" "first_apart" (defArgs s_first_apart) (defBody s_first_apart) (defScope s_first_apart) .none kV26 dc26 pm26 an26 cd26 ct26), sl26⟩) (c26 : PySem.W.codeIn K cd26 "first_apart" = true) (k26 : PySem.W.keepIn K (.ref f26) = true)
    (a27 : PySem.W.findIn K (.ref C_Nest) "__init__" = some (some (.ref f27))) (i27 : PySem.W.isFn K (.ref f27) = true)
    {od27 an27 : Option Addr} {sl27 : Array (Option Value)} {oc27 kV27 dc27 pm27 cd27 ct27 : Value}
    (l27 : K.lookup f27 = some ⟨oc27, od27, .func (PySem.W.fnOf "__init__" "Nest.__init__" (defArgs s_Nest___init__) (defBody s_Nest___init__) (defScope s_Nest___init__) (.ref T27) kV27 dc27 pm27 an27 cd27 ct27), sl27⟩) (c27 : PySem.W.codeIn K cd27 "Nest.__init__" = true) (k27 : PySem.W.keepIn K (.ref f27) = true)
    {dt27_0 : Tok}
    {dd27 : Option Addr} {dn27 : Nat} {ds27 : Array (Option Value)} {dc227 : Value} (t27 : K.lookup T27 = some ⟨dc227, dd27, .seq #[.int 0 dt27_0] dn27, ds27⟩)
    (mk27 : PySem.W.makesIn K C_Nest = true) (kc27 : PySem.W.keepIn K (.ref C_Nest) = true)
    (a28 : PySem.W.findIn K (.ref C_Nest) "names" = some (some (.ref f28))) (i28 : PySem.W.isFn K (.ref f28) = true)
    {od28 an28 : Option Addr} {sl28 : Array (Option Value)} {oc28 kV28 dc28 pm28 cd28 ct28 : Value}
    (l28 : K.lookup f28 = some ⟨oc28, od28, .func (PySem.W.fnOf "names" "Nest.names" (defArgs s_Nest_names) (defBody s_Nest_names) (defScope s_Nest_names) .none kV28 dc28 pm28 an28 cd28 ct28), sl28⟩) (c28 : PySem.W.codeIn K cd28 "Nest.names" = true) (k28 : PySem.W.keepIn K (.ref f28) = true)
    (a29 : PySem.W.findIn K (.ref C_Nest) "turns" = some (some (.ref f29))) (i29 : PySem.W.isFn K (.ref f29) = true)
    {od29 an29 : Option Addr} {sl29 : Array (Option Value)} {oc29 kV29 dc29 pm29 cd29 ct29 : Value}
    (l29 : K.lookup f29 = some ⟨oc29, od29, .func (PySem.W.fnOf "turns" "Nest.turns" (defArgs s_Nest_turns) (defBody s_Nest_turns) (defScope s_Nest_turns) .none kV29 dc29 pm29 an29 cd29 ct29), sl29⟩) (c29 : PySem.W.codeIn K cd29 "Nest.turns" = true) (k29 : PySem.W.keepIn K (.ref f29) = true)
    (a30 : PySem.W.findIn K (.ref C_Nest) "lies" = some (some (.ref f30))) (i30 : PySem.W.isFn K (.ref f30) = true)
    {od30 an30 : Option Addr} {sl30 : Array (Option Value)} {oc30 kV30 dc30 pm30 cd30 ct30 : Value}
    (l30 : K.lookup f30 = some ⟨oc30, od30, .func (PySem.W.fnOf "lies" "Nest.lies" (defArgs s_Nest_lies) (defBody s_Nest_lies) (defScope s_Nest_lies) .none kV30 dc30 pm30 an30 cd30 ct30), sl30⟩) (c30 : PySem.W.codeIn K cd30 "Nest.lies" = true) (k30 : PySem.W.keepIn K (.ref f30) = true)
    (a31 : PySem.W.nsIn K mainGlobals "_law_cell" = some (some (.ref f31)))
    {od31 an31 : Option Addr} {sl31 : Array (Option Value)} {oc31 kV31 dc31 pm31 cd31 ct31 : Value}
    (l31 : K.lookup f31 = some ⟨oc31, od31, .func (PySem.W.fnOf "_law_cell" "_law_cell" (defArgs s__law_cell) (defBody s__law_cell) (defScope s__law_cell) .none kV31 dc31 pm31 an31 cd31 ct31), sl31⟩) (c31 : PySem.W.codeIn K cd31 "_law_cell" = true) (k31 : PySem.W.keepIn K (.ref f31) = true)
    (a32 : PySem.W.nsIn K mainGlobals "_law_purse" = some (some (.ref f32)))
    {od32 an32 : Option Addr} {sl32 : Array (Option Value)} {oc32 kV32 dc32 pm32 cd32 ct32 : Value}
    (l32 : K.lookup f32 = some ⟨oc32, od32, .func (PySem.W.fnOf "_law_purse" "_law_purse" (defArgs s__law_purse) (defBody s__law_purse) (defScope s__law_purse) .none kV32 dc32 pm32 an32 cd32 ct32), sl32⟩) (c32 : PySem.W.codeIn K cd32 "_law_purse" = true) (k32 : PySem.W.keepIn K (.ref f32) = true)
    (a33 : PySem.W.nsIn K mainGlobals "_law_take" = some (some (.ref f33)))
    {od33 an33 : Option Addr} {sl33 : Array (Option Value)} {oc33 kV33 dc33 pm33 cd33 ct33 : Value}
    (l33 : K.lookup f33 = some ⟨oc33, od33, .func (PySem.W.fnOf "_law_take" "_law_take" (defArgs s__law_take) (defBody s__law_take) (defScope s__law_take) .none kV33 dc33 pm33 an33 cd33 ct33), sl33⟩) (c33 : PySem.W.codeIn K cd33 "_law_take" = true) (k33 : PySem.W.keepIn K (.ref f33) = true)
    (a34 : PySem.W.nsIn K mainGlobals "_law_names" = some (some (.ref f34)))
    {od34 an34 : Option Addr} {sl34 : Array (Option Value)} {oc34 kV34 dc34 pm34 cd34 ct34 : Value}
    (l34 : K.lookup f34 = some ⟨oc34, od34, .func (PySem.W.fnOf "_law_names" "_law_names" (defArgs s__law_names) (defBody s__law_names) (defScope s__law_names) .none kV34 dc34 pm34 an34 cd34 ct34), sl34⟩) (c34 : PySem.W.codeIn K cd34 "_law_names" = true) (k34 : PySem.W.keepIn K (.ref f34) = true)
    (a35 : PySem.W.nsIn K mainGlobals "_law_sides" = some (some (.ref f35)))
    {od35 an35 : Option Addr} {sl35 : Array (Option Value)} {oc35 kV35 dc35 pm35 cd35 ct35 : Value}
    (l35 : K.lookup f35 = some ⟨oc35, od35, .func (PySem.W.fnOf "_law_sides" "_law_sides" (defArgs s__law_sides) (defBody s__law_sides) (defScope s__law_sides) .none kV35 dc35 pm35 an35 cd35 ct35), sl35⟩) (c35 : PySem.W.codeIn K cd35 "_law_sides" = true) (k35 : PySem.W.keepIn K (.ref f35) = true)
    (a36 : PySem.W.nsIn K mainGlobals "_law_row" = some (some (.ref f36)))
    {od36 an36 : Option Addr} {sl36 : Array (Option Value)} {oc36 kV36 dc36 pm36 cd36 ct36 : Value}
    (l36 : K.lookup f36 = some ⟨oc36, od36, .func (PySem.W.fnOf "_law_row" "_law_row" (defArgs s__law_row) (defBody s__law_row) (defScope s__law_row) .none kV36 dc36 pm36 an36 cd36 ct36), sl36⟩) (c36 : PySem.W.codeIn K cd36 "_law_row" = true) (k36 : PySem.W.keepIn K (.ref f36) = true)
    (a37 : PySem.W.nsIn K mainGlobals "_law_rows" = some (some (.ref f37)))
    {od37 an37 : Option Addr} {sl37 : Array (Option Value)} {oc37 kV37 dc37 pm37 cd37 ct37 : Value}
    (l37 : K.lookup f37 = some ⟨oc37, od37, .func (PySem.W.fnOf "_law_rows" "_law_rows" (defArgs s__law_rows) (defBody s__law_rows) (defScope s__law_rows) .none kV37 dc37 pm37 an37 cd37 ct37), sl37⟩) (c37 : PySem.W.codeIn K cd37 "_law_rows" = true) (k37 : PySem.W.keepIn K (.ref f37) = true)
    (a38 : PySem.W.nsIn K mainGlobals "_law_spare" = some (some (.ref f38)))
    {od38 an38 : Option Addr} {sl38 : Array (Option Value)} {oc38 kV38 dc38 pm38 cd38 ct38 : Value}
    (l38 : K.lookup f38 = some ⟨oc38, od38, .func (PySem.W.fnOf "_law_spare" "_law_spare" (defArgs s__law_spare) (defBody s__law_spare) (defScope s__law_spare) .none kV38 dc38 pm38 an38 cd38 ct38), sl38⟩) (c38 : PySem.W.codeIn K cd38 "_law_spare" = true) (k38 : PySem.W.keepIn K (.ref f38) = true)
    (a39 : PySem.W.nsIn K mainGlobals "_law_made" = some (some (.ref f39)))
    {od39 an39 : Option Addr} {sl39 : Array (Option Value)} {oc39 kV39 dc39 pm39 cd39 ct39 : Value}
    (l39 : K.lookup f39 = some ⟨oc39, od39, .func (PySem.W.fnOf "_law_made" "_law_made" (defArgs s__law_made) (defBody s__law_made) (defScope s__law_made) .none kV39 dc39 pm39 an39 cd39 ct39), sl39⟩) (c39 : PySem.W.codeIn K cd39 "_law_made" = true) (k39 : PySem.W.keepIn K (.ref f39) = true)
    (a40 : PySem.W.nsIn K mainGlobals "_law_heap" = some (some (.ref f40)))
    {od40 an40 : Option Addr} {sl40 : Array (Option Value)} {oc40 kV40 dc40 pm40 cd40 ct40 : Value}
    (l40 : K.lookup f40 = some ⟨oc40, od40, .func (PySem.W.fnOf "_law_heap" "_law_heap" (defArgs s__law_heap) (defBody s__law_heap) (defScope s__law_heap) .none kV40 dc40 pm40 an40 cd40 ct40), sl40⟩) (c40 : PySem.W.codeIn K cd40 "_law_heap" = true) (k40 : PySem.W.keepIn K (.ref f40) = true)
    (a41 : PySem.W.nsIn K mainGlobals "_law_orders" = some (some (.ref f41)))
    {od41 an41 : Option Addr} {sl41 : Array (Option Value)} {oc41 kV41 dc41 pm41 cd41 ct41 : Value}
    (l41 : K.lookup f41 = some ⟨oc41, od41, .func (PySem.W.fnOf "_law_orders" "_law_orders" (defArgs s__law_orders) (defBody s__law_orders) (defScope s__law_orders) .none kV41 dc41 pm41 an41 cd41 ct41), sl41⟩) (c41 : PySem.W.codeIn K cd41 "_law_orders" = true) (k41 : PySem.W.keepIn K (.ref f41) = true)
    (a42 : PySem.W.nsIn K mainGlobals "_law_turns" = some (some (.ref f42)))
    {od42 an42 : Option Addr} {sl42 : Array (Option Value)} {oc42 kV42 dc42 pm42 cd42 ct42 : Value}
    (l42 : K.lookup f42 = some ⟨oc42, od42, .func (PySem.W.fnOf "_law_turns" "_law_turns" (defArgs s__law_turns) (defBody s__law_turns) (defScope s__law_turns) .none kV42 dc42 pm42 an42 cd42 ct42), sl42⟩) (c42 : PySem.W.codeIn K cd42 "_law_turns" = true) (k42 : PySem.W.keepIn K (.ref f42) = true)
    (a43 : PySem.W.nsIn K mainGlobals "_law_outwards" = some (some (.ref f43)))
    {od43 an43 : Option Addr} {sl43 : Array (Option Value)} {oc43 kV43 dc43 pm43 cd43 ct43 : Value}
    (l43 : K.lookup f43 = some ⟨oc43, od43, .func (PySem.W.fnOf "_law_outwards" "_law_outwards" (defArgs s__law_outwards) (defBody s__law_outwards) (defScope s__law_outwards) .none kV43 dc43 pm43 an43 cd43 ct43), sl43⟩) (c43 : PySem.W.codeIn K cd43 "_law_outwards" = true) (k43 : PySem.W.keepIn K (.ref f43) = true)
    (a44 : PySem.W.nsIn K mainGlobals "_law_chain" = some (some (.ref f44)))
    {od44 an44 : Option Addr} {sl44 : Array (Option Value)} {oc44 kV44 dc44 pm44 cd44 ct44 : Value}
    (l44 : K.lookup f44 = some ⟨oc44, od44, .func (PySem.W.fnOf "_law_chain" "_law_chain" (defArgs s__law_chain) (defBody s__law_chain) (defScope s__law_chain) .none kV44 dc44 pm44 an44 cd44 ct44), sl44⟩) (c44 : PySem.W.codeIn K cd44 "_law_chain" = true) (k44 : PySem.W.keepIn K (.ref f44) = true)
    (a45 : PySem.W.nsIn K mainGlobals "_law_dues" = some (some (.ref f45)))
    {od45 an45 : Option Addr} {sl45 : Array (Option Value)} {oc45 kV45 dc45 pm45 cd45 ct45 : Value}
    (l45 : K.lookup f45 = some ⟨oc45, od45, .func (PySem.W.fnOf "_law_dues" "_law_dues" (defArgs s__law_dues) (defBody s__law_dues) (defScope s__law_dues) .none kV45 dc45 pm45 an45 cd45 ct45), sl45⟩) (c45 : PySem.W.codeIn K cd45 "_law_dues" = true) (k45 : PySem.W.keepIn K (.ref f45) = true)
    (a46 : PySem.W.nsIn K mainGlobals "_law_side_by_side" = some (some (.ref f46)))
    {od46 an46 : Option Addr} {sl46 : Array (Option Value)} {oc46 kV46 dc46 pm46 cd46 ct46 : Value}
    (l46 : K.lookup f46 = some ⟨oc46, od46, .func (PySem.W.fnOf "_law_side_by_side" "_law_side_by_side" (defArgs s__law_side_by_side) (defBody s__law_side_by_side) (defScope s__law_side_by_side) .none kV46 dc46 pm46 an46 cd46 ct46), sl46⟩) (c46 : PySem.W.codeIn K cd46 "_law_side_by_side" = true) (k46 : PySem.W.keepIn K (.ref f46) = true)
    (a47 : PySem.W.nsIn K mainGlobals "_law_drawn_order" = some (some (.ref f47)))
    {od47 an47 : Option Addr} {sl47 : Array (Option Value)} {oc47 kV47 dc47 pm47 cd47 ct47 : Value}
    (l47 : K.lookup f47 = some ⟨oc47, od47, .func (PySem.W.fnOf "_law_drawn_order" "_law_drawn_order" (defArgs s__law_drawn_order) (defBody s__law_drawn_order) (defScope s__law_drawn_order) .none kV47 dc47 pm47 an47 cd47 ct47), sl47⟩) (c47 : PySem.W.codeIn K cd47 "_law_drawn_order" = true) (k47 : PySem.W.keepIn K (.ref f47) = true)
    (a48 : PySem.W.nsIn K mainGlobals "_law_refused" = some (some (.ref f48)))
    {od48 an48 : Option Addr} {sl48 : Array (Option Value)} {oc48 kV48 dc48 pm48 cd48 ct48 : Value}
    (l48 : K.lookup f48 = some ⟨oc48, od48, .func (PySem.W.fnOf "_law_refused" "_law_refused" (defArgs s__law_refused) (defBody s__law_refused) (defScope s__law_refused) .none kV48 dc48 pm48 an48 cd48 ct48), sl48⟩) (c48 : PySem.W.codeIn K cd48 "_law_refused" = true) (k48 : PySem.W.keepIn K (.ref f48) = true)
    (a49 : PySem.W.nsIn K mainGlobals "_law_right" = some (some (.ref f49)))
    {od49 an49 : Option Addr} {sl49 : Array (Option Value)} {oc49 kV49 dc49 pm49 cd49 ct49 : Value}
    (l49 : K.lookup f49 = some ⟨oc49, od49, .func (PySem.W.fnOf "_law_right" "_law_right" (defArgs s__law_right) (defBody s__law_right) (defScope s__law_right) .none kV49 dc49 pm49 an49 cd49 ct49), sl49⟩) (c49 : PySem.W.codeIn K cd49 "_law_right" = true) (k49 : PySem.W.keepIn K (.ref f49) = true)
    (a50 : PySem.W.nsIn K mainGlobals "_law_strange" = some (some (.ref f50)))
    {od50 an50 : Option Addr} {sl50 : Array (Option Value)} {oc50 kV50 dc50 pm50 cd50 ct50 : Value}
    (l50 : K.lookup f50 = some ⟨oc50, od50, .func (PySem.W.fnOf "_law_strange" "_law_strange" (defArgs s__law_strange) (defBody s__law_strange) (defScope s__law_strange) .none kV50 dc50 pm50 an50 cd50 ct50), sl50⟩) (c50 : PySem.W.codeIn K cd50 "_law_strange" = true) (k50 : PySem.W.keepIn K (.ref f50) = true)
    (a51 : PySem.W.nsIn K mainGlobals "law" = some (some (.ref f51)))
    {od51 an51 : Option Addr} {sl51 : Array (Option Value)} {oc51 kV51 dc51 pm51 cd51 ct51 : Value}
    (l51 : K.lookup f51 = some ⟨oc51, od51, .func (PySem.W.fnOf "law" "law" (defArgs s_law) (defBody s_law) (defScope s_law) .none kV51 dc51 pm51 an51 cd51 ct51), sl51⟩) (c51 : PySem.W.codeIn K cd51 "law" = true) (k51 : PySem.W.keepIn K (.ref f51) = true)
    (z_all : PySem.W.nsIn K mainGlobals "all" = some none)
    (z_bool : PySem.W.nsIn K mainGlobals "bool" = some none)
    (z_enumerate : PySem.W.nsIn K mainGlobals "enumerate" = some none)
    (z_int : PySem.W.nsIn K mainGlobals "int" = some none)
    (z_isinstance : PySem.W.nsIn K mainGlobals "isinstance" = some none)
    (z_len : PySem.W.nsIn K mainGlobals "len" = some none)
    (z_list : PySem.W.nsIn K mainGlobals "list" = some none)
    (z_max : PySem.W.nsIn K mainGlobals "max" = some none)
    (z_min : PySem.W.nsIn K mainGlobals "min" = some none)
    (z_range : PySem.W.nsIn K mainGlobals "range" = some none)
    (z_repr : PySem.W.nsIn K mainGlobals "repr" = some none)
    (z_reversed : PySem.W.nsIn K mainGlobals "reversed" = some none)
    (z_set : PySem.W.nsIn K mainGlobals "set" = some none)
    (z_sorted : PySem.W.nsIn K mainGlobals "sorted" = some none)
    (z_str : PySem.W.nsIn K mainGlobals "str" = some none)
    (z_tuple : PySem.W.nsIn K mainGlobals "tuple" = some none)
    (z_zip : PySem.W.nsIn K mainGlobals "zip" = some none)
    {t_LETTERS : Tok} (z_LETTERS : PySem.W.nsIn K mainGlobals "LETTERS" = some (some (.str "abcdefghijklmnopqrstuvwxyz" t_LETTERS)))
    {t_MOST_PARCELS : Tok} (z_MOST_PARCELS : PySem.W.nsIn K mainGlobals "MOST_PARCELS" = some (some (.int 12 t_MOST_PARCELS)))
    {t_MOST_SIDE : Tok} (z_MOST_SIDE : PySem.W.nsIn K mainGlobals "MOST_SIDE" = some (some (.int 100000 t_MOST_SIDE)))
    {t_MOST_SPARE : Tok} (z_MOST_SPARE : PySem.W.nsIn K mainGlobals "MOST_SPARE" = some (some (.int 1000 t_MOST_SPARE)))
    {t_MOST_WALL : Tok} (z_MOST_WALL : PySem.W.nsIn K mainGlobals "MOST_WALL" = some (some (.int 1000 t_MOST_WALL)))
    {t_MOST_WEIGHT : Tok} (z_MOST_WEIGHT : PySem.W.nsIn K mainGlobals "MOST_WEIGHT" = some (some (.int 100000 t_MOST_WEIGHT)))
    (z_goes_in_fits : PySem.W.nsIn K mainGlobals "goes_in_fits" = some (some (.ref f11)))
    (icNotInHeap : PySem.W.isClsIn K C_NotInHeap = true)
    (sbNotInHeap_NotInHeap : PySem.W.subIn K (.ref C_NotInHeap) (.ref C_NotInHeap) = some true)
    {aO t0_ t1_ t2_ t3_ t4_ t5_ : Addr} {dO : Option Addr} {nO : Nat} {sO : Array (Option Value)} (z_ORDERS : PySem.W.nsIn K mainGlobals "ORDERS" = some (some (.ref aO)))
    (kO : K.lookup aO = some ⟨.type "tuple", dO, .seq #[.ref t0_, .ref t1_, .ref t2_, .ref t3_, .ref t4_, .ref t5_] nO, sO⟩)
    {e0_ : Option Addr} {m0_ : Nat} {r0_ : Array (Option Value)} {x0_ y0_ w0_ : Tok} (kt0_ : K.lookup t0_ = some ⟨.type "tuple", e0_, .seq #[.int 0 x0_, .int 1 y0_, .int 2 w0_] m0_, r0_⟩)
    {e1_ : Option Addr} {m1_ : Nat} {r1_ : Array (Option Value)} {x1_ y1_ w1_ : Tok} (kt1_ : K.lookup t1_ = some ⟨.type "tuple", e1_, .seq #[.int 0 x1_, .int 2 y1_, .int 1 w1_] m1_, r1_⟩)
    {e2_ : Option Addr} {m2_ : Nat} {r2_ : Array (Option Value)} {x2_ y2_ w2_ : Tok} (kt2_ : K.lookup t2_ = some ⟨.type "tuple", e2_, .seq #[.int 1 x2_, .int 0 y2_, .int 2 w2_] m2_, r2_⟩)
    {e3_ : Option Addr} {m3_ : Nat} {r3_ : Array (Option Value)} {x3_ y3_ w3_ : Tok} (kt3_ : K.lookup t3_ = some ⟨.type "tuple", e3_, .seq #[.int 1 x3_, .int 2 y3_, .int 0 w3_] m3_, r3_⟩)
    {e4_ : Option Addr} {m4_ : Nat} {r4_ : Array (Option Value)} {x4_ y4_ w4_ : Tok} (kt4_ : K.lookup t4_ = some ⟨.type "tuple", e4_, .seq #[.int 2 x4_, .int 0 y4_, .int 1 w4_] m4_, r4_⟩)
    {e5_ : Option Addr} {m5_ : Nat} {r5_ : Array (Option Value)} {x5_ y5_ w5_ : Tok} (kt5_ : K.lookup t5_ = some ⟨.type "tuple", e5_, .seq #[.int 2 x5_, .int 1 y5_, .int 0 w5_] m5_, r5_⟩)
    {aL_ : Addr} {dL_ : Option Addr} {nL_ : Nat} {sL_ : Array (Option Value)} {xL_ yL_ wL_ : Tok} (z_LABELS : PySem.W.nsIn K mainGlobals "LABELS" = some (some (.ref aL_)))
    (kL_ : K.lookup aL_ = some ⟨.type "tuple", dL_, .seq #[.str "alone" xL_, .str "top" yL_, .str "upright" wL_] nL_, sL_⟩)
    : ∃ fd : FuncData, (∀ (s : Shared) (u : Value), BindsTo s fd ⟨[u], []⟩ [("_law_script", u)]) ∧ ∀ base : Heap, K.In base → base.Ns mainGlobals mg → VS.SysOk base → VS.FnG l.prog w K mg base (L2.CX l.prog w) 20 fa fd ["_law_script"] (VS.spOf K p_law) := by
  have e := hfa.symm.trans (PySem.W.mg_of X G a51)
  cases e
  have T : Tx K mg := ⟨PySem.W.mg_none_of X G z_all, PySem.W.mg_none_of X G z_bool, PySem.W.mg_none_of X G z_enumerate, PySem.W.mg_none_of X G z_int, PySem.W.mg_none_of X G z_isinstance, PySem.W.mg_none_of X G z_len, PySem.W.mg_none_of X G z_list, PySem.W.mg_none_of X G z_max, PySem.W.mg_none_of X G z_min, PySem.W.mg_none_of X G z_range, PySem.W.mg_none_of X G z_repr, PySem.W.mg_none_of X G z_reversed, PySem.W.mg_none_of X G z_set, PySem.W.mg_none_of X G z_sorted, PySem.W.mg_none_of X G z_str, PySem.W.mg_none_of X G z_tuple, PySem.W.mg_none_of X G z_zip, ⟨_, PySem.W.mg_of X G z_LETTERS, _, rfl⟩, ⟨_, PySem.W.mg_of X G z_MOST_PARCELS, _, rfl⟩, ⟨_, PySem.W.mg_of X G z_MOST_SIDE, _, rfl⟩, ⟨_, PySem.W.mg_of X G z_MOST_SPARE, _, rfl⟩, ⟨_, PySem.W.mg_of X G z_MOST_WALL, _, rfl⟩, ⟨_, PySem.W.mg_of X G z_MOST_WEIGHT, _, rfl⟩, ⟨aO, ⟨_, PySem.W.mg_of X G z_ORDERS, rfl⟩, fun H S => .tupK ⟨_, _, _, kO, rfl, rfl, (by show 6 ≤ sizeLine; decide), (.cons (show RelV (.ref t0_) (.ref t0_) from rfl) (.cons (show RelV (.ref t1_) (.ref t1_) from rfl) (.cons (show RelV (.ref t2_) (.ref t2_) from rfl) (.cons (show RelV (.ref t3_) (.ref t3_) from rfl) (.cons (show RelV (.ref t4_) (.ref t4_) from rfl) (.cons (show RelV (.ref t5_) (.ref t5_) from rfl) .nil))))))⟩ (.cons (.tupK ⟨_, _, _, kt0_, rfl, rfl, (by show 3 ≤ sizeLine; decide), (.cons (show RelV (.int 0) (.int 0 x0_) from ⟨_, rfl⟩) (.cons (show RelV (.int 1) (.int 1 y0_) from ⟨_, rfl⟩) (.cons (show RelV (.int 2) (.int 2 w0_) from ⟨_, rfl⟩) .nil)))⟩ (.cons (.int _) (.cons (.int _) (.cons (.int _) .nil)))) (.cons (.tupK ⟨_, _, _, kt1_, rfl, rfl, (by show 3 ≤ sizeLine; decide), (.cons (show RelV (.int 0) (.int 0 x1_) from ⟨_, rfl⟩) (.cons (show RelV (.int 2) (.int 2 y1_) from ⟨_, rfl⟩) (.cons (show RelV (.int 1) (.int 1 w1_) from ⟨_, rfl⟩) .nil)))⟩ (.cons (.int _) (.cons (.int _) (.cons (.int _) .nil)))) (.cons (.tupK ⟨_, _, _, kt2_, rfl, rfl, (by show 3 ≤ sizeLine; decide), (.cons (show RelV (.int 1) (.int 1 x2_) from ⟨_, rfl⟩) (.cons (show RelV (.int 0) (.int 0 y2_) from ⟨_, rfl⟩) (.cons (show RelV (.int 2) (.int 2 w2_) from ⟨_, rfl⟩) .nil)))⟩ (.cons (.int _) (.cons (.int _) (.cons (.int _) .nil)))) (.cons (.tupK ⟨_, _, _, kt3_, rfl, rfl, (by show 3 ≤ sizeLine; decide), (.cons (show RelV (.int 1) (.int 1 x3_) from ⟨_, rfl⟩) (.cons (show RelV (.int 2) (.int 2 y3_) from ⟨_, rfl⟩) (.cons (show RelV (.int 0) (.int 0 w3_) from ⟨_, rfl⟩) .nil)))⟩ (.cons (.int _) (.cons (.int _) (.cons (.int _) .nil)))) (.cons (.tupK ⟨_, _, _, kt4_, rfl, rfl, (by show 3 ≤ sizeLine; decide), (.cons (show RelV (.int 2) (.int 2 x4_) from ⟨_, rfl⟩) (.cons (show RelV (.int 0) (.int 0 y4_) from ⟨_, rfl⟩) (.cons (show RelV (.int 1) (.int 1 w4_) from ⟨_, rfl⟩) .nil)))⟩ (.cons (.int _) (.cons (.int _) (.cons (.int _) .nil)))) (.cons (.tupK ⟨_, _, _, kt5_, rfl, rfl, (by show 3 ≤ sizeLine; decide), (.cons (show RelV (.int 2) (.int 2 x5_) from ⟨_, rfl⟩) (.cons (show RelV (.int 1) (.int 1 y5_) from ⟨_, rfl⟩) (.cons (show RelV (.int 0) (.int 0 w5_) from ⟨_, rfl⟩) .nil)))⟩ (.cons (.int _) (.cons (.int _) (.cons (.int _) .nil)))) .nil))))))⟩, ⟨aL_, ⟨_, PySem.W.mg_of X G z_LABELS, rfl⟩, fun H S => .tupK ⟨_, _, _, kL_, rfl, rfl, (by show 3 ≤ sizeLine; decide), (.cons (show RelV (.str "alone") (.str "alone" xL_) from ⟨_, rfl⟩) (.cons (show RelV (.str "top") (.str "top" yL_) from ⟨_, rfl⟩) (.cons (show RelV (.str "upright") (.str "upright" wL_) from ⟨_, rfl⟩) .nil)))⟩ (.cons (.str _) (.cons (.str _) (.cons (.str _) .nil)))⟩, (PySem.W.mg_of X G z_goes_in_fits).trans (PySem.W.mg_of X G a11).symm, fun A B h1 h2 => by cases (PySem.W.mg_of X G aXNotInHeap).symm.trans h1; cases (PySem.W.mg_of X G aXNotInHeap).symm.trans h2; exact VS.exm_own icNotInHeap tyXNotInHeap sbNotInHeap_NotInHeap exXNotInHeap⟩
  have k_Sides : Kl_Sides K mg C_Sides := ⟨PySem.W.mg_of X G aKSides, ⟨⟨pgKSides, hdKSides, poKSides, saKSides⟩, haKSides, hnO, htkO, hmKSides, VS.kit_self⟩, nKSides_three, VS.kit_own rfl icKSides tcKSides zKSides_int, VS.kit_own rfl icKSides tcKSides zKSides_bool, VS.kit_own rfl icKSides tcKSides zKSides_str, VS.kit_own rfl icKSides tcKSides zKSides_NoneType, VS.kit_own rfl icKSides tcKSides zKSides_list, VS.kit_own rfl icKSides tcKSides zKSides_tuple, VS.kit_own rfl icKSides tcKSides zKSides_dict, VS.kit_tyO (by decide +kernel) mKSides_0, VS.kit_tyO (by decide +kernel) mKSides_1⟩
  have k_Parcel : Kl_Parcel K mg C_Parcel := ⟨PySem.W.mg_of X G aKParcel, ⟨⟨pgKParcel, hdKParcel, poKParcel, saKParcel⟩, haKParcel, hnO, htkO, hmKParcel, VS.kit_self⟩, nKParcel_called, nKParcel_outside, nKParcel_thick, nKParcel_heavy, nKParcel_strong, nKParcel_marks, nKParcel_told, nKParcel_names, VS.kit_own rfl icKParcel tcKParcel zKParcel_int, VS.kit_own rfl icKParcel tcKParcel zKParcel_bool, VS.kit_own rfl icKParcel tcKParcel zKParcel_str, VS.kit_own rfl icKParcel tcKParcel zKParcel_NoneType, VS.kit_own rfl icKParcel tcKParcel zKParcel_list, VS.kit_own rfl icKParcel tcKParcel zKParcel_tuple, VS.kit_own rfl icKParcel tcKParcel zKParcel_dict⟩
  have k_Heap : Kl_Heap K mg C_Heap := ⟨PySem.W.mg_of X G aKHeap, ⟨⟨pgKHeap, hdKHeap, poKHeap, saKHeap⟩, haKHeap, hnO, htkO, hmKHeap, VS.kit_self⟩, nKHeap_held, nKHeap_told, nKHeap_kind⟩
  have k_Nest : Kl_Nest K mg C_Nest := ⟨PySem.W.mg_of X G aKNest, ⟨⟨pgKNest, hdKNest, poKNest, saKNest⟩, haKNest, hnO, htkO, hmKNest, VS.kit_self⟩, nKNest_layers, nKNest_ways, VS.kit_own rfl icKNest tcKNest zKNest_int, VS.kit_own rfl icKNest tcKNest zKNest_bool, VS.kit_own rfl icKNest tcKNest zKNest_str, VS.kit_own rfl icKNest tcKNest zKNest_NoneType, VS.kit_own rfl icKNest tcKNest zKNest_list, VS.kit_own rfl icKNest tcKNest zKNest_tuple, VS.kit_own rfl icKNest tcKNest zKNest_dict⟩
  have F0 : VS.Fd K "is_whole" "is_whole" s_is_whole [] f0 _ := fd_mk l0 c0 k0
  have b0 : Binds K _ a_is_whole [] := F0.bindsN fun _ _ _ _ _ _ us hl => match us, hl with | [_, _, _], _ => rfl
  have F1 : VS.Fd K "is_name" "is_name" s_is_name [] f1 _ := fd_mk l1 c1 k1
  have b1 : Binds K _ a_is_name [] := F1.bindsN fun _ _ _ _ _ _ us hl => match us, hl with | [_], _ => rfl
  have F2 : VS.Fd K "is_order" "is_order" s_is_order [] f2 _ := fd_mk l2 c2 k2
  have b2 : Binds K _ a_is_order [] := F2.bindsN fun _ _ _ _ _ _ us hl => match us, hl with | [_], _ => rfl
  have F3 : VS.Fd K "__init__" "Sides.__init__" s_Sides___init__ [] f3 _ := fd_mk l3 c3 k3
  have b3 : Binds K _ a_Sides___init__ [] := F3.bindsN fun _ _ _ _ _ _ us hl => match us, hl with | [_, _, _, _], _ => rfl
  have F4 : VS.Fd K "told" "Sides.told" s_Sides_told [] f4 _ := fd_mk l4 c4 k4
  have b4 : Binds K _ a_Sides_told [] := F4.bindsN fun _ _ _ _ _ _ us hl => match us, hl with | [_], _ => rfl
  have F5 : VS.Fd K "ranked" "Sides.ranked" s_Sides_ranked [] f5 _ := fd_mk l5 c5 k5
  have b5 : Binds K _ a_Sides_ranked [] := F5.bindsN fun _ _ _ _ _ _ us hl => match us, hl with | [_], _ => rfl
  have F6 : VS.Fd K "__repr__" "Sides.__repr__" s_Sides___repr__ [] f6 _ := fd_mk l6 c6 k6
  have b6 : Binds K _ a_Sides___repr__ [] := F6.bindsN fun _ _ _ _ _ _ us hl => match us, hl with | [_], _ => rfl
  have F7 : VS.Fd K "need_spare" "need_spare" s_need_spare [] f7 _ := fd_mk l7 c7 k7
  have b7 : Binds K _ a_need_spare [] := F7.bindsN fun _ _ _ _ _ _ us hl => match us, hl with | [_], _ => rfl
  have F8 : VS.Fd K "turned" "Sides.turned" s_Sides_turned [] f8 _ := fd_mk l8 c8 k8
  have b8 : Binds K _ a_Sides_turned [] := F8.bindsN fun _ _ _ _ _ _ us hl => match us, hl with | [_, _], _ => rfl
  have F9 : VS.Fd K "need_both" "need_both" s_need_both [] f9 _ := fd_mk l9 c9 k9
  have b9 : Binds K _ a_need_both [] := F9.bindsN fun _ _ _ _ _ _ us hl => match us, hl with | [_, _, _], _ => rfl
  have F10 : VS.Fd K "goes_by" "goes_by" s_goes_by [] f10 _ := fd_mk l10 c10 k10
  have b10 : Binds K _ a_goes_by [] := F10.bindsN fun _ _ _ _ _ _ us hl => match us, hl with | [_, _, _, _], _ => rfl
  have F11 : VS.Fd K "goes_in" "goes_in" s_goes_in [.int 0] f11 _ := fd_mkD l11 c11 k11 (by decide) t11 (.cons (show RelV (.int 0) _ from ⟨_, rfl⟩) .nil)
  obtain ⟨bb11⟩ := VS.bdN (ps := a_goes_in) F11 3 1 (by decide) rfl (fun T kV doc pm an cdv ct us its h1 h2 => match us, its, h1, h2 with | [_, _, _], [_], _, _ => ⟨_, rfl, rfl⟩)
  have b11 : Binds K _ a_goes_in [] := VS.bd_nil bb11
  have F12 : VS.Fd K "are_labels" "are_labels" s_are_labels [] f12 _ := fd_mk l12 c12 k12
  have b12 : Binds K _ a_are_labels [] := F12.bindsN fun _ _ _ _ _ _ us hl => match us, hl with | [_], _ => rfl
  have F13 : VS.Fd K "room_in" "room_in" s_room_in [] f13 _ := fd_mk l13 c13 k13
  have b13 : Binds K _ a_room_in [] := F13.bindsN fun _ _ _ _ _ _ us hl => match us, hl with | [_, _], _ => rfl
  have F14 : VS.Fd K "__init__" "Parcel.__init__" s_Parcel___init__ [.int 1, .int 0, .int 0, .non] f14 _ := fd_mkD l14 c14 k14 (by decide) t14 (.cons (show RelV (.int 1) _ from ⟨_, rfl⟩) (.cons (show RelV (.int 0) _ from ⟨_, rfl⟩) (.cons (show RelV (.int 0) _ from ⟨_, rfl⟩) (.cons (show RelV (.non) _ from rfl) .nil))))
  obtain ⟨bb14⟩ := VS.bdN (ps := a_Parcel___init__) F14 7 4 (by decide) rfl (fun T kV doc pm an cdv ct us its h1 h2 => match us, its, h1, h2 with | [_, _, _, _, _, _, _], [_, _, _, _], _, _ => ⟨_, rfl, rfl⟩)
  have b14 : Binds K _ a_Parcel___init__ [] := VS.bd_nil bb14
  have F15 : VS.Fd K "name" "Parcel.name" s_Parcel_name [] f15 _ := fd_mk l15 c15 k15
  have b15 : Binds K _ a_Parcel_name [] := F15.bindsN fun _ _ _ _ _ _ us hl => match us, hl with | [_], _ => rfl
  have F16 : VS.Fd K "room" "Parcel.room" s_Parcel_room [] f16 _ := fd_mk l16 c16 k16
  have b16 : Binds K _ a_Parcel_room [] := F16.bindsN fun _ _ _ _ _ _ us hl => match us, hl with | [_], _ => rfl
  have F17 : VS.Fd K "goes_in" "Parcel.goes_in" s_Parcel_goes_in [.int 0] f17 _ := fd_mkD l17 c17 k17 (by decide) t17 (.cons (show RelV (.int 0) _ from ⟨_, rfl⟩) .nil)
  obtain ⟨bb17⟩ := VS.bdN (ps := a_Parcel_goes_in) F17 3 1 (by decide) rfl (fun T kV doc pm an cdv ct us its h1 h2 => match us, its, h1, h2 with | [_, _, _], [_], _, _ => ⟨_, rfl, rfl⟩)
  have b17 : Binds K _ a_Parcel_goes_in [] := VS.bd_nil bb17
  have F18 : VS.Fd K "__init__" "Heap.__init__" s_Heap___init__ [] f18 _ := fd_mk l18 c18 k18
  have b18 : Binds K _ a_Heap___init__ [] := F18.bindsN fun _ _ _ _ _ _ us hl => match us, hl with | [_], _ => rfl
  have F19 : VS.Fd K "names" "Heap.names" s_Heap_names [] f19 _ := fd_mk l19 c19 k19
  have b19 : Binds K _ a_Heap_names [] := F19.bindsN fun _ _ _ _ _ _ us hl => match us, hl with | [_], _ => rfl
  have F20 : VS.Fd K "place_of" "Heap.place_of" s_Heap_place_of [] f20 _ := fd_mk l20 c20 k20
  have b20 : Binds K _ a_Heap_place_of [] := F20.bindsN fun _ _ _ _ _ _ us hl => match us, hl with | [_, _], _ => rfl
  have F21 : VS.Fd K "put" "Heap.put" s_Heap_put [.non] f21 _ := fd_mkD l21 c21 k21 (by decide) t21 (.cons (show RelV (.non) _ from rfl) .nil)
  obtain ⟨bb21⟩ := VS.bdN (ps := a_Heap_put) F21 3 1 (by decide) rfl (fun T kV doc pm an cdv ct us its h1 h2 => match us, its, h1, h2 with | [_, _, _], [_], _, _ => ⟨_, rfl, rfl⟩)
  have b21 : Binds K _ a_Heap_put [] := VS.bd_nil bb21
  have F22 : VS.Fd K "out" "Heap.out" s_Heap_out [] f22 _ := fd_mk l22 c22 k22
  have b22 : Binds K _ a_Heap_out [] := F22.bindsN fun _ _ _ _ _ _ us hl => match us, hl with | [_, _], _ => rfl
  have F23 : VS.Fd K "parcel" "Heap.parcel" s_Heap_parcel [] f23 _ := fd_mk l23 c23 k23
  have b23 : Binds K _ a_Heap_parcel [] := F23.bindsN fun _ _ _ _ _ _ us hl => match us, hl with | [_, _], _ => rfl
  have F24 : VS.Fd K "goes" "goes" s_goes [] f24 _ := fd_mk l24 c24 k24
  have b24 : Binds K _ a_goes [] := F24.bindsN fun _ _ _ _ _ _ us hl => match us, hl with | [_, _, _], _ => rfl
  have F25 : VS.Fd K "are_names" "are_names" s_are_names [] f25 _ := fd_mk l25 c25 k25
  have b25 : Binds K _ a_are_names [] := F25.bindsN fun _ _ _ _ _ _ us hl => match us, hl with | [_, _, _], _ => rfl
  have F26 : VS.Fd K "first_apart" "first_apart" s_first_apart [] f26 _ := fd_mk l26 c26 k26
  have b26 : Binds K _ a_first_apart [] := F26.bindsN fun _ _ _ _ _ _ us hl => match us, hl with | [_, _, _], _ => rfl
  have F27 : VS.Fd K "__init__" "Nest.__init__" s_Nest___init__ [.int 0] f27 _ := fd_mkD l27 c27 k27 (by decide) t27 (.cons (show RelV (.int 0) _ from ⟨_, rfl⟩) .nil)
  obtain ⟨bb27⟩ := VS.bdN (ps := a_Nest___init__) F27 4 1 (by decide) rfl (fun T kV doc pm an cdv ct us its h1 h2 => match us, its, h1, h2 with | [_, _, _, _], [_], _, _ => ⟨_, rfl, rfl⟩)
  have b27 : Binds K _ a_Nest___init__ [] := VS.bd_nil bb27
  have F28 : VS.Fd K "names" "Nest.names" s_Nest_names [] f28 _ := fd_mk l28 c28 k28
  have b28 : Binds K _ a_Nest_names [] := F28.bindsN fun _ _ _ _ _ _ us hl => match us, hl with | [_], _ => rfl
  have F29 : VS.Fd K "turns" "Nest.turns" s_Nest_turns [] f29 _ := fd_mk l29 c29 k29
  have b29 : Binds K _ a_Nest_turns [] := F29.bindsN fun _ _ _ _ _ _ us hl => match us, hl with | [_], _ => rfl
  have F30 : VS.Fd K "lies" "Nest.lies" s_Nest_lies [] f30 _ := fd_mk l30 c30 k30
  have b30 : Binds K _ a_Nest_lies [] := F30.bindsN fun _ _ _ _ _ _ us hl => match us, hl with | [_, _], _ => rfl
  have F31 : VS.Fd K "_law_cell" "_law_cell" s__law_cell [] f31 _ := fd_mk l31 c31 k31
  have b31 : Binds K _ a__law_cell [] := F31.bindsN fun _ _ _ _ _ _ us hl => match us, hl with | [_, _], _ => rfl
  have F32 : VS.Fd K "_law_purse" "_law_purse" s__law_purse [] f32 _ := fd_mk l32 c32 k32
  have b32 : Binds K _ a__law_purse [] := F32.bindsN fun _ _ _ _ _ _ us hl => match us, hl with | [_], _ => rfl
  have F33 : VS.Fd K "_law_take" "_law_take" s__law_take [] f33 _ := fd_mk l33 c33 k33
  have b33 : Binds K _ a__law_take [] := F33.bindsN fun _ _ _ _ _ _ us hl => match us, hl with | [_, _], _ => rfl
  have F34 : VS.Fd K "_law_names" "_law_names" s__law_names [] f34 _ := fd_mk l34 c34 k34
  have b34 : Binds K _ a__law_names [] := F34.bindsN fun _ _ _ _ _ _ us hl => match us, hl with | [_, _], _ => rfl
  have F35 : VS.Fd K "_law_sides" "_law_sides" s__law_sides [] f35 _ := fd_mk l35 c35 k35
  have b35 : Binds K _ a__law_sides [] := F35.bindsN fun _ _ _ _ _ _ us hl => match us, hl with | [_, _, _, _], _ => rfl
  have F36 : VS.Fd K "_law_row" "_law_row" s__law_row [] f36 _ := fd_mk l36 c36 k36
  have b36 : Binds K _ a__law_row [] := F36.bindsN fun _ _ _ _ _ _ us hl => match us, hl with | [_, _, _, _, _], _ => rfl
  have F37 : VS.Fd K "_law_rows" "_law_rows" s__law_rows [] f37 _ := fd_mk l37 c37 k37
  have b37 : Binds K _ a__law_rows [] := F37.bindsN fun _ _ _ _ _ _ us hl => match us, hl with | [_, _], _ => rfl
  have F38 : VS.Fd K "_law_spare" "_law_spare" s__law_spare [] f38 _ := fd_mk l38 c38 k38
  have b38 : Binds K _ a__law_spare [] := F38.bindsN fun _ _ _ _ _ _ us hl => match us, hl with | [_], _ => rfl
  have F39 : VS.Fd K "_law_made" "_law_made" s__law_made [] f39 _ := fd_mk l39 c39 k39
  have b39 : Binds K _ a__law_made [] := F39.bindsN fun _ _ _ _ _ _ us hl => match us, hl with | [_], _ => rfl
  have F40 : VS.Fd K "_law_heap" "_law_heap" s__law_heap [] f40 _ := fd_mk l40 c40 k40
  have b40 : Binds K _ a__law_heap [] := F40.bindsN fun _ _ _ _ _ _ us hl => match us, hl with | [_], _ => rfl
  have F41 : VS.Fd K "_law_orders" "_law_orders" s__law_orders [] f41 _ := fd_mk l41 c41 k41
  have b41 : Binds K _ a__law_orders [] := F41.bindsN fun _ _ _ _ _ _ us hl => match us, hl with | [], _ => rfl
  have F42 : VS.Fd K "_law_turns" "_law_turns" s__law_turns [] f42 _ := fd_mk l42 c42 k42
  have b42 : Binds K _ a__law_turns [] := F42.bindsN fun _ _ _ _ _ _ us hl => match us, hl with | [_, _, _], _ => rfl
  have F43 : VS.Fd K "_law_outwards" "_law_outwards" s__law_outwards [] f43 _ := fd_mk l43 c43 k43
  have b43 : Binds K _ a__law_outwards [] := F43.bindsN fun _ _ _ _ _ _ us hl => match us, hl with | [_, _], _ => rfl
  have F44 : VS.Fd K "_law_chain" "_law_chain" s__law_chain [] f44 _ := fd_mk l44 c44 k44
  have b44 : Binds K _ a__law_chain [] := F44.bindsN fun _ _ _ _ _ _ us hl => match us, hl with | [_, _], _ => rfl
  have F45 : VS.Fd K "_law_dues" "_law_dues" s__law_dues [] f45 _ := fd_mk l45 c45 k45
  have b45 : Binds K _ a__law_dues [] := F45.bindsN fun _ _ _ _ _ _ us hl => match us, hl with | [_, _], _ => rfl
  have F46 : VS.Fd K "_law_side_by_side" "_law_side_by_side" s__law_side_by_side [] f46 _ := fd_mk l46 c46 k46
  have b46 : Binds K _ a__law_side_by_side [] := F46.bindsN fun _ _ _ _ _ _ us hl => match us, hl with | [_, _, _], _ => rfl
  have F47 : VS.Fd K "_law_drawn_order" "_law_drawn_order" s__law_drawn_order [] f47 _ := fd_mk l47 c47 k47
  have b47 : Binds K _ a__law_drawn_order [] := F47.bindsN fun _ _ _ _ _ _ us hl => match us, hl with | [_, _], _ => rfl
  have F48 : VS.Fd K "_law_refused" "_law_refused" s__law_refused [] f48 _ := fd_mk l48 c48 k48
  have b48 : Binds K _ a__law_refused [] := F48.bindsN fun _ _ _ _ _ _ us hl => match us, hl with | [_, _], _ => rfl
  have F49 : VS.Fd K "_law_right" "_law_right" s__law_right [] f49 _ := fd_mk l49 c49 k49
  have b49 : Binds K _ a__law_right [] := F49.bindsN fun _ _ _ _ _ _ us hl => match us, hl with | [_, _, _, _], _ => rfl
  have F50 : VS.Fd K "_law_strange" "_law_strange" s__law_strange [] f50 _ := fd_mk l50 c50 k50
  have b50 : Binds K _ a__law_strange [] := F50.bindsN fun _ _ _ _ _ _ us hl => match us, hl with | [_, _, _], _ => rfl
  have F51 : VS.Fd K "law" "law" s_law [] fa _ := fd_mk l51 c51 k51
  have FXNoNumber : VS.Fd K "__init__" "NoNumber.__init__" s_NoNumber___init__ [] fXNoNumber _ := fd_mk lXNoNumber cXNoNumber kXNoNumber
  have bXNoNumber : Binds K _ a_NoNumber___init__ [] := FXNoNumber.bindsN fun _ _ _ _ _ _ us hl => match us, hl with | [_, _], _ => rfl
  have FXNoSide : VS.Fd K "__init__" "NoSide.__init__" s_NoSide___init__ [] fXNoSide _ := fd_mk lXNoSide cXNoSide kXNoSide
  have bXNoSide : Binds K _ a_NoSide___init__ [] := FXNoSide.bindsN fun _ _ _ _ _ _ us hl => match us, hl with | [_, _], _ => rfl
  have FXNoSides : VS.Fd K "__init__" "NoSides.__init__" s_NoSides___init__ [] fXNoSides _ := fd_mk lXNoSides cXNoSides kXNoSides
  have bXNoSides : Binds K _ a_NoSides___init__ [] := FXNoSides.bindsN fun _ _ _ _ _ _ us hl => match us, hl with | [_, _], _ => rfl
  have FXNoOrder : VS.Fd K "__init__" "NoOrder.__init__" s_NoOrder___init__ [] fXNoOrder _ := fd_mk lXNoOrder cXNoOrder kXNoOrder
  have bXNoOrder : Binds K _ a_NoOrder___init__ [] := FXNoOrder.bindsN fun _ _ _ _ _ _ us hl => match us, hl with | [_, _], _ => rfl
  have FXNoParcel : VS.Fd K "__init__" "NoParcel.__init__" s_NoParcel___init__ [] fXNoParcel _ := fd_mk lXNoParcel cXNoParcel kXNoParcel
  have bXNoParcel : Binds K _ a_NoParcel___init__ [] := FXNoParcel.bindsN fun _ _ _ _ _ _ us hl => match us, hl with | [_, _], _ => rfl
  have FXNotInHeap : VS.Fd K "__init__" "NotInHeap.__init__" s_NotInHeap___init__ [] fXNotInHeap _ := fd_mk lXNotInHeap cXNotInHeap kXNotInHeap
  have bXNotInHeap : Binds K _ a_NotInHeap___init__ [] := FXNotInHeap.bindsN fun _ _ _ _ _ _ us hl => match us, hl with | [_, _], _ => rfl
  refine ⟨_, fun s u => F51.bindsA (ps := ["_law_script"]) (fun _ _ _ _ _ _ us hl => match us, hl with | [_], _ => rfl) s [u] rfl, fun base _ _ hsys => ?_⟩
  have oxXNoNumber : VS.OexG K C_NoNumber := ⟨⟨nmXNoNumber, qnXNoNumber, NXNoNumber, bsXNoNumber, _, snXNoNumber, suXNoNumber, abXNoNumber, coXNoNumber, ddXNoNumber, k0XNoNumber, k1XNoNumber, k2XNoNumber, k3XNoNumber, k5XNoNumber, _, xXNoNumber, VS.bmG_VE.up⟩, saXNoNumber, exXNoNumber, tyXNoNumber, kcXNoNumber⟩
  have x_NoNumber : VS.Xc l.prog w K mg base "NoNumber" C_NoNumber "found" := ⟨oxXNoNumber, ⟨gaXNoNumber, ggXNoNumber, exXNoNumber, hdXNoNumber⟩, noXNoNumber, PySem.W.mg_of X G aXNoNumber, fXNoNumber, _, _, iXNoNumber, tXNoNumber, VS.xinit_ok (f := "found") FXNoNumber sc_NoNumber___init__ rfl oxXNoNumber noXNoNumber (fun cdv A outer s H E => pss_one (VS.ps_ostG (pv 0) (pv 1))), bXNoNumber⟩
  have oxXNoSide : VS.OexG K C_NoSide := ⟨⟨nmXNoSide, qnXNoSide, NXNoSide, bsXNoSide, _, snXNoSide, suXNoSide, abXNoSide, coXNoSide, ddXNoSide, k0XNoSide, k1XNoSide, k2XNoSide, k3XNoSide, k5XNoSide, _, xXNoSide, VS.bmG_VE.up⟩, saXNoSide, exXNoSide, tyXNoSide, kcXNoSide⟩
  have x_NoSide : VS.Xc l.prog w K mg base "NoSide" C_NoSide "found" := ⟨oxXNoSide, ⟨gaXNoSide, ggXNoSide, exXNoSide, hdXNoSide⟩, noXNoSide, PySem.W.mg_of X G aXNoSide, fXNoSide, _, _, iXNoSide, tXNoSide, VS.xinit_ok (f := "found") FXNoSide sc_NoSide___init__ rfl oxXNoSide noXNoSide (fun cdv A outer s H E => pss_one (VS.ps_ostG (pv 0) (pv 1))), bXNoSide⟩
  have oxXNoSides : VS.OexG K C_NoSides := ⟨⟨nmXNoSides, qnXNoSides, NXNoSides, bsXNoSides, _, snXNoSides, suXNoSides, abXNoSides, coXNoSides, ddXNoSides, k0XNoSides, k1XNoSides, k2XNoSides, k3XNoSides, k5XNoSides, _, xXNoSides, VS.bmG_VE.up⟩, saXNoSides, exXNoSides, tyXNoSides, kcXNoSides⟩
  have x_NoSides : VS.Xc l.prog w K mg base "NoSides" C_NoSides "found" := ⟨oxXNoSides, ⟨gaXNoSides, ggXNoSides, exXNoSides, hdXNoSides⟩, noXNoSides, PySem.W.mg_of X G aXNoSides, fXNoSides, _, _, iXNoSides, tXNoSides, VS.xinit_ok (f := "found") FXNoSides sc_NoSides___init__ rfl oxXNoSides noXNoSides (fun cdv A outer s H E => pss_one (VS.ps_ostG (pv 0) (pv 1))), bXNoSides⟩
  have oxXNoOrder : VS.OexG K C_NoOrder := ⟨⟨nmXNoOrder, qnXNoOrder, NXNoOrder, bsXNoOrder, _, snXNoOrder, suXNoOrder, abXNoOrder, coXNoOrder, ddXNoOrder, k0XNoOrder, k1XNoOrder, k2XNoOrder, k3XNoOrder, k5XNoOrder, _, xXNoOrder, VS.bmG_VE.up⟩, saXNoOrder, exXNoOrder, tyXNoOrder, kcXNoOrder⟩
  have x_NoOrder : VS.Xc l.prog w K mg base "NoOrder" C_NoOrder "found" := ⟨oxXNoOrder, ⟨gaXNoOrder, ggXNoOrder, exXNoOrder, hdXNoOrder⟩, noXNoOrder, PySem.W.mg_of X G aXNoOrder, fXNoOrder, _, _, iXNoOrder, tXNoOrder, VS.xinit_ok (f := "found") FXNoOrder sc_NoOrder___init__ rfl oxXNoOrder noXNoOrder (fun cdv A outer s H E => pss_one (VS.ps_ostG (pv 0) (pv 1))), bXNoOrder⟩
  have oxXNoParcel : VS.OexG K C_NoParcel := ⟨⟨nmXNoParcel, qnXNoParcel, NXNoParcel, bsXNoParcel, _, snXNoParcel, suXNoParcel, abXNoParcel, coXNoParcel, ddXNoParcel, k0XNoParcel, k1XNoParcel, k2XNoParcel, k3XNoParcel, k5XNoParcel, _, xXNoParcel, VS.bmG_VE.up⟩, saXNoParcel, exXNoParcel, tyXNoParcel, kcXNoParcel⟩
  have x_NoParcel : VS.Xc l.prog w K mg base "NoParcel" C_NoParcel "found" := ⟨oxXNoParcel, ⟨gaXNoParcel, ggXNoParcel, exXNoParcel, hdXNoParcel⟩, noXNoParcel, PySem.W.mg_of X G aXNoParcel, fXNoParcel, _, _, iXNoParcel, tXNoParcel, VS.xinit_ok (f := "found") FXNoParcel sc_NoParcel___init__ rfl oxXNoParcel noXNoParcel (fun cdv A outer s H E => pss_one (VS.ps_ostG (pv 0) (pv 1))), bXNoParcel⟩
  have oxXNotInHeap : VS.OexG K C_NotInHeap := ⟨⟨nmXNotInHeap, qnXNotInHeap, NXNotInHeap, bsXNotInHeap, _, snXNotInHeap, suXNotInHeap, abXNotInHeap, coXNotInHeap, ddXNotInHeap, k0XNotInHeap, k1XNotInHeap, k2XNotInHeap, k3XNotInHeap, k5XNotInHeap, _, xXNotInHeap, VS.bmG_KE.up⟩, saXNotInHeap, exXNotInHeap, tyXNotInHeap, kcXNotInHeap⟩
  have x_NotInHeap : VS.Xc l.prog w K mg base "NotInHeap" C_NotInHeap "found" := ⟨oxXNotInHeap, ⟨gaXNotInHeap, ggXNotInHeap, exXNotInHeap, hdXNotInHeap⟩, noXNotInHeap, PySem.W.mg_of X G aXNotInHeap, fXNotInHeap, _, _, iXNotInHeap, tXNotInHeap, VS.xinit_ok (f := "found") FXNotInHeap sc_NotInHeap___init__ rfl oxXNotInHeap noXNotInHeap (fun cdv A outer s H E => pss_one (VS.ps_ostG (pv 0) (pv 1))), bXNotInHeap⟩
  have c_is_whole : VS.Cf l.prog w K mg base (L2.CX l.prog w) 1 "is_whole" s_is_whole [] a_is_whole (p_is_whole K) f0 _ := ⟨ok_is_whole (C_Sides := C_Sides) (C_Parcel := C_Parcel) (C_Heap := C_Heap) (C_Nest := C_Nest) (C_NoNumber := C_NoNumber) (C_NoSide := C_NoSide) (C_NoSides := C_NoSides) (C_NoOrder := C_NoOrder) (C_NoParcel := C_NoParcel) (C_NotInHeap := C_NotInHeap) F0 T hsys, F0, PySem.W.mg_of X G a0, b0⟩
  have c_is_name : VS.Cf l.prog w K mg base (L2.CX l.prog w) 1 "is_name" s_is_name [] a_is_name (p_is_name K) f1 _ := ⟨ok_is_name (C_Sides := C_Sides) (C_Parcel := C_Parcel) (C_Heap := C_Heap) (C_Nest := C_Nest) (C_NoNumber := C_NoNumber) (C_NoSide := C_NoSide) (C_NoSides := C_NoSides) (C_NoOrder := C_NoOrder) (C_NoParcel := C_NoParcel) (C_NotInHeap := C_NotInHeap) F1 T hsys, F1, PySem.W.mg_of X G a1, b1⟩
  have c_is_order : VS.Cf l.prog w K mg base (L2.CX l.prog w) 2 "is_order" s_is_order [] a_is_order (p_is_order K) f2 _ := ⟨ok_is_order (C_Sides := C_Sides) (C_Parcel := C_Parcel) (C_Heap := C_Heap) (C_Nest := C_Nest) (C_NoNumber := C_NoNumber) (C_NoSide := C_NoSide) (C_NoSides := C_NoSides) (C_NoOrder := C_NoOrder) (C_NoParcel := C_NoParcel) (C_NotInHeap := C_NotInHeap) F2 T hsys c_is_whole, F2, PySem.W.mg_of X G a2, b2⟩
  have c_Sides : VS.Kf l.prog w K mg base 3 "Sides" C_Sides "Sides.__init__" s_Sides___init__ [] a_Sides___init__ (p_Sides_init K C_Sides C_NoSide) f3 _ := ⟨⟨mk3, a3, i3, kc3⟩, ok_Sides___init__ (C_Sides := C_Sides) (C_Parcel := C_Parcel) (C_Heap := C_Heap) (C_Nest := C_Nest) (C_NoNumber := C_NoNumber) (C_NoSide := C_NoSide) (C_NoSides := C_NoSides) (C_NoOrder := C_NoOrder) (C_NoParcel := C_NoParcel) (C_NotInHeap := C_NotInHeap) F3 T hsys c_is_whole x_NoSide k_Sides, F3, k_Sides.at_, b3⟩
  have c_Sides_told : VS.Mf l.prog w K mg base 1 C_Sides "told" "Sides.told" s_Sides_told [] a_Sides_told (p_told C_Sides) f4 _ := ⟨ok_Sides_told (C_Sides := C_Sides) (C_Parcel := C_Parcel) (C_Heap := C_Heap) (C_Nest := C_Nest) (C_NoNumber := C_NoNumber) (C_NoSide := C_NoSide) (C_NoSides := C_NoSides) (C_NoOrder := C_NoOrder) (C_NoParcel := C_NoParcel) (C_NotInHeap := C_NotInHeap) F4 T hsys k_Sides, F4, k_Sides.ins.cl, ⟨a4, i4, k4⟩, b4⟩
  have c_Sides_ranked : VS.Mf l.prog w K mg base 1 C_Sides "ranked" "Sides.ranked" s_Sides_ranked [] a_Sides_ranked (p_ranked C_Sides) f5 _ := ⟨ok_Sides_ranked (C_Sides := C_Sides) (C_Parcel := C_Parcel) (C_Heap := C_Heap) (C_Nest := C_Nest) (C_NoNumber := C_NoNumber) (C_NoSide := C_NoSide) (C_NoSides := C_NoSides) (C_NoOrder := C_NoOrder) (C_NoParcel := C_NoParcel) (C_NotInHeap := C_NotInHeap) F5 T hsys k_Sides, F5, k_Sides.ins.cl, ⟨a5, i5, k5⟩, b5⟩
  have c_Sides___repr__ : VS.Mf l.prog w K mg base 1 C_Sides "__repr__" "Sides.__repr__" s_Sides___repr__ [] a_Sides___repr__ (p_repr C_Sides) f6 _ := ⟨ok_Sides___repr__ (C_Sides := C_Sides) (C_Parcel := C_Parcel) (C_Heap := C_Heap) (C_Nest := C_Nest) (C_NoNumber := C_NoNumber) (C_NoSide := C_NoSide) (C_NoSides := C_NoSides) (C_NoOrder := C_NoOrder) (C_NoParcel := C_NoParcel) (C_NotInHeap := C_NotInHeap) F6 T hsys k_Sides, F6, k_Sides.ins.cl, ⟨a6, i6, k6⟩, b6⟩
  have c_need_spare : VS.Cf l.prog w K mg base (L2.CX l.prog w) 3 "need_spare" s_need_spare [] a_need_spare (p_need_spare K C_NoNumber) f7 _ := ⟨ok_need_spare (C_Sides := C_Sides) (C_Parcel := C_Parcel) (C_Heap := C_Heap) (C_Nest := C_Nest) (C_NoNumber := C_NoNumber) (C_NoSide := C_NoSide) (C_NoSides := C_NoSides) (C_NoOrder := C_NoOrder) (C_NoParcel := C_NoParcel) (C_NotInHeap := C_NotInHeap) F7 T hsys c_is_whole x_NoNumber, F7, PySem.W.mg_of X G a7, b7⟩
  have c_Sides_turned : VS.Mf l.prog w K mg base 5 C_Sides "turned" "Sides.turned" s_Sides_turned [] a_Sides_turned (p_turned K C_Sides C_NoOrder) f8 _ := ⟨ok_Sides_turned (C_Sides := C_Sides) (C_Parcel := C_Parcel) (C_Heap := C_Heap) (C_Nest := C_Nest) (C_NoNumber := C_NoNumber) (C_NoSide := C_NoSide) (C_NoSides := C_NoSides) (C_NoOrder := C_NoOrder) (C_NoParcel := C_NoParcel) (C_NotInHeap := C_NotInHeap) F8 T hsys c_is_order c_Sides x_NoOrder k_Sides, F8, k_Sides.ins.cl, ⟨a8, i8, k8⟩, b8⟩
  have c_need_both : VS.Cf l.prog w K mg base (L2.CX l.prog w) 4 "need_both" s_need_both [] a_need_both (p_need_both K C_Sides C_NoSides C_NoNumber) f9 _ := ⟨ok_need_both (C_Sides := C_Sides) (C_Parcel := C_Parcel) (C_Heap := C_Heap) (C_Nest := C_Nest) (C_NoNumber := C_NoNumber) (C_NoSide := C_NoSide) (C_NoSides := C_NoSides) (C_NoOrder := C_NoOrder) (C_NoParcel := C_NoParcel) (C_NotInHeap := C_NotInHeap) F9 T hsys c_need_spare x_NoSides k_Sides, F9, PySem.W.mg_of X G a9, b9⟩
  have c_goes_by : VS.Cf l.prog w K mg base (L2.CX l.prog w) 6 "goes_by" s_goes_by [] a_goes_by (p_goes_by C_Sides) f10 _ := ⟨ok_goes_by (C_Sides := C_Sides) (C_Parcel := C_Parcel) (C_Heap := C_Heap) (C_Nest := C_Nest) (C_NoNumber := C_NoNumber) (C_NoSide := C_NoSide) (C_NoSides := C_NoSides) (C_NoOrder := C_NoOrder) (C_NoParcel := C_NoParcel) (C_NotInHeap := C_NotInHeap) F10 T hsys c_Sides_turned c_Sides_told, F10, PySem.W.mg_of X G a10, b10⟩
  have c_goes_in : VS.Cf l.prog w K mg base (L2.CX l.prog w) 7 "goes_in" s_goes_in [.int 0] a_goes_in (p_goes_in K C_Sides C_NoSides C_NoNumber) f11 _ := ⟨ok_goes_in (C_Sides := C_Sides) (C_Parcel := C_Parcel) (C_Heap := C_Heap) (C_Nest := C_Nest) (C_NoNumber := C_NoNumber) (C_NoSide := C_NoSide) (C_NoSides := C_NoSides) (C_NoOrder := C_NoOrder) (C_NoParcel := C_NoParcel) (C_NotInHeap := C_NotInHeap) F11 T hsys c_need_both c_goes_by c_Sides_ranked, F11, PySem.W.mg_of X G a11, b11⟩
  have c_are_labels : VS.Cf l.prog w K mg base (L2.CX l.prog w) 1 "are_labels" s_are_labels [] a_are_labels p_are_labels f12 _ := ⟨ok_are_labels (C_Sides := C_Sides) (C_Parcel := C_Parcel) (C_Heap := C_Heap) (C_Nest := C_Nest) (C_NoNumber := C_NoNumber) (C_NoSide := C_NoSide) (C_NoSides := C_NoSides) (C_NoOrder := C_NoOrder) (C_NoParcel := C_NoParcel) (C_NotInHeap := C_NotInHeap) F12 T hsys, F12, PySem.W.mg_of X G a12, b12⟩
  have c_room_in : VS.Cf l.prog w K mg base (L2.CX l.prog w) 5 "room_in" s_room_in [] a_room_in (p_room_in C_Sides) f13 _ := ⟨ok_room_in (C_Sides := C_Sides) (C_Parcel := C_Parcel) (C_Heap := C_Heap) (C_Nest := C_Nest) (C_NoNumber := C_NoNumber) (C_NoSide := C_NoSide) (C_NoSides := C_NoSides) (C_NoOrder := C_NoOrder) (C_NoParcel := C_NoParcel) (C_NotInHeap := C_NotInHeap) F13 T hsys c_Sides c_Sides_told k_Sides, F13, PySem.W.mg_of X G a13, b13⟩
  have c_Parcel : VS.Kf l.prog w K mg base 3 "Parcel" C_Parcel "Parcel.__init__" s_Parcel___init__ [.int 1, .int 0, .int 0, .non] a_Parcel___init__ (p_Pc_init C_Parcel C_Sides) f14 _ := ⟨⟨mk14, a14, i14, kc14⟩, ok_Parcel___init__ (C_Sides := C_Sides) (C_Parcel := C_Parcel) (C_Heap := C_Heap) (C_Nest := C_Nest) (C_NoNumber := C_NoNumber) (C_NoSide := C_NoSide) (C_NoSides := C_NoSides) (C_NoOrder := C_NoOrder) (C_NoParcel := C_NoParcel) (C_NotInHeap := C_NotInHeap) F14 T hsys c_is_name c_is_whole c_are_labels k_Sides k_Parcel, F14, k_Parcel.at_, b14⟩
  have c_Parcel_name : VS.Mf l.prog w K mg base 1 C_Parcel "name" "Parcel.name" s_Parcel_name [] a_Parcel_name (p_Pc_name C_Parcel C_Sides) f15 _ := ⟨ok_Parcel_name (C_Sides := C_Sides) (C_Parcel := C_Parcel) (C_Heap := C_Heap) (C_Nest := C_Nest) (C_NoNumber := C_NoNumber) (C_NoSide := C_NoSide) (C_NoSides := C_NoSides) (C_NoOrder := C_NoOrder) (C_NoParcel := C_NoParcel) (C_NotInHeap := C_NotInHeap) F15 T hsys k_Parcel k_Sides, F15, k_Parcel.ins.cl, ⟨a15, i15, k15⟩, b15⟩
  have c_Parcel_room : VS.Mf l.prog w K mg base 6 C_Parcel "room" "Parcel.room" s_Parcel_room [] a_Parcel_room (p_Pc_room C_Parcel C_Sides) f16 _ := ⟨ok_Parcel_room (C_Sides := C_Sides) (C_Parcel := C_Parcel) (C_Heap := C_Heap) (C_Nest := C_Nest) (C_NoNumber := C_NoNumber) (C_NoSide := C_NoSide) (C_NoSides := C_NoSides) (C_NoOrder := C_NoOrder) (C_NoParcel := C_NoParcel) (C_NotInHeap := C_NotInHeap) F16 T hsys c_room_in k_Parcel k_Sides, F16, k_Parcel.ins.cl, ⟨a16, i16, k16⟩, b16⟩
  have c_Parcel_goes_in : VS.Mf l.prog w K mg base 8 C_Parcel "goes_in" "Parcel.goes_in" s_Parcel_goes_in [.int 0] a_Parcel_goes_in (p_Pc_goes K C_Parcel C_Sides C_NoParcel C_NoNumber) f17 _ := ⟨ok_Parcel_goes_in (C_Sides := C_Sides) (C_Parcel := C_Parcel) (C_Heap := C_Heap) (C_Nest := C_Nest) (C_NoNumber := C_NoNumber) (C_NoSide := C_NoSide) (C_NoSides := C_NoSides) (C_NoOrder := C_NoOrder) (C_NoParcel := C_NoParcel) (C_NotInHeap := C_NotInHeap) F17 T hsys c_need_spare c_Parcel_room c_goes_in x_NoParcel k_Parcel k_Sides, F17, k_Parcel.ins.cl, ⟨a17, i17, k17⟩, b17⟩
  have c_Heap : VS.Kf l.prog w K mg base 1 "Heap" C_Heap "Heap.__init__" s_Heap___init__ [] a_Heap___init__ (p_Hp_init C_Heap) f18 _ := ⟨⟨mk18, a18, i18, kc18⟩, ok_Heap___init__ (C_Sides := C_Sides) (C_Parcel := C_Parcel) (C_Heap := C_Heap) (C_Nest := C_Nest) (C_NoNumber := C_NoNumber) (C_NoSide := C_NoSide) (C_NoSides := C_NoSides) (C_NoOrder := C_NoOrder) (C_NoParcel := C_NoParcel) (C_NotInHeap := C_NotInHeap) F18 T hsys k_Heap, F18, k_Heap.at_, b18⟩
  have c_Heap_names : VS.Mf l.prog w K mg base 2 C_Heap "names" "Heap.names" s_Heap_names [] a_Heap_names (p_Hp_names C_Heap C_Parcel C_Sides) f19 _ := ⟨ok_Heap_names (C_Sides := C_Sides) (C_Parcel := C_Parcel) (C_Heap := C_Heap) (C_Nest := C_Nest) (C_NoNumber := C_NoNumber) (C_NoSide := C_NoSide) (C_NoSides := C_NoSides) (C_NoOrder := C_NoOrder) (C_NoParcel := C_NoParcel) (C_NotInHeap := C_NotInHeap) F19 T hsys c_Parcel_name k_Heap k_Parcel k_Sides, F19, k_Heap.ins.cl, ⟨a19, i19, k19⟩, b19⟩
  have c_Heap_place_of : VS.Mf l.prog w K mg base 2 C_Heap "place_of" "Heap.place_of" s_Heap_place_of [] a_Heap_place_of (p_Hp_place C_Heap C_Parcel C_Sides) f20 _ := ⟨ok_Heap_place_of (C_Sides := C_Sides) (C_Parcel := C_Parcel) (C_Heap := C_Heap) (C_Nest := C_Nest) (C_NoNumber := C_NoNumber) (C_NoSide := C_NoSide) (C_NoSides := C_NoSides) (C_NoOrder := C_NoOrder) (C_NoParcel := C_NoParcel) (C_NotInHeap := C_NotInHeap) F20 T hsys c_Parcel_name k_Heap k_Parcel k_Sides, F20, k_Heap.ins.cl, ⟨a20, i20, k20⟩, b20⟩
  have c_Heap_put : VS.Mf l.prog w K mg base 3 C_Heap "put" "Heap.put" s_Heap_put [.non] a_Heap_put (p_Hp_put C_Heap C_Parcel C_Sides) f21 _ := ⟨ok_Heap_put (C_Sides := C_Sides) (C_Parcel := C_Parcel) (C_Heap := C_Heap) (C_Nest := C_Nest) (C_NoNumber := C_NoNumber) (C_NoSide := C_NoSide) (C_NoSides := C_NoSides) (C_NoOrder := C_NoOrder) (C_NoParcel := C_NoParcel) (C_NotInHeap := C_NotInHeap) F21 T hsys c_Heap_names c_Parcel_name k_Heap k_Parcel k_Sides, F21, k_Heap.ins.cl, ⟨a21, i21, k21⟩, b21⟩
  have c_Heap_out : VS.Mf l.prog w K mg base 3 C_Heap "out" "Heap.out" s_Heap_out [] a_Heap_out (p_Hp_out C_Heap C_Parcel C_Sides) f22 _ := ⟨ok_Heap_out (C_Sides := C_Sides) (C_Parcel := C_Parcel) (C_Heap := C_Heap) (C_Nest := C_Nest) (C_NoNumber := C_NoNumber) (C_NoSide := C_NoSide) (C_NoSides := C_NoSides) (C_NoOrder := C_NoOrder) (C_NoParcel := C_NoParcel) (C_NotInHeap := C_NotInHeap) F22 T hsys c_Heap_place_of k_Heap k_Parcel k_Sides, F22, k_Heap.ins.cl, ⟨a22, i22, k22⟩, b22⟩
  have c_Heap_parcel : VS.Mf l.prog w K mg base 3 C_Heap "parcel" "Heap.parcel" s_Heap_parcel [] a_Heap_parcel (p_Hp_parcel C_Heap C_Parcel C_Sides) f23 _ := ⟨ok_Heap_parcel (C_Sides := C_Sides) (C_Parcel := C_Parcel) (C_Heap := C_Heap) (C_Nest := C_Nest) (C_NoNumber := C_NoNumber) (C_NoSide := C_NoSide) (C_NoSides := C_NoSides) (C_NoOrder := C_NoOrder) (C_NoParcel := C_NoParcel) (C_NotInHeap := C_NotInHeap) F23 T hsys c_Heap_place_of k_Heap k_Parcel k_Sides, F23, k_Heap.ins.cl, ⟨a23, i23, k23⟩, b23⟩
  have c_goes : VS.Cf l.prog w K mg base (L2.CX l.prog w) 9 "goes" s_goes [] a_goes (p_goes31 C_Parcel C_Sides) f24 _ := ⟨ok_goes (C_Sides := C_Sides) (C_Parcel := C_Parcel) (C_Heap := C_Heap) (C_Nest := C_Nest) (C_NoNumber := C_NoNumber) (C_NoSide := C_NoSide) (C_NoSides := C_NoSides) (C_NoOrder := C_NoOrder) (C_NoParcel := C_NoParcel) (C_NotInHeap := C_NotInHeap) F24 T hsys c_Parcel_goes_in k_Parcel k_Sides, F24, PySem.W.mg_of X G a24, b24⟩
  have c_are_names : VS.Cf l.prog w K mg base (L2.CX l.prog w) 3 "are_names" s_are_names [] a_are_names (p_are_names31 C_Heap C_Parcel C_Sides) f25 _ := ⟨ok_are_names (C_Sides := C_Sides) (C_Parcel := C_Parcel) (C_Heap := C_Heap) (C_Nest := C_Nest) (C_NoNumber := C_NoNumber) (C_NoSide := C_NoSide) (C_NoSides := C_NoSides) (C_NoOrder := C_NoOrder) (C_NoParcel := C_NoParcel) (C_NotInHeap := C_NotInHeap) F25 T hsys c_Heap_names k_Heap k_Parcel k_Sides, F25, PySem.W.mg_of X G a25, b25⟩
  have c_first_apart : VS.Cf l.prog w K mg base (L2.CX l.prog w) 10 "first_apart" s_first_apart [] a_first_apart (p_apart C_Heap C_Parcel C_Sides) f26 _ := ⟨ok_first_apart (C_Sides := C_Sides) (C_Parcel := C_Parcel) (C_Heap := C_Heap) (C_Nest := C_Nest) (C_NoNumber := C_NoNumber) (C_NoSide := C_NoSide) (C_NoSides := C_NoSides) (C_NoOrder := C_NoOrder) (C_NoParcel := C_NoParcel) (C_NotInHeap := C_NotInHeap) F26 T hsys c_goes c_Heap_parcel k_Heap k_Parcel k_Sides, F26, PySem.W.mg_of X G a26, b26⟩
  have c_Nest : VS.Kf l.prog w K mg base 11 "Nest" C_Nest "Nest.__init__" s_Nest___init__ [.int 0] a_Nest___init__ (p_Ns_init C_Nest C_Heap C_Parcel C_Sides) f27 _ := ⟨⟨mk27, a27, i27, kc27⟩, ok_Nest___init__ (C_Sides := C_Sides) (C_Parcel := C_Parcel) (C_Heap := C_Heap) (C_Nest := C_Nest) (C_NoNumber := C_NoNumber) (C_NoSide := C_NoSide) (C_NoSides := C_NoSides) (C_NoOrder := C_NoOrder) (C_NoParcel := C_NoParcel) (C_NotInHeap := C_NotInHeap) F27 T hsys c_need_spare c_are_names c_first_apart c_Heap_parcel c_Parcel_goes_in k_Nest k_Heap k_Parcel k_Sides, F27, k_Nest.at_, b27⟩
  have c_Nest_names : VS.Mf l.prog w K mg base 2 C_Nest "names" "Nest.names" s_Nest_names [] a_Nest_names (p_Ns_names C_Nest C_Parcel C_Sides) f28 _ := ⟨ok_Nest_names (C_Sides := C_Sides) (C_Parcel := C_Parcel) (C_Heap := C_Heap) (C_Nest := C_Nest) (C_NoNumber := C_NoNumber) (C_NoSide := C_NoSide) (C_NoSides := C_NoSides) (C_NoOrder := C_NoOrder) (C_NoParcel := C_NoParcel) (C_NotInHeap := C_NotInHeap) F28 T hsys c_Parcel_name k_Nest k_Heap k_Parcel k_Sides, F28, k_Nest.ins.cl, ⟨a28, i28, k28⟩, b28⟩
  have c_Nest_turns : VS.Mf l.prog w K mg base 1 C_Nest "turns" "Nest.turns" s_Nest_turns [] a_Nest_turns (p_Ns_turns C_Nest C_Parcel C_Sides) f29 _ := ⟨ok_Nest_turns (C_Sides := C_Sides) (C_Parcel := C_Parcel) (C_Heap := C_Heap) (C_Nest := C_Nest) (C_NoNumber := C_NoNumber) (C_NoSide := C_NoSide) (C_NoSides := C_NoSides) (C_NoOrder := C_NoOrder) (C_NoParcel := C_NoParcel) (C_NotInHeap := C_NotInHeap) F29 T hsys k_Nest k_Heap k_Parcel k_Sides, F29, k_Nest.ins.cl, ⟨a29, i29, k29⟩, b29⟩
  have c_Nest_lies : VS.Mf l.prog w K mg base 3 C_Nest "lies" "Nest.lies" s_Nest_lies [] a_Nest_lies (p_Ns_lies K C_Nest C_Parcel C_Sides C_NotInHeap) f30 _ := ⟨ok_Nest_lies (C_Sides := C_Sides) (C_Parcel := C_Parcel) (C_Heap := C_Heap) (C_Nest := C_Nest) (C_NoNumber := C_NoNumber) (C_NoSide := C_NoSide) (C_NoSides := C_NoSides) (C_NoOrder := C_NoOrder) (C_NoParcel := C_NoParcel) (C_NotInHeap := C_NotInHeap) F30 T hsys c_Nest_names x_NotInHeap k_Nest k_Heap k_Parcel k_Sides, F30, k_Nest.ins.cl, ⟨a30, i30, k30⟩, b30⟩
  have c__law_cell : VS.Cf l.prog w K mg base (L2.CX l.prog w) 1 "_law_cell" s__law_cell [] a__law_cell p__law_cell f31 _ := ⟨ok__law_cell (C_Sides := C_Sides) (C_Parcel := C_Parcel) (C_Heap := C_Heap) (C_Nest := C_Nest) (C_NoNumber := C_NoNumber) (C_NoSide := C_NoSide) (C_NoSides := C_NoSides) (C_NoOrder := C_NoOrder) (C_NoParcel := C_NoParcel) (C_NotInHeap := C_NotInHeap) F31 T hsys, F31, PySem.W.mg_of X G a31, b31⟩
  have c__law_purse : VS.Cf l.prog w K mg base (L2.CX l.prog w) 1 "_law_purse" s__law_purse [] a__law_purse p__law_purse f32 _ := ⟨ok__law_purse (C_Sides := C_Sides) (C_Parcel := C_Parcel) (C_Heap := C_Heap) (C_Nest := C_Nest) (C_NoNumber := C_NoNumber) (C_NoSide := C_NoSide) (C_NoSides := C_NoSides) (C_NoOrder := C_NoOrder) (C_NoParcel := C_NoParcel) (C_NotInHeap := C_NotInHeap) F32 T hsys, F32, PySem.W.mg_of X G a32, b32⟩
  have c__law_take : VS.Cf l.prog w K mg base (L2.CX l.prog w) 1 "_law_take" s__law_take [] a__law_take p__law_take f33 _ := ⟨ok__law_take (C_Sides := C_Sides) (C_Parcel := C_Parcel) (C_Heap := C_Heap) (C_Nest := C_Nest) (C_NoNumber := C_NoNumber) (C_NoSide := C_NoSide) (C_NoSides := C_NoSides) (C_NoOrder := C_NoOrder) (C_NoParcel := C_NoParcel) (C_NotInHeap := C_NotInHeap) F33 T hsys, F33, PySem.W.mg_of X G a33, b33⟩
  have c__law_names : VS.Cf l.prog w K mg base (L2.CX l.prog w) 2 "_law_names" s__law_names [] a__law_names p__law_names f34 _ := ⟨ok__law_names (C_Sides := C_Sides) (C_Parcel := C_Parcel) (C_Heap := C_Heap) (C_Nest := C_Nest) (C_NoNumber := C_NoNumber) (C_NoSide := C_NoSide) (C_NoSides := C_NoSides) (C_NoOrder := C_NoOrder) (C_NoParcel := C_NoParcel) (C_NotInHeap := C_NotInHeap) F34 T hsys c__law_take, F34, PySem.W.mg_of X G a34, b34⟩
  have c__law_sides : VS.Cf l.prog w K mg base (L2.CX l.prog w) 2 "_law_sides" s__law_sides [] a__law_sides p__law_sides f35 _ := ⟨ok__law_sides (C_Sides := C_Sides) (C_Parcel := C_Parcel) (C_Heap := C_Heap) (C_Nest := C_Nest) (C_NoNumber := C_NoNumber) (C_NoSide := C_NoSide) (C_NoSides := C_NoSides) (C_NoOrder := C_NoOrder) (C_NoParcel := C_NoParcel) (C_NotInHeap := C_NotInHeap) F35 T hsys c__law_take, F35, PySem.W.mg_of X G a35, b35⟩
  have c__law_row : VS.Cf l.prog w K mg base (L2.CX l.prog w) 3 "_law_row" s__law_row [] a__law_row p__law_row f36 _ := ⟨ok__law_row (C_Sides := C_Sides) (C_Parcel := C_Parcel) (C_Heap := C_Heap) (C_Nest := C_Nest) (C_NoNumber := C_NoNumber) (C_NoSide := C_NoSide) (C_NoSides := C_NoSides) (C_NoOrder := C_NoOrder) (C_NoParcel := C_NoParcel) (C_NotInHeap := C_NotInHeap) F36 T hsys c__law_take c__law_sides, F36, PySem.W.mg_of X G a36, b36⟩
  have c__law_rows : VS.Cf l.prog w K mg base (L2.CX l.prog w) 4 "_law_rows" s__law_rows [] a__law_rows p__law_rows f37 _ := ⟨ok__law_rows (C_Sides := C_Sides) (C_Parcel := C_Parcel) (C_Heap := C_Heap) (C_Nest := C_Nest) (C_NoNumber := C_NoNumber) (C_NoSide := C_NoSide) (C_NoSides := C_NoSides) (C_NoOrder := C_NoOrder) (C_NoParcel := C_NoParcel) (C_NotInHeap := C_NotInHeap) F37 T hsys c__law_take c__law_names c__law_row, F37, PySem.W.mg_of X G a37, b37⟩
  have c__law_spare : VS.Cf l.prog w K mg base (L2.CX l.prog w) 2 "_law_spare" s__law_spare [] a__law_spare p__law_spare f38 _ := ⟨ok__law_spare (C_Sides := C_Sides) (C_Parcel := C_Parcel) (C_Heap := C_Heap) (C_Nest := C_Nest) (C_NoNumber := C_NoNumber) (C_NoSide := C_NoSide) (C_NoSides := C_NoSides) (C_NoOrder := C_NoOrder) (C_NoParcel := C_NoParcel) (C_NotInHeap := C_NotInHeap) F38 T hsys c__law_take, F38, PySem.W.mg_of X G a38, b38⟩
  have c__law_made : VS.Cf l.prog w K mg base (L2.CX l.prog w) 5 "_law_made" s__law_made [] a__law_made (p_made C_Parcel C_Sides) f39 _ := ⟨ok__law_made (C_Sides := C_Sides) (C_Parcel := C_Parcel) (C_Heap := C_Heap) (C_Nest := C_Nest) (C_NoNumber := C_NoNumber) (C_NoSide := C_NoSide) (C_NoSides := C_NoSides) (C_NoOrder := C_NoOrder) (C_NoParcel := C_NoParcel) (C_NotInHeap := C_NotInHeap) F39 T hsys c_Sides c_Parcel k_Sides k_Parcel, F39, PySem.W.mg_of X G a39, b39⟩
  obtain ⟨d_Heap_put2⟩ := VS.bdN (ps := a_Heap_put) F21 2 0 (by decide) rfl (fun T kV doc pm an cdv ct us its h1 h2 => match us, its, h1, h2 with | [_, _], [_], _, _ => ⟨_, rfl, rfl⟩)
  have c__law_heap : VS.Cf l.prog w K mg base (L2.CX l.prog w) 6 "_law_heap" s__law_heap [] a__law_heap (p_heap C_Heap C_Parcel C_Sides) f40 _ := ⟨ok__law_heap (C_Sides := C_Sides) (C_Parcel := C_Parcel) (C_Heap := C_Heap) (C_Nest := C_Nest) (C_NoNumber := C_NoNumber) (C_NoSide := C_NoSide) (C_NoSides := C_NoSides) (C_NoOrder := C_NoOrder) (C_NoParcel := C_NoParcel) (C_NotInHeap := C_NotInHeap) F40 T hsys c_Heap c_Heap_put d_Heap_put2 c__law_made k_Heap k_Parcel k_Sides, F40, PySem.W.mg_of X G a40, b40⟩
  have c__law_orders : VS.Cf l.prog w K mg base (L2.CX l.prog w) 1 "_law_orders" s__law_orders [] a__law_orders p__law_orders f41 _ := ⟨ok__law_orders (C_Sides := C_Sides) (C_Parcel := C_Parcel) (C_Heap := C_Heap) (C_Nest := C_Nest) (C_NoNumber := C_NoNumber) (C_NoSide := C_NoSide) (C_NoSides := C_NoSides) (C_NoOrder := C_NoOrder) (C_NoParcel := C_NoParcel) (C_NotInHeap := C_NotInHeap) F41 T hsys, F41, PySem.W.mg_of X G a41, b41⟩
  have c__law_turns : VS.Cf l.prog w K mg base (L2.CX l.prog w) 2 "_law_turns" s__law_turns [] a__law_turns p__law_turns f42 _ := ⟨ok__law_turns (C_Sides := C_Sides) (C_Parcel := C_Parcel) (C_Heap := C_Heap) (C_Nest := C_Nest) (C_NoNumber := C_NoNumber) (C_NoSide := C_NoSide) (C_NoSides := C_NoSides) (C_NoOrder := C_NoOrder) (C_NoParcel := C_NoParcel) (C_NotInHeap := C_NotInHeap) F42 T hsys c__law_orders, F42, PySem.W.mg_of X G a42, b42⟩
  have c__law_outwards : VS.Cf l.prog w K mg base (L2.CX l.prog w) 3 "_law_outwards" s__law_outwards [] a__law_outwards p__law_outwards f43 _ := ⟨ok__law_outwards (C_Sides := C_Sides) (C_Parcel := C_Parcel) (C_Heap := C_Heap) (C_Nest := C_Nest) (C_NoNumber := C_NoNumber) (C_NoSide := C_NoSide) (C_NoSides := C_NoSides) (C_NoOrder := C_NoOrder) (C_NoParcel := C_NoParcel) (C_NotInHeap := C_NotInHeap) F43 T hsys c__law_turns, F43, PySem.W.mg_of X G a43, b43⟩
  have c__law_chain : VS.Cf l.prog w K mg base (L2.CX l.prog w) 2 "_law_chain" s__law_chain [] a__law_chain p__law_chain f44 _ := ⟨ok__law_chain (C_Sides := C_Sides) (C_Parcel := C_Parcel) (C_Heap := C_Heap) (C_Nest := C_Nest) (C_NoNumber := C_NoNumber) (C_NoSide := C_NoSide) (C_NoSides := C_NoSides) (C_NoOrder := C_NoOrder) (C_NoParcel := C_NoParcel) (C_NotInHeap := C_NotInHeap) F44 T hsys c__law_take, F44, PySem.W.mg_of X G a44, b44⟩
  have c__law_dues : VS.Cf l.prog w K mg base (L2.CX l.prog w) 3 "_law_dues" s__law_dues [] a__law_dues p__law_dues f45 _ := ⟨ok__law_dues (C_Sides := C_Sides) (C_Parcel := C_Parcel) (C_Heap := C_Heap) (C_Nest := C_Nest) (C_NoNumber := C_NoNumber) (C_NoSide := C_NoSide) (C_NoSides := C_NoSides) (C_NoOrder := C_NoOrder) (C_NoParcel := C_NoParcel) (C_NotInHeap := C_NotInHeap) F45 T hsys c__law_turns, F45, PySem.W.mg_of X G a45, b45⟩
  have c__law_side_by_side : VS.Cf l.prog w K mg base (L2.CX l.prog w) 1 "_law_side_by_side" s__law_side_by_side [] a__law_side_by_side p__law_side_by_side f46 _ := ⟨ok__law_side_by_side (C_Sides := C_Sides) (C_Parcel := C_Parcel) (C_Heap := C_Heap) (C_Nest := C_Nest) (C_NoNumber := C_NoNumber) (C_NoSide := C_NoSide) (C_NoSides := C_NoSides) (C_NoOrder := C_NoOrder) (C_NoParcel := C_NoParcel) (C_NotInHeap := C_NotInHeap) F46 T hsys, F46, PySem.W.mg_of X G a46, b46⟩
  have c__law_drawn_order : VS.Cf l.prog w K mg base (L2.CX l.prog w) 2 "_law_drawn_order" s__law_drawn_order [] a__law_drawn_order p__law_drawn_order f47 _ := ⟨ok__law_drawn_order (C_Sides := C_Sides) (C_Parcel := C_Parcel) (C_Heap := C_Heap) (C_Nest := C_Nest) (C_NoNumber := C_NoNumber) (C_NoSide := C_NoSide) (C_NoSides := C_NoSides) (C_NoOrder := C_NoOrder) (C_NoParcel := C_NoParcel) (C_NotInHeap := C_NotInHeap) F47 T hsys c__law_take, F47, PySem.W.mg_of X G a47, b47⟩
  have c__law_refused : VS.Cf l.prog w K mg base (L2.CX l.prog w) 4 "_law_refused" s__law_refused [] a__law_refused (p__law_refused C_Nest C_Parcel C_Sides) f48 _ := ⟨ok__law_refused (C_Sides := C_Sides) (C_Parcel := C_Parcel) (C_Heap := C_Heap) (C_Nest := C_Nest) (C_NoNumber := C_NoNumber) (C_NoSide := C_NoSide) (C_NoSides := C_NoSides) (C_NoOrder := C_NoOrder) (C_NoParcel := C_NoParcel) (C_NotInHeap := C_NotInHeap) F48 T hsys c_Nest_lies c_Sides___repr__ x_NotInHeap k_Nest k_Heap k_Parcel k_Sides, F48, PySem.W.mg_of X G a48, b48⟩
  have c__law_right : VS.Cf l.prog w K mg base (L2.CX l.prog w) 4 "_law_right" s__law_right [] a__law_right (p__law_right C_Nest C_Parcel C_Sides) f49 _ := ⟨ok__law_right (C_Sides := C_Sides) (C_Parcel := C_Parcel) (C_Heap := C_Heap) (C_Nest := C_Nest) (C_NoNumber := C_NoNumber) (C_NoSide := C_NoSide) (C_NoSides := C_NoSides) (C_NoOrder := C_NoOrder) (C_NoParcel := C_NoParcel) (C_NotInHeap := C_NotInHeap) F49 T hsys c__law_dues c__law_drawn_order c_Nest_lies c__law_side_by_side c__law_turns c_Nest_turns k_Nest k_Heap k_Parcel k_Sides, F49, PySem.W.mg_of X G a49, b49⟩
  have c__law_strange : VS.Cf l.prog w K mg base (L2.CX l.prog w) 5 "_law_strange" s__law_strange [] a__law_strange (p__law_strange C_Sides) f50 _ := ⟨ok__law_strange (C_Sides := C_Sides) (C_Parcel := C_Parcel) (C_Heap := C_Heap) (C_Nest := C_Nest) (C_NoNumber := C_NoNumber) (C_NoSide := C_NoSide) (C_NoSides := C_NoSides) (C_NoOrder := C_NoOrder) (C_NoParcel := C_NoParcel) (C_NotInHeap := C_NotInHeap) F50 T hsys c__law_take c_Sides k_Sides, F50, PySem.W.mg_of X G a50, b50⟩
  exact ok_law (C_Sides := C_Sides) (C_Parcel := C_Parcel) (C_Heap := C_Heap) (C_Nest := C_Nest) (C_NoNumber := C_NoNumber) (C_NoSide := C_NoSide) (C_NoSides := C_NoSides) (C_NoOrder := C_NoOrder) (C_NoParcel := C_NoParcel) (C_NotInHeap := C_NotInHeap) F51 T hsys c__law_cell c__law_purse c__law_take c__law_rows c__law_spare c__law_heap c__law_outwards c__law_chain c_Nest c__law_refused c__law_strange c__law_right c_Heap_out k_Nest k_Heap k_Parcel k_Sides
end LW
open PySem PySem.W PyProof.Rows in
set_option maxRecDepth 100000 in
set_option maxHeartbeats 0 in
theorem PySem.Challenge.cw_boxinbox_k26_lying_in_the_outer_one_holds : PySem.Challenge.rw_boxinbox_k26_lying_in_the_outer_one.Holds := by
  w_on; o_law; k_head; (case hw => w_witness2)
  k_fill
  refine VS.walk_val (l := PySem.Challenge.rw_boxinbox_k26_lying_in_the_outer_one) (n := 63) (k := 20) (x := "_law_script") (CX := fun w => L2.CX (PySem.Challenge.rw_boxinbox_k26_lying_in_the_outer_one).prog w) (p := fun _ => LW.p_law) rfl (by decide) rfl ⟨rfl, by decide, by decide⟩ (by first | rfl | decide +kernel) (fun w h Y => PySem.W.kIn_of Y) ?F (fun _ ns h => ⟨ns, rfl, h, fun _ => rfl⟩) (fun _ _ _ _ _ z => by obtain ⟨_, _, _, _, _, _, _, _, _, _, _, _, q⟩ := z; exact q)
  case F =>
    intro w mg fa h KX G hmg
    refine' LW.all_mk KX G hmg ?aKSides ?pgKSides ?hdKSides ?poKSides ?saKSides ?haKSides ?hmKSides ?icKSides ?tcKSides ?nKSides_three ?zKSides_int ?zKSides_bool ?zKSides_str ?zKSides_NoneType ?zKSides_list ?zKSides_tuple ?zKSides_dict ?mKSides_0 ?mKSides_1 ?aKParcel ?pgKParcel ?hdKParcel ?poKParcel ?saKParcel ?haKParcel ?hmKParcel ?icKParcel ?tcKParcel ?nKParcel_called ?nKParcel_outside ?nKParcel_thick ?nKParcel_heavy ?nKParcel_strong ?nKParcel_marks ?nKParcel_told ?nKParcel_names ?zKParcel_int ?zKParcel_bool ?zKParcel_str ?zKParcel_NoneType ?zKParcel_list ?zKParcel_tuple ?zKParcel_dict ?aKHeap ?pgKHeap ?hdKHeap ?poKHeap ?saKHeap ?haKHeap ?hmKHeap ?icKHeap ?tcKHeap ?nKHeap_held ?nKHeap_told ?nKHeap_kind ?aKNest ?pgKNest ?hdKNest ?poKNest ?saKNest ?haKNest ?hmKNest ?icKNest ?tcKNest ?nKNest_layers ?nKNest_ways ?zKNest_int ?zKNest_bool ?zKNest_str ?zKNest_NoneType ?zKNest_list ?zKNest_tuple ?zKNest_dict ?hnO ?htkO ?aXNoNumber ?xXNoNumber ?saXNoNumber ?gaXNoNumber ?ggXNoNumber ?noXNoNumber ?exXNoNumber ?tyXNoNumber ?kcXNoNumber ?hdXNoNumber ?iXNoNumber ?tXNoNumber ?lXNoNumber ?cXNoNumber ?kXNoNumber ?aXNoSide ?xXNoSide ?saXNoSide ?gaXNoSide ?ggXNoSide ?noXNoSide ?exXNoSide ?tyXNoSide ?kcXNoSide ?hdXNoSide ?iXNoSide ?tXNoSide ?lXNoSide ?cXNoSide ?kXNoSide ?aXNoSides ?xXNoSides ?saXNoSides ?gaXNoSides ?ggXNoSides ?noXNoSides ?exXNoSides ?tyXNoSides ?kcXNoSides ?hdXNoSides ?iXNoSides ?tXNoSides ?lXNoSides ?cXNoSides ?kXNoSides ?aXNoOrder ?xXNoOrder ?saXNoOrder ?gaXNoOrder ?ggXNoOrder ?noXNoOrder ?exXNoOrder ?tyXNoOrder ?kcXNoOrder ?hdXNoOrder ?iXNoOrder ?tXNoOrder ?lXNoOrder ?cXNoOrder ?kXNoOrder ?aXNoParcel ?xXNoParcel ?saXNoParcel ?gaXNoParcel ?ggXNoParcel ?noXNoParcel ?exXNoParcel ?tyXNoParcel ?kcXNoParcel ?hdXNoParcel ?iXNoParcel ?tXNoParcel ?lXNoParcel ?cXNoParcel ?kXNoParcel ?aXNotInHeap ?xXNotInHeap ?saXNotInHeap ?gaXNotInHeap ?ggXNotInHeap ?noXNotInHeap ?exXNotInHeap ?tyXNotInHeap ?kcXNotInHeap ?hdXNotInHeap ?iXNotInHeap ?tXNotInHeap ?lXNotInHeap ?cXNotInHeap ?kXNotInHeap ?a0 ?l0 ?c0 ?k0 ?a1 ?l1 ?c1 ?k1 ?a2 ?l2 ?c2 ?k2 ?a3 ?i3 ?l3 ?c3 ?k3 ?mk3 ?kc3 ?a4 ?i4 ?l4 ?c4 ?k4 ?a5 ?i5 ?l5 ?c5 ?k5 ?a6 ?i6 ?l6 ?c6 ?k6 ?a7 ?l7 ?c7 ?k7 ?a8 ?i8 ?l8 ?c8 ?k8 ?a9 ?l9 ?c9 ?k9 ?a10 ?l10 ?c10 ?k10 ?a11 ?l11 ?c11 ?k11 ?t11 ?a12 ?l12 ?c12 ?k12 ?a13 ?l13 ?c13 ?k13 ?a14 ?i14 ?l14 ?c14 ?k14 ?t14 ?mk14 ?kc14 ?a15 ?i15 ?l15 ?c15 ?k15 ?a16 ?i16 ?l16 ?c16 ?k16 ?a17 ?i17 ?l17 ?c17 ?k17 ?t17 ?a18 ?i18 ?l18 ?c18 ?k18 ?mk18 ?kc18 ?a19 ?i19 ?l19 ?c19 ?k19 ?a20 ?i20 ?l20 ?c20 ?k20 ?a21 ?i21 ?l21 ?c21 ?k21 ?t21 ?a22 ?i22 ?l22 ?c22 ?k22 ?a23 ?i23 ?l23 ?c23 ?k23 ?a24 ?l24 ?c24 ?k24 ?a25 ?l25 ?c25 ?k25 ?a26 ?l26 ?c26 ?k26 ?a27 ?i27 ?l27 ?c27 ?k27 ?t27 ?mk27 ?kc27 ?a28 ?i28 ?l28 ?c28 ?k28 ?a29 ?i29 ?l29 ?c29 ?k29 ?a30 ?i30 ?l30 ?c30 ?k30 ?a31 ?l31 ?c31 ?k31 ?a32 ?l32 ?c32 ?k32 ?a33 ?l33 ?c33 ?k33 ?a34 ?l34 ?c34 ?k34 ?a35 ?l35 ?c35 ?k35 ?a36 ?l36 ?c36 ?k36 ?a37 ?l37 ?c37 ?k37 ?a38 ?l38 ?c38 ?k38 ?a39 ?l39 ?c39 ?k39 ?a40 ?l40 ?c40 ?k40 ?a41 ?l41 ?c41 ?k41 ?a42 ?l42 ?c42 ?k42 ?a43 ?l43 ?c43 ?k43 ?a44 ?l44 ?c44 ?k44 ?a45 ?l45 ?c45 ?k45 ?a46 ?l46 ?c46 ?k46 ?a47 ?l47 ?c47 ?k47 ?a48 ?l48 ?c48 ?k48 ?a49 ?l49 ?c49 ?k49 ?a50 ?l50 ?c50 ?k50 ?a51 ?l51 ?c51 ?k51 ?z_all ?z_bool ?z_enumerate ?z_int ?z_isinstance ?z_len ?z_list ?z_max ?z_min ?z_range ?z_repr ?z_reversed ?z_set ?z_sorted ?z_str ?z_tuple ?z_zip ?z_LETTERS ?z_MOST_PARCELS ?z_MOST_SIDE ?z_MOST_SPARE ?z_MOST_WALL ?z_MOST_WEIGHT ?z_goes_in_fits ?icNotInHeap ?sbNotInHeap_NotInHeap ?z_ORDERS ?kO ?kt0_ ?kt1_ ?kt2_ ?kt3_ ?kt4_ ?kt5_ ?z_LABELS ?kL_
    (case aKSides => k_is)
    (case aKParcel => k_is)
    (case aKHeap => k_is)
    (case aKNest => k_is)
    (case pgKSides => k_is)
    (case hdKSides => k_is)
    (case poKSides => k_is)
    (case saKSides => k_is)
    (case haKSides => k_is)
    (case hmKSides => k_is)
    (case icKSides => k_is)
    (case tcKSides => k_is)
    (case nKSides_three => k_is)
    (case zKSides_int => k_is)
    (case zKSides_bool => k_is)
    (case zKSides_str => k_is)
    (case zKSides_NoneType => k_is)
    (case zKSides_list => k_is)
    (case zKSides_tuple => k_is)
    (case zKSides_dict => k_is)
    (case mKSides_0 => k_is)
    (case mKSides_1 => k_is)
    (case pgKParcel => k_is)
    (case hdKParcel => k_is)
    (case poKParcel => k_is)
    (case saKParcel => k_is)
    (case haKParcel => k_is)
    (case hmKParcel => k_is)
    (case icKParcel => k_is)
    (case tcKParcel => k_is)
    (case nKParcel_called => k_is)
    (case nKParcel_outside => k_is)
    (case nKParcel_thick => k_is)
    (case nKParcel_heavy => k_is)
    (case nKParcel_strong => k_is)
    (case nKParcel_marks => k_is)
    (case nKParcel_told => k_is)
    (case nKParcel_names => k_is)
    (case zKParcel_int => k_is)
    (case zKParcel_bool => k_is)
    (case zKParcel_str => k_is)
    (case zKParcel_NoneType => k_is)
    (case zKParcel_list => k_is)
    (case zKParcel_tuple => k_is)
    (case zKParcel_dict => k_is)
    (case pgKHeap => k_is)
    (case hdKHeap => k_is)
    (case poKHeap => k_is)
    (case saKHeap => k_is)
    (case haKHeap => k_is)
    (case hmKHeap => k_is)
    (case icKHeap => k_is)
    (case tcKHeap => k_is)
    (case nKHeap_held => k_is)
    (case nKHeap_told => k_is)
    (case nKHeap_kind => k_is)
    (case pgKNest => k_is)
    (case hdKNest => k_is)
    (case poKNest => k_is)
    (case saKNest => k_is)
    (case haKNest => k_is)
    (case hmKNest => k_is)
    (case icKNest => k_is)
    (case tcKNest => k_is)
    (case nKNest_layers => k_is)
    (case nKNest_ways => k_is)
    (case zKNest_int => k_is)
    (case zKNest_bool => k_is)
    (case zKNest_str => k_is)
    (case zKNest_NoneType => k_is)
    (case zKNest_list => k_is)
    (case zKNest_tuple => k_is)
    (case zKNest_dict => k_is)
    (case hnO => k_is)
    (case htkO => k_is)
    (case aXNoNumber => k_is)
    (case xXNoNumber => k_is)
    (case saXNoNumber => k_is)
    (case gaXNoNumber => k_is)
    (case ggXNoNumber => k_is)
    (case noXNoNumber => k_is)
    (case exXNoNumber => k_is)
    (case tyXNoNumber => k_is)
    (case kcXNoNumber => k_is)
    (case hdXNoNumber => k_is)
    (case iXNoNumber => k_is)
    (case tXNoNumber => k_is)
    (case lXNoNumber => k_is)
    (case cXNoNumber => k_is)
    (case kXNoNumber => k_is)
    (case aXNoSide => k_is)
    (case xXNoSide => k_is)
    (case saXNoSide => k_is)
    (case gaXNoSide => k_is)
    (case ggXNoSide => k_is)
    (case noXNoSide => k_is)
    (case exXNoSide => k_is)
    (case tyXNoSide => k_is)
    (case kcXNoSide => k_is)
    (case hdXNoSide => k_is)
    (case iXNoSide => k_is)
    (case tXNoSide => k_is)
    (case lXNoSide => k_is)
    (case cXNoSide => k_is)
    (case kXNoSide => k_is)
    (case aXNoSides => k_is)
    (case xXNoSides => k_is)
    (case saXNoSides => k_is)
    (case gaXNoSides => k_is)
    (case ggXNoSides => k_is)
    (case noXNoSides => k_is)
    (case exXNoSides => k_is)
    (case tyXNoSides => k_is)
    (case kcXNoSides => k_is)
    (case hdXNoSides => k_is)
    (case iXNoSides => k_is)
    (case tXNoSides => k_is)
    (case lXNoSides => k_is)
    (case cXNoSides => k_is)
    (case kXNoSides => k_is)
    (case aXNoOrder => k_is)
    (case xXNoOrder => k_is)
    (case saXNoOrder => k_is)
    (case gaXNoOrder => k_is)
    (case ggXNoOrder => k_is)
    (case noXNoOrder => k_is)
    (case exXNoOrder => k_is)
    (case tyXNoOrder => k_is)
    (case kcXNoOrder => k_is)
    (case hdXNoOrder => k_is)
    (case iXNoOrder => k_is)
    (case tXNoOrder => k_is)
    (case lXNoOrder => k_is)
    (case cXNoOrder => k_is)
    (case kXNoOrder => k_is)
    (case aXNoParcel => k_is)
    (case xXNoParcel => k_is)
    (case saXNoParcel => k_is)
    (case gaXNoParcel => k_is)
    (case ggXNoParcel => k_is)
    (case noXNoParcel => k_is)
    (case exXNoParcel => k_is)
    (case tyXNoParcel => k_is)
    (case kcXNoParcel => k_is)
    (case hdXNoParcel => k_is)
    (case iXNoParcel => k_is)
    (case tXNoParcel => k_is)
    (case lXNoParcel => k_is)
    (case cXNoParcel => k_is)
    (case kXNoParcel => k_is)
    (case aXNotInHeap => k_is)
    (case xXNotInHeap => k_is)
    (case saXNotInHeap => k_is)
    (case gaXNotInHeap => k_is)
    (case ggXNotInHeap => k_is)
    (case noXNotInHeap => k_is)
    (case exXNotInHeap => k_is)
    (case tyXNotInHeap => k_is)
    (case kcXNotInHeap => k_is)
    (case hdXNotInHeap => k_is)
    (case iXNotInHeap => k_is)
    (case tXNotInHeap => k_is)
    (case lXNotInHeap => k_is)
    (case cXNotInHeap => k_is)
    (case kXNotInHeap => k_is)
    (case a0 => k_is)
    (case l0 => k_is)
    (case c0 => k_is)
    (case k0 => k_is)
    (case a1 => k_is)
    (case l1 => k_is)
    (case c1 => k_is)
    (case k1 => k_is)
    (case a2 => k_is)
    (case l2 => k_is)
    (case c2 => k_is)
    (case k2 => k_is)
    (case a3 => k_is)
    (case i3 => k_is)
    (case l3 => k_is)
    (case c3 => k_is)
    (case k3 => k_is)
    (case mk3 => k_is)
    (case kc3 => k_is)
    (case a4 => k_is)
    (case i4 => k_is)
    (case l4 => k_is)
    (case c4 => k_is)
    (case k4 => k_is)
    (case a5 => k_is)
    (case i5 => k_is)
    (case l5 => k_is)
    (case c5 => k_is)
    (case k5 => k_is)
    (case a6 => k_is)
    (case i6 => k_is)
    (case l6 => k_is)
    (case c6 => k_is)
    (case k6 => k_is)
    (case a7 => k_is)
    (case l7 => k_is)
    (case c7 => k_is)
    (case k7 => k_is)
    (case a8 => k_is)
    (case i8 => k_is)
    (case l8 => k_is)
    (case c8 => k_is)
    (case k8 => k_is)
    (case a9 => k_is)
    (case l9 => k_is)
    (case c9 => k_is)
    (case k9 => k_is)
    (case a10 => k_is)
    (case l10 => k_is)
    (case c10 => k_is)
    (case k10 => k_is)
    (case a11 => k_is)
    (case l11 => k_is)
    (case c11 => k_is)
    (case k11 => k_is)
    (case t11 => k_is)
    (case a12 => k_is)
    (case l12 => k_is)
    (case c12 => k_is)
    (case k12 => k_is)
    (case a13 => k_is)
    (case l13 => k_is)
    (case c13 => k_is)
    (case k13 => k_is)
    (case a14 => k_is)
    (case i14 => k_is)
    (case l14 => k_is)
    (case c14 => k_is)
    (case k14 => k_is)
    (case t14 => k_is)
    (case mk14 => k_is)
    (case kc14 => k_is)
    (case a15 => k_is)
    (case i15 => k_is)
    (case l15 => k_is)
    (case c15 => k_is)
    (case k15 => k_is)
    (case a16 => k_is)
    (case i16 => k_is)
    (case l16 => k_is)
    (case c16 => k_is)
    (case k16 => k_is)
    (case a17 => k_is)
    (case i17 => k_is)
    (case l17 => k_is)
    (case c17 => k_is)
    (case k17 => k_is)
    (case t17 => k_is)
    (case a18 => k_is)
    (case i18 => k_is)
    (case l18 => k_is)
    (case c18 => k_is)
    (case k18 => k_is)
    (case mk18 => k_is)
    (case kc18 => k_is)
    (case a19 => k_is)
    (case i19 => k_is)
    (case l19 => k_is)
    (case c19 => k_is)
    (case k19 => k_is)
    (case a20 => k_is)
    (case i20 => k_is)
    (case l20 => k_is)
    (case c20 => k_is)
    (case k20 => k_is)
    (case a21 => k_is)
    (case i21 => k_is)
    (case l21 => k_is)
    (case c21 => k_is)
    (case k21 => k_is)
    (case t21 => k_is)
    (case a22 => k_is)
    (case i22 => k_is)
    (case l22 => k_is)
    (case c22 => k_is)
    (case k22 => k_is)
    (case a23 => k_is)
    (case i23 => k_is)
    (case l23 => k_is)
    (case c23 => k_is)
    (case k23 => k_is)
    (case a24 => k_is)
    (case l24 => k_is)
    (case c24 => k_is)
    (case k24 => k_is)
    (case a25 => k_is)
    (case l25 => k_is)
    (case c25 => k_is)
    (case k25 => k_is)
    (case a26 => k_is)
    (case l26 => k_is)
    (case c26 => k_is)
    (case k26 => k_is)
    (case a27 => k_is)
    (case i27 => k_is)
    (case l27 => k_is)
    (case c27 => k_is)
    (case k27 => k_is)
    (case t27 => k_is)
    (case mk27 => k_is)
    (case kc27 => k_is)
    (case a28 => k_is)
    (case i28 => k_is)
    (case l28 => k_is)
    (case c28 => k_is)
    (case k28 => k_is)
    (case a29 => k_is)
    (case i29 => k_is)
    (case l29 => k_is)
    (case c29 => k_is)
    (case k29 => k_is)
    (case a30 => k_is)
    (case i30 => k_is)
    (case l30 => k_is)
    (case c30 => k_is)
    (case k30 => k_is)
    (case a31 => k_is)
    (case l31 => k_is)
    (case c31 => k_is)
    (case k31 => k_is)
    (case a32 => k_is)
    (case l32 => k_is)
    (case c32 => k_is)
    (case k32 => k_is)
    (case a33 => k_is)
    (case l33 => k_is)
    (case c33 => k_is)
    (case k33 => k_is)
    (case a34 => k_is)
    (case l34 => k_is)
    (case c34 => k_is)
    (case k34 => k_is)
    (case a35 => k_is)
    (case l35 => k_is)
    (case c35 => k_is)
    (case k35 => k_is)
    (case a36 => k_is)
    (case l36 => k_is)
    (case c36 => k_is)
    (case k36 => k_is)
    (case a37 => k_is)
    (case l37 => k_is)
    (case c37 => k_is)
    (case k37 => k_is)
    (case a38 => k_is)
    (case l38 => k_is)
    (case c38 => k_is)
    (case k38 => k_is)
    (case a39 => k_is)
    (case l39 => k_is)
    (case c39 => k_is)
    (case k39 => k_is)
    (case a40 => k_is)
    (case l40 => k_is)
    (case c40 => k_is)
    (case k40 => k_is)
    (case a41 => k_is)
    (case l41 => k_is)
    (case c41 => k_is)
    (case k41 => k_is)
    (case a42 => k_is)
    (case l42 => k_is)
    (case c42 => k_is)
    (case k42 => k_is)
    (case a43 => k_is)
    (case l43 => k_is)
    (case c43 => k_is)
    (case k43 => k_is)
    (case a44 => k_is)
    (case l44 => k_is)
    (case c44 => k_is)
    (case k44 => k_is)
    (case a45 => k_is)
    (case l45 => k_is)
    (case c45 => k_is)
    (case k45 => k_is)
    (case a46 => k_is)
    (case l46 => k_is)
    (case c46 => k_is)
    (case k46 => k_is)
    (case a47 => k_is)
    (case l47 => k_is)
    (case c47 => k_is)
    (case k47 => k_is)
    (case a48 => k_is)
    (case l48 => k_is)
    (case c48 => k_is)
    (case k48 => k_is)
    (case a49 => k_is)
    (case l49 => k_is)
    (case c49 => k_is)
    (case k49 => k_is)
    (case a50 => k_is)
    (case l50 => k_is)
    (case c50 => k_is)
    (case k50 => k_is)
    (case a51 => k_is)
    (case l51 => k_is)
    (case c51 => k_is)
    (case k51 => k_is)
    (case z_all => k_is)
    (case z_bool => k_is)
    (case z_enumerate => k_is)
    (case z_int => k_is)
    (case z_isinstance => k_is)
    (case z_len => k_is)
    (case z_list => k_is)
    (case z_max => k_is)
    (case z_min => k_is)
    (case z_range => k_is)
    (case z_repr => k_is)
    (case z_reversed => k_is)
    (case z_set => k_is)
    (case z_sorted => k_is)
    (case z_str => k_is)
    (case z_tuple => k_is)
    (case z_zip => k_is)
    (case z_LETTERS => k_is)
    (case z_MOST_PARCELS => k_is)
    (case z_MOST_SIDE => k_is)
    (case z_MOST_SPARE => k_is)
    (case z_MOST_WALL => k_is)
    (case z_MOST_WEIGHT => k_is)
    (case z_goes_in_fits => k_is)
    (case icNotInHeap => k_is)
    (case sbNotInHeap_NotInHeap => k_is)
    (case z_ORDERS => k_is)
    (case kO => k_is)
    (case kt0_ => k_is)
    (case kt1_ => k_is)
    (case kt2_ => k_is)
    (case kt3_ => k_is)
    (case kt4_ => k_is)
    (case kt5_ => k_is)
    (case z_LABELS => k_is)
    (case kL_ => k_is)
