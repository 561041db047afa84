import PyProof.Rows.All
import Wide.All
import OpenK.AllK
import Wide.FinOn
import HandS.ForMost
import HandS.Walk
import HandS.IsInst
import HandS.Codes
import HandS.Wide
import HandS.Defaults
import HandS.MakeKwOnly
import KE.KDictList
import HandS.TupLe
import HandS.Exc
import HandS.ExcInit
import HandS.ExcField
import HandS.SortKw
import HandS.Zip
import HandS.NoneIn
import HandS.TryMany
import KE.GoesMore
import KE.KCallOwn
import HandS.TupAny
import HandS.FStr
import HandS.More
import HandS.OwnEq
import HandS.Style
import KE.DatumOrd
import KE.SortKeyHeap
import HandS.Keys
import KE.KDictCopyH
import PyProof.Rows.SortShellAny
import HandS.SortOrd
import KE.KDictZip
import KE.GoesZip
import HandS.Conv
import HandS.Flow
import PySem.Challenge.RW_boxinbox_k91_whole_what_goes_on
set_option Elab.async false
set_option linter.all false
set_option maxRecDepth 100000
set_option maxHeartbeats 8000000
namespace PySem.W.Fast
theorem tw14228957536974595011 : True := trivial
theorem tw4617752649161591777 : True := trivial
theorem tw17286773685136213512 : True := trivial
theorem tw9009648607262137357 : True := trivial
theorem tw12603442967012560564 : True := trivial
theorem tw9015092669747114457 : True := trivial
theorem tw7552130638736423519 : True := trivial
theorem tw11369377126185022946 : True := trivial
theorem tw7330051017836349235 : True := trivial
theorem tw9600367358371745648 : True := trivial
theorem tw2198974057539523805 : True := trivial
theorem tw6827196034602614675 : True := trivial
theorem tw11830667246836509021 : True := trivial
theorem tw15509610445334174064 : True := trivial
theorem tw16459080392714394624 : True := trivial
theorem tw3318509150287470706 : True := trivial
theorem tw12071750420503624871 : True := trivial
end PySem.W.Fast
namespace VS
def Box (p : Prop) : Prop := p
theorem box {p : Prop} (h : p) : Box p = True := eq_true h
theorem unbox {p : Prop} (h : Box p) : p := h
end VS
namespace VS
open PySem L2 C8 PySem.Spec PyProof.Rows
/-! ### objects of own exception classes: their class, isinstance, == with own instances -/
section
open PySem.W
variable {prog : Program} {w : World} {A : Around} {E : Value → Shared → Prop} {s : Shared} {K : PySem.W.Frag} {x D : Addr} {ox od : Obj}
structure XcT (K : PySem.W.Frag) (D : Addr) : Prop where
  ga : PySem.W.findIn K (.ref D) "__getattribute__" = some (some (.builtin "BaseException.__getattribute__"))
  gg : PySem.W.findIn K (.ref D) "__getattr__" = some none
  exC : PySem.W.subIn K (.ref D) (.type "BaseException") = some true
  hd : PySem.W.hasDictIn K D = true
  ha : PySem.W.findIn K (.ref D) "__class__" = some (some (.builtin "object.__class__"))
  hn : PySem.W.specialIn K (.builtin "object.__class__") "__get__" = some (some (.builtin "getset_descriptor.__get__"))
  htk : PySem.W.takesIn K (.builtin "object.__class__") = some true
  hm : PySem.W.mroIn K D (.type "object") = some true
  eq : PySem.W.findIn K (.ref D) "__eq__" = some (some (.builtin "object.__eq__"))
theorem exc_class (T : XcT K D) {Q : Option Value → Shared → Prop} (X : K.In s.heap) (I : InstAt s.heap x ox D (some od)) (h : Q (some (.ref D)) { s with toks := s.toks + 1 }) : wpAny (model prog w) A (getAttr? (.ref x) "__class__") Q E s := by
  have hf : findObj K D (some od) "__class__" = some (.bind (.builtin "getset_descriptor.__get__") (.builtin "object.__class__")) := findObj_data (by obtain ⟨cd, hc, _⟩ := any_some T.hd; rw [hc]; rfl) T.ha T.hn T.htk
  obtain ⟨hp, g, d, t, os⟩ := s
  have L0 := I.type (M := model prog w)
  have L1 := looks_findIn (M := model prog w) X T.ga
  have L2 := looks_findIn (M := model prog w) X T.gg
  have L3 := looks_find (M := model prog w) X I hf
  have sub : Looks (model prog w) hp (isInstance (.ref x) (.type "BaseException")) true := L0.andThen (looks_subIn X T.exC)
  have hx2 : (Value.builtin "BaseException.__getattribute__" == Value.builtin "object.__getattribute__") = false := by decide +kernel
  have hx1 : (onTheHeap (Value.ref D) && Value.builtin "BaseException.__getattribute__" == Value.builtin "object.__getattribute__") = false := by rw [hx2]; rfl
  unfold getAttr? getAttrBy? getAttrBy
  refine wpAny_bind (wpAny_mkText (wpAny_bind (wpAny_attempt (wpAny_holding (wpAny_bind (L0.at (wpAny_bind (L1.at ?_))))))))
  show wpAny _ _ (if (onTheHeap (Value.ref D) && Value.builtin "BaseException.__getattribute__" == Value.builtin "object.__getattribute__") = true then _ else _) _ _ _
  rw [hx1, if_neg Bool.false_ne_true]
  unfold getAttrByItsOwn hookBefore
  refine wpAny_bind ?_
  rw [if_pos (show onTheHeap (Value.ref D) = true from rfl)]
  refine L2.at ?_
  refine wpAny_bind (wpAny_attempt (wpAny_holding ?_))
  unfold callGetattribute
  rw [show (false && onTheHeap (Value.builtin "BaseException.__getattribute__")) = false from rfl, if_neg Bool.false_ne_true]
  unfold boundAndCalled
  rw [PySem.F.excAttr_ValueError.ga.bind (.ref x)]
  refine wpAny_bind (wpAny_pure ?_)
  show wpAny _ _ (call (.builtin "BaseException.__getattribute__") [.ref x, .str "__class__" t]) _ _ _
  refine wpAny_call (codeAny_call_builtin PySem.F.excAttr_ValueError.ga.plain PySem.F.entry_bexc_ga ?_)
  refine @check_slot (model prog w) _ _ ⟨hp, g, d, t + 1, os⟩ "BaseException.__getattribute__" "BaseException" "__getattribute__" (.ref x) [.str "__class__" t] [] _ (by decide +kernel) (by decide +kernel) sub (PySem.F.args_bexc_ga (.ref x) (.str "__class__" t)) ?_
  unfold Builtin.«object.__getattribute__»
  refine wpAny_bind (wpAny_of_eq (a := ((Value.ref x : Value), [Value.str "__class__" t])) (by first | rfl | (simp only [slotArgs]; rfl)) ?_)
  refine wpAny_bind (wpAny_pure (wpAny_bind (L0.at (wpAny_bind (L3.at ?_)))))
  show wpAny _ _ (holding [Value.builtin "object.__class__"] (call (.builtin "getset_descriptor.__get__") [.builtin "object.__class__", .ref x, .ref D]) >>= ret) _ _ _
  refine wpAny_bind (wpAny_holding (wpAny_call (class_get (ox := ox) (od := some od) X I T.hm ?_)))
  refine wpAny_pure ?_
  show wpAny _ _ (handedOut (.ref D)) _ _ _
  rw [handedOut_of rfl]
  exact wpAny_pure (wpAny_pure h)
end
open PySem.W in
theorem kitx_exc {K : PySem.W.Frag} {x D : Addr} {ox od : Obj} (T : XcT K D) : PySem.W.KitX K (.ref x) (.ref D) (fun h => PySem.W.InstAt h x ox D (some od)) where
  ty := fun _ _ _ I => I.type
  it := fun _ _ X _ => by
    obtain ⟨cdD, hcD, _⟩ := any_some T.hd
    unfold clsIn at hcD
    split at hcD
    · rename_i c' d' cd' sl' ho
      intro A' Q' E' s' k q
      unfold isType loadHead
      exact wpAny_bind (wpAny_loadPart (k _ _ (X _ _ ho)) (wpAny_pure q))
    · cases hcD
  ne := fun h tp dd its n sl X htp => by
    obtain ⟨cdD, hcD, _⟩ := any_some T.hd
    refine Bool.eq_false_iff.mpr fun q => ?_
    have e : D = tp := Value.ref.inj (beq_iff_eq.mp q)
    subst e
    unfold clsIn at hcD
    split at hcD
    · rename_i c' d' cd' sl' ho
      have z := (X _ _ ho).symm.trans htp
      cases z
    · cases hcD
  ca := fun X I k => exc_class T X I k
section
variable {X : Cx} {pins : List (Addr × Obj)} {σ : L2.St} {H : Hp} {s : Shared}
/-- the class of a thing, also of an object of an own exception class -/
inductive TyZ (K : PySem.W.Frag) (H : Hp) : V → Value → Prop
  | x {v : V} {t : Value} (h : TyX K H v t) : TyZ K H v t
  | e {a C dd : Addr} {fs : List (Str × V)} (h : H a = some (exo a C (some dd))) (h2 : H dd = some (exd dd fs)) (T : XcT K C) : TyZ K H (.ref a) (.ref C)
theorem exo_inst {a C dd : Addr} {fs : List (Str × V)} (I : Inv X pins σ H s) (h : H a = some (exo a C (some dd))) (h2 : H dd = some (exd dd fs)) :
    ∃ ox od, PySem.W.InstAt s.heap a ox C (some od) ∧ s.heap.get? a = some ox ∧ ox.cls = .ref C := by
  obtain ⟨t1, ho⟩ := exo_at I.hok h
  obtain ⟨mA, ⟨od, es, ep, hd, _⟩, _⟩ := exd_at I.hok h2
  exact ⟨_, od, ⟨ho, rfl, rfl, hd⟩, ho, rfl⟩
theorem kit_ofZ {x : V} {u t : Value} (I : Inv X pins σ H s) (rx : RelV x u) (ty : TyZ X.K H x t) : ∃ P : Heap → Prop, PySem.W.KitX X.K u t P ∧ P s.heap ∧ u ≠ .builtin "__main__.__loader__#opaque" := by
  cases ty with
  | x h => exact kit_of I rx h
  | @e a C dd fs h h2 T =>
    cases (show u = Value.ref a from rx)
    obtain ⟨ox, od, J, _⟩ := exo_inst I h h2
    exact ⟨_, kitx_exc T, J, fun z => nomatch z⟩
def rIsiZ (K : PySem.W.Frag) : List V → Hp → VK → Prop := fun xs H Q => ∃ (x c : V) (t u : Value) (b : Bool), xs = [x, c] ∧ ClsV c u ∧ TyZ K H x t ∧ PySem.W.kitOne K t u = some b ∧ Q (.bl b) H
theorem c_isiZ : CallR X (.builtin "isinstance") (rIsiZ X.K) := by
  intro pins s σ H xs us Q I r h
  obtain ⟨x, c, t, u, b, rfl, k, ty, e, q⟩ := h
  obtain ⟨u1, u2, rfl, r1, r2⟩ := vals2 r
  have e2 := k.eq r2
  subst e2
  obtain ⟨P, Z, p, hx⟩ := kit_ofZ I r1 ty
  exact PySem.W.kia_one Z I.kIn p e hx fun tk => ⟨.bl b, H, I.tok tk, rfl, q⟩
end
end VS
namespace VS
open PySem L2
/-! values without the heap -/
inductive D where
  | non | bl (b : Bool) | int (i : Int) | str (x : Str) | ty (n : String) | ref (a : Addr)
  | rol (xs : List D) | hid | lst (xs : List D) | tup (xs : List D) | dK (kvs : List (Key × D)) | ins (C : Addr) (fs : List (Str × D)) | xcp (a dd C : Addr) (fs : List (Str × D)) | xv (C : Addr) (fs : List (Str × D))
/-- the objects that are known by reference -/
abbrev Sto := Addr → Option D
def put (S : Sto) (a : Addr) (d : D) : Sto := fun b => if b = a then some d else S b
def del (S : Sto) (a : Addr) : Sto := fun b => if b = a then none else S b
theorem put_same {S : Sto} {a : Addr} {d : D} : put S a d a = some d := by unfold put; rw [if_pos rfl]
theorem put_ne {S : Sto} {a b : Addr} {d : D} (h : b ≠ a) : put S a d b = S b := by unfold put; rw [if_neg h]
theorem put_put {S : Sto} {a : Addr} {d e : D} : put (put S a d) a e = put S a e := by
  funext b; unfold put; split <;> rfl
theorem del_same {S : Sto} {a : Addr} : del S a a = none := by unfold del; rw [if_pos rfl]
theorem del_ne {S : Sto} {a b : Addr} (h : b ≠ a) : del S a b = S b := by unfold del; rw [if_neg h]
theorem ne_at {S : Sto} {a b : Addr} {d : D} (h : S a = some d) (h' : S b = none) : a ≠ b := by
  intro e; subst e; rw [h] at h'; cases h'
abbrev Kl (K : PySem.W.Frag) (a : Addr) (xs : List V) : Prop :=
  ∃ (o : Obj) (its : Array Value) (n : Nat), K.lookup a = some o ∧ o.cls = .type "list" ∧ o.dict = none ∧ o.data = .seq its n ∧ its.size ≤ sizeLine ∧ Vals xs its.toList
abbrev Kt (K : PySem.W.Frag) (a : Addr) (xs : List V) : Prop :=
  ∃ (o : Obj) (its : Array Value) (n : Nat), K.lookup a = some o ∧ o.cls = .type "tuple" ∧ o.data = .seq its n ∧ its.size ≤ sizeLine ∧ Vals xs its.toList
section
variable (K : PySem.W.Frag) (H : Hp) (S : Sto)
mutual
/-- v is the value d, all of whose objects stand in H and are not known by reference -/
inductive Rep : V → D → Prop
  | non : Rep .non .non
  | bl (b : Bool) : Rep (.bl b) (.bl b)
  | int (i : Int) : Rep (.int i) (.int i)
  | str (x : Str) : Rep (.str x) (.str x)
  | ty (n : String) : Rep (.ty n) (.ty n)
  | ref (a : Addr) : Rep (.ref a) (.ref a)
  | rol {a : Addr} {xs : List V} {ds : List D} {o : Obj} (s : S a = none) (h : H a = some (.frz o (.lst xs))) (r : RepL xs ds) : Rep (.ref a) (.rol ds)
  | rolK {a : Addr} {xs : List V} {ds : List D} (h : Kl K a xs) (r : RepL xs ds) : Rep (.ref a) (.rol ds)
  | lst {a : Addr} {xs : List V} {ds : List D} (s : S a = none) (h : H a = some (.lst xs)) (r : RepL xs ds) : Rep (.ref a) (.lst ds)
  | tup {a : Addr} {xs : List V} {ds : List D} (s : S a = none) (h : H a = some (.tup xs)) (r : RepL xs ds) : Rep (.ref a) (.tup ds)
  | tupK {a : Addr} {xs : List V} {ds : List D} (h : Kt K a xs) (r : RepL xs ds) : Rep (.ref a) (.tup ds)
  | dK {a : Addr} {kvs : List (Key × V)} {ds : List (Key × D)} (s : S a = none) (h : Rd H a (.dK kvs)) (r : RepK kvs ds) : Rep (.ref a) (.dK ds)
  | ins {a C dx : Addr} {fs : List (Str × V)} {ds : List (Str × D)} (s : S a = none) (h : H a = some (.ins C dx fs)) (r : RepF fs ds) : Rep (.ref a) (.ins C ds)
  | xcp {a dd C : Addr} {fs : List (Str × V)} {ds : List (Str × D)} (s : S dd = none) (h : H dd = some (.xd fs)) (r : RepF fs ds) : Rep (.ref a) (.xcp a dd C ds)
  | xv {a C dd : Addr} {fs : List (Str × V)} {ds : List (Str × D)} (s : S a = none) (h : H a = some (exo a C (some dd))) (s2 : S dd = none) (h2 : H dd = some (exd dd fs)) (r : RepF fs ds) : Rep (.ref a) (.xv C ds)
inductive RepL : List V → List D → Prop
  | nil : RepL [] []
  | cons {v : V} {vs : List V} {d : D} {ds : List D} (h : Rep v d) (t : RepL vs ds) : RepL (v :: vs) (d :: ds)
inductive RepK : List (Key × V) → List (Key × D) → Prop
  | nil : RepK [] []
  | cons {k : Key} {v : V} {vs : List (Key × V)} {d : D} {ds : List (Key × D)} (h : Rep v d) (t : RepK vs ds) : RepK ((k, v) :: vs) ((k, d) :: ds)
inductive RepF : List (Str × V) → List (Str × D) → Prop
  | nil : RepF [] []
  | cons {k : Str} {v : V} {vs : List (Str × V)} {d : D} {ds : List (Str × D)} (h : Rep v d) (t : RepF vs ds) : RepF ((k, v) :: vs) ((k, d) :: ds)
end
end
/-- from (S, H) to (S', H'): what is not known by reference stays, so does what is hidden -/
structure Mk (S : Sto) (H : Hp) (S' : Sto) (H' : Hp) : Prop where
  keep : ∀ a o, S a = none → H a = some o → H' a = some o
  fresh : ∀ a, S a = none → H a ≠ none → S' a = none
structure Mv (S : Sto) (H : Hp) (S' : Sto) (H' : Hp) : Prop extends Mk S H S' H' where
  hid : ∀ a o, S a = some .hid → H a = some o → H' a = some o ∧ S' a = some .hid
theorem Mv.refl {S : Sto} {H : Hp} : Mv S H S H := ⟨⟨fun _ _ _ h => h, fun _ h _ => h⟩, fun _ _ h e => ⟨e, h⟩⟩
theorem Mv.trans {S S1 S2 : Sto} {H H1 H2 : Hp} (a : Mv S H S1 H1) (b : Mv S1 H1 S2 H2) : Mv S H S2 H2 where
  keep := fun x o s h => b.keep x o (a.fresh x s (by rw [h]; simp)) (a.keep x o s h)
  fresh := fun x s h => by
    cases q : H x with
    | none => exact absurd q h
    | some o => exact b.fresh x (a.fresh x s h) (by rw [a.keep x o s q]; simp)
  hid := fun x o s h => let ⟨e1, e2⟩ := a.hid x o s h; b.hid x o e2 e1
/-- the same, but dicts may be locked, or freed again -/
def nrm : HO → HO
  | .frz _ (.dK k) => .dK k
  | o => o
structure Ml (S : Sto) (H : Hp) (S' : Sto) (H' : Hp) : Prop where
  kp : ∀ a o, S a = none → H a = some o → ∃ o', H' a = some o' ∧ nrm o' = nrm o
  fresh : ∀ a, S a = none → H a ≠ none → S' a = none
theorem Mk.ml {S S' : Sto} {H H' : Hp} (m : Mk S H S' H') : Ml S H S' H' := ⟨fun a o s h => ⟨o, m.keep a o s h, rfl⟩, m.fresh⟩
theorem nrm_eq {o o' : HO} (e : nrm o' = nrm o) (nd : ∀ k, nrm o ≠ .dK k) : o' = nrm o := by
  unfold nrm at e
  split at e
  · exact absurd e.symm (nd _)
  · exact e
theorem Ml.keep {S S' : Sto} {H H' : Hp} (m : Ml S H S' H') (a : Addr) (o : HO) (s : S a = none) (h : H a = some o) (nd : nrm o = o ∧ ∀ k, nrm o ≠ .dK k := by exact ⟨rfl, fun _ e => by cases e⟩) : H' a = some o := by
  obtain ⟨o', h', e⟩ := m.kp a o s h
  rw [h', nrm_eq e nd.2, nd.1]
theorem Ml.keepD {S S' : Sto} {H H' : Hp} (m : Ml S H S' H') {a : Addr} {k : List (Key × V)} (s : S a = none) (h : Rd H a (.dK k)) : Rd H' a (.dK k) := by
  have fin : ∀ o, H a = some o → nrm o = .dK k → Rd H' a (.dK k) := fun o ho e => by
    obtain ⟨o', h', e'⟩ := m.kp a o s ho
    rw [e] at e'
    unfold nrm at e'
    split at e'
    · cases e'
      exact .inr ⟨_, h'⟩
    · rw [e'] at h'
      exact .inl h'
  rcases h with h | ⟨o, h⟩
  · exact fin _ h rfl
  · exact fin _ h rfl
theorem rd_ne {H : Hp} {a : Addr} {u : HO} (h : Rd H a u) : H a ≠ none := by
  rcases h with h | ⟨o, h⟩ <;> (rw [h]; simp)
section
variable {K : PySem.W.Frag} {S S' : Sto} {H H' : Hp}
mutual
theorem Rep.ml (m : Ml S H S' H') : ∀ {v : V} {d : D}, Rep K H S v d → Rep K H' S' v d
  | _, _, .non => .non
  | _, _, .bl b => .bl b
  | _, _, .int i => .int i
  | _, _, .str x => .str x
  | _, _, .ty n => .ty n
  | _, _, .ref a => .ref a
  | _, _, .rol s h r => .rol (m.fresh _ s (by rw [h]; simp)) (m.keep _ _ s h) (RepL.ml m r)
  | _, _, .rolK h r => .rolK h (RepL.ml m r)
  | _, _, .lst s h r => .lst (m.fresh _ s (by rw [h]; simp)) (m.keep _ _ s h) (RepL.ml m r)
  | _, _, .tup s h r => .tup (m.fresh _ s (by rw [h]; simp)) (m.keep _ _ s h) (RepL.ml m r)
  | _, _, .tupK h r => .tupK h (RepL.ml m r)
  | _, _, .dK s h r => .dK (m.fresh _ s (rd_ne h)) (m.keepD s h) (RepK.ml m r)
  | _, _, .ins s h r => .ins (m.fresh _ s (by rw [h]; simp)) (m.keep _ _ s h) (RepF.ml m r)
  | _, _, .xcp s h r => .xcp (m.fresh _ s (by rw [h]; simp)) (m.keep _ _ s h) (RepF.ml m r)
  | _, _, .xv s h s2 h2 r => .xv (m.fresh _ s (by rw [h]; simp)) (m.keep _ _ s h) (m.fresh _ s2 (by rw [h2]; simp)) (m.keep _ _ s2 h2) (RepF.ml m r)
theorem RepL.ml (m : Ml S H S' H') : ∀ {vs : List V} {ds : List D}, RepL K H S vs ds → RepL K H' S' vs ds
  | _, _, .nil => .nil
  | _, _, .cons h t => .cons (Rep.ml m h) (RepL.ml m t)
theorem RepK.ml (m : Ml S H S' H') : ∀ {vs : List (Key × V)} {ds : List (Key × D)}, RepK K H S vs ds → RepK K H' S' vs ds
  | _, _, .nil => .nil
  | _, _, .cons h t => .cons (Rep.ml m h) (RepK.ml m t)
theorem RepF.ml (m : Ml S H S' H') : ∀ {vs : List (Str × V)} {ds : List (Str × D)}, RepF K H S vs ds → RepF K H' S' vs ds
  | _, _, .nil => .nil
  | _, _, .cons h t => .cons (Rep.ml m h) (RepF.ml m t)
end
theorem Rep.mk (m : Mk S H S' H') {v : V} {d : D} (r : Rep K H S v d) : Rep K H' S' v d := Rep.ml m.ml r
theorem RepL.mk (m : Mk S H S' H') {vs : List V} {ds : List D} (r : RepL K H S vs ds) : RepL K H' S' vs ds := RepL.ml m.ml r
theorem RepK.mk (m : Mk S H S' H') {vs : List (Key × V)} {ds : List (Key × D)} (r : RepK K H S vs ds) : RepK K H' S' vs ds := RepK.ml m.ml r
theorem RepF.mk (m : Mk S H S' H') {vs : List (Str × V)} {ds : List (Str × D)} (r : RepF K H S vs ds) : RepF K H' S' vs ds := RepF.ml m.ml r
theorem Rep.mv {v : V} {d : D} (r : Rep K H S v d) (m : Mv S H S' H') : Rep K H' S' v d := Rep.mk m.toMk r
theorem RepL.mv {v : List V} {d : List D} (r : RepL K H S v d) (m : Mv S H S' H') : RepL K H' S' v d := RepL.mk m.toMk r
theorem RepK.mv {v : List (Key × V)} {d : List (Key × D)} (r : RepK K H S v d) (m : Mv S H S' H') : RepK K H' S' v d := RepK.mk m.toMk r
theorem RepF.mv {v : List (Str × V)} {d : List (Str × D)} (r : RepF K H S v d) (m : Mv S H S' H') : RepF K H' S' v d := RepF.mk m.toMk r
theorem RepL.length : ∀ {vs : List V} {ds : List D}, RepL K H S vs ds → vs.length = ds.length
  | _, _, .nil => rfl
  | _, _, .cons _ t => congrArg Nat.succ (RepL.length t)
theorem RepL.get : ∀ {vs : List V} {ds : List D} {i : Nat} {d : D}, RepL K H S vs ds → ds[i]? = some d → ∃ v, vs[i]? = some v ∧ Rep K H S v d
  | _, _, _, _, .nil, e => by simp at e
  | _, _, 0, _, .cons h _, e => by simp at e; subst e; exact ⟨_, rfl, h⟩
  | _, _, i + 1, d, .cons _ t, e => by
    obtain ⟨v, h1, h2⟩ := RepL.get (i := i) (d := d) t (by simpa using e)
    exact ⟨v, by simpa using h1, h2⟩
theorem RepL.append : ∀ {xs ys : List V} {us ws : List D}, RepL K H S xs us → RepL K H S ys ws → RepL K H S (xs ++ ys) (us ++ ws)
  | _, _, _, _, .nil, s => s
  | _, _, _, _, .cons r t, s => .cons r (RepL.append t s)
theorem RepL.set {x : V} {u : D} (r : Rep K H S x u) : ∀ {xs : List V} {us : List D} (i : Nat), RepL K H S xs us → RepL K H S (xs.set i x) (us.set i u)
  | _, _, _, .nil => .nil
  | _, _, 0, .cons _ t => .cons r t
  | _, _, i + 1, .cons q t => .cons q (RepL.set r i t)
theorem RepL.take : ∀ {xs : List V} {us : List D} (n : Nat), RepL K H S xs us → RepL K H S (xs.take n) (us.take n)
  | _, _, 0, _ => .nil
  | _, _, _ + 1, .nil => .nil
  | _, _, n + 1, .cons r t => .cons r (RepL.take n t)
theorem RepL.drop : ∀ {xs : List V} {us : List D} (n : Nat), RepL K H S xs us → RepL K H S (xs.drop n) (us.drop n)
  | _, _, 0, r => r
  | _, _, _ + 1, .nil => .nil
  | _, _, n + 1, .cons _ t => RepL.drop n t
theorem RepL.eraseIdx : ∀ {xs : List V} {us : List D} (n : Nat), RepL K H S xs us → RepL K H S (xs.eraseIdx n) (us.eraseIdx n)
  | _, _, _, .nil => .nil
  | _, _, 0, .cons _ t => t
  | _, _, n + 1, .cons r t => .cons r (RepL.eraseIdx n t)
theorem RepL.ints : ∀ {vs : List V} {ns : List Int}, RepL K H S vs (ns.map D.int) → vs = ns.map V.int
  | _, [], .nil => rfl
  | _, n :: ns, .cons (.int _) t => congrArg (V.int n :: ·) (RepL.ints t)
theorem RepL.strs : ∀ {vs : List V} {ns : List Str}, RepL K H S vs (ns.map D.str) → vs = ns.map V.str
  | _, [], .nil => rfl
  | _, n :: ns, .cons (.str _) t => congrArg (V.str n :: ·) (RepL.strs t)
theorem RepL.bls : ∀ {vs : List V} {ns : List Bool}, RepL K H S vs (ns.map D.bl) → vs = ns.map V.bl
  | _, [], .nil => rfl
  | _, n :: ns, .cons (.bl _) t => congrArg (V.bl n :: ·) (RepL.bls t)
theorem RepL.ofInts : ∀ {ns : List Int}, RepL K H S (ns.map V.int) (ns.map D.int)
  | [] => .nil
  | n :: _ => .cons (.int n) RepL.ofInts
theorem RepL.ofStrs : ∀ {ns : List Str}, RepL K H S (ns.map V.str) (ns.map D.str)
  | [] => .nil
  | n :: _ => .cons (.str n) RepL.ofStrs
theorem RepF.lookup {f : Str} {d : D} : ∀ {vs : List (Str × V)} {ds : List (Str × D)}, RepF K H S vs ds → ds.lookup f = some d → ∃ v, vs.lookup f = some v ∧ Rep K H S v d
  | _, _, .nil, e => by cases e
  | _, _, .cons (k := k) h t, e => by
    by_cases q : f == k
    · rw [List.lookup_cons, q] at e
      cases e
      exact ⟨_, by rw [List.lookup_cons, q], h⟩
    · have q' : (f == k) = false := by simpa using q
      rw [List.lookup_cons, q'] at e
      obtain ⟨v, h1, h2⟩ := RepF.lookup t e
      exact ⟨v, by rw [List.lookup_cons, q']; exact h1, h2⟩
theorem RepF.lookup_none {f : Str} : ∀ {vs : List (Str × V)} {ds : List (Str × D)}, RepF K H S vs ds → ds.lookup f = none → vs.lookup f = none
  | _, _, .nil, _ => rfl
  | _, _, .cons (k := k) h t, e => by
    by_cases q : f == k
    · rw [List.lookup_cons, q] at e
      cases e
    · have q' : (f == k) = false := by simpa using q
      rw [List.lookup_cons, q'] at e
      rw [List.lookup_cons, q']
      exact RepF.lookup_none t e
theorem RepF.length : ∀ {vs : List (Str × V)} {ds : List (Str × D)}, RepF K H S vs ds → vs.length = ds.length
  | _, _, .nil => rfl
  | _, _, .cons _ t => congrArg Nat.succ (RepF.length t)
def putD (f : Str) (v : D) : List (Str × D) → List (Str × D)
  | [] => [(f, v)]
  | (g, u) :: r => if g = f then (g, v) :: r else (g, u) :: putD f v r
theorem RepF.put {f : Str} {v : V} {d : D} (r : Rep K H S v d) : ∀ {vs : List (Str × V)} {ds : List (Str × D)}, RepF K H S vs ds → RepF K H S (putF f v vs) (putD f d ds)
  | _, _, .nil => .cons r .nil
  | _, _, .cons (k := k) h t => by
    unfold putD putF
    by_cases q : k = f
    · rw [if_pos q, if_pos q]; exact .cons r t
    · rw [if_neg q, if_neg q]; exact .cons h (RepF.put r t)
theorem Rep.seqL {v : V} {ds : List D} (r : Rep K H S v (.lst ds)) : ∃ a xs, v = .ref a ∧ S a = none ∧ H a = some (.lst xs) ∧ RepL K H S xs ds := by
  cases r with
  | lst s h r => exact ⟨_, _, rfl, s, h, r⟩
theorem Rep.seqR {v : V} {ds : List D} (r : Rep K H S v (.rol ds)) : ∃ a xs, v = .ref a ∧ (∀ S' H', Mv S H S' H' → SqL K H' a xs) ∧ RepL K H S xs ds := by
  cases r with
  | rol s h r => exact ⟨_, _, rfl, fun S' H' m => .inl (.inr ⟨_, m.keep _ _ s h⟩), r⟩
  | rolK h r => exact ⟨_, _, rfl, fun _ _ _ => .inr h, r⟩
theorem Rep.seqT {v : V} {ds : List D} (r : Rep K H S v (.tup ds)) : ∃ a xs, v = .ref a ∧ SqT K H a xs ∧ RepL K H S xs ds := by
  cases r with
  | tup s h r => exact ⟨_, _, rfl, .inl (.inl h), r⟩
  | tupK h r => exact ⟨_, _, rfl, .inr h, r⟩
end
/-! what is known by reference stands -/
def CellOk (K : PySem.W.Frag) (H : Hp) (S : Sto) (a : Addr) : D → Prop
  | .lst ds => ∃ xs, H a = some (.lst xs) ∧ RepL K H S xs ds
  | .dK ds => ∃ kvs, H a = some (.dK kvs) ∧ RepK K H S kvs ds
  | .ins C ds => ∃ dx fs, H a = some (.ins C dx fs) ∧ RepF K H S fs ds
  | .hid => ∃ o, H a = some o
  | _ => False
theorem cell_l {K : PySem.W.Frag} {H : Hp} {S : Sto} {a : Addr} {xs : List V} {ds : List D} (h : H a = some (.lst xs)) (r : RepL K H S xs ds) : CellOk K H S a (.lst ds) := ⟨xs, h, r⟩
theorem cell_d {K : PySem.W.Frag} {H : Hp} {S : Sto} {a : Addr} {xs : List (Key × V)} {ds : List (Key × D)} (h : H a = some (.dK xs)) (r : RepK K H S xs ds) : CellOk K H S a (.dK ds) := ⟨xs, h, r⟩
theorem cell_i {K : PySem.W.Frag} {H : Hp} {S : Sto} {a C dx : Addr} {xs : List (Str × V)} {ds : List (Str × D)} (h : H a = some (.ins C dx xs)) (r : RepF K H S xs ds) : CellOk K H S a (.ins C ds) := ⟨dx, xs, h, r⟩
/-- the whole of what is known by reference: S, and what is hidden -/
structure Cells (K : PySem.W.Frag) (H : Hp) (S T : Sto) : Prop where
  ov : ∀ a, (T a = S a ∧ T a ≠ some .hid) ∨ (S a = none ∧ T a = some .hid)
  ok : ∀ a d, T a = some d → CellOk K H T a d
section
variable {K : PySem.W.Frag} {S S' T T' : Sto} {H H' : Hp} {a p : Addr} {d : D}
theorem Cells.at (c : Cells K H S T) (h : S a = some d) : T a = some d := by
  rcases c.ov a with ⟨e, _⟩ | ⟨e, _⟩
  · rw [e]; exact h
  · rw [h] at e; cases e
theorem CellOk.mk (m : Mk S H S' H') (e : H' a = H a) : ∀ {d : D}, CellOk K H S a d → CellOk K H' S' a d
  | .lst _, ⟨xs, h, r⟩ => ⟨xs, by rw [e]; exact h, r.mk m⟩
  | .dK _, ⟨xs, h, r⟩ => ⟨xs, by rw [e]; exact h, r.mk m⟩
  | .ins _ _, ⟨dx, fs, h, r⟩ => ⟨dx, fs, by rw [e]; exact h, r.mk m⟩
  | .hid, ⟨o, h⟩ => ⟨o, by rw [e]; exact h⟩
theorem CellOk.mv (m : Mv S H S' H') (e : H' a = H a) {d : D} (h : CellOk K H S a d) : CellOk K H' S' a d := CellOk.mk m.toMk e h
theorem CellOk.there : ∀ {d : D}, CellOk K H S a d → H a ≠ none
  | .lst _, ⟨xs, h, _⟩ => by rw [h]; simp
  | .dK _, ⟨xs, h, _⟩ => by rw [h]; simp
  | .ins _ _, ⟨dx, fs, h, _⟩ => by rw [h]; simp
  | .hid, ⟨o, h⟩ => by rw [h]; simp
theorem Cells.free (c : Cells K H S T) (h : H p = none) : T p = none := by
  cases q : T p with
  | none => rfl
  | some d => exact absurd h (c.ok p d q).there
theorem Cells.freeS (c : Cells K H S T) (h : H p = none) : S p = none := by
  have q := c.free h
  rcases c.ov p with ⟨e, _⟩ | ⟨e, _⟩
  · rw [← e]; exact q
  · exact e
/-- a new object, known by value -/
theorem mv_new {o : HO} (h : H p = none) : Mv S H S (upd H p o) :=
  ⟨⟨fun _ _ _ e => by rw [upd_ne (ne_of_none e h)]; exact e, fun _ s _ => s⟩, fun _ _ s e => ⟨by rw [upd_ne (ne_of_none e h)]; exact e, s⟩⟩
theorem Cells.new {o : HO} (c : Cells K H S T) (h : H p = none) : Cells K (upd H p o) S T := ⟨c.ov, fun a d e => by
  have q := c.ok a d e
  refine CellOk.mv (mv_new h) (upd_ne fun z => ?_) q
  subst z
  exact q.there h⟩
theorem ov_put (h : ∀ a, (T a = S a ∧ T a ≠ some .hid) ∨ (S a = none ∧ T a = some .hid)) (nh : d ≠ .hid) : ∀ a, (put T p d a = put S p d a ∧ put T p d a ≠ some .hid) ∨ (put S p d a = none ∧ put T p d a = some .hid) := fun a => by
  by_cases z : a = p
  · subst z; rw [put_same, put_same]; exact .inl ⟨rfl, fun q => nh (Option.some.inj q)⟩
  · rw [put_ne z, put_ne z]; exact h a
/-- a new object, known by reference -/
theorem mv_newc {o : HO} (h : H p = none) : Mv S H (put S p d) (upd H p o) where
  keep := fun _ _ _ e => by rw [upd_ne (ne_of_none e h)]; exact e
  fresh := fun b s e => by
    rw [put_ne]
    · exact s
    · intro z; subst z; exact e h
  hid := fun b o s e => by
    have z := ne_of_none e h
    rw [upd_ne z, put_ne z]
    exact ⟨e, s⟩
theorem Cells.newc {o : HO} (c : Cells K H S T) (h : H p = none) (hd : CellOk K (upd H p o) (put T p d) p d) (nh : d ≠ .hid := by nofun) : Cells K (upd H p o) (put S p d) (put T p d) := ⟨ov_put c.ov nh, fun a e q => by
  by_cases z : a = p
  · subst z; rw [put_same] at q; cases q; exact hd
  · rw [put_ne z] at q
    have w := c.ok a e q
    exact CellOk.mv (mv_newc h) (upd_ne z) w⟩
/-- a new object, hidden -/
theorem Cells.newh {o : HO} (c : Cells K H S T) (h : H p = none) : Cells K (upd H p o) S (put T p .hid) := ⟨fun a => by
  by_cases z : a = p
  · subst z; exact .inr ⟨c.freeS h, put_same⟩
  · rw [put_ne z]; exact c.ov a, fun a e q => by
  by_cases z : a = p
  · subst z; rw [put_same] at q; cases q; exact ⟨o, upd_same⟩
  · rw [put_ne z] at q
    exact CellOk.mv (mv_newc h) (upd_ne z) (c.ok a e q)⟩
/-- the hidden object changes -/
theorem mk_hid {o : HO} (h : T p = some .hid) : Mk T H T (upd H p o) where
  keep := fun b _ s e => by
    rw [upd_ne]
    · exact e
    · intro z; subst z; rw [h] at s; cases s
  fresh := fun _ s _ => s
theorem Cells.hidw {o : HO} (c : Cells K H S T) (h : T p = some .hid) : Cells K (upd H p o) S T := ⟨c.ov, fun a e q => by
  by_cases z : a = p
  · subst z; rw [h] at q; cases q; exact ⟨o, upd_same⟩
  · exact CellOk.mk (mk_hid h) (upd_ne z) (c.ok a e q)⟩
theorem Mv.hidw {S1 : Sto} {H1 : Hp} {o : HO} (m : Mv S1 H1 T H) (n : H1 p = none) : Mv S1 H1 T (upd H p o) where
  keep := fun a u s e => by rw [upd_ne (ne_of_none e n)]; exact m.keep a u s e
  fresh := m.fresh
  hid := fun a u s e => by
    rw [upd_ne (ne_of_none e n)]
    exact m.hid a u s e
/-- the hidden object shows -/
theorem mk_show (h : T p = some .hid) : Mk T H (VS.del T p) H := ⟨fun _ _ _ h => h, fun b s _ => by
  unfold VS.del
  split
  · rfl
  · exact s⟩
theorem Cells.unhid (c : Cells K H S T) (h : T p = some .hid) : Cells K H S (VS.del T p) := ⟨fun a => by
  by_cases z : a = p
  · subst z
    rw [del_same]
    rcases c.ov a with ⟨_, e⟩ | ⟨e, _⟩
    · exact absurd h e
    · exact .inl ⟨e.symm, by simp⟩
  · rw [del_ne z]; exact c.ov a, fun a d q => by
  by_cases z : a = p
  · subst z; rw [del_same] at q; cases q
  · rw [del_ne z] at q
    exact CellOk.mk (mk_show h) rfl (c.ok a d q)⟩
/-- an object that is known by reference changes -/
theorem mv_wr {o : HO} {e : D} (h : S p = some e) (ne : e ≠ .hid := by nofun) : Mv S H (put S p d) (upd H p o) where
  keep := fun b _ s e => by
    rw [upd_ne]
    · exact e
    · intro z; subst z; rw [h] at s; cases s
  fresh := fun b s _ => by
    rw [put_ne]
    · exact s
    · intro z; subst z; rw [h] at s; cases s
  hid := fun b o s e => by
    have z : b ≠ p := by
      intro z; subst z; rw [h] at s; cases s; exact ne rfl
    rw [upd_ne z, put_ne z]
    exact ⟨e, s⟩
theorem Cells.wr {o : HO} {e : D} (c : Cells K H S T) (h : T p = some e) (hd : CellOk K (upd H p o) (put T p d) p d) (ne : e ≠ .hid := by nofun) (nh : d ≠ .hid := by nofun) : Cells K (upd H p o) (put S p d) (put T p d) := ⟨ov_put c.ov nh, fun a e q => by
  by_cases z : a = p
  · subst z; rw [put_same] at q; cases q; exact hd
  · rw [put_ne z] at q
    exact CellOk.mv (mv_wr h ne) (upd_ne z) (c.ok a e q)⟩
/-- from now on known by value -/
theorem mv_del (h : S p ≠ some .hid) : Mv S H (del S p) H := ⟨⟨fun _ _ _ h => h, fun b s _ => by
  unfold del
  split
  · rfl
  · exact s⟩, fun b o s e => ⟨e, by rw [del_ne]; exact s; intro z; subst z; exact h s⟩⟩
theorem Cells.del (c : Cells K H S T) (h : T p ≠ some .hid) : Cells K H (del S p) (del T p) := ⟨fun a => by
  by_cases z : a = p
  · subst z; rw [del_same, del_same]; exact .inl ⟨rfl, by simp⟩
  · rw [del_ne z, del_ne z]; exact c.ov a, fun a d q => by
  by_cases z : a = p
  · subst z; rw [del_same] at q; cases q
  · rw [del_ne z] at q
    exact CellOk.mv (mv_del h) rfl (c.ok a d q)⟩
theorem Cells.rep (c : Cells K H S T) (h : T p = some d) (ne : T p ≠ some .hid) : Rep K H (VS.del T p) (.ref p) d := by
  have q := c.ok p d h
  cases d with
  | lst ds => obtain ⟨xs, h1, r⟩ := q; exact .lst del_same h1 (r.mv (mv_del ne))
  | dK ds => obtain ⟨xs, h1, r⟩ := q; exact .dK del_same (.inl h1) (r.mv (mv_del ne))
  | ins C ds => obtain ⟨dx, fs, h1, r⟩ := q; exact .ins del_same h1 (r.mv (mv_del ne))
  | hid => exact absurd h ne
  | _ => exact q.elim
end
/-! ### where one stands -/
abbrev Rho := List (Option D)
/-- the written part; what is wanted of an exception, by the heap and by value (at the slots as they then are) -/
structure Ctx where
  K : PySem.W.Frag
  E : St → XK
  Y : Addr → List (Str × D) → Rho → Sto → Prop
def XRep (K : PySem.W.Frag) (H : Hp) (S : Sto) (d : Option Addr) (fs : List (Str × D)) : Prop :=
  ∃ dd fv, d = some dd ∧ S dd = none ∧ H dd = some (.xd fv) ∧ RepF K H S fv fs
/-- the slots hold what ρ says -/
structure Sl (K : PySem.W.Frag) (H : Hp) (T : Sto) (σ : St) (ρ : Rho) : Prop where
  slots : ∀ (i : Nat) (d : D), ρ[i]? = some (some d) → ∃ v, σ[i]? = some (some v) ∧ Rep K H T v d
  len : σ.length = ρ.length
structure In (c : Ctx) (σ : St) (H : Hp) (ρ : Rho) (S T : Sto) : Prop where
  cells : Cells c.K H S T
  slots : ∀ (i : Nat) (d : D), ρ[i]? = some (some d) → ∃ v, σ[i]? = some (some v) ∧ Rep c.K H T v d
  len : σ.length = ρ.length
  exc : ∀ (σ' : St) (ρ' : Rho) (C : Addr) (d : Option Addr) (fs : List (Str × D)) (S' T' : Sto) (H' : Hp), Mv T H T' H' → Cells c.K H' S' T' → Sl c.K H' T' σ' ρ' → XRep c.K H' T' d fs → c.Y C fs ρ' S' → c.E σ' (.ref C) d H'
section
variable {c : Ctx} {σ : St} {H H' : Hp} {ρ : Rho} {S S' T T' : Sto}
theorem In.mv (I : In c σ H ρ S T) (m : Mv T H T' H') (cl : Cells c.K H' S' T') : In c σ H' ρ S' T' :=
  ⟨cl, fun i d e => let ⟨v, h, r⟩ := I.slots i d e; ⟨v, h, r.mv m⟩, I.len, fun σ2 ρ2 C d fs S2 T2 H2 m2 c2 sl x y => I.exc σ2 ρ2 C d fs S2 T2 H2 (m.trans m2) c2 sl x y⟩
theorem In.sl (I : In c σ H ρ S T) : Sl c.K H T σ ρ := ⟨I.slots, I.len⟩
theorem In.set (I : In c σ H ρ S T) {v : V} {d : D} (i : Nat) (r : Rep c.K H T v d) : In c (σ.set i (some v)) H (ρ.set i (some d)) S T := by
  refine ⟨I.cells, fun j e q => ?_, by simp [I.len], I.exc⟩
  by_cases z : j = i
  · subst z
    have hj : j < ρ.length := by
      cases Nat.lt_or_ge j ρ.length with
      | inl h => exact h
      | inr h => rw [List.getElem?_eq_none (by simpa using h)] at q; cases q
    rw [List.getElem?_set_self hj] at q
    cases q
    exact ⟨v, List.getElem?_set_self (by rw [I.len]; exact hj), r⟩
  · rw [List.getElem?_set_ne (Ne.symm z)] at q
    obtain ⟨u, h1, h2⟩ := I.slots j e q
    exact ⟨u, by rw [List.getElem?_set_ne (Ne.symm z)]; exact h1, h2⟩
/-- another word for a slot's value -/
theorem In.reword (I : In c σ H ρ S T) {d d' : D} {i : Nat} (e : ρ[i]? = some (some d)) (h : ∀ v, Rep c.K H T v d → Rep c.K H T v d') : In c σ H (ρ.set i (some d')) S T := by
  refine ⟨I.cells, fun j e' q => ?_, by simp [I.len], I.exc⟩
  by_cases z : j = i
  · subst z
    have hj : j < ρ.length := (List.getElem?_eq_some_iff.mp e).1
    rw [List.getElem?_set_self hj] at q
    cases q
    obtain ⟨u, h1, h2⟩ := I.slots j d e
    exact ⟨u, h1, h u h2⟩
  · rw [List.getElem?_set_ne (Ne.symm z)] at q
    exact I.slots j e' q
end
/-! ### readings by value -/
def VE (c : Ctx) (te : TE) (ρ : Rho) (S : Sto) (F : D → Sto → Prop) : Prop := ∀ T σ H, In c σ H ρ S T → ∀ Q : VK,
  (∀ v d S' T' H', Mv T H T' H' → Cells c.K H' S' T' → Rep c.K H' T' v d → F d S' → Q v H') → te σ H Q
def VT (c : Ctx) (tt : TT) (ρ : Rho) (S : Sto) (F : Bool → Sto → Prop) : Prop := ∀ T σ H, In c σ H ρ S T → ∀ Q : Bool → Hp → Prop,
  (∀ b S' T' H', Mv T H T' H' → Cells c.K H' S' T' → F b S' → Q b H') → tt σ H Q
def VA (c : Ctx) (ta : TA) (ρ : Rho) (S : Sto) (F : List D → Sto → Prop) : Prop := ∀ T σ H, In c σ H ρ S T → ∀ Q : List V → Hp → Prop,
  (∀ vs ds S' T' H', Mv T H T' H' → Cells c.K H' S' T' → RepL c.K H' T' vs ds → F ds S' → Q vs H') → ta σ H Q
def VO (c : Ctx) (to : TO) (ρ : Rho) (S : Sto) (F : Option Int → Sto → Prop) : Prop := ∀ T σ H, In c σ H ρ S T → ∀ Q : Option Int → Hp → Prop,
  (∀ o S' T' H', Mv T H T' H' → Cells c.K H' S' T' → F o S' → Q o H') → to σ H Q
def RU (c : Ctx) (r : V → Hp → VK → Prop) (x : D) (S : Sto) (F : D → Sto → Prop) : Prop := ∀ T u H, Cells c.K H S T → Rep c.K H T u x → ∀ Q : VK,
  (∀ v d S' T' H', Mv T H T' H' → Cells c.K H' S' T' → Rep c.K H' T' v d → F d S' → Q v H') → r u H Q
def RV (c : Ctx) (r : R2) (x y : D) (S : Sto) (F : D → Sto → Prop) : Prop := ∀ T u w H, Cells c.K H S T → Rep c.K H T u x → Rep c.K H T w y → ∀ Q : VK,
  (∀ v d S' T' H', Mv T H T' H' → Cells c.K H' S' T' → Rep c.K H' T' v d → F d S' → Q v H') → r u w H Q
def RC (c : Ctx) (r : List V → Hp → VK → Prop) (ds : List D) (S : Sto) (F : D → Sto → Prop) : Prop := ∀ T us H, Cells c.K H S T → RepL c.K H T us ds → ∀ Q : VK,
  (∀ v d S' T' H', Mv T H T' H' → Cells c.K H' S' T' → Rep c.K H' T' v d → F d S' → Q v H') → r us H Q
def RM (c : Ctx) (r : V → List V → Hp → VK → Prop) (x : D) (ds : List D) (S : Sto) (F : D → Sto → Prop) : Prop := ∀ T u us H, Cells c.K H S T → Rep c.K H T u x → RepL c.K H T us ds → ∀ Q : VK,
  (∀ v d S' T' H', Mv T H T' H' → Cells c.K H' S' T' → Rep c.K H' T' v d → F d S' → Q v H') → r u us H Q
def VG (c : Ctx) (g : TG) (d : D) (ρ : Rho) (S : Sto) (F : Rho → Sto → Prop) : Prop := ∀ T v σ H, In c σ H ρ S T → Rep c.K H T v d → ∀ Q : St → Hp → Prop,
  (∀ σ' ρ' S' T' H', Mv T H T' H' → In c σ' H' ρ' S' T' → F ρ' S' → Q σ' H') → g v σ H Q
/-- what is wanted behind a statement -/
structure Po where
  nx : Rho → Sto → Prop
  rt : D → Sto → Prop
  bk : Rho → Sto → Prop
  ct : Rho → Sto → Prop
structure Bh (c : Ctx) (P : Po) (D : Ends) (T : Sto) (H : Hp) : Prop where
  nx : ∀ σ' ρ' S' T' H', Mv T H T' H' → In c σ' H' ρ' S' T' → P.nx ρ' S' → D.nx σ' H'
  rt : ∀ v d S' T' H', Mv T H T' H' → Cells c.K H' S' T' → Rep c.K H' T' v d → P.rt d S' → D.rt v H'
  bk : ∀ σ' ρ' S' T' H', Mv T H T' H' → In c σ' H' ρ' S' T' → P.bk ρ' S' → D.bk σ' H'
  ct : ∀ σ' ρ' S' T' H', Mv T H T' H' → In c σ' H' ρ' S' T' → P.ct ρ' S' → D.ct σ' H'
theorem Bh.mv {c : Ctx} {P : Po} {D : Ends} {T T' : Sto} {H H' : Hp} (b : Bh c P D T H) (m : Mv T H T' H') : Bh c P D T' H' :=
  ⟨fun σ ρ S2 T2 H2 m2 => b.nx σ ρ S2 T2 H2 (m.trans m2), fun v d S2 T2 H2 m2 => b.rt v d S2 T2 H2 (m.trans m2), fun σ ρ S2 T2 H2 m2 => b.bk σ ρ S2 T2 H2 (m.trans m2), fun σ ρ S2 T2 H2 m2 => b.ct σ ρ S2 T2 H2 (m.trans m2)⟩
def VX (c : Ctx) (t : TS) (ρ : Rho) (S : Sto) (P : Po) : Prop := ∀ T σ H, In c σ H ρ S T → ∀ D : Ends, Bh c P D T H → t D σ H
/-- an iterator: its values one by one -/
def Yl (K : PySem.W.Frag) (J : It) (ds : List D) (T : Sto) (H : Hp) : Prop := ∃ G Y, Walk J ds.length G Y ∧ (∀ T1 H1, Mv T H T1 H1 → G H1) ∧
  ∀ (i : Nat) (d : D) (S1 T1 : Sto) (H1 H2 : Hp) (x : V), ds[i]? = some d → Mv T H T1 H1 → Cells K H1 S1 T1 → Y i H1 x H2 → Mv T1 H1 T1 H2 ∧ Cells K H2 S1 T1 ∧ Rep K H2 T1 x d
def VI (c : Ctx) (wi : TI) (ρ : Rho) (S : Sto) (F : List D → Sto → Prop) : Prop := ∀ T σ H, In c σ H ρ S T → ∀ R : It → Hp → Prop,
  (∀ J ds S' T' H', Mv T H T' H' → Cells c.K H' S' T' → Yl c.K J ds T' H' → F ds S' → R J H') → wi σ H R
end VS
namespace VS
open PySem L2
/-! ### the readings that bear no name in the layer -/
abbrev CR1 := List V → Hp → VK → Prop
abbrev MR1 := V → List V → Hp → VK → Prop
def rAddStr : R2 := fun x y H Q => ∃ i j, x = .str i ∧ y = .str j ∧ i.length + j.length ≤ sizeLine ∧ Q (.str (i ++ j)) H
def rLtStr : R2 := fun x y H Q => ∃ i j, x = .str i ∧ y = .str j ∧ Q (.bl (decide (i.cps.toList < j.cps.toList))) H
def rLeStr : R2 := fun x y H Q => ∃ i j, x = .str i ∧ y = .str j ∧ Q (.bl (!decide (j.cps.toList < i.cps.toList))) H
def rInStr : R2 := fun x y H Q => ∃ i j, x = .str i ∧ y = .str j ∧ Q (.bl (!(Builtin.Str.occurrences j i 0 j.length 1).isEmpty)) H
def rNotInStr : R2 := fun x y H Q => ∃ i j, x = .str i ∧ y = .str j ∧ Q (.bl (!(!(Builtin.Str.occurrences j i 0 j.length 1).isEmpty))) H
def rLen (K : PySem.W.Frag) : CR1 := fun xs H Q => ∃ x n, xs = [x] ∧ LenV K x H n ∧ Q (.int n) H
def rAbs : CR1 := fun xs H Q => ∃ i, xs = [.int i] ∧ Q (.int (if i < 0 then -i else i)) H
def rMax2 : CR1 := fun xs H Q => ∃ i j, xs = [.int i, .int j] ∧ Q (.int (if j > i then j else i)) H
def rMin2 : CR1 := fun xs H Q => ∃ i j, xs = [.int i, .int j] ∧ Q (.int (if j < i then j else i)) H
def rInt1 : CR1 := fun xs H Q => (∃ i, xs = [.int i] ∧ Q (.int i) H) ∨ ∃ k, xs = [.bl k] ∧ Q (.int (if k then 1 else 0)) H
def rStrInt : CR1 := fun xs H Q => ∃ i, xs = [.int i] ∧ i.natAbs.log2 < 1920 ∧ Q (.str (toString i)) H
def rOrd : CR1 := fun xs H Q => ∃ x, xs = [.str x] ∧ x.length = 1 ∧ Q (.int (x.cps.getD 0 0 : Nat)) H
def rListOf (K : PySem.W.Frag) : CR1 := fun xs H Q => ∃ p ys, xs = [.ref p] ∧ (SqL K H p ys ∨ SqT K H p ys) ∧ ∀ l, H l = none → Q (.ref l) (upd H l (.lst ys))
def rTupleOf (K : PySem.W.Frag) : CR1 := fun xs H Q => ∃ p ys, xs = [.ref p] ∧ ((SqL K H p ys ∧ ∀ l, H l = none → Q (.ref l) (upd H l (.tup ys))) ∨ (SqT K H p ys ∧ Q (.ref p) H))
def rJoin (K : PySem.W.Frag) : MR1 := fun x xs H Q => ∃ a p, ∃ ys : List Str, x = .str a ∧ xs = [.ref p] ∧ (SqL K H p (ys.map V.str) ∨ SqT K H p (ys.map V.str)) ∧ (ys.map (·.length)).sum + ys.length * a.length ≤ 16777216 ∧ Q (.str (Txt.join a ys)) H
def rSplit : MR1 := fun x xs H Q => ∃ a b, x = .str a ∧ xs = [.str b] ∧ (b.length == 0) = false ∧ a.length + 2 ≤ sizeLine ∧ rNewStrs (Txt.split a b) H Q
def rIsNo : R2 := fun x y H Q => y = .non ∧ Q (.bl (decide (x = .non))) H
def rNotNo : R2 := fun x y H Q => y = .non ∧ Q (.bl (!decide (x = .non))) H
section
variable {X : Cx}
theorem op_addS : OpR X (binaryOp .Add) rAddStr := op_add_str
theorem op_inStr : OpR X (compareOp .In) rInStr := op_in_str
theorem op_isNo : OpR X (compareOp .Is) rIsNo := op_isN
theorem op_notNo : OpR X (compareOp .IsNot) rNotNo := op_notN
theorem c_len : CallR X (.builtin "len") (rLen X.K) := call_len
theorem c_max2 (hc : X.calm = true) : CallR X (.builtin "max") rMax2 := call_max2 hc
theorem c_min2 (hc : X.calm = true) : CallR X (.builtin "min") rMin2 := call_min2 hc
theorem c_strInt : CallR X (.type "str") rStrInt := call_str_int
theorem c_list : CallR X (.type "list") (rListOf X.K) := call_list_of
theorem c_tuple : CallR X (.type "tuple") (rTupleOf X.K) := call_tuple_of
theorem m_join : MtR X "str.join" (rJoin X.K) := mt_join
theorem m_split : MtR X "str.split" rSplit := mt_split
end
section
variable {c : Ctx} {ρ : Rho} {S : Sto} {F : D → Sto → Prop} {d : D}
/-! ### expressions -/
theorem ve_var {i : Nat} (h : ρ[i]? = some (some d)) (q : F d S) : VE c (tVar i) ρ S F := fun T σ H I Q k =>
  let ⟨v, e, r⟩ := I.slots i d h
  ⟨v, e, k v d S T H Mv.refl I.cells r q⟩
theorem ve_int {i : Int} (q : F (.int i) S) : VE c (tC (.int i)) ρ S F := fun T σ H I Q k => k _ _ S T H Mv.refl I.cells (.int i) q
theorem ve_bl {b : Bool} (q : F (.bl b) S) : VE c (tC (.bl b)) ρ S F := fun T σ H I Q k => k _ _ S T H Mv.refl I.cells (.bl b) q
theorem ve_str {x : Str} (q : F (.str x) S) : VE c (tC (.str x)) ρ S F := fun T σ H I Q k => k _ _ S T H Mv.refl I.cells (.str x) q
theorem ve_non (q : F .non S) : VE c (tC .non) ρ S F := fun T σ H I Q k => k _ _ S T H Mv.refl I.cells .non q
theorem ve_ty {n : String} (q : F (.ty n) S) : VE c (tC (.ty n)) ρ S F := fun T σ H I Q k => k _ _ S T H Mv.refl I.cells (.ty n) q
theorem ve_ref {a : Addr} (q : F (.ref a) S) : VE c (tC (.ref a)) ρ S F := fun T σ H I Q k => k _ _ S T H Mv.refl I.cells (.ref a) q
/-- a written thing that is a value at every heap -/
theorem ve_wr {v : V} (h : ∀ H S, Rep c.K H S v d) (q : F d S) : VE c (tC v) ρ S F := fun T σ H I Q k => k _ _ S T H Mv.refl I.cells (h H T) q
theorem ve_op {r : R2} {ta tb : TE} (h : VE c ta ρ S fun x S1 => VE c tb ρ S1 fun y S2 => RV c r x y S2 F) : VE c (tOp r ta tb) ρ S F := fun T σ H I Q k =>
  h T σ H I _ fun vx x S1 T1 H1 m1 c1 r1 h1 => h1 T1 σ H1 (I.mv m1 c1) _ fun vy y S2 T2 H2 m2 c2 r2 h2 => h2 T2 vx vy H2 c2 (r1.mv m2) r2 Q fun v d S3 T3 H3 m3 c3 r3 q => k v d S3 T3 H3 (m1.trans (m2.trans m3)) c3 r3 q
theorem ve_un {r : V → Hp → VK → Prop} {ta : TE} (h : VE c ta ρ S fun x S1 => RU c r x S1 F) : VE c (tUn r ta) ρ S F := fun T σ H I Q k =>
  h T σ H I _ fun vx x S1 T1 H1 m1 c1 r1 h1 => h1 T1 vx H1 c1 r1 Q fun v d S3 T3 H3 m3 c3 r3 q => k v d S3 T3 H3 (m1.trans m3) c3 r3 q
theorem ve_cb {r : CR1} {t : TA} (h : VA c t ρ S fun ds S1 => RC c r ds S1 F) : VE c (tCB r t) ρ S F := fun T σ H I Q k =>
  h T σ H I _ fun us ds S1 T1 H1 m1 c1 r1 h1 => h1 T1 us H1 c1 r1 Q fun v d S3 T3 H3 m3 c3 r3 q => k v d S3 T3 H3 (m1.trans m3) c3 r3 q
theorem va_nil {F : List D → Sto → Prop} (q : F [] S) : VA c tNil ρ S F := fun T σ H I Q k => k _ _ S T H Mv.refl I.cells .nil q
theorem va_cons {F : List D → Sto → Prop} {ta : TE} {t : TA} (h : VE c ta ρ S fun x S1 => VA c t ρ S1 fun xs S2 => F (x :: xs) S2) : VA c (tCons ta t) ρ S F := fun T σ H I Q k =>
  h T σ H I _ fun vx x S1 T1 H1 m1 c1 r1 h1 => h1 T1 σ H1 (I.mv m1 c1) _ fun vs ds S2 T2 H2 m2 c2 r2 h2 => k _ _ S2 T2 H2 (m1.trans m2) c2 (.cons (r1.mv m2) r2) h2
theorem ve_tup {t : TA} (h : VA c t ρ S fun ds S1 => ds.length ≤ sizeLine ∧ F (.tup ds) S1) : VE c (tTup t) ρ S F := fun T σ H I Q k =>
  h T σ H I _ fun us ds S1 T1 H1 m1 c1 r1 ⟨hl, q⟩ => ⟨by rw [r1.length]; exact hl, fun p hp => k _ _ S1 T1 _ (m1.trans (mv_new hp)) (c1.new hp) (.tup (c1.free hp) upd_same (r1.mv (mv_new hp))) q⟩
/-- a list, by value; by reference -/
theorem ve_lst {t : TA} (h : VA c t ρ S fun ds S1 => ds.length ≤ sizeLine ∧ F (.lst ds) S1) : VE c (tLst t) ρ S F := fun T σ H I Q k =>
  h T σ H I _ fun us ds S1 T1 H1 m1 c1 r1 ⟨hl, q⟩ => ⟨by rw [r1.length]; exact hl, fun p hp => k _ _ S1 T1 _ (m1.trans (mv_new hp)) (c1.new hp) (.lst (c1.free hp) upd_same (r1.mv (mv_new hp))) q⟩
theorem ve_lstc {t : TA} (h : VA c t ρ S fun ds S1 => ds.length ≤ sizeLine ∧ ∀ p, S1 p = none → F (.ref p) (put S1 p (.lst ds))) : VE c (tLst t) ρ S F := fun T σ H I Q k =>
  h T σ H I _ fun us ds S1 T1 H1 m1 c1 r1 ⟨hl, q⟩ => ⟨by rw [r1.length]; exact hl, fun p hp => k _ _ _ _ _ (m1.trans (mv_newc hp)) (c1.newc hp (cell_l upd_same (r1.mv (mv_newc hp)))) (.ref p) (q p (c1.freeS hp))⟩
theorem ve_if {t : TT} {ta tb : TE} (h : VT c t ρ S fun b S1 => (b = true → VE c ta ρ S1 F) ∧ (b = false → VE c tb ρ S1 F)) : VE c (tIf t ta tb) ρ S F := fun T σ H I Q k =>
  h T σ H I _ fun b S1 T1 H1 m1 c1 ⟨h1, h2⟩ => by
    cases b with
    | true => exact iteT (h1 rfl T1 σ H1 (I.mv m1 c1) Q fun v d S3 T3 H3 m3 => k v d S3 T3 H3 (m1.trans m3))
    | false => exact iteF (h2 rfl T1 σ H1 (I.mv m1 c1) Q fun v d S3 T3 H3 m3 => k v d S3 T3 H3 (m1.trans m3))
theorem ve_andV {ta tb : TE} (h : VE c ta ρ S fun x S1 => ∃ b, x = .bl b ∧ (b = true → VE c tb ρ S1 F) ∧ (b = false → F (.bl false) S1)) : VE c (tAndV ta tb) ρ S F := fun T σ H I Q k =>
  h T σ H I _ fun vx x S1 T1 H1 m1 c1 r1 ⟨b, e, h1, h2⟩ => by
    subst e
    cases r1
    refine ⟨b, rfl, ?_⟩
    cases b with
    | true => exact iteT (h1 rfl T1 σ H1 (I.mv m1 c1) Q fun v d S3 T3 H3 m3 => k v d S3 T3 H3 (m1.trans m3))
    | false => exact iteF (k _ _ S1 T1 H1 m1 c1 (.bl false) (h2 rfl))
theorem ve_orV {ta tb : TE} (h : VE c ta ρ S fun x S1 => ∃ b, x = .bl b ∧ (b = false → VE c tb ρ S1 F) ∧ (b = true → F (.bl true) S1)) : VE c (tOrV ta tb) ρ S F := fun T σ H I Q k =>
  h T σ H I _ fun vx x S1 T1 H1 m1 c1 r1 ⟨b, e, h1, h2⟩ => by
    subst e
    cases r1
    refine ⟨b, rfl, ?_⟩
    cases b with
    | true => exact iteT (k _ _ S1 T1 H1 m1 c1 (.bl true) (h2 rfl))
    | false => exact iteF (h1 rfl T1 σ H1 (I.mv m1 c1) Q fun v d S3 T3 H3 m3 => k v d S3 T3 H3 (m1.trans m3))
theorem ve_notV {ta : TE} (h : VE c ta ρ S fun x S1 => ∃ b, x = .bl b ∧ F (.bl (!b)) S1) : VE c (tNotV ta) ρ S F := fun T σ H I Q k =>
  h T σ H I _ fun vx x S1 T1 H1 m1 c1 r1 ⟨b, e, h1⟩ => by
    subst e
    cases r1
    exact ⟨b, rfl, k _ _ S1 T1 H1 m1 c1 (.bl _) h1⟩
theorem ve_chain {r r' : R2} {ta tb tc : TE} (h : VE c ta ρ S fun x S1 => VE c tb ρ S1 fun y S2 => RV c r x y S2 fun z S3 => ∃ k, z = .bl k ∧ (k = true → VE c tc ρ S3 fun w S4 => RV c r' y w S4 F) ∧ (k = false → F (.bl false) S3)) : VE c (tChain r r' ta tb tc) ρ S F := fun T σ H I Q k =>
  h T σ H I _ fun vx x S1 T1 H1 m1 c1 r1 h1 => h1 T1 σ H1 (I.mv m1 c1) _ fun vy y S2 T2 H2 m2 c2 r2 h2 => h2 T2 vx vy H2 c2 (r1.mv m2) r2 _ fun v d S3 T3 H3 m3 c3 r3 ⟨b, e, q1, q2⟩ => by
    subst e
    cases r3
    refine ⟨b, rfl, ?_⟩
    cases b with
    | true => exact iteT (q1 rfl T3 σ H3 (I.mv (m1.trans (m2.trans m3)) c3) _ fun vw w S4 T4 H4 m4 c4 r4 h4 => h4 T4 vy vw H4 c4 (r2.mv (m3.trans m4)) r4 Q fun v d S5 T5 H5 m5 => k v d S5 T5 H5 (m1.trans (m2.trans (m3.trans (m4.trans m5)))))
    | false => exact iteF (k _ _ S3 T3 H3 (m1.trans (m2.trans m3)) c3 (.bl false) (q2 rfl))
/-! ### tests -/
variable {G : Bool → Sto → Prop}
theorem vt_test {t : TE} (h : VE c t ρ S fun x S1 => ∃ b, x = .bl b ∧ G b S1) : VT c (tTest t) ρ S G := fun T σ H I Q k =>
  h T σ H I _ fun vx x S1 T1 H1 m1 c1 r1 ⟨b, e, h1⟩ => by
    subst e
    cases r1
    exact ⟨b, rfl, k b S1 T1 H1 m1 c1 h1⟩
theorem vt_B {t : TE} (h : VE c t ρ S fun x S1 => ∃ b, x = .bl b ∧ G b S1) : VT c (tB t) ρ S G := vt_test h
theorem vt_and {t u : TT} (h : VT c t ρ S fun b S1 => (b = true → VT c u ρ S1 G) ∧ (b = false → G false S1)) : VT c (tAnd t u) ρ S G := fun T σ H I Q k =>
  h T σ H I _ fun b S1 T1 H1 m1 c1 ⟨h1, h2⟩ => by
    cases b with
    | true => exact iteT (h1 rfl T1 σ H1 (I.mv m1 c1) Q fun b S3 T3 H3 m3 => k b S3 T3 H3 (m1.trans m3))
    | false => exact iteF (k false S1 T1 H1 m1 c1 (h2 rfl))
theorem vt_or {t u : TT} (h : VT c t ρ S fun b S1 => (b = true → G true S1) ∧ (b = false → VT c u ρ S1 G)) : VT c (tOr t u) ρ S G := fun T σ H I Q k =>
  h T σ H I _ fun b S1 T1 H1 m1 c1 ⟨h1, h2⟩ => by
    cases b with
    | true => exact iteT (k true S1 T1 H1 m1 c1 (h1 rfl))
    | false => exact iteF (h2 rfl T1 σ H1 (I.mv m1 c1) Q fun b S3 T3 H3 m3 => k b S3 T3 H3 (m1.trans m3))
theorem vt_not {t : TT} (h : VT c t ρ S fun b S1 => G (!b) S1) : VT c (tNot t) ρ S G := fun T σ H I Q k => h T σ H I _ fun b S1 T1 H1 m1 c1 h1 => k _ S1 T1 H1 m1 c1 h1
theorem vt_yes (h : G true S) : VT c tYes ρ S G := fun T σ H I Q k => k true S T H Mv.refl I.cells h
/-! ### weaker ends -/
theorem VE.imp {F' : D → Sto → Prop} {te : TE} (h : VE c te ρ S F) (i : ∀ d S, F d S → F' d S) : VE c te ρ S F' := fun T σ H I Q k => h T σ H I Q fun v d S' T' H' m cl r q => k v d S' T' H' m cl r (i _ _ q)
theorem VT.imp {G' : Bool → Sto → Prop} {te : TT} (h : VT c te ρ S G) (i : ∀ d S, G d S → G' d S) : VT c te ρ S G' := fun T σ H I Q k => h T σ H I Q fun v S' T' H' m cl q => k v S' T' H' m cl (i _ _ q)
/-! ### what a list is to be read of -/
inductive IsL (S : Sto) : D → List D → Prop
  | v {ds : List D} : IsL S (.lst ds) ds
  | r {ds : List D} : IsL S (.rol ds) ds
  | c {l : Addr} {ds : List D} (h : S l = some (.lst ds)) : IsL S (.ref l) ds
theorem IsL.rd {K : PySem.W.Frag} {H : Hp} {T : Sto} {x : D} {ds : List D} {u : V} (h : IsL S x ds) (cl : Cells K H S T) (r : Rep K H T u x) : ∃ a xs, u = .ref a ∧ SqL K H a xs ∧ RepL K H T xs ds := by
  cases h with
  | v => obtain ⟨a, xs, e, s, h, r⟩ := r.seqL; exact ⟨a, xs, e, .of h, r⟩
  | r => obtain ⟨a, xs, e, h, r⟩ := r.seqR; exact ⟨a, xs, e, h _ _ Mv.refl, r⟩
  | c h => cases r; obtain ⟨xs, h1, r⟩ := cl.ok _ _ (cl.at h); exact ⟨_, xs, rfl, .of h1, r⟩
/-- a list that may be added to another one -/
inductive IsA (S : Sto) : D → List D → Prop
  | v {ds : List D} : IsA S (.lst ds) ds
  | c {l : Addr} {ds : List D} (h : S l = some (.lst ds)) : IsA S (.ref l) ds
theorem IsA.rd {K : PySem.W.Frag} {H : Hp} {T : Sto} {x : D} {ds : List D} {u : V} (h : IsA S x ds) (cl : Cells K H S T) (r : Rep K H T u x) : ∃ a xs, u = .ref a ∧ H a = some (.lst xs) ∧ RepL K H T xs ds := by
  cases h with
  | v => obtain ⟨a, xs, e, s, h, r⟩ := r.seqL; exact ⟨a, xs, e, h, r⟩
  | c h => cases r; obtain ⟨xs, h1, r⟩ := cl.ok _ _ (cl.at h); exact ⟨_, xs, rfl, h1, r⟩
inductive IsQ (S : Sto) : D → List D → Prop
  | l {x : D} {ds : List D} (h : IsL S x ds) : IsQ S x ds
  | t {ds : List D} : IsQ S (.tup ds) ds
theorem IsQ.rd {K : PySem.W.Frag} {H : Hp} {T : Sto} {x : D} {ds : List D} {u : V} (h : IsQ S x ds) (cl : Cells K H S T) (r : Rep K H T u x) : ∃ a xs, u = .ref a ∧ (SqL K H a xs ∨ SqT K H a xs) ∧ RepL K H T xs ds := by
  cases h with
  | l h => obtain ⟨a, xs, e, s, r⟩ := h.rd cl r; exact ⟨a, xs, e, .inl s, r⟩
  | t => obtain ⟨a, xs, e, s, r⟩ := r.seqT; exact ⟨a, xs, e, .inr s, r⟩
/-! ### operations by value -/
theorem rv_II {g : Int → Int → Int} {i j : Int} (q : F (.int (g i j)) S) : RV c (rI0 fun i j => .int (g i j)) (.int i) (.int j) S F := fun T u w H cl r1 r2 Q k => by
  cases r1; cases r2; exact ⟨i, j, rfl, rfl, k _ _ S T H Mv.refl cl (.int _) q⟩
theorem rv_IB {g : Int → Int → Bool} {i j : Int} (q : F (.bl (g i j)) S) : RV c (rI0 fun i j => .bl (g i j)) (.int i) (.int j) S F := fun T u w H cl r1 r2 Q k => by
  cases r1; cases r2; exact ⟨i, j, rfl, rfl, k _ _ S T H Mv.refl cl (.bl _) q⟩
theorem rv_IC {C : Int → Int → Prop} {g : Int → Int → Int} {i j : Int} (hc : C i j) (q : F (.int (g i j)) S) : RV c (rI C fun i j => .int (g i j)) (.int i) (.int j) S F := fun T u w H cl r1 r2 Q k => by
  cases r1; cases r2; exact ⟨i, j, rfl, rfl, hc, k _ _ S T H Mv.refl cl (.int _) q⟩
theorem ru_I {g : Int → Int} {i : Int} (q : F (.int (g i)) S) : RU c (rU fun i => .int (g i)) (.int i) S F := fun T u H cl r1 Q k => by
  cases r1; exact ⟨i, rfl, k _ _ S T H Mv.refl cl (.int _) q⟩
theorem bdec {p q : Prop} [Decidable p] [Decidable q] (h : p ↔ q) : decide p = decide q := decide_eq_decide.mpr h
/-- == and != of ints, texts, truths, None -/
def sEq : D → D → Option Bool
  | .int i, .int j => some (decide (i = j))
  | .str i, .str j => some (decide (i = j))
  | .bl i, .bl j => some (decide (i = j))
  | .non, .non => some true
  | .non, .int _ => some false | .int _, .non => some false | .non, .bl _ => some false | .bl _, .non => some false
  | .non, .str _ => some false | .str _, .non => some false | .int _, .str _ => some false | .str _, .int _ => some false
  | .bl _, .str _ => some false | .str _, .bl _ => some false
  | _, _ => none
theorem sEq_ok {K : PySem.W.Frag} {H : Hp} {x y : D} {u w : V} {b : Bool} (h : sEq x y = some b) (r1 : Rep K H S u x) (r2 : Rep K H S w y) : scal u w = true ∧ decide (u = w) = b := by
  cases r1 <;> cases r2 <;> first | (cases h; done) | (cases h; refine ⟨rfl, ?_⟩; first | rfl | simp)
theorem rv_eq {x y : D} {b : Bool} (h : sEq x y = some b) (q : F (.bl b) S) : RV c rEq x y S F := fun T u w H cl r1 r2 Q k => by
  obtain ⟨h1, h2⟩ := sEq_ok h r1 r2
  exact ⟨h1, by rw [h2]; exact k _ _ S T H Mv.refl cl (.bl _) q⟩
theorem rv_ne {x y : D} {b : Bool} (h : sEq x y = some b) (q : F (.bl (!b)) S) : RV c rNe x y S F := fun T u w H cl r1 r2 Q k => by
  obtain ⟨h1, h2⟩ := sEq_ok h r1 r2
  exact ⟨h1, by rw [h2]; exact k _ _ S T H Mv.refl cl (.bl _) q⟩
def isNoD : D → Bool
  | .non => true
  | _ => false
theorem isNo_ok {K : PySem.W.Frag} {H : Hp} {x : D} {u : V} (r : Rep K H S u x) : decide (u = V.non) = isNoD x := by
  cases r <;> first | rfl | (show decide _ = false; simp)
theorem rv_isNo {x : D} (q : F (.bl (isNoD x)) S) : RV c rIsNo x .non S F := fun T u w H cl r1 r2 Q k => by
  cases r2; exact ⟨rfl, by rw [isNo_ok r1]; exact k _ _ S T H Mv.refl cl (.bl _) q⟩
theorem rv_notNo {x : D} (q : F (.bl (!isNoD x)) S) : RV c rNotNo x .non S F := fun T u w H cl r1 r2 Q k => by
  cases r2; exact ⟨rfl, by rw [isNo_ok r1]; exact k _ _ S T H Mv.refl cl (.bl _) q⟩
theorem RepL.at {K : PySem.W.Frag} {H : Hp} {xs : List V} {ds : List D} {i : Int} (r : RepL K H S xs ds) (h : atI ds i = some d) : ∃ v, atI xs i = some v ∧ Rep K H S v d := by
  unfold atI at h ⊢
  rw [r.length]
  cases e : ixN ds.length i with
  | none => rw [e] at h; cases h
  | some j => rw [e] at h; exact r.get h
theorem rv_ixL {x : D} {ds : List D} {i : Int} (h : IsL S x ds) (e : atI ds i = some d) (q : F d S) : RV c (rIxL c.K) x (.int i) S F := fun T u w H cl r1 r2 Q k => by
  cases r2
  obtain ⟨a, xs, rfl, s, r⟩ := h.rd cl r1
  obtain ⟨v, h1, h2⟩ := r.at e
  exact ⟨a, xs, i, v, rfl, rfl, s, h1, k _ _ S T H Mv.refl cl h2 q⟩
theorem rv_ixT {ds : List D} {i : Int} (e : atI ds i = some d) (q : F d S) : RV c (rIxT c.K) (.tup ds) (.int i) S F := fun T u w H cl r1 r2 Q k => by
  cases r2
  obtain ⟨a, xs, rfl, s, r⟩ := r1.seqT
  obtain ⟨v, h1, h2⟩ := r.at e
  exact ⟨a, xs, i, v, rfl, rfl, s, h1, k _ _ S T H Mv.refl cl h2 q⟩
theorem rv_ixS {z : Str} {i : Int} {n : Nat} (hz : z.length ≤ sizeLine) (e : atI z.cps.toList i = some n) (q : F (.str ⟨#[n]⟩) S) : RV c rIxS (.str z) (.int i) S F := fun T u w H cl r1 r2 Q k => by
  cases r1; cases r2; exact ⟨z, i, n, rfl, rfl, hz, e, k _ _ S T H Mv.refl cl (.str _) q⟩
theorem rv_addS {x y : Str} (h : x.length + y.length ≤ sizeLine) (q : F (.str (x ++ y)) S) : RV c rAddStr (.str x) (.str y) S F := fun T u w H cl r1 r2 Q k => by
  cases r1; cases r2; exact ⟨x, y, rfl, rfl, h, k _ _ S T H Mv.refl cl (.str _) q⟩
theorem rv_ltS {x y : Str} (q : F (.bl (decide (x.cps.toList < y.cps.toList))) S) : RV c rLtStr (.str x) (.str y) S F := fun T u w H cl r1 r2 Q k => by
  cases r1; cases r2; exact ⟨x, y, rfl, rfl, k _ _ S T H Mv.refl cl (.bl _) q⟩
theorem rv_leS {x y : Str} (q : F (.bl (!decide (y.cps.toList < x.cps.toList))) S) : RV c rLeStr (.str x) (.str y) S F := fun T u w H cl r1 r2 Q k => by
  cases r1; cases r2; exact ⟨x, y, rfl, rfl, k _ _ S T H Mv.refl cl (.bl _) q⟩
theorem found_one (x : Str) (n : Nat) : (!(Builtin.Str.occurrences x ⟨#[n]⟩ 0 x.length 1).isEmpty) = decide (n ∈ x.cps.toList) := StrLaws.found_one x n
theorem rv_inS {n : Nat} {y : Str} (q : F (.bl (decide (n ∈ y.cps.toList))) S) : RV c rInStr (.str ⟨#[n]⟩) (.str y) S F := fun T u w H cl r1 r2 Q k => by
  cases r1; cases r2; exact ⟨_, y, rfl, rfl, by rw [found_one]; exact k _ _ S T H Mv.refl cl (.bl _) q⟩
theorem rv_notInS {n : Nat} {y : Str} (q : F (.bl (!decide (n ∈ y.cps.toList))) S) : RV c rNotInStr (.str ⟨#[n]⟩) (.str y) S F := fun T u w H cl r1 r2 Q k => by
  cases r1; cases r2; exact ⟨_, y, rfl, rfl, by rw [found_one]; exact k _ _ S T H Mv.refl cl (.bl _) q⟩
theorem rv_cat {x y : D} {ds es : List D} (h1 : IsA S x ds) (h2 : IsA S y es) (hl : ds.length + es.length ≤ sizeLine) (q : F (.lst (ds ++ es)) S) : RV c rCat x y S F := fun T u w H cl r1 r2 Q k => by
  obtain ⟨a, xs, rfl, s, r⟩ := h1.rd cl r1
  obtain ⟨b, zs, rfl, s', r'⟩ := h2.rd cl r2
  exact ⟨a, b, xs, zs, rfl, rfl, s, s', by rw [r.length, r'.length]; exact hl, fun p hp => k _ _ S T _ (mv_new hp) (cl.new hp) (.lst (cl.free hp) upd_same ((r.append r').mv (mv_new hp))) q⟩
/-- flat values, in a row -/
def flatD : D → Bool
  | .non => true | .bl _ => true | .int _ => true | .str _ => true | _ => false
def eqD : D → D → Bool
  | .non, .non => true
  | .bl a, .bl b => a == b
  | .bl a, .int b => (if a then 1 else 0) == b
  | .int a, .bl b => a == (if b then 1 else 0)
  | .int a, .int b => a == b
  | .str a, .str b => a == b
  | _, _ => false
def inD (x : D) (xs : List D) : Bool := xs.any fun y => eqD y x
theorem flat_ok {K : PySem.W.Frag} {H : Hp} {x : D} {u : V} (r : Rep K H S u x) : flatV u = flatD x := by cases r <;> rfl
theorem eq_ok {K : PySem.W.Frag} {H : Hp} {x y : D} {u w : V} (r : Rep K H S u x) (r' : Rep K H S w y) : eqV u w = eqD x y := by cases r <;> cases r' <;> rfl
theorem RepL.flat {K : PySem.W.Frag} {H : Hp} : ∀ {xs : List V} {ds : List D}, RepL K H S xs ds → xs.all flatV = ds.all flatD
  | _, _, .nil => rfl
  | _, _, .cons h t => by rw [List.all_cons, List.all_cons, flat_ok h, RepL.flat t]
theorem RepL.inV {K : PySem.W.Frag} {H : Hp} {x : D} {u : V} (r : Rep K H S u x) : ∀ {xs : List V} {ds : List D}, RepL K H S xs ds → L2.inV u xs = inD x ds
  | _, _, .nil => rfl
  | _, _, .cons h t => by
    have e := RepL.inV r t
    unfold L2.inV inD at *
    rw [List.any_cons, List.any_cons, eq_ok h r, e]
theorem rv_in {neg : Bool} {x y : D} {ds : List D} (h : IsQ S y ds) (h1 : flatD x = true) (h2 : ds.all flatD = true) (q : F (.bl (if neg then !inD x ds else inD x ds)) S) : RV c (rIn c.K neg) x y S F := fun T u w H cl r1 r2 Q k => by
  obtain ⟨a, xs, rfl, s, r⟩ := h.rd cl r2
  exact ⟨a, xs, rfl, s, by rw [flat_ok r1]; exact h1, by rw [r.flat]; exact h2, by rw [RepL.inV r1 r]; exact k _ _ S T H Mv.refl cl (.bl _) q⟩
/-! ### calls of built-ins -/
theorem rc_lenQ {x : D} {ds : List D} (h : IsQ S x ds) (q : F (.int ds.length) S) : RC c (rLen c.K) [x] S F := fun T us H cl r Q k => by
  cases r with
  | cons h1 t =>
    cases t
    obtain ⟨a, xs, rfl, s, r⟩ := h.rd cl h1
    refine ⟨_, ds.length, rfl, ?_, k _ _ S T H Mv.refl cl (.int _) q⟩
    rcases s with s | s
    · exact .inl ⟨xs, s, r.length.symm⟩
    · exact .inr ⟨xs, s, r.length.symm⟩
theorem rc_lenS {x : Str} (h : x.length ≤ sizeLine) (q : F (.int x.length) S) : RC c (rLen c.K) [.str x] S F := fun T us H cl r Q k => by
  cases r with
  | cons h1 t => cases t; cases h1; exact ⟨_, _, rfl, ⟨h, rfl⟩, k _ _ S T H Mv.refl cl (.int _) q⟩
theorem rc_abs {i : Int} (q : F (.int (if i < 0 then -i else i)) S) : RC c rAbs [.int i] S F := fun T us H cl r Q k => by
  cases r with
  | cons h1 t => cases t; cases h1; exact ⟨_, rfl, k _ _ S T H Mv.refl cl (.int _) q⟩
theorem rc_max2 {i j : Int} (q : F (.int (if j > i then j else i)) S) : RC c rMax2 [.int i, .int j] S F := fun T us H cl r Q k => by
  cases r with
  | cons h1 t => cases t with
    | cons h2 t => cases t; cases h1; cases h2; exact ⟨_, _, rfl, k _ _ S T H Mv.refl cl (.int _) q⟩
theorem rc_min2 {i j : Int} (q : F (.int (if j < i then j else i)) S) : RC c rMin2 [.int i, .int j] S F := fun T us H cl r Q k => by
  cases r with
  | cons h1 t => cases t with
    | cons h2 t => cases t; cases h1; cases h2; exact ⟨_, _, rfl, k _ _ S T H Mv.refl cl (.int _) q⟩
theorem rc_int {i : Int} (q : F (.int i) S) : RC c rInt1 [.int i] S F := fun T us H cl r Q k => by
  cases r with
  | cons h1 t => cases t; cases h1; exact .inl ⟨_, rfl, k _ _ S T H Mv.refl cl (.int _) q⟩
theorem rc_intB {b : Bool} (q : F (.int (if b then 1 else 0)) S) : RC c rInt1 [.bl b] S F := fun T us H cl r Q k => by
  cases r with
  | cons h1 t => cases t; cases h1; exact .inr ⟨_, rfl, k _ _ S T H Mv.refl cl (.int _) q⟩
theorem rc_strI {i : Int} (h : i.natAbs.log2 < 1920) (q : F (.str (toString i)) S) : RC c rStrInt [.int i] S F := fun T us H cl r Q k => by
  cases r with
  | cons h1 t => cases t; cases h1; exact ⟨_, rfl, h, k _ _ S T H Mv.refl cl (.str _) q⟩
theorem rc_ord {n : Nat} (q : F (.int n) S) : RC c rOrd [.str ⟨#[n]⟩] S F := fun T us H cl r Q k => by
  cases r with
  | cons h1 t => cases t; cases h1; exact ⟨_, rfl, rfl, k _ _ S T H Mv.refl cl (.int _) q⟩
theorem rc_list {x : D} {ds : List D} (h : IsQ S x ds) (q : F (.lst ds) S) : RC c (rListOf c.K) [x] S F := fun T us H cl r Q k => by
  cases r with
  | cons h1 t =>
    cases t
    obtain ⟨a, xs, rfl, s, r⟩ := h.rd cl h1
    exact ⟨a, xs, rfl, s, fun p hp => k _ _ S T _ (mv_new hp) (cl.new hp) (.lst (cl.free hp) upd_same (r.mv (mv_new hp))) q⟩
theorem rc_listc {x : D} {ds : List D} (h : IsQ S x ds) (q : ∀ p, S p = none → F (.ref p) (put S p (.lst ds))) : RC c (rListOf c.K) [x] S F := fun T us H cl r Q k => by
  cases r with
  | cons h1 t =>
    cases t
    obtain ⟨a, xs, rfl, s, r⟩ := h.rd cl h1
    exact ⟨a, xs, rfl, s, fun p hp => k _ _ _ _ _ (mv_newc hp) (cl.newc hp (cell_l upd_same (r.mv (mv_newc hp)))) (.ref p) (q p (cl.freeS hp))⟩
theorem rc_tupleL {x : D} {ds : List D} (h : IsL S x ds) (q : F (.tup ds) S) : RC c (rTupleOf c.K) [x] S F := fun T us H cl r Q k => by
  cases r with
  | cons h1 t =>
    cases t
    obtain ⟨a, xs, rfl, s, r⟩ := h.rd cl h1
    exact ⟨a, xs, rfl, .inl ⟨s, fun p hp => k _ _ S T _ (mv_new hp) (cl.new hp) (.tup (cl.free hp) upd_same (r.mv (mv_new hp))) q⟩⟩
theorem rc_all {bs : List Bool} {x : D} (h : IsL S x (bs.map D.bl)) (q : F (.bl (bs.all id)) S) : RC c (rAll c.K) [x] S F := fun T us H cl r Q k => by
  cases r with
  | cons h1 t =>
    cases t
    obtain ⟨a, xs, rfl, s, r⟩ := h.rd cl h1
    have e := r.bls
    subst e
    exact ⟨a, bs, rfl, s, k _ _ S T H Mv.refl cl (.bl _) q⟩
theorem rc_sum {ns : List Int} {x : D} (h : IsL S x (ns.map D.int)) (q : F (.int ns.sum) S) : RC c (rSum c.K) [x] S F := fun T us H cl r Q k => by
  cases r with
  | cons h1 t =>
    cases t
    obtain ⟨a, xs, rfl, s, r⟩ := h.rd cl h1
    have e := r.ints
    subst e
    exact ⟨a, ns, rfl, s, k _ _ S T H Mv.refl cl (.int _) q⟩
/-- isinstance by a built-in class -/
inductive TyS (S : Sto) : D → String → Prop
  | non : TyS S .non "NoneType" | bl (b : Bool) : TyS S (.bl b) "bool" | int (i : Int) : TyS S (.int i) "int" | str (x : Str) : TyS S (.str x) "str"
  | rol (ds : List D) : TyS S (.rol ds) "list" | lst (ds : List D) : TyS S (.lst ds) "list" | tup (ds : List D) : TyS S (.tup ds) "tuple" | dK (ds : List (Key × D)) : TyS S (.dK ds) "dict"
  | cl {l : Addr} {ds : List D} (h : S l = some (.lst ds)) : TyS S (.ref l) "list" | cd {l : Addr} {ds : List (Key × D)} (h : S l = some (.dK ds)) : TyS S (.ref l) "dict"
theorem TyS.ok {K : PySem.W.Frag} {H : Hp} {T : Sto} {x : D} {n : String} {u : V} (t : TyS S x n) (cl : Cells K H S T) (r : Rep K H T u x) : TyX K H u (.type n) := by
  cases t with
  | non => cases r; exact .base .non
  | bl => cases r; exact .base (.bl _)
  | int => cases r; exact .base (.int _)
  | str => cases r; exact .base (.str _)
  | rol =>
    cases r with
    | rol _ h _ => exact .base (.frz h)
    | rolK h _ => obtain ⟨o, its, n, h1, h2, _⟩ := h; exact .kList h1 h2
  | lst => cases r with | lst _ h _ => exact .base (.lst h)
  | tup =>
    cases r with
    | tup _ h _ => exact .base (.tup h)
    | tupK h _ => obtain ⟨o, its, n, h1, h2, _⟩ := h; exact .kTuple h1 h2
  | dK => cases r with | dK _ h _ => exact h.elim (fun h => .base (.dK h)) fun ⟨_, h⟩ => .fDict h
  | cl h => cases r; obtain ⟨xs, h1, _⟩ := cl.ok _ _ (cl.at h); exact .base (.lst h1)
  | cd h => cases r; obtain ⟨xs, h1, _⟩ := cl.ok _ _ (cl.at h); exact .base (.dK h1)
theorem rc_isi {x : D} {n N : String} {b : Bool} (t : TyS S x n) (h : kitB n N = some b) (q : F (.bl b) S) : RC c (rIsiZ c.K) [x, .ty N] S F := fun T us H cl r Q k => by
  cases r with
  | cons h1 r => cases r with
    | cons h2 r =>
      cases r
      cases h2
      exact ⟨_, _, _, _, b, rfl, .ty N, TyZ.x (t.ok cl h1), kit_ty h, k _ _ S T H Mv.refl cl (.bl _) q⟩
/-! ### methods of built-ins -/
theorem ve_m1 {r : MR1} {to te : TE} (h : VE c to ρ S fun x S1 => ∃ z, x = .str z ∧ VE c te ρ S1 fun y S2 => RM c r (.str z) [y] S2 F) : VE c (tM1 r to te) ρ S F := fun T σ H I Q k =>
  h T σ H I _ fun vx x S1 T1 H1 m1 c1 r1 ⟨z, e, h1⟩ => by
    subst e
    cases r1
    exact ⟨⟨z, rfl⟩, h1 T1 σ H1 (I.mv m1 c1) _ fun vy y S2 T2 H2 m2 c2 r2 h2 => h2 T2 _ _ H2 c2 (.str z) (.cons r2 .nil) Q fun v d S3 T3 H3 m3 c3 r3 q => k v d S3 T3 H3 (m1.trans (m2.trans m3)) c3 r3 q⟩
theorem ve_m0 {r : MR1} {to : TE} (h : VE c to ρ S fun x S1 => ∃ z, x = .str z ∧ RM c r (.str z) [] S1 F) : VE c (tM0 r to) ρ S F := fun T σ H I Q k =>
  h T σ H I _ fun vx x S1 T1 H1 m1 c1 r1 ⟨z, e, h1⟩ => by
    subst e
    cases r1
    exact ⟨⟨z, rfl⟩, h1 T1 _ _ H1 c1 (.str z) .nil Q fun v d S3 T3 H3 m3 c3 r3 q => k v d S3 T3 H3 (m1.trans m3) c3 r3 q⟩
theorem rm_join {a : Str} {x : D} {ys : List Str} (h : IsQ S x (ys.map D.str)) (hl : (ys.map (·.length)).sum + ys.length * a.length ≤ 16777216) (q : F (.str (Txt.join a ys)) S) : RM c (rJoin c.K) (.str a) [x] S F := fun T u us H cl r1 r2 Q k => by
  cases r1
  cases r2 with
  | cons h1 t =>
    cases t
    obtain ⟨p, xs, rfl, s, r⟩ := h.rd cl h1
    have e := r.strs
    subst e
    exact ⟨a, p, ys, rfl, rfl, s, hl, k _ _ S T H Mv.refl cl (.str _) q⟩
/-- a method of a list that is known by reference -/
theorem ve_bm {r : MR1} {to : TE} {t : TA} (h : VE c to ρ S fun x S1 => ∃ l ds, x = .ref l ∧ S1 l = some (.lst ds) ∧ VA c t ρ S1 fun es S2 => RM c r (.ref l) es S2 F) : VE c (tBM c.K "list" r to t) ρ S F := fun T σ H I Q k =>
  h T σ H I _ fun vx x S1 T1 H1 m1 c1 r1 ⟨l, ds, e, hl, h1⟩ => by
    subst e
    cases r1
    obtain ⟨xs, hx, _⟩ := c1.ok _ _ (c1.at hl)
    exact ⟨.inl ⟨rfl, xs, .of hx⟩, h1 T1 σ H1 (I.mv m1 c1) _ fun vs es S2 T2 H2 m2 c2 r2 h2 => h2 T2 _ vs H2 c2 (.ref l) r2 Q fun v d S3 T3 H3 m3 c3 r3 q => k v d S3 T3 H3 (m1.trans (m2.trans m3)) c3 r3 q⟩
theorem ve_bm0 {r : MR1} {to : TE} (h : VE c to ρ S fun x S1 => ∃ l ds, x = .ref l ∧ S1 l = some (.lst ds) ∧ RM c r (.ref l) [] S1 F) : VE c (tBM0 c.K "list" r to) ρ S F := fun T σ H I Q k =>
  h T σ H I _ fun vx x S1 T1 H1 m1 c1 r1 ⟨l, ds, e, hl, h1⟩ => by
    subst e
    cases r1
    obtain ⟨xs, hx, _⟩ := c1.ok _ _ (c1.at hl)
    exact ⟨.inl ⟨rfl, xs, .of hx⟩, h1 T1 _ _ H1 c1 (.ref l) .nil Q fun v d S3 T3 H3 m3 c3 r3 q => k v d S3 T3 H3 (m1.trans m3) c3 r3 q⟩
theorem rm_append {l : Addr} {ds : List D} {x : D} (h : S l = some (.lst ds)) (hl : ds.length < sizeLine) (q : F .non (put S l (.lst (ds ++ [x])))) : RM c rAppend (.ref l) [x] S F := fun T u us H cl r1 r2 Q k => by
  cases r1
  cases r2 with
  | cons h1 t =>
    cases t
    obtain ⟨xs, hx, r⟩ := cl.ok _ _ (cl.at h)
    exact ⟨l, xs, _, rfl, rfl, hx, by rw [r.length]; exact hl, k _ _ _ _ _ (mv_wr (cl.at h)) (cl.wr (cl.at h) (cell_l upd_same ((r.append (.cons h1 .nil)).mv (mv_wr (cl.at h))))) .non q⟩
theorem rm_popAt {l : Addr} {ds : List D} {i : Int} {j : Nat} (h : S l = some (.lst ds)) (hj : i = (j : Int)) (hlt : j < 2 ^ 62) (e : ds[j]? = some d) (q : F d (put S l (.lst (ds.eraseIdx j)))) : RM c rPopAt (.ref l) [.int i] S F := fun T u us H cl r1 r2 Q k => by
  subst hj
  cases r1
  cases r2 with
  | cons h1 t =>
    cases t
    cases h1
    obtain ⟨xs, hx, r⟩ := cl.ok _ _ (cl.at h)
    obtain ⟨v, e1, e2⟩ := r.get e
    have hb : j < xs.length := (List.getElem?_eq_some_iff.mp e1).1
    have hs : seqIndex? (j : Int) xs.length = some j := (ixN_seq (by unfold ixN; rw [if_pos (by omega), if_pos (by omega)]; simp)).1
    exact ⟨l, xs, (j : Int), j, v, rfl, rfl, hx, by omega, by omega, hs, e1, k _ _ _ _ _ (mv_wr (cl.at h)) (cl.wr (cl.at h) (cell_l upd_same ((r.eraseIdx j).mv (mv_wr (cl.at h))))) (e2.mv (mv_wr (cl.at h))) q⟩
/-! ### slices -/
theorem vo_none {F : Option Int → Sto → Prop} (q : F none S) : VO c tNoPart ρ S F := fun T σ H I Q k => k none S T H Mv.refl I.cells q
theorem vo_some {F : Option Int → Sto → Prop} {te : TE} (h : VE c te ρ S fun x S1 => ∃ i, x = .int i ∧ F (some i) S1) : VO c (tPart te) ρ S F := fun T σ H I Q k =>
  h T σ H I _ fun vx x S1 T1 H1 m1 c1 r1 ⟨i, e, q⟩ => by
    subst e
    cases r1
    exact ⟨i, rfl, k _ S1 T1 H1 m1 c1 q⟩
def RS (c : Ctx) (r : V → Option Int → Option Int → Hp → VK → Prop) (x : D) (lo hi : Option Int) (S : Sto) (F : D → Sto → Prop) : Prop := ∀ T u H, Cells c.K H S T → Rep c.K H T u x → ∀ Q : VK,
  (∀ v d S' T' H', Mv T H T' H' → Cells c.K H' S' T' → Rep c.K H' T' v d → F d S' → Q v H') → r u lo hi H Q
theorem ve_sl {r : V → Option Int → Option Int → Hp → VK → Prop} {te : TE} {tl th : TO} (h : VE c te ρ S fun x S1 => VO c tl ρ S1 fun lo S2 => VO c th ρ S2 fun hi S3 => RS c r x lo hi S3 F) : VE c (tSl r te tl th) ρ S F := fun T σ H I Q k =>
  h T σ H I _ fun vx x S1 T1 H1 m1 c1 r1 h1 => h1 T1 σ H1 (I.mv m1 c1) _ fun lo S2 T2 H2 m2 c2 h2 => h2 T2 σ H2 (I.mv (m1.trans m2) c2) _ fun hi S3 T3 H3 m3 c3 h3 => h3 T3 vx H3 c3 (r1.mv (m2.trans m3)) Q fun v d S4 T4 H4 m4 => k v d S4 T4 H4 (m1.trans (m2.trans (m3.trans m4)))
theorem rs_str {z : Str} {lo hi : Option Int} (hz : z.length ≤ sizeLine) (q : F (.str (cutS z lo hi)) S) : RS c rSlS (.str z) lo hi S F := fun T u H cl r Q k => by
  cases r; exact ⟨z, rfl, hz, k _ _ S T H Mv.refl cl (.str _) q⟩
def cutD (xs : List D) (lo hi : Option Int) : List D := (xs.drop (HT.sIx xs.length 0 lo)).take (HT.sIx xs.length xs.length hi - HT.sIx xs.length 0 lo)
theorem RepL.cut {K : PySem.W.Frag} {H : Hp} {xs : List V} {ds : List D} (r : RepL K H S xs ds) (lo hi : Option Int) : RepL K H S (cutV xs lo hi) (cutD ds lo hi) := by
  unfold cutV cutD
  rw [r.length]
  exact (r.drop _).take _
theorem rs_list {x : D} {ds : List D} {lo hi : Option Int} (h : IsL S x ds) (q : F (.lst (cutD ds lo hi)) S) : RS c (rSlL c.K) x lo hi S F := fun T u H cl r Q k => by
  obtain ⟨a, xs, rfl, s, r⟩ := h.rd cl r
  exact ⟨a, xs, rfl, s, fun p hp => k _ _ S T _ (mv_new hp) (cl.new hp) (.lst (cl.free hp) upd_same ((r.cut lo hi).mv (mv_new hp))) q⟩
/-! ### calls of defs -/
/-- a def's promise by value: from the arguments and what is known by reference to what is wanted of the value, of an exception -/
abbrev Pt := List D → Sto → (D → Sto → Prop) → (Addr → List (Str × D) → Sto → Prop) → Prop
def spOf (K : PySem.W.Frag) (p : Pt) : Sp := fun vs H Q E => ∃ ds S T F Y, RepL K H T vs ds ∧ Cells K H S T ∧ p ds S F Y ∧
  (∀ v d S' T' H', Mv T H T' H' → Cells K H' S' T' → Rep K H' T' v d → F d S' → Q v H') ∧
  (∀ (C : Addr) (x : Option Addr) (fs : List (Str × D)) (S' T' : Sto) (H' : Hp), Mv T H T' H' → Cells K H' S' T' → XRep K H' T' x fs → Y C fs S' → E (.ref C) x H')
abbrev noY : Addr → List (Str × D) → Sto → Prop := fun _ _ _ => False
/-! ### statements -/
variable {P : Po}
theorem vx_next {nx bk ct : Rho → Sto → Prop} {rt : D → Sto → Prop} (q : nx ρ S) : VX c tNext ρ S ⟨nx, rt, bk, ct⟩ := fun T σ H I D b => b.nx σ ρ S T H Mv.refl I q
theorem vx_break {nx bk ct : Rho → Sto → Prop} {rt : D → Sto → Prop} (q : bk ρ S) : VX c tBreak ρ S ⟨nx, rt, bk, ct⟩ := fun T σ H I D b => b.bk σ ρ S T H Mv.refl I q
theorem vx_cont {nx bk ct : Rho → Sto → Prop} {rt : D → Sto → Prop} (q : ct ρ S) : VX c tCont ρ S ⟨nx, rt, bk, ct⟩ := fun T σ H I D b => b.ct σ ρ S T H Mv.refl I q
theorem vx_seq {t u : TS} {nx bk ct : Rho → Sto → Prop} {rt : D → Sto → Prop} (h : VX c t ρ S ⟨fun ρ1 S1 => VX c u ρ1 S1 ⟨nx, rt, bk, ct⟩, rt, bk, ct⟩) : VX c (tSeq t u) ρ S ⟨nx, rt, bk, ct⟩ := fun T σ H I D b =>
  h T σ H I _ ⟨fun σ' ρ' S' T' H' m I' q => q T' σ' H' I' D (b.mv m), b.rt, b.bk, b.ct⟩
theorem VX.imp {t : TS} {P' : Po} (h : VX c t ρ S P) (n : ∀ ρ S, P.nx ρ S → P'.nx ρ S) (r : ∀ d S, P.rt d S → P'.rt d S) (bk : ∀ ρ S, P.bk ρ S → P'.bk ρ S) (ct : ∀ ρ S, P.ct ρ S → P'.ct ρ S) : VX c t ρ S P' := fun T σ H I D b =>
  h T σ H I D ⟨fun σ' ρ' S' T' H' m I' q => b.nx σ' ρ' S' T' H' m I' (n _ _ q), fun v d S' T' H' m cl rr q => b.rt v d S' T' H' m cl rr (r _ _ q), fun σ' ρ' S' T' H' m I' q => b.bk σ' ρ' S' T' H' m I' (bk _ _ q), fun σ' ρ' S' T' H' m I' q => b.ct σ' ρ' S' T' H' m I' (ct _ _ q)⟩
theorem vx_asg {te : TE} {g : TG} {nx bk ct : Rho → Sto → Prop} {rt : D → Sto → Prop} (h : VE c te ρ S fun x S1 => VG c g x ρ S1 nx) : VX c (tAsg te g) ρ S ⟨nx, rt, bk, ct⟩ := fun T σ H I D b =>
  h T σ H I _ fun v x S1 T1 H1 m1 c1 r1 h1 => h1 T1 v σ H1 (I.mv m1 c1) r1 _ fun σ' ρ' S' T' H' m' I' q => b.nx σ' ρ' S' T' H' (m1.trans m') I' q
theorem vx_drop {te : TE} {nx bk ct : Rho → Sto → Prop} {rt : D → Sto → Prop} (h : VE c te ρ S fun _ S1 => nx ρ S1) : VX c (tDrop te) ρ S ⟨nx, rt, bk, ct⟩ := fun T σ H I D b =>
  h T σ H I _ fun v x S1 T1 H1 m1 c1 r1 h1 => b.nx σ ρ S1 T1 H1 m1 (I.mv m1 c1) h1
theorem vx_ret {te : TE} {nx bk ct : Rho → Sto → Prop} {rt : D → Sto → Prop} (h : VE c te ρ S rt) : VX c (tRet te) ρ S ⟨nx, rt, bk, ct⟩ := fun T σ H I D b => h T σ H I _ fun v x S1 T1 H1 m1 c1 r1 h1 => b.rt v x S1 T1 H1 m1 c1 r1 h1
theorem vx_retN {nx bk ct : Rho → Sto → Prop} {rt : D → Sto → Prop} (h : rt .non S) : VX c tRetN ρ S ⟨nx, rt, bk, ct⟩ := fun T σ H I D b => b.rt _ _ S T H Mv.refl I.cells .non h
theorem vx_if {tc : TT} {t u : TS} (h : VT c tc ρ S fun b S1 => (b = true → VX c t ρ S1 P) ∧ (b = false → VX c u ρ S1 P)) : VX c (tIfS tc t u) ρ S P := fun T σ H I D bb =>
  h T σ H I _ fun b S1 T1 H1 m1 c1 ⟨h1, h2⟩ => by
    cases b with
    | true => exact iteT (h1 rfl T1 σ H1 (I.mv m1 c1) D (bb.mv m1))
    | false => exact iteF (h2 rfl T1 σ H1 (I.mv m1 c1) D (bb.mv m1))
theorem Cells.nohid {K : PySem.W.Frag} {H : Hp} {S T : Sto} {l : Addr} {d : D} (cl : Cells K H S T) (hl : S l = some d) (ne : d ≠ .hid) : T l ≠ some .hid := fun z => by
  rw [cl.at hl] at z
  cases z
  exact ne rfl
/-- a slot's object is from now on known by value -/
theorem vx_freeze {t : TS} (i : Nat) {l : Addr} (h : ρ[i]? = some (some (.ref l))) (hl : S l = some d) (k : VX c t (ρ.set i (some d)) (del S l) P) (ne : d ≠ .hid := by nofun) : VX c t ρ S P := fun T σ H I D b => by
  have nh := I.cells.nohid hl ne
  have J : In c σ H ρ (del S l) (del T l) := I.mv (mv_del nh) (I.cells.del nh)
  have I' : In c σ H (ρ.set i (some d)) (del S l) (del T l) := by
    refine J.reword h fun v r => ?_
    cases r
    exact I.cells.rep (I.cells.at hl) nh
  exact k _ σ H I' D (b.mv (mv_del nh))
theorem ve_freeze {te : TE} (h : VE c te ρ S fun x S1 => ∃ l d, x = .ref l ∧ S1 l = some d ∧ d ≠ .hid ∧ F d (del S1 l)) : VE c te ρ S F := fun T σ H I Q k =>
  h T σ H I Q fun v x S1 T1 H1 m1 c1 r1 ⟨l, d, e1, hl, ne, q⟩ => by
    subst e1
    cases r1
    have nh := c1.nohid hl ne
    exact k _ d _ _ H1 (m1.trans (mv_del nh)) (c1.del nh) (c1.rep (c1.at hl) nh) q
theorem vg_name {i : Nat} {F : Rho → Sto → Prop} (q : F (ρ.set i (some d)) S) : VG c (gName i) d ρ S F := fun T v σ H I r Q k => k _ _ S T H Mv.refl (I.set i r) q
/-- several targets -/
def VGs (c : Ctx) (g : TGs) (ds : List D) (ρ : Rho) (S : Sto) (F : Rho → Sto → Prop) : Prop := ∀ T vs σ H, In c σ H ρ S T → RepL c.K H T vs ds → ∀ Q : St → Hp → Prop,
  (∀ σ' ρ' S' T' H', Mv T H T' H' → In c σ' H' ρ' S' T' → F ρ' S' → Q σ' H') → g vs σ H Q
theorem vgs_nil {F : Rho → Sto → Prop} (q : F ρ S) : VGs c gNil [] ρ S F := fun T vs σ H I r Q k => by
  cases r; exact ⟨rfl, k σ ρ S T H Mv.refl I q⟩
theorem vgs_cons {g : TG} {gs : TGs} {ds : List D} {F : Rho → Sto → Prop} (h : VG c g d ρ S fun ρ1 S1 => VGs c gs ds ρ1 S1 F) : VGs c (gCons g gs) (d :: ds) ρ S F := fun T vs σ H I r Q k => by
  cases r with
  | cons h1 t => exact ⟨_, _, rfl, h T _ σ H I h1 _ fun σ1 ρ1 S1 T1 H1 m1 I1 q => q T1 _ σ1 H1 I1 (t.mv m1) Q fun σ2 ρ2 S2 T2 H2 m2 => k σ2 ρ2 S2 T2 H2 (m1.trans m2)⟩
theorem vg_tup {n : Nat} {gs : TGs} {ds : List D} {F : Rho → Sto → Prop} (hn : ds.length = n) (h : VGs c gs ds ρ S F) : VG c (gTup c.K n gs) (.tup ds) ρ S F := fun T v σ H I r Q k => by
  obtain ⟨a, xs, rfl, s, r⟩ := r.seqT
  exact ⟨a, xs, rfl, s, by rw [r.length]; exact hn, h T xs σ H I r Q k⟩
/-- l[i] = e -/
theorem vg_subL {to ti : TE} {F : Rho → Sto → Prop} (h : VE c to ρ S fun x S1 => ∃ l, x = .ref l ∧ VE c ti ρ S1 fun y S2 => ∃ (i : Int) (j : Nat) (ds : List D), y = .int i ∧ S2 l = some (.lst ds) ∧ ixN ds.length i = some j ∧ F ρ (put S2 l (.lst (ds.set j d)))) : VG c (gSub to ti rSetL) d ρ S F := fun T v σ H I r Q k =>
  h T σ H I _ fun vx x S1 T1 H1 m1 c1 r1 ⟨l, e, h1⟩ => h1 T1 σ H1 (I.mv m1 c1) _ fun vy y S2 T2 H2 m2 c2 r2 ⟨i, j, ds, e2, hl, hj, q⟩ => by
    subst e e2
    cases r1
    cases r2
    obtain ⟨xs, hx, rr⟩ := c2.ok _ _ (c2.at hl)
    have rd : Rep c.K H2 T2 v d := r.mv (m1.trans m2)
    have w := mv_wr (H := H2) (d := .lst (ds.set j d)) (o := .lst (xs.set j v)) (c2.at hl)
    have cl' : Cells c.K (upd H2 l (.lst (xs.set j v))) (put S2 l (.lst (ds.set j d))) (put T2 l (.lst (ds.set j d))) := c2.wr (c2.at hl) (cell_l upd_same ((RepL.set rd j rr).mv w))
    exact ⟨l, xs, i, j, rfl, rfl, hx, by rw [rr.length]; exact hj, k σ ρ _ _ _ (m1.trans (m2.trans w)) (I.mv (m1.trans (m2.trans w)) cl') q⟩
end
end VS
namespace VS
open PySem L2 C8
section
variable {c : Ctx} {ρ : Rho} {S : Sto} {F : D → Sto → Prop} {d : D}
/-! ### what is walked -/
theorem yl_list {K : PySem.W.Frag} {T : Sto} {H : Hp} {a : Addr} {xs : List V} {ds : List D} (h : ∀ T1 H1, Mv T H T1 H1 → SqL K H1 a xs) (r : RepL K H T xs ds) : Yl K (Itl K a) ds T H := by
  refine ⟨fun H => SqL K H a xs, YAt xs, by rw [← r.length]; exact walk_list, fun T1 H1 m => h T1 H1 m, fun i d S1 T1 H1 H2 x e m cl y => ?_⟩
  obtain ⟨e1, e2⟩ := y
  subst e1
  obtain ⟨v, e3, r'⟩ := r.get e
  rw [e2] at e3
  cases e3
  exact ⟨Mv.refl, cl, r'.mv m⟩
theorem SqL.mv {K : PySem.W.Frag} {S S' : Sto} {H H' : Hp} {a : Addr} {xs : List V} (m : Mv S H S' H') (s : S a = none) (h : SqL K H a xs) : SqL K H' a xs := by
  rcases h with (h | ⟨o, h⟩) | h
  · exact .inl (.inl (m.keep _ _ s h))
  · exact .inl (.inr ⟨o, m.keep _ _ s h⟩)
  · exact .inr h
/-- a list by value -/
inductive IsW : D → List D → Prop
  | v {ds : List D} : IsW (.lst ds) ds
  | r {ds : List D} : IsW (.rol ds) ds
theorem IsW.rd {K : PySem.W.Frag} {H : Hp} {x : D} {ds : List D} {u : V} (h : IsW x ds) (r : Rep K H S u x) : ∃ a xs, u = .ref a ∧ (∀ S' H', Mv S H S' H' → SqL K H' a xs) ∧ RepL K H S xs ds := by
  cases h with
  | v => obtain ⟨a, xs, e, s, h, r⟩ := r.seqL; exact ⟨a, xs, e, fun S' H' m => SqL.mv m s (.of h), r⟩
  | r => exact r.seqR
theorem vi_list {te : TE} {W : List D → Sto → Prop} (h : VE c te ρ S fun x S1 => ∃ ds, IsW x ds ∧ W ds S1) : VI c (iList c.K te) ρ S W := fun T σ H I R k =>
  h T σ H I _ fun vx x S1 T1 H1 m1 c1 r1 ⟨ds, hx, q⟩ => by
    obtain ⟨a, xs, rfl, hq, r⟩ := hx.rd r1
    exact ⟨a, rfl, ⟨xs, hq _ _ Mv.refl⟩, k _ ds S1 T1 H1 m1 c1 (yl_list hq r) q⟩
theorem SqT.mv {K : PySem.W.Frag} {H H' : Hp} {a : Addr} {xs : List V} (k : ∀ o, H a = some o → H' a = some o) (h : SqT K H a xs) : SqT K H' a xs := by
  rcases h with (h | ⟨o, h⟩) | h
  · exact .inl (.inl (k _ h))
  · exact .inl (.inr ⟨o, k _ h⟩)
  · exact .inr h
theorem vi_tup {te : TE} {W : List D → Sto → Prop} (h : VE c te ρ S fun x S1 => ∃ ds, x = .tup ds ∧ W ds S1) : VI c (iTup c.K te) ρ S W := fun T σ H I R k =>
  h T σ H I _ fun vx x S1 T1 H1 m1 c1 r1 ⟨ds, hx, q⟩ => by
    subst hx
    have fin : ∀ a xs, vx = .ref a → (∀ T2 H2, Mv T1 H1 T2 H2 → SqT c.K H2 a xs) → RepL c.K H1 T1 xs ds → iTup c.K te = iTup c.K te → ∃ b, vx = .ref b ∧ (∃ xs, SqT c.K H1 b xs) ∧ R (Itt c.K b) H1 := fun a xs e hq r _ => by
      refine ⟨a, e, ⟨xs, hq T1 H1 Mv.refl⟩, k _ ds S1 T1 H1 m1 c1 ⟨fun H => SqT c.K H a xs, YAt xs, by rw [← r.length]; exact walk_tup, hq, fun i d S2 T2 H2 H3 x e m cl y => ?_⟩ q⟩
      obtain ⟨e1, e2⟩ := y
      subst e1
      obtain ⟨v, e3, r'⟩ := r.get e
      rw [e2] at e3
      cases e3
      exact ⟨Mv.refl, cl, r'.mv m⟩
    cases r1 with
    | tup s h r => exact fin _ _ rfl (fun T2 H2 m => .inl (.inl (m.keep _ _ s h))) r rfl
    | tupK h r => exact fin _ _ rfl (fun T2 H2 m => .inr h) r rfl
def rngD (lo : Int) (n : Nat) : List D := (List.range n).map fun i => .int (lo + (i : Nat))
theorem rngD_len {lo : Int} {n : Nat} : (rngD lo n).length = n := by simp [rngD]
theorem rngD_get {lo : Int} {n i : Nat} {d : D} (h : (rngD lo n)[i]? = some d) : i < n ∧ d = .int (lo + (i : Nat)) := by
  unfold rngD at h
  rw [List.getElem?_map] at h
  cases e : (List.range n)[i]? with
  | none => rw [e] at h; cases h
  | some j =>
    rw [e] at h
    obtain ⟨h1, h2⟩ := List.getElem?_eq_some_iff.mp e
    rw [List.getElem_range] at h2
    subst h2
    cases h
    rw [List.length_range] at h1
    exact ⟨h1, rfl⟩
theorem yl_rng {K : PySem.W.Frag} {T : Sto} {H : Hp} {lo : Int} {n : Nat} : Yl K (Itr lo n) (rngD lo n) T H := by
  refine ⟨fun _ => True, YFn fun i => .int (lo + (i : Nat)), by rw [rngD_len]; exact walk_range, fun _ _ _ => trivial, fun i d S1 T1 H1 H2 x e m cl y => ?_⟩
  obtain ⟨e1, e2⟩ := y
  subst e1 e2
  obtain ⟨_, e3⟩ := rngD_get e
  subst e3
  exact ⟨Mv.refl, cl, .int _⟩
theorem vi_rng1 {ta : TA} {W : List D → Sto → Prop} (h : VA c ta ρ S fun es S1 => ∃ j : Int, es = [.int j] ∧ (-(2 ^ 62) ≤ j ∧ j < 2 ^ 62) ∧ W (rngD 0 j.toNat) S1) : VI c (iRng1 ta) ρ S W := fun T σ H I R k =>
  h T σ H I _ fun vs es S1 T1 H1 m1 c1 r1 ⟨j, e, ⟨hl, hh⟩, q⟩ => by
    subst e
    cases r1 with
    | cons h1 t => cases t; cases h1; exact ⟨j, rfl, hl, hh, k _ _ S1 T1 H1 m1 c1 yl_rng q⟩
/-- a text's signs -/
def signsD (x : Str) : List D := x.cps.toList.map fun n => .str ⟨#[n]⟩
theorem vi_str {te : TE} {W : List D → Sto → Prop} (h : VE c te ρ S fun x S1 => ∃ z, x = .str z ∧ W (signsD z) S1) : VI c (iStr te) ρ S W := fun T σ H I R k =>
  h T σ H I _ fun vx x S1 T1 H1 m1 c1 r1 ⟨z, e, q⟩ => by
    subst e
    cases r1
    refine ⟨z, rfl, k _ (signsD z) S1 T1 H1 m1 c1 ⟨fun _ => True, _, by rw [show (signsD z).length = z.cps.size by simp [signsD]]; exact walk_str, fun _ _ _ => trivial, fun i d S2 T2 H2 H3 x e m cl y => ?_⟩ q⟩
    obtain ⟨e1, n, e2, e3⟩ := y
    subst e1 e3
    unfold signsD at e
    rw [List.getElem?_map, Array.getElem?_toList, e2] at e
    cases e
    exact ⟨Mv.refl, cl, .str _⟩
def enumD (ds : List D) : List D := ds.zipIdx.map fun p => .tup [.int (p.2 : Nat), p.1]
theorem enumD_len {ds : List D} : (enumD ds).length = ds.length := by simp [enumD]
theorem enumD_get {ds : List D} {i : Nat} {d : D} (h : (enumD ds)[i]? = some d) : ∃ e, ds[i]? = some e ∧ d = .tup [.int (i : Nat), e] := by
  unfold enumD at h
  rw [List.getElem?_map, List.getElem?_zipIdx] at h
  cases e : ds[i]? with
  | none => rw [e] at h; cases h
  | some x =>
    rw [e] at h
    simp at h
    exact ⟨x, rfl, h.symm⟩
def zipD (ds es : List D) : List D := (ds.zip es).map fun p => .tup [p.1, p.2]
theorem zipD_len {ds es : List D} : (zipD ds es).length = min ds.length es.length := by simp [zipD]
theorem zipD_get {ds es : List D} {i : Nat} {d : D} (h : (zipD ds es)[i]? = some d) : ∃ a b, ds[i]? = some a ∧ es[i]? = some b ∧ d = .tup [a, b] := by
  unfold zipD at h
  rw [List.getElem?_map] at h
  cases e : (ds.zip es)[i]? with
  | none => rw [e] at h; cases h
  | some p =>
    rw [e] at h
    cases h
    obtain ⟨h1, h2⟩ := List.getElem?_zip_eq_some.mp e
    exact ⟨_, _, h1, h2, rfl⟩
theorem vi_zip {ta : TA} {W : List D → Sto → Prop} (h : VA c ta ρ S fun xs S1 => ∃ x y ds es, xs = [x, y] ∧ IsW x ds ∧ IsW y es ∧ W (zipD ds es) S1) : VI c (iZip c.K ta) ρ S W := fun T σ H I R k =>
  h T σ H I _ fun vs es S1 T1 H1 m1 c1 r1 ⟨x, y, ds, es', e, hx, hy, q⟩ => by
    subst e
    cases r1 with
    | cons h1 t => cases t with
      | cons h2 t =>
        cases t
        obtain ⟨a, xs, rfl, hq, r⟩ := hx.rd h1
        obtain ⟨b, ys, rfl, hq', r2⟩ := hy.rd h2
        refine ⟨a, b, xs, ys, rfl, hq _ _ Mv.refl, hq' _ _ Mv.refl, k _ (zipD ds es') S1 T1 H1 m1 c1 ⟨fun H => SqL c.K H a xs ∧ SqL c.K H b ys, _, walk_zip (by rw [zipD_len, r.length, r2.length]), fun T2 H2 m => ⟨hq T2 H2 m, hq' T2 H2 m⟩, fun i d S2 T2 H2 H3 y e m cl yy => ?_⟩ q⟩
        obtain ⟨T, u, w, e1, hT, e2, e3, e4⟩ := yy
        obtain ⟨p, p', e5, e6, e7⟩ := zipD_get e
        subst e1 e2 e7
        obtain ⟨v, e8, q1⟩ := r.get e5
        obtain ⟨v', e9, q2⟩ := r2.get e6
        have e3' : xs[i]? = some u := e3
        have e4' : ys[i]? = some w := e4
        rw [e3'] at e8
        rw [e4'] at e9
        cases e8
        cases e9
        exact ⟨mv_new hT, cl.new hT, .tup (cl.free hT) upd_same (.cons ((q1.mv m).mv (mv_new hT)) (.cons ((q2.mv m).mv (mv_new hT)) .nil))⟩
/-! ### for -/
theorem vx_for {wi : TI} {g : TG} {tb : TS} {nx bk ct : Rho → Sto → Prop} {rt : D → Sto → Prop}
    (h : VI c wi ρ S fun ds S1 => ∃ W : Nat → Rho → Sto → Prop, W 0 ρ S1 ∧ (∀ (i : Nat) (d : D) ρ2 S2, ds[i]? = some d → W i ρ2 S2 → VG c g d ρ2 S2 fun ρ3 S3 => VX c tb ρ3 S3 ⟨W (i + 1), rt, nx, W (i + 1)⟩) ∧ (∀ ρ2 S2, W ds.length ρ2 S2 → nx ρ2 S2)) :
    VX c (tFor wi g tb) ρ S ⟨nx, rt, bk, ct⟩ := fun T σ H I D b =>
  h T σ H I _ fun J ds S1 T1 H1 m1 c1 ⟨G, Y, w, hG, hY⟩ ⟨W, h0, hs, hd⟩ => by
    refine for_it w (fun i σ' H' => ∃ ρ2 S2 T2, Mv T1 H1 T2 H' ∧ In c σ' H' ρ2 S2 T2 ∧ W i ρ2 S2) ⟨ρ, S1, T1, Mv.refl, I.mv m1 c1, h0⟩ (fun i σ' H' _ ⟨ρ2, S2, T2, m, _, _⟩ => hG T2 H' m) ?_ ?_
    · rintro i x σ' H' H'' hi ⟨ρ2, S2, T2, m, I2, hw⟩ y
      obtain ⟨d, e⟩ : ∃ d, ds[i]? = some d := ⟨ds[i], List.getElem?_eq_getElem hi⟩
      obtain ⟨m3, c3, r3⟩ := hY i d S2 T2 H' H'' x e m I2.cells y
      refine hs i d ρ2 S2 e hw T2 x σ' H'' (I2.mv m3 c3) r3 _ fun σ3 ρ3 S3 T3 H3 m4 I3 q => ?_
      have mm := m.trans (m3.trans m4)
      have mb := m1.trans mm
      exact q T3 σ3 H3 I3 _ ⟨fun σ4 ρ4 S4 T4 H4 m5 I4 q4 => ⟨ρ4, S4, T4, mm.trans m5, I4, q4⟩, fun v d S4 T4 H4 m5 => b.rt v d S4 T4 H4 (mb.trans m5), fun σ4 ρ4 S4 T4 H4 m5 => b.nx σ4 ρ4 S4 T4 H4 (mb.trans m5), fun σ4 ρ4 S4 T4 H4 m5 I4 q4 => ⟨ρ4, S4, T4, mm.trans m5, I4, q4⟩⟩
    · rintro σ' H' ⟨ρ2, S2, T2, m, I2, hw⟩
      exact b.nx σ' ρ2 S2 T2 H' (m1.trans m) I2 (hd ρ2 S2 hw)
/-! ### comprehensions -/
def wipeR (ρ : Rho) : List Nat → Rho
  | [] => ρ
  | v :: vs => (wipeR ρ vs).set v none
theorem In.wipe {T : Sto} {σ : St} {H : Hp} (I : In c σ H ρ S T) : ∀ vs : List Nat, In c (L2.wipe σ vs) H (wipeR ρ vs) S T
  | [] => I
  | v :: vs => by
    have J := In.wipe I vs
    refine ⟨J.cells, fun j e q => ?_, by simp [L2.wipe, wipeR, J.len], J.exc⟩
    unfold wipeR at q
    by_cases z : v = j
    · subst z
      by_cases hv : v < (wipeR ρ vs).length
      · rw [List.getElem?_set_self hv] at q; cases q
      · rw [List.getElem?_eq_none (by simpa using hv)] at q; cases q
    · rw [List.getElem?_set_ne z] at q
      obtain ⟨u, h1, h2⟩ := J.slots j e q
      exact ⟨u, by unfold L2.wipe; rw [List.getElem?_set_ne z]; exact h1, h2⟩
theorem wipe_set_out {σ : St} {i : Nat} {x : Option V} : ∀ us : List Nat, i ∉ us → L2.wipe (σ.set i x) us = (L2.wipe σ us).set i x
  | [], _ => rfl
  | u :: us, hu => by
    simp only [List.mem_cons, not_or] at hu
    unfold L2.wipe
    rw [wipe_set_out us hu.2, List.set_comm _ _ hu.1]
theorem wipe_set {σ : St} {i : Nat} {x : Option V} : ∀ {vs : List Nat}, i ∈ vs → L2.wipe (σ.set i x) vs = L2.wipe σ vs
  | v :: vs, h => by
    unfold L2.wipe
    by_cases hm : i ∈ vs
    · rw [wipe_set hm]
    · have z : i = v := by
        rcases List.mem_cons.mp h with q | q
        · exact q
        · exact absurd q hm
      subst z
      rw [wipe_set_out vs hm, List.set_set]
theorem wipe_wipe {σ : St} (vs : List Nat) : ∀ us : List Nat, (∀ v ∈ us, v ∈ vs) → L2.wipe (L2.wipe σ us) vs = L2.wipe σ vs
  | [], _ => rfl
  | u :: us, h => by
    show L2.wipe ((L2.wipe σ us).set u none) vs = _
    rw [wipe_set (h u List.mem_cons_self), wipe_wipe vs us fun v hv => h v (List.mem_cons_of_mem _ hv)]
/-- the targets of a comprehension: they store its own names alone -/
def VGw (c : Ctx) (vs : List Nat) (g : TG) (d : D) (ρ : Rho) (S : Sto) (F : Rho → Sto → Prop) : Prop := ∀ T v σ H, In c σ H ρ S T → Rep c.K H T v d → ∀ Q : St → Hp → Prop,
  (∀ σ' ρ' S' T' H', L2.wipe σ' vs = L2.wipe σ vs → Mv T H T' H' → In c σ' H' ρ' S' T' → F ρ' S' → Q σ' H') → g v σ H Q
theorem vgw_name {vs : List Nat} {i : Nat} {F : Rho → Sto → Prop} (hi : i ∈ vs) (q : F (ρ.set i (some d)) S) : VGw c vs (gName i) d ρ S F := fun T v σ H I r Q k => k _ _ S T H (wipe_set hi) Mv.refl (I.set i r) q
def VGws (c : Ctx) (vs : List Nat) (g : TGs) (ds : List D) (ρ : Rho) (S : Sto) (F : Rho → Sto → Prop) : Prop := ∀ T us σ H, In c σ H ρ S T → RepL c.K H T us ds → ∀ Q : St → Hp → Prop,
  (∀ σ' ρ' S' T' H', L2.wipe σ' vs = L2.wipe σ vs → Mv T H T' H' → In c σ' H' ρ' S' T' → F ρ' S' → Q σ' H') → g us σ H Q
theorem vgws_nil {vs : List Nat} {F : Rho → Sto → Prop} (q : F ρ S) : VGws c vs gNil [] ρ S F := fun T us σ H I r Q k => by
  cases r; exact ⟨rfl, k σ ρ S T H rfl Mv.refl I q⟩
theorem vgws_cons {vs : List Nat} {g : TG} {gs : TGs} {ds : List D} {F : Rho → Sto → Prop} (h : VGw c vs g d ρ S fun ρ1 S1 => VGws c vs gs ds ρ1 S1 F) : VGws c vs (gCons g gs) (d :: ds) ρ S F := fun T us σ H I r Q k => by
  cases r with
  | cons h1 t => exact ⟨_, _, rfl, h T _ σ H I h1 _ fun σ1 ρ1 S1 T1 H1 e1 m1 I1 q => q T1 _ σ1 H1 I1 (t.mv m1) Q fun σ2 ρ2 S2 T2 H2 e2 m2 => k σ2 ρ2 S2 T2 H2 (e2.trans e1) (m1.trans m2)⟩
theorem vgw_tup {vs : List Nat} {n : Nat} {gs : TGs} {ds : List D} {F : Rho → Sto → Prop} (hn : ds.length = n) (h : VGws c vs gs ds ρ S F) : VGw c vs (gTup c.K n gs) (.tup ds) ρ S F := fun T v σ H I r Q k => by
  obtain ⟨a, xs, rfl, s, r⟩ := r.seqT
  exact ⟨a, xs, rfl, s, by rw [r.length]; exact hn, h T xs σ H I r Q k⟩
/-- the heart -/
theorem lc_heart {wi : TI} {g : TG} {tt : TT} {te : TE} {vs : List Nat} {R : List D → Sto → Prop}
    (h : VI c wi ρ S fun ds S1 => ds.length ≤ 100000 ∧ ∃ W : Nat → List D → Sto → Prop, W 0 [] S1 ∧ (∀ (i : Nat) (d : D) acc S2, ds[i]? = some d → W i acc S2 → acc.length ≤ i → VGw c vs g d (wipeR ρ vs) S2 fun ρ3 S3 => VT c tt ρ3 S3 fun b S4 => (b = true → VE c te ρ3 S4 fun y S5 => W (i + 1) (acc ++ [y]) S5) ∧ (b = false → W (i + 1) acc S4)) ∧
      (∀ acc S2, W ds.length acc S2 → acc.length ≤ ds.length → R acc S2)) {T : Sto} {σ : St} {H : Hp} (I : In c σ H ρ S T) {Q : VK}
    (k : ∀ p xs acc S' T' H' T1 H1, Mv T H T1 H1 → Mv T1 H1 T' H' → Cells c.K H' S' T' → T' p = some .hid → H1 p = none → H' p = some (.lst xs) → RepL c.K H' T' xs acc → R acc S' → Q (.ref p) H') : tLc wi g tt te vs σ H Q :=
  h T σ H I _ fun J ds S1 T1 H1 m1 c1 ⟨G, Y, w, hG, hY⟩ ⟨hl, W, h0, hs, hd⟩ => fun p hp => by
    refine lc_it w (fun i H' => ∃ S2 T2 xs acc, Mv T1 H1 T2 H' ∧ Cells c.K H' S2 T2 ∧ T2 p = some .hid ∧ H' p = some (.lst xs) ∧ RepL c.K H' T2 xs acc ∧ acc.length ≤ i ∧ W i acc S2)
      ⟨S1, put T1 p .hid, [], [], mv_newc hp, c1.newh hp, put_same, upd_same, .nil, Nat.le_refl _, h0⟩ (fun i H' _ ⟨S2, T2, _, _, m, _⟩ => hG T2 H' m) ?_ ?_
    · rintro i x H' H'' hi ⟨S2, T2, xs, acc, m, c2, s2, hx, r2, hle, hw⟩ y
      obtain ⟨d, e⟩ : ∃ d, ds[i]? = some d := ⟨ds[i], List.getElem?_eq_getElem hi⟩
      obtain ⟨m3, c3, r3⟩ := hY i d S2 T2 H' H'' x e m c2 y
      have I2 : In c σ H'' ρ S2 T2 := I.mv (m1.trans (m.trans m3)) c3
      refine hs i d acc S2 e hw hle T2 x (L2.wipe σ vs) H'' (I2.wipe vs) r3 _ fun σ3 ρ3 S3 T3 H3 ew m4 I3 q => ⟨ew.trans (wipe_wipe vs vs fun _ h => h), ?_⟩
      refine q T3 σ3 H3 I3 _ fun b S4 T4 H4 m5 c4 ⟨q1, q2⟩ => ?_
      have mm := m3.trans (m4.trans m5)
      cases b with
      | true =>
        refine iteT (q1 rfl T4 σ3 H4 (I3.mv m5 c4) _ fun v y S5 T5 H5 m6 c5 r5 q5 => ?_)
        have m7 := mm.trans m6
        obtain ⟨hx5, s5⟩ := m7.hid _ _ s2 hx
        refine ⟨xs, hx5, ?_, S5, T5, xs ++ [v], acc ++ [y], (m.trans m7).hidw hp, c5.hidw s5, s5, upd_same, ((r2.mv m7).append (.cons r5 .nil)).mk (mk_hid s5), ?_, q5⟩
        · rw [r2.length]
          exact Nat.lt_of_lt_of_le (show acc.length < 100001 by omega) (by decide)
        · rw [List.length_append, List.length_singleton]
          omega
      | false =>
        obtain ⟨hx5, s5⟩ := mm.hid _ _ s2 hx
        exact iteF ⟨S4, T4, xs, acc, m.trans mm, c4, s5, hx5, r2.mv mm, by omega, q2 rfl⟩
    · rintro H' ⟨S2, T2, xs, acc, m, c2, s2, hx, r2, hle, hw⟩
      exact k p xs acc S2 T2 H' T1 H1 m1 m c2 s2 hp hx r2 (hd acc S2 hw hle)
theorem Mv.unhid {S S' : Sto} {H H' : Hp} {p : Addr} (m : Mv S H S' H') (h : H p = none) : Mv S H (del S' p) H' where
  keep := m.keep
  fresh := fun a s e => by
    unfold del
    split
    · rfl
    · exact m.fresh a s e
  hid := fun a o s e => by
    obtain ⟨e1, e2⟩ := m.hid a o s e
    refine ⟨e1, ?_⟩
    rw [del_ne (ne_of_none e h)]
    exact e2
theorem Mv.show {S S' : Sto} {H H' : Hp} {p : Addr} {d : D} (m : Mv S H S' H') (h : H p = none) : Mv S H (put S' p d) H' where
  keep := m.keep
  fresh := fun a s e => by
    rw [put_ne]
    · exact m.fresh a s e
    · intro z; subst z; exact e h
  hid := fun a o s e => by
    obtain ⟨e1, e2⟩ := m.hid a o s e
    refine ⟨e1, ?_⟩
    rw [put_ne (ne_of_none e h)]
    exact e2
theorem Cells.show {K : PySem.W.Frag} {S T : Sto} {H : Hp} {p : Addr} {xs : List V} {ds : List D} (cl : Cells K H S T) (s : T p = some .hid) (hx : H p = some (.lst xs)) (r : RepL K H T xs ds) : Cells K H (put S p (.lst ds)) (put T p (.lst ds)) := by
  have m : Mk T H (put T p (.lst ds)) H := by
    refine ⟨fun _ _ _ h => h, fun a q _ => ?_⟩
    rw [put_ne]
    · exact q
    · intro z; subst z; rw [s] at q; cases q
  refine ⟨ov_put cl.ov (by nofun), fun a e q => ?_⟩
  by_cases z : a = p
  · subst z; rw [put_same] at q; cases q; exact cell_l hx (r.mk m)
  · rw [put_ne z] at q
    exact CellOk.mk m rfl (cl.ok a e q)
/-- [e for x in xs if t], by value -/
theorem ve_lc {wi : TI} {g : TG} {tt : TT} {te : TE} {vs : List Nat}
    (h : VI c wi ρ S fun ds S1 => ds.length ≤ 100000 ∧ ∃ W : Nat → List D → Sto → Prop, W 0 [] S1 ∧ (∀ (i : Nat) (d : D) acc S2, ds[i]? = some d → W i acc S2 → acc.length ≤ i → VGw c vs g d (wipeR ρ vs) S2 fun ρ3 S3 => VT c tt ρ3 S3 fun b S4 => (b = true → VE c te ρ3 S4 fun y S5 => W (i + 1) (acc ++ [y]) S5) ∧ (b = false → W (i + 1) acc S4)) ∧
      (∀ acc S2, W ds.length acc S2 → acc.length ≤ ds.length → F (.lst acc) S2)) : VE c (tLc wi g tt te vs) ρ S F := fun T σ H I Q k =>
  lc_heart (R := fun acc S2 => F (.lst acc) S2) h I fun p xs acc S' T' H' T1 H1 m1 m cl s n hx r q => by
    exact k _ (.lst acc) S' (del T' p) H' (m1.trans (m.unhid n)) (cl.unhid s) (.lst del_same hx (r.mk (mk_show s))) q
/-- .. by reference -/
theorem ve_lcc {wi : TI} {g : TG} {tt : TT} {te : TE} {vs : List Nat}
    (h : VI c wi ρ S fun ds S1 => ds.length ≤ 100000 ∧ ∃ W : Nat → List D → Sto → Prop, W 0 [] S1 ∧ (∀ (i : Nat) (d : D) acc S2, ds[i]? = some d → W i acc S2 → acc.length ≤ i → VGw c vs g d (wipeR ρ vs) S2 fun ρ3 S3 => VT c tt ρ3 S3 fun b S4 => (b = true → VE c te ρ3 S4 fun y S5 => W (i + 1) (acc ++ [y]) S5) ∧ (b = false → W (i + 1) acc S4)) ∧
      (∀ acc S2, W ds.length acc S2 → acc.length ≤ ds.length → ∀ p, S2 p = none → F (.ref p) (put S2 p (.lst acc)))) : VE c (tLc wi g tt te vs) ρ S F := fun T σ H I Q k =>
  lc_heart (R := fun acc S2 => ∀ p, S2 p = none → F (.ref p) (put S2 p (.lst acc))) h I fun p xs acc S' T' H' T1 H1 m1 m cl s n hx r q => by
    have sp : S' p = none := by
      rcases cl.ov p with ⟨_, e⟩ | ⟨e, _⟩
      · exact absurd s e
      · exact e
    exact k _ _ _ (put T' p (.lst acc)) H' (m1.trans (m.show n)) (cl.show s hx r) (.ref p) (q p sp)
end
end VS
namespace VS
open PySem L2 C8 PySem.Spec PyProof.Rows
/-! ### a def's promise where nothing is being shown around (repr asks that) -/
structure FnG (P : Program) (w : World) (K : PySem.W.Frag) (mg : Str → Option Value) (base : Heap) (CX : CXT) (k : Nat) (f : Addr) (fd : FuncData) (ps : List Str) (sp : Sp) : Prop where
  len : ∀ vs H Q E, sp vs H Q E → vs.length = ps.length
  run : ∀ (A : Around), A.guards = some [] → ∀ (outer : List Env) (s : Shared) (H : Hp) (args : Args) (us : List Value) (vs : List V) (Q : VK) (E : XK), Room k A →
    Env0 P w K mg base A outer s H → BindsTo s fd args (ps.zip us) → Vals vs us → sp vs H Q E → codeAny (model P w) A (.call (.ref f) args) (CR CX outer P w H s Q E) s
abbrev Fd (K : PySem.W.Frag) (x qual : Str) (st : Stmt) (dvs : List V) (f : Addr) (fd : FuncData) : Prop := FunD K x qual (defArgs st) (defBody st) (defScope st) dvs [] f fd
/-- what a callee lets out is taken, at the slots as they are -/
def PassS (CX : CXT) (X : Cx) (E : L2.St → XK) : Prop := ∀ (pins : List (Addr × Obj)) (σ : L2.St) (H : Hp) (s : Shared) (e : Value) (s' : Shared), Inv X pins σ H s → CX X.stack H s (E σ) e s' → X.xe e s'
theorem passS_of {X : Cx} {W : WX} (tk : Takes X W) : PassS (L2.CX X.prog X.w) X (fun σ cls d H => W cls d σ H) := fun _ σ _ _ e s' I c => tk e s' (XE.of_call I (fun _ _ _ h => h) c)
/-- nothing is let out -/
def noE : L2.St → XK := fun _ _ _ _ => False
theorem pass0 {X : Cx} : PassS (L2.CX X.prog X.w) X noE := fun _ _ _ _ _ _ _ h => by
  obtain ⟨_, _, _, _, _, _, _, _, _, _, _, _, z⟩ := h
  exact z.elim
section
variable {P : Program} {w : World} {K : PySem.W.Frag} {mg : Str → Option Value} {base : Heap} {CX : CXT}
/-- a def by its body -/
theorem fnG_of {x qual : Str} {st : Stmt} {dvs : List V} {f : Addr} {fd : FuncData} {N ps : List Str} {k : Nat} {sp : Sp} (F : Fd K x qual st dvs f fd) (Sc : FnScope N ps (defScope st)) (len : ∀ vs H Q E, sp vs H Q E → vs.length = ps.length)
    (body : ∀ (cdv : Value) (A : Around), A.guards = some [] → ∀ (outer : List Env) (s : Shared) (H : Hp) (vs : List V) (Q : VK) (E : XK), Room k (A.deeper (envOfC qual (defScope st) s.heap.objs.size f cdv)) → sp vs H Q E →
      ∃ t, PSs (cxOf CX P w K mg base N qual (defScope st) f cdv A outer s H E) (defBody st) t ∧ t ⟨fun _ H' => Q .non H', Q, fun _ _ => False, fun _ _ => False⟩ (L2.start N vs) H) : FnG P w K mg base CX (k + 1) f fd ps sp := by
  obtain ⟨oc, od, dV, kV, doc, pm, an, cdv, ct, osl, rfl, lk, hcd, _, _⟩ := F.ex
  refine ⟨len, fun A hgd outer s H args us vs Q E room en hb rv hsp => ?_⟩
  have heap_in : K.In s.heap := en.mod.kin.keeps fun b o e => (en.bs b o e).1
  have nolim : s.heap.NoLimit := en.mod.nolimit.keeps fun b o e => (en.bs b o e).1
  refine codeAny_call_function room.depth (heap_in _ _ lk) rfl Sc.co Sc.gen rfl (PySem.W.codeRec_of heap_in hcd) (hb _ _ _ _ ?_)
  have kinds : ∀ y ∈ ps.zip us, (defScope st).names.lookup y.1 = some .local ∨ ((defScope st).names.lookup y.1 = some .cell ∧ ((cellsFrom (s.heap.objs.size + 1) (defScope st).names []).lookup y.1).isSome = true) := by
    rintro ⟨n, v⟩ hy
    cases Sc.par n (List.of_mem_zip hy).1 with
    | inl q => exact .inl q
    | inr q => exact .inr ⟨q, PySem.W.cellsFrom_some _ _ _ (.inl q)⟩
  refine wpAny_newFunctionEnv_cells Sc.kind kinds fun env he s1 inc => ?_
  subst he
  obtain ⟨t, ht, hq⟩ := body cdv A hgd outer s H vs Q E (room.deeper _) hsp
  refine ⟨nolim.keeps inc.toInCall.keep, codeAny_func (wpAny_mono (ht.run [] s1 (L2.start N vs) H _ (inv_start Sc room.hd en (len _ _ _ _ hsp) rv inc) hq) (fun fl s2 hs => ?_) fun _ _ q => q)⟩
  cases fl with
  | next => obtain ⟨σ2, H2, J, q⟩ := hs; exact ⟨.non, H2, J.os, J.bare, J.base, J.hok, rfl, q⟩
  | ret u => obtain ⟨v, σ2, H2, J, r2, q⟩ := hs; exact ⟨v, H2, J.os, J.bare, J.base, J.hok, r2, q⟩
  | brk => obtain ⟨_, _, _, q⟩ := hs; exact q.elim
  | cont => obtain ⟨_, _, _, q⟩ := hs; exact q.elim
/-- .. by value -/
def startR (N : List Str) (ds : List D) : Rho := ds.map some ++ List.replicate (N.length - ds.length) none
theorem in_start {c : Ctx} {N : List Str} {vs : List V} {ds : List D} {S T : Sto} {H : Hp} (cl : Cells c.K H S T) (r : RepL c.K H T vs ds)
    (ex : ∀ (σ' : L2.St) (ρ' : Rho) (C : Addr) (d : Option Addr) (fs : List (Str × D)) (S' T' : Sto) (H' : Hp), Mv T H T' H' → Cells c.K H' S' T' → Sl c.K H' T' σ' ρ' → XRep c.K H' T' d fs → c.Y C fs ρ' S' → c.E σ' (.ref C) d H') : In c (L2.start N vs) H (startR N ds) S T := by
  refine ⟨cl, fun i d e => ?_, by simp [L2.start, startR, r.length], ex⟩
  unfold startR at e
  by_cases hi : i < ds.length
  · rw [List.getElem?_append_left (by simpa using hi), List.getElem?_map] at e
    cases q : ds[i]? with
    | none => rw [q] at e; cases e
    | some d' =>
      rw [q] at e
      cases e
      obtain ⟨v, h1, h2⟩ := r.get q
      refine ⟨v, ?_, h2⟩
      unfold L2.start
      rw [List.getElem?_append_left (by rw [List.length_map, r.length]; exact hi), List.getElem?_map, h1] <;> rfl
  · rw [List.getElem?_append_right (by simpa using Nat.le_of_not_lt hi), List.getElem?_replicate] at e
    split at e <;> cases e
theorem fn_val {x qual : Str} {st : Stmt} {dvs : List V} {f : Addr} {fd : FuncData} {N ps : List Str} {k : Nat} {p : Pt} (F : Fd K x qual st dvs f fd) (Sc : FnScope N ps (defScope st)) (len : ∀ ds S G Y, p ds S G Y → ds.length = ps.length)
    (body : ∀ (cdv : Value) (A : Around), A.guards = some [] → ∀ (outer : List Env) (s : Shared) (H : Hp) (E : XK), Room k (A.deeper (envOfC qual (defScope st) s.heap.objs.size f cdv)) →
      PassS (L2.CX P w) (cxOf (L2.CX P w) P w K mg base N qual (defScope st) f cdv A outer s H E) (fun _ => E) → Takes (cxOf (L2.CX P w) P w K mg base N qual (defScope st) f cdv A outer s H E) (fun cls d _ H' => E cls d H') →
      PassesOwn (model P w) (A.deeper (envOfC qual (defScope st) s.heap.objs.size f cdv)) (envOfC qual (defScope st) s.heap.objs.size f cdv) (cxOf (L2.CX P w) P w K mg base N qual (defScope st) f cdv A outer s H E).xe → ∀ ds S G Y, p ds S G Y →
      ∃ t, PSs (cxOf (L2.CX P w) P w K mg base N qual (defScope st) f cdv A outer s H E) (defBody st) t ∧ VX ⟨K, fun _ => E, fun C fs _ S' => Y C fs S'⟩ t (startR N ds) S ⟨fun _ S' => G .non S', G, fun _ _ => False, fun _ _ => False⟩) : FnG P w K mg base (L2.CX P w) (k + 1) f fd ps (spOf K p) := by
  refine fnG_of F Sc (fun vs H Q E h => ?_) fun cdv A hgd outer s H vs Q E room h => ?_
  · obtain ⟨ds, S, T, G, Y, r, _, hp, _⟩ := h
    rw [r.length]
    exact len _ _ _ _ hp
  · obtain ⟨ds, S, T, G, Y, r, cl, hp, hv, hx⟩ := h
    have tk : Takes (cxOf (L2.CX P w) P w K mg base N qual (defScope st) f cdv A outer s H E) (fun cls d _ H' => E cls d H') := takes_of rfl rfl rfl rfl
    obtain ⟨t, h1, h2⟩ := body cdv A hgd outer s H E room (passS_of tk) tk PassesOwn.leaving ds S G Y hp
    refine ⟨t, h1, h2 T _ H (in_start (c := ⟨K, fun _ => E, fun C fs _ S' => Y C fs S'⟩) cl r (fun _ _ C d fs S' T' H' m c2 _ x y => hx C d fs S' T' H' m c2 x y)) _ ⟨fun σ' ρ' S' T' H' m I' q => ?_, fun v d S' T' H' m c2 r2 q => hv v d S' T' H' m c2 r2 q, fun _ _ _ _ _ _ _ q => q.elim, fun _ _ _ _ _ _ _ q => q.elim⟩⟩
    exact hv .non .non S' T' H' m I'.cells .non q
end
/-! ### calls -/
def tCallE (sp : Sp) (dvs : List V) (E : L2.St → XK) (t : TA) : TE := fun σ H Q => t σ H fun vs H1 => sp (vs ++ dvs) H1 Q (E σ)
def tMethE (C : Addr) (m : Str) (sp : Sp) (dvs : List V) (E : L2.St → XK) (ta : TE) (t : TA) : TE := fun σ H Q => ta σ H fun y H1 => ∃ a dx fs, y = .ref a ∧ H1 a = some (.ins C dx fs) ∧ fs.lookup m = none ∧ t σ H1 fun vs H2 => sp (y :: (vs ++ dvs)) H2 Q (E σ)
def tMakeE (C : Addr) (sp : Sp) (dvs : List V) (E : L2.St → XK) (t : TA) : TE := fun σ H Q => t σ H fun vs H1 => ∀ y dx, H1 y = none → H1 dx = none → dx ≠ y →
  sp (.ref y :: (vs ++ dvs)) (upd (upd H1 dx (.own y)) y (.ins C dx [])) (fun v H2 => v = .non ∧ Q (.ref y) H2) (E σ)
section
variable {X : Cx} {CX : CXT} {k n : Nat} {f C : Addr} {fd : FuncData} {ps ks : List Str} {sp : Sp} {dvs : List V} {ds : List Value} {E : L2.St → XK} {x m : Str} {p pos apos : Pos} {e o : Expr} {es : List Expr} {kws : List Keyword} {ta : TE} {t tk : TA} {g : List Value → List Value → List Value} {gV : List V → List V → List V}
theorem call_end {pins : List (Addr × Obj)} {σ : L2.St} {H : Hp} {s s' : Shared} {Q : VK} {r : Result} (hx : PassS CX X E) (I : Inv X pins σ H s) (h : CR CX X.stack X.prog X.w H s Q (E σ) r s') :
    (match r with | .ok (.ret u) => EP X pins σ Q u s' | .ok _ => False | .error e => X.xe e s') := by
  cases r with
  | error e => exact hx pins σ H s e s' I h
  | ok fl =>
    cases fl with
    | ret u => exact I.after h
    | next => exact h
    | brk => exact h
    | cont => exact h
/-- the callee runs: us the values as handed, vs the values as bound -/
theorem callG {pins : List (Addr × Obj)} {σ : L2.St} {H : Hp} {s : Shared} {Q : VK} {us bs : List Value} {kw : List (Str × Value)} {vs : List V} (F : FnG X.prog X.w X.K X.mg X.base CX k f fd ps sp) (hgd : X.A.guards = some []) (hr : Room k X.A)
    (hb : BindsTo s fd ⟨us, kw⟩ (ps.zip bs)) (hx : PassS CX X E) (I : Inv X pins σ H s) (r : Vals vs bs) (h : sp vs H Q (E σ)) : wpAny (model X.prog X.w) X.A (call (.ref f) us kw) (EP X pins σ Q) X.xe s :=
  wpAny_call (codeAny_mono (F.run X.A hgd X.stack s H ⟨us, kw⟩ bs vs Q (E σ) hr I.env0 hb r h) fun r s' q => by
    have z := call_end hx I q
    cases r with
    | error e => exact z
    | ok fl => cases fl <;> exact z)
theorem bindsAt {fd : FuncData} {K : PySem.W.Frag} {s : Shared} {us : List Value} {vs : List V} (hb : Binds K fd ps ds) (hd : Vals dvs ds) (X : K.In s.heap) (r : Vals vs us) (hl : (vs ++ dvs).length = ps.length) : BindsTo s fd ⟨us, []⟩ (ps.zip (us ++ ds)) :=
  hb s us X ((r.append hd).length.symm.trans hl)
/-- f(e, ..) -/
theorem pe_cG (F : FnG X.prog X.w X.K X.mg X.base CX k f fd ps sp) (hgd : X.A.guards = some []) (hr : Room k X.A) (hg : Gl X x) (hm : X.mg x = some (.ref f)) (hk : PySem.W.keepIn X.K (.ref f) = true) (hb : Binds X.K fd ps ds) (hd : Vals dvs ds) (hx : PassS CX X E)
    (ha : PA X (e :: es) t) (hdb : (x == ("__debug__" : Str)) = false := by decide) (he : starEach (e :: es) X.env = (false, eval e X.env) :: starEach es X.env := by rfl) (hpl : (backTo pos (starEach es X.env)).any (·.1) = false := by rfl) :
    PE X (.Call (.Name x p) (e :: es) [] pos) (tCallE sp dvs E t) where
  run := fun pins s σ H Q I h => wpAny_Call_Name_kw (ld_glob I hg hm (PySem.W.callWith_K (h₀ := X.base) I.ok.mod.kin hk (thn (ha.run pos pins s σ H _ I h) fun us s1 ⟨vs, H1, I1, r, q⟩ =>
    ⟨I1.kIn, callG F hgd hr (bindsAt hb hd I1.kIn r (F.len _ _ _ _ q)) hx I1 (r.append hd) q⟩) he hpl) hdb)
/-- o.m(e, ..) -/
theorem pe_mG {pl : Sem Bool} (he : PE X o ta) (c : Cls X.K C) (hm : Meth X.K C m f) (F : FnG X.prog X.w X.K X.mg X.base CX k f fd ps sp) (hgd : X.A.guards = some []) (hr : Room k X.A) (hb : Binds X.K fd ps ds) (hd : Vals dvs ds) (hx : PassS CX X E) (ha : PA X (e :: es) t)
    (hst : starEach (e :: es) X.env = (false, eval e X.env) :: starEach es X.env := by rfl) (hpl : (backTo pos (starEach es X.env)).any (·.1) = false := by rfl)
    (ht : eval (.Call (.Attribute o m apos) (e :: es) [] pos) X.env = (do
      let recv ← eval o X.env
      standAt apos.atName
      let (fn, ahead) ← holding [recv] (getMethod recv m pl)
      callWith pos fn ahead (backTo pos (starEach (e :: es) X.env)) (backToKw pos (keywordEach [] X.env))) := by rfl) :
    PE X (.Call (.Attribute o m apos) (e :: es) [] pos) (tMethE C m sp dvs E ta t) where
  run := fun pins s σ H Q I h => by
    refine PySem.W.methodCall_KW (pl := pl) (thn (he.run pins s σ H _ I h) fun u s1 ⟨y, H1, I1, ry, a, dx, fs, ey, ea, l, q⟩ => ?_) ht
    subst ey
    cases ry
    refine getmeth_ok I1 ea c hm l (PySem.W.callWith_K (first := [.ref a]) (h₀ := X.base) I.ok.mod.kin hm.kp (thn (ha.run pos pins s1 σ H1 _ I1 q) fun us s2 ⟨vs, H2, I2, r, q2⟩ => ⟨I2.kIn, ?_⟩) hst hpl)
    exact callG F hgd hr (bindsAt (vs := .ref a :: vs) (us := .ref a :: us) hb hd I2.kIn (.cons rfl r) (F.len _ _ _ _ q2)) hx I2 (vs := .ref a :: (vs ++ dvs)) (.cons rfl (r.append hd)) q2
theorem pe_mG0 {pl : Sem Bool} (he : PE X o ta) (c : Cls X.K C) (hm : Meth X.K C m f) (F : FnG X.prog X.w X.K X.mg X.base CX k f fd ps sp) (hgd : X.A.guards = some []) (hr : Room k X.A) (hb : Binds X.K fd ps ds) (hd : Vals dvs ds) (hx : PassS CX X E)
    (ht : eval (.Call (.Attribute o m apos) [] [] pos) X.env = (do
      let recv ← eval o X.env
      standAt apos.atName
      let (fn, ahead) ← holding [recv] (getMethod recv m pl)
      callWith pos fn ahead (backTo pos (starEach [] X.env)) (backToKw pos (keywordEach [] X.env))) := by rfl) :
    PE X (.Call (.Attribute o m apos) [] [] pos) (tMethE C m sp dvs E ta tNil) where
  run := fun pins s σ H Q I h => by
    refine PySem.W.methodCall_KW (pl := pl) (thn (he.run pins s σ H _ I h) fun u s1 ⟨y, H1, I1, ry, a, dx, fs, ey, ea, l, q⟩ => ?_) ht
    subst ey
    cases ry
    refine getmeth_ok I1 ea c hm l ?_
    exact PySem.W.callWith_K0 (first := [.ref a]) I1.kIn hm.kp (callG F hgd hr (bindsAt (vs := [.ref a]) (us := [.ref a]) hb hd I1.kIn (.cons rfl .nil) (F.len _ _ _ _ q)) hx I1 (vs := .ref a :: dvs) (.cons rfl hd) q)
/-- C(e, ..): the instance is made, __init__ runs; bs: the values as bound -/
theorem made_guards {A : Around} {us : List Value} {kw : List (Str × Value)} (h : A.guards = some []) : (A.under (.builtin "type.__call__" ⟨.ref C :: us, kw⟩)).guards = some [] := by
  have e : (Code.builtin "type.__call__" ⟨.ref C :: us, kw⟩).guards = [] := rfl
  show pushGuards (Code.builtin "type.__call__" ⟨.ref C :: us, kw⟩).guards A.guards = some []
  rw [e, h] <;> rfl
theorem makeG {pins : List (Addr × Obj)} {σ : L2.St} {H : Hp} {s : Shared} {Q : VK} {us : List Value} {kw : List (Str × Value)} {bs : Value → List Value} {bv : V → List V} (M : L2.Mk X.K C f) (F : FnG X.prog X.w X.K X.mg X.base CX k f fd ps sp) (hgd : X.A.guards = some []) (hr : Room (k + 1) X.A)
    (hb : ∀ y s', X.K.In s'.heap → (bv (.ref y)).length = ps.length → BindsTo s' fd ⟨.ref y :: us, kw⟩ (ps.zip (bs (.ref y)))) (hx : PassS CX X E) (I : Inv X pins σ H s) (r : ∀ y, Vals (bv (.ref y)) (bs (.ref y)))
    (h : ∀ y dx, H y = none → H dx = none → dx ≠ y → sp (bv (.ref y)) (upd (upd H dx (.own y)) y (.ins C dx [])) (fun v H2 => v = .non ∧ Q (.ref y) H2) (E σ)) : wpAny (model X.prog X.w) X.A (call (.ref C) us kw) (EP X pins σ Q) X.xe s := by
  have hs := h (s.heap.objs.size + 1) s.heap.objs.size (I.hok.fresh (Nat.le_succ _)) (I.hok.fresh (Nat.le_refl _)) (Nat.ne_of_lt (Nat.lt_succ_self _))
  have J := Inv.made (C := C) I
  have bd := hb (s.heap.objs.size + 1) _ J.kIn (F.len _ _ _ _ hs)
  refine wpAny_call (make_map (f := f) I.kIn M.makes M.init (beq_iff_eq.mp M.fn) (codeAny_mono (F.run _ (made_guards hgd) X.stack _ _ ⟨Value.ref (s.heap.objs.size + 1) :: us, kw⟩ _ _ _ (E σ) (hr.make C us kw) (J.env0.make C us kw) bd (r _) hs) fun rr s' q => ?_))
  have z := call_end hx J q
  cases rr with
  | error e => exact z
  | ok fl =>
    cases fl with
    | ret u =>
      obtain ⟨v, H3, I3, rv, ev, q3⟩ := z
      subst ev
      exact ⟨rv, V.ref (s.heap.objs.size + 1), H3, I3, rfl, q3⟩
    | next => exact z
    | brk => exact z
    | cont => exact z
theorem pe_kG (M : L2.Mk X.K C f) (F : FnG X.prog X.w X.K X.mg X.base CX k f fd ps sp) (hgd : X.A.guards = some []) (hr : Room (k + 1) X.A) (hg : Gl X x) (hm : X.mg x = some (.ref C)) (hb : Binds X.K fd ps ds) (hd : Vals dvs ds) (hx : PassS CX X E)
    (ha : PA X (e :: es) t) (hdb : (x == ("__debug__" : Str)) = false := by decide) (he : starEach (e :: es) X.env = (false, eval e X.env) :: starEach es X.env := by rfl) (hpl : (backTo pos (starEach es X.env)).any (·.1) = false := by rfl) :
    PE X (.Call (.Name x p) (e :: es) [] pos) (tMakeE C sp dvs E t) where
  run := fun pins s σ H Q I h => wpAny_Call_Name_kw (ld_glob I hg hm (PySem.W.callWith_K (h₀ := X.base) I.ok.mod.kin M.kp (thn (ha.run pos pins s σ H _ I h) fun us s1 ⟨vs, H1, I1, r, q⟩ =>
    ⟨I1.kIn, makeG (bs := fun y => y :: (us ++ ds)) (bv := fun y => y :: (vs ++ dvs)) M F hgd hr (fun y s' ki hl => bindsAt (vs := .ref y :: vs) (us := .ref y :: us) hb hd ki (.cons rfl r) hl) hx I1 (fun y => .cons rfl (r.append hd)) q⟩) he hpl) hdb)
theorem pe_kG0 (M : L2.Mk X.K C f) (F : FnG X.prog X.w X.K X.mg X.base CX k f fd ps sp) (hgd : X.A.guards = some []) (hr : Room (k + 1) X.A) (hg : Gl X x) (hm : X.mg x = some (.ref C)) (hb : Binds X.K fd ps ds) (hd : Vals dvs ds) (hx : PassS CX X E)
    (hdb : (x == ("__debug__" : Str)) = false := by decide) : PE X (.Call (.Name x p) [] [] pos) (tMakeE C sp dvs E tNil) where
  run := fun pins s σ H Q I h => wpAny_Call_Name_kw (ld_glob I hg hm (PySem.W.callWith_K0 I.kIn M.kp
    (makeG (us := []) (bs := fun y => y :: ([] ++ ds)) (bv := fun y => y :: ([] ++ dvs)) M F hgd hr (fun y s' ki hl => bindsAt (vs := [.ref y]) (us := [.ref y]) hb hd ki (.cons rfl .nil) hl) hx I (fun y => .cons rfl hd) h)) hdb)
end
/-! ### calls by value -/
section
variable {c : Ctx} {ρ : Rho} {S : Sto} {F : D → Sto → Prop} {d : D}
/-- what is wanted of a callee's exception: what the caller wishes, or nothing is raised -/
inductive XOk (c : Ctx) (ρ : Rho) : (L2.St → XK) → (Addr → List (Str × D) → Sto → Prop) → Prop
  | same {Y : Addr → List (Str × D) → Sto → Prop} (h : ∀ C fs S, Y C fs S → c.Y C fs ρ S) : XOk c ρ c.E Y
  | none {E : L2.St → XK} : XOk c ρ E noY
theorem XOk.ok {c : Ctx} {E : L2.St → XK} {Y : Addr → List (Str × D) → Sto → Prop} {ρ : Rho} (x : XOk c ρ E Y) {σ : L2.St} {H : Hp} {S T : Sto} (I : In c σ H ρ S T) :
    ∀ (C : Addr) (y : Option Addr) (fs : List (Str × D)) (S' T' : Sto) (H' : Hp), Mv T H T' H' → Cells c.K H' S' T' → XRep c.K H' T' y fs → Y C fs S' → E σ (.ref C) y H' := by
  cases x with
  | same h => exact fun C y fs S' T' H' m cl x q => I.exc σ ρ C y fs S' T' H' m cl (I.mv m cl).sl x (h C fs S' q)
  | none => exact fun _ _ _ _ _ _ _ _ _ z => z.elim
theorem ve_f {p : Pt} {E : L2.St → XK} {Y} {t : TA} (x : XOk c ρ E Y) (h : VA c t ρ S fun ds S1 => p ds S1 F Y) : VE c (tCallE (spOf c.K p) [] E t) ρ S F := fun T σ H I Q k =>
  h T σ H I _ fun us ds S1 T1 H1 m1 c1 r1 h1 => ⟨ds, S1, T1, F, Y, by rw [List.append_nil]; exact r1, c1, h1, fun v d S2 T2 H2 m2 c2 r2 q => k v d S2 T2 H2 (m1.trans m2) c2 r2 q, x.ok (I.mv m1 c1)⟩
theorem ve_fd {p : Pt} {E : L2.St → XK} {Y} {t : TA} {dvs : List V} {dds : List D} (x : XOk c ρ E Y) (hd : ∀ H T, RepL c.K H T dvs dds) (h : VA c t ρ S fun ds S1 => p (ds ++ dds) S1 F Y) : VE c (tCallE (spOf c.K p) dvs E t) ρ S F := fun T σ H I Q k =>
  h T σ H I _ fun us ds S1 T1 H1 m1 c1 r1 h1 => ⟨ds ++ dds, S1, T1, F, Y, r1.append (hd _ _), c1, h1, fun v d S2 T2 H2 m2 c2 r2 q => k v d S2 T2 H2 (m1.trans m2) c2 r2 q, x.ok (I.mv m1 c1)⟩
/-- an instance, by value or by reference -/
inductive IsI (S : Sto) : D → Addr → List (Str × D) → Prop
  | v {C : Addr} {fs : List (Str × D)} : IsI S (.ins C fs) C fs
  | c {l C : Addr} {fs : List (Str × D)} (h : S l = some (.ins C fs)) : IsI S (.ref l) C fs
theorem IsI.rd {K : PySem.W.Frag} {H : Hp} {T : Sto} {x : D} {C : Addr} {ds : List (Str × D)} {u : V} (h : IsI S x C ds) (cl : Cells K H S T) (r : Rep K H T u x) : ∃ a dx fs, u = .ref a ∧ H a = some (.ins C dx fs) ∧ RepF K H T fs ds := by
  cases h with
  | v => cases r with | ins s h r => exact ⟨_, _, _, rfl, h, r⟩
  | c h => cases r; obtain ⟨dx, fs, h1, r⟩ := cl.ok _ _ (cl.at h); exact ⟨_, dx, fs, rfl, h1, r⟩
theorem ve_fld {ta : TE} {f : Str} (h : VE c ta ρ S fun x S1 => ∃ C fs e, IsI S1 x C fs ∧ Cls c.K C ∧ NoAttr c.K C f ∧ fs.lookup f = some e ∧ F e S1) : VE c (tFld c.K ta f) ρ S F := fun T σ H I Q k =>
  h T σ H I _ fun vx x S1 T1 H1 m1 c1 r1 ⟨C, fs, e, hi, hc, hn, hl, q⟩ => by
    obtain ⟨a, dx, fv, rfl, ha, r⟩ := hi.rd c1 r1
    obtain ⟨v, h1, h2⟩ := r.lookup hl
    exact ⟨a, C, dx, fv, v, rfl, ha, hc, hn, h1, k v e S1 T1 H1 m1 c1 h2 q⟩
theorem vx_fld {ta tv : TE} {f : Str} {nx bk ct : Rho → Sto → Prop} {rt : D → Sto → Prop} (h : VE c tv ρ S fun y S1 => VE c ta ρ S1 fun x S2 => ∃ l C fs, x = .ref l ∧ S2 l = some (.ins C fs) ∧ Cls c.K C ∧ NoAttr c.K C f ∧ fs.length < 1000 ∧ nx ρ (put S2 l (.ins C (putD f y fs)))) :
    VX c (sFld c.K ta tv f) ρ S ⟨nx, rt, bk, ct⟩ := fun T σ H I D b =>
  h T σ H I _ fun vy y S1 T1 H1 m1 c1 r1 h1 => h1 T1 σ H1 (I.mv m1 c1) _ fun vx x S2 T2 H2 m2 c2 r2 ⟨l, C, fs, e, hl, hc, hn, hz, q⟩ => by
    subst e
    cases r2
    obtain ⟨dx, fv, hx, rf⟩ := c2.ok _ _ (c2.at hl)
    have w := mv_wr (H := H2) (d := .ins C (putD f y fs)) (o := .ins C dx (putF f vy fv)) (c2.at hl)
    have cl' : Cells c.K (upd H2 l (.ins C dx (putF f vy fv))) (put S2 l (.ins C (putD f y fs))) (put T2 l (.ins C (putD f y fs))) := c2.wr (c2.at hl) (cell_i upd_same ((RepF.put (r1.mv m2) rf).mv w))
    exact ⟨l, C, dx, fv, rfl, hx, hc, hn, by rw [rf.length]; exact hz, b.nx σ ρ _ _ _ (m1.trans (m2.trans w)) (I.mv (m1.trans (m2.trans w)) cl') q⟩
theorem ve_mt {p : Pt} {E : L2.St → XK} {Y} {ta : TE} {t : TA} {C : Addr} {m : Str} {dvs : List V} {dds : List D} (x : XOk c ρ E Y) (hd : ∀ H T, RepL c.K H T dvs dds)
    (h : VE c ta ρ S fun y S1 => ∃ fs, IsI S1 y C fs ∧ fs.lookup m = none ∧ VA c t ρ S1 fun ds S2 => p (y :: (ds ++ dds)) S2 F Y) : VE c (tMethE C m (spOf c.K p) dvs E ta t) ρ S F := fun T σ H I Q k =>
  h T σ H I _ fun vy y S1 T1 H1 m1 c1 r1 ⟨fs, hi, hl, h1⟩ => by
    obtain ⟨a, dx, fv, rfl, ha, r⟩ := hi.rd c1 r1
    exact ⟨a, dx, fv, rfl, ha, r.lookup_none hl, h1 T1 σ H1 (I.mv m1 c1) _ fun vs ds S2 T2 H2 m2 c2 r2 h2 => ⟨y :: (ds ++ dds), S2, T2, F, Y, .cons (r1.mv m2) (r2.append (hd _ _)), c2, h2, fun v d S3 T3 H3 m3 c3 r3 q => k v d S3 T3 H3 (m1.trans (m2.trans m3)) c3 r3 q, x.ok (I.mv (m1.trans m2) c2)⟩⟩
/-- a new instance: by reference -/
theorem ve_mk {p : Pt} {E : L2.St → XK} {Y} {t : TA} {C : Addr} {dvs : List V} {dds : List D} (x : XOk c ρ E Y) (hd : ∀ H T, RepL c.K H T dvs dds)
    (h : VA c t ρ S fun ds S1 => ∀ y, S1 y = none → p (.ref y :: (ds ++ dds)) (put S1 y (.ins C [])) (fun d S2 => d = .non ∧ F (.ref y) S2) Y) : VE c (tMakeE C (spOf c.K p) dvs E t) ρ S F := fun T σ H I Q k =>
  h T σ H I _ fun vs ds S1 T1 H1 m1 c1 r1 h1 => fun y dx hy hdx ne => by
    have hy2 : upd H1 dx (.own y) y = none := by rw [upd_ne (Ne.symm ne)]; exact hy
    have n1 : Mv T1 H1 T1 (upd H1 dx (.own y)) := mv_new hdx
    have n2 := mv_newc (S := T1) (d := .ins C []) (o := .ins C dx []) hy2
    have cl := (c1.new (o := .own y) hdx).newc (d := .ins C []) (o := .ins C dx []) hy2 (cell_i upd_same .nil)
    refine ⟨.ref y :: (ds ++ dds), put S1 y (.ins C []), put T1 y (.ins C []), _, Y, .cons (.ref y) ((r1.mv (n1.trans n2)).append (hd _ _)), cl, h1 y (c1.freeS hy), fun v d S3 T3 H3 m3 c3 r3 ⟨ed, q⟩ => ?_, x.ok (I.mv (m1.trans (n1.trans n2)) cl)⟩
    subst ed
    cases r3
    exact ⟨rfl, k _ _ S3 T3 H3 (m1.trans (n1.trans (n2.trans m3))) c3 (.ref y) q⟩
end
end VS
namespace VS
open PySem L2 C8 PySem.Spec PyProof.Rows
/-! ### what is shown: repr, == of data -/
mutual
def pd : D → PyData
  | .non => .none
  | .bl b => .bool b
  | .int i => .int i
  | .str x => .str x
  | .rol xs => .list (pdL xs)
  | .lst xs => .list (pdL xs)
  | .tup xs => .tuple (pdL xs)
  | .dK kvs => .dict (pdK kvs)
  | _ => .none
def pdL : List D → List PyData
  | [] => []
  | x :: xs => pd x :: pdL xs
def pdK : List (Key × D) → List (PyData × PyData)
  | [] => []
  | (k, x) :: xs => ((match k with | .inl i => .int i | .inr z => .str z), pd x) :: pdK xs
end
mutual
def isP : D → Bool
  | .non => true
  | .bl _ => true
  | .int _ => true
  | .str _ => true
  | .lst xs => isPL xs
  | .tup xs => isPL xs
  | .dK kvs => isPK kvs
  | _ => false
def isPL : List D → Bool
  | [] => true
  | x :: xs => isP x && isPL xs
def isPK : List (Key × D) → Bool
  | [] => true
  | (_, x) :: xs => isP x && isPK xs
end
/-- sys.modules is one of the base's objects -/
def SysOk (base : Heap) : Prop := ∃ o, base.get? sysModules = some o
section
variable {X : Cx} {pins : List (Addr × Obj)} {σ : L2.St} {H : Hp} {s : Shared} {T : Sto}
theorem SysOk.ne (hs : SysOk X.base) (I : Inv X pins σ H s) {a : Addr} {o : HO} (h : H a = some o) : sysModules ≠ a := fun e => by
  obtain ⟨ob, hb⟩ := hs
  have q := (I.bs _ _ hb).2
  rw [e, h] at q
  cases q
mutual
/-- told apart from what is known by reference -/
theorem Rep.any {K : PySem.W.Frag} {H : Hp} {S : Sto} : ∀ {v : V} {d : D}, Rep K H S v d → Rep K H (fun _ => none) v d
  | _, _, .non => .non
  | _, _, .bl b => .bl b
  | _, _, .int i => .int i
  | _, _, .str x => .str x
  | _, _, .ty n => .ty n
  | _, _, .ref a => .ref a
  | _, _, .rol s h r => .rol rfl h (RepL.any r)
  | _, _, .rolK h r => .rolK h (RepL.any r)
  | _, _, .lst s h r => .lst rfl h (RepL.any r)
  | _, _, .tup s h r => .tup rfl h (RepL.any r)
  | _, _, .tupK h r => .tupK h (RepL.any r)
  | _, _, .dK s h r => .dK rfl h (RepK.any r)
  | _, _, .ins s h r => .ins rfl h (RepF.any r)
  | _, _, .xcp s h r => .xcp rfl h (RepF.any r)
  | _, _, .xv s h s2 h2 r => .xv rfl h rfl h2 (RepF.any r)
theorem RepL.any {K : PySem.W.Frag} {H : Hp} {S : Sto} : ∀ {vs : List V} {ds : List D}, RepL K H S vs ds → RepL K H (fun _ => none) vs ds
  | _, _, .nil => .nil
  | _, _, .cons h t => .cons (Rep.any h) (RepL.any t)
theorem RepK.any {K : PySem.W.Frag} {H : Hp} {S : Sto} : ∀ {vs : List (Key × V)} {ds : List (Key × D)}, RepK K H S vs ds → RepK K H (fun _ => none) vs ds
  | _, _, .nil => .nil
  | _, _, .cons h t => .cons (Rep.any h) (RepK.any t)
theorem RepF.any {K : PySem.W.Frag} {H : Hp} {S : Sto} : ∀ {vs : List (Str × V)} {ds : List (Str × D)}, RepF K H S vs ds → RepF K H (fun _ => none) vs ds
  | _, _, .nil => .nil
  | _, _, .cons h t => .cons (Rep.any h) (RepF.any t)
end
mutual
theorem Rep.reads (hs : SysOk X.base) (I : Inv X pins σ H s) : ∀ (d : D) (v : V) (u : Value), Rep X.K H T v d → isP d = true → L2.RelV v u → ∃ as, Reads s.heap u (pd d) as ∧ sysModules ∉ as
  | .non, _, _, h, _, r => by cases h; cases r; exact ⟨[], .none, by simp⟩
  | .bl b, _, _, h, _, r => by cases h; cases r; exact ⟨[], .bool b, by simp⟩
  | .int i, _, _, h, _, r => by cases h; obtain ⟨t, rfl⟩ := r; exact ⟨[], .int i t, by simp⟩
  | .str x, _, _, h, _, r => by cases h; obtain ⟨t, rfl⟩ := r; exact ⟨[], .str x t, by simp⟩
  | .lst ds, _, _, h, hp, r => by
    cases h with
    | lst st h rl =>
      cases r
      obtain ⟨its, rv, ⟨o, n, ho, hc, _, hd⟩, _⟩ := I.list (SqL.of h)
      obtain ⟨as, hr, hn⟩ := RepL.reads hs I ds _ its rl hp rv
      exact ⟨_, .list ho hc hd hr, by simp only [List.mem_cons, not_or]; exact ⟨hs.ne I h, hn⟩⟩
  | .tup ds, _, _, h, hp, r => by
    cases h with
    | tup st h rl =>
      cases r
      obtain ⟨its, rv, ⟨o, ho, hc, n, hd⟩, _⟩ := I.tuple (SqT.of h)
      obtain ⟨as, hr, hn⟩ := RepL.reads hs I ds _ its rl hp rv
      exact ⟨_, .tuple ho hc hd hr, hn⟩
    | tupK h rl =>
      cases r
      obtain ⟨its, rv, ⟨o, ho, hc, n, hd⟩, _⟩ := I.tuple (.inr h)
      obtain ⟨as, hr, hn⟩ := RepL.reads hs I ds _ its rl hp rv
      exact ⟨_, .tuple ho hc hd hr, hn⟩
  | .dK ds, _, _, h, hp, r => by
    cases h with
    | dK st h rk =>
      cases r
      obtain ⟨_, _, vs, kv, o, es, ep, ho, ex, hd, _, pr, _⟩ := h.ok I.hok
      obtain ⟨as, h1, h2, hn⟩ := RepK.reads hs I ds _ vs es.toList rk hp kv pr
      refine ⟨_, .dict ho ex.1 hd h1 h2, ?_⟩
      simp only [List.append_nil, List.mem_cons, List.mem_append, not_or]
      exact ⟨⟨h.elim (fun h => hs.ne I h) fun ⟨_, h⟩ => hs.ne I h, List.not_mem_nil⟩, hn⟩
  | .ty _, _, _, _, hp, _ => by cases hp
  | .ref _, _, _, _, hp, _ => by cases hp
  | .rol _, _, _, _, hp, _ => by cases hp
  | .hid, _, _, _, hp, _ => by cases hp
  | .ins _ _, _, _, _, hp, _ => by cases hp
  | .xcp _ _ _ _, _, _, _, hp, _ => by cases hp
  | .xv _ _, _, _, _, hp, _ => by cases hp
theorem RepL.reads (hs : SysOk X.base) (I : Inv X pins σ H s) : ∀ (ds : List D) (vs : List V) (us : List Value), RepL X.K H T vs ds → isPL ds = true → L2.Vals vs us → ∃ as, ReadsAll s.heap us (pdL ds) as ∧ sysModules ∉ as
  | [], _, _, h, _, r => by cases h; cases r; exact ⟨[], .nil, by simp⟩
  | d :: ds, _, _, h, hp, r => by
    have hp' : (isP d && isPL ds) = true := hp
    rw [Bool.and_eq_true] at hp'
    cases h with
    | cons h t =>
      cases r with
      | cons r1 r2 =>
        obtain ⟨as, q1, n1⟩ := Rep.reads hs I d _ _ h hp'.1 r1
        obtain ⟨bs, q2, n2⟩ := RepL.reads hs I ds _ _ t hp'.2 r2
        exact ⟨_, .cons q1 q2, by simp only [List.mem_append, not_or]; exact ⟨n1, n2⟩⟩
theorem RepK.reads (hs : SysOk X.base) (I : Inv X pins σ H s) : ∀ (ds : List (Key × D)) (vs : List (Key × V)) (us : List (Key × Value)) (es : List DictEntry), RepK X.K H T vs ds → isPK ds = true → KV vs us → Pairs (mixKind X.prog X.w) es us →
    ∃ as, ReadsAll s.heap (es.map (·.key)) ((pdK ds).map (·.1)) [] ∧ ReadsAll s.heap (es.map (·.val)) ((pdK ds).map (·.2)) as ∧ sysModules ∉ as
  | [], _, _, _, h, _, r, p => by cases h; cases r; cases p; exact ⟨[], .nil, .nil, by simp⟩
  | (k, d) :: ds, _, _, _, h, hp, r, p => by
    have hp' : (isP d && isPK ds) = true := hp
    rw [Bool.and_eq_true] at hp'
    cases h with
    | cons h t =>
      cases r with
      | cons r1 r2 =>
        cases p with
        | @cons e kv es kvs p1 p2 p3 =>
          obtain ⟨ek, er⟩ := r1
          obtain ⟨as, q1, n1⟩ := Rep.reads hs I d _ _ h hp'.1 er
          obtain ⟨bs, q2, q3, n2⟩ := RepK.reads hs I ds _ _ _ t hp'.2 r2 p3
          have kk : keyIs k e.key = true := by
            have ek' := ek
            dsimp only at ek'
            rw [ek']
            exact p1
          refine ⟨as ++ bs, ?_, ?_, by simp only [List.mem_append, not_or]; exact ⟨n1, n2⟩⟩
          · rcases keyIs_shape kk with ⟨i, t, e1, e2⟩ | ⟨x, t, e1, e2⟩
            · subst e1
              rw [List.map_cons, e2]
              exact ReadsAll.cons (as := []) (bs := []) (.int i t) q2
            · subst e1
              rw [List.map_cons, e2]
              exact ReadsAll.cons (as := []) (bs := []) (.str x t) q2
          · rw [List.map_cons, p2]
            exact ReadsAll.cons q1 q3
end
end
def rRepr (K : PySem.W.Frag) : CR1 := fun xs H Q => ∃ (v : V) (d : D) (T : Sto), xs = [v] ∧ Rep K H T v d ∧ isP d = true ∧ (pd d).showable = true ∧ (pd d).shown.length ≤ sizeLine ∧ (pd d).depth ≤ 50 ∧ Q (.str (pd d).shown) H
section
variable {X : Cx} {k : Nat}
theorem repr_any {pins : List (Addr × Obj)} {σ : L2.St} {H : Hp} {s : Shared} {Q : VK} {u : Value} {d : PyData} {as : List Addr} (hgd : X.A.guards = some []) (hr : Room k X.A) (I : Inv X pins σ H s) (rd : Reads s.heap u d as) (hn : sysModules ∉ as)
    (sh : d.showable = true) (sz : d.shown.length ≤ sizeLine) (dp : d.depth ≤ 50) (q : Q (.str d.shown) H) : wpAny (model X.prog X.w) X.A (call (.builtin "repr") [u]) (EP X pins σ Q) X.xe s := by
  have hu : X.A.units + (d.depth + 1) < cLine := Nat.lt_of_le_of_lt (by omega) hr.units
  have whole : ∀ a, u = .ref a → wpAny (model X.prog X.w) X.A (call (.builtin "repr") [u]) (EP X pins σ Q) X.xe s := fun a e => by
    subst e
    exact repr_of_reads' rd sh (fun _ => hn) hgd hu (fun _ _ e => e) (fun h' u tk hk => ⟨.str d.shown, H, I.kept hk, ⟨_, rfl⟩, q⟩) sz
  cases rd with
  | none => exact PySem.P.repr_of_none ⟨.str (PyData.shown .none), H, I.tok _, ⟨_, rfl⟩, q⟩
  | bool b => exact PySem.P.repr_of_bool ⟨.str (PyData.shown (.bool b)), H, I.tok _, ⟨_, rfl⟩, q⟩
  | int i t => exact PySem.P.repr_of_int (of_decide_eq_true sh) ⟨.str (PyData.shown (.int i)), H, I.tok _, ⟨_, rfl⟩, q⟩
  | str x t => exact PySem.P.repr_of_str ⟨.str (PyData.shown (.str x)), H, I.tok _, ⟨_, rfl⟩, q⟩ sz
  | list h1 h2 h3 h4 => exact whole _ rfl
  | tuple h1 h2 h3 h4 => exact whole _ rfl
  | dict h1 h2 h3 h4 h5 => exact whole _ rfl
theorem c_repr (hgd : X.A.guards = some []) (hr : Room k X.A) (hs : SysOk X.base) : CallR X (.builtin "repr") (rRepr X.K) := by
  intro pins s σ H xs us Q I r h
  obtain ⟨v, d, T, rfl, rp, ip, sh, sz, dp, q⟩ := h
  obtain ⟨u, rfl, rv⟩ := vals1 r
  obtain ⟨as, rd, hn⟩ := Rep.reads hs I d v u rp ip rv
  exact repr_any hgd hr I rd hn sh sz dp q
end
section
variable {c : Ctx} {ρ : Rho} {S : Sto} {F : D → Sto → Prop}
/-- d, its cells read: what x is when all is known by value -/
inductive Vw (S : Sto) : D → D → Prop
  | v {d : D} : Vw S d d
  | c {l : Addr} {d : D} (h : S l = some d) (n : d ≠ .hid) : Vw S (.ref l) d
theorem Vw.rd {K : PySem.W.Frag} {H : Hp} {T : Sto} {x d : D} {u : V} (h : Vw S x d) (cl : Cells K H S T) (r : Rep K H T u x) : ∃ T', Mk T H T' H ∧ Rep K H T' u d := by
  cases h with
  | v => exact ⟨T, Mv.refl.toMk, r⟩
  | c h n => cases r; exact ⟨_, (mv_del (cl.nohid h n)).toMk, cl.rep (cl.at h) (cl.nohid h n)⟩
theorem rc_repr {x d : D} (h : Vw S x d) (ip : isP d = true) (sh : (pd d).showable = true) (sz : (pd d).shown.length ≤ sizeLine) (dp : (pd d).depth ≤ 50) (q : F (.str (pd d).shown) S) : RC c (rRepr c.K) [x] S F := fun T us H cl r Q k => by
  cases r with
  | cons h1 t =>
    cases t
    obtain ⟨T', _, r'⟩ := h.rd cl h1
    exact ⟨_, d, T', rfl, r', ip, sh, sz, dp, k _ _ S T H Mv.refl cl (.str _) q⟩
end
/-! ### the law's own call -/
/-- the law's promise by value: told True, of any script -/
theorem law_val {P : Program} {w : World} {K : PySem.W.Frag} {mg mb : Str → Option Value} {CX : CXT} {k : Nat} {fa a : Addr} {fd : FuncData} {x : Str} {p : Pt} {s1 : Shared} {vs : List Value} {ns : List Int}
    (kin : K.In s1.heap) (hmg : s1.heap.Ns mainGlobals mg) (hmb : s1.heap.Ns builtinsNs mb) (boot : ∀ x : Str, x ≠ "__name__" → mb x = bootBuiltins x) (nolim : s1.heap.NoLimit) (sys : ∃ mm, s1.heap.Ns sysModules mm) (gens : s1.gens = #[])
    (ha : s1.heap.get? a = some { cls := .type "list", data := .seq vs.toArray }) (hi : IntsAre vs ns) (hl : ns.length ≤ sizeLine) (room : Room k callerA)
    (F : ∀ base : Heap, K.In base → base.Ns mainGlobals mg → SysOk base → FnG P w K mg base CX k fa fd [x] (spOf K p)) (bd : ∀ (s : Shared) (u : Value), BindsTo s fd ⟨[u], []⟩ [(x, u)])
    (hp : p [.rol (ns.map .int)] (fun _ => none) (fun d _ => d = .bl true) noY) (noexc : ∀ H e s', CX [] H s1 (fun _ _ _ => False) e s' → False) :
    codeAny (model P w) callerA (.call (.ref fa) ⟨[.ref a], []⟩) (fun r s' => r = .ok (.ret (.bool true)) ∧ OldK s1.heap s'.heap ∧ s'.os = s1.os ∧ AllBare s'.gens) s1 := by
  have iv := vals_ints hi
  -- whichever way the script is known: H tells it, and nothing else
  suffices go : ∀ H : Hp, (∀ b u, H b = some u → b = a ∧ u = .frz { cls := .type "list", data := .seq vs.toArray } (.lst (ns.map V.int))) → (H a ≠ none → K.lookup a = none) → Rep K H (fun _ => none) (.ref a) (.rol (ns.map .int)) →
      codeAny (model P w) callerA (.call (.ref fa) ⟨[.ref a], []⟩) (fun r s' => r = .ok (.ret (.bool true)) ∧ OldK s1.heap s'.heap ∧ s'.os = s1.os ∧ AllBare s'.gens) s1 by
    cases hk : K.lookup a with
    | none =>
      refine go (fun b => if b = a then some (.frz { cls := .type "list", data := .seq vs.toArray } (.lst (ns.map V.int))) else none) (fun b u z => ?_) (fun _ => hk) (.rol rfl (if_pos rfl) RepL.ofInts)
      by_cases e : b = a
      · have z' := (if_pos e).symm.trans z
        cases z'
        exact ⟨e, rfl⟩
      · have z' := (if_neg e).symm.trans z
        cases z'
    | some o =>
      have e := kin a o hk
      rw [ha] at e
      cases e
      exact go (fun _ => none) (fun b u z => by cases z) (fun z => absurd rfl z) (.rolK ⟨_, vs.toArray, _, hk, rfl, rfl, rfl, by simpa [hi.length] using hl, by simpa using iv⟩ RepL.ofInts)
  intro H only apart rep
  have kept : ∀ {b : Addr} {o : Obj}, s1.heap.get? b = some o → b ≠ a → (hidT s1.heap H).get? b = some o := fun {b o} e n => hidT_get e (by
    cases q : H b with
    | none => rfl
    | some u => exact absurd (only b u q).1 n)
  have nsk : ∀ {b : Addr} {m : Str → Option Value}, s1.heap.Ns b m → (hidT s1.heap H).Ns b m := fun {b m} ⟨o, es, ep, e, d, r⟩ => ⟨o, es, ep, kept e (fun z => by
    subst z
    rw [ha] at e
    have e2 := Option.some.inj e
    rw [← e2] at d
    cases d), d, r⟩
  have kinB : K.In (hidT s1.heap H) := fun b o e => hidT_get (kin b o e) (by
    cases q : H b with
    | none => rfl
    | some u =>
      have z := (only b u q).1
      subst z
      rw [apart (by rw [q]; simp)] at e
      cases e)
  have hok : HOk P w H s1.heap := fun b u z => by
    obtain ⟨e1, e2⟩ := only b u z
    subst e1 e2
    exact ⟨ha, by simpa using hl, vs, _, iv, ha⟩
  have sysB : SysOk (hidT s1.heap H) := by
    obtain ⟨mm, h⟩ := sys
    obtain ⟨o, _, _, e, _⟩ := nsk h
    exact ⟨o, e⟩
  have mod : Mod K mg (hidT s1.heap H) := ⟨kinB, nsk hmg, ⟨mb, nsk hmb, boot⟩, by obtain ⟨mc, h1, h2⟩ := nolim; exact ⟨mc, nsk h1, h2⟩⟩
  have en : Env0 P w K mg (hidT s1.heap H) callerA [] s1 H := ⟨rfl, mod, fun b o e => of_hidT e, Nat.le_of_eq (hidT_size _ _), trivial, fun b hb => absurd (show b ∈ ([] : List Addr) from hb) (by simp), hok, .of_eq gens⟩
  have cells : Cells K H (fun _ => none) (fun _ => none) := ⟨fun _ => .inl ⟨rfl, by simp⟩, fun _ _ z => by cases z⟩
  have told : spOf K p [.ref a] H (fun v _ => v = .bl true) (fun _ _ _ => False) := ⟨_, _, _, _, _, .cons rep .nil, cells, hp, fun v d S' T' H' _ _ r e => by subst e; cases r; rfl, fun _ _ _ _ _ _ _ _ _ z => z.elim⟩
  refine codeAny_mono ((F _ kinB (nsk hmg) sysB).run callerA rfl [] s1 H ⟨[.ref a], []⟩ [.ref a] [.ref a] _ _ room en (bd s1 (.ref a)) (.cons rfl .nil) told) fun r s' h => ?_
  cases r with
  | error e => exact (noexc H e s' h).elim
  | ok fl =>
    cases fl with
    | next => exact False.elim h
    | brk => exact False.elim h
    | cont => exact False.elim h
    | ret u =>
      obtain ⟨v, H', os, bare, un, hok', rv, q⟩ := h
      have q' : v = .bl true := q
      subst q'
      cases rv
      refine ⟨rfl, OldK.of_keep fun b o e => ?_, os, bare⟩
      cases z : H b with
      | none => exact un.keep b o e z (fun m => absurd (show b ∈ ([] : List Addr) from m) (by simp)) (by simp)
      | some u =>
        obtain ⟨e1, e2⟩ := only b u z
        subst e2
        have f1 := (hok b _ z).1
        have f2 := (hok' b _ (un.frzs b _ _ z)).1
        rw [e] at f1
        cases f1
        exact f2
/-- the goal that k_head leaves, from the law's promise by value -/
theorem walk_val {l : PySem.W.OpenLaw} {n k : Nat} {q : Program} {loose : List Str} {XP : (Str → Option Value) → Heap → Prop} {YP : World → Heap → Prop} {d : DefRec} {K : Params → PySem.W.Frag} {CX : World → CXT} {p : PySem.W.Frag → Pt} {x : Str}
    (hn : l.most = some n) (hn2 : n ≤ sizeLine) (hdf : d.params.defaults = []) (room : Room k callerA) (noimp : importsNone q = true) (hY : ∀ (w : World) (h : Heap), YP w h → (K w.params).In h)
    (F : ∀ (w : World) (mg : Str → Option Value) (fa : Addr) (h : Heap), (K w.params).In h → h.Ns mainGlobals mg → mg d.name = some (.ref fa) →
      ∃ fd : FuncData, (∀ (s : Shared) (u : Value), BindsTo s fd ⟨[u], []⟩ [(x, u)]) ∧ ∀ base : Heap, (K w.params).In base → base.Ns mainGlobals mg → SysOk base → FnG l.prog w (K w.params) mg base (CX w) k fa fd [x] (spOf (K w.params) (p (K w.params))))
    (hp : ∀ (K : PySem.W.Frag) (ns : List Int), ns.length ≤ n → p K [.rol (ns.map .int)] (fun _ => none) (fun d _ => d = .bl true) noY) (noexc : ∀ (w : World) (H : Hp) (s : Shared) (e : Value) (s' : Shared), CX w [] H s (fun _ _ _ => False) e s' → False) :
    PySem.W.WalkO q loose XP YP l.row.toRowW d [] (fun f vs => PySem.call f vs) :=
  Att.attach_call hn hdf fun w s₀ s₁ mg mb fa o pm cd doc a vs ns G Y ho hd hcd hmg hobj hints hlen hg => by
    obtain ⟨fd, hb, hF⟩ := F w mg fa _ (hY w _ Y) G.T.g hmg
    exact law_val (hY w _ Y) G.T.g G.T.b G.T.builtins G.T.nolimit (let ⟨mm, h, _⟩ := (G.T.seer noimp).mods; ⟨mm, h⟩) hg hobj hints (Nat.le_trans hlen hn2) room hF hb (hp _ ns hlen) fun H e s' => noexc w H s₁ e s'
end VS
namespace VS
open PySem L2 C8 PySem.Spec PyProof.Rows
/-! ### a def that may be called -/
structure Cf (P : Program) (w : World) (K : PySem.W.Frag) (mg : Str → Option Value) (base : Heap) (CX : CXT) (k : Nat) (x : Str) (st : Stmt) (dvs : List V) (ps : List Str) (p : Pt) (f : Addr) (fd : FuncData) : Prop where
  fn : FnG P w K mg base CX k f fd ps (spOf K p)
  df : Fd K x x st dvs f fd
  mg : mg x = some (.ref f)
  b : Binds K fd ps []
theorem Cf.kp {P : Program} {w : World} {K : PySem.W.Frag} {mg : Str → Option Value} {base : Heap} {CX : CXT} {k : Nat} {x : Str} {st : Stmt} {dvs : List V} {ps : List Str} {p : Pt} {f : Addr} {fd : FuncData} (c : Cf P w K mg base CX k x st dvs ps p f fd) : PySem.W.keepIn K (.ref f) = true := c.df.kp
theorem Cf.v {P : Program} {w : World} {K : PySem.W.Frag} {mg : Str → Option Value} {base : Heap} {CX : CXT} {k : Nat} {x : Str} {st : Stmt} {dvs : List V} {ps : List Str} {p : Pt} {f : Addr} {fd : FuncData} (_ : Cf P w K mg base CX k x st dvs ps p f fd) : Vals [] [] := .nil
/-- arguments by their places among the written ones -/
def pick {α : Type} (idx : List Nat) (us ws : List α) : List α := idx.filterMap fun i => (us ++ ws)[i]?
section
variable {c : Ctx} {ρ : Rho} {S : Sto} {F : D → Sto → Prop} {d : D}
/-! ### the branches of a test -/
theorem br {p A B : Prop} [Decidable p] (h1 : p → A) (h2 : ¬ p → B) : (decide p = true → A) ∧ (decide p = false → B) := ⟨fun h => h1 (of_decide_eq_true h), fun h => h2 (of_decide_eq_false h)⟩
theorem brN {p A B : Prop} [Decidable p] (h1 : ¬ p → A) (h2 : p → B) : ((!decide p) = true → A) ∧ ((!decide p) = false → B) := ⟨fun h => h1 (by simpa using h), fun h => h2 (by simpa using h)⟩
theorem brB {b : Bool} {A B : Prop} (h1 : b = false → A) (h2 : b = true → B) : ((!b) = true → A) ∧ ((!b) = false → B) := ⟨fun h => h1 (by simpa using h), fun h => h2 (by simpa using h)⟩
theorem brT {b : Bool} {A B : Prop} (h : b = true) (a : A) : (b = true → A) ∧ (b = false → B) := ⟨fun _ => a, fun z => (by rw [h] at z; cases z)⟩
theorem brF {b : Bool} {A B : Prop} (h : b = false) (a : B) : (b = true → A) ∧ (b = false → B) := ⟨fun z => (by rw [h] at z; cases z), fun _ => a⟩
theorem br2 {b : Bool} {A B : Prop} (h1 : b = true → A) (h2 : b = false → B) : (b = true → A) ∧ (b = false → B) := ⟨h1, h2⟩
/-- [e for x in xs], each by itself -/
theorem ve_lcM (f : D → D) {wi : TI} {g : TG} {tt : TT} {te : TE} {vs : List Nat}
    (h : VI c wi ρ S fun ds S1 => ds.length ≤ 100000 ∧ (∀ d ∈ ds, VGw c vs g d (wipeR ρ vs) S1 fun ρ3 S3 => VT c tt ρ3 S3 fun b S4 => b = true ∧ VE c te ρ3 S4 fun y S5 => y = f d ∧ S5 = S1) ∧ F (.lst (ds.map f)) S1) : VE c (tLc wi g tt te vs) ρ S F := by
  refine ve_lc (fun T σ H I R k => h T σ H I R fun J ds S1 T1 H1 m1 c1 w ⟨h1, h2, h3⟩ => k J ds S1 T1 H1 m1 c1 w ⟨h1, fun i acc S2 => acc = (ds.take i).map f ∧ S2 = S1, ⟨rfl, rfl⟩, ?_, ?_⟩)
  · rintro i d acc S2 hd ⟨e1, rfl⟩ hl T0 u0 σ0 H0 I0 r0 Q0 k0
    refine h2 d (List.mem_of_getElem? hd) T0 u0 σ0 H0 I0 r0 Q0 fun σ' ρ' S' T' H' hw m I' q => k0 σ' ρ' S' T' H' hw m I' ?_
    refine q.imp fun b S4 ⟨hb, hv⟩ => ?_
    subst hb
    refine ⟨fun _ => hv.imp fun y S5 ⟨e2, e3⟩ => ⟨?_, e3⟩, fun z => by cases z⟩
    rw [List.take_succ, hd, e1, e2, List.map_append] <;> rfl
  · rintro acc S2 ⟨e1, rfl⟩ _
    rw [List.take_length] at e1
    rw [e1]
    exact h3
theorem ex_bl {b : Bool} {G : Bool → Prop} (h : G b) : ∃ k, D.bl b = D.bl k ∧ G k := ⟨b, rfl, h⟩
theorem ex_ref {b : Addr} {G : Addr → Prop} (h : G b) : ∃ k, D.ref b = D.ref k ∧ G k := ⟨b, rfl, h⟩
theorem ex_str {b : Str} {G : Str → Prop} (h : G b) : ∃ k, D.str b = D.str k ∧ G k := ⟨b, rfl, h⟩
theorem ex_int {b : Int} {G : Int → Prop} (h : G b) : ∃ k, D.int b = D.int k ∧ G k := ⟨b, rfl, h⟩
theorem cpow {i j : Int} (h0 : 0 ≤ j) (h1 : j ≤ 1000000) (h2 : i.natAbs < 2 ^ 64) : CPow i j := ⟨h0, h1, h2⟩
theorem cmulW {i j : Int} (a : i.natAbs < 2 ^ 64) (b : j.natAbs < 2 ^ 64) : CMulW i j := wide_mul a b (by decide) (by decide) (by decide)
theorem cdivW {i j : Int} (a : 0 < j) (b : j < 2 ^ 128) : CDivW i j := wide_div (b := 128) a (by omega) (by decide) (by decide)
end
end VS
namespace VS
open PySem L2 C8 PySem.Spec PyProof.Rows
theorem szl : 1000000 ≤ sizeLine := by decide
/-! ### texts of plain signs -/
def Asc (n : Nat) (z : Str) : Prop := z.length ≤ n ∧ ∀ c ∈ z.cps.toList, c < 128
theorem str_len (z : Str) : z.cps.toList.length = z.length := Array.length_toList
theorem Asc.mono {n m : Nat} {z : Str} (h : Asc n z) (l : n ≤ m) : Asc m z := ⟨Nat.le_trans h.1 l, h.2⟩
theorem tl_add (x y : Str) : (x ++ y).cps.toList = x.cps.toList ++ y.cps.toList := TL.tl_append x y
theorem len_add (x y : Str) : (x ++ y).length = x.length + y.length := by
  rw [← str_len, ← str_len, ← str_len, tl_add, List.length_append]
theorem Asc.add {n m : Nat} {x y : Str} (h : Asc n x) (k : Asc m y) : Asc (n + m) (x ++ y) := by
  refine ⟨by rw [len_add]; exact Nat.add_le_add h.1 k.1, fun c hc => ?_⟩
  rw [tl_add] at hc
  exact (List.mem_append.mp hc).elim (h.2 c) (k.2 c)
theorem Asc.cut {n : Nat} {x : Str} (h : Asc n x) (lo hi : Option Int) : Asc n (cutS x lo hi) := by
  refine ⟨Nat.le_trans (cutS_length x lo hi) h.1, fun c hc => h.2 c ?_⟩
  have hc' : c ∈ (x.cps.toList.drop (HT.sIx x.length 0 lo)).take (HT.sIx x.length x.length hi - HT.sIx x.length 0 lo) := hc
  exact List.mem_of_mem_drop (List.mem_of_mem_take hc')
theorem tl_join0 (ys : List Str) : (Txt.join ("" : Str) ys).cps.toList = (ys.map fun y => y.cps.toList).flatten := by
  have e : (Txt.join ("" : Str) ys).cps.toList = TL.joinL (TL.tl ("" : Str)) (ys.map TL.tl) := (congrArg TL.tl (TL.join_eq ("" : Str) ys)).trans (TL.tl_join ("" : Str) ys)
  rw [e]
  have e0 : TL.tl ("" : Str) = [] := by decide +kernel
  rw [e0]
  have g : ∀ L : List (List Nat), TL.joinL [] L = L.flatten := by
    intro L
    induction L with
    | nil => rfl
    | cons p L ih =>
      cases L with
      | nil => simp [TL.joinL]
      | cons q r =>
        show p ++ ([] ++ TL.joinL [] (q :: r)) = _
        rw [ih]
        simp
  exact g _
theorem Asc.join0 {n : Nat} {ys : List Str} (h : ∀ y ∈ ys, Asc 1 y) (hl : ys.length ≤ n) : Asc n (Txt.join ("" : Str) ys) := by
  refine ⟨?_, fun c hc => ?_⟩
  · rw [← str_len, tl_join0, List.length_flatten, List.map_map]
    refine Nat.le_trans ?_ hl
    clear hl
    induction ys with
    | nil => exact Nat.le_refl _
    | cons y ys ih =>
      rw [List.map_cons, List.sum_cons, List.length_cons]
      have a := (h y (List.mem_cons_self ..)).1
      rw [← str_len] at a
      have b := ih fun z hz => h z (List.mem_cons_of_mem _ hz)
      show y.cps.toList.length + _ ≤ _
      omega
  · rw [tl_join0] at hc
    obtain ⟨l, hl1, hl2⟩ := List.mem_flatten.mp hc
    obtain ⟨y, hy, rfl⟩ := List.mem_map.mp hl1
    exact (h y hy).2 c hl2
theorem tl_numT (n : Nat) : (Str.ofString (toString ((n : Nat) : Int))).cps.toList = TL.numL n := TL.tl_num n
theorem Asc.one {n : Nat} (h : n < 128) : Asc 1 ⟨#[n]⟩ := ⟨Nat.le_refl _, fun c hc => by
  have : c = n := by simpa using hc
  omega⟩
/-- a written text -/
theorem Asc.lit {n : Nat} {z : Str} (h : (decide (z.length ≤ n) && z.cps.toList.all (· < 128)) = true) : Asc n z := by
  rw [Bool.and_eq_true, decide_eq_true_eq, List.all_eq_true] at h
  exact ⟨h.1, fun c hc => of_decide_eq_true (h.2 c hc)⟩
theorem Asc.at {n i : Nat} {z : Str} (h : Asc n z) (hi : i < z.length) : ∃ c, atI z.cps.toList (i : Int) = some c ∧ c < 128 := by
  rw [← str_len] at hi
  exact ⟨z.cps.toList[i], atI_nat (List.getElem?_eq_getElem hi), h.2 _ (List.getElem_mem hi)⟩
theorem log_lt {i : Int} {k : Nat} (h : i.natAbs < 2 ^ k) (hk : 0 < k) : i.natAbs.log2 < k := by
  by_cases z : i.natAbs = 0
  · rw [z]
    simpa using hk
  · exact (Nat.log2_lt z).mpr h
theorem rc_strI64 {c : Ctx} {S : Sto} {F : D → Sto → Prop} {i : Int} (h : i.natAbs < 2 ^ 64) (q : F (.str (Str.ofString (toString i))) S) : RC c rStrInt [.int i] S F := rc_strI (Nat.lt_trans (log_lt h (by decide)) (by decide)) q
end VS
namespace VS
open PySem L2 C8 PySem.Spec PyProof.Rows
/-! ### enumerate over a text -/
end VS
namespace VS
open PySem L2 C8 PySem.Spec PyProof.Rows PySem.W
/-! ### list(text) -/
def rListS : CR1 := fun xs H Q => ∃ x : Str, xs = [.str x] ∧ x.length ≤ sizeLine ∧ ∀ l, H l = none → Q (.ref l) (upd H l (.lst (x.cps.toList.map fun n => V.str ⟨#[n]⟩)))
theorem repL_signs {K : PySem.W.Frag} {H : Hp} {T : Sto} : ∀ L : List Nat, RepL K H T (L.map fun n => V.str ⟨#[n]⟩) (L.map fun n => D.str ⟨#[n]⟩)
  | [] => .nil
  | _ :: L => .cons (.str _) (repL_signs L)
section
variable {c : Ctx} {S : Sto} {F : D → Sto → Prop}
theorem rc_listS {x : Str} (hz : x.length ≤ sizeLine) (q : F (.lst (signsD x)) S) : RC c rListS [.str x] S F := fun T us H cl r Q k => by
  cases r with
  | cons h1 t =>
    cases t
    cases h1
    refine ⟨x, rfl, hz, fun l hl => ?_⟩
    have hx : Rep c.K (upd H l (.lst (x.cps.toList.map fun n => V.str ⟨#[n]⟩))) T (.ref l) (.lst (signsD x)) := by
      refine .lst (cl.free hl) upd_same ?_
      exact repL_signs _
    exact k _ _ S T _ (mv_new hl) (cl.new hl) hx q
end
end VS
namespace VS
open PySem L2 C8 PySem.Spec PyProof.Rows
def keyD : Key → D
  | .inl i => .int i
  | .inr x => .str x
theorem keyD_V {K : PySem.W.Frag} {H : Hp} {T : Sto} {k : Key} {v : V} (r : Rep K H T v (keyD k)) : v = kV k := by
  cases k with
  | inl i => cases r; rfl
  | inr x => cases r; rfl
theorem putK_fresh {kvs : List (Key × V)} {k : Key} {v : V} (h : k ∉ kvs.map Prod.fst) : putK kvs k v = kvs ++ [(k, v)] := by
  unfold putK
  rw [if_neg]
  intro z
  rw [List.any_eq_true] at z
  obtain ⟨p, hp, e⟩ := z
  exact h (List.mem_map.mpr ⟨p, hp, of_decide_eq_true e⟩)
theorem mergeK_new : ∀ {more kvs : List (Key × V)}, (kvs.map Prod.fst ++ more.map Prod.fst).Nodup → mergeK kvs more = kvs ++ more
  | [], kvs, _ => (List.append_nil kvs).symm
  | p :: more, kvs, h => by
    show mergeK (putK kvs p.1 p.2) more = _
    have h1 : p.1 ∉ kvs.map Prod.fst := fun z => by
      rw [List.map_cons, List.nodup_append] at h
      exact h.2.2 _ z _ (List.mem_cons_self ..) rfl
    rw [putK_fresh h1, mergeK_new, List.append_assoc]
    · rfl
    · rw [List.map_append, List.append_assoc]
      exact h
theorem repK_keys {K : PySem.W.Frag} {H : Hp} {T : Sto} : ∀ {vs : List (Key × V)} {ds : List (Key × D)}, RepK K H T vs ds → vs.map Prod.fst = ds.map Prod.fst
  | _, _, .nil => rfl
  | _, _, .cons _ t => by rw [List.map_cons, List.map_cons, repK_keys t]
def VPs (c : Ctx) (trs : List (TE × TE)) (ρ : Rho) (S : Sto) (F : List (Key × D) → Sto → Prop) : Prop := ∀ T σ H, In c σ H ρ S T → ∀ Q : List (V × V) → Hp → Prop,
  (∀ kvs es S' T' H', Mv T H T' H' → Cells c.K H' S' T' → RepK c.K H' T' kvs es → F es S' → Q (kvs.map fun kv => (kV kv.1, kv.2)) H') → tPairs trs σ H Q
section
variable {c : Ctx} {ρ : Rho} {S : Sto} {F : D → Sto → Prop} {d : D}
theorem vps_nil {G : List (Key × D) → Sto → Prop} (q : G [] S) : VPs c [] ρ S G := fun T σ H I Q k => k [] [] S T H Mv.refl I.cells .nil q
theorem vps_cons {tk tv : TE} {trs : List (TE × TE)} {G : List (Key × D) → Sto → Prop} (h : VE c tk ρ S fun x S1 => ∃ key, x = keyD key ∧ VE c tv ρ S1 fun y S2 => VPs c trs ρ S2 fun es S3 => G ((key, y) :: es) S3) : VPs c ((tk, tv) :: trs) ρ S G := fun T σ H I Q k =>
  h T σ H I _ fun vx x S1 T1 H1 m1 c1 r1 ⟨key, e, h1⟩ => h1 T1 σ H1 (I.mv m1 c1) _ fun vy y S2 T2 H2 m2 c2 r2 h2 => h2 T2 σ H2 (I.mv (m1.trans m2) c2) _ fun kvs es S3 T3 H3 m3 c3 r3 q => by
    subst e
    cases keyD_V r1
    exact k ((key, vy) :: kvs) ((key, y) :: es) S3 T3 H3 (m1.trans (m2.trans m3)) c3 (.cons (r2.mv m3) r3) q
/-- {k: v, ..}, by value -/
theorem ve_disp {trs : List (TE × TE)} (h : VPs c trs ρ S fun es S1 => es.length ≤ 15 ∧ (es.map Prod.fst).Nodup ∧ F (.dK es) S1) : VE c (tDisp trs) ρ S F := fun T σ H I Q k => fun p hp =>
  h (put T p .hid) σ (upd H p (.dK [])) (I.mv (mv_newc hp) (I.cells.newh hp)) _ fun kvs es S' T' H' m cl r ⟨h1, h2, q⟩ => by
    obtain ⟨hx, s⟩ := m.hid p _ put_same upd_same
    have hl : kvs.length = es.length := by
      have e := congrArg List.length (repK_keys r)
      simpa using e
    refine ⟨hx, kvs, rfl, by rw [hl]; exact h1, ?_⟩
    have em : mergeK [] kvs = kvs := by
      have e := mergeK_new (kvs := []) (more := kvs) (by rw [repK_keys r]; exact h2)
      exact e
    rw [em]
    have mm : Mv T H T' (upd H' p (.dK kvs)) := ((mv_newc (d := .hid) hp).trans m).hidw hp
    refine k _ (.dK es) S' (del T' p) _ (mm.unhid hp) ((cl.hidw s).unhid s) (.dK del_same (.inl upd_same) ((r.mk (mk_hid s)).mk (mk_show s))) q
end
end VS
namespace VS
open PySem L2 C8 PySem.Spec PyProof.Rows
/-! ### how long a shown thing is -/
structure Sh (d : D) (n k : Nat) : Prop where
  p : isP d = true
  s : (pd d).showable = true
  l : (pd d).shown.length ≤ n
  d : (pd d).depth ≤ k
structure ShL (xs : List D) (n k : Nat) : Prop where
  p : isPL xs = true
  s : PyData.showableAll (pdL xs) = true
  l : piled (PyData.shownAll (pdL xs)) ≤ n
  d : PyData.depthAll (pdL xs) ≤ k
theorem Sh.non : Sh .non 4 0 := ⟨rfl, rfl, (by decide +kernel), Nat.le_refl _⟩
theorem Sh.bl (b : Bool) : Sh (.bl b) 5 0 := ⟨rfl, rfl, (by cases b <;> decide +kernel), Nat.le_refl _⟩
theorem Sh.str {n : Nat} {z : Str} (h : Asc n z) : Sh (.str z) (10 * n + 2) 0 := ⟨rfl, rfl, (by
  have q := StrLaws.reprText_len z fun c hc => Nat.lt_of_lt_of_le (h.2 c hc) (by decide)
  have := h.1
  show (reprText z).length ≤ _
  omega), Nat.le_refl _⟩
theorem Sh.int {i : Int} {k : Nat} (h : i.natAbs < 2 ^ k) (hk : 0 < k) (hk2 : k ≤ 1920) : Sh (.int i) (k + 2) 0 := ⟨rfl, (by
  show decide (i.natAbs.log2 < 1920) = true
  exact decide_eq_true (Nat.lt_of_lt_of_le (log_lt h hk) hk2)), (by
  show (Str.ofString (toString i)).length ≤ k + 2
  have up : ∀ m : Nat, m < 2 ^ k → (TL.numL m).length ≤ k := fun m hm => TL.numL_len hk (Nat.lt_of_lt_of_le hm (Nat.pow_le_pow_left (by decide) k))
  cases i with
  | ofNat m =>
    rw [← str_len]
    have e : (Str.ofString (toString (Int.ofNat m))).cps.toList = TL.numL m := tl_numT m
    rw [e]
    have := up m h
    omega
  | negSucc m =>
    have e : toString (Int.negSucc m) = "-" ++ toString (m + 1) := rfl
    rw [e, ← str_len]
    have e2 : (Str.ofString ("-" ++ toString (m + 1))).cps.toList = 45 :: TL.numL (m + 1) := by
      have a : (Str.ofString ("-" ++ toString (m + 1))).cps.toList = ("-" ++ toString (m + 1)).toList.map Char.toNat := TL.tl_ofString _
      have b : TL.numL (m + 1) = (toString (m + 1)).toList.map Char.toNat := (tl_numT (m + 1)).symm.trans (TL.tl_ofString _)
      rw [a, b, String.toList_append, List.map_append]
      rfl
    rw [e2, List.length_cons]
    have := up (m + 1) h
    omega), Nat.le_refl _⟩
theorem ShL.nil : ShL [] 0 0 := ⟨rfl, rfl, Nat.le_refl _, Nat.le_refl _⟩
theorem ShL.cons {d : D} {ds : List D} {a b i j : Nat} (h : Sh d a i) (t : ShL ds b j) : ShL (d :: ds) (a + 2 + b) (max i j) := ⟨by
  show (isP d && isPL ds) = true
  rw [h.p, t.p]; rfl, by
  show ((pd d).showable && PyData.showableAll (pdL ds)) = true
  rw [h.s, t.s]; rfl, by
  show ((pd d).shown.length + 2) + piled (PyData.shownAll (pdL ds)) ≤ _
  have := h.l
  have := t.l
  omega, by
  show max (pd d).depth (PyData.depthAll (pdL ds)) ≤ _
  have := h.d
  have := t.d
  omega⟩
theorem Sh.mono {d : D} {n m k j : Nat} (h : Sh d n k) (a : n ≤ m) (b : k ≤ j) : Sh d m j := ⟨h.p, h.s, Nat.le_trans h.l a, Nat.le_trans h.d b⟩
theorem ShL.mono {d : List D} {n m k j : Nat} (h : ShL d n k) (a : n ≤ m) (b : k ≤ j) : ShL d m j := ⟨h.p, h.s, Nat.le_trans h.l a, Nat.le_trans h.d b⟩
theorem lit1 : ("[" : Str).length = 1 ∧ ("]" : Str).length = 1 ∧ ("(" : Str).length = 1 ∧ (")" : Str).length = 1 ∧ (",)" : Str).length = 2 ∧ ("{" : Str).length = 1 ∧ ("}" : Str).length = 1 ∧ (": " : Str).length = 2 := by decide +kernel
theorem listText_len : ∀ ts : List Str, (listText ts).length ≤ piled ts + 2
  | [] => by decide +kernel
  | t :: r => by
    have h := textFrom_length_pos r 1 (("[" : Str) ++ (if (0 : Nat) > 0 then ", " else "" : String) ++ t) (Nat.succ_pos 0)
    have e : ((("[" : Str) ++ (if (0 : Nat) > 0 then ", " else "" : String) ++ t)).length = 1 + t.length := by
      rw [len_add, len_add]; rfl
    have hX : (listText (t :: r)).length = (textFrom 0 "[" (t :: r)).length + 1 := by
      show (textFrom 0 "[" (t :: r) ++ "]").length = _
      rw [len_add]; rfl
    have hY : (textFrom 0 "[" (t :: r)).length = (textFrom 1 (("[" : Str) ++ (if (0 : Nat) > 0 then ", " else "" : String) ++ t) r).length := rfl
    rw [hX, hY, h, e, piled_cons]; omega
theorem join_len : ∀ ts : List Str, (Str.join ", " ts).length ≤ piled ts
  | [] => by decide +kernel
  | t :: r => by
    have := join_length_add (t :: r) (by simp)
    omega
theorem Sh.lst {xs : List D} {n k : Nat} (h : ShL xs n k) : Sh (.lst xs) (n + 2) (k + 1) := ⟨h.p, h.s, by
  show (listText (PyData.shownAll (pdL xs))).length ≤ _
  have := listText_len (PyData.shownAll (pdL xs))
  have := h.l
  omega, Nat.succ_le_succ h.d⟩
theorem Sh.tup {xs : List D} {n k : Nat} (h : ShL xs n k) : Sh (.tup xs) (n + 3) (k + 1) := ⟨h.p, h.s, by
  show (tupleText (PyData.shownAll (pdL xs))).length ≤ _
  have := join_len (PyData.shownAll (pdL xs))
  have := h.l
  have e := lit1
  unfold tupleText
  rw [len_add, len_add]
  split <;> omega, Nat.succ_le_succ h.d⟩
theorem rc_reprS {c : Ctx} {S : Sto} {F : D → Sto → Prop} {x d : D} {n k : Nat} (h : Vw S x d) (sh : Sh d n k) (hn : n ≤ 1000000) (hk : k ≤ 50) (q : F (.str (pd d).shown) S) : RC c (rRepr c.K) [x] S F :=
  rc_repr h sh.p sh.s (Nat.le_trans sh.l (Nat.le_trans hn szl)) (Nat.le_trans sh.d hk) q
end VS
namespace VS
open PySem L2 C8 PySem.Spec PyProof.Rows
theorem rngD_at {i : Nat} {d : D} {j : Int} (h : (rngD 0 j.toNat)[i]? = some d) : d = .int (i : Nat) ∧ (i : Int) < j := by
  have hi : i < j.toNat := by
    have := (List.getElem?_eq_some_iff.mp h).1
    unfold rngD at this
    simpa using this
  unfold rngD at h
  rw [List.getElem?_map, List.getElem?_range hi] at h
  cases h
  refine ⟨?_, by omega⟩
  show D.int (0 + (i : Int)) = D.int (i : Int)
  rw [Int.zero_add]
theorem mmB {a b l : Int} (h0 : 0 ≤ a) (h : a ≤ b) : 0 ≤ (if (if l < b then l else b) > a then (if l < b then l else b) else a) ∧ (if (if l < b then l else b) > a then (if l < b then l else b) else a) ≤ b := by
  split <;> (try split) <;> omega
/-- for k in range(max(a, min(b, len(script)))) : the cells of a law -/
theorem vi_cells {c : Ctx} {ρ : Rho} {S : Sto} {W : List D → Sto → Prop} {ns : List Int} {a b : Int} {i : Nat} (h0 : 0 ≤ a) (hab : a ≤ b) (hb : b < 1000) (hv : ρ[i]? = some (some (.rol (ns.map .int)))) (h : ∀ j : Int, 0 ≤ j → j ≤ b → W (rngD 0 j.toNat) S) :
    VI c (iRng1 (tCons (tCB rMax2 (tCons (tC (V.int a)) (tCons (tCB rMin2 (tCons (tC (V.int b)) (tCons (tCB (rLen c.K) (tCons (tVar i) tNil)) tNil))) tNil))) tNil)) ρ S W := by
  refine vi_rng1 (va_cons (ve_cb (va_cons (ve_int (va_cons (ve_cb (va_cons (ve_int (va_cons (ve_cb (va_cons (ve_var hv (va_nil (rc_lenQ (.l .r) (va_nil (rc_min2 (va_nil (rc_max2 (va_nil ?_)))))))))))))))))))
  have m := mmB (a := a) (b := b) (l := (((ns.map D.int).length : Nat) : Int)) h0 hab
  generalize (if (if (((ns.map D.int).length : Nat) : Int) < b then (((ns.map D.int).length : Nat) : Int) else b) > a then (if (((ns.map D.int).length : Nat) : Int) < b then (((ns.map D.int).length : Nat) : Int) else b) else a) = j at m ⊢
  exact ⟨j, rfl, by omega, h j m.1 m.2⟩
theorem ex_keyS {z : Str} {G : Key → Prop} (h : G (.inr z)) : ∃ k, D.str z = keyD k ∧ G k := ⟨.inr z, rfl, h⟩
theorem ex_keyI {z : Int} {G : Key → Prop} (h : G (.inl z)) : ∃ k, D.int z = keyD k ∧ G k := ⟨.inl z, rfl, h⟩
end VS
namespace VS
open PySem L2 C8 PySem.Spec PyProof.Rows
/-! ### words -/
def sp (w L : List Nat) : List (List Nat) := TL.spl [32] 0 w L
def W (z : Str) : List Str := Txt.split z " "
theorem joinL_mem (S : List Nat) (c : Nat) : ∀ ps : List (List Nat), c ∈ TL.joinL S ps → c ∈ S ∨ ∃ p ∈ ps, c ∈ p
  | [], h => by cases h
  | [p], h => .inr ⟨p, List.mem_cons_self .., h⟩
  | p :: q :: r, h => by
    have h' : c ∈ p ++ (S ++ TL.joinL S (q :: r)) := h
    rcases List.mem_append.mp h' with h1 | h1
    · exact .inr ⟨p, List.mem_cons_self .., h1⟩
    · rcases List.mem_append.mp h1 with h2 | h2
      · exact .inl h2
      · rcases joinL_mem S c (q :: r) h2 with h3 | ⟨p', h3, h4⟩
        · exact .inl h3
        · exact .inr ⟨p', List.mem_cons_of_mem _ h3, h4⟩
theorem joinL_len' (S : List Nat) {m : Nat} : ∀ ps : List (List Nat), (∀ p ∈ ps, p.length ≤ m) → (TL.joinL S ps).length ≤ ps.length * (m + S.length)
  | [], _ => by simp [TL.joinL]
  | [p], h => by
    have := h p (List.mem_cons_self ..)
    show p.length ≤ 1 * _
    omega
  | p :: q :: r, h => by
    have ih := joinL_len' S (q :: r) fun x hx => h x (List.mem_cons_of_mem _ hx)
    have := h p (List.mem_cons_self ..)
    show (p ++ (S ++ TL.joinL S (q :: r))).length ≤ _
    rw [List.length_append, List.length_append]
    have e : (p :: q :: r).length * (m + S.length) = (q :: r).length * (m + S.length) + (m + S.length) := by
      rw [List.length_cons, Nat.succ_mul]
    omega
theorem Asc.join {n m k : Nat} {x : Str} {ys : List Str} (hx : Asc k x) (h : ∀ y ∈ ys, Asc m y) (hl : ys.length ≤ n) : Asc (n * (m + k)) (Txt.join x ys) := by
  have e : (Txt.join x ys).cps.toList = TL.joinL (TL.tl x) (ys.map TL.tl) := (congrArg TL.tl (TL.join_eq x ys)).trans (TL.tl_join x ys)
  refine ⟨?_, fun c hc => ?_⟩
  · rw [← str_len, e]
    have q := joinL_len' (TL.tl x) (m := m) (ys.map TL.tl) fun p hp => by
      obtain ⟨y, hy, rfl⟩ := List.mem_map.mp hp
      exact Nat.le_trans (Nat.le_of_eq (str_len y)) (h y hy).1
    refine Nat.le_trans q ?_
    rw [List.length_map]
    have hk : (TL.tl x).length ≤ k := Nat.le_trans (Nat.le_of_eq (str_len x)) hx.1
    exact Nat.mul_le_mul hl (by omega)
  · rw [e] at hc
    rcases joinL_mem _ _ _ hc with q | ⟨p, hp, q⟩
    · exact hx.2 c q
    · obtain ⟨y, hy, rfl⟩ := List.mem_map.mp hp
      exact (h y hy).2 c q
/-! ### text * int, list * int, extend, split by value -/
section
variable {c : Ctx} {ρ : Rho} {S : Sto} {F : D → Sto → Prop} {d : D}
theorem RepL.rep {K : PySem.W.Frag} {H : Hp} {T : Sto} {xs : List V} {ds : List D} (r : RepL K H T xs ds) : ∀ n : Nat, RepL K H T (List.replicate n xs).flatten (List.replicate n ds).flatten
  | 0 => .nil
  | n + 1 => by
    rw [List.replicate_succ, List.replicate_succ, List.flatten_cons, List.flatten_cons]
    exact r.append (RepL.rep r n)
theorem rm_splitV {a b : Str} (hb : (b.length == 0) = false) (hl : a.length + 2 ≤ sizeLine) (q : F (.lst ((Txt.split a b).map D.str)) S) : RM c rSplit (.str a) [.str b] S F := fun T u us H cl r1 r2 Q k => by
  cases r1
  cases r2 with
  | cons h1 t =>
    cases t
    cases h1
    exact ⟨a, b, rfl, rfl, hb, hl, fun p hp => k _ _ S T _ (mv_new hp) (cl.new hp) (.lst (cl.free hp) upd_same RepL.ofStrs) q⟩
theorem rm_extend {l : Addr} {ds es : List D} {x : D} (h : S l = some (.lst ds)) (h2 : IsA S x es) (hl : ds.length + es.length ≤ sizeLine) (q : F .non (put S l (.lst (ds ++ es)))) : RM c rExtend (.ref l) [x] S F := fun T u us H cl r1 r2 Q k => by
  cases r1
  cases r2 with
  | cons h1 t =>
    cases t
    obtain ⟨xs, hx, rx⟩ := cl.ok _ _ (cl.at h)
    obtain ⟨b, zs, rfl, s', r'⟩ := h2.rd cl h1
    have w := mv_wr (H := H) (d := .lst (ds ++ es)) (o := .lst (xs ++ zs)) (cl.at h)
    exact ⟨l, b, xs, zs, rfl, rfl, hx, s', by rw [rx.length, r'.length]; exact hl, k _ _ _ _ _ w (cl.wr (cl.at h) (cell_l upd_same ((rx.append r').mv w))) .non q⟩
end
/-- all that was there is there -/
def Ext (S S' : Sto) : Prop := ∀ q d, S q = some d → S' q = some d
theorem Ext.refl {S : Sto} : Ext S S := fun _ _ h => h
theorem Ext.trans {S S' S'' : Sto} (a : Ext S S') (b : Ext S' S'') : Ext S S'' := fun q d h => b q d (a q d h)
theorem Ext.put {S : Sto} {p : Addr} {d : D} (h : S p = none) : Ext S (put S p d) := fun q e hq => by
  rw [put_ne]
  · exact hq
  · intro z; subst z; rw [h] at hq; cases hq
theorem Ext.wr {S S' : Sto} {p : Addr} {d : D} (h : S p = none) (x : Ext S S') : Ext S (VS.put S' p d) := fun q e hq => by
  rw [put_ne]
  · exact x q e hq
  · intro z; subst z; rw [h] at hq; cases hq
theorem atI_mem {α : Type} {xs : List α} {i : Int} (h0 : 0 ≤ i) (h1 : i < xs.length) : ∃ x ∈ xs, atI xs i = some x := by
  obtain ⟨k, rfl⟩ := Int.eq_ofNat_of_zero_le h0
  have hk : k < xs.length := Int.ofNat_lt.mp h1
  exact ⟨xs[k], List.getElem_mem hk, atI_nat (List.getElem?_eq_getElem hk)⟩
/-- all that was there, but for what lies at p, is there -/
def Ex1 (p : Addr) (S S' : Sto) : Prop := ∀ q d, q ≠ p → S q = some d → S' q = some d
theorem Ex1.refl {p : Addr} {S : Sto} : Ex1 p S S := fun _ _ _ h => h
theorem Ex1.trans {p : Addr} {S S' S'' : Sto} (a : Ex1 p S S') (b : Ex1 p S' S'') : Ex1 p S S'' := fun q d h e => b q d h (a q d h e)
theorem Ext.ex1 {p : Addr} {S S' : Sto} (a : Ext S S') : Ex1 p S S' := fun q d _ e => a q d e
theorem Ex1.wr {S S' : Sto} {p l : Addr} {d : D} (h : S l = none) (x : Ex1 p S S') : Ex1 p S (VS.put S' l d) := fun q e n hq => by
  rw [put_ne]
  · exact x q e n hq
  · intro z; subst z; rw [h] at hq; cases hq
/-- within a comprehension's block: K named -/
theorem kC {X : Cx} {K : PySem.W.Frag} {v : Value} {r : PySem.W.Frag → CR1} (c : CallR X v (r X.K)) (h : X.K = K := by rfl) : CallR X v (r K) := h ▸ c
theorem kI {X : Cx} {K : PySem.W.Frag} {r : PySem.W.Frag → R2} (c : IxR X (r X.K)) (h : X.K = K := by rfl) : IxR X (r K) := h ▸ c
theorem kO {X : Cx} {K : PySem.W.Frag} {f : Value → Value → Sem Value} {r : PySem.W.Frag → R2} (c : OpR X f (r X.K)) (h : X.K = K := by rfl) : OpR X f (r K) := h ▸ c
theorem ShL.uncons {d : D} {ds : List D} {n k : Nat} (h : ShL (d :: ds) n k) : ∃ a b, Sh d a k ∧ ShL ds b k ∧ a + 2 + b ≤ n := by
  have hp : (isP d && isPL ds) = true := h.p
  have hs : ((pd d).showable && PyData.showableAll (pdL ds)) = true := h.s
  have hl : ((pd d).shown.length + 2) + piled (PyData.shownAll (pdL ds)) ≤ n := h.l
  have hd : max (pd d).depth (PyData.depthAll (pdL ds)) ≤ k := h.d
  rw [Bool.and_eq_true] at hp hs
  exact ⟨_, _, ⟨hp.1, hs.1, Nat.le_refl _, by omega⟩, ⟨hp.2, hs.2, Nat.le_refl _, by omega⟩, hl⟩
theorem ShL.append : ∀ {xs ys : List D} {a b k : Nat}, ShL xs a k → ShL ys b k → ShL (xs ++ ys) (a + b) k
  | [], ys, a, b, k, _, h => h.mono (by omega) (Nat.le_refl _)
  | x :: xs, ys, a, b, k, h, h2 => by
    obtain ⟨c, e, h3, h4, h5⟩ := h.uncons
    exact ((ShL.cons h3 (ShL.append h4 h2)).mono (by omega) (by omega))
end VS
namespace VS
open PySem L2 C8 PySem.Spec PyProof.Rows
/-! ### x in a tuple of data -/
def rInP (K : PySem.W.Frag) : R2 := fun x y H Q => ∃ d ds T, Rep K H T x d ∧ Rep K H T y (.tup ds) ∧ isP d = true ∧ isP (.tup ds) = true ∧ SeqAt.shaped (pd d) = true ∧ SeqAt.shaped (pd (.tup ds)) = true ∧ Q (.bl ((pdL ds).any fun z => PyData.eqv z (pd d))) H
section
variable {X : Cx} {k : Nat}
theorem op_inP (hr : Room k X.A) (hs : SysOk X.base) : OpR X (compareOp .In) (rInP X.K) := by
  intro pins s σ H x y v u Q I rx ry h
  obtain ⟨d, ds, T, r1, r2, i1, i2, s1, s2, q⟩ := h
  obtain ⟨as, h1, _⟩ := Rep.reads hs I d x v r1 i1 rx
  obtain ⟨bs, h2, _⟩ := Rep.reads hs I (.tup ds) y u r2 i2 ry
  have hu : X.A.units + 65 < cLine := by have := hr.un; omega
  exact SeqAt.in_tuple_reads h2 h1 (SeqAt.canLay_of_shaped s2) (SeqAt.canLay_of_shaped s1) (room_in_shaped s1 hu) ⟨.bl _, H, I, rfl, q⟩
end
section
variable {c : Ctx} {S : Sto} {F : D → Sto → Prop}
theorem rv_inP {d : D} {ds : List D} (i1 : isP d = true) (i2 : isP (.tup ds) = true) (s1 : SeqAt.shaped (pd d) = true) (s2 : SeqAt.shaped (pd (.tup ds)) = true) (q : F (.bl ((pdL ds).any fun z => PyData.eqv z (pd d))) S) : RV c (rInP c.K) d (.tup ds) S F := fun T u w H cl r1 r2 Q k =>
  ⟨d, ds, T, r1, r2, i1, i2, s1, s2, k _ _ S T H Mv.refl cl (.bl _) q⟩
end
theorem asc_ok {z : Str} (h : ∀ c ∈ z.cps.toList, c < 128) : (pd (.str z)).canLay0 = true := by
  show z.cps.all (· < 0x110000) = true
  rw [← Array.all_toList]
  exact List.all_eq_true.mpr fun c hc => decide_eq_true (Nat.lt_trans (h c hc) (by decide))
theorem kFld {X : Cx} {K : PySem.W.Frag} {e : Expr} {f : Str} {to : TE} (c : PE X e (tFld X.K to f)) (h : X.K = K := by rfl) : PE X e (tFld K to f) := h ▸ c
section
variable {c : Ctx} {ρ : Rho} {S : Sto} {F : D → Sto → Prop}
theorem ve_dnew (q : F (.dK []) S) : VE c tDNewK ρ S F := fun T σ H I Q k => fun p hp =>
  k _ (.dK []) S T _ (mv_new hp) (I.cells.new hp) (.dK (I.cells.free hp) (.inl upd_same) .nil) q
end
theorem kTup {X : Cx} {K : PySem.W.Frag} {e : Expr} {n : Nat} {t : TGs} (c : PG X e (gTup X.K n t)) (h : X.K = K := by rfl) : PG X e (gTup K n t) := h ▸ c
end VS
namespace VS
open PySem L2 PySem.Spec PyProof.Rows
/-! ### own exception classes over any exception of the language -/
/-- what the written part's chain bm of classes (made by nid) must have -/
structure BmG (bm : List Value) (nid : String) : Prop where
  fact : ∃ B ini bmB, ExcBaseFacts B nid ini bmB ∧ bm.contains (.type B) = true
  noA : bm.contains (.type "AttributeError") = false
  noN : bm.contains (.type "NameError") = false
  obj : bm.contains (.type "object") = true
  pass : ∀ self, refuseLoop self "__setattr__" bm = pure ()
theorem BmG.ne {bm : List Value} {nid : String} (b : BmG bm nid) : bm.isEmpty = false := by
  cases bm with
  | nil => exact absurd b.obj (by decide)
  | cons _ _ => rfl
theorem BmG.up {bm : List Value} {nid : String} {c : Addr} (b : BmG bm nid) : BmG (.ref c :: bm) nid := by
  have k : ∀ X : String, (Value.ref c :: bm).contains (.type X) = bm.contains (.type X) := fun X => by rw [List.contains_cons]; rfl
  obtain ⟨B, ini, bmB, F, h⟩ := b.fact
  exact ⟨⟨B, ini, bmB, F, (k B).trans h⟩, (k _).trans b.noA, (k _).trans b.noN, (k _).trans b.obj, fun self => by rw [refuseLoop_ref]; exact b.pass self⟩
theorem bmG_VE : BmG [.type "ValueError", .type "Exception", .type "BaseException", .type "object"] "ValueError.__new__" := ⟨⟨_, _, _, F.excBase_ValueError, by decide +kernel⟩, by decide +kernel, by decide +kernel, by decide +kernel, fun self => by kernel_rfl⟩
theorem bmG_KE : BmG [.type "KeyError", .type "LookupError", .type "Exception", .type "BaseException", .type "object"] "LookupError.__new__" := ⟨⟨_, _, _, F.excBase_LookupError, by decide +kernel⟩, by decide +kernel, by decide +kernel, by decide +kernel, fun self => by kernel_rfl⟩
structure OexG (K : PySem.W.Frag) (C : Addr) : Prop where
  cls : ∃ nm q N bs bm sn sub ab col dd k0 k1 k2 k3 k5 nid, K.lookup C = some (excClassObj nm q C N bs bm true sn sub ab col dd k0 k1 k2 k3 k5 nid) ∧ BmG bm nid
  sa : PySem.W.findIn K (.ref C) "__setattr__" = some (some (.builtin "object.__setattr__"))
  exC : PySem.W.subIn K (.ref C) (.type "BaseException") = some true
  tyC : PySem.W.typeIn K (.ref C) = some (.type "type")
  kC : PySem.W.keepIn K (.ref C) = true
end VS
namespace PySem
namespace VSX
open VS HandSPX Builtin PySem.Calls
section
variable {M : Model} {prog : Program} {w : World} {A : Around} {E : Value → Shared → Prop} {R : Result → Shared → Prop} {h : Heap} {g : Array GenState} {d : Drawn} {t : Nat} {os : OsState}
variable {nm q : Str} {C N : Addr} {bs bm : List Value} {hdct : Bool} {sn : List Str} {sub : List Value} {ab : Bool} {col : Option Bool} {dd : Option Addr} {k0 k1 k2 k3 k5 : Option Value} {nid : String}
theorem upC {bm : List Value} {X : String} {v : Bool} {C : Addr} (e : bm.contains (.type X) = v) : (Value.ref C :: bm).contains (.type X) = v := by rw [List.contains_cons, e]; rfl
theorem new_ownG (b : BmG bm nid) {rest : List Value} (hC : h.get? C = some (excClassObj nm q C N bs bm hdct sn sub ab col dd k0 k1 k2 k3 k5 nid))
    (hq : R (.ok (.ret (.ref (h.objs.size + 1)))) ⟨(h.push (PySem.W.kdv_tup rest)).push (excO C h.objs.size), g, d, t, os⟩) (hrest : rest.length ≤ sizeLine) :
    codeAny (model prog w) A (.builtin nid ⟨.ref C :: rest, []⟩) R ⟨h, g, d, t, os⟩ := by
  obtain ⟨B, ini, bmB, F, hB⟩ := b.fact
  have hcB := upC (C := C) hB
  have hcA := upC (C := C) b.noA
  have hcN := upC (C := C) b.noN
  have hends := F.ends
  refine codeAny_builtinAt F.entry ?_
  unfold Builtin.«BaseException.__new__»
  refine wpAt_bind ?_
  show wpAt _ _ _ (stack >>= _) _ _ _
  refine wpAt_bind (wpAt_stack fun p below => wpAt_of_wpAny ?_)
  wp_walk
  refine wpAt_of_wpAny ?_
  rw [F.owner]
  repeat (first | with_reducible refine wpAny_madeHere_exc F.canon hC ?_ | with_reducible refine wpAny_loadPart_at hC ?_ | (with_reducible refine wpAny_isSubtype_exc hC ?_; first | rw [hcB] | rw [hcA] | rw [hcN]) | wp_step)
  show R _ _
  rw [Heap.size_push]
  exact hq
theorem type_callG (b : BmG bm nid) {rest : List Value} {fI : Addr} {Q : Fin → Shared → Prop}
    (hC : h.get? C = some (excClassObj nm q C N bs bm hdct sn sub ab col dd k0 k1 k2 k3 k5 nid))
    (hi : PySem.W.Looks (model prog w) h (typeLookup (.ref C) "__init__") (some (.ref fI))) (hb : ∀ self, PySem.W.Looks (model prog w) h (bindSpecial (.ref fI) self) (.ref fI, [self])) (hrest : rest.length ≤ sizeLine)
    (hq : codeAny (model prog w) A (.call (.ref fI) ⟨.ref (h.objs.size + 1) :: rest, []⟩)
      (fun r s' => match r with | .ok (.ret v) => v = .none ∧ Q (.done (.ret (.ref (h.objs.size + 1)))) s' | .ok _ => False | .error e => E e s')
      ⟨(h.push (PySem.W.kdv_tup rest)).push (excO C h.objs.size), g, d, t, os⟩) :
    wpAny (model prog w) A (Builtin.«type.__call__» ⟨.ref C :: rest, []⟩) Q E ⟨h, g, d, t, os⟩ := by
  obtain ⟨B, ini, bmB, F, hB⟩ := b.fact
  have hcB := upC (C := C) hB
  have hcA := upC (C := C) b.noA
  have hcN := upC (C := C) b.noN
  repeat (first | with_reducible refine wpAny_loadPart_at hC ?_ | with_reducible refine wpAny_madeBy_exc hC ?_ | wp_step)
  refine codeAny_call_builtin_code (Code.quiet_builtin _ F.quiet) ?_
  have hstar := F.noStar
  simp only [checkBuiltinCall, F.newKind, F.newSplit, F.newRow]
  repeat (first | refine wpAny_loadPart_at hC ?_ | (refine wpAny_isSubtype_exc hC ?_; rw [hcB]) | refine wpAny_staticBase_exc hC ?_ | refine wpAny_madeBy_exc hC ?_ | simp only [bne_self_eq_false, Bool.false_eq_true, if_false] | wp_step)
  refine new_ownG b hC ?_ hrest
  show wpAny _ _ _ _ _ _
  have k : ∀ b o, h.get? b = some o → ((h.push (PySem.W.kdv_tup rest)).push (excO C h.objs.size)).get? b = some o := fun b o e => Heap.get?_push_of_some _ (Heap.get?_push_of_some _ e)
  have hC₁ := k _ _ hC
  have hget : ((h.push (PySem.W.kdv_tup rest)).push (excO C h.objs.size)).get? (h.objs.size + 1) = some (excO C h.objs.size) := by heap_get
  have hcC : (Value.ref C :: bm).contains (.ref C) = true := by simp
  have i1 := hi.keeps k
  have b1 := (hb (.ref (h.objs.size + 1))).keeps k
  unfold isInstance
  repeat (first | with_reducible refine wpAny_loadPart_at hget ?_ | (with_reducible refine wpAny_isSubtype_exc hC₁ ?_; rw [hcC]) | wp_step)
  show wpAny _ _ (typeLookup (.ref C) _) _ _ _
  refine i1.at ?_
  refine wpAny_holding (wpAny_bind (b1.at ?_))
  refine wpAny_bind (wpAny_call (codeAny_mono hq fun r s' z => ?_))
  rcases r with e | (v | _ | _ | _) <;> first | exact z | exact z.elim | skip
  obtain ⟨rfl, z⟩ := z
  first
    | exact wpAny_pure (wpAny_pure z)
    | (wp_walk; exact z)
theorem call_ownG (b : BmG bm nid) {rest : List Value} {fI : Addr}
    (hC : h.get? C = some (excClassObj nm q C N bs bm hdct sn sub ab col dd k0 k1 k2 k3 k5 nid))
    (hi : PySem.W.Looks (model prog w) h (typeLookup (.ref C) "__init__") (some (.ref fI))) (hb : ∀ self, PySem.W.Looks (model prog w) h (bindSpecial (.ref fI) self) (.ref fI, [self])) (hrest : rest.length ≤ sizeLine)
    (hq : codeAny (model prog w) (A.under (.builtin "type.__call__" ⟨.ref C :: rest, []⟩)) (.call (.ref fI) ⟨.ref (h.objs.size + 1) :: rest, []⟩) (PySem.W.InitBack (h.objs.size + 1) R)
      ⟨(h.push (PySem.W.kdv_tup rest)).push (excO C h.objs.size), g, d, t, os⟩) :
    codeAny (model prog w) A (.call (.ref C) ⟨rest, []⟩) R ⟨h, g, d, t, os⟩ := by
  have f1 := tc_lookup
  have f2 := tc_bind (.ref C)
  have hTy : (⟨h, g, d, t, os⟩ : Shared).TypeIs (.ref C) "type" := ⟨_, hC, rfl⟩
  refine codeAny_of_tree ?_
  show wpAny _ _ (callAny (.ref C) _) _ _ _
  repeat (any_goals (first | assumption | with_reducible refine wpAny_loadPart_at hC ?_ | wp_step))
  refine ⟨rfl, ?_⟩
  refine codeAny_call_builtin_at (Code.quiet_builtin _ (by decide +kernel)) entry_typeCall (wpAny_check_type_call_sub hC (type_callG b hC hi hb hrest ?_))
  refine codeAny_mono hq fun r s' z => ?_
  rcases r with e | (v | _ | _ | _) <;> exact z
end
section
open Builtin.ObjectAttr
variable {prog : Program} {w : World} {A : Around} {E : Value → Shared → Prop} {R : Result → Shared → Prop} {hp : Heap} {g : Array GenState} {d : Drawn} {t : Nat} {os : OsState}
theorem exc_osaG {K : W.Frag} {name : Str} {tk : Tok} {v : Value} {x C : Addr} {fv : Array Value} {cd : ClassData} {nid : String} {bm : List Value}
    (X : K.In hp) (hx : hp.get? x = some { cls := .ref C, data := .fields fv }) (hcd : W.clsIn K C = some cd) (b : BmG bm nid) (hm : cd.mro = .ref C :: bm) (hh : cd.hasDict = true) (ha : W.findIn K (.ref C) name = some none)
    (hq : ∀ h' tk' dx, (∀ b o, b ≠ x → hp.get? b = some o → h'.get? b = some o) → hp.objs.size ≤ dx → dx ≠ x → h'.get? x = some { cls := .ref C, dict := some dx, data := .fields fv } →
      h'.Ns1 dx (fun y => if y = name then some v else none) → R (.ok (.ret .none)) ⟨h', g, d, tk', os⟩) :
    codeAny (model prog w) A (.call (.builtin "object.__setattr__") ⟨[.ref x, .str name tk, v], []⟩) R ⟨hp, g, d, t, os⟩ := by
  have I : W.InstAt hp x { cls := .ref C, data := .fields fv } C none := ⟨hx, rfl, rfl, trivial⟩
  have SF := F.store_object
  have ne : cd.mro.isEmpty = false := by rw [hm]; rfl
  have hob : cd.mro.contains (.type "object") = true := by rw [hm]; exact b.up.obj
  have hps : refuseLoop (.ref x) "__setattr__" cd.mro = pure () := by rw [hm]; exact b.up.pass _
  have hxs : x ≠ hp.objs.size := Nat.ne_of_lt (Heap.lt_size hx)
  have sub : W.Looks (model prog w) hp (isInstance (.ref x) (.type "object")) true := I.type.andThen (W.looks_mroIn X (by unfold W.mroIn; rw [hcd, Option.bind_some, if_neg (by rw [ne]; decide), hob]))
  refine codeAny_call_builtin SF.slot.plain SF.entry (@W.check_slot (model prog w) _ _ ⟨hp, g, d, t, os⟩ "object.__setattr__" "object" "__setattr__" (.ref x) [.str name tk, v] [] _ SF.kind SF.split sub (SF.args (.ref x) (.str name tk) v) ?_)
  have hmr : W.Looks (model prog w) hp (mroOf (.ref C)) cd.mro := (W.looks_clsIn X hcd).andThen .now
  have L3 : W.Looks (model prog w) hp (storeTaker? none) none := .now
  have hcls : W.Looks (model prog w) hp (classData C) cd := W.looks_clsIn X hcd
  rw [W.osa_eq, refuse_eq]
  refine wpAny_bind (wpAny_bind (I.type.at (wpAny_bind (hmr.at ?_))))
  rw [hps]
  refine wpAny_pure (wpAny_bind (I.type.at (wpAny_bind ((W.looks_findIn X ha).at (wpAny_bind (L3.at ?_))))))
  show wpAny _ _ (storeInOwnDict (.ref x) (.ref C) (.str name tk) name v false) _ _ _
  obtain ⟨nm, bs, mro, ns, qn, hd, sn, sb, ab, col, del⟩ := cd
  dsimp only at hh
  subst hh
  unfold storeInOwnDict ownDictForStores
  repeat (first | with_reducible refine store_in_new ?_ ?_ | with_reducible refine wpAny_loadPart_at hx ?_ | with_reducible refine hcls.at ?_ | wp_step)
  · exact ⟨_, #[], _, (Heap.get?_update_ne _ _ _ _ hxs.symm).trans (Heap.get?_push_at rfl rfl), rfl, fun e he => absurd he (by simp), fun _ => rfl⟩
  · intro h' tk' hn' hs
    have hx₁ : (hp.push { cls := .type "dict", data := .dict #[] }).get? x = some { cls := .ref C, data := .fields fv } := Heap.get?_push_of_some _ hx
    refine hq h' tk' hp.objs.size (fun b o hb ho => ?_) (Nat.le_refl _) hxs.symm ?_ hn'
    · exact (hs.2 b (Nat.ne_of_lt (Heap.lt_size ho))).trans ((Heap.get?_update_ne _ _ _ _ hb).trans (Heap.get?_push_of_some _ ho))
    · exact (hs.2 x hxs).trans (Heap.get?_update_self _ hx₁ rfl)
end
end VSX
end PySem
namespace VS
open PySem L2 PySem.Spec PyProof.Rows PySem.VSX
theorem ost_newG {X : Cx} {pins : List (Addr × Obj)} {σ : L2.St} {H : Hp} {s : Shared} {a C : Addr} {f : Str} {y : V} {u : Value} {Q : Unit → Shared → Prop} {E : Value → Shared → Prop} {A : Around} (T : OexG X.K C) (I : Inv X pins σ H s) (e : H a = some (exo a C none)) (hno : PySem.W.findIn X.K (.ref C) f = some none) (ry : RelV y u)
    (h : ∀ dx s', H dx = none → dx ≠ a → Inv X pins σ (upd (upd H dx (exd dx [(f, y)])) a (exo a C (some dx))) s' → Q () s') : wpAny (model X.prog X.w) A (setAttr (.ref a) f u) Q E s := by
  obtain ⟨nm, q, N, bs, bm, sn, sub, ab, col, dd, k0, k1, k2, k3, k5, nid, hC, hbm⟩ := T.cls
  have hcl : PySem.W.clsIn X.K C = some { name := nm, bases := bs, mro := .ref C :: bm, ns := N, qualname := q, hasDict := true, slotNames := sn, subclasses := sub, abstract := ab, collection := col, hasDel := false } := by unfold PySem.W.clsIn; rw [hC] <;> rfl
  obtain ⟨t1, ho⟩ := exo_at I.hok e
  obtain ⟨hp, g, d, t, os⟩ := s
  refine PySem.W.set_plain I.kIn (ox := { cls := .ref C, dict := none, data := .fields #[.ref t1, .none, .none, .none, .bool false, .none] }) (od := none) ⟨ho, rfl, rfl, trivial⟩ T.sa ?_
  refine exc_osaG I.kIn ho hcl hbm rfl rfl hno (fun h' tk' dx k dn dne hx hn => ?_)
  have hnd : H dx = none := I.hok.fresh dn
  have nd : ∀ {b : Addr} {o : Obj}, hp.get? b = some o → b ≠ dx := fun {b o} q => Nat.ne_of_lt (Nat.lt_of_lt_of_le (Heap.lt_size q) dn)
  have na : ∀ {b : Addr}, H b = none → b ≠ a := fun {b} n z => by
    rw [z, e] at n
    cases n
  have Un1 : Un X.fs [] H (upd (upd H dx (exd dx [(f, y)])) a (exo a C (some dx))) hp h' := {
    keep := fun b o q n _ _ => k b o (na n) q
    slot := fun b o q n _ _ => ⟨o.slots, k b o (na n) q⟩
    free := fun b o q n _ => by rw [upd_ne (na n), upd_ne (nd q)]; exact n
    there := fun b o q _ => by
      by_cases hb : b = a
      · exact ⟨_, by rw [hb]; exact hx⟩
      · exact ⟨o, k b o hb q⟩
    tups := fun b xs q => by rw [upd_ne (at_ne e q exo_tup), upd_ne (ne_of_none q hnd)]; exact q
    frzs := fun b o v q => by rw [upd_ne (at_ne e q exo_frz), upd_ne (ne_of_none q hnd)]; exact q
    tbls := fun b ps q => ⟨#[], by rw [upd_ne (at_ne e q exo_tbl), upd_ne (ne_of_none q hnd), q]; simp⟩ }
  refine h dx _ hnd dne (I.un (t' := tk') Un1 fun b o q => ?_)
  by_cases hb : b = a
  · subst hb
    rw [upd_same] at q
    cases q
    exact exo_ok hx
  · rw [upd_ne hb] at q
    by_cases hd : b = dx
    · subst hd
      rw [upd_same] at q
      cases q
      exact exd_ok hn (relO_put (fs := []) ry fun g => True.intro)
    · rw [upd_ne hd] at q
      exact (I.hok b o q).stay (fun c v hc z => k c v (by
          rcases hc with hc | hc
          · rw [hc]
            exact hb
          · exact at_ne e hc exo_own) z)
        (fun c hc => by rw [upd_ne (at_ne e hc exo_own), upd_ne (ne_of_none hc hnd)]; exact hc) (fun c xs hc => by rw [upd_ne (at_ne e hc exo_tup), upd_ne (ne_of_none hc hnd)]; exact hc)
/-- self.f = e, the only field -/
def tOstG (K : PySem.W.Frag) (f : Str) (to te : TE) : TS := fun D σ H => te σ H fun y H1 => to σ H1 fun x H2 => ∃ a C : Addr, x = .ref a ∧ OexG K C ∧ PySem.W.findIn K (.ref C) f = some none ∧
  H2 a = some (exo a C none) ∧ ∀ dx, H2 dx = none → dx ≠ a → D.nx σ (upd (upd H2 dx (exd dx [(f, y)])) a (exo a C (some dx)))
section
variable {X : Cx} {o e : Expr} {es : List Expr} {to te : TE} {ta : TA} {f : Str} {p p' p1 p2 pos : Pos}
theorem ps_ostG (ho : PE X o to) (he : PE X e te) (hs : swapsWith e (some (.Attribute o f p')) pos.line X.env = pure false := by rfl) : PS X (.Assign [.Attribute o f p'] e pos) (tOstG X.K f to te) := by
  refine ⟨fun pins s σ H D I h => ?_⟩
  refine plainObj_wpAny_Assign_Attribute (thn (he.run pins s σ H _ I h) fun v s1 ⟨y, H1, I1, r1, q1⟩ => thn (ho.run pins s1 σ H1 _ I1 q1) fun u s2 ⟨x, H2, I2, r2, a, C, ex, T, hno, ea, q⟩ => ?_) hs
  subst ex
  obtain rfl : u = Value.ref a := r2
  exact ost_newG T I2 ea hno r1 fun dx s' n ne J => ⟨σ, _, J, q dx n ne⟩
theorem pmk_oexG {CX : CXT} {x : Str} {C fI : Addr} {k : Nat} {fd : FuncData} {ps : List Str} {sp : Sp} {ds : List Value} {dvs : List V} (T : OexG X.K C) (iC : PySem.W.findIn X.K (.ref C) "__init__" = some (some (.ref fI))) (tI : PySem.W.typeIn X.K (.ref fI) = some (.type "function"))
    (F1 : FnOk X.prog X.w X.K X.mg X.base CX k fI fd ps sp) (hr : Room (k + 1) X.A) (hb : Binds X.K fd ps ds) (hd : Vals dvs ds) (hx : Passes CX X (fun _ _ _ => False)) (hg : Gl X x) (hm : X.mg x = some (.ref C)) (ha : PA X (e :: es) ta)
    (hdb : (x == ("__debug__" : Str)) = false := by decide) (he : starEach (e :: es) X.env = (false, eval e X.env) :: starEach es X.env := by rfl) (hpl : (backTo pos (starEach es X.env)).any (·.1) = false := by rfl) :
    PMk X (.Call (.Name x p) (e :: es) [] pos) (tMkO C sp dvs ta) := by
  intro pins s σ H Q I h
  obtain ⟨nm, q, N, bs, bm, sn, sub, ab, col, dd, k0, k1, k2, k3, k5, nid, hC, hbm⟩ := T.cls
  refine wpAny_Call_Name_kw (ld_glob I hg hm ?_ hdb)
  refine PySem.W.callWith_K (h₀ := X.base) I.ok.mod.kin T.kC (thn (ha.run pos pins s σ H _ I h) fun us s1 ⟨vs, H1, I1, r1, hz, q1⟩ => ⟨I1.kIn, ?_⟩) he hpl
  show wpAny _ _ (call (.ref C) us) _ _ _
  obtain ⟨hp, g, dr, tk, os⟩ := s1
  have hsz : hp.objs.size ≤ hp.objs.size + 1 := Nat.le_succ _
  have hn : H1 (hp.objs.size + 1) = none := I1.hok.fresh hsz
  have hq := q1 (hp.objs.size + 1) hn
  have kk : ∀ b o, hp.get? b = some o → ((hp.push (PySem.W.kdv_tup us)).push (PySem.HandSPX.excO C hp.objs.size)).get? b = some o := fun b o e => Heap.get?_push_of_some _ (Heap.get?_push_of_some _ e)
  have hget : ((hp.push (PySem.W.kdv_tup us)).push (PySem.HandSPX.excO C hp.objs.size)).get? (hp.objs.size + 1) = some (PySem.HandSPX.excO C hp.objs.size) := by heap_get
  have I2 : Inv X pins σ (upd H1 (hp.objs.size + 1) (exo (hp.objs.size + 1) C none)) ⟨(hp.push (PySem.W.kdv_tup us)).push (PySem.HandSPX.excO C hp.objs.size), g, dr, tk, os⟩ :=
    I1.laid (t' := tk) (a := hp.objs.size + 1) (o := exo (hp.objs.size + 1) C none) (h' := (hp.push (PySem.W.kdv_tup us)).push (PySem.HandSPX.excO C hp.objs.size)) kk hsz (exo_ok hget)
  have r2 : Vals (V.ref (hp.objs.size + 1) :: (vs ++ dvs)) (Value.ref (hp.objs.size + 1) :: (us ++ ds)) := .cons rfl (r1.append hd)
  have hl : (Value.ref (hp.objs.size + 1) :: us ++ ds).length = ps.length := by
    have e := r2.length
    rw [F1.len _ _ _ _ hq] at e
    exact e.symm
  have hus : us.length ≤ sizeLine := by
    rw [← Paired.length r1, sizeLine_eq]
    omega
  refine wpAny_call (call_ownG hbm (I1.kIn _ _ hC) (PySem.W.looks_findIn I1.kIn iC) (fun self => PySem.W.bind_fn I1.kIn self tI) hus
    (codeAny_mono (F1.run _ X.stack _ _ ⟨Value.ref (hp.objs.size + 1) :: us, []⟩ (Value.ref (hp.objs.size + 1) :: (us ++ ds)) _ _ (fun _ _ _ => False) (hr.make C us []) (I2.env0.make C us []) (hb _ (Value.ref (hp.objs.size + 1) :: us) I2.kIn hl) r2 hq) fun r s' hq' => ?_))
  cases r with
  | error er => exact hx pins σ _ _ er s' I2 hq'
  | ok fl =>
    cases fl with
    | ret u =>
      obtain ⟨v, H2, os2, bare2, un2, hok2, rv, ev, d, fs, ea, ed, hd1, q2⟩ := hq'
      subst ev
      obtain ⟨h2, g2, d2, t2, os'⟩ := s'
      exact ⟨rv, mk_end (raises_own T.exC T.tyC) I1 hsz kk un2 hok2 os2 bare2 ea ed hd1 q2⟩
    | next => exact False.elim hq'
    | brk => exact False.elim hq'
    | cont => exact False.elim hq'
end
end VS
namespace VS
open PySem L2 PySem.Spec PyProof.Rows PySem.VSX
/-! ### an own exception of one field: its class, its making, raise -/
/-- what __init__ keeps: self.f = v -/
def spXi (C : Addr) (f : Str) : Sp := fun vs H Q _ => ∃ (a : Addr) (v : V), vs = [.ref a, v] ∧ H a = some (exo a C none) ∧ ∀ dx, H dx = none → dx ≠ a → Q .non (upd (upd H dx (exd dx [(f, v)])) a (exo a C (some dx)))
/-- the class x, at C, of exceptions with the field f -/
structure Xc (P : Program) (w : World) (K : PySem.W.Frag) (mg : Str → Option Value) (base : Heap) (x : Str) (C : Addr) (f : Str) : Prop where
  ox : OexG K C
  xf : XfC K C
  no : PySem.W.findIn K (.ref C) f = some none
  at_ : mg x = some (.ref C)
  fn : ∃ (fI : Addr) (fd : FuncData) (ps : List Str), PySem.W.findIn K (.ref C) "__init__" = some (some (.ref fI)) ∧ PySem.W.typeIn K (.ref fI) = some (.type "function") ∧ FnOk P w K mg base C8.CX0 1 fI fd ps (spXi C f) ∧ Binds K fd ps []
section
variable {P : Program} {w : World} {K : PySem.W.Frag} {mg : Str → Option Value} {base : Heap}
theorem xinit_ok {qual : Str} {st : Stmt} {C fI : Addr} {fd : FuncData} {f : Str} {N ps : List Str} (F : Fd K "__init__" qual st [] fI fd) (Sc : FnScope N ps (defScope st)) (h2 : ps.length = 2) (ox : OexG K C) (no : PySem.W.findIn K (.ref C) f = some none)
    (body : ∀ (cdv : Value) (A : Around) (outer : List Env) (s : Shared) (H : Hp) (E : XK), PSs (cxOf C8.CX0 P w K mg base N qual (defScope st) fI cdv A outer s H E) (defBody st) (tOstG K f (tVar 0) (tVar 1))) :
    FnOk P w K mg base C8.CX0 1 fI fd ps (spXi C f) :=
  FunD.ok F Sc (fun vs H Q E h => by obtain ⟨a, v, rfl, _⟩ := h; exact h2.symm) fun cdv A outer s H vs Q E _ h => by
    obtain ⟨a, v, rfl, ha, q⟩ := h
    exact ⟨_, body cdv A outer s H E, v, rfl, .ref a, rfl, a, C, rfl, ox, no, ha, fun dx hn ne => q dx hn ne⟩
end
def tRz (C : Addr) (f : Str) (te : TE) (W : L2.St → XK) : TS := fun _ σ H => tMkO C (spXi C f) [] (tCons te tNil) σ H fun cls d H' => W σ cls d H'
theorem ps_rz {X : Cx} {x : Str} {C : Addr} {f : Str} {e : Expr} {te : TE} {W : L2.St → XK} {p pos pos' : Pos} (tk : Takes X (fun cls d σ H => W σ cls d H)) (xc : Xc X.prog X.w X.K X.mg X.base x C f) (hr : Room 2 X.A) (hg : Gl X x) (he : PE X e te)
    (hc : X.calm = true := by rfl) (hdb : (x == ("__debug__" : Str)) = false := by decide) (hst : starEach [e] X.env = (false, eval e X.env) :: starEach [] X.env := by rfl) : PS X (.Raise (some (.Call (.Name x p) [e] [] pos)) none pos') (tRz C f te W) := by
  obtain ⟨fI, fd, ps, iC, tI, F1, b⟩ := xc.fn
  exact ps_raise hc tk (pmk_oexG xc.ox iC tI F1 hr b .nil C8.pass0 hg xc.at_ (pa_cons he pa_nil hst) hdb hst)
section
variable {c : Ctx} {ρ : Rho} {S : Sto} {P : Po}
theorem xd_heap {H1 : Hp} {a C dx : Addr} {f : Str} {v : V} (ha : H1 a = none) : upd (L2.del (upd (upd (upd H1 a (exo a C none)) dx (exd dx [(f, v)])) a (exo a C (some dx))) a) dx (.xd [(f, v)]) = upd H1 dx (.xd [(f, v)]) := by
  funext b
  by_cases z : b = dx
  · subst z; rw [upd_same, upd_same]
  · rw [upd_ne z, upd_ne z]
    by_cases y : b = a
    · subst y; rw [L2.del_same, ha]
    · rw [L2.del_ne y, upd_ne y, upd_ne z, upd_ne y]
theorem vx_raise {C : Addr} {f : Str} {te : TE} (h : VE c te ρ S fun x S1 => c.Y C [(f, x)] ρ S1) : VX c (tRz C f te c.E) ρ S P := fun T σ H I D b =>
  h T σ H I _ fun v x S1 T1 H1 m1 c1 r1 q => by
    refine ⟨(by decide : 1 ≤ 1000), fun a na => ⟨a, v, rfl, upd_same, fun dx hdx ne => ⟨rfl, dx, [(f, v)], upd_same, ?_, ?_, ?_⟩⟩⟩
    · rw [upd_ne ne, upd_same]
    · rw [upd_ne ne] at hdx; exact hdx
    · have hd : H1 dx = none := by rw [upd_ne ne] at hdx; exact hdx
      rw [xd_heap na]
      have m2 := m1.trans (mv_new (o := .xd [(f, v)]) hd)
      have cl := c1.new (o := .xd [(f, v)]) hd
      exact I.exc σ ρ C (some dx) [(f, x)] S1 T1 _ m2 cl (I.mv m2 cl).sl ⟨dx, [(f, v)], rfl, c1.free hd, upd_same, .cons (r1.mv (mv_new hd)) .nil⟩ q
/-! ### e.f in an except suite -/
theorem ve_xf {a C : Addr} {d : Option Addr} {f : Str} {te : TE} {F : D → Sto → Prop} (h : VE c te ρ S fun x S1 => ∃ dd fs e, x = .xcp a dd C fs ∧ d = some dd ∧ fs.lookup f = some e ∧ F e S1) : VE c (tXf a (.ref C) d C f te) ρ S F := fun T σ H I Q k =>
  h T σ H I _ fun v x S1 T1 H1 m1 c1 r1 ⟨dd, fs, e, e1, e2, hl, q⟩ => by
    subst e1
    cases r1 with
    | xcp s hx r =>
      obtain ⟨v, h1, h2⟩ := r.lookup hl
      exact ⟨rfl, rfl, dd, _, v, e2, hx, h1, k v e S1 T1 H1 m1 c1 h2 q⟩
end
/-! ### try: several clauses, with names or without; what stands behind them is never looked at -/
structure Cla where
  c : Value
  i : Option Nat
  t : Addr → Value → Option Addr → TS
def inSl (i : Option Nat) (a : Addr) (σ : L2.St) : L2.St := match i with
  | none => σ
  | some i => σ.set i (some (.ref a))
def offSl (i : Option Nat) (σ : L2.St) : L2.St := match i with
  | none => σ
  | some i => σ.set i none
def offE (i : Option Nat) (D : Ends) : Ends := { nx := fun σ H => D.nx (offSl i σ) H, rt := D.rt, bk := fun σ H => D.bk (offSl i σ) H, ct := fun σ H => D.ct (offSl i σ) H }
def wCla (K : PySem.W.Frag) (D : Ends) : List Cla → WX
  | [] => fun _ _ _ _ => False
  | k :: r => fun cls d σ H => ∃ b, PySem.W.exmOne K cls k.c = some b ∧ (b = true → ∀ a, H a = none → k.t a cls d (offE k.i D) (inSl k.i a σ) H) ∧ (b = false → wCla K D r cls d σ H)
/-- the suite of a clause, whatever the exception -/
abbrev SuR (X : Cx) (ss : List Stmt) (t : Addr → Value → Option Addr → TS) : Prop :=
  ∀ (a : Addr) (oe : Obj) (cls : Value) (d : Option Addr) (pn : List (Addr × Obj)), Zc cls d oe → (∃ vs, oe.data = .fields vs) → PSs (X.suite a ((a, oe) :: pn)) ss (t a cls d)
inductive Clas (X : Cx) : List ExceptHandler → List Cla → Prop
  | rest {hds : List ExceptHandler} : Clas X hds []
  | plain {x : Str} {c : Value} {t : Addr → Value → Option Addr → TS} {b₀ : Stmt} {ss : List Stmt} {p1 p2 : Pos} {hds : List ExceptHandler} {l : List Cla} (hc : Names X x c) (su : SuR X (b₀ :: ss) t) (r : Clas X hds l) :
      Clas X (.ExceptHandler (some (.Name x p1)) none (b₀ :: ss) p2 :: hds) (⟨c, none, t⟩ :: l)
  | named {x n : Str} {c : Value} {i : Nat} {t : Addr → Value → Option Addr → TS} {b₀ : Stmt} {ss : List Stmt} {p1 p2 : Pos} {hds : List ExceptHandler} {l : List Cla} (hc : Names X x c) (hi : X.N[i]? = some n) (hl : X.env.kindOf n = some .local) (su : SuR X (b₀ :: ss) t) (r : Clas X hds l) :
      Clas X (.ExceptHandler (some (.Name x p1)) (some n) (b₀ :: ss) p2 :: hds) (⟨c, some i, t⟩ :: l)
section
variable {X : Cx} {pins : List (Addr × Obj)} {σ : L2.St} {H : Hp} {sI s' : Shared} {B h3 : Heap} {a : Addr} {cls : Value} {d : Option Addr} {D : Ends}
theorem clause_name {x : Str} {c : Value} {s : Shared} {pn : List (Addr × Obj)} {p : Pos} {Q E : Value → Shared → Prop} (hc : Names X x c) (I : Inv (X.suite a pn) [] σ H s) (q : Q c s) : wpAny (model X.prog X.w) (X.A.mark (some (.ref a))) (eval (.Name x p) X.env) Q E s := by
  rcases hc with ⟨hg, hdb, hm | ⟨hm, hv, hn⟩⟩
  · exact ld_glob (X := X.suite a pn) I hg hm q hdb
  · exact ld_blt (X := X.suite a pn) I hg hm hv q hn hdb
theorem clauses_run (hN : X.N.Nodup) (J : Inv X pins σ H sI) (nb : ∀ b o, sI.heap.get? b = some o → b ∉ frs X.stack → B.get? b = some o) (up : sI.heap.UpToSlots h3) (os : s'.os = sI.os) (ag : AllBare s'.gens)
    (fl : HandSPX.FlyingZ B (X.env :: X.outer) a (Zc cls d) h3) (na : H a = none) (nL : a ≠ X.env.locals) (nF : a ∉ X.fs) {hds : List ExceptHandler} {l : List Cla} (hk : Clas X hds l) :
    wCla X.K D l cls d σ H → wpAny (model X.prog X.w) X.A (handleBy (.ref a) X.env hds) (SP X pins D) X.xe { s' with heap := h3 } := by
  have ok := J.ok
  have J3 : Inv X pins σ H { s' with heap := h3 } := J.landed nb fl.1 up os ag
  obtain ⟨oe, vs, he, hz, hd⟩ := fl.there
  have S3 := J3.suite he hd na nL nF
  have LT : PySem.W.Looks (model X.prog X.w) h3 (typeOf (.ref a)) cls := fun A Q E s k q => wpAny_typeOf_ref (k _ _ he) (by rw [hz.1]; exact q)
  induction hk with
  | rest => exact fun w => w.elim
  | plain hc su r ih =>
    rintro ⟨b, e, yes, no⟩
    refine wpAny_handleBy_cons (codeAny_handlers_test (clause_name hc S3 ((PySem.W.exm_one J3.kIn LT e).here ?_))) nofun
    cases b with
    | false => exact ih (no rfl)
    | true =>
      refine codeAny_handlers_suite (HandSPX.lands_againZ fl fun h4 fl4 up4 => ?_)
      have J4 : Inv X pins σ H { s' with heap := h4 } := J.landed nb fl4.1 (up.trans up4) os ag
      obtain ⟨oe4, vs4, he4, hz4, hd4⟩ := fl4.there
      refine wpAny_mono ((su a oe4 cls d (X.pn ++ pins) hz4 ⟨_, hd4⟩).run [] _ _ H _ (J4.suite he4 hd4 na nL nF) (yes rfl a na)) (fun f s6 q => ?_) fun _ _ z => z.elim
      cases f with
      | ret u => obtain ⟨v6, σ6, H6, S6, r6, q6⟩ := q; exact ⟨_, _, _, S6.unsuite ok, r6, q6⟩
      | next => obtain ⟨σ6, H6, S6, q6⟩ := q; exact ⟨_, _, S6.unsuite ok, q6⟩
      | brk => obtain ⟨σ6, H6, S6, q6⟩ := q; exact ⟨_, _, S6.unsuite ok, q6⟩
      | cont => obtain ⟨σ6, H6, S6, q6⟩ := q; exact ⟨_, _, S6.unsuite ok, q6⟩
  | @named x n c i t b₀ ss p1 p2 hds l hc hi hl su r ih =>
    rintro ⟨b, e, yes, no⟩
    refine wpAny_handleBy_cons (codeAny_handlers_test (clause_name hc S3 ((PySem.W.exm_one J3.kIn LT e).here ?_))) nofun
    cases b with
    | false => exact ih (no rfl)
    | true =>
      refine codeAny_handlers_suite_as (HandSPX.lands_againZ fl fun h4 fl4 up4 => ?_)
      have J4 : Inv X pins σ H { s' with heap := h4 } := J.landed nb fl4.1 (up.trans up4) os ag
      obtain ⟨oe4, vs4, he4, hz4, hd4⟩ := fl4.there
      have S4 := J4.suite he4 hd4 na nL nF
      refine store_ok (X := X.suite a ((a, oe4) :: (X.pn ++ pins))) (v := .ref a) S4 hN hi (.inl hl) rfl (fun s5 S5 => ?_) (.inr hl)
      refine wpAny_mono ((su a oe4 cls d (X.pn ++ pins) hz4 ⟨_, hd4⟩).run [] s5 _ H _ S5 (yes rfl a na)) (fun f s6 q => ?_) fun _ _ z => z.elim
      have fin : ∀ {σ6 : L2.St} {H6 : Hp} {R : Shared → Prop}, Inv (X.suite a ((a, oe4) :: (X.pn ++ pins))) [] σ6 H6 s6 → (∀ s7, Inv X pins (σ6.set i none) H6 s7 → R s7) →
          wpAny (model X.prog X.w) X.A (do bindName X.env n .none; unbindBehindTheSuite X.env n p2) (fun _ => R) X.xe s6 := fun S6 q => gone_ok (S6.unsuite ok) hN hi hl q
      cases f with
      | ret u => obtain ⟨v6, σ6, H6, S6, r6, q6⟩ := q; exact fin S6 fun s7 J7 => ⟨_, _, _, J7, r6, q6⟩
      | next => obtain ⟨σ6, H6, S6, q6⟩ := q; exact fin S6 fun s7 J7 => ⟨_, _, J7, q6⟩
      | brk => obtain ⟨σ6, H6, S6, q6⟩ := q; exact fin S6 fun s7 J7 => ⟨_, _, J7, q6⟩
      | cont => obtain ⟨σ6, H6, S6, q6⟩ := q; exact fin S6 fun s7 J7 => ⟨_, _, J7, q6⟩
theorem ps_tryC {body : List Stmt} {h₀ : ExceptHandler} {hds : List ExceptHandler} {l : List Cla} {tb : WX → TS} {pos : Pos} (hs : X.stack = X.env :: X.outer) (hf : X.env.frame = some X.env.locals) (hN : X.N.Nodup)
    (hb : ∀ (W : WX) (pn : List (Addr × Obj)) (xe : Value → Shared → Prop), Takes (X.tr pn xe) W → PassesOwn (model X.prog X.w) X.A X.env xe → PSs (X.tr pn xe) body (tb W)) (hh : Clas X (h₀ :: hds) l) :
    PS X (.Try body (h₀ :: hds) [] [] pos) (fun D σ H => tb (wCla X.K D l) D σ H) := by
  refine ⟨fun pins s σ H D I h => ?_⟩
  have ok := I.ok
  have hfr : X.A.frames = some (X.env :: X.outer) := ok.frames.trans (congrArg some hs)
  refine wpAny_Try_except (wpAny_mono ((hb (wCla X.K D l) (X.pn ++ pins) (fun e s₁ => wpAny (model X.prog X.w) X.A (noteFrame e X.env) (fun _ s₂ => wpAny (model X.prog X.w) X.A (setFlight e none) (fun _ s₃ =>
    wpAny (model X.prog X.w) X.A (handleBy e X.env (h₀ :: hds)) (SP X pins D) X.xe s₃) X.xe s₂) X.xe s₁) (fun u s' xx => ?_) PassesOwn.looking).run [] s σ H D (I.toTry _) h) (fun f s1 q => ?_) fun _ _ z => z)
  · obtain ⟨a, B, sI, _, σ', H', cls, d, rfl, J', nb, up, sky, na, os, ag, w⟩ := xx
    rw [show (X.tr (X.pn ++ pins) _).stack = X.env :: X.outer from hs] at sky
    refine Sky.land Zc.steady hfr hf sky fun h3 fl3 up3 => ?_
    obtain ⟨oe, vs, he, _, hd⟩ := fl3.there
    have nfr : a ∉ frs (X.env :: X.outer) := fun hm => by
      obtain ⟨_, o', e', hnf⟩ := fl3.2.2.1.mem hm
      cases he.symm.trans e'
      exact hnf _ hd
    refine clauses_run hN (J'.ofTry ok) nb (up.trans up3) os ag fl3 na (fun z => nfr (List.mem_filterMap.mpr ⟨X.env, List.mem_cons_self, by rw [hf, z]⟩)) (fun hm => ?_) hh w
    obtain ⟨e, m, q⟩ := List.mem_filterMap.mp hm
    exact nfr (List.mem_filterMap.mpr ⟨e, List.mem_cons_of_mem _ m, q⟩)
  · cases f with
    | ret u => obtain ⟨v, σ', H', J', r, q⟩ := q; exact ⟨v, σ', H', J'.ofTry ok, r, q⟩
    | next => obtain ⟨σ', H', J', q⟩ := q; exact wpAny_execs_nil ⟨σ', H', J'.ofTry ok, q⟩
    | brk => obtain ⟨σ', H', J', q⟩ := q; exact ⟨σ', H', J'.ofTry ok, q⟩
    | cont => obtain ⟨σ', H', J', q⟩ := q; exact ⟨σ', H', J'.ofTry ok, q⟩
end
/-! ### .. by value -/
def inR (i : Option Nat) (d : D) (ρ : Rho) : Rho := match i with
  | none => ρ
  | some i => ρ.set i (some d)
def offR (i : Option Nat) (ρ : Rho) : Rho := match i with
  | none => ρ
  | some i => ρ.set i none
def offP (i : Option Nat) (P : Po) : Po := ⟨fun ρ S => P.nx (offR i ρ) S, P.rt, fun ρ S => P.bk (offR i ρ) S, fun ρ S => P.ct (offR i ρ) S⟩
def HdV (c : Ctx) (P : Po) : List Cla → Addr → List (Str × D) → Rho → Sto → Prop
  | [], _, _, _, _ => False
  | k :: r, C, fs, ρ, S => ∃ b, PySem.W.exmOne c.K (.ref C) k.c = some b ∧ (b = true → ∀ a dd, VX c (k.t a (.ref C) (some dd)) (inR k.i (.xcp a dd C fs) ρ) S (offP k.i P)) ∧ (b = false → HdV c P r C fs ρ S)
theorem In.off {c : Ctx} {σ : L2.St} {H : Hp} {ρ : Rho} {S T : Sto} (I : In c σ H ρ S T) (i : Option Nat) : In c (offSl i σ) H (offR i ρ) S T := by
  cases i with
  | none => exact I
  | some i =>
    refine ⟨I.cells, fun j e q => ?_, by show (σ.set i none).length = (ρ.set i none).length; simp [I.len], I.exc⟩
    have q' : (ρ.set i none)[j]? = some (some e) := q
    by_cases z : i = j
    · subst z
      by_cases hv : i < ρ.length
      · rw [List.getElem?_set_self hv] at q'; cases q'
      · rw [List.getElem?_eq_none (by simpa using hv)] at q'; cases q'
    · rw [List.getElem?_set_ne z] at q'
      obtain ⟨u, h1, h2⟩ := I.slots j e q'
      exact ⟨u, by show (σ.set i none)[j]? = _; rw [List.getElem?_set_ne z]; exact h1, h2⟩
theorem Bh.off {c : Ctx} {P : Po} {D : Ends} {T : Sto} {H : Hp} (b : Bh c P D T H) (i : Option Nat) : Bh c (offP i P) (offE i D) T H :=
  ⟨fun _ _ S' T' H' m I q => b.nx _ _ S' T' H' m (I.off i) q, b.rt, fun _ _ S' T' H' m I q => b.bk _ _ S' T' H' m (I.off i) q, fun _ _ S' T' H' m I q => b.ct _ _ S' T' H' m (I.off i) q⟩
theorem vx_try {c : Ctx} {ρ : Rho} {S : Sto} {P : Po} {tb : WX → TS} {l : List Cla} (h : ∀ E' : L2.St → XK, VX ⟨c.K, E', fun C fs ρ' S' => HdV c P l C fs ρ' S'⟩ (tb (fun cls d σ H => E' σ cls d H)) ρ S P) :
    VX c (fun D σ H => tb (wCla c.K D l) D σ H) ρ S P := fun T σ H I Dn b => by
  have key : ∀ (l : List Cla) (σ' : L2.St) (ρ' : Rho) (C : Addr) (d : Option Addr) (fs : List (Str × D)) (S' T' : Sto) (H' : Hp), Mv T H T' H' → Cells c.K H' S' T' → Sl c.K H' T' σ' ρ' → XRep c.K H' T' d fs → HdV c P l C fs ρ' S' → wCla c.K Dn l (.ref C) d σ' H' := by
    intro l
    induction l with
    | nil => exact fun _ _ _ _ _ _ _ _ _ _ _ _ y => y.elim
    | cons k r ih =>
      rintro σ' ρ' C d fs S' T' H' m cl sl ⟨dd, fv, rfl, sd, hd, rf⟩ ⟨bb, e, yes, no⟩
      refine ⟨bb, e, fun z a na => ?_, fun z => ih σ' ρ' C _ fs S' T' H' m cl sl ⟨dd, fv, rfl, sd, hd, rf⟩ (no z)⟩
      have I2 : In c σ' H' ρ' S' T' := ⟨cl, sl.slots, sl.len, (I.mv m cl).exc⟩
      have rx : Rep c.K H' T' (.ref a) (.xcp a dd C fs) := .xcp sd hd rf
      have I3 : In c (inSl k.i a σ') H' (inR k.i (.xcp a dd C fs) ρ') S' T' := by
        cases k.i with
        | none => exact I2
        | some i => exact I2.set i rx
      exact yes z a dd T' _ H' I3 _ ((b.mv m).off k.i)
  have I' : In ⟨c.K, fun σ cls d H => wCla c.K Dn l cls d σ H, fun C fs ρ' S' => HdV c P l C fs ρ' S'⟩ σ H ρ S T := ⟨I.cells, I.slots, I.len, fun σ' ρ' C d fs S' T' H' m cl sl x y => key l σ' ρ' C d fs S' T' H' m cl sl x y⟩
  have b' : Bh ⟨c.K, fun σ cls d H => wCla c.K Dn l cls d σ H, fun C fs ρ' S' => HdV c P l C fs ρ' S'⟩ P Dn T H :=
    ⟨fun σ' ρ' S' T' H' m J q => b.nx σ' ρ' S' T' H' m ⟨J.cells, J.slots, J.len, (I.mv m J.cells).exc⟩ q, fun v d S' T' H' m cl r q => b.rt v d S' T' H' m cl r q,
     fun σ' ρ' S' T' H' m J q => b.bk σ' ρ' S' T' H' m ⟨J.cells, J.slots, J.len, (I.mv m J.cells).exc⟩ q, fun σ' ρ' S' T' H' m J q => b.ct σ' ρ' S' T' H' m ⟨J.cells, J.slots, J.len, (I.mv m J.cells).exc⟩ q⟩
  exact h (fun σ cls d H => wCla c.K Dn l cls d σ H) T σ H I' Dn b'
end VS
namespace VS
open PySem L2 C8 PySem.Spec PyProof.Rows
/-! ### sorted of whole numbers, of a list or a tuple -/
section
variable {prog : Program} {w : World} {A : Around} {E : Value → Shared → Prop} {s : Shared}
theorem collect_tup {t : Addr} {vs : List Value} {Q : List Value → Shared → Prop} (hl : s.heap.IsTuple t vs.toArray) (hz : vs.length ≤ sizeLine)
    (h : Q vs { s with heap := (s.heap.push (seqObj "list" #[] 0)).update s.heap.objs.size (Obj.mapSeq (· ++ vs.toArray)) }) : wpAny (model prog w) A (collect (.ref t)) Q E s := by
  obtain ⟨o, ho, hc, n, hd⟩ := id hl
  have ho' : (s.heap.push (seqObj "list" #[] 0)).get? t = some o := Heap.get?_push_of_some _ ho
  have ne : t ≠ s.heap.objs.size := Nat.ne_of_lt (Heap.lt_size ho)
  unfold collect
  refine wpAny_bind (wpAny_runValue (codeAny_builtin entry_proto_collect' ?_))
  show wpAny _ _ (newList [] >>= fun l => again (.builtin "list.__iadd__" ⟨[l, .ref t], []⟩)) _ _ s
  refine wpAny_bind (wpAny_newList (wpAny_pure ⟨Code.quiet_builtin _ (by decide +kernel), codeAny_builtin entry_list_iadd' ?_⟩))
  show wpAny _ _ (Builtin.List.listExtendWith (.ref s.heap.objs.size) (.ref t) (.ref s.heap.objs.size)) _ _ { s with heap := s.heap.push (seqObj "list" #[] 0) }
  unfold Builtin.List.listExtendWith
  refine wpAny_bind (wpAny_typeOf (T := "tuple") ⟨o, ho', hc⟩ ?_)
  have h3 : (Value.type "tuple" == Value.type "tuple") = true := by decide +kernel
  rw [if_pos (by rw [h3]; simp)]
  refine wpAny_bind (listItems_at ho' hd ?_)
  refine wpAny_bind (listItems_at (xs := #[]) (n := 0) (Heap.get?_push_size _ rfl) rfl ?_)
  rw [if_neg (by simp)]
  refine wpAny_bind (listUpdate_at (xs := #[]) (n := 0) (Heap.get?_push_size _ rfl) rfl ?_ (Nat.zero_le _) (by show (#[] ++ vs.toArray).size ≤ sizeLine + 1; simp only [Array.size_append, List.size_toArray, List.length_nil]; omega))
  refine wpAny_pure ?_
  show wpAny (model prog w) A (load s.heap.objs.size >>= fun o => match o.data with
      | .seq xs _ => pure xs.toList
      | _ => unsupported "internal:collect") Q E { s with heap := (s.heap.push (seqObj "list" #[] 0)).update s.heap.objs.size (Obj.mapSeq (· ++ vs.toArray)) }
  refine wpAny_bind (wpAny_load (get?_update_seq (Heap.get?_push_size _ rfl) _) ?_)
  show wpAny _ _ (pure ((#[] : Array Value) ++ vs.toArray).toList) Q E _
  rw [show ((#[] : Array Value) ++ vs.toArray).toList = vs by simp]
  exact wpAny_pure h
/-- sorted(x, ..): whatever x is that is collected to vs -/
theorem sorted_of {x : Value} {vs : List Value} {b : Bool} {kw : List (Str × Value)} {ltv : Value → Value → Bool} {Q : Value → Shared → Prop} (hk : ∀ a, Builtin.«list.sort» ⟨[.ref a], kw⟩ = Builtin.«list.sort» ⟨[.ref a], [(Str.ofString "reverse", .bool b)]⟩)
    (ha1 : argsOk "sorted" ⟨[x], kw⟩) (ha2 : ∀ a, argsOk "list.sort" ⟨[a], kw⟩) (O : SrtO.Swo ltv) (hz : vs.length ≤ sizeLine)
    (col : ∀ {B : Around} {R : List Value → Shared → Prop} {E' : Value → Shared → Prop}, R vs { s with heap := (s.heap.push (seqObj "list" #[] 0)).update s.heap.objs.size (Obj.mapSeq (· ++ vs.toArray)) } → wpAny (model prog w) B (collect x) R E' s)
    (hS : 2 ≤ vs.length → ∀ (h₁ : Heap) (a : Addr), SrtO.SortableO prog w A.in1.in1 { s with heap := h₁ } a vs ltv)
    (h : ∀ out : List Value, SrtO.Srtd ltv out → SrtO.Stb ltv out (if b = true then vs.reverse else vs) → Q (.ref (s.heap.objs.size + 1)) { s with heap := sortedAll s.heap vs (if b = true then out.toArray.reverse else out.toArray) }) :
    wpAny (model prog w) A (call (.builtin "sorted") [x] kw) Q E s := by
  refine call_function_entry_kw kind_sorted plain_sorted entry_sorted ha1 ?_
  unfold Builtin.«sorted»
  refine wpAny_bind (m := checkCount "sorted" 1 1 _) (wpAny_pure ?_)
  refine wpAny_bind (col (wpAny_bind (wpAny_newList ?_ hz)))
  have sz : ((s.heap.push (seqObj "list" #[] 0)).update s.heap.objs.size (Obj.mapSeq (· ++ vs.toArray))).objs.size = s.heap.objs.size + 1 := by rw [Heap.size_update, size_push']
  have at1 : (((s.heap.push (seqObj "list" #[] 0)).update s.heap.objs.size (Obj.mapSeq (· ++ vs.toArray))).push (seqObj "list" vs.toArray 0)).get? (s.heap.objs.size + 1) = some (seqObj "list" vs.toArray 0) := by
    rw [← sz]; exact Heap.get?_push_size _ rfl
  show wpAny _ _ _ _ _ { s with heap := ((s.heap.push (seqObj "list" #[] 0)).update s.heap.objs.size (Obj.mapSeq (· ++ vs.toArray))).push (seqObj "list" vs.toArray 0) }
  rw [sz]
  refine wpAny_bind (wpAny_holding (wpAny_call_entry_kw slot_list_sort ⟨_, at1, rfl⟩ entry_list_sort ?_ (ha2 _)))
  rw [hk]
  exact SrtR.list_sort_ordR O at1 hz (fun h2 => hS h2 _ _) fun out h1 h2 => ⟨_, rfl, wpAny_pure ⟨_, rfl, h out h1 h2⟩⟩
end
/-- the numbers rising; falling -/
def up (ns : List Int) : List Int := ns.mergeSort (fun a b => decide (a ≤ b))
def dn (ns : List Int) : List Int := (up ns).reverse
theorem up_perm (ns : List Int) : (up ns).Perm ns := List.mergeSort_perm ..
theorem up_sorted (ns : List Int) : (up ns).Pairwise (· ≤ ·) := by
  have h := List.pairwise_mergeSort (le := fun a b : Int => decide (a ≤ b)) (fun a b c h1 h2 => decide_eq_true (Int.le_trans (of_decide_eq_true h1) (of_decide_eq_true h2))) (fun a b => by
    rcases Int.le_total a b with h | h
    · rw [decide_eq_true h]; rfl
    · rw [decide_eq_true h, Bool.or_true]) ns
  exact h.imp of_decide_eq_true
theorem up_eq {ns ms : List Int} (h : ms.Perm ns) (h2 : ms.Pairwise (· ≤ ·)) : ms = up ns :=
  List.Perm.eq_of_pairwise (le := (· ≤ ·)) (fun a b _ _ h1 h2 => Int.le_antisymm h1 h2) h2 (up_sorted ns) (h.trans (up_perm ns).symm)
theorem dn_eq {ns ms : List Int} (h : ms.Perm ns) (h2 : ms.Pairwise (· ≥ ·)) : ms = dn ns := by
  have e := up_eq (ns := ns) (ms := ms.reverse) ((List.reverse_perm ms).trans h) (by rw [List.pairwise_reverse]; exact h2)
  unfold dn
  rw [← e, List.reverse_reverse]
theorem up_len (ns : List Int) : (up ns).length = ns.length := (up_perm ns).length_eq
theorem dn_len (ns : List Int) : (dn ns).length = ns.length := by unfold dn; rw [List.length_reverse, up_len]
def srtB (b : Bool) (ns : List Int) : List Int := if b = true then dn ns else up ns
def rSorted (K : PySem.W.Frag) : CR1 := fun vs H Q => ∃ (a : Addr) (ns : List Int), vs = [V.ref a] ∧ (SqL K H a (ns.map V.int) ∨ SqT K H a (ns.map V.int)) ∧ ∀ p, H p = none → Q (.ref p) (upd H p (.lst ((up ns).map V.int)))
def rSortedR (K : PySem.W.Frag) (b : Bool) : List V → List V → Hp → VK → Prop := fun vs zs H Q => ∃ (a : Addr) (ns : List Int), vs = [V.ref a] ∧ zs = [.bl b] ∧ (SqL K H a (ns.map V.int) ∨ SqT K H a (ns.map V.int)) ∧ ∀ p, H p = none → Q (.ref p) (upd H p (.lst ((srtB b ns).map V.int)))
section
variable {X : Cx}
theorem sorted_any {b : Bool} {kw : List (Str × Value)} {pins : List (Addr × Obj)} {s : Shared} {σ : L2.St} {H : Hp} {a : Addr} {ns : List Int} {Q : VK} (I : Inv X pins σ H s) (hs : SqL X.K H a (ns.map V.int) ∨ SqT X.K H a (ns.map V.int))
    (hk : ∀ a, Builtin.«list.sort» ⟨[.ref a], kw⟩ = Builtin.«list.sort» ⟨[.ref a], [(Str.ofString "reverse", .bool b)]⟩) (ha1 : argsOk "sorted" ⟨[.ref a], kw⟩) (ha2 : ∀ a, argsOk "list.sort" ⟨[a], kw⟩)
    (q : ∀ p, H p = none → Q (.ref p) (upd H p (.lst ((srtB b ns).map V.int)))) : wpAny (model X.prog X.w) X.A (call (.builtin "sorted") [.ref a] kw) (EP X pins σ Q) X.xe s := by
  have fin : ∀ its : List Value, Vals (ns.map V.int) its → (ns.map V.int).length ≤ sizeLine →
      (∀ {B : Around} {R : List Value → Shared → Prop} {E' : Value → Shared → Prop}, R its { s with heap := (s.heap.push (seqObj "list" #[] 0)).update s.heap.objs.size (Obj.mapSeq (· ++ its.toArray)) } → wpAny (model X.prog X.w) B (collect (.ref a)) R E' s) →
      wpAny (model X.prog X.w) X.A (call (.builtin "sorted") [.ref a] kw) (EP X pins σ Q) X.xe s := fun its rv hz col => by
    have hi := rv.ints
    refine sorted_of hk ha1 ha2 SrtO.swo_int (by rw [← rv.length]; exact hz) col (fun h2 h₁ a' => SrtO.ints_sortable hi h2) fun out h1 h2 => ?_
    obtain ⟨ns', k1, k2, k3⟩ := SrtR.ints_outR hi h1 h2
    have e : ns' = srtB b ns := by
      cases b with
      | true => exact dn_eq k2 k3
      | false => exact up_eq k2 k3
    subst e
    obtain ⟨ep, he'⟩ := PyProof.Rows.sortedAll_at s.heap its (if b = true then out.toArray.reverse else out.toArray)
    have hlen : ((srtB b ns).map V.int).length ≤ sizeLine := by
      rw [List.length_map, k2.length_eq]
      rw [List.length_map] at hz
      exact hz
    have e0 : ((if b = true then out.toArray.reverse else out.toArray).toList).toArray = (if b = true then out.toArray.reverse else out.toArray) := by rw [Array.toArray_toList]
    exact ⟨.ref _, upd H (s.heap.objs.size + 1) (.lst ((srtB b ns).map V.int)), I.laid (t' := s.toks) (fun _ _ => PyProof.Rows.sortedAll_old) (Nat.le_succ _) ⟨hlen, _, ep, vals_of_ints k1, by rw [e0]; exact he'⟩, rfl, q _ (I.hok.fresh (Nat.le_succ _))⟩
  rcases hs with hs | hs
  · obtain ⟨its, rv, hl, hz⟩ := I.list hs
    exact fin its rv hz fun r => collect_list hl.isList r (by rw [← rv.length]; exact hz)
  · obtain ⟨its, rv, hl, hz⟩ := I.tuple hs
    exact fin its rv hz fun r => collect_tup hl (by rw [← rv.length]; exact hz) r
theorem sort_plain (a : Addr) : Builtin.«list.sort» ⟨[.ref a], []⟩ = Builtin.«list.sort» ⟨[.ref a], [(Str.ofString "reverse", .bool false)]⟩ := by
  first | rfl | kernel_rfl
theorem c_sorted : CallR X (.builtin "sorted") (rSorted X.K) := by
  intro pins s σ H vs us Q I r h
  obtain ⟨a, ns, rfl, hs, q⟩ := h
  rw [Vals.ref1 r]
  exact sorted_any (b := false) I hs sort_plain (args_sorted1 _) (fun _ => args_list_sort _) q
theorem c_sortedR {b : Bool} : CallRK X (.builtin "sorted") [Str.ofString "reverse"] (rSortedR X.K b) := by
  intro pins s σ H vs zs us ws Q I r rz h
  obtain ⟨a, ns, rfl, rfl, hs, q⟩ := h
  obtain rfl := Vals.ref1 r
  obtain ⟨w1, rfl, e1⟩ := vals1 rz
  obtain rfl : w1 = Value.bool b := e1
  exact sorted_any I hs (fun _ => rfl) (PyProof.Rows.args_sorted_rev _ _) (fun _ => PyProof.Rows.args_list_sort_rev _ _) q
end
section
variable {c : Ctx} {ρ : Rho} {S : Sto} {F : D → Sto → Prop}
theorem rc_sorted {x : D} {ns : List Int} (h : IsQ S x (ns.map D.int)) (q : F (.lst ((up ns).map D.int)) S) : RC c (rSorted c.K) [x] S F := fun T us H cl r Q k => by
  cases r with
  | cons h1 t =>
    cases t
    obtain ⟨a, xs, rfl, s, r⟩ := h.rd cl h1
    have e := r.ints
    subst e
    exact ⟨a, ns, rfl, s, fun p hp => k _ _ S T _ (mv_new hp) (cl.new hp) (.lst (cl.free hp) upd_same RepL.ofInts) q⟩
def RCK (c : Ctx) (r : List V → List V → Hp → VK → Prop) (ds es : List D) (S : Sto) (F : D → Sto → Prop) : Prop := ∀ T us ws H, Cells c.K H S T → RepL c.K H T us ds → RepL c.K H T ws es → ∀ Q : VK,
  (∀ v d S' T' H', Mv T H T' H' → Cells c.K H' S' T' → Rep c.K H' T' v d → F d S' → Q v H') → r us ws H Q
theorem ve_ckw {r : List V → List V → Hp → VK → Prop} {t tk : TA} (h : VA c t ρ S fun ds S1 => VA c tk ρ S1 fun es S2 => RCK c r ds es S2 F) : VE c (tCKw r t tk) ρ S F := fun T σ H I Q k =>
  h T σ H I _ fun us ds S1 T1 H1 m1 c1 r1 h1 => h1 T1 σ H1 (I.mv m1 c1) _ fun ws es S2 T2 H2 m2 c2 r2 h2 => h2 T2 us ws H2 c2 (r1.mv m2) r2 Q fun v d S3 T3 H3 m3 => k v d S3 T3 H3 (m1.trans (m2.trans m3))
theorem rck_sortedR {x : D} {b : Bool} {ns : List Int} (h : IsQ S x (ns.map D.int)) (q : F (.lst ((srtB b ns).map D.int)) S) : RCK c (rSortedR c.K b) [x] [.bl b] S F := fun T us ws H cl r r' Q k => by
  cases r with
  | cons h1 t =>
    cases t
    cases r' with
    | cons h2 t =>
      cases t
      cases h2
      obtain ⟨a, xs, rfl, s, r⟩ := h.rd cl h1
      have e := r.ints
      subst e
      exact ⟨a, ns, rfl, rfl, s, fun p hp => k _ _ S T _ (mv_new hp) (cl.new hp) (.lst (cl.free hp) upd_same RepL.ofInts) q⟩
/-! ### a list taken apart; zip of tuples or lists -/
theorem vg_unl {d : D} {n : Nat} {gs : TGs} {ds : List D} {F : Rho → Sto → Prop} (hd : IsL S d ds) (hn : ds.length = n) (h : VGs c gs ds ρ S F) : VG c (gUnl c.K n gs) d ρ S F := fun T v σ H I r Q k => by
  obtain ⟨a, xs, rfl, s, r⟩ := hd.rd I.cells r
  exact ⟨a, xs, rfl, s, by rw [r.length]; exact hn, h T xs σ H I r Q k⟩
/-- a tuple by value stays -/
theorem tup_stays {K : PySem.W.Frag} {T : Sto} {H : Hp} {u : V} {ds : List D} (r : Rep K H T u (.tup ds)) : ∃ a xs, u = .ref a ∧ (∀ T' H', Mv T H T' H' → SqT K H' a xs) ∧ RepL K H T xs ds := by
  cases r with
  | tup s h r => exact ⟨_, _, rfl, fun T2 H2 m => .inl (.inl (m.keep _ _ s h)), r⟩
  | tupK h r => exact ⟨_, _, rfl, fun T2 H2 m => .inr h, r⟩
theorem walk_zipT {K : PySem.W.Frag} {a b : Addr} {xs ys : List V} {n : Nat} (hn : n = min xs.length ys.length) : Walk (RZ.ItzT K a b) n (fun H => SqT K H a xs ∧ SqT K H b ys) (YPair (fun i => xs[i]?) (fun i => ys[i]?)) := by
  subst hn
  refine ⟨fun i H hi g => ?_, fun H g => ⟨xs, ys, g.1, g.2, by omega⟩, fun i H v H' hi g y => ?_⟩
  · exact ⟨xs, ys, xs[i]'(by omega), ys[i]'(by omega), g.1, g.2, List.getElem?_eq_getElem (by omega), List.getElem?_eq_getElem (by omega)⟩
  · obtain ⟨T, u, w, h1, h2, h3, h4, h5⟩ := y
    exact ⟨T, u, w, h1, h2, h3, h4 xs g.1, h5 ys g.2⟩
theorem vi_zipT {ta : TA} {W : List D → Sto → Prop} (h : VA c ta ρ S fun xs S1 => ∃ ds es, xs = [.tup ds, .tup es] ∧ W (zipD ds es) S1) : VI c (RZ.iZipA c.K ta) ρ S W := fun T σ H I R k =>
  h T σ H I _ fun vs es S1 T1 H1 m1 c1 r1 ⟨ds, es', e, q⟩ => by
    subst e
    cases r1 with
    | cons h1 t => cases t with
      | cons h2 t =>
        cases t
        obtain ⟨a, xs, rfl, hq, r⟩ := tup_stays h1
        obtain ⟨b, ys, rfl, hq', r2⟩ := tup_stays h2
        refine ⟨a, b, xs, ys, rfl, .inr ⟨hq _ _ Mv.refl, hq' _ _ Mv.refl, k _ (zipD ds es') S1 T1 H1 m1 c1 ⟨fun H => SqT c.K H a xs ∧ SqT c.K H b ys, _, walk_zipT (by rw [zipD_len, r.length, r2.length]), fun T2 H2 m => ⟨hq T2 H2 m, hq' T2 H2 m⟩, fun i d S2 T2 H2 H3 y e m cl yy => ?_⟩ q⟩⟩
        obtain ⟨T, u, w, e1, hT, e2, e3, e4⟩ := yy
        obtain ⟨p, p', e5, e6, e7⟩ := zipD_get e
        subst e1 e2 e7
        obtain ⟨v, e8, q1⟩ := r.get e5
        obtain ⟨v', e9, q2⟩ := r2.get e6
        have e3' : xs[i]? = some u := e3
        have e4' : ys[i]? = some w := e4
        rw [e3'] at e8
        rw [e4'] at e9
        cases e8
        cases e9
        exact ⟨mv_new hT, cl.new hT, .tup (cl.free hT) upd_same (.cons ((q1.mv m).mv (mv_new hT)) (.cons ((q2.mv m).mv (mv_new hT)) .nil))⟩
end
end VS
namespace VS
open PySem L2 C8 PySem.Spec PyProof.Rows
/-! ### enumerate over a tuple -/
def Itet (K : PySem.W.Frag) (a : Addr) : It :=
  ⟨fun i H => ∃ (xs : List V) (x : V), SqT K H a xs ∧ xs[i]? = some x, fun i H v H' => ∃ T x, v = .ref T ∧ H T = none ∧ H' = upd H T (.tup [.int (i : Nat), x]) ∧ ∀ xs, SqT K H a xs → xs[i]? = some x, fun i H => ∃ xs : List V, SqT K H a xs ∧ i = xs.length⟩
set_option maxHeartbeats 1000000 in
theorem new_enumT (t : Addr) (items : Array Value) :
    Meets (Builtin.«enumerate.__new__» ⟨[.type "enumerate", .ref t], []⟩) (fun _ R s => s.heap.IsTuple t items ∧
      R (.ok (.ret (.ref (s.heap.push { cls := .type "tuple_iterator", data := .fields #[.ref t, .int 0 0] }).objs.size)))
        { s with heap := (s.heap.push { cls := .type "tuple_iterator", data := .fields #[.ref t, .int 0 0] }).push { cls := .type "enumerate", data := .fields #[.none, .bool false, .ref s.heap.objs.size, rawInt 0, .none, .none] } }) :=
  .of_wp fun prog w A R s h => by
    obtain ⟨hp, g, dr, tk, os⟩ := s
    obtain ⟨ht, h⟩ := h
    have q1 : ∀ {A' : Around} {E : Value → Shared → Prop} {Q : Value → Shared → Prop}, Q (.ref hp.objs.size) ⟨hp.push { cls := .type "tuple_iterator", data := .fields #[.ref t, .int 0 0] }, g, dr, tk, os⟩ → wpAny (model prog w) A' (pyIter (.ref t)) Q E ⟨hp, g, dr, tk, os⟩ :=
      fun q => wpAny_pyIter_tuple ht q
    have hsub := sub_enumerate
    wp_walk using q1
    refine wpAny_stack_any fun st => wpAny_pure ?_
    split
    · rename_i c _ _ _ _ _
      cases (c == Value.type "enumerate") <;> (wp_walk using q1; exact ⟨_, rfl, h⟩)
    · wp_walk using q1
      exact ⟨_, rfl, h⟩
theorem call_enumT {prog : Program} {w : World} {A : Around} {E : Value → Shared → Prop} {s : Shared} {t : Addr} {items : Array Value} {Q : Value → Shared → Prop} (ht : s.heap.IsTuple t items)
    (h : ∀ h', IsEnum h' (s.heap.objs.size + 1) s.heap.objs.size 0 .none → h'.IsTupleIter s.heap.objs.size t 0 → (∀ b o, s.heap.get? b = some o → h'.get? b = some o) → Q (.ref (s.heap.objs.size + 1)) { s with heap := h' }) :
    wpAny (model prog w) A (call (.type "enumerate") [.ref t]) Q E s := by
  refine callType_new F.called_enumerate (by decide) (F.typeCall_enumerate_1 _) (F.newCall_enumerate_1 _) (fun obj => F.args_object_init_2 obj _) F.entry_enumerate_new (new_enumT t items) ⟨ht, ?_⟩
  have sz : (s.heap.push { cls := .type "tuple_iterator", data := .fields #[.ref t, .int 0 0] }).objs.size = s.heap.objs.size + 1 := Heap.size_push ..
  show _ ∧ _
  rw [sz]
  have he : IsEnum ((s.heap.push { cls := .type "tuple_iterator", data := .fields #[.ref t, .int 0 0] }).push { cls := .type "enumerate", data := .fields #[.none, .bool false, .ref s.heap.objs.size, rawInt 0, .none, .none] }) (s.heap.objs.size + 1) s.heap.objs.size 0 .none := by
    have q := Heap.get?_push_size (s.heap.push { cls := .type "tuple_iterator", data := .fields #[.ref t, .int 0 0] }) (o := { cls := .type "enumerate", data := .fields #[.none, .bool false, .ref s.heap.objs.size, rawInt 0, .none, .none] }) rfl
    rw [sz] at q; exact q
  exact ⟨⟨_, he, rfl⟩, h _ he ⟨_, Heap.get?_push_of_some _ (Heap.get?_push_size _ rfl), rfl, rfl⟩ fun b o x => Heap.get?_push_of_some _ (Heap.get?_push_of_some _ x)⟩
theorem turn_enumT {P : Program} {w : World} {K : PySem.W.Frag} {elts : List Expr} {kk : Nat} {tpos : Pos} (a e it : Addr) :
    Turn P w K (.Tuple elts kk tpos) (Itet K a) [e, it] e (fun i h => (∃ old, IsEnum h e it ((i : Nat) : Int) old) ∧ h.IsTupleIter it a i ∧ e ≠ it) where
  mem := by simp
  obj := fun i h st b hb => by
    obtain ⟨⟨old, he⟩, ⟨o, ho, hc, hd⟩, _⟩ := st
    have e' : b = e ∨ b = it := by simpa using hb
    rcases e' with z | z
    · rw [z]; exact ⟨_, he, fun v q => nomatch q⟩
    · rw [z]; exact ⟨o, ho, fun v q => by rw [hd] at q; cases q⟩
  keep := fun i h h' st k => let ⟨⟨old, he⟩, hi, hne⟩ := st; ⟨⟨old, k e (by simp) _ he⟩, hi.at fun o q => k it (by simp) o q, hne⟩
  item := by
    intro X hP hw hK hc i pins s σ H E I hf st hg
    subst hP hw hK
    obtain ⟨⟨old, he⟩, hit, hne⟩ := st
    obtain ⟨xs, x, hq, hx⟩ := hg
    obtain ⟨its, rv, p, hz⟩ := I.tuple hq
    obtain ⟨u, hu, ru⟩ := rv.get hx
    have hel : e < s.heap.objs.size := Heap.lt_size he
    have hil : it < s.heap.objs.size := by obtain ⟨_, q, _⟩ := hit; exact Heap.lt_size q
    have nea : a ≠ it := fun z => by
      subst z
      obtain ⟨o, q, hc', _⟩ := hit
      obtain ⟨o2, q2, hc2, _⟩ := id p
      rw [q] at q2
      cases q2
      rw [hc'] at hc2
      exact absurd hc2 (by decide +kernel)
    have nae : a ≠ e := fun z => by
      subst z
      obtain ⟨o2, q2, hc2, _⟩ := id p
      have he' : s.heap.get? a = _ := he
      rw [he'] at q2
      cases q2
      have hc3 : Value.type "enumerate" = Value.type "tuple" := hc2
      exact absurd hc3 (by decide +kernel)
    have hi : i < its.toArray.size := by
      rw [List.size_toArray, ← rv.length]
      exact (List.getElem?_eq_some_iff.mp hx).1
    have D := Draws.tuple (prog := X.prog) (w := X.w) (A := X.A.in1) (I.ok.hd hc) it a nea its.toArray
    refine wpAny_pyNext_enum_itemD D he ⟨hit, p⟩ hi hne (by simp only [List.mem_cons, List.not_mem_nil, or_false, not_or]; exact ⟨hne, Ne.symm nae⟩) fun xv h' tk hxv ho hit' hT hsz hk => ?_
    have exv : xv = u := by
      have z : its[i]? = some xv := by simpa using hxv
      rw [hu] at z
      exact (Option.some.inj z).symm
    subst exv
    refine ⟨_, rfl, wpAny_letOwnedTupleGo_enum (s := { s with heap := h', toks := tk + 1 }) ho fun h'' he' sb => ?_⟩
    have hT2 : h''.get? s.heap.objs.size = some { cls := .type "tuple", data := .seq #[.int i tk, xv] } := (sb.2 _ (Nat.ne_of_gt hel)).trans hT
    have new : ObjOk X.prog X.w (upd H s.heap.objs.size (.tup [.int (i : Nat), x])) h'' s.heap.objs.size (.tup [.int (i : Nat), x]) :=
      ⟨by show 2 ≤ sizeLine; decide, [.int i tk, xv], .cons ⟨_, rfl⟩ (.cons ru .nil), ⟨_, hT2, rfl, _, rfl⟩⟩
    have I1 : Inv X pins σ (upd H s.heap.objs.size (.tup [.int (i : Nat), x])) { s with heap := h'', toks := tk + 1 } :=
      I.turnedNew (ch := [e, it]) (fun b ob hb q => (sb.2 b (fun z => hb (by simp [z]))).trans (hk b ob (fun z => hb (by simp [z])) (fun z => hb (by simp [z])) q)) hf (Nat.le_refl _) new
    refine ⟨.ref s.heap.objs.size, _, I1, rfl, ⟨_, x, rfl, I.hok.fresh (Nat.le_refl _), rfl, fun ys hy => by rw [I.tuple_inj hy hq]; exact hx⟩, ⟨⟨xv, ?_⟩, hit'.1.at fun o q => (sb.2 it (Ne.symm hne)).trans q, hne⟩, fun b hb => ?_⟩
    · have e1 : ((i + 1 : Nat) : Int) = (i : Int) + 1 := by omega
      rw [e1]; exact he'
    · have hb' : b < s.heap.objs.size := by
        have e' : b = e ∨ b = it := by simpa using hb
        rcases e' with z | z
        · rw [z]; exact hel
        · rw [z]; exact hil
      rw [upd_ne (Nat.ne_of_lt hb')]
      exact (hf b hb).1
  done := by
    intro X hP hw hK hc i pins s σ H E I hf st hg
    subst hP hw hK
    obtain ⟨⟨old, he⟩, hit, hne⟩ := st
    obtain ⟨xs, hq, hx⟩ := hg
    obtain ⟨its, rv, p, hz⟩ := I.tuple hq
    obtain ⟨f0, f1, f2, f3, f4, f5⟩ := hf it (by simp)
    have nea : a ≠ it := fun z => by
      subst z
      obtain ⟨o, q, hc', _⟩ := hit
      obtain ⟨o2, q2, hc2, _⟩ := id p
      rw [q] at q2
      cases q2
      rw [hc'] at hc2
      exact absurd hc2 (by decide +kernel)
    have D := Draws.tuple (prog := X.prog) (w := X.w) (A := X.A.in1) (I.ok.hd hc) it a nea its.toArray
    have hi : i = its.toArray.size := by rw [List.size_toArray, ← rv.length]; exact hx
    subst hi
    exact wpAny_pyNext_enum_endD D he ⟨hit, p⟩ fun h' eb => ⟨rfl, I.turned (t' := s.toks) (fun b o hb q => eb b o hb q) f0 f1 f3 f4 f5⟩
  self := fun A i s Q E st h => let ⟨⟨_, he⟩, _⟩ := st; wpAny_pyIter_enum he h
def iEnumT (K : PySem.W.Frag) (ta : TA) : TI := fun σ H R => ta σ H fun vs H1 => ∃ a xs, vs = [.ref a] ∧ SqT K H1 a xs ∧ R (Itet K a) H1
theorem pi_enumT {X : Cx} {e : Expr} {ta : TA} {p pos tpos : Pos} {elts : List Expr} {kk : Nat} (hg : Gl X "enumerate") (hm : X.mg "enumerate" = none) (ha : PA X [e] ta) (hs : starEach [e] X.env = [(false, eval e X.env)] := by rfl) :
    PI X (.Tuple elts kk tpos) (.Call (.Name "enumerate" p) [e] [] pos) (iEnumT X.K ta) := by
  refine ⟨fun pins s σ H R I h => ?_⟩
  refine Call_ (ld_blt I hg hm boot_enumerate (PyProof.Rows.callWith_type1 (thn (ha.run pos pins s σ H _ I h) fun us s1 ⟨vs, H1, I1, r1, q1⟩ => ?_) hs rfl))
  obtain ⟨a, xs, ex, hq, q⟩ := q1
  subst ex
  cases r1 with
  | cons r rr =>
    cases rr
    cases r
    obtain ⟨its, rv, p', hz⟩ := I1.tuple hq
    refine call_enumT p' fun h' he hit hk => wpAny_pyIter_enum he ?_
    have I2 : Inv X pins σ H1 { s1 with heap := h' } := I1.kept (t' := s1.toks) hk
    refine ⟨s1.heap.objs.size + 1, [s1.heap.objs.size + 1, s1.heap.objs.size], _, _, H1, rfl, I2, turn_enumT a (s1.heap.objs.size + 1) s1.heap.objs.size, ⟨⟨.none, he⟩, hit, Nat.succ_ne_self _⟩, fun b hb => ?_, q⟩
    have e' : b = s1.heap.objs.size + 1 ∨ b = s1.heap.objs.size := by simpa using hb
    have hle : s1.heap.objs.size ≤ b := by
      rcases e' with z | z
      · rw [z]; exact Nat.le_add_right _ _
      · rw [z]; exact Nat.le_refl _
    exact I1.fpOk hle (I1.hok.fresh hle)
theorem walk_enumT {K : PySem.W.Frag} {a : Addr} {xs : List V} : Walk (Itet K a) xs.length (fun H => SqT K H a xs) (YPair (fun i => some (.int (i : Nat))) (fun i => xs[i]?)) :=
  ⟨fun i _ hi q => ⟨xs, xs[i], q, List.getElem?_eq_getElem hi⟩, fun _ q => ⟨xs, q, rfl⟩, fun i H v H' _ q y => by
    obtain ⟨T, x, h1, h2, h3, h4⟩ := y
    exact ⟨T, .int (i : Nat), x, h1, h2, h3, rfl, h4 xs q⟩⟩
section
variable {c : Ctx} {ρ : Rho} {S : Sto}
theorem vi_enumT {ta : TA} {W : List D → Sto → Prop} (h : VA c ta ρ S fun es S1 => ∃ ds, es = [.tup ds] ∧ W (enumD ds) S1) : VI c (iEnumT c.K ta) ρ S W := fun T σ H I R k =>
  h T σ H I _ fun vs es S1 T1 H1 m1 c1 r1 ⟨ds, e, q⟩ => by
    subst e
    cases r1 with
    | cons h1 t =>
      cases t
      obtain ⟨a, xs, rfl, hq, r⟩ := tup_stays h1
      refine ⟨a, xs, rfl, hq _ _ Mv.refl, k _ (enumD ds) S1 T1 H1 m1 c1 ⟨fun H => SqT c.K H a xs, _, by rw [enumD_len, ← r.length]; exact walk_enumT, hq, fun i d S2 T2 H2 H3 y e m cl yy => ?_⟩ q⟩
      obtain ⟨T, u, w, e1, hT, e2, e3, e4⟩ := yy
      obtain ⟨y', e5, e6⟩ := enumD_get e
      subst e1 e2 e6
      obtain ⟨v, e7, r'⟩ := r.get e5
      have e4' : xs[i]? = some w := e4
      rw [e4'] at e7
      cases e7
      cases e3
      exact ⟨mv_new hT, cl.new hT, .tup (cl.free hT) upd_same (.cons (.int _) (.cons ((r'.mv m).mv (mv_new hT)) .nil))⟩
end
end VS
namespace VS
open PySem L2 C8 PySem.Spec PyProof.Rows
/-! ### own classes: what is known of a thing's class, isinstance -/
inductive OfC (K : PySem.W.Frag) (S : Sto) : D → Value → Prop
  | p {x : D} {n : String} (h : TyS S x n) : OfC K S x (.type n)
  | i {x : D} {C : Addr} {fs : List (Str × D)} (h : IsI S x C fs) (c : InsC K C) : OfC K S x (.ref C)
  | e {C : Addr} {fs : List (Str × D)} (T : XcT K C) : OfC K S (.xv C fs) (.ref C)
theorem OfC.ok {K : PySem.W.Frag} {H : Hp} {S T : Sto} {x : D} {t : Value} {u : V} (o : OfC K S x t) (cl : Cells K H S T) (r : Rep K H T u x) : TyZ K H u t := by
  cases o with
  | e T => cases r with | xv s h s2 h2 r => exact .e h h2 T
  | p h => exact .x (h.ok cl r)
  | i h c =>
    obtain ⟨a, dx, fs, rfl, ha, _⟩ := h.rd cl r
    exact .x (.base (.ins ha c.cl c.ha c.hn c.htk c.hm))
def rIsiV (K : PySem.W.Frag) : CR1 := fun xs H Q => ∃ (x : V) (tp : Addr) (cs : List V) (t : Value) (us : List Value) (b : Bool), xs = [x, .ref tp] ∧ SqT K H tp cs ∧ Paired ClsV cs us ∧ TyZ K H x t ∧ PySem.W.kitAny K t us = some b ∧ Q (.bl b) H
theorem c_isiV {X : Cx} : CallR X (.builtin "isinstance") (rIsiV X.K) := by
  intro pins s σ H xs us Q I r h
  obtain ⟨x, tp, cs, t, ws, b, rfl, hT, k, ty, e, q⟩ := h
  obtain ⟨u1, u2, rfl, r1, r2⟩ := vals2 r
  cases (show u2 = Value.ref tp from r2)
  obtain ⟨P, Z, p, hx⟩ := kit_ofZ I r1 ty
  obtain ⟨its, rv, ⟨o, h1, h2, n, h3⟩, _⟩ := I.tuple hT
  have e3 := ClsV.all k rv
  subst e3
  obtain ⟨oc, od, dt, sl⟩ := o
  simp only at h2 h3
  subst h2 h3
  exact PySem.W.kia_tup Z I.kIn p h1 e hx fun tk => ⟨.bl b, H, I.tok tk, rfl, q⟩
section
variable {c : Ctx} {ρ : Rho} {S : Sto} {F : D → Sto → Prop}
theorem rc_isiO {x : D} {t : Value} {C : Addr} {b : Bool} (o : OfC c.K S x t) (h : PySem.W.kitOne c.K t (.ref C) = some b) (q : F (.bl b) S) : RC c (rIsiZ c.K) [x, .ref C] S F := fun T us H cl r Q k => by
  cases r with
  | cons h1 r => cases r with
    | cons h2 r =>
      cases r
      cases h2
      exact ⟨_, _, _, _, b, rfl, .own C, o.ok cl h1, h, k _ _ S T H Mv.refl cl (.bl _) q⟩
/-- an own class's name -/
theorem ve_cls {C : Addr} (q : F (.ref C) S) : VE c (tC (.ref C)) ρ S F := ve_ref q
/-- isinstance by several classes -/
inductive ClsD : D → Value → Prop
  | ty (n : String) : ClsD (.ty n) (.type n)
  | own (C : Addr) : ClsD (.ref C) (.ref C)
theorem clsD_all {K : PySem.W.Frag} {H : Hp} {T : Sto} : ∀ {cs : List V} {ds : List D} {us : List Value}, Paired ClsD ds us → RepL K H T cs ds → Paired ClsV cs us
  | _, _, _, .nil, .nil => .nil
  | _, _, _, .cons c t, .cons r rt => .cons (by
    cases c with
    | ty n => cases r; exact .ty n
    | own C => cases r; exact .own C) (clsD_all t rt)
theorem rc_isiV {x : D} {t : Value} {ds : List D} {us : List Value} {b : Bool} (o : OfC c.K S x t) (p : Paired ClsD ds us) (h : PySem.W.kitAny c.K t us = some b) (q : F (.bl b) S) : RC c (rIsiV c.K) [x, .tup ds] S F := fun T vs H cl r Q k => by
  cases r with
  | cons h1 r => cases r with
    | cons h2 r =>
      cases r
      obtain ⟨a, xs, rfl, s, rr⟩ := h2.seqT
      exact ⟨_, a, xs, t, us, b, rfl, s, clsD_all p rr, o.ok cl h1, h, k _ _ S T H Mv.refl cl (.bl _) q⟩
end
/-! ### == by an own __eq__ -/
section
variable {c : Ctx} {ρ : Rho} {S : Sto} {F : D → Sto → Prop}
/-! ### a new instance by value -/
theorem VA.imp {G G' : List D → Sto → Prop} {ta : TA} (h : VA c ta ρ S G) (i : ∀ d S, G d S → G' d S) : VA c ta ρ S G' := fun T σ H I Q k => h T σ H I Q fun v d S' T' H' m cl r q => k v d S' T' H' m cl r (i _ _ q)
theorem del_put {S : Sto} {p : Addr} {d : D} (h : S p = none) : del (put S p d) p = S := by
  funext b
  by_cases z : b = p
  · subst z; rw [del_same, h]
  · rw [del_ne z, put_ne z]
theorem del_put2 {S : Sto} {p : Addr} {d e : D} (h : S p = none) : del (put (put S p d) p e) p = S := by
  rw [put_put, del_put h]
/-- C(e, ..), known by value from then on -/
theorem ve_mkV {p : Pt} {E : L2.St → XK} {Y} {t : TA} {C : Addr} {dvs : List V} {dds : List D} (x : XOk c ρ E Y) (hd : ∀ H T, RepL c.K H T dvs dds)
    (h : VA c t ρ S fun ds S1 => ∀ y, S1 y = none → p (.ref y :: (ds ++ dds)) (put S1 y (.ins C [])) (fun d S2 => d = .non ∧ ∃ l d', D.ref y = .ref l ∧ S2 l = some d' ∧ d' ≠ .hid ∧ F d' (VS.del S2 l)) Y) : VE c (tMakeE C (spOf c.K p) dvs E t) ρ S F :=
  ve_freeze (ve_mk x hd h)
end
end VS
namespace VS
open PySem L2 C8 PySem.Spec PyProof.Rows
/-! ### what is known of a method, of a maker -/
structure Mf (P : Program) (w : World) (K : PySem.W.Frag) (mg : Str → Option Value) (base : Heap) (k : Nat) (C : Addr) (m qual : Str) (st : Stmt) (dvs : List V) (ps : List Str) (p : Pt) (f : Addr) (fd : FuncData) : Prop where
  fn : FnG P w K mg base (L2.CX P w) k f fd ps (spOf K p)
  df : Fd K m qual st dvs f fd
  cl : Cls K C
  me : Meth K C m f
  b : Binds K fd ps []
structure Kf (P : Program) (w : World) (K : PySem.W.Frag) (mg : Str → Option Value) (base : Heap) (k : Nat) (x : Str) (C : Addr) (qual : Str) (st : Stmt) (dvs : List V) (ps : List Str) (p : Pt) (f : Addr) (fd : FuncData) : Prop where
  mk_ : L2.Mk K C f
  fn : FnG P w K mg base (L2.CX P w) k f fd ps (spOf K p)
  df : Fd K "__init__" qual st dvs f fd
  mg : mg x = some (.ref C)
  b : Binds K fd ps []
/-- what a call that leaves some out fills up -/
structure Bd (K : PySem.W.Frag) (fd : FuncData) (ps : List Str) (dvs : List V) where
  ds : List Value
  v : Vals dvs ds
  b : Binds K fd ps ds
theorem bdN {K : PySem.W.Frag} {x qual : Str} {st : Stmt} {dvs : List V} {f : Addr} {fd : FuncData} {ps : List Str} (F : Fd K x qual st dvs f fd) (n j : Nat) (hd : dvs ≠ []) (hn : n + (dvs.length - j) = ps.length)
    (h : ∀ (T : Addr) (kV doc pm : Value) (an : Option Addr) (cdv ct : Value) (us its : List Value), us.length = n → its.length = dvs.length →
      ∃ k, bindArgs (PySem.W.fnOf x qual (defArgs st) (defBody st) (defScope st) (.ref T) kV doc pm an cdv ct) ⟨us, []⟩ = seqItems? (.ref T) >>= k ∧ k (some its.toArray) = pure (ps.zip (us ++ its.drop j))) : Nonempty (Bd K fd ps (dvs.drop j)) := by
  obtain ⟨ds, v, b⟩ := F.binds1 n j hd hn h
  exact ⟨⟨ds, v, b⟩⟩
theorem bd_nil {K : PySem.W.Frag} {fd : FuncData} {ps : List Str} (b : Bd K fd ps []) : Binds K fd ps [] := by
  obtain ⟨ds, v, q⟩ := b
  cases v
  exact q
/-- isinstance by an own class, from what the written part says -/
theorem kit_self {K : PySem.W.Frag} {C : Addr} : PySem.W.kitOne K (.ref C) (.ref C) = some true := by
  unfold PySem.W.kitOne
  rw [if_pos (beq_self_eq_true _)]
theorem kit_own {K : PySem.W.Frag} {v : Value} {C : Addr} {b : Bool} (n : (v == Value.ref C) = false) (h1 : PySem.W.isClsIn K C = true) (h2 : PySem.W.typeIn K (.ref C) = some (.type "type")) (h3 : PySem.W.subIn K v (.ref C) = some b) : PySem.W.kitOne K v (.ref C) = some b := by
  have h1' : (PySem.W.clsIn K C).isSome = true := h1
  unfold PySem.W.kitOne
  rw [if_neg (by rw [n]; decide)]
  show (if ((PySem.W.clsIn K C).isSome && PySem.W.typeIn K (.ref C) == some (.type "type")) = true then PySem.W.subIn K v (.ref C) else none) = some b
  rw [if_pos (by rw [h1', h2]; rfl)]
  exact h3
section
variable {c : Ctx} {ρ : Rho} {S : Sto} {F : D → Sto → Prop}
/-- o.m(), o.m(e, ..) -/
theorem ve_mt0 {p : Pt} {E : L2.St → XK} {Y} {ta : TE} {t : TA} {C : Addr} {m : Str} (x : XOk c ρ E Y) (h : VE c ta ρ S fun y S1 => ∃ fs, IsI S1 y C fs ∧ fs.lookup m = none ∧ VA c t ρ S1 fun ds S2 => p (y :: ds) S2 F Y) : VE c (tMethE C m (spOf c.K p) [] E ta t) ρ S F :=
  ve_mt (dds := []) x (fun _ _ => .nil) (h.imp fun y S1 ⟨fs, a, b, g⟩ => ⟨fs, a, b, g.imp fun ds S2 q => by rw [List.append_nil]; exact q⟩)
theorem ve_mk0 {p : Pt} {E : L2.St → XK} {Y} {t : TA} {C : Addr} (x : XOk c ρ E Y) (h : VA c t ρ S fun ds S1 => ∀ y, S1 y = none → p (.ref y :: ds) (put S1 y (.ins C [])) (fun d S2 => d = .non ∧ ∃ l d', D.ref y = .ref l ∧ S2 l = some d' ∧ d' ≠ .hid ∧ F d' (VS.del S2 l)) Y) : VE c (tMakeE C (spOf c.K p) [] E t) ρ S F :=
  ve_mkV (dds := []) x (fun _ _ => .nil) (h.imp fun ds S1 g y hy => by rw [List.append_nil]; exact g y hy)
end
end VS
namespace VS
open PySem L2 C8 PySem.Spec PyProof.Rows
/-! ### a list or a tuple walked -/
def iSeqA (K : PySem.W.Frag) (tl : TE) : TI := fun σ H R => tl σ H fun x H1 => ∃ a, x = .ref a ∧ (((∃ xs, SqL K H1 a xs) ∧ R (Itl K a) H1) ∨ ((∃ xs, SqT K H1 a xs) ∧ R (Itt K a) H1))
theorem pi_seq {X : Cx} {tg l : Expr} {tl : TE} (hl : PE X l tl) : PI X tg l (iSeqA X.K tl) := by
  refine ⟨fun pins s σ H R I h => thn (hl.run pins s σ H _ I h) fun v s1 ⟨x, H1, I1, r1, a, e, q⟩ => ?_⟩
  subst e
  cases r1
  have new : ∀ b, b ∈ [s1.heap.objs.size] → FpOk X pins H1 b := fun b hb => by
    have e : b = s1.heap.objs.size := by simpa using hb
    subst e
    exact I1.fpOk (Nat.le_refl _) (I1.hok.fresh (Nat.le_refl _))
  rcases q with ⟨⟨xs, hq⟩, q⟩ | ⟨⟨xs, hq⟩, q⟩
  · obtain ⟨its, rv, p, hz⟩ := I1.list hq
    exact wpAny_pyIter_list p.isList ⟨s1.heap.objs.size, [s1.heap.objs.size], _, _, H1, rfl, I1.kept (t' := s1.toks) fun b o e => Heap.get?_push_of_some _ e, turn_list a _, ⟨_, Heap.get?_push_size _ rfl, rfl, rfl⟩, new, q⟩
  · obtain ⟨its, rv, p, hz⟩ := I1.tuple hq
    exact wpAny_pyIter_tuple (show s1.heap.IsTuple a its.toArray from p) ⟨s1.heap.objs.size, [s1.heap.objs.size], _, _, H1, rfl, I1.kept (t' := s1.toks) fun b o e => Heap.get?_push_of_some _ e, turn_tuple a _, ⟨_, Heap.get?_push_size _ rfl, rfl, rfl⟩, new, q⟩
theorem yl_tup {K : PySem.W.Frag} {T : Sto} {H : Hp} {a : Addr} {xs : List V} {ds : List D} (hq : ∀ T1 H1, Mv T H T1 H1 → SqT K H1 a xs) (r : RepL K H T xs ds) : Yl K (Itt K a) ds T H := by
  refine ⟨fun H => SqT K H a xs, YAt xs, by rw [← r.length]; exact walk_tup, hq, fun i d S2 T2 H2 H3 x e m cl y => ?_⟩
  obtain ⟨e1, e2⟩ := y
  subst e1
  obtain ⟨v, e3, r'⟩ := r.get e
  rw [e2] at e3
  cases e3
  exact ⟨Mv.refl, cl, r'.mv m⟩
/-- a list or a tuple, by value -/
inductive IsS : D → List D → Prop
  | l {x : D} {ds : List D} (h : IsW x ds) : IsS x ds
  | t {ds : List D} : IsS (.tup ds) ds
section
variable {c : Ctx} {ρ : Rho} {S : Sto} {F : D → Sto → Prop}
theorem vi_seq {te : TE} {W : List D → Sto → Prop} (h : VE c te ρ S fun x S1 => ∃ ds, IsS x ds ∧ W ds S1) : VI c (iSeqA c.K te) ρ S W := fun T σ H I R k =>
  h T σ H I _ fun vx x S1 T1 H1 m1 c1 r1 ⟨ds, hx, q⟩ => by
    cases hx with
    | l hx =>
      obtain ⟨a, xs, rfl, hq, r⟩ := hx.rd r1
      exact ⟨a, rfl, .inl ⟨⟨xs, hq _ _ Mv.refl⟩, k _ ds S1 T1 H1 m1 c1 (yl_list hq r) q⟩⟩
    | t =>
      obtain ⟨a, xs, rfl, hq, r⟩ := tup_stays r1
      exact ⟨a, rfl, .inr ⟨⟨xs, hq _ _ Mv.refl⟩, k _ ds S1 T1 H1 m1 c1 (yl_tup hq r) q⟩⟩
theorem IsS.q {S : Sto} {x : D} {ds : List D} (h : IsS x ds) : IsQ S x ds := by
  cases h with
  | l h => cases h with
    | v => exact .l .v
    | r => exact .l .r
  | t => exact .t
/-- isinstance by a built-in class, whatever is known of the thing's own class -/
theorem rc_isiP {x : D} {t : Value} {N : String} {b : Bool} (o : OfC c.K S x t) (h : PySem.W.kitOne c.K t (.type N) = some b) (q : F (.bl b) S) : RC c (rIsiZ c.K) [x, .ty N] S F := fun T us H cl r Q k => by
  cases r with
  | cons h1 r => cases r with
    | cons h2 r =>
      cases r
      cases h2
      exact ⟨_, _, _, _, b, rfl, .ty N, o.ok cl h1, h, k _ _ S T H Mv.refl cl (.bl _) q⟩
end
/-! ### a, b = e1, e2 -/
section
variable {c : Ctx} {ρ : Rho} {S : Sto}
theorem vx_par {i j : Nat} {ta : TA} {nx bk ct : Rho → Sto → Prop} {rt : D → Sto → Prop} (h : VA c ta ρ S fun ds S1 => ∃ x y, ds = [x, y] ∧ nx ((ρ.set i (some x)).set j (some y)) S1) : VX c (tPar i j ta) ρ S ⟨nx, rt, bk, ct⟩ := fun T σ H I D b =>
  h T σ H I _ fun vs ds S1 T1 H1 m1 c1 r1 ⟨x, y, e, q⟩ => by
    subst e
    cases r1 with
    | cons r t => cases t with
      | cons r' t =>
        cases t
        exact ⟨_, _, rfl, b.nx _ _ S1 T1 H1 m1 (((I.mv m1 c1).set i r).set j r') q⟩
end
/-! ### a is not b of truths -/
/-! ### == of lists of whole numbers -/
end VS
namespace VS
open PySem L2 C8 PySem.Spec PyProof.Rows
/-! ### slices of tuples, the place of a flat thing in a list -/
section
variable {c : Ctx} {ρ : Rho} {S : Sto} {F : D → Sto → Prop}
theorem rs_tupA {ds : List D} {lo hi : Option Int} (n : ¬ (HT.sIx ds.length 0 lo = 0 ∧ HT.sIx ds.length ds.length hi = ds.length)) (q : F (.tup (cutD ds lo hi)) S) : RS c (rSlA c.K) (.tup ds) lo hi S F := fun T u H cl r Q k => by
  obtain ⟨a, xs, rfl, s, rr⟩ := r.seqT
  exact ⟨a, xs, rfl, s, fun z => absurd z (by rw [rr.length]; exact n), fun _ p hp => k _ _ S T _ (mv_new hp) (cl.new hp) (.tup (cl.free hp) upd_same ((rr.cut lo hi).mv (mv_new hp))) q⟩
end
theorem exm_own {K : PySem.W.Frag} {v : Value} {C : Addr} {b : Bool} (h1 : PySem.W.isClsIn K C = true) (h2 : PySem.W.typeIn K (.ref C) = some (.type "type")) (h3 : PySem.W.subIn K v (.ref C) = some b) (h4 : PySem.W.subIn K (.ref C) (.type "BaseException") = some true) : PySem.W.exmOne K v (.ref C) = some b := by
  have h1' : (PySem.W.clsIn K C).isSome = true := h1
  unfold PySem.W.exmOne PySem.W.kitCls
  rw [h4, if_pos (by decide)]
  show (if ((PySem.W.clsIn K C).isSome && PySem.W.typeIn K (.ref C) == some (.type "type")) = true then PySem.W.subIn K v (.ref C) else none) = some b
  rw [if_pos (by rw [h1', h2]; decide)]
  exact h3
end VS
namespace VS
open PySem L2 C8 PySem.Spec PyProof.Rows
/-! ### repr and str by an own def -/
section
variable {X : Cx} {k : Nat} {f C : Addr} {fd : FuncData} {ps : List Str} {sp : Sp} {A : Around}
/-- the callee runs, somewhere below the running body -/
theorem callG_at {pins : List (Addr × Obj)} {σ : L2.St} {H : Hp} {s : Shared} {Q : VK} {us : List Value} {vs : List V} (F : FnG X.prog X.w X.K X.mg X.base (L2.CX X.prog X.w) k f fd ps sp) (hgd : A.guards = some []) (hr : Room k A) (fr : A.frames = X.A.frames)
    (hb : Binds X.K fd ps []) (I : Inv X pins σ H s) (r : Vals vs us) (h : sp vs H Q (fun _ _ _ => False)) : wpAny (model X.prog X.w) A (call (.ref f) us) (EP X pins σ Q) X.xe s := by
  have e0 : Env0 X.prog X.w X.K X.mg X.base A X.stack s H := by
    have e := I.env0
    exact ⟨by rw [fr]; exact e.frames, e.mod, e.bs, e.bsz, e.funs, e.frf, e.hok, e.bare⟩
  have hl := F.len _ _ _ _ h
  have bd := bindsAt (dvs := []) (ds := []) (us := us) (vs := vs) hb .nil I.kIn r (by rw [List.append_nil]; exact hl)
  rw [List.append_nil] at bd
  refine wpAny_call (codeAny_mono (F.run A hgd X.stack s H ⟨us, []⟩ us vs Q (fun _ _ _ => False) hr e0 bd r h) fun rr s' q => ?_)
  have z := call_end (E := noE) pass0 I q
  cases rr with
  | error e => exact z
  | ok fl => cases fl <;> exact z
def rStrO (K : PySem.W.Frag) (C : Addr) (sp : Sp) : CR1 := fun xs H Q => ∃ a dx fs, xs = [.ref a] ∧ H a = some (.ins C dx fs) ∧ sp [.ref a] H (fun v H' => ∃ z, v = .str z ∧ Q (.str z) H') (fun _ _ _ => False)
theorem c_strO (F : FnG X.prog X.w X.K X.mg X.base (L2.CX X.prog X.w) k f fd ps sp) (hgd : X.A.guards = some []) (hr : Room (k + 1 + 1) X.A) (hs : PySem.W.findIn X.K (.ref C) "__str__" = some (some (.ref f))) (hf : PySem.W.isFn X.K (.ref f) = true) (hb : Binds X.K fd ps []) :
    CallR X (.type "str") (rStrO X.K C sp) := by
  intro pins s σ H xs us Q I r h
  obtain ⟨a, dx, fs, rfl, ha, hp⟩ := h
  obtain ⟨u, rfl, rv⟩ := vals1 r
  cases (show u = Value.ref a from rv)
  obtain ⟨mA, J, _⟩ := ins_get I.hok ha
  obtain ⟨od, J, _⟩ := J.look
  refine PySem.W.kso_call hr.in1.in1.units0 I.kIn J hs hf ?_
  refine wpAny_mono (callG_at (A := X.A.in1.in1) F hgd hr.in1.in1 rfl hb I (.cons (show RelV (.ref a) (.ref a) from rfl) .nil) hp) (fun rr s' q => ?_) fun _ _ z => z
  obtain ⟨w, H', I', rw', z, ew, q'⟩ := q
  subst ew
  obtain ⟨tk, rfl⟩ := (show ∃ tk, rr = .str z tk from rw')
  exact ⟨.str z, H', I', ⟨_, rfl⟩, q'⟩
end
section
variable {c : Ctx} {ρ : Rho} {S : Sto} {F : D → Sto → Prop}
theorem rc_strO {x : D} {C : Addr} {fs : List (Str × D)} {p : Pt} (i : IsI S x C fs) (h : p [x] S (fun d S' => ∃ z, d = .str z ∧ F (.str z) S') noY) : RC c (rStrO c.K C (spOf c.K p)) [x] S F := fun T us H cl r Q k => by
  cases r with
  | cons r1 r =>
    cases r
    obtain ⟨a, dx, fv, rfl, ha, rf⟩ := i.rd cl r1
    refine ⟨a, dx, fv, rfl, ha, ⟨[x], S, T, _, noY, .cons r1 .nil, cl, h, ?_, fun _ _ _ _ _ _ _ _ _ z => z.elim⟩⟩
    rintro v d S' T' H' m cl' r' ⟨z, rfl, q⟩
    cases r'
    exact ⟨z, rfl, k _ _ S' T' H' m cl' (.str z) q⟩
end
end VS
namespace VS
open PySem L2 C8 PySem.Spec PyProof.Rows
/-! ### f-strings of texts and ints -/
end VS
namespace VS
open PySem L2 C8 PySem.Spec PyProof.Rows
/-! ### a comprehension over a list known by reference: it is hidden meanwhile -/
section
variable {c : Ctx} {ρ : Rho} {S : Sto} {F : D → Sto → Prop}
theorem lc_heartAt {wi : TI} {g : TG} {tt : TT} {te : TE} {vs : List Nat} {R : List D → Sto → Prop} {T : Sto} {σ : L2.St} {H : Hp}
    (h : ∀ Q : It → Hp → Prop, (∀ J ds S1 T1 H1, Mv T H T1 H1 → Cells c.K H1 S1 T1 → Yl c.K J ds T1 H1 → (ds.length ≤ 100000 ∧ ∃ W : Nat → List D → Sto → Prop, W 0 [] S1 ∧ (∀ (i : Nat) (d : D) acc S2, ds[i]? = some d → W i acc S2 → acc.length ≤ i → VGw c vs g d (wipeR ρ vs) S2 fun ρ3 S3 => VT c tt ρ3 S3 fun b S4 => (b = true → VE c te ρ3 S4 fun y S5 => W (i + 1) (acc ++ [y]) S5) ∧ (b = false → W (i + 1) acc S4)) ∧
      (∀ acc S2, W ds.length acc S2 → acc.length ≤ ds.length → R acc S2)) → Q J H1) → wi σ H Q) (I : In c σ H ρ S T) {Q : VK}
    (k : ∀ p xs acc S' T' H' T1 H1, Mv T H T1 H1 → Mv T1 H1 T' H' → Cells c.K H' S' T' → T' p = some .hid → H1 p = none → H' p = some (.lst xs) → RepL c.K H' T' xs acc → R acc S' → Q (.ref p) H') : tLc wi g tt te vs σ H Q :=
  h _ fun J ds S1 T1 H1 m1 c1 ⟨G, Y, w, hG, hY⟩ ⟨hl, W, h0, hs, hd⟩ => fun p hp => by
    refine lc_it w (fun i H' => ∃ S2 T2 xs acc, Mv T1 H1 T2 H' ∧ Cells c.K H' S2 T2 ∧ T2 p = some .hid ∧ H' p = some (.lst xs) ∧ RepL c.K H' T2 xs acc ∧ acc.length ≤ i ∧ W i acc S2)
      ⟨S1, put T1 p .hid, [], [], mv_newc hp, c1.newh hp, put_same, upd_same, .nil, Nat.le_refl _, h0⟩ (fun i H' _ ⟨S2, T2, _, _, m, _⟩ => hG T2 H' m) ?_ ?_
    · rintro i x H' H'' hi ⟨S2, T2, xs, acc, m, c2, s2, hx, r2, hle, hw⟩ y
      obtain ⟨d, e⟩ : ∃ d, ds[i]? = some d := ⟨ds[i], List.getElem?_eq_getElem hi⟩
      obtain ⟨m3, c3, r3⟩ := hY i d S2 T2 H' H'' x e m c2 y
      have I2 : In c σ H'' ρ S2 T2 := I.mv (m1.trans (m.trans m3)) c3
      refine hs i d acc S2 e hw hle T2 x (L2.wipe σ vs) H'' (I2.wipe vs) r3 _ fun σ3 ρ3 S3 T3 H3 ew m4 I3 q => ⟨ew.trans (wipe_wipe vs vs fun _ h => h), ?_⟩
      refine q T3 σ3 H3 I3 _ fun b S4 T4 H4 m5 c4 ⟨q1, q2⟩ => ?_
      have mm := m3.trans (m4.trans m5)
      cases b with
      | true =>
        refine iteT (q1 rfl T4 σ3 H4 (I3.mv m5 c4) _ fun v y S5 T5 H5 m6 c5 r5 q5 => ?_)
        have m7 := mm.trans m6
        obtain ⟨hx5, s5⟩ := m7.hid _ _ s2 hx
        refine ⟨xs, hx5, ?_, S5, T5, xs ++ [v], acc ++ [y], (m.trans m7).hidw hp, c5.hidw s5, s5, upd_same, ((r2.mv m7).append (.cons r5 .nil)).mk (mk_hid s5), ?_, q5⟩
        · rw [r2.length]
          exact Nat.lt_of_lt_of_le (show acc.length < 100001 by omega) (by decide)
        · rw [List.length_append, List.length_singleton]
          omega
      | false =>
        obtain ⟨hx5, s5⟩ := mm.hid _ _ s2 hx
        exact iteF ⟨S4, T4, xs, acc, m.trans mm, c4, s5, hx5, r2.mv mm, by omega, q2 rfl⟩
    · rintro H' ⟨S2, T2, xs, acc, m, c2, s2, hx, r2, hle, hw⟩
      exact k p xs acc S2 T2 H' T1 H1 m1 m c2 s2 hp hx r2 (hd acc S2 hw hle)
theorem mv_hide {T : Sto} {H : Hp} {l : Addr} {d : D} (h : T l = some d) (ne : d ≠ .hid) : Mv T H (put T l .hid) H where
  keep := fun _ _ _ h => h
  fresh := fun a s _ => by
    rw [put_ne]
    · exact s
    · intro z; subst z; rw [h] at s; cases s
  hid := fun a o s e => by
    refine ⟨e, ?_⟩
    rw [put_ne]
    · exact s
    · intro z; subst z; rw [h] at s; cases s; exact absurd rfl ne
theorem Cells.hide {K : PySem.W.Frag} {S T : Sto} {H : Hp} {l : Addr} {ds : List D} {xs : List V} (cl : Cells K H S T) (h : S l = some (.lst ds)) (hx : H l = some (.lst xs)) : Cells K H (VS.del S l) (put T l .hid) := by
  have ht := cl.at h
  refine ⟨fun a => ?_, fun a e q => ?_⟩
  · by_cases z : a = l
    · subst z; exact .inr ⟨del_same, put_same⟩
    · rw [put_ne z, VS.del_ne z]; exact cl.ov a
  · by_cases z : a = l
    · subst z; rw [put_same] at q; cases q; exact ⟨_, hx⟩
    · rw [put_ne z] at q
      exact CellOk.mk (mv_hide ht (by nofun)).toMk rfl (cl.ok a e q)
end
end VS
namespace VS
open PySem L2 C8 PySem.Spec PyProof.Rows
/-! ### x in, not in a list of data -/
def rInPL (K : PySem.W.Frag) (neg : Bool) : R2 := fun x y H Q => ∃ d ds T, Rep K H T x d ∧ Rep K H T y (.lst ds) ∧ isP d = true ∧ isP (.lst ds) = true ∧ SeqAt.shaped (pd d) = true ∧ SeqAt.shaped (pd (.lst ds)) = true ∧
  Q (.bl (if neg then !((pdL ds).any fun z => PyData.eqv z (pd d)) else (pdL ds).any fun z => PyData.eqv z (pd d))) H
section
variable {X : Cx} {k : Nat}
theorem op_notInPL (hr : Room k X.A) (hs : SysOk X.base) : OpR X (compareOp .NotIn) (rInPL X.K true) := by
  intro pins s σ H x y v u Q I rx ry h
  obtain ⟨d, ds, T, r1, r2, i1, i2, s1, s2, q⟩ := h
  obtain ⟨as, h1, _⟩ := Rep.reads hs I d x v r1 i1 rx
  obtain ⟨bs, h2, _⟩ := Rep.reads hs I (.lst ds) y u r2 i2 ry
  have hu : X.A.units + 65 < cLine := by have := hr.un; omega
  exact SeqAt.notIn_list_reads h2 h1 (SeqAt.canLay_of_shaped s2) (SeqAt.canLay_of_shaped s1) (room_in_shaped s1 hu) ⟨.bl _, H, I, rfl, q⟩
end
section
variable {c : Ctx} {S : Sto} {F : D → Sto → Prop}
theorem rv_inPL {neg : Bool} {x y d : D} {ds : List D} (h1 : Vw S x d) (h2 : Vw S y (.lst ds)) (i1 : isP d = true) (i2 : isP (.lst ds) = true) (s1 : SeqAt.shaped (pd d) = true) (s2 : SeqAt.shaped (pd (.lst ds)) = true)
    (q : F (.bl (if neg then !((pdL ds).any fun z => PyData.eqv z (pd d)) else (pdL ds).any fun z => PyData.eqv z (pd d))) S) : RV c (rInPL c.K neg) x y S F := fun T u w H cl r1 r2 Q k => by
  obtain ⟨T1, m1, q1⟩ := h1.rd cl r1
  obtain ⟨T2, m2, q2⟩ := h2.rd cl r2
  exact ⟨d, ds, fun _ => none, q1.any, q2.any, i1, i2, s1, s2, k _ _ S T H Mv.refl cl (.bl _) q⟩
end
end VS
namespace VS
open PySem L2 C8 PySem.Spec PyProof.Rows
/-! ### an own class beside a built-in one -/
theorem kit_tyO {K : PySem.W.Frag} {C : Addr} {T : String} {b : Bool} (h : PySem.W.kitMeta T = true) (h2 : PySem.W.subIn K (.ref C) (.type T) = some b) : PySem.W.kitOne K (.ref C) (.type T) = some b := by
  unfold PySem.W.kitOne
  rw [if_neg (by simp)]
  show (if PySem.W.kitMeta T = true then PySem.W.subIn K (.ref C) (.type T) else none) = some b
  rw [if_pos h]
  exact h2
end VS
namespace VS
open PySem L2
/-! ### further words of the walk -/
section
variable {c : Ctx} {ρ : Rho} {S : Sto} {F : D → Sto → Prop}
theorem ex_ins {x : D} {C : Addr} {fs : List (Str × D)} {m : Str} {G : Prop} (i : IsI S x C fs) (h : fs.lookup m = none) (g : G) : ∃ fs, IsI S x C fs ∧ fs.lookup m = none ∧ G := ⟨fs, i, h, g⟩
theorem ex_fldI {K : PySem.W.Frag} {x : D} {C : Addr} {fs : List (Str × D)} {f : Str} {e : D} {G : D → Prop} (i : IsI S x C fs) (k : Cls K C) (n : NoAttr K C f) (h : fs.lookup f = some e) (g : G e) :
    ∃ C fs e, IsI S x C fs ∧ Cls K C ∧ NoAttr K C f ∧ fs.lookup f = some e ∧ G e := ⟨C, fs, e, i, k, n, h, g⟩
theorem ex_cell {l : Addr} {ds : List D} {G : Addr → Prop} (h : S l = some (.lst ds)) (g : G l) : ∃ l' ds, D.ref l = .ref l' ∧ S l' = some (.lst ds) ∧ G l' := ⟨l, ds, rfl, h, g⟩
end
end VS
namespace VS
theorem brNd {α : Type} {x y : α} [Decidable (x = y)] {A B : Prop} (e : x = y) (b : B) : ((!decide (x = y)) = true → A) ∧ ((!decide (x = y)) = false → B) :=
  ⟨fun z => (by rw [decide_eq_true e] at z; cases z), fun _ => b⟩
theorem brYn {α : Type} {x y : α} [Decidable (x = y)] {A B : Prop} (e : x ≠ y) (b : B) : (decide (x = y) = true → A) ∧ (decide (x = y) = false → B) :=
  ⟨fun z => (by rw [decide_eq_false e] at z; cases z), fun _ => b⟩
end VS
namespace VS
open PySem L2
/-! ### data, by value or as a list or dict known by reference -/
inductive Da (S : Sto) : D → D → Prop
  | v {d : D} (p : isP d = true) : Da S d d
  | c {l : Addr} {ds : List D} (h : S l = some (.lst ds)) (p : isP (.lst ds) = true) : Da S (.ref l) (.lst ds)
  | k {l : Addr} {ds : List (Key × D)} (h : S l = some (.dK ds)) (p : isP (.dK ds) = true) : Da S (.ref l) (.dK ds)
def tyN : D → String
  | .non => "NoneType"
  | .bl _ => "bool"
  | .int _ => "int"
  | .str _ => "str"
  | .lst _ => "list"
  | .tup _ => "tuple"
  | .dK _ => "dict"
  | _ => ""
theorem tyN_all {P : String → Prop} (h1 : P "NoneType") (h2 : P "bool") (h3 : P "int") (h4 : P "str") (h5 : P "list") (h6 : P "tuple") (h7 : P "dict") : ∀ {d : D}, isP d = true → P (tyN d)
  | .non, _ => h1
  | .bl _, _ => h2
  | .int _, _ => h3
  | .str _, _ => h4
  | .lst _, _ => h5
  | .tup _, _ => h6
  | .dK _, _ => h7
  | .ty _, h => by cases h
  | .ref _, h => by cases h
  | .rol _, h => by cases h
  | .hid, h => by cases h
  | .ins _ _, h => by cases h
  | .xcp _ _ _ _, h => by cases h
  | .xv _ _, h => by cases h
section
variable {S S' : Sto} {d d' : D}
theorem Da.p (h : Da S d d') : isP d' = true := by cases h <;> assumption
theorem Da.ty (h : Da S d d') : TyS S d (tyN d') := by
  cases h with
  | v p =>
    cases d with
    | non => exact .non
    | bl b => exact .bl b
    | int i => exact .int i
    | str z => exact .str z
    | lst xs => exact .lst xs
    | tup xs => exact .tup xs
    | dK xs => exact .dK xs
    | _ => cases p
  | c h p => exact .cl h
  | k h p => exact .cd h
theorem Da.of {K : PySem.W.Frag} (h : Da S d d') : OfC K S d (.type (tyN d')) := .p h.ty
/-- of a built-in class -/
def isK (N : String) (d : D) : Bool := (kitB (tyN d) N).getD false
theorem isK_all {N : String} (h1 : (kitB "NoneType" N).isSome = true) (h2 : (kitB "bool" N).isSome = true) (h3 : (kitB "int" N).isSome = true) (h4 : (kitB "str" N).isSome = true) (h5 : (kitB "list" N).isSome = true) (h6 : (kitB "tuple" N).isSome = true) (h7 : (kitB "dict" N).isSome = true)
    (h : isP d = true) : kitB (tyN d) N = some (isK N d) := by
  have e := tyN_all (P := fun n => (kitB n N).isSome = true) h1 h2 h3 h4 h5 h6 h7 h
  unfold isK
  cases q : kitB (tyN d) N with
  | none => rw [q] at e; cases e
  | some b => rfl
theorem rc_isiD {c : Ctx} {F : D → Sto → Prop} {N : String} (h : Da S d d') (e : kitB (tyN d') N = some (isK N d')) (q : F (.bl (isK N d')) S) : RC c (rIsiZ c.K) [d, .ty N] S F := rc_isi h.ty e q
theorem isK_str (h : isP d = true) : kitB (tyN d) "str" = some (isK "str" d) := isK_all rfl rfl rfl rfl rfl rfl rfl h
theorem isPL_of : ∀ {xs : List D}, (∀ x ∈ xs, isP x = true) → isPL xs = true
  | [], _ => rfl
  | y :: ys, h => by
    show (isP y && isPL ys) = true
    rw [h y (List.mem_cons_self ..), isPL_of fun x hx => h x (List.mem_cons_of_mem _ hx)]; rfl
/-- all items of a list are data, one to one -/
inductive DaL (S : Sto) : List D → List D → Prop
  | nil : DaL S [] []
  | cons {d d' : D} {ds ds' : List D} (h : Da S d d') (t : DaL S ds ds') : DaL S (d :: ds) (d' :: ds')
theorem DaL.at : ∀ {xs ys : List D} {i : Nat} {d : D}, DaL S xs ys → xs[i]? = some d → ∃ d', ys[i]? = some d' ∧ Da S d d'
  | _, _, _, _, .nil, e => by simp at e
  | _, _, 0, _, .cons h _, e => by simp at e; subst e; exact ⟨_, rfl, h⟩
  | _, _, i + 1, d, .cons _ t, e => by
    obtain ⟨d', h1, h2⟩ := DaL.at (i := i) (d := d) t (by simpa using e)
    exact ⟨d', by simpa using h1, h2⟩
theorem DaL.length : ∀ {xs ys : List D}, DaL S xs ys → xs.length = ys.length
  | _, _, .nil => rfl
  | _, _, .cons _ t => congrArg Nat.succ t.length
theorem DaL.append : ∀ {xs ys us vs : List D}, DaL S xs ys → DaL S us vs → DaL S (xs ++ us) (ys ++ vs)
  | _, _, _, _, .nil, k => k
  | _, _, _, _, .cons h t, k => .cons h (t.append k)
end
end VS
namespace VS
open L2
theorem atI_zero {α : Type} {x : α} {xs : List α} : atI (x :: xs) 0 = some x := atI_nat (j := 0) rfl
end VS
namespace VS
open PySem L2 C8
section
variable {c : Ctx} {S : Sto} {F : D → Sto → Prop}
theorem rv_catA {xs ys : List D} (hl : xs.length + ys.length ≤ sizeLine) (q : F (.tup (xs ++ ys)) S) : RV c (rCatA c.K) (.tup xs) (.tup ys) S F := fun T u w H cl r1 r2 Q k => by
  obtain ⟨a, us, rfl, s1, rr1⟩ := r1.seqT
  obtain ⟨b, ws, rfl, s2, rr2⟩ := r2.seqT
  refine ⟨a, b, us, ws, rfl, rfl, s1, s2, by rw [rr1.length, rr2.length]; exact hl, fun e => ?_, fun _ e => ?_, fun _ _ p hp => ?_⟩
  · subst e
    cases rr1
    exact k _ _ S T H Mv.refl cl r2 q
  · subst e
    cases rr2
    rw [List.append_nil] at q
    exact k _ _ S T H Mv.refl cl r1 q
  · exact k _ _ S T _ (mv_new hp) (cl.new hp) (.tup (cl.free hp) upd_same ((rr1.append rr2).mv (mv_new hp))) q
theorem rs_tupG {ds : List D} {lo hi : Option Int} (q : F (.tup (cutD ds lo hi)) S) : RS c (rSlA c.K) (.tup ds) lo hi S F := by
  by_cases n : HT.sIx ds.length 0 lo = 0 ∧ HT.sIx ds.length ds.length hi = ds.length
  · have e : cutD ds lo hi = ds := by
      unfold cutD
      rw [n.1, n.2, List.drop_zero, Nat.sub_zero, List.take_length]
    rw [e] at q
    exact fun T u H cl r Q k => by
      obtain ⟨a, xs, rfl, s, rr⟩ := r.seqT
      exact ⟨a, xs, rfl, s, fun _ => k _ _ S T H Mv.refl cl r q, fun z => absurd (by rw [rr.length]; exact n) z⟩
  · exact rs_tupA n q
theorem cut_len {xs : List D} {lo hi : Option Int} : (cutD xs lo hi).length ≤ xs.length := by
  unfold cutD
  rw [List.length_take, List.length_drop]
  omega
end
end VS
namespace VS
theorem ex_two {x y : D} {G : D → D → Prop} (g : G x y) : ∃ x' y', ([x, y] : List D) = [x', y'] ∧ G x' y' := ⟨x, y, rfl, g⟩
end VS
namespace VS
open L2
end VS
namespace VS
open PySem L2
theorem keepc {S : Sto} {p a : Addr} {d x : D} (h : S a = some x) (hp : S p = none) : put S p d a = some x := (put_ne (ne_at h hp)).trans h
end VS
namespace VS
open PySem L2
theorem Da.put {S : Sto} {y : Addr} {x d d' : D} (h : Da S d d') (hy : S y = none) : Da (VS.put S y x) d d' := by
  cases h with
  | v p => exact .v p
  | c h p => exact .c (keepc h hy) p
  | k h p => exact .k (keepc h hy) p
end VS
namespace VS
theorem joinD {A Q : D → Sto → Prop} {B : Prop} (h : (∀ d S, A d S → Q d S) → B) (k : ∀ d S, A d S → Q d S) : B := h k
end VS
namespace VS
open PySem L2 C8
/-! ### try by name -/
def tTry (K : PySem.W.Frag) (tb : WX → TS) (l : List Cla) : TS := fun D σ H => tb (wCla K D l) D σ H
section
variable {X : Cx}
theorem ps_tryD {body : List Stmt} {h₀ : ExceptHandler} {hds : List ExceptHandler} {l : List Cla} {tb : WX → TS} {pos : Pos} (hs : X.stack = X.env :: X.outer) (hf : X.env.frame = some X.env.locals) (hN : X.N.Nodup)
    (hb : ∀ (W : WX) (pn : List (Addr × Obj)) (xe : Value → Shared → Prop), Takes (X.tr pn xe) W → PassesOwn (model X.prog X.w) X.A X.env xe → PSs (X.tr pn xe) body (tb W)) (hh : Clas X (h₀ :: hds) l) :
    PS X (.Try body (h₀ :: hds) [] [] pos) (tTry X.K tb l) := ps_tryC hs hf hN hb hh
end
theorem vx_tryD {c : Ctx} {ρ : Rho} {S : Sto} {P : Po} {tb : WX → TS} {l : List Cla} (h : ∀ E' : L2.St → XK, VX ⟨c.K, E', fun C fs ρ' S' => HdV c P l C fs ρ' S'⟩ (tb (fun cls d σ H => E' σ cls d H)) ρ S P) :
    VX c (tTry c.K tb l) ρ S P := vx_try h
theorem hd_hit {c : Ctx} {ρ : Rho} {S : Sto} {P : Po} {k : Cla} {r : List Cla} {C : Addr} {fs : List (Str × D)} (e : PySem.W.exmOne c.K (.ref C) k.c = some true) (h : ∀ a dd, VX c (k.t a (.ref C) (some dd)) (inR k.i (.xcp a dd C fs) ρ) S (offP k.i P)) :
    HdV c P (k :: r) C fs ρ S := ⟨true, e, fun _ => h, nofun⟩
theorem hd_skip {c : Ctx} {ρ : Rho} {S : Sto} {P : Po} {k : Cla} {r : List Cla} {C : Addr} {fs : List (Str × D)} (e : PySem.W.exmOne c.K (.ref C) k.c = some false) (h : HdV c P r C fs ρ S) :
    HdV c P (k :: r) C fs ρ S := ⟨false, e, nofun, fun _ => h⟩
end VS
namespace VS
open PySem L2 C8
theorem ex_xf {a dd C : Addr} {fs : List (Str × D)} {f : Str} {e : D} {G : D → Prop} (h : fs.lookup f = some e) (g : G e) : ∃ dd' fs' e', D.xcp a dd C fs = .xcp a dd' C fs' ∧ some dd = some dd' ∧ fs'.lookup f = some e' ∧ G e' := ⟨dd, fs, e, rfl, rfl, h, g⟩
end VS
namespace VS
open PySem L2 C8
/-! ### within a clause's suite -/
end VS
namespace VS
open PySem L2
/-! ### what is known by reference read as by value meanwhile -/
section
variable {c : Ctx} {ρ ρ' : Rho} {S : Sto} {F : D → Sto → Prop} {G : Bool → Sto → Prop}
open Classical in
/-- the cells of V by value, all others hidden -/
noncomputable def viewT (V : Addr → Prop) (T : Sto) : Sto := fun b => if V b then none else (T b).map fun _ => .hid
abbrev noS : Sto := fun _ => none
theorem viewT_none {V : Addr → Prop} {T : Sto} {a : Addr} (h : T a = none) : viewT V T a = none := by
  unfold viewT
  split
  · rfl
  · rw [h]; rfl
theorem viewT_in {V : Addr → Prop} {T : Sto} {a : Addr} (h : V a) : viewT V T a = none := by
  unfold viewT
  rw [if_pos h]
theorem viewT_out {V : Addr → Prop} {T : Sto} {a : Addr} {d : D} (h : ¬ V a) (e : T a = some d) : viewT V T a = some .hid := by
  unfold viewT
  rw [if_neg h, e]; rfl
theorem viewT_some {V : Addr → Prop} {T : Sto} {a : Addr} {d : D} (e : viewT V T a = some d) : d = .hid ∧ ∃ d', T a = some d' := by
  unfold viewT at e
  split at e
  · cases e
  · cases q : T a with
    | none => rw [q] at e; cases e
    | some d' => rw [q] at e; cases e; exact ⟨rfl, d', rfl⟩
theorem mv_view {V : Addr → Prop} {T : Sto} {H : Hp} (hV : ∀ l, V l → T l ≠ some .hid) : Mv T H (viewT V T) H where
  keep := fun _ _ _ h => h
  fresh := fun _ s _ => viewT_none s
  hid := fun a o s e => ⟨e, viewT_out (fun z => hV a z s) s⟩
theorem cells_view {K : PySem.W.Frag} {V : Addr → Prop} {T : Sto} {H : Hp} (cl : Cells K H S T) : Cells K H noS (viewT V T) where
  ov := fun a => by
    cases q : viewT V T a with
    | none => exact .inl ⟨rfl, by simp⟩
    | some d => obtain ⟨rfl, _⟩ := viewT_some q; exact .inr ⟨rfl, rfl⟩
  ok := fun a d e => by
    obtain ⟨rfl, d', h⟩ := viewT_some e
    have h' := cl.ok a d' h
    cases q : H a with
    | none => exact absurd q h'.there
    | some o => exact ⟨o, q⟩
/-- behind it all is as it was -/
theorem view_back {K : PySem.W.Frag} {V : Addr → Prop} {T T' : Sto} {H H' : Hp} {S' : Sto} (hV : ∀ l, V l → T l ≠ some .hid) (cl : Cells K H S T) (m : Mv (viewT V T) H T' H') (_ : Cells K H' S' T') : Mv T H T H' ∧ Cells K H' S T := by
  have same : ∀ a d, T a = some d → H' a = H a := fun a d e => by
    have th := (cl.ok a d e).there
    cases q : H a with
    | none => exact absurd q th
    | some o =>
      by_cases hv : V a
      · exact m.keep a o (viewT_in hv) q
      · exact (m.hid a o (viewT_out hv e) q).1
  have mm : Mv T H T H' := ⟨⟨fun a o s e => m.keep a o (viewT_none s) e, fun _ s _ => s⟩, fun a o s e => ⟨by rw [same a _ s]; exact e, s⟩⟩
  exact ⟨mm, cl.ov, fun a d e => CellOk.mv mm (same a d e) (cl.ok a d e)⟩
/-- the slots, some of them read -/
structure Views (V : Addr → Prop) (S : Sto) (ρ ρ' : Rho) : Prop where
  len : ρ'.length = ρ.length
  at_ : ∀ (i : Nat) (d' : D), ρ'[i]? = some (some d') → ρ[i]? = some (some d') ∨ ∃ l, ρ[i]? = some (some (.ref l)) ∧ S l = some d' ∧ d' ≠ .hid ∧ V l
  ok : ∀ l, V l → ∃ d, S l = some d ∧ d ≠ .hid
theorem Views.in {V : Addr → Prop} {T : Sto} {σ : St} {H : Hp} (w : Views V S ρ ρ') (I : In c σ H ρ S T) : (∀ l, V l → T l ≠ some .hid) ∧ In c σ H ρ' noS (viewT V T) := by
  have hV : ∀ l, V l → T l ≠ some .hid := fun l h => by
    obtain ⟨d, e, n⟩ := w.ok l h
    exact I.cells.nohid e n
  have m := mv_view (H := H) hV
  have cl := cells_view (V := V) I.cells
  refine ⟨hV, cl, fun i d' e => ?_, by rw [w.len]; exact I.len, (I.mv m cl).exc⟩
  rcases w.at_ i d' e with h | ⟨l, h, hs, n, hv⟩
  · obtain ⟨v, h1, h2⟩ := I.slots i d' h
    exact ⟨v, h1, h2.mv m⟩
  · obtain ⟨v, h1, h2⟩ := I.slots i _ h
    cases h2
    refine ⟨_, h1, ?_⟩
    have ht := I.cells.at hs
    have r := I.cells.ok l d' ht
    cases d' with
    | lst ds => obtain ⟨xs, hx, rr⟩ := r; exact .lst (viewT_in hv) hx (rr.mv m)
    | dK ds => obtain ⟨xs, hx, rr⟩ := r; exact .dK (viewT_in hv) (.inl hx) (rr.mv m)
    | ins C ds => obtain ⟨dx, fs, hx, rr⟩ := r; exact .ins (viewT_in hv) hx (rr.mv m)
    | hid => exact absurd rfl n
    | _ => exact r.elim
end
end VS
namespace VS
open PySem L2
section
variable {c : Ctx} {ρ ρ' : Rho} {S : Sto} {F : D → Sto → Prop} {G : Bool → Sto → Prop}
/-- the items of a list or a tuple -/
def rowsOf : D → List D
  | .lst xs => xs
  | .tup xs => xs
  | _ => []
def isLT : D → Bool
  | .lst _ => true
  | .tup _ => true
  | _ => false
theorem isS_of {d : D} (h : isLT d = true) : IsS d (rowsOf d) := by
  cases d with
  | lst xs => exact .l .v
  | tup xs => exact .t
  | _ => cases h
theorem rc_isiLT {d d' : D} (hd : Da S d d') (q : F (.bl (isLT d')) S) : RC c (rIsiV c.K) [d, .tup [.ty "list", .ty "tuple"]] S F := by
  have e : PySem.W.kitAny c.K (.type (tyN d')) [.type "list", .type "tuple"] = some (isLT d') := by
    have p := hd.p
    cases d' with
    | non => rfl
    | bl b => rfl
    | int i => rfl
    | str z => rfl
    | lst xs => rfl
    | tup xs => rfl
    | dK xs => rfl
    | _ => cases p
  exact rc_isiV hd.of (.cons (.ty _) (.cons (.ty _) .nil)) e q
theorem ex_self {K : PySem.W.Frag} {l C : Addr} {fs : List (Str × D)} {f : Str} {G : Addr → Addr → List (Str × D) → Prop} (h : S l = some (.ins C fs)) (k : Cls K C) (n : NoAttr K C f) (hl : fs.length < 1000) (g : G l C fs) :
    ∃ l' C' fs', D.ref l = .ref l' ∧ S l' = some (.ins C' fs') ∧ Cls K C' ∧ NoAttr K C' f ∧ fs'.length < 1000 ∧ G l' C' fs' := ⟨l, C, fs, rfl, h, k, n, hl, g⟩
end
end VS
namespace VS
open PySem L2 C8 PySem.Spec PyProof.Rows
/-! ### len and != by an own def -/
section
variable {prog : Program} {w : World} {A : Around} {E : Value → Shared → Prop} {s : Shared} {K : PySem.W.Frag} {x C f : Addr} {ox : Obj} {od : Option Obj} {b : Value}
def LenBack (Q : Value → Shared → Prop) (v : Value) (s' : Shared) : Prop := ∃ (i : Int) (t : Tok), v = .int i t ∧ 0 ≤ i ∧ i < 2 ^ 63 ∧ Q (.int i s'.toks) { s' with toks := s'.toks + 1 }
theorem len_own {Q : Value → Shared → Prop} (X : K.In s.heap) (I : PySem.W.InstAt s.heap x ox C od) (hs : PySem.W.findIn K (.ref C) "__len__" = some (some (.ref f))) (hf : PySem.W.isFn K (.ref f) = true)
    (h : wpAny (model prog w) A.in1 (call (.ref f) [.ref x]) (LenBack Q) E s) : wpAny (model prog w) A (call (.builtin "len") [.ref x]) Q E s := by
  refine Calls.call_function_entry kind_len plain_len entry_len (args_len1 _) ?_
  unfold Builtin.«len»
  refine wpAny_bind (m := oneArg "len" _) (wpAny_pure ?_)
  refine wpAny_bind (m := callSpecial? (.ref x) (PySem.Str.ofString "__len__")) (PySem.W.special_fn X I hs (beq_iff_eq.mp hf) (wpAny_mono h (fun r s' hr => ?_) fun _ _ y => y))
  obtain ⟨i, t, rfl, h0, h1, q⟩ := hr
  refine wpAny_bind (wpAny_holding (wpAny_pure ?_))
  refine wpAny_bind (wpAny_letGo ?_)
  show wpAny _ _ (if i < 0 then _ else _) _ _ _
  rw [if_neg (by omega)]
  show wpAny _ _ (if i ≥ 2 ^ 63 then _ else _) _ _ _
  rw [if_neg (by omega)]
  exact wpAny_bind (wpAny_mkInt (wpAny_pure ⟨_, rfl, q⟩))
end
section
variable {X : Cx} {k : Nat} {f C : Addr} {fd : FuncData} {ps : List Str} {sp : Sp}
def rLenO (K : PySem.W.Frag) (C : Addr) (sp : Sp) : CR1 := fun xs H Q => ∃ a dx fs, xs = [.ref a] ∧ H a = some (.ins C dx fs) ∧ sp [.ref a] H (fun v H' => ∃ i : Int, v = .int i ∧ 0 ≤ i ∧ i < 2 ^ 63 ∧ Q (.int i) H') (fun _ _ _ => False)
theorem c_lenO (F : FnG X.prog X.w X.K X.mg X.base (L2.CX X.prog X.w) k f fd ps sp) (hgd : X.A.guards = some []) (hr : Room (k + 1) X.A) (hs : PySem.W.findIn X.K (.ref C) "__len__" = some (some (.ref f))) (hf : PySem.W.isFn X.K (.ref f) = true) (hb : Binds X.K fd ps []) :
    CallR X (.builtin "len") (rLenO X.K C sp) := by
  intro pins s σ H xs us Q I r h
  obtain ⟨a, dx, fs, rfl, ha, hp⟩ := h
  obtain ⟨u, rfl, rv⟩ := vals1 r
  cases (show u = Value.ref a from rv)
  obtain ⟨mA, J, _⟩ := ins_get I.hok ha
  obtain ⟨od, J, _⟩ := J.look
  refine len_own I.kIn J hs hf ?_
  refine wpAny_mono (callG_at (A := X.A.in1) F hgd hr.in1 rfl hb I (.cons (show RelV (.ref a) (.ref a) from rfl) .nil) hp) (fun rr s' q => ?_) fun _ _ z => z
  obtain ⟨w, H', I', rw', i, ew, h0, h1, q'⟩ := q
  subst ew
  obtain ⟨tk, rfl⟩ := (show ∃ tk, rr = .int i tk from rw')
  exact ⟨i, tk, rfl, h0, h1, .int i, H', I'.tok _, ⟨_, rfl⟩, q'⟩
end
section
variable {c : Ctx} {ρ : Rho} {S : Sto} {F : D → Sto → Prop}
theorem rc_lenO {x : D} {C : Addr} {fs : List (Str × D)} {p : Pt} (i : IsI S x C fs) (h : p [x] S (fun d S' => ∃ n : Int, d = .int n ∧ 0 ≤ n ∧ n < 2 ^ 63 ∧ F (.int n) S') noY) : RC c (rLenO c.K C (spOf c.K p)) [x] S F := fun T us H cl r Q k => by
  cases r with
  | cons r1 r =>
    cases r
    obtain ⟨a, dx, fv, rfl, ha, rf⟩ := i.rd cl r1
    refine ⟨a, dx, fv, rfl, ha, ⟨[x], S, T, _, noY, .cons r1 .nil, cl, h, ?_, fun _ _ _ _ _ _ _ _ _ z => z.elim⟩⟩
    rintro v d S' T' H' m cl' r' ⟨n, rfl, h0, h1, q⟩
    cases r'
    exact ⟨n, rfl, h0, h1, k _ _ S' T' H' m cl' (.int n) q⟩
end
end VS
namespace VS
open PySem L2 C8
end VS
namespace VS
open PySem L2 C8 PySem.Spec PyProof.Rows
/-! ### == with an empty list, an empty tuple -/
def rEqE (K : PySem.W.Frag) : R2 := fun x y H Q => ∃ a b xs, x = .ref a ∧ y = .ref b ∧ ((SqL K H a xs ∧ SqL K H b []) ∨ (SqT K H a xs ∧ SqT K H b [])) ∧ Q (.bl xs.isEmpty) H
section
variable {c : Ctx} {S : Sto} {F : D → Sto → Prop}
theorem rv_eqEL {x : D} {xs : List D} (h : IsL S x xs) (q : F (.bl xs.isEmpty) S) : RV c (rEqE c.K) x (.lst []) S F := fun T u w H cl r1 r2 Q k => by
  obtain ⟨a, us, rfl, s1, rr⟩ := h.rd cl r1
  obtain ⟨b, ws, rfl, s2, rr2⟩ := (IsL.v (S := S) (ds := [])).rd cl r2
  cases rr2
  refine ⟨a, b, us, rfl, rfl, .inl ⟨s1, s2⟩, ?_⟩
  have e : us.isEmpty = xs.isEmpty := by cases rr <;> rfl
  rw [e]
  exact k _ _ S T H Mv.refl cl (.bl _) q
theorem rv_eqET {xs : List D} (q : F (.bl xs.isEmpty) S) : RV c (rEqE c.K) (.tup xs) (.tup []) S F := fun T u w H cl r1 r2 Q k => by
  obtain ⟨a, us, rfl, s1, rr⟩ := r1.seqT
  obtain ⟨b, ws, rfl, s2, rr2⟩ := r2.seqT
  cases rr2
  refine ⟨a, b, us, rfl, rfl, .inr ⟨s1, s2⟩, ?_⟩
  have e : us.isEmpty = xs.isEmpty := by cases rr <;> rfl
  rw [e]
  exact k _ _ S T H Mv.refl cl (.bl _) q
end
end VS
namespace VS
open PySem L2 C8 PySem.Spec PyProof.Rows
def rNeE (K : PySem.W.Frag) : R2 := fun x y H Q => ∃ a b xs, x = .ref a ∧ y = .ref b ∧ ((SqL K H a xs ∧ SqL K H b []) ∨ (SqT K H a xs ∧ SqT K H b [])) ∧ Q (.bl (!xs.isEmpty)) H
theorem op_neE {X : Cx} {k : Nat} (hr : Room k X.A) : OpR X (compareOp .NotEq) (rNeE X.K) := by
  intro pins s σ H x y v u Q I rx ry h
  obtain ⟨a, b, xs, rfl, rfl, hq, q⟩ := h
  cases rx
  cases ry
  show wpAny _ _ (richCompare .NotEq (.ref a) (.ref b)) _ _ _
  rcases hq with ⟨h1, h2⟩ | ⟨h1, h2⟩
  · obtain ⟨its, rv, p, _⟩ := I.list h1
    obtain ⟨its2, rv2, p2, _⟩ := I.list h2
    cases rv2
    cases rv with
    | nil => exact SeqAt.RcNeAt.lists (e := fun _ => true) p.isList p2.isList rfl hr.units0 (fun j h => absurd h (by simp)) _ _ _ _ ⟨.bl false, H, I, rfl, q⟩
    | cons r rs => exact SeqAt.RcNeAt.lists_lengths p.isList p2.isList (by simp) hr.units0 _ _ _ _ ⟨.bl true, H, I, rfl, q⟩
  · obtain ⟨its, rv, p, _⟩ := I.tuple h1
    obtain ⟨its2, rv2, p2, _⟩ := I.tuple h2
    cases rv2
    have e : (!((List.range (min its.toArray.size ([] : List Value).toArray.size)).all (fun _ => true) && its.toArray.size == ([] : List Value).toArray.size)) = !xs.isEmpty := by
      cases rv with
      | nil => rfl
      | cons r rs => simp
    refine SeqAt.RcNeAt.tuples (e := fun _ => true) (show s.heap.IsTuple a its.toArray from p) (show s.heap.IsTuple b _ from p2) hr.units0 (fun j _ h => absurd h (by simp)) _ _ _ _ ?_
    rw [e]
    exact ⟨.bl (!xs.isEmpty), H, I, rfl, q⟩
section
variable {c : Ctx} {S : Sto} {F : D → Sto → Prop}
theorem rv_neEL {x : D} {xs : List D} (h : IsL S x xs) (q : F (.bl (!xs.isEmpty)) S) : RV c (rNeE c.K) x (.lst []) S F := fun T u w H cl r1 r2 Q k => by
  obtain ⟨a, us, rfl, s1, rr⟩ := h.rd cl r1
  obtain ⟨b, ws, rfl, s2, rr2⟩ := (IsL.v (S := S) (ds := [])).rd cl r2
  cases rr2
  refine ⟨a, b, us, rfl, rfl, .inl ⟨s1, s2⟩, ?_⟩
  have e : us.isEmpty = xs.isEmpty := by cases rr <;> rfl
  rw [e]
  exact k _ _ S T H Mv.refl cl (.bl _) q
theorem rv_neET {xs : List D} (q : F (.bl (!xs.isEmpty)) S) : RV c (rNeE c.K) (.tup xs) (.tup []) S F := fun T u w H cl r1 r2 Q k => by
  obtain ⟨a, us, rfl, s1, rr⟩ := r1.seqT
  obtain ⟨b, ws, rfl, s2, rr2⟩ := r2.seqT
  cases rr2
  refine ⟨a, b, us, rfl, rfl, .inr ⟨s1, s2⟩, ?_⟩
  have e : us.isEmpty = xs.isEmpty := by cases rr <;> rfl
  rw [e]
  exact k _ _ S T H Mv.refl cl (.bl _) q
end
end VS
namespace VS
open PySem L2 C8 PySem.Spec PyProof.Rows
/-! ### == with an own instance on the right -/
section
variable {prog : Program} {w : World} {A : Around} {E : Value → Shared → Prop} {s : Shared} {K : PySem.W.Frag} {x C dx f : Addr} {u : Value} {T : String}
/-- the kinds that decline -/
inductive LKd : Value → String → Prop
  | non : LKd .none "NoneType" | bl (b : Bool) : LKd (.bool b) "bool" | int (i : Int) (t : Tok) : LKd (.int i t) "int" | str (x : Str) (t : Tok) : LKd (.str x t) "str"
  | lst (a : Addr) : LKd (.ref a) "list" | tup (a : Addr) : LKd (.ref a) "tuple" | dct (a : Addr) : LKd (.ref a) "dict"
end
section
variable {X : Cx} {k : Nat} {f C : Addr} {fd : FuncData} {ps : List Str} {sp : Sp}
inductive KdV : V → String → Prop
  | non : KdV .non "NoneType" | bl (b : Bool) : KdV (.bl b) "bool" | int (i : Int) : KdV (.int i) "int" | str (x : Str) : KdV (.str x) "str"
  | lst (a : Addr) : KdV (.ref a) "list" | tup (a : Addr) : KdV (.ref a) "tuple" | dct (a : Addr) : KdV (.ref a) "dict"
theorem KdV.ok {x : V} {u : Value} {T : String} (k : KdV x T) (r : RelV x u) : LKd u T := by
  cases k with
  | non => cases (show u = Value.none from r); exact .non
  | bl b => cases (show u = Value.bool b from r); exact .bl b
  | int i => obtain ⟨t, q⟩ := (show ∃ t, u = Value.int i t from r); cases q; exact .int i t
  | str y => obtain ⟨t, q⟩ := (show ∃ t, u = Value.str y t from r); cases q; exact .str y t
  | lst a => cases (show u = Value.ref a from r); exact .lst a
  | tup a => cases (show u = Value.ref a from r); exact .tup a
  | dct a => cases (show u = Value.ref a from r); exact .dct a
end
end VS
namespace VS
open PySem L2 PySem.Spec PyProof.Rows
/-! ### C(e) as a value, C an own exception class of one field -/
end VS
namespace VS
open PySem L2 C8 PySem.Spec PyProof.Rows
/-! ### reversed(a list by value) -/
section
variable {c : Ctx} {ρ : Rho} {S : Sto}
theorem rev_get {α : Type} {xs : List α} {i : Nat} {x : α} (h : xs.reverse[i]? = some x) : xs[xs.length - 1 - i]? = some x ∧ i < xs.length := by
  have hi : i < xs.length := by
    have := (List.getElem?_eq_some_iff.mp h).1
    rwa [List.length_reverse] at this
  refine ⟨?_, hi⟩
  rw [List.getElem?_reverse hi] at h
  exact h
theorem vi_rev {ta : TA} {W : List D → Sto → Prop} (h : VA c ta ρ S fun es S1 => ∃ x ds, es = [x] ∧ IsW x ds ∧ W ds.reverse S1) : VI c (iRev c.K ta) ρ S W := fun T σ H I R k =>
  h T σ H I _ fun vs es S1 T1 H1 m1 c1 r1 ⟨x, ds, e, hx, q⟩ => by
    subst e
    cases r1 with
    | cons h1 t =>
      cases t
      obtain ⟨a, xs, rfl, hq, r⟩ := hx.rd h1
      refine ⟨a, xs, rfl, hq _ _ Mv.refl, k _ ds.reverse S1 T1 H1 m1 c1 ⟨fun H => SqL c.K H a xs, _, by rw [List.length_reverse, ← r.length]; exact walk_rev, hq, fun i d S2 T2 H2 H3 y e m cl yy => ?_⟩ q⟩
      obtain ⟨e1, e2⟩ := yy
      subst e1
      obtain ⟨e3, hi⟩ := rev_get e
      rw [← r.length] at e3
      obtain ⟨v, e4, r'⟩ := r.get e3
      rw [e2] at e4
      cases e4
      exact ⟨Mv.refl, cl, r'.mv m⟩
end
end VS
namespace VS
open PySem L2 PySem.Spec PyProof.Rows
/-! ### len(set(texts)) -/
/-- how many unlike ones stand among the first i -/
def unl (xs : List Str) : Nat → Nat
  | 0 => 0
  | i + 1 => bif (xs.take i).any (· == xs.getD i Str.empty) then unl xs i else unl xs i + 1
def inI (xs : List Str) (i : Nat) (k : Str) : Bool := (xs.take i).any (· == k)
theorem unl_le {xs : List Str} : ∀ i, unl xs i ≤ i
  | 0 => Nat.le_refl _
  | i + 1 => by
    have := unl_le (xs := xs) i
    unfold unl
    cases (xs.take i).any (· == xs.getD i Str.empty)
    · simp only [cond_false]; omega
    · simp only [cond_true]; omega
theorem getD_at {xs : List Str} {i : Nat} (h : i < xs.length) : xs.getD i Str.empty = xs[i] := by
  rw [List.getD_eq_getElem?_getD, List.getElem?_eq_getElem h] <;> rfl
theorem inI_put {xs : List Str} {i : Nat} (h : i < xs.length) (k : Str) : (inI xs i k || decide (k = xs.getD i Str.empty)) = inI xs (i + 1) k := by
  unfold inI
  rw [List.take_add_one, List.getElem?_eq_getElem h, getD_at h, List.any_append]
  congr 1
  show decide (k = xs[i]) = ((xs[i] == k) || false)
  rw [Bool.or_false]
  by_cases e : k = xs[i]
  · subst e; simp
  · rw [decide_eq_false e]; exact (beq_eq_false_iff_ne.mpr (Ne.symm e)).symm
section
variable {prog : Program} {w : World} {A : Around} {E : Value → Shared → Prop} {s : Shared}
abbrev HasT (prog : Program) (w : World) (h : Heap) (a : Addr) (xs : List Str) (i : Nat) : Prop := h.SetOf (PySem.strKind prog w) a (inI xs i) (unl xs i)
theorem HasT.keep {h h' : Heap} {a : Addr} {xs : List Str} {i : Nat} (t : HasT prog w h a xs i) (k : ∀ o, h.get? a = some o → h'.get? a = some o) : HasT prog w h' a xs i := by
  obtain ⟨o, es, ep, t, g, r⟩ := t
  exact ⟨o, es, ep, t, k _ g, r⟩
theorem put_each {R : Result → Shared → Prop} {I : Addr} {fp wr : List Addr} {G : Array GenState → Array GenState → Prop} {n : Nat} {P : Nat → Value → Prop} {St : Nat → Shared → Prop}
    (W : WalksS prog w A.in1 I fp wr G n P St) {a : Addr} (na : a ∉ fp) {xs : List Str} (le : xs.length = n) (sm : n + 1 < scanBound) (vl : ∀ i v, P i v → ∃ t, v = .str (xs.getD i Str.empty) t) (k : Nat) :
    ∀ (i : Nat) (s : Shared), i + k = n → St i s → HasT prog w s.heap a xs i → (∀ s', Moved (a :: wr) G s s' → HasT prog w s'.heap a xs n → R (.ok (.ret .none)) s') →
      codeAny (model prog w) A (.builtin "set.update.loop" ⟨[.ref a, .ref I], []⟩) R s := by
  have nw : a ∉ wr := fun z => na (W.sub a z)
  have wide : ∀ {x y : Shared}, Moved wr G x y → Moved (a :: wr) G x y := fun m => ⟨fun b o z => m.heap b o fun y => z (.tail _ y), m.gens, m.drawn, m.os, m.toks⟩
  induction k with
  | zero =>
    intro i s e st t q
    obtain rfl : i = n := e
    refine codeAny_builtin F.entry_set_update_loop ?_
    rw [Around.under_plainId F.plain_set_update_loop _]
    exact wpAny_bind (m := pyNext (.ref I)) (W.done s _ _ st fun s' m => wpAny_pure (q s' (wide m) (t.keep fun o => m.heap a o nw)))
  | succ k ih =>
    intro i s e st t q
    have lt : i < n := by omega
    refine codeAny_builtin F.entry_set_update_loop ?_
    rw [Around.under_plainId F.plain_set_update_loop _]
    refine wpAny_bind (m := pyNext (.ref I)) (W.item i s _ _ lt st fun v s1 p1 st1 m1 => ?_)
    obtain ⟨tk, rfl⟩ := vl i v p1
    have t1 : HasT prog w s1.heap a xs i := t.keep fun o => m1.heap a o nw
    have up := unl_le (xs := xs) i
    show wpAny _ A.in1 (holding _ (setAdd a (.str (xs.getD i Str.empty) tk)) >>= _) _ _ s1
    refine wpAny_bind (wpAny_holding ?_)
    unfold setAdd
    refine wpAny_holding (wpAny_bind ((PySem.strKind prog w).pyHash (k := xs.getD i Str.empty) (strKind_is _ _ _ _) ?_))
    refine wpAny_setAddHashed_of (knd := PySem.strKind prog w) (s := { s1 with toks := s1.toks + 1 }) (strKind_is _ _ _ _) rfl t1 (by omega) fun h2 sb t2 => ?_
    have t3 : HasT prog w h2 a xs (i + 1) := SetOf_congr t2 (inI_put (by omega)) (by show (if inI xs i _ = true then _ else _) = bif inI xs i _ then _ else _; cases inI xs i (xs.getD i Str.empty) <;> rfl)
    have away : ∀ b, b ≠ a → ∀ o, s1.heap.get? b = some o → h2.get? b = some o := fun b ne o z => by rw [sb.2 b ne]; exact z
    refine wpAny_pure ⟨plainId_quiet F.plain_set_update_loop _, ih (i + 1) _ (by omega) (W.frame _ s1 _ _ st1 (Nat.le_succ _) fun b hb o z => away b (fun y => na (y ▸ hb)) o z) t3 fun s4 m4 t4 => ?_⟩
    exact q s4 (Moved.trans W.gtrans ((wide m1).then_heap (Nat.le_succ _) fun b o hb z => away b (fun y => hb (y ▸ .head _)) o z) m4) t4
abbrev set0 (led : Bool) : Obj := { cls := .type "set", dict := none, data := .set #[] 0 (.fresh 0 0 led) }
theorem has0 {h : Heap} {a : Addr} {led : Bool} {xs : List Str} (g : h.get? a = some (set0 led)) : HasT prog w h a xs 0 := SetOf_congr ((setObjOf_fresh (knd := PySem.strKind prog w) led).setOf g (by decide)) (fun _ => rfl) rfl
theorem strs_get : ∀ {us : List Value} {xs : List Str}, StrsAre us xs → ∀ (i : Nat) (v : Value), us[i]? = some v → ∃ t, v = .str (xs.getD i Str.empty) t
  | _, _, .nil, i, v, h => by simp at h
  | _, _, .cons y t r, 0, v, h => ⟨t, (Option.some.inj h).symm⟩
  | _, _, .cons y t r, i + 1, v, h => strs_get r i v h
theorem iter_fill {l a : Addr} {its : Array Value} {xs : List Str} {led : Bool} {Q : Value → Shared → Prop} (hh : A.handled = none) (src : s.heap.IsList l its ∨ s.heap.IsTuple l its) (ts : StrsAre its.toList xs) (sm : its.size + 1 < scanBound)
    (ga : s.heap.get? a = some (set0 led)) (q : ∀ h' tk, HasT prog w h' a xs its.size → (∀ b o, b ≠ a → s.heap.get? b = some o → h'.get? b = some o) → Q .none { s with heap := h', toks := tk }) :
    wpAny (model prog w) A (pyIter (.ref l)) (fun it s1 => wpAny (model prog w) A (runValue (.builtin "set.update.loop" ⟨[.ref a, it], []⟩)) Q E s1) E s := by
  have len : xs.length = its.size := by rw [← StrsAre.len_eq ts, Array.length_toList]
  have la : a < s.heap.objs.size := Heap.lt_size ga
  have ll : l < s.heap.objs.size := by rcases src with ⟨o, g, _⟩ | ⟨o, g, _⟩ <;> exact Heap.lt_size g
  have nl : a ≠ l := fun z => by
    subst z
    rcases src with ⟨o, g, c, _⟩ | ⟨o, g, c, _⟩ <;>
    · rw [ga] at g
      cases g
      exact absurd (Value.type.inj c) (by decide)
  have vl : ∀ (i : Nat) (v : Value), its[i]? = some v → ∃ t, v = .str (xs.getD i Str.empty) t := fun i v hv => strs_get ts i v (by rw [Array.getElem?_toList]; exact hv)
  have nw : a ≠ s.heap.objs.size := Nat.ne_of_lt la
  have na : a ∉ [s.heap.objs.size, l] := fun z => by
    rcases List.mem_cons.mp z with z | z
    · exact nw z
    · exact nl (by simpa using z)
  have h1 : A.in1.handled = none := by simpa using hh
  have fin : ∀ (o : Obj) {P : Nat → Value → Prop} {St : Nat → Shared → Prop} {G : Array GenState → Array GenState → Prop}, WalksS prog w A.in1 s.heap.objs.size [s.heap.objs.size, l] [s.heap.objs.size] G its.size P St → (∀ x y, G x y → y = x) → (∀ i v, P i v → its[i]? = some v) →
      St 0 { s with heap := s.heap.push o } → wpAny (model prog w) A (runValue (.builtin "set.update.loop" ⟨[.ref a, .ref s.heap.objs.size], []⟩)) Q E { s with heap := s.heap.push o } := fun o P St G W eg pv st => by
    refine wpAny_runValue (put_each W na len sm (fun i v z => vl i v (pv i v z)) its.size 0 _ (Nat.zero_add _) st (has0 (led := led) (Heap.get?_push_of_some _ ga)) fun s' m t => ?_)
    obtain ⟨h', g', d', tk', os'⟩ := s'
    have e1 : g' = s.gens := eg _ _ m.gens
    have e2 : d' = s.drawn := m.drawn
    have e3 : os' = s.os := m.os
    subst e1; subst e2; subst e3
    refine q h' tk' t fun b o' nb z => m.heap b o' (fun y => ?_) (Heap.get?_push_of_some _ z)
    rcases List.mem_cons.mp y with y | y
    · exact nb y
    · have : b < s.heap.objs.size := Heap.lt_size z
      have e : b = s.heap.objs.size := by simpa using y
      exact absurd e (Nat.ne_of_lt this)
  rcases src with src | src
  · refine wpAny_pyIter_list src ?_
    exact fin _ (Walks.list h1 _ l (Nat.ne_of_lt ll) its).toS (fun _ _ e => e) (fun _ _ e => e) ⟨⟨_, Heap.get?_push_size _ rfl, rfl, rfl⟩, src.push _⟩
  · refine wpAny_pyIter_tuple src ?_
    exact fin _ (Walks.tuple h1 _ l (Nat.ne_of_lt ll) its).toS (fun _ _ e => e) (fun _ _ e => e) ⟨⟨_, Heap.get?_push_size _ rfl, rfl, rfl⟩, src.push _⟩
theorem set_made {l : Addr} {its : Array Value} {xs : List Str} {Q : Value → Shared → Prop} (hh : A.handled = none) (src : s.heap.IsList l its ∨ s.heap.IsTuple l its) (ts : StrsAre its.toList xs) (sm : its.size + 1 < scanBound)
    (q : ∀ h' tk, HasT prog w h' s.heap.objs.size xs its.size → (∀ b o, s.heap.get? b = some o → h'.get? b = some o) → Q (.ref s.heap.objs.size) { s with heap := h', toks := tk }) : wpAny (model prog w) A (call (.type "set") [.ref l]) Q E s := by
  obtain ⟨c, tl, mro⟩ := PySem.F.called_set.mro
  have f1 := PySem.F.called_set.made
  have f2 := PySem.F.called_set.sub
  have f3 := PySem.F.called_set.notType
  have f4 := PySem.F.called_set.canCreate
  have f5 := PySem.F.typeCall_set_1 (.ref l)
  refine wpAny_call (codeAny_of_tree ?_)
  show wpAny _ _ (callAny (.type "set") _) _ _ _
  refine wpAny_pure ⟨Code.quiet_builtin _ (by decide +kernel), codeAny_builtin PySem.F.entry_type_call ?_⟩
  rw [Around.under_plain (weight_type_call_type "set" [.ref l] []) rfl]
  repeat (any_goals (first | assumption | wp_step))
  refine codeAny_mono (code_set_new_1 (.ref l) (E := E) (Q₁ := fun v s1 => ∃ led, v = .ref s.heap.objs.size ∧ s1 = { s with heap := s.heap.push (set0 led) }) fun led => ⟨led, rfl, rfl⟩) fun r s1 hr => ?_
  rcases r with e | fl
  · exact hr
  cases fl <;> first | exact hr.elim | skip
  obtain ⟨led, rfl, rfl⟩ := hr
  have g0 : (s.heap.push (set0 led)).get? s.heap.objs.size = some (set0 led) := Heap.get?_push_size _ rfl
  have ty : Shared.TypeIs { s with heap := s.heap.push (set0 led) } (.ref s.heap.objs.size) "set" := ⟨_, g0, rfl⟩
  have i1 := PySem.F.called_set.init.lookup
  have i2 := PySem.F.called_set.init.bind (.ref s.heap.objs.size)
  have la : ∀ b o, s.heap.get? b = some o → b ≠ s.heap.objs.size := fun b o z => Nat.ne_of_lt (Heap.lt_size z)
  have src2 : (s.heap.push (set0 led)).IsList l its ∨ (s.heap.push (set0 led)).IsTuple l its := src.imp (·.push _) (·.push _)
  repeat (any_goals (first | assumption | wp_step))
  refine codeAny_mono (codeAny_call_builtin (R := wants (fun v s2 => v = .none ∧ ∃ h' tk, s2 = { s with heap := h', toks := tk } ∧ HasT prog w h' s.heap.objs.size xs its.size ∧ ∀ b o, s.heap.get? b = some o → h'.get? b = some o) E)
    PySem.F.called_set.init.plain PySem.F.entry_set_init (check_set_init_1 ty ?_)) fun r2 s2 hr2 => ?_
  · unfold Builtin.«set.__init__» noKeywords Builtin.Frozenset.updateFrom
    generalize hz : pyIter = Z
    have h2 : A.in1.in1.handled = none := by simpa using hh
    have fin : wpAny (model prog w) A.in1.in1 (pyIter (.ref l)) (fun it s1 => wpAny (model prog w) A.in1.in1 (runValue (.builtin "set.update.loop" ⟨[.ref s.heap.objs.size, it], []⟩)) (fun v s2 => v = .none ∧ ∃ h' tk, s2 = { s with heap := h', toks := tk } ∧ HasT prog w h' s.heap.objs.size xs its.size ∧ ∀ b o, s.heap.get? b = some o → h'.get? b = some o) E s1) E { s with heap := s.heap.push (set0 led) } :=
      iter_fill (led := led) h2 src2 ts sm g0 fun h' tk t k => ⟨rfl, h', tk, rfl, t, fun b o z => k b o (la b o z) (Heap.get?_push_of_some _ z)⟩
    rw [hz] at fin
    have kind : ∃ (T : String) (od : Option Addr) (n : Nat) (oz : Array (Option Value)), (s.heap.push (set0 led)).get? l = some ⟨.type T, od, .seq its n, oz⟩ ∧ isSubtype (.type T) (.type "set") = pure false ∧ isSubtype (.type T) (.type "frozenset") = pure false ∧ (Value.type T == Value.type "dict") = false := by
      rcases src2 with ⟨⟨oc, od, ot, oz⟩, g, c, n, e⟩ | ⟨⟨oc, od, ot, oz⟩, g, c, n, e⟩ <;> (simp only at c e; subst c; subst e)
      · exact ⟨_, _, _, _, g, PySem.F.sub_list_set, PySem.F.sub_list_frozenset, by decide⟩
      · exact ⟨_, _, _, _, g, PySem.F.sub_tuple_set, PySem.F.sub_tuple_frozenset, by decide⟩
    obtain ⟨T, od, n, oz, g, b1, b2, b3⟩ := kind
    clear src src2
    wp_walk
    refine wpAny_mono fin (fun it s1 k => wpAny_bind (wpAny_mono k (fun v s2 z => ?_) fun _ _ z => z)) fun _ _ z => z
    obtain ⟨rfl, z⟩ := z
    exact wpAny_pure (wpAny_pure ⟨rfl, z⟩)
  · rcases r2 with e | fl
    · exact hr2
    cases fl <;> first | exact hr2.elim | skip
    obtain ⟨rfl, h', tk, rfl, t, k⟩ := hr2
    repeat (any_goals (first | assumption | wp_step))
    exact q _ _ t k
end
theorem strs_of : ∀ {xs : List Str} {us : List Value}, Vals (xs.map V.str) us → StrsAre us xs
  | [], _, .nil => .nil
  | y :: _, _, .cons ⟨t, e⟩ r => e ▸ .cons y t (strs_of r)
def tLenS (K : PySem.W.Frag) (ta : TE) : TE := fun σ H Q => ta σ H fun x H1 => ∃ (l : Addr) (xs : List Str), x = .ref l ∧ (SqL K H1 l (xs.map V.str) ∨ SqT K H1 l (xs.map V.str)) ∧ xs.length + 1 < scanBound ∧ Q (.int (unl xs xs.length : Nat)) H1
theorem pe_lenS {X : Cx} {e : Expr} {te : TE} {n1 n2 c1 c2 : Pos} (g1 : Gl X "len") (m1 : X.mg "len" = none) (g2 : Gl X "set") (m2 : X.mg "set" = none) (he : PE X e te) (hc : X.calm = true := by rfl)
    (hs : starEach [e] X.env = (false, eval e X.env) :: starEach [] X.env := by rfl) : PE X (.Call (.Name "len" n1) [.Call (.Name "set" n2) [e] [] c2] [] c1) (tLenS X.K te) := by
  refine ⟨fun pins s σ H Q I h => Call_ (ld_blt I g1 m1 boot_len ?_)⟩
  refine callWith_builtin1 (args_cons ?_ rfl) rfl rfl
  refine Call_ (ld_blt I g2 m2 boot_set ?_)
  refine callWith_type1 (args_cons (thn (he.run pins s σ H _ I h) fun v s1 ⟨x, H1, I1, r1, q1⟩ => args_nil ?_) hs) hs rfl
  obtain ⟨l, xs, rfl, hq, small, q1⟩ := q1
  cases r1
  have src : ∃ its : List Value, Vals (xs.map V.str) its ∧ (s1.heap.IsList l its.toArray ∨ s1.heap.IsTuple l its.toArray) := by
    rcases hq with hq | hq
    · obtain ⟨its, r, pl, _⟩ := I1.list hq
      exact ⟨its, r, .inl pl.isList⟩
    · obtain ⟨its, r, pl, _⟩ := I1.tuple hq
      exact ⟨its, r, .inr pl⟩
  obtain ⟨its, r, src⟩ := src
  have len : its.toArray.size = xs.length := by rw [List.size_toArray, ← r.length, List.length_map]
  refine set_made (I1.ok.hd hc) src (by simpa using strs_of r) (by rw [len]; exact small) fun h' tk t k => args_nil ?_
  rw [len] at t
  obtain ⟨o, es, ep, tb, ho, ex, hd, _, _, _, ft, hn⟩ := t
  have I2 : Inv X pins σ H1 { s1 with heap := h', toks := tk } := I1.kept k
  have b := unl_le (xs := xs) xs.length
  have big : scanBound < 2 ^ 62 := by decide
  exact call_len_set ho ex hd ft (by rw [hn]; omega) ⟨.int (unl xs xs.length : Nat), H1, I2.tok _, ⟨_, by rw [hn]⟩, q1⟩
theorem ve_lenS {c : Ctx} {ρ : Rho} {S : Sto} {F : D → Sto → Prop} {te : TE} (h : VE c te ρ S fun x S1 => ∃ xs : List Str, IsQ S1 x (xs.map D.str) ∧ xs.length ≤ 1000 ∧ F (.int (unl xs xs.length : Nat)) S1) : VE c (tLenS c.K te) ρ S F := fun T σ H I Q k =>
  h T σ H I _ fun v x S1 T1 H1 m1 c1 r1 ⟨xs, q, small, f⟩ => by
    obtain ⟨a, vs, rfl, s, r⟩ := q.rd c1 r1
    have e := r.strs
    subst e
    have big : 2000 < scanBound := by decide
    exact ⟨a, xs, rfl, s, by omega, k _ _ S1 T1 H1 m1 c1 (.int _) f⟩
theorem unl_nodup {xs : List Str} (h : xs.Nodup) : ∀ i, i ≤ xs.length → unl xs i = i
  | 0, _ => rfl
  | i + 1, hi => by
    have ih := unl_nodup h i (by omega)
    unfold unl
    rw [ih]
    have no : ((xs.take i).any (· == xs.getD i Str.empty)) = false := by
      rw [Bool.eq_false_iff]
      intro z
      obtain ⟨y, hy, ey⟩ := List.any_eq_true.mp z
      rw [getD_at hi] at ey
      obtain ⟨j, hj, e⟩ := List.mem_take_iff_getElem.mp hy
      have e2 : xs[j] = xs[i] := e.trans (eq_of_beq ey)
      exact List.pairwise_iff_getElem.mp h j i (by omega) hi (by omega) e2
    rw [no]
    rfl
end VS
namespace VS
open PySem L2 PySem.Spec PyProof.Rows
/-! ### min of three, min of a list, list.insert, what is never reached -/
def rMin3 : List V → Hp → VK → Prop := fun xs H Q => ∃ i j k, xs = [.int i, .int j, .int k] ∧ Q (.int (min (min i j) k)) H
theorem c_min3 {X : Cx} (hc : X.calm = true) : CallR X (.builtin "min") rMin3 := by
  intro pins s σ H xs us Q I r h
  obtain ⟨i, j, k, rfl, q⟩ := h
  obtain ⟨t1, t2, t3, rfl⟩ : ∃ t1 t2 t3, us = [.int i t1, .int j t2, .int k t3] := by
    cases r with
    | cons r1 r2 =>
      obtain ⟨v, w, rfl, ⟨t2, rfl⟩, ⟨t3, rfl⟩⟩ := L2.vals2 r2
      obtain ⟨t1, rfl⟩ := r1
      exact ⟨t1, t2, t3, rfl⟩
  refine min_three_ints (I.ok.hd hc) fun h' tk kp => ⟨_, H, I.kept kp, ?_, q⟩
  by_cases e1 : j < i
  · rw [if_pos e1]
    by_cases e2 : k < j
    · rw [if_pos e2]; exact ⟨_, by rw [show min (min i j) k = k by omega]⟩
    · rw [if_neg e2]; exact ⟨_, by rw [show min (min i j) k = j by omega]⟩
  · rw [if_neg e1]
    by_cases e2 : k < i
    · rw [if_pos e2]; exact ⟨_, by rw [show min (min i j) k = k by omega]⟩
    · rw [if_neg e2]; exact ⟨_, by rw [show min (min i j) k = i by omega]⟩
def tNevS : TS := fun _ _ _ => False
theorem ps_nev {X : Cx} {st : Stmt} : PS X st tNevS := ⟨fun _ _ _ _ _ _ h => h.elim⟩
section
variable {c : Ctx} {ρ : Rho} {S : Sto} {F : D → Sto → Prop}
theorem rc_min3 {i j k : Int} (q : F (.int (min (min i j) k)) S) : RC c rMin3 [.int i, .int j, .int k] S F := fun T us H cl r Q kk => by
  cases r with
  | cons h1 t =>
    cases t with
    | cons h2 t =>
      cases t with
      | cons h3 t => cases t; cases h1; cases h2; cases h3; exact ⟨_, _, _, rfl, kk _ _ S T H Mv.refl cl (.int _) q⟩
def rInsert : V → List V → Hp → VK → Prop := fun x vs H Q => ∃ (l : Addr) (xs : List V) (i : Int) (y : V), x = .ref l ∧ vs = [.int i, y] ∧ H l = some (.lst xs) ∧ xs.length < sizeLine ∧ 0 ≤ i ∧ i < 2 ^ 63 ∧ Q .non (upd H l (.lst (xs.take i.toNat ++ [y] ++ xs.drop i.toNat)))
theorem mt_insertV {X : Cx} : MtR X "list.insert" rInsert := L2.mt_insert
theorem rm_insert {l : Addr} {ds : List D} {x : D} {i : Int} {n : Nat} (h : S l = some (.lst ds)) (hi : i = (n : Int)) (hn : n ≤ ds.length) (hl : ds.length < sizeLine) (q : F .non (put S l (.lst (ds.take n ++ [x] ++ ds.drop n)))) : RM c rInsert (.ref l) [.int i, x] S F := fun T u us H cl r1 r2 Q k => by
  subst hi
  cases r1
  cases r2 with
  | cons h0 t =>
    cases t with
    | cons h1 t =>
      cases t
      cases h0
      obtain ⟨xs, hx, r⟩ := cl.ok _ _ (cl.at h)
      have big : sizeLine < 2 ^ 62 := by decide
      refine ⟨l, xs, n, _, rfl, rfl, hx, by rw [r.length]; exact hl, by omega, by omega, ?_⟩
      rw [show ((n : Int)).toNat = n from rfl]
      exact k _ _ _ _ _ (mv_wr (cl.at h)) (cl.wr (cl.at h) (cell_l upd_same ((((r.take n).append (.cons h1 .nil)).append (r.drop n)).mv (mv_wr (cl.at h))))) .non q
end
end VS
namespace VS
open PySem L2 C8 PySem.Spec PyProof.Rows
/-! ### a module's constant that lies in the heap -/
def tKd (a : Addr) : TE := tC (.ref a)
theorem pe_kd {X : Cx} {x : Str} {pos : Pos} {a : Addr} (hg : Gl X x) (h : ∃ u, X.mg x = some u ∧ RelV (.ref a) u) (hd : (x == ("__debug__" : Str)) = false := by decide) : PE X (.Name x pos) (tKd a) := pe_gc hg h hd
theorem ve_kd {c : Ctx} {ρ : Rho} {S : Sto} {F : D → Sto → Prop} {a : Addr} {d : D} (r : ∀ H S, Rep c.K H S (.ref a) d) (q : F d S) : VE c (tKd a) ρ S F := ve_wr (r · ·) q
theorem isPL_strs : ∀ ms : List Str, isPL (ms.map D.str) = true
  | [] => rfl
  | m :: ms => by
    show (true && isPL (ms.map D.str)) = true
    rw [isPL_strs ms]
    rfl
theorem isP_strs (ms : List Str) : isP (.lst (ms.map D.str)) = true := isPL_strs ms
end VS
namespace VS
open PySem L2 PySem.Spec PyProof.Rows
section
variable {c : Ctx} {ρ : Rho} {S : Sto} {F : D → Sto → Prop}
/-- [e for x in xs if t], each by itself -/
theorem ve_lcF (p : D → Bool) (f : D → D) {wi : TI} {g : TG} {tt : TT} {te : TE} {vs : List Nat}
    (h : VI c wi ρ S fun ds S1 => ds.length ≤ 100000 ∧ (∀ d ∈ ds, VGw c vs g d (wipeR ρ vs) S1 fun ρ3 S3 => VT c tt ρ3 S3 fun b S4 => b = p d ∧ (p d = false → S4 = S1) ∧ (p d = true → VE c te ρ3 S4 fun y S5 => y = f d ∧ S5 = S1)) ∧ F (.lst ((ds.filter p).map f)) S1) : VE c (tLc wi g tt te vs) ρ S F := by
  refine ve_lc (fun T σ H I R k => h T σ H I R fun J ds S1 T1 H1 m1 c1 w ⟨h1, h2, h3⟩ => k J ds S1 T1 H1 m1 c1 w ⟨h1, fun i acc S2 => acc = ((ds.take i).filter p).map f ∧ S2 = S1, ⟨rfl, rfl⟩, ?_, ?_⟩)
  · rintro i d acc S2 hd ⟨e1, rfl⟩ hl T0 u0 σ0 H0 I0 r0 Q0 k0
    refine h2 d (List.mem_of_getElem? hd) T0 u0 σ0 H0 I0 r0 Q0 fun σ' ρ' S' T' H' hw m I' q => k0 σ' ρ' S' T' H' hw m I' ?_
    have tk : ds.take (i + 1) = ds.take i ++ [d] := by rw [List.take_succ, hd]; rfl
    refine q.imp fun b S4 ⟨hb, hf, hv⟩ => ?_
    subst hb
    refine ⟨fun z => (hv z).imp fun y S5 ⟨e2, e3⟩ => ⟨?_, e3⟩, fun z => ⟨?_, hf z⟩⟩
    · rw [tk, e1, e2, List.filter_append, List.map_append, List.filter_cons, if_pos z]
      rfl
    · rw [tk, e1, List.filter_append, List.map_append, List.filter_cons, if_neg (by rw [z]; decide)]
      simp
  · rintro acc S2 ⟨e1, rfl⟩ _
    rw [List.take_length] at e1
    rw [e1]
    exact h3
end
end VS
namespace VS
open PySem L2 PySem.Spec PyProof.Rows
end VS
namespace VS
open PySem L2 PySem.Spec PyProof.Rows
section
variable {c : Ctx} {ρ : Rho} {S : Sto} {F : D → Sto → Prop}
/-- [e for x in xs]: Q holds of each element, J of the store -/
theorem ve_lcJ (Q : D → Prop) (J : Nat → Sto → Prop) {wi : TI} {g : TG} {tt : TT} {te : TE} {vs : List Nat}
    (h : VI c wi ρ S fun ds S1 => ds.length ≤ 100000 ∧ J 0 S1 ∧ (∀ (i : Nat) (d : D) S2, ds[i]? = some d → J i S2 → VGw c vs g d (wipeR ρ vs) S2 fun ρ3 S3 => VT c tt ρ3 S3 fun b S4 => b = true ∧ VE c te ρ3 S4 fun y S5 => Q y ∧ J (i + 1) S5) ∧
      ∀ acc S2, acc.length = ds.length → (∀ y ∈ acc, Q y) → J ds.length S2 → F (.lst acc) S2) : VE c (tLc wi g tt te vs) ρ S F := by
  refine ve_lc (fun T σ H I R k => h T σ H I R fun J1 ds S1 T1 H1 m1 c1 w ⟨h1, h0, h2, h3⟩ => k J1 ds S1 T1 H1 m1 c1 w ⟨h1, fun i acc S2 => acc.length = i ∧ (∀ y ∈ acc, Q y) ∧ J i S2, ⟨rfl, nofun, h0⟩, ?_, ?_⟩)
  · rintro i d acc S2 hd ⟨e1, e2, e3⟩ hl T0 u0 σ0 H0 I0 r0 Q0 k0
    refine h2 i d S2 hd e3 T0 u0 σ0 H0 I0 r0 Q0 fun σ' ρ' S' T' H' hw m I' q => k0 σ' ρ' S' T' H' hw m I' ?_
    refine q.imp fun b S4 ⟨hb, hv⟩ => ?_
    subst hb
    refine ⟨fun _ => hv.imp fun y S5 ⟨f2, f3⟩ => ⟨by rw [List.length_append, e1]; rfl, fun y' hy => (List.mem_append.mp hy).elim (e2 y') fun z => by rw [List.mem_singleton.mp z]; exact f2, f3⟩, fun z => by cases z⟩
  · rintro acc S2 ⟨e1, e2, e3⟩ _
    exact h3 acc S2 e1 e2 e3
end
theorem strs_all {Q : Str → Prop} : ∀ {xs : List D}, (∀ y ∈ xs, ∃ z, y = .str z ∧ Q z) → ∃ zs : List Str, xs = zs.map D.str ∧ ∀ z ∈ zs, Q z
  | [], _ => ⟨[], rfl, nofun⟩
  | x :: xs, h => by
    obtain ⟨z, rfl, q⟩ := h x (.head _)
    obtain ⟨zs, rfl, r⟩ := strs_all fun y hy => h y (.tail _ hy)
    exact ⟨z :: zs, rfl, fun y hy => (List.mem_cons.mp hy).elim (fun e => by rw [e]; exact q) (r y)⟩
theorem ints_all {Q : Int → Prop} : ∀ {xs : List D}, (∀ y ∈ xs, ∃ z, y = .int z ∧ Q z) → ∃ zs : List Int, xs = zs.map D.int ∧ ∀ z ∈ zs, Q z
  | [], _ => ⟨[], rfl, nofun⟩
  | x :: xs, h => by
    obtain ⟨z, rfl, q⟩ := h x (.head _)
    obtain ⟨zs, rfl, r⟩ := ints_all fun y hy => h y (.tail _ hy)
    exact ⟨z :: zs, rfl, fun y hy => (List.mem_cons.mp hy).elim (fun e => by rw [e]; exact q) (r y)⟩
end VS
namespace VS
open PySem L2 PySem.Spec PyProof.Rows
end VS
namespace VS
open PySem L2 C8 PySem.Spec PyProof.Rows
/-! ### x in [..] with own == -/
inductive FlK : D → String → Prop
  | non : FlK .non "NoneType" | bl (b : Bool) : FlK (.bl b) "bool" | int (i : Int) : FlK (.int i) "int" | str (z : Str) : FlK (.str z) "str"
theorem FlK.ty {S : Sto} {d : D} {n : String} (h : FlK d n) : TyS S d n := by
  cases h with
  | non => exact .non
  | bl b => exact .bl b
  | int i => exact .int i
  | str z => exact .str z
end VS
namespace VS
open PySem L2 C8 PySem.Spec PyProof.Rows
/-! ### bool of a truth; one operator, two readings -/
def orR (r1 r2 : R2) : R2 := fun x y H Q => r1 x y H Q ∨ r2 x y H Q
section
variable {c : Ctx} {S : Sto} {F : D → Sto → Prop}
theorem rv_or1 {r1 r2 : R2} {x y : D} (h : RV c r1 x y S F) : RV c (orR r1 r2) x y S F := fun T u w H cl ru rw Q k => .inl (h T u w H cl ru rw Q k)
theorem rv_or2 {r1 r2 : R2} {x y : D} (h : RV c r2 x y S F) : RV c (orR r1 r2) x y S F := fun T u w H cl ru rw Q k => .inr (h T u w H cl ru rw Q k)
end
end VS
namespace VS
open PySem L2 PySem.Spec PyProof.Rows
/-! ### .. the list told by an expression -/
section
variable {c : Ctx} {ρ : Rho} {S : Sto} {F : D → Sto → Prop}
theorem ve_lcCellE {g : TG} {tt : TT} {te : TE} {vs : List Nat} {ti : TE} {l : Addr} {ds : List D} (hv : VE c ti ρ (VS.del S l) fun x S1 => x = .ref l ∧ S1 = VS.del S l) (hl : S l = some (.lst ds)) (hz : ds.length ≤ 100000) (W : Nat → List D → Sto → Prop) (h0 : W 0 [] (VS.del S l))
    (hs : ∀ (i : Nat) (d : D) acc S2, ds[i]? = some d → W i acc S2 → acc.length ≤ i → VGw c vs g d (wipeR ρ vs) S2 fun ρ3 S3 => VT c tt ρ3 S3 fun b S4 => (b = true → VE c te ρ3 S4 fun y S5 => W (i + 1) (acc ++ [y]) S5) ∧ (b = false → W (i + 1) acc S4))
    (hd : ∀ acc S2, W ds.length acc S2 → acc.length ≤ ds.length → F (.lst acc) (put S2 l (.lst ds))) : VE c (tLc (iList c.K ti) g tt te vs) ρ S F := fun T σ H I Q k => by
  have ht := I.cells.at hl
  obtain ⟨xs, hx, r⟩ := I.cells.ok _ _ ht
  have m0 : Mv T H (put T l .hid) H := mv_hide ht (by nofun)
  have c0 := I.cells.hide hl hx
  have I0 : In c σ H ρ (VS.del S l) (put T l .hid) := I.mv m0 c0
  refine lc_heartAt (R := fun acc S2 => F (.lst acc) (put S2 l (.lst ds))) (fun R kR => ?_) I0 fun p ys acc S' T' H' T1 H1 m1 m cl s n hp rr q => ?_
  · refine hv _ σ H I0 _ fun vx x S1 T1 H1 m1 c1 r1 ⟨e1, e2⟩ => ?_
    subst e1 e2
    cases r1
    obtain ⟨hx1, s1⟩ := m1.hid l _ put_same hx
    have rx : RepL c.K H1 T1 xs ds := (r.mk m0.toMk).mv m1
    have hq : ∀ T2 H2, Mv T1 H1 T2 H2 → SqL c.K H2 l xs := fun T2 H2 m2 => .inl (.inl (m2.hid l _ s1 hx1).1)
    exact ⟨l, rfl, ⟨xs, .inl (.inl hx1)⟩, kR _ ds _ T1 H1 m1 c1 (yl_list hq rx) ⟨hz, W, h0, hs, hd⟩⟩
  · have mm := m1.trans m
    obtain ⟨hx', s'⟩ := mm.hid l _ put_same hx
    obtain ⟨hx1, _⟩ := m1.hid l _ put_same hx
    have npl : l ≠ p := fun z => by subst z; rw [n] at hx1; cases hx1
    have rx : RepL c.K H' T' xs ds := (r.mk m0.toMk).mv mm
    have s2 : (VS.del T' p) l = some .hid := by rw [VS.del_ne npl]; exact s'
    have c2 := (cl.unhid s).show s2 hx' (rx.mk (mk_show s))
    have mk2 : Mk (VS.del T' p) H' (put (VS.del T' p) l (.lst ds)) H' := by
      refine ⟨fun _ _ _ h => h, fun a u1 _ => ?_⟩
      have nal : a ≠ l := fun z => by rw [z, s2] at u1; cases u1
      rw [put_ne nal]
      exact u1
    have m3 : Mv T H (put (VS.del T' p) l (.lst ds)) H' := by
      have ma := m0.trans mm
      refine ⟨⟨ma.keep, fun a u e => ?_⟩, fun a o u e => ?_⟩
      · have nal : a ≠ l := fun z => by subst z; rw [ht] at u; cases u
        rw [put_ne nal]
        unfold VS.del
        split
        · rfl
        · exact ma.fresh a u e
      · obtain ⟨e1, e2⟩ := ma.hid a o u e
        refine ⟨e1, ?_⟩
        have nal : a ≠ l := fun z => by subst z; rw [ht] at u; cases u
        have nap : a ≠ p := fun z => by
          subst z
          obtain ⟨e3, _⟩ := (m0.trans m1).hid a o u e
          rw [n] at e3; cases e3
        rw [put_ne nal, VS.del_ne nap]
        exact e2
    exact k _ (.lst acc) _ _ H' m3 c2 (.lst (by rw [put_ne (Ne.symm npl)]; exact del_same) hp ((rr.mk (mk_show s)).mk mk2)) q
theorem put_back {l : Addr} {d : D} (h : S l = some d) : put (VS.del S l) l d = S := by
  funext b
  by_cases e : b = l
  · subst e; rw [put_same, h]
  · rw [put_ne e, VS.del_ne e]
end
end VS
namespace VS
open PySem L2 PySem.Spec PyProof.Rows
/-! ### xs[::-1] -/
theorem RepL.rev {K : PySem.W.Frag} {H : Hp} {S : Sto} : ∀ {xs : List V} {ds : List D}, RepL K H S xs ds → RepL K H S xs.reverse ds.reverse
  | _, _, .nil => .nil
  | _, _, .cons h t => by
    rw [List.reverse_cons, List.reverse_cons]
    exact t.rev.append (.cons h .nil)
section
variable {c : Ctx} {ρ : Rho} {S : Sto} {F : D → Sto → Prop}
theorem ve_revL {te : TE} (h : VE c te ρ S fun x S1 => ∃ ds, IsL S1 x ds ∧ F (.lst ds.reverse) S1) : VE c (tRevL c.K te) ρ S F := fun T σ H I Q k =>
  h T σ H I _ fun vx x S1 T1 H1 m1 c1 r1 ⟨ds, hx, q⟩ => by
    obtain ⟨a, xs, rfl, s, r⟩ := hx.rd c1 r1
    exact ⟨a, xs, rfl, s, fun p hp => k _ _ S1 T1 _ (m1.trans (mv_new hp)) (c1.new hp) (.lst (c1.free hp) upd_same (r.rev.mv (mv_new hp))) q⟩
end
end VS
namespace VS
open PySem L2 PySem.Spec PyProof.Rows
end VS
namespace VS
open PySem L2
/-! ### what was known stays known where nothing is lost -/
section
variable {S S' : Sto}
theorem TyS.ext {d : D} {n : String} (h : TyS S d n) (x : Ext S S') : TyS S' d n := by
  cases h with
  | cl h => exact .cl (x _ _ h)
  | cd h => exact .cd (x _ _ h)
  | non => exact .non
  | bl b => exact .bl b
  | int i => exact .int i
  | str z => exact .str z
  | rol ds => exact .rol ds
  | lst ds => exact .lst ds
  | tup ds => exact .tup ds
  | dK ds => exact .dK ds
theorem IsI.ext {d : D} {C : Addr} {fs : List (Str × D)} (h : IsI S d C fs) (x : Ext S S') : IsI S' d C fs := by
  cases h with
  | v => exact .v
  | c h => exact .c (x _ _ h)
theorem OfC.ext {K : PySem.W.Frag} {d : D} {t : Value} (h : OfC K S d t) (x : Ext S S') : OfC K S' d t := by
  cases h with
  | p h => exact .p (h.ext x)
  | i h c => exact .i (h.ext x) c
  | e T => exact .e T
theorem Da.ext {d d' : D} (h : Da S d d') (x : Ext S S') : Da S' d d' := by
  cases h with
  | v p => exact .v p
  | c h p => exact .c (x _ _ h) p
  | k h p => exact .k (x _ _ h) p
theorem DaL.ext (x : Ext S S') : ∀ {ds es : List D}, DaL S ds es → DaL S' ds es
  | _, _, .nil => .nil
  | _, _, .cons h r => .cons (h.ext x) (r.ext x)
theorem Vw.ext {d d' : D} (h : Vw S d d') (x : Ext S S') : Vw S' d d' := by
  cases h with
  | v => exact .v
  | c h n => exact .c (x _ _ h) n
end
section
variable {c : Ctx} {ρ : Rho} {S : Sto} {F : D → Sto → Prop}
/-- a text and itself -/
theorem rv_neSame {z : Str} (q : F (.bl false) S) : RV c rNe (.str z) (.str z) S F := rv_ne (b := true) (by show some (decide (z = z)) = some true; rw [decide_eq_true rfl]) q
end
end VS
namespace VS
open PySem L2 C8 PySem.Spec PyProof.Rows
/-! ### a walk over a list known by reference: it is hidden meanwhile -/
section
variable {c : Ctx} {ρ : Rho} {S : Sto}
theorem mk_back {T : Sto} {H : Hp} {l : Addr} {d : D} (s : T l = some .hid) : Mk T H (put T l d) H := by
  refine ⟨fun _ _ _ h => h, fun a u1 _ => ?_⟩
  have nal : a ≠ l := fun z => by rw [z, s] at u1; cases u1
  rw [put_ne nal]
  exact u1
theorem mv_back {T T' : Sto} {H H' : Hp} {l : Addr} {d e : D} (ht : T l = some e) (ne : e ≠ .hid) (m : Mv (put T l .hid) H T' H') : Mv T H (put T' l d) H' := by
  have ma := (mv_hide (H := H) ht ne).trans m
  refine ⟨⟨ma.keep, fun a u e => ?_⟩, fun a o u e => ?_⟩
  · have nal : a ≠ l := fun z => by subst z; rw [ht] at u; cases u
    rw [put_ne nal]
    exact ma.fresh a u e
  · obtain ⟨e1, e2⟩ := ma.hid a o u e
    have nal : a ≠ l := fun z => by subst z; rw [ht] at u; cases u; exact ne rfl
    exact ⟨e1, by rw [put_ne nal]; exact e2⟩
/-- no exception leaves -/
abbrev Ctx.calm (c : Ctx) : Ctx := ⟨c.K, c.E, fun _ _ _ _ => False⟩
theorem vx_forCell {wi : TI} {g : TG} {tb : TS} {nx bk ct : Rho → Sto → Prop} {rt : D → Sto → Prop} {l : Addr} {ds es : List D} (hl : S l = some (.lst ds))
    (hw : ∀ T σ H xs, In c.calm σ H ρ (VS.del S l) T → T l = some .hid → H l = some (.lst xs) → RepL c.K H T xs ds → ∀ R : It → Hp → Prop, (∀ J T1 H1, Mv T H T1 H1 → Cells c.K H1 (VS.del S l) T1 → Yl c.K J es T1 H1 → R J H1) → wi σ H R)
    (W : Nat → Rho → Sto → Prop) (h0 : W 0 ρ (VS.del S l))
    (hs : ∀ (i : Nat) (d : D) ρ2 S2, es[i]? = some d → W i ρ2 S2 → VG c.calm g d ρ2 S2 fun ρ3 S3 => VX c.calm tb ρ3 S3 ⟨W (i + 1), fun d S4 => rt d (put S4 l (.lst ds)), fun ρ4 S4 => nx ρ4 (put S4 l (.lst ds)), W (i + 1)⟩)
    (hd : ∀ ρ2 S2, W es.length ρ2 S2 → nx ρ2 (put S2 l (.lst ds))) :
    VX c (tFor wi g tb) ρ S ⟨nx, rt, bk, ct⟩ := fun T σ H I D b => by
  have ht := I.cells.at hl
  obtain ⟨xs, hx, r⟩ := I.cells.ok _ _ ht
  have m0 : Mv T H (put T l .hid) H := mv_hide ht (by nofun)
  have c0 := I.cells.hide hl hx
  have I0 : In c.calm σ H ρ (VS.del S l) (put T l .hid) := ⟨c0, fun i d e => let ⟨v, h, r⟩ := I.slots i d e; ⟨v, h, r.mv m0⟩, I.len, fun _ _ _ _ _ _ _ _ _ _ _ _ z => z.elim⟩
  have r0 := r.mv m0
  -- back
  have bkI : ∀ {σ4 H4 ρ4 S4 T4}, Mv (put T l .hid) H T4 H4 → In c.calm σ4 H4 ρ4 S4 T4 → Mv T H (put T4 l (.lst ds)) H4 ∧ In c σ4 H4 ρ4 (put S4 l (.lst ds)) (put T4 l (.lst ds)) := by
    intro σ4 H4 ρ4 S4 T4 m4 I4
    obtain ⟨hx4, s4⟩ := m4.hid l _ put_same hx
    have m5 : Mv T H (put T4 l (.lst ds)) H4 := mv_back ht (by nofun) m4
    have cl := I4.cells.show s4 hx4 (r0.mv m4)
    exact ⟨m5, cl, fun i d e => let ⟨v, h, q⟩ := I4.slots i d e; ⟨v, h, Rep.mk (mk_back s4) q⟩, I4.len, fun σ2 ρ2 C d fs S2 T2 H2 m2 => I.exc σ2 ρ2 C d fs S2 T2 H2 (m5.trans m2)⟩
  have bkR : ∀ {v d H4 S4 T4}, Mv (put T l .hid) H T4 H4 → Cells c.K H4 S4 T4 → Rep c.K H4 T4 v d → Mv T H (put T4 l (.lst ds)) H4 ∧ Cells c.K H4 (put S4 l (.lst ds)) (put T4 l (.lst ds)) ∧ Rep c.K H4 (put T4 l (.lst ds)) v d := by
    intro v d H4 S4 T4 m4 cl4 q
    obtain ⟨hx4, s4⟩ := m4.hid l _ put_same hx
    exact ⟨mv_back ht (by nofun) m4, cl4.show s4 hx4 (r0.mv m4), Rep.mk (mk_back s4) q⟩
  refine hw _ σ H xs I0 put_same hx r0 _ fun J T1 H1 m1 c1 ⟨G, Y, w, hG, hY⟩ => ?_
  refine for_it w (fun i σ' H' => ∃ ρ2 S2 T2, Mv T1 H1 T2 H' ∧ In c.calm σ' H' ρ2 S2 T2 ∧ W i ρ2 S2) ⟨ρ, _, T1, Mv.refl, I0.mv m1 c1, h0⟩ (fun i σ' H' _ ⟨ρ2, S2, T2, m, _, _⟩ => hG T2 H' m) ?_ ?_
  · rintro i x σ' H' H'' hi ⟨ρ2, S2, T2, m, I2, hw2⟩ y
    obtain ⟨d, e⟩ : ∃ d, es[i]? = some d := ⟨es[i], List.getElem?_eq_getElem hi⟩
    obtain ⟨m3, c3, r3⟩ := hY i d S2 T2 H' H'' x e m I2.cells y
    refine hs i d ρ2 S2 e hw2 T2 x σ' H'' (I2.mv m3 c3) r3 _ fun σ3 ρ3 S3 T3 H3 m4 I3 q => ?_
    have mm := m.trans (m3.trans m4)
    have mb := m1.trans mm
    refine q T3 σ3 H3 I3 _ ⟨fun σ4 ρ4 S4 T4 H4 m5 I4 q4 => ⟨ρ4, S4, T4, mm.trans m5, I4, q4⟩, fun v d S4 T4 H4 m5 c4 r4 q4 => ?_, fun σ4 ρ4 S4 T4 H4 m5 I4 q4 => ?_, fun σ4 ρ4 S4 T4 H4 m5 I4 q4 => ⟨ρ4, S4, T4, mm.trans m5, I4, q4⟩⟩
    · obtain ⟨a1, a2, a3⟩ := bkR (mb.trans m5) c4 r4
      exact b.rt v d _ _ H4 a1 a2 a3 q4
    · obtain ⟨a1, a2⟩ := bkI (mb.trans m5) I4
      exact b.nx σ4 ρ4 _ _ H4 a1 a2 q4
  · rintro σ' H' ⟨ρ2, S2, T2, m, I2, hw2⟩
    obtain ⟨a1, a2⟩ := bkI (m1.trans m) I2
    exact b.nx σ' ρ2 _ _ H' a1 a2 (hd ρ2 S2 hw2)
/-- for x in e, e a list known by reference -/
theorem vx_forCellL {te : TE} {g : TG} {tb : TS} {nx bk ct : Rho → Sto → Prop} {rt : D → Sto → Prop} {l : Addr} {ds : List D} (hl : S l = some (.lst ds))
    (he : VE c.calm te ρ (VS.del S l) fun x S1 => x = .ref l ∧ S1 = VS.del S l)
    (W : Nat → Rho → Sto → Prop) (h0 : W 0 ρ (VS.del S l))
    (hs : ∀ (i : Nat) (d : D) ρ2 S2, ds[i]? = some d → W i ρ2 S2 → VG c.calm g d ρ2 S2 fun ρ3 S3 => VX c.calm tb ρ3 S3 ⟨W (i + 1), fun d S4 => rt d (put S4 l (.lst ds)), fun ρ4 S4 => nx ρ4 (put S4 l (.lst ds)), W (i + 1)⟩)
    (hd : ∀ ρ2 S2, W ds.length ρ2 S2 → nx ρ2 (put S2 l (.lst ds))) :
    VX c (tFor (iList c.K te) g tb) ρ S ⟨nx, rt, bk, ct⟩ := by
  refine vx_forCell hl (fun T σ H xs I s hx r R k => ?_) W h0 hs hd
  refine he T σ H I _ fun vx x S1 T1 H1 m1 c1 r1 ⟨e1, e2⟩ => ?_
  subst e1 e2
  cases r1
  obtain ⟨hx1, s1⟩ := m1.hid l _ s hx
  have hq : ∀ T2 H2, Mv T1 H1 T2 H2 → SqL c.K H2 l xs := fun T2 H2 m2 => .inl (.inl (m2.hid l _ s1 hx1).1)
  exact ⟨l, rfl, ⟨xs, .inl (.inl hx1)⟩, k _ T1 H1 m1 c1 (yl_list hq (r.mv m1))⟩
/-- for i, x in enumerate(e), e a list known by reference -/
theorem vx_forCellE {te : TE} {g : TG} {tb : TS} {nx bk ct : Rho → Sto → Prop} {rt : D → Sto → Prop} {l : Addr} {ds : List D} (hl : S l = some (.lst ds))
    (he : VE c.calm te ρ (VS.del S l) fun x S1 => x = .ref l ∧ S1 = VS.del S l)
    (W : Nat → Rho → Sto → Prop) (h0 : W 0 ρ (VS.del S l))
    (hs : ∀ (i : Nat) (d : D) ρ2 S2, ds[i]? = some d → W i ρ2 S2 → VG c.calm g (.tup [.int (i : Nat), d]) ρ2 S2 fun ρ3 S3 => VX c.calm tb ρ3 S3 ⟨W (i + 1), fun d S4 => rt d (put S4 l (.lst ds)), fun ρ4 S4 => nx ρ4 (put S4 l (.lst ds)), W (i + 1)⟩)
    (hd : ∀ ρ2 S2, W ds.length ρ2 S2 → nx ρ2 (put S2 l (.lst ds))) :
    VX c (tFor (iEnum c.K (tCons te tNil)) g tb) ρ S ⟨nx, rt, bk, ct⟩ := by
  refine vx_forCell (es := enumD ds) hl (fun T σ H xs I s hx r R k => ?_) W h0 (fun i d ρ2 S2 hi hw => ?_) (by rw [enumD_len]; exact hd)
  · refine he T σ H I _ fun vx x S1 T1 H1 m1 c1 r1 ⟨e1, e2⟩ => ?_
    subst e1 e2
    cases r1
    obtain ⟨hx1, s1⟩ := m1.hid l _ s hx
    have hq : ∀ T2 H2, Mv T1 H1 T2 H2 → SqL c.K H2 l xs := fun T2 H2 m2 => .inl (.inl (m2.hid l _ s1 hx1).1)
    refine ⟨l, xs, rfl, hq _ _ Mv.refl, k _ T1 H1 m1 c1 ⟨fun H => SqL c.K H l xs, _, by rw [enumD_len, ← r.length]; exact walk_enum, hq, fun i d S2 T2 H2 H3 y e m cl yy => ?_⟩⟩
    obtain ⟨T, u, w, e1, hT, e2, e3, e4⟩ := yy
    obtain ⟨y', e5, e6⟩ := enumD_get e
    subst e1 e2 e6
    obtain ⟨v, e7, r'⟩ := (r.mv m1).get e5
    have e4' : xs[i]? = some w := e4
    rw [e4'] at e7
    cases e7
    cases e3
    exact ⟨mv_new hT, cl.new hT, .tup (cl.free hT) upd_same (.cons (.int _) (.cons ((r'.mv m).mv (mv_new hT)) .nil))⟩
  · obtain ⟨y, e5, rfl⟩ := enumD_get hi
    exact hs i y ρ2 S2 e5 hw
end
end VS
namespace VS
open PySem L2 C8 PySem.Spec PyProof.Rows
section
variable {c : Ctx} {ρ : Rho} {S : Sto}
/-- a statement, what is known behind it, and the rest: where ways meet -/
theorem vx_join {a b : TS} {nx bk ct : Rho → Sto → Prop} {rt : D → Sto → Prop} (W : Rho → Sto → Prop) (h1 : VX c a ρ S ⟨W, rt, bk, ct⟩) (h2 : ∀ ρ' S', W ρ' S' → VX c b ρ' S' ⟨nx, rt, bk, ct⟩) : VX c (tSeq a b) ρ S ⟨nx, rt, bk, ct⟩ :=
  vx_seq (fun T σ H I D k => h1 T σ H I D ⟨fun σ' ρ' S' T' H' m I' q => k.nx σ' ρ' S' T' H' m I' (h2 ρ' S' q), k.rt, k.bk, k.ct⟩)
/-- a statement whose rest is opened already -/
theorem vx_mid {a : TS} {nx bk ct : Rho → Sto → Prop} {rt : D → Sto → Prop} (W : Rho → Sto → Prop) (h1 : VX c a ρ S ⟨W, rt, bk, ct⟩) (h2 : ∀ ρ' S', W ρ' S' → nx ρ' S') : VX c a ρ S ⟨nx, rt, bk, ct⟩ :=
  h1.imp h2 (fun _ _ h => h) (fun _ _ h => h) (fun _ _ h => h)
end
end VS
namespace VS
open PySem L2 C8 PySem.Spec PyProof.Rows
/-! ### min and max of a tuple of whole numbers -/
end VS
namespace VS
open PySem L2 C8 PySem.Spec PyProof.Rows
/-! ### dicts whose keys are numbers and texts: d[k], d[k] = v, {} by reference -/
def valD (ds : List (Key × D)) (k : Key) : Option D := (ds.find? fun kv => decide (kv.1 = k)).map (·.2)
def dkPut (ds : List (Key × D)) (k : Key) (d : D) : List (Key × D) :=
  if (ds.any fun kv => decide (kv.1 = k)) = true then ds.map (fun kv => if kv.1 = k then (kv.1, d) else kv) else ds ++ [(k, d)]
def kD : Key → D
  | .inl i => .int i
  | .inr x => .str x
theorem kD_rep {K : PySem.W.Frag} {H : Hp} {S : Sto} {k : Key} {v : V} (r : Rep K H S v (kD k)) : v = kV k := by
  cases k with
  | inl i => cases r; rfl
  | inr x => cases r; rfl
theorem valD_pos {p : Key × D} {r : List (Key × D)} {k : Key} (e : p.1 = k) : valD (p :: r) k = some p.2 := by simp [valD, List.find?_cons, e]
theorem valD_neg {p : Key × D} {r : List (Key × D)} {k : Key} (e : ¬ p.1 = k) : valD (p :: r) k = valD r k := by simp [valD, List.find?_cons, e]
section
variable {K : PySem.W.Frag} {H : Hp} {S : Sto}
theorem RepK.val {k : Key} : ∀ {vs : List (Key × V)} {ds : List (Key × D)}, RepK K H S vs ds → (valV vs k = none ∧ valD ds k = none) ∨ ∃ v d, valV vs k = some v ∧ valD ds k = some d ∧ Rep K H S v d
  | _, _, .nil => .inl ⟨rfl, rfl⟩
  | _, _, .cons (k := k') h t => by
    by_cases e : k' = k
    · exact .inr ⟨_, _, valV_pos e, valD_pos e, h⟩
    · rw [valV_neg e, valD_neg e]
      exact RepK.val t
theorem RepK.anyK {k : Key} : ∀ {vs : List (Key × V)} {ds : List (Key × D)}, RepK K H S vs ds → (vs.any fun kv => decide (kv.1 = k)) = ds.any fun kv => decide (kv.1 = k)
  | _, _, .nil => rfl
  | _, _, .cons h t => by rw [List.any_cons, List.any_cons, RepK.anyK t]
theorem RepK.rep {k : Key} {v : V} {d : D} (r : Rep K H S v d) : ∀ {vs : List (Key × V)} {ds : List (Key × D)}, RepK K H S vs ds → RepK K H S (vs.map fun kv => if kv.1 = k then (kv.1, v) else kv) (ds.map fun kv => if kv.1 = k then (kv.1, d) else kv)
  | _, _, .nil => .nil
  | _, _, .cons (k := k') h t => by
    rw [List.map_cons, List.map_cons]
    by_cases e : k' = k
    · rw [if_pos e, if_pos e]; exact .cons r (RepK.rep r t)
    · rw [if_neg e, if_neg e]; exact .cons h (RepK.rep r t)
theorem RepK.app {k : Key} {v : V} {d : D} (r : Rep K H S v d) : ∀ {vs : List (Key × V)} {ds : List (Key × D)}, RepK K H S vs ds → RepK K H S (vs ++ [(k, v)]) (ds ++ [(k, d)])
  | _, _, .nil => .cons r .nil
  | _, _, .cons h t => .cons h (RepK.app r t)
theorem RepK.put {k : Key} {v : V} {d : D} {vs : List (Key × V)} {ds : List (Key × D)} (r : Rep K H S v d) (h : RepK K H S vs ds) : RepK K H S (putK vs k v) (dkPut ds k d) := by
  unfold putK dkPut
  rw [h.anyK]
  by_cases e : (ds.any fun kv => decide (kv.1 = k)) = true
  · rw [if_pos e, if_pos e]; exact RepK.rep r h
  · rw [if_neg e, if_neg e]; exact RepK.app r h
theorem RepK.length : ∀ {vs : List (Key × V)} {ds : List (Key × D)}, RepK K H S vs ds → vs.length = ds.length
  | _, _, .nil => rfl
  | _, _, .cons h t => congrArg (· + 1) (RepK.length t)
end
inductive IsDk (S : Sto) : D → List (Key × D) → Prop
  | v {ds : List (Key × D)} : IsDk S (.dK ds) ds
  | c {l : Addr} {ds : List (Key × D)} (h : S l = some (.dK ds)) : IsDk S (.ref l) ds
theorem IsDk.rd {K : PySem.W.Frag} {H : Hp} {S T : Sto} {x : D} {ds : List (Key × D)} {u : V} (h : IsDk S x ds) (cl : Cells K H S T) (r : Rep K H T u x) : ∃ a vs, u = .ref a ∧ Rd H a (.dK vs) ∧ RepK K H T vs ds := by
  cases h with
  | v => cases r with
    | dK s h r => exact ⟨_, _, rfl, h, r⟩
  | c h => cases r; obtain ⟨xs, h1, r⟩ := cl.ok _ _ (cl.at h); exact ⟨_, xs, rfl, .inl h1, r⟩
theorem DGet.r {H : Hp} {a : Addr} {kvs : List (Key × V)} {k : Key} (e : Rd H a (.dK kvs)) : DGet H a (kV k) (valV kvs k) := .inl ⟨kvs, k, e, rfl, rfl⟩
section
variable {c : Ctx} {ρ : Rho} {S : Sto} {F : D → Sto → Prop}
/-- {}, by reference -/
theorem ve_dnewc (q : ∀ p, S p = none → F (.ref p) (put S p (.dK []))) : VE c tDNewK ρ S F := fun T σ H I Q k => fun p hp =>
  k _ _ _ _ _ (mv_newc hp) (I.cells.newc hp (cell_d upd_same .nil)) (.ref p) (q p (I.cells.freeS hp))
/-- d[k] -/
theorem ve_dget {td ty : TE} (h : VE c td ρ S fun x S1 => VE c ty ρ S1 fun y S2 => ∃ (ds : List (Key × D)) (k : Key) (d : D), IsDk S2 x ds ∧ y = kD k ∧ valD ds k = some d ∧ F d S2) : VE c (tDGet td ty) ρ S F := fun T σ H I Q kk =>
  h T σ H I _ fun vx x S1 T1 H1 m1 c1 r1 h1 => h1 T1 σ H1 (I.mv m1 c1) _ fun vy y S2 T2 H2 m2 c2 r2 ⟨ds, k, d, hd, ey, hv, q⟩ => by
    subst ey
    obtain rfl := kD_rep r2
    obtain ⟨a, vs, rfl, ha, rk⟩ := hd.rd c2 (r1.mv m2)
    rcases rk.val (k := k) with ⟨_, e⟩ | ⟨v, d', e1, e2, rv⟩
    · rw [hv] at e; cases e
    · rw [hv] at e2
      cases e2
      exact ⟨a, v, rfl, by rw [← e1]; exact DGet.r ha, kk v d S2 T2 H2 (m1.trans m2) c2 rv q⟩
/-- d[k] = v -/
theorem vx_dput {td ty tv : TE} {nx bk ct : Rho → Sto → Prop} {rt : D → Sto → Prop} (h : VE c tv ρ S fun d S1 => VE c td ρ S1 fun x S2 => ∃ l, x = .ref l ∧ VE c ty ρ S2 fun y S3 => ∃ (ds : List (Key × D)) (k : Key), S3 l = some (.dK ds) ∧ y = kD k ∧ ds.length < sizeLine ∧ nx ρ (put S3 l (.dK (dkPut ds k d)))) : VX c (sDPut td ty tv) ρ S ⟨nx, rt, bk, ct⟩ := fun T σ H I D b =>
  h T σ H I _ fun v d S1 T1 H1 m1 c1 r1 h1 => h1 T1 σ H1 (I.mv m1 c1) _ fun vx x S2 T2 H2 m2 c2 r2 ⟨l, ex, h2⟩ => h2 T2 σ H2 ((I.mv m1 c1).mv m2 c2) _ fun vy y S3 T3 H3 m3 c3 r3 ⟨ds, k, hl, ey, hs, q⟩ => by
    subst ex ey
    obtain rfl := kD_rep r3
    cases r2
    obtain ⟨vs, hx, rr⟩ := c3.ok _ _ (c3.at hl)
    have rd : Rep c.K H3 T3 v d := r1.mv (m2.trans m3)
    have w := mv_wr (H := H3) (d := .dK (dkPut ds k d)) (o := .dK (putK vs k v)) (c3.at hl)
    have cl' : Cells c.K (upd H3 l (.dK (putK vs k v))) (put S3 l (.dK (dkPut ds k d))) (put T3 l (.dK (dkPut ds k d))) := c3.wr (c3.at hl) (cell_d upd_same ((RepK.put rd rr).mv w))
    exact ⟨l, _, rfl, DPut.k hx (by rw [rr.length]; exact hs), b.nx σ ρ _ _ _ (m1.trans (m2.trans (m3.trans w))) (I.mv (m1.trans (m2.trans (m3.trans w))) cl') q⟩
end
/-! ### lists or tuples: s[i], s[i:j] -/
theorem ix_or {X : Cx} {r1 r2 : R2} (h1 : IxR X r1) (h2 : IxR X r2) : IxR X (orR r1 r2) := IxR.or h1 h2
section
variable {c : Ctx} {ρ : Rho} {S : Sto} {F : D → Sto → Prop} {d : D}
theorem rv_ixSq {x : D} {ds : List D} {i : Int} (h : IsQ S x ds) (e : atI ds i = some d) (q : F d S) : RV c (orR (rIxL c.K) (rIxT c.K)) x (.int i) S F := by
  cases h with
  | l h => exact rv_or1 (rv_ixL h e q)
  | t => exact rv_or2 (rv_ixT e q)
end
end VS
namespace VS
open PySem L2 PySem.Spec PyProof.Rows
/-! ### comprehensions over a list known by reference, once more: the result by reference; each element by itself -/
end VS
namespace VS
open PySem L2 C8 PySem.Spec PyProof.Rows
/-! ### sorted(xs, key=f, reverse=b), f an own def -/
end VS
namespace VS
open PySem L2 PySem.Spec PyProof.Rows
/-! ### things seen whole: what is known by reference within them, too -/
mutual
inductive Vd (S : Sto) : D → D → Prop
  | v {d : D} : Vd S d d
  | c {l : Addr} {d d' : D} (h : S l = some d) (n : d ≠ .hid) (k : Vd S d d') : Vd S (.ref l) d'
  | lst {xs ys : List D} (h : VdL S xs ys) : Vd S (.lst xs) (.lst ys)
  | tup {xs ys : List D} (h : VdL S xs ys) : Vd S (.tup xs) (.tup ys)
  | dK {xs ys : List (Key × D)} (h : VdK S xs ys) : Vd S (.dK xs) (.dK ys)
  | ins {C : Addr} {fs gs : List (Str × D)} (h : VdF S fs gs) : Vd S (.ins C fs) (.ins C gs)
inductive VdL (S : Sto) : List D → List D → Prop
  | nil : VdL S [] []
  | cons {x y : D} {xs ys : List D} (h : Vd S x y) (t : VdL S xs ys) : VdL S (x :: xs) (y :: ys)
inductive VdK (S : Sto) : List (Key × D) → List (Key × D) → Prop
  | nil : VdK S [] []
  | cons {k : Key} {x y : D} {xs ys : List (Key × D)} (h : Vd S x y) (t : VdK S xs ys) : VdK S ((k, x) :: xs) ((k, y) :: ys)
inductive VdF (S : Sto) : List (Str × D) → List (Str × D) → Prop
  | nil : VdF S [] []
  | cons {k : Str} {x y : D} {xs ys : List (Str × D)} (h : Vd S x y) (t : VdF S xs ys) : VdF S ((k, x) :: xs) ((k, y) :: ys)
end
section
variable {K : PySem.W.Frag} {H : Hp} {S T : Sto}
mutual
theorem Vd.rd (cl : Cells K H S T) : ∀ {x d : D} {u : V} {T' : Sto}, Vd S x d → Rep K H T' u x → Rep K H (fun _ => none) u d
  | _, _, _, _, .v, r => r.any
  | _, _, _, _, .c h n k, r => by
    cases r
    exact Vd.rd cl k (cl.rep (cl.at h) (cl.nohid h n))
  | _, _, _, _, .lst h, r => by
    cases r with
    | lst s e r => exact .lst rfl e (VdL.rd cl h r)
  | _, _, _, _, .tup h, r => by
    cases r with
    | tup s e r => exact .tup rfl e (VdL.rd cl h r)
    | tupK e r => exact .tupK e (VdL.rd cl h r)
  | _, _, _, _, .dK h, r => by
    cases r with
    | dK s e r => exact .dK rfl e (VdK.rd cl h r)
  | _, _, _, _, .ins h, r => by
    cases r with
    | ins s e r => exact .ins rfl e (VdF.rd cl h r)
theorem VdL.rd (cl : Cells K H S T) : ∀ {xs ds : List D} {us : List V} {T' : Sto}, VdL S xs ds → RepL K H T' us xs → RepL K H (fun _ => none) us ds
  | _, _, _, _, .nil, r => by cases r; exact .nil
  | _, _, _, _, .cons h t, r => by
    cases r with
    | cons r1 r2 => exact .cons (Vd.rd cl h r1) (VdL.rd cl t r2)
theorem VdK.rd (cl : Cells K H S T) : ∀ {xs ds : List (Key × D)} {us : List (Key × V)} {T' : Sto}, VdK S xs ds → RepK K H T' us xs → RepK K H (fun _ => none) us ds
  | _, _, _, _, .nil, r => by cases r; exact .nil
  | _, _, _, _, .cons h t, r => by
    cases r with
    | cons r1 r2 => exact .cons (Vd.rd cl h r1) (VdK.rd cl t r2)
theorem VdF.rd (cl : Cells K H S T) : ∀ {xs ds : List (Str × D)} {us : List (Str × V)} {T' : Sto}, VdF S xs ds → RepF K H T' us xs → RepF K H (fun _ => none) us ds
  | _, _, _, _, .nil, r => by cases r; exact .nil
  | _, _, _, _, .cons h t, r => by
    cases r with
    | cons r1 r2 => exact .cons (Vd.rd cl h r1) (VdF.rd cl t r2)
end
end
section
variable {c : Ctx} {ρ : Rho} {S : Sto} {F : D → Sto → Prop}
theorem rc_reprD2 {x d : D} (h : Vd S x d) (ip : isP d = true) (sh : (pd d).showable = true) (sz : (pd d).shown.length ≤ sizeLine) (dp : (pd d).depth ≤ 50) (q : F (.str (pd d).shown) S) : RC c (rRepr c.K) [x] S F := fun T us H cl r Q k => by
  cases r with
  | cons h1 t =>
    cases t
    exact ⟨_, d, _, rfl, h.rd cl h1, ip, sh, sz, dp, k _ _ S T H Mv.refl cl (.str _) q⟩
theorem rc_reprV {x d : D} {n k : Nat} (h : Vd S x d) (sh : Sh d n k) (hn : n ≤ 1000000) (hk : k ≤ 50) (q : F (.str (pd d).shown) S) : RC c (rRepr c.K) [x] S F :=
  rc_reprD2 h sh.p sh.s (Nat.le_trans sh.l (Nat.le_trans hn szl)) (Nat.le_trans sh.d hk) q
end
end VS
namespace VS
open PySem L2
/-! ### a pure test or expression, all cells read as by value meanwhile -/
section
variable {K : PySem.W.Frag} {H : Hp} {S T : Sto}
/-- the cells that are known -/
def Kn (S : Sto) : Addr → Prop := fun a => ∃ d, S a = some d ∧ d ≠ .hid
theorem kn_hid (cl : Cells K H S T) : ∀ l, Kn S l → T l ≠ some .hid := fun l ⟨_, e, n⟩ => cl.nohid e n
mutual
theorem Vd.rdV (cl : Cells K H S T) : ∀ {x d : D} {u : V} {T' : Sto}, (∀ a, T' a = none → viewT (Kn S) T a = none) → Vd S x d → Rep K H T' u x → Rep K H (viewT (Kn S) T) u d
  | _, _, _, _, hT, .v, r => r.mk ⟨fun _ _ _ h => h, fun a s _ => hT a s⟩
  | _, _, _, _, hT, .c (l := l) h n k, r => by
    cases r
    refine Vd.rdV cl (T' := VS.del T l) (fun a e => ?_) k (cl.rep (cl.at h) (cl.nohid h n))
    by_cases z : a = l
    · subst z; exact viewT_in ⟨_, h, n⟩
    · rw [VS.del_ne z] at e; exact viewT_none e
  | _, _, _, _, hT, .lst h, r => by
    cases r with
    | lst s e r => exact .lst (hT _ s) e (VdL.rdV cl hT h r)
  | _, _, _, _, hT, .tup h, r => by
    cases r with
    | tup s e r => exact .tup (hT _ s) e (VdL.rdV cl hT h r)
    | tupK e r => exact .tupK e (VdL.rdV cl hT h r)
  | _, _, _, _, hT, .dK h, r => by
    cases r with
    | dK s e r => exact .dK (hT _ s) e (VdK.rdV cl hT h r)
  | _, _, _, _, hT, .ins h, r => by
    cases r with
    | ins s e r => exact .ins (hT _ s) e (VdF.rdV cl hT h r)
theorem VdL.rdV (cl : Cells K H S T) : ∀ {xs ds : List D} {us : List V} {T' : Sto}, (∀ a, T' a = none → viewT (Kn S) T a = none) → VdL S xs ds → RepL K H T' us xs → RepL K H (viewT (Kn S) T) us ds
  | _, _, _, _, _, .nil, r => by cases r; exact .nil
  | _, _, _, _, hT, .cons h t, r => by
    cases r with
    | cons r1 r2 => exact .cons (Vd.rdV cl hT h r1) (VdL.rdV cl hT t r2)
theorem VdK.rdV (cl : Cells K H S T) : ∀ {xs ds : List (Key × D)} {us : List (Key × V)} {T' : Sto}, (∀ a, T' a = none → viewT (Kn S) T a = none) → VdK S xs ds → RepK K H T' us xs → RepK K H (viewT (Kn S) T) us ds
  | _, _, _, _, _, .nil, r => by cases r; exact .nil
  | _, _, _, _, hT, .cons h t, r => by
    cases r with
    | cons r1 r2 => exact .cons (Vd.rdV cl hT h r1) (VdK.rdV cl hT t r2)
theorem VdF.rdV (cl : Cells K H S T) : ∀ {xs ds : List (Str × D)} {us : List (Str × V)} {T' : Sto}, (∀ a, T' a = none → viewT (Kn S) T a = none) → VdF S xs ds → RepF K H T' us xs → RepF K H (viewT (Kn S) T) us ds
  | _, _, _, _, _, .nil, r => by cases r; exact .nil
  | _, _, _, _, hT, .cons h t, r => by
    cases r with
    | cons r1 r2 => exact .cons (Vd.rdV cl hT h r1) (VdF.rdV cl hT t r2)
end
end
section
variable {c : Ctx} {ρ ρ' : Rho} {S : Sto} {F : D → Sto → Prop} {G : Bool → Sto → Prop}
structure VdR (S : Sto) (ρ ρ' : Rho) : Prop where
  len : ρ'.length = ρ.length
  at_ : ∀ (i : Nat) (d' : D), ρ'[i]? = some (some d') → ∃ d, ρ[i]? = some (some d) ∧ Vd S d d'
theorem VdR.refl : VdR S ρ ρ := ⟨rfl, fun _ d h => ⟨d, h, .v⟩⟩
theorem VdR.set (w : VdR S ρ ρ') (i : Nat) {d d' : D} (h : ρ[i]? = some (some d)) (hd : Vd S d d') : VdR S ρ (ρ'.set i (some d')) := ⟨by rw [List.length_set]; exact w.len, fun j e q => by
  by_cases z : i = j
  · subst z
    rw [List.getElem?_set_self (by rw [w.len]; exact (List.getElem?_eq_some_iff.mp h).1)] at q
    cases q
    exact ⟨d, h, hd⟩
  · rw [List.getElem?_set_ne z] at q
    exact w.at_ j e q⟩
theorem VdR.in {T : Sto} {σ : St} {H : Hp} (w : VdR S ρ ρ') (I : In c σ H ρ S T) : In c σ H ρ' noS (viewT (Kn S) T) := by
  have m := mv_view (H := H) (kn_hid I.cells)
  have cl := cells_view (V := Kn S) I.cells
  refine ⟨cl, fun i d' e => ?_, by rw [w.len]; exact I.len, (I.mv m cl).exc⟩
  obtain ⟨d, h, hv⟩ := w.at_ i d' e
  obtain ⟨v, h1, h2⟩ := I.slots i d h
  exact ⟨v, h1, hv.rdV I.cells (fun a e => viewT_none e) h2⟩
theorem vt_pureR {tt : TT} (w : VdR S ρ ρ') (h : VT c tt ρ' noS fun b _ => G b S) : VT c tt ρ S G := fun T σ H I Q k => by
  refine h _ σ H (w.in I) Q fun b S' T' H' m cl q => ?_
  obtain ⟨m', cl'⟩ := view_back (kn_hid I.cells) I.cells m cl
  exact k b S T H' m' cl' q
end
end VS
namespace VS
open PySem L2 C8 PySem.Spec PyProof.Rows
/-! ### xs.index(x) of a list by value -/
section
variable {c : Ctx} {ρ : Rho} {S : Sto} {F : D → Sto → Prop}
theorem ve_bmV {r : MR1} {to : TE} {t : TA} (h : VE c to ρ S fun x S1 => ∃ ds, IsL S1 x ds ∧ VA c t ρ S1 fun es S2 => RM c r x es S2 F) : VE c (tBM c.K "list" r to t) ρ S F := fun T σ H I Q k =>
  h T σ H I _ fun vx x S1 T1 H1 m1 c1 r1 ⟨ds, hi, h1⟩ => by
    obtain ⟨a, xs, e, s, _⟩ := hi.rd c1 r1
    subst e
    exact ⟨.inl ⟨rfl, xs, s⟩, h1 T1 σ H1 (I.mv m1 c1) _ fun vs es S2 T2 H2 m2 c2 r2 h2 => h2 T2 _ vs H2 c2 (r1.mv m2) r2 Q fun v d S3 T3 H3 m3 c3 r3 q => k v d S3 T3 H3 (m1.trans (m2.trans m3)) c3 r3 q⟩
theorem rm_indexV {y : D} {ds : List D} {x z : D} {j : Nat} (h : IsL S y ds) (h1 : flatD x = true) (h2 : ds.all flatD = true) (hj : ds[j]? = some z) (e : eqD z x = true) (no : ∀ (m : Nat) (z' : D), m < j → ds[m]? = some z' → eqD z' x = false) (q : F (.int (j : Nat)) S) :
    RM c (rIndex c.K) y [x] S F := fun T u us H cl r1 r2 Q k => by
  obtain ⟨a, xs, e0, hs, r⟩ := h.rd cl r1
  subst e0
  cases r2 with
  | cons hx t =>
    cases t
    obtain ⟨v, e1, e2⟩ := r.get hj
    refine ⟨a, xs, _, j, v, rfl, rfl, hs, by rw [flat_ok hx]; exact h1, by rw [r.flat]; exact h2, e1, by rw [eq_ok e2 hx]; exact e, fun m z' hm hz => ?_, k _ _ S T H Mv.refl cl (.int _) q⟩
    have hb : m < ds.length := by
      rw [← r.length]
      exact (List.getElem?_eq_some_iff.mp hz).1
    obtain ⟨v', f1, f2⟩ := r.get (List.getElem?_eq_getElem hb)
    rw [hz] at f1
    cases f1
    rw [eq_ok f2 hx]
    exact no m _ hm (List.getElem?_eq_getElem hb)
/-- the place of a text in a list of unlike texts -/
theorem rm_indexS {y : D} {ws : List Str} {z : Str} {j : Nat} (h : IsL S y (ws.map D.str)) (nd : ws.Nodup) (hj : ws[j]? = some z) (q : F (.int (j : Nat)) S) : RM c (rIndex c.K) y [.str z] S F := by
  have fl : (ws.map D.str).all flatD = true := by rw [List.all_map]; exact List.all_eq_true.mpr fun _ _ => rfl
  refine rm_indexV (j := j) (z := .str z) h rfl fl (by rw [List.getElem?_map, hj]; rfl) (by show (z == z) = true; exact beq_self_eq_true _) (fun m z' hm hz' => ?_) q
  rw [List.getElem?_map] at hz'
  cases em : ws[m]? with
  | none => rw [em] at hz'; cases hz'
  | some y' =>
    rw [em] at hz'
    cases hz'
    show (y' == z) = false
    rw [beq_eq_false_iff_ne]
    intro e
    subst e
    have := (List.getElem?_inj (List.getElem?_eq_some_iff.mp em).1 nd).mp (em.trans hj.symm)
    omega
end
end VS
namespace VS
open PySem L2 C8 PySem.Spec PyProof.Rows
/-! ### list(d), the keys texts -/
/-! ### a comprehension in a comprehension -/
end VS
namespace VS
open PySem L2 C8 PySem.Spec PyProof.Rows
/-! ### a module's dict of own defs, by texts -/
structure KDct (P : Program) (w : World) (K : PySem.W.Frag) (a : Addr) (kvs : List (Str × Addr)) : Prop where
  sys : (a == sysModules) = false
  nd : (kvs.map Prod.fst).Nodup
  ob : ∃ o es ep, K.lookup a = some o ∧ o.ExactDict ∧ o.data = .dict es ep ∧ KeysOf (PySem.strKind P w) es ∧ Pairs (PySem.strKind P w) es.toList (kvs.map fun x => (x.1, Value.ref x.2))
theorem KDct.map {P : Program} {w : World} {K : PySem.W.Frag} {a : Addr} {kvs : List (Str × Addr)} (h : KDct P w K a kvs) {hp : Heap} (i : K.In hp) : Heap.MapOf (PySem.strKind P w) hp a (valueAt (kvs.map fun x => (x.1, Value.ref x.2))) := by
  obtain ⟨o, es, ep, h1, h2, h3, h4, h5⟩ := h.ob
  refine Heap.DictOf.mapOf ⟨o, es, ep, i _ _ h1, h2, h3, h4, h5, ?_⟩
  rw [List.map_map]
  exact h.nd
def entK (w : World) (x : Str × Addr × Tok) : DictEntry := ⟨hashStr w x.1, .str x.1 x.2.2, .ref x.2.1⟩
theorem pairs_ents {P : Program} {w : World} : ∀ ents : List (Str × Addr × Tok), Pairs (PySem.strKind P w) (ents.map (entK w)) ((ents.map fun x => (x.1, x.2.1)).map fun x => (x.1, Value.ref x.2))
  | [] => .nil
  | (z, f, t) :: es => .cons (show Value.isStrOf z (Value.str z t) = true by simp [Value.isStrOf]) rfl (pairs_ents es)
theorem KDct.of {P : Program} {w : World} {K : PySem.W.Frag} {a : Addr} {ep : Nat} (ents : List (Str × Addr × Tok)) (h : K.lookup a = some ⟨.type "dict", none, .dict (ents.map (entK w)).toArray ep, #[]⟩) (nd : (ents.map Prod.fst).Nodup) (sy : (a == sysModules) = false) : KDct P w K a (ents.map fun x => (x.1, x.2.1)) := by
  refine ⟨sy, by rw [List.map_map]; exact nd, _, _, _, h, ⟨rfl, rfl, rfl⟩, rfl, fun e he => ?_, by rw [List.toList_toArray]; exact pairs_ents ents⟩
  have he : e ∈ ents.map (entK w) := by simpa using he
  obtain ⟨x, hx, rfl⟩ := List.mem_map.mp he
  exact ⟨x.1, (show Value.isStrOf x.1 (Value.str x.1 x.2.2) = true by simp [Value.isStrOf]), rfl⟩
/-! ### sorted(xs, key=f): one of several f -/
end VS
namespace VS
open PySem L2 PySem.Spec PyProof.Rows
/-! ### max of three -/
end VS
namespace VS
open PySem L2 C8 PySem.Spec PyProof.Rows
/-! ### sorted of a list of texts -/
end VS
namespace VS
open PySem L2 C8 PySem.Spec PyProof.Rows
/-! ### sorted of a list of pairs of whole numbers -/
end VS
namespace VS
/-! ### pairs (number, place) sorted: the things sorted by the number, alike ones as they stood -/
end VS
namespace VS
open PySem L2 C8 PySem.Spec PyProof.Rows
/-! ### several lists known by reference, hidden for the time of a walk -/
theorem Mk.trans {S S1 S2 : Sto} {H H1 H2 : Hp} (a : Mk S H S1 H1) (b : Mk S1 H1 S2 H2) : Mk S H S2 H2 :=
  ⟨fun x o h1 h2 => b.keep x o (a.fresh x h1 (by rw [h2]; nofun)) (a.keep x o h1 h2), fun x h1 h2 => by
    cases e : H x with
    | none => exact absurd e h2
    | some o => exact b.fresh x (a.fresh x h1 h2) (by rw [a.keep x o h1 e]; nofun)⟩
end VS
namespace VS
open PySem L2 C8 PySem.Spec PyProof.Rows
/-! ### list.reverse; texts sorted, as the mergeSort of things by a text -/
end VS
namespace VS
open PySem L2 C8 PySem.Spec PyProof.Rows
/-! ### max(xs, default=d); list(d.values()) -/
end VS
namespace VS
open PySem L2 C8 PySem.Spec PyProof.Rows
/-! ### for k in d, d a dict by value: it is locked meanwhile, where it is not locked as yet -/
def tLk (t : TS) : TS := fun D σ H => tLock t D σ H ∨ t D σ H
theorem ps_lk {X : Cx} {st : Stmt} {t : TS} (h : PS X st t) : PS X st (tLk t) := ⟨fun pins s σ H D I hw => by
  rcases hw with hw | hw
  · exact (ps_lock h).run pins s σ H D I hw
  · exact h.run pins s σ H D I hw⟩
theorem CellOk.ml {K : PySem.W.Frag} {S S' : Sto} {H H' : Hp} {a : Addr} (m : Ml S H S' H') (e : H' a = H a) : ∀ {d : D}, CellOk K H S a d → CellOk K H' S' a d
  | .lst _, ⟨xs, h, r⟩ => ⟨xs, by rw [e]; exact h, r.ml m⟩
  | .dK _, ⟨xs, h, r⟩ => ⟨xs, by rw [e]; exact h, r.ml m⟩
  | .ins _ _, ⟨dx, fs, h, r⟩ => ⟨dx, fs, by rw [e]; exact h, r.ml m⟩
  | .hid, ⟨o, h⟩ => ⟨o, by rw [e]; exact h⟩
theorem Cells.ml {K : PySem.W.Frag} {S T : Sto} {H H' : Hp} {a : Addr} (c : Cells K H S T) (s : T a = none) (m : Ml T H T H') (e : ∀ b, b ≠ a → H' b = H b) : Cells K H' S T :=
  ⟨c.ov, fun b d q => CellOk.ml m (e b (fun z => by subst z; rw [s] at q; cases q)) (c.ok b d q)⟩
theorem ml_upd {T : Sto} {H : Hp} {a : Addr} {o o' : HO} (h : H a = some o) (e : nrm o' = nrm o) : Ml T H T (upd H a o') :=
  ⟨fun b u _ q => by
    by_cases z : b = a
    · subst z
      rw [h] at q
      cases q
      exact ⟨o', upd_same, e⟩
    · exact ⟨u, by rw [upd_ne z]; exact q, rfl⟩, fun _ s _ => s⟩
theorem RepK.key {K : PySem.W.Frag} {H : Hp} {S : Sto} {k : Key} {v : V} : ∀ {vs : List (Key × V)} {ds : List (Key × D)} {i : Nat}, RepK K H S vs ds → vs[i]? = some (k, v) → ∃ d, ds[i]? = some (k, d)
  | _, _, _, .nil, e => by simp at e
  | _, _, 0, .cons _ _, e => by simp at e; obtain ⟨rfl, _⟩ := e; exact ⟨_, rfl⟩
  | _, _, i + 1, .cons _ t, e => by simpa using RepK.key (i := i) t (by simpa using e)
theorem rep_kD {K : PySem.W.Frag} {H : Hp} {S : Sto} : ∀ k : Key, Rep K H S (kV k) (kD k)
  | .inr x => .str x
  | .inl i => .int i
section
variable {c : Ctx} {ρ : Rho} {S : Sto}
/-- the reading te tells a dict by value, always the same one -/
def AdrD (c : Ctx) (te : TE) (ρ : Rho) (S : Sto) (ds : List (Key × D)) : Prop := ∀ T σ H, In c σ H ρ S T → ∃ a, Rep c.K H T (.ref a) (.dK ds) ∧ ∀ H2 : Hp, ∀ Q : VK, Q (.ref a) H2 → te σ H2 Q
theorem adr_slot {i : Nat} {ds : List (Key × D)} (h : ρ[i]? = some (some (.dK ds)) := by rfl) : AdrD c (tVar i) ρ S ds := fun T σ H I => by
  obtain ⟨v, hv, r⟩ := I.slots i _ h
  cases r with
  | dK s hh rr => exact ⟨_, .dK s hh rr, fun H2 Q q => ⟨_, hv, q⟩⟩
theorem keys_core {te : TE} {g : TG} {tb : TS} {nx bk ct : Rho → Sto → Prop} {rt : D → Sto → Prop} {T : Sto} {σ : L2.St} {H : Hp} {D2 : Ends} {a : Addr} {od : Obj} {kvs : List (Key × V)} {ds : List (Key × D)}
    (I : In c σ H ρ S T) (b : Bh c ⟨nx, rt, bk, ct⟩ D2 T H) (s : T a = none) (h : H a = some (.frz od (.dK kvs))) (rr : RepK c.K H T kvs ds) (hte : ∀ Q : VK, Q (.ref a) H → te σ H Q)
    (W : Nat → Rho → Sto → Prop) (h0 : W 0 ρ S)
    (hs : ∀ (i : Nat) (k : Key) (x : D) ρ2 S2, ds[i]? = some (k, x) → W i ρ2 S2 → VG c g (kD k) ρ2 S2 fun ρ3 S3 => VX c tb ρ3 S3 ⟨W (i + 1), rt, nx, W (i + 1)⟩)
    (hd : ∀ ρ2 S2, W ds.length ρ2 S2 → nx ρ2 S2) : tFor (iKeys te) g tb D2 σ H := by
  refine hte _ ⟨a, od, rfl, .inl ⟨kvs, h, ?_⟩⟩
  refine for_it walk_keys (fun i σ' H' => ∃ ρ2 S2 T2, Mv T H T2 H' ∧ In c σ' H' ρ2 S2 T2 ∧ W i ρ2 S2) ⟨ρ, S, T, Mv.refl, I, h0⟩ (fun i σ' H' _ ⟨ρ2, S2, T2, m, _, _⟩ => m.keep a _ s h) ?_ ?_
  · rintro i x σ' H' H'' hi ⟨ρ2, S2, T2, m, I2, hw⟩ ⟨rfl, k, v, e, rfl⟩
    obtain ⟨d, e'⟩ := rr.key e
    refine hs i k d ρ2 S2 e' hw T2 (kV k) σ' H'' I2 (rep_kD k) _ fun σ3 ρ3 S3 T3 H3 m4 I3 q => ?_
    have mm := m.trans m4
    exact q T3 σ3 H3 I3 _ ⟨fun σ4 ρ4 S4 T4 H4 m5 I4 q4 => ⟨ρ4, S4, T4, mm.trans m5, I4, q4⟩, fun v d S4 T4 H4 m5 => b.rt v d S4 T4 H4 (mm.trans m5), fun σ4 ρ4 S4 T4 H4 m5 => b.nx σ4 ρ4 S4 T4 H4 (mm.trans m5), fun σ4 ρ4 S4 T4 H4 m5 I4 q4 => ⟨ρ4, S4, T4, mm.trans m5, I4, q4⟩⟩
  · rintro σ' H' ⟨ρ2, S2, T2, m, I2, hw⟩
    exact b.nx σ' ρ2 S2 T2 H' m I2 (hd ρ2 S2 (by rw [← rr.length]; exact hw))
theorem vx_forKeys {te : TE} {g : TG} {tb : TS} {nx bk ct : Rho → Sto → Prop} {rt : D → Sto → Prop} {ds : List (Key × D)} (ha : AdrD c te ρ S ds)
    (W : Nat → Rho → Sto → Prop) (h0 : W 0 ρ S)
    (hs : ∀ (i : Nat) (k : Key) (x : D) ρ2 S2, ds[i]? = some (k, x) → W i ρ2 S2 → VG c.calm g (kD k) ρ2 S2 fun ρ3 S3 => VX c.calm tb ρ3 S3 ⟨W (i + 1), rt, nx, W (i + 1)⟩)
    (hd : ∀ ρ2 S2, W ds.length ρ2 S2 → nx ρ2 S2) : VX c (tLk (tFor (iKeys te) g tb)) ρ S ⟨nx, rt, bk, ct⟩ := fun T σ H I D b => by
  obtain ⟨a, r, hte⟩ := ha T σ H I
  cases r with
  | @dK _ kvs _ s h rr =>
    rcases h with h | ⟨od, h⟩
    · refine .inl ⟨a, .dK kvs, h, trivial, fun od => ?_⟩
      have ml : Ml T H T (upd H a (.frz od (.dK kvs))) := ml_upd h rfl
      have ne : ∀ b, b ≠ a → (upd H a (.frz od (.dK kvs))) b = H b := fun b z => upd_ne z
      have I0 : In c.calm σ (upd H a (.frz od (.dK kvs))) ρ S T := ⟨I.cells.ml s ml ne, fun i d e => let ⟨v, h, r⟩ := I.slots i d e; ⟨v, h, r.ml ml⟩, I.len, fun _ _ _ _ _ _ _ _ _ _ _ _ z => z.elim⟩
      -- back
      have bck : ∀ {T4 H4}, Mv T (upd H a (.frz od (.dK kvs))) T4 H4 → H4 a = some (.frz od (.dK kvs)) ∧ T4 a = none ∧ Ml T4 H4 T4 (upd H4 a (.dK kvs)) ∧ Mv T H T4 (upd H4 a (.dK kvs)) := by
        intro T4 H4 m4
        have h4 := m4.keep a _ s upd_same
        have s4 := m4.fresh a s (by rw [upd_same]; simp)
        refine ⟨h4, s4, ml_upd h4 rfl, ⟨fun b o u e => ?_, fun b u e => ?_⟩, fun b o u e => ?_⟩
        · by_cases z : b = a
          · subst z
            rw [upd_same, ← e, h]
          · rw [upd_ne z]
            exact m4.keep b o u (by rw [upd_ne z]; exact e)
        · by_cases z : b = a
          · subst z
            exact s4
          · exact m4.fresh b u (by rw [upd_ne z]; exact e)
        · have z : b ≠ a := fun z => by subst z; rw [s] at u; cases u
          obtain ⟨e1, e2⟩ := m4.hid b o u (by rw [upd_ne z]; exact e)
          exact ⟨by rw [upd_ne z]; exact e1, e2⟩
      have bkI : ∀ {σ4 H4 ρ4 S4 T4}, Mv T (upd H a (.frz od (.dK kvs))) T4 H4 → In c.calm σ4 H4 ρ4 S4 T4 → H4 a = some (.frz od (.dK kvs)) ∧ Mv T H T4 (upd H4 a (.dK kvs)) ∧ In c σ4 (upd H4 a (.dK kvs)) ρ4 S4 T4 := by
        intro σ4 H4 ρ4 S4 T4 m4 I4
        obtain ⟨h4, s4, l4, m5⟩ := bck m4
        exact ⟨h4, m5, I4.cells.ml s4 l4 (fun b z => upd_ne z), fun i d e => let ⟨v, h, q⟩ := I4.slots i d e; ⟨v, h, q.ml l4⟩, I4.len, fun σ2 ρ2 C d fs S2 T2 H2 m2 => I.exc σ2 ρ2 C d fs S2 T2 H2 (m5.trans m2)⟩
      refine keys_core (nx := nx) (bk := bk) (ct := ct) (rt := rt) I0 ⟨fun σ4 ρ4 S4 T4 H4 m4 I4 q => ?_, fun v d S4 T4 H4 m4 c4 r4 q => ?_, fun σ4 ρ4 S4 T4 H4 m4 I4 q => ?_, fun σ4 ρ4 S4 T4 H4 m4 I4 q => ?_⟩ s upd_same (rr.ml ml) (fun Q q => hte _ Q q) W h0 hs hd
      · obtain ⟨h4, m5, I5⟩ := bkI m4 I4
        exact ⟨h4, b.nx σ4 ρ4 S4 T4 _ m5 I5 q⟩
      · obtain ⟨h4, s4, l4, m5⟩ := bck m4
        exact ⟨h4, b.rt v d S4 T4 _ m5 (c4.ml s4 l4 (fun b z => upd_ne z)) (r4.ml l4) q⟩
      · obtain ⟨h4, m5, I5⟩ := bkI m4 I4
        exact ⟨h4, b.bk σ4 ρ4 S4 T4 _ m5 I5 q⟩
      · obtain ⟨h4, m5, I5⟩ := bkI m4 I4
        exact ⟨h4, b.ct σ4 ρ4 S4 T4 _ m5 I5 q⟩
    · refine .inr ?_
      have I0 : In c.calm σ H ρ S T := ⟨I.cells, I.slots, I.len, fun _ _ _ _ _ _ _ _ _ _ _ _ z => z.elim⟩
      have up : ∀ {σ4 H4 ρ4 S4 T4}, Mv T H T4 H4 → In c.calm σ4 H4 ρ4 S4 T4 → In c σ4 H4 ρ4 S4 T4 := fun m4 I4 => ⟨I4.cells, I4.slots, I4.len, fun σ2 ρ2 C d fs S2 T2 H2 m2 => I.exc σ2 ρ2 C d fs S2 T2 H2 (m4.trans m2)⟩
      exact keys_core (nx := nx) (bk := bk) (ct := ct) (rt := rt) I0 ⟨fun σ4 ρ4 S4 T4 H4 m4 I4 q => b.nx σ4 ρ4 S4 T4 H4 m4 (up m4 I4) q, fun v d S4 T4 H4 m4 c4 r4 q => b.rt v d S4 T4 H4 m4 c4 r4 q, fun σ4 ρ4 S4 T4 H4 m4 I4 q => b.bk σ4 ρ4 S4 T4 H4 m4 (up m4 I4) q, fun σ4 ρ4 S4 T4 H4 m4 I4 q => b.ct σ4 ρ4 S4 T4 H4 m4 (up m4 I4) q⟩ s h rr (fun Q q => hte _ Q q) W h0 hs hd
end
end VS
namespace VS
open PySem L2 C8 PySem.Spec PyProof.Rows
/-! ### [e for k in d if t], d a dict by value -/
end VS
namespace VS
open PySem L2
/-! ### some cells are known by value from now on -/
section
variable {K : PySem.W.Frag} {H : Hp} {S T : Sto} {A : Addr → Prop}
open Classical in
noncomputable def cutA (A : Addr → Prop) (T : Sto) : Sto := fun b => if A b then none else T b
open Classical in
noncomputable def onlyA (A : Addr → Prop) (T : Sto) : Sto := fun b => if A b then T b else none
theorem cutA_in {a : Addr} (h : A a) : cutA A T a = none := if_pos h
theorem cutA_out {a : Addr} (h : ¬ A a) : cutA A T a = T a := if_neg h
theorem cutA_none {a : Addr} (h : T a = none) : cutA A T a = none := by
  unfold cutA
  split
  · rfl
  · exact h
theorem onlyA_in {a : Addr} (h : A a) : onlyA A T a = T a := if_pos h
theorem onlyA_some {a : Addr} {d : D} (e : onlyA A T a = some d) : A a ∧ T a = some d := by
  unfold onlyA at e
  split at e
  · rename_i h; exact ⟨h, e⟩
  · cases e
theorem cutA_some {a : Addr} {d : D} (e : cutA A T a = some d) : ¬ A a ∧ T a = some d := by
  unfold cutA at e
  split at e
  · cases e
  · rename_i h; exact ⟨h, e⟩
theorem mv_cut (hA : ∀ a, A a → T a ≠ some .hid) : Mv T H (cutA A T) H :=
  ⟨⟨fun _ _ _ h => h, fun _ s _ => cutA_none s⟩, fun a o s e => ⟨e, by rw [cutA_out (fun z => hA a z s)]; exact s⟩⟩
theorem Cells.cut (cl : Cells K H S T) (hA : ∀ a, A a → T a ≠ some .hid) : Cells K H (cutA A S) (cutA A T) := by
  refine ⟨fun a => ?_, fun a d e => ?_⟩
  · by_cases z : A a
    · exact .inl ⟨by rw [cutA_in z, cutA_in z], by rw [cutA_in z]; nofun⟩
    · rw [cutA_out z, cutA_out z]; exact cl.ov a
  · exact CellOk.mk (mv_cut hA).toMk rfl (cl.ok a d (cutA_some e).2)
mutual
theorem Vd.rdA (cl : Cells K H S T) (hA : ∀ a, A a → T a ≠ some .hid) : ∀ {x d : D} {u : V} {T' : Sto}, (∀ a, T' a = none → cutA A T a = none) → Vd (onlyA A S) x d → Rep K H T' u x → Rep K H (cutA A T) u d
  | _, _, _, _, hT, .v, r => r.mk ⟨fun _ _ _ h => h, fun a s _ => hT a s⟩
  | _, _, _, _, hT, .c (l := l) h n k, r => by
    cases r
    obtain ⟨hl, h⟩ := onlyA_some h
    refine Vd.rdA cl hA (T' := VS.del T l) (fun a e => ?_) k (cl.rep (cl.at h) (cl.nohid h n))
    by_cases z : a = l
    · subst z; exact cutA_in hl
    · rw [VS.del_ne z] at e; exact cutA_none e
  | _, _, _, _, hT, .lst h, r => by
    cases r with
    | lst s e r => exact .lst (hT _ s) e (VdL.rdA cl hA hT h r)
  | _, _, _, _, hT, .tup h, r => by
    cases r with
    | tup s e r => exact .tup (hT _ s) e (VdL.rdA cl hA hT h r)
    | tupK e r => exact .tupK e (VdL.rdA cl hA hT h r)
  | _, _, _, _, hT, .dK h, r => by
    cases r with
    | dK s e r => exact .dK (hT _ s) e (VdK.rdA cl hA hT h r)
  | _, _, _, _, hT, .ins h, r => by
    cases r with
    | ins s e r => exact .ins (hT _ s) e (VdF.rdA cl hA hT h r)
theorem VdL.rdA (cl : Cells K H S T) (hA : ∀ a, A a → T a ≠ some .hid) : ∀ {xs ds : List D} {us : List V} {T' : Sto}, (∀ a, T' a = none → cutA A T a = none) → VdL (onlyA A S) xs ds → RepL K H T' us xs → RepL K H (cutA A T) us ds
  | _, _, _, _, _, .nil, r => by cases r; exact .nil
  | _, _, _, _, hT, .cons h t, r => by
    cases r with
    | cons r1 r2 => exact .cons (Vd.rdA cl hA hT h r1) (VdL.rdA cl hA hT t r2)
theorem VdK.rdA (cl : Cells K H S T) (hA : ∀ a, A a → T a ≠ some .hid) : ∀ {xs ds : List (Key × D)} {us : List (Key × V)} {T' : Sto}, (∀ a, T' a = none → cutA A T a = none) → VdK (onlyA A S) xs ds → RepK K H T' us xs → RepK K H (cutA A T) us ds
  | _, _, _, _, _, .nil, r => by cases r; exact .nil
  | _, _, _, _, hT, .cons h t, r => by
    cases r with
    | cons r1 r2 => exact .cons (Vd.rdA cl hA hT h r1) (VdK.rdA cl hA hT t r2)
theorem VdF.rdA (cl : Cells K H S T) (hA : ∀ a, A a → T a ≠ some .hid) : ∀ {xs ds : List (Str × D)} {us : List (Str × V)} {T' : Sto}, (∀ a, T' a = none → cutA A T a = none) → VdF (onlyA A S) xs ds → RepF K H T' us xs → RepF K H (cutA A T) us ds
  | _, _, _, _, _, .nil, r => by cases r; exact .nil
  | _, _, _, _, hT, .cons h t, r => by
    cases r with
    | cons r1 r2 => exact .cons (Vd.rdA cl hA hT h r1) (VdF.rdA cl hA hT t r2)
end
end
section
variable {c : Ctx} {ρ ρ' : Rho} {S : Sto} {F : D → Sto → Prop} {P : Po}
/-- what stands in the cells of A is by value from here on; they are known no more -/
theorem vx_see (A : Addr → Prop) {t : TS} (hA : ∀ a, A a → ∃ d, S a = some d ∧ d ≠ .hid) (w : VdR (onlyA A S) ρ ρ') (h : VX c t ρ' (cutA A S) P) : VX c t ρ S P := fun T σ H I D b => by
  have nh : ∀ a, A a → T a ≠ some .hid := fun a z => let ⟨_, e, n⟩ := hA a z; I.cells.nohid e n
  have m := mv_cut (H := H) nh
  have cl := I.cells.cut nh
  refine h _ σ H ⟨cl, fun i d' e => ?_, by rw [w.len]; exact I.len, (I.mv m cl).exc⟩ D (b.mv m)
  obtain ⟨d, h1, hv⟩ := w.at_ i d' e
  obtain ⟨v, h2, h3⟩ := I.slots i d h1
  exact ⟨v, h2, hv.rdA I.cells nh (fun a e => cutA_none e) h3⟩
theorem ext_cut {S0 : Sto} {A : Addr → Prop} (x : Ext S0 S) (h : ∀ a, A a → S0 a = none) : Ext S0 (cutA A S) := fun a d e => by
  rw [cutA_out (fun z => by rw [h a z] at e; cases e)]
  exact x a d e
end
end VS
namespace VS
open PySem L2 C8 PySem.Spec PyProof.Rows
/-! ### d != {}, d == {} -/
end VS
namespace VS
open PySem L2 C8 PySem.Spec PyProof.Rows
/-! ### k not in d, len(d) -/
end VS
namespace VS
open PySem L2 C8 PySem.Spec PyProof.Rows
/-! ### how long a shown dict is -/
structure ShK (xs : List (Key × D)) (n k : Nat) : Prop where
  p : isPK xs = true
  s : PyData.showableKv (pdK xs) = true
  l : piled (PyData.shownKv (pdK xs)) ≤ n
  d : PyData.depthKv (pdK xs) ≤ k
theorem ShK.nil : ShK [] 0 0 := ⟨rfl, rfl, Nat.le_refl _, Nat.le_refl _⟩
theorem ShK.cons {z : Str} {d : D} {ds : List (Key × D)} {n a b i j : Nat} (hz : Asc n z) (h : Sh d a i) (t : ShK ds b j) : ShK ((.inr z, d) :: ds) (10 * n + a + 6 + b) (max i j) := ⟨by
  show (isP d && isPK ds) = true
  rw [h.p, t.p]; rfl, by
  show (true && (pd d).showable && PyData.showableKv (pdK ds)) = true
  rw [h.s, t.s]; rfl, by
  show ((reprText z ++ ": " ++ (pd d).shown).length + 2) + piled (PyData.shownKv (pdK ds)) ≤ _
  have := h.l
  have := t.l
  have e := lit1
  have q : (reprText z).length ≤ 10 * n + 2 := (Sh.str hz).l
  rw [len_add, len_add]
  omega, by
  show max (max 0 (pd d).depth) (PyData.depthKv (pdK ds)) ≤ _
  have := h.d
  have := t.d
  omega⟩
theorem Sh.dic {xs : List (Key × D)} {n k : Nat} (h : ShK xs n k) : Sh (.dK xs) (n + 2) (k + 1) := ⟨h.p, h.s, by
  show (dictText (PyData.shownKv (pdK xs))).length ≤ _
  have := join_len (PyData.shownKv (pdK xs))
  have := h.l
  have e := lit1
  unfold dictText
  rw [len_add, len_add]
  omega, Nat.succ_le_succ h.d⟩
theorem shK_all {n a i : Nat} : ∀ {xs : List (Key × D)}, (∀ x ∈ xs, ∃ z d, x = (.inr z, d) ∧ Asc n z ∧ Sh d a i) → ShK xs (xs.length * (10 * n + a + 6)) i
  | [], _ => ⟨rfl, rfl, Nat.zero_le _, Nat.zero_le _⟩
  | x :: xs, h => by
    obtain ⟨z, d, rfl, hz, hd⟩ := h x (List.mem_cons_self ..)
    have t := shK_all (xs := xs) fun y hy => h y (List.mem_cons_of_mem _ hy)
    have q := ShK.cons hz hd t
    exact ⟨q.p, q.s, Nat.le_trans q.l (by rw [List.length_cons, Nat.succ_mul xs.length]; omega), Nat.le_trans q.d (Nat.max_le.mpr ⟨Nat.le_refl _, Nat.le_refl _⟩)⟩
end VS
namespace VS
open PySem L2 C8 PySem.Spec PyProof.Rows
/-! ### defs that call themselves; a local name that holds one of some defs -/
end VS
namespace VS
open PySem L2 C8 PySem.Spec PyProof.Rows
/-! ### xs.remove(x), flat items -/
end VS
namespace VS
open PySem L2 C8 PySem.Spec PyProof.Rows
/-! ### a dict's keys as a list known by reference; lists of lists seen by value -/
/-- lists known by reference, one by one -/
structure Rws (S : Sto) (as : List Addr) (yss : List (List D)) : Prop where
  l : as.length = yss.length
  at_ : ∀ (j : Nat) (a : Addr) (ys : List D), as[j]? = some a → yss[j]? = some ys → S a = some (.lst ys)
theorem Rws.nil {S : Sto} : Rws S [] [] := ⟨rfl, nofun⟩
theorem Rws.ge {S : Sto} {as : List Addr} {yss : List (List D)} (h : Rws S as yss) {j : Nat} (hj : j < yss.length) : ∃ a ys, as[j]? = some a ∧ yss[j]? = some ys ∧ S a = some (.lst ys) := by
  have e1 : as[j]? = some (as[j]'(by rw [h.l]; exact hj)) := List.getElem?_eq_getElem _
  have e2 : yss[j]? = some (yss[j]'hj) := List.getElem?_eq_getElem _
  exact ⟨_, _, e1, e2, h.at_ j _ _ e1 e2⟩
theorem Rws.mem {S : Sto} {as : List Addr} {yss : List (List D)} (h : Rws S as yss) {a : Addr} (ha : a ∈ as) : ∃ ys ∈ yss, S a = some (.lst ys) := by
  obtain ⟨j, hj⟩ := List.getElem?_of_mem ha
  obtain ⟨b, ys, e1, e2, e3⟩ := h.ge (j := j) (by rw [← h.l]; exact (List.getElem?_eq_some_iff.mp hj).1)
  rw [hj] at e1
  cases e1
  exact ⟨ys, List.mem_of_getElem? e2, e3⟩
theorem Rws.ext {S S' : Sto} {as : List Addr} {yss : List (List D)} (h : Rws S as yss) (x : Ext S S') : Rws S' as yss := ⟨h.l, fun j a ys e1 e2 => x _ _ (h.at_ j a ys e1 e2)⟩
theorem Rws.free {S : Sto} {as : List Addr} {yss : List (List D)} (h : Rws S as yss) {a : Addr} (ha : S a = none) : a ∉ as := fun z => by
  obtain ⟨ys, _, e⟩ := h.mem z
  rw [e] at ha
  cases ha
theorem Rws.new {S : Sto} {as : List Addr} {yss : List (List D)} (h : Rws S as yss) {a : Addr} {ys : List D} (ha : S a = none) : Rws (put S a (.lst ys)) (as ++ [a]) (yss ++ [ys]) := by
  refine ⟨by rw [List.length_append, List.length_append, h.l]; rfl, fun j b zs e1 e2 => ?_⟩
  by_cases hj : j < as.length
  · rw [List.getElem?_append_left hj] at e1
    rw [List.getElem?_append_left (by rw [← h.l]; exact hj)] at e2
    rw [put_ne (fun z => h.free ha (by rw [← z]; exact List.mem_of_getElem? e1))]
    exact h.at_ j b zs e1 e2
  · rw [List.getElem?_append_right (by omega)] at e1
    rw [List.getElem?_append_right (by rw [← h.l]; omega)] at e2
    obtain ⟨d, hd⟩ : ∃ d, d = j - as.length := ⟨_, rfl⟩
    rw [← hd] at e1
    rw [← h.l, ← hd] at e2
    cases d with
    | zero => cases e1; cases e2; exact put_same
    | succ d => cases e1
theorem Rws.wr {S : Sto} {as : List Addr} {yss : List (List D)} (h : Rws S as yss) (nd : as.Nodup) {i : Nat} {a : Addr} {ys : List D} (e : as[i]? = some a) : Rws (put S a (.lst ys)) as (yss.set i ys) := by
  have hi := (List.getElem?_eq_some_iff.mp e).1
  refine ⟨by rw [List.length_set]; exact h.l, fun j b zs e1 e2 => ?_⟩
  by_cases z : j = i
  · subst z
    rw [List.getElem?_set_self (by rw [← h.l]; exact hi)] at e2
    rw [e] at e1
    cases e1; cases e2
    exact put_same
  · rw [List.getElem?_set_ne (Ne.symm z)] at e2
    rw [put_ne (fun w => z ((List.getElem?_inj (List.getElem?_eq_some_iff.mp e1).1 nd).mp (by rw [e1, w, e])))]
    exact h.at_ j b zs e1 e2
end VS
namespace VS
open PySem L2 C8 PySem.Spec PyProof.Rows
/-! ### range(i, j, -1); list(range(n)) -/
end VS
namespace VS
open PySem L2 C8 PySem.Spec PyProof.Rows
end VS
namespace VS
open PySem L2 PySem.Spec PyProof.Rows PySem.VSX
/-! ### an own exception of two fields: its class, its making, raise -/
/-- what __init__ keeps: self.f = v; self.g = u -/
def spXi2 (C : Addr) (f g : Str) : Sp := fun vs H Q _ => ∃ (a : Addr) (v u : V), vs = [.ref a, v, u] ∧ H a = some (exo a C none) ∧ ∀ dx, H dx = none → dx ≠ a → Q .non (upd (upd H dx (exd dx [(g, u), (f, v)])) a (exo a C (some dx)))
/-- the class x, at C, of exceptions with the fields f, g -/
structure Xc2 (P : Program) (w : World) (K : PySem.W.Frag) (mg : Str → Option Value) (base : Heap) (x : Str) (C : Addr) (f g : Str) : Prop where
  ox : OexG K C
  xf : XfC K C
  no : PySem.W.findIn K (.ref C) f = some none
  no2 : PySem.W.findIn K (.ref C) g = some none
  at_ : mg x = some (.ref C)
  fn : ∃ (fI : Addr) (fd : FuncData) (ps : List Str), PySem.W.findIn K (.ref C) "__init__" = some (some (.ref fI)) ∧ PySem.W.typeIn K (.ref fI) = some (.type "function") ∧ FnOk P w K mg base C8.CX0 1 fI fd ps (spXi2 C f g) ∧ Binds K fd ps []
section
variable {P : Program} {w : World} {K : PySem.W.Frag} {mg : Str → Option Value} {base : Heap}
theorem upd_upd2 {H : Hp} {a dx : Addr} {o o' p : HO} (ne : dx ≠ a) : upd (upd (upd H dx o) a p) dx o' = upd (upd H dx o') a p := by
  funext b
  by_cases z : b = dx
  · subst z; rw [upd_same, upd_ne ne, upd_same]
  · rw [upd_ne z]
    by_cases y : b = a
    · subst y; rw [upd_same, upd_same]
    · rw [upd_ne y, upd_ne y, upd_ne z, upd_ne z]
theorem xinit2_ok {qual : Str} {st : Stmt} {C fI : Addr} {fd : FuncData} {f g : Str} {N ps : List Str} (F : Fd K "__init__" qual st [] fI fd) (Sc : FnScope N ps (defScope st)) (h3 : ps.length = 3) (ox : L2.OexC K C) (no : PySem.W.findIn K (.ref C) f = some none) (no2 : PySem.W.findIn K (.ref C) g = some none)
    (body : ∀ (cdv : Value) (A : Around) (outer : List Env) (s : Shared) (H : Hp) (E : XK), PSs (cxOf C8.CX0 P w K mg base N qual (defScope st) fI cdv A outer s H E) (defBody st) (tSeq (L2.tOst K f (tVar 0) (tVar 1)) (L2.tOst K g (tVar 0) (tVar 2)))) :
    FnOk P w K mg base C8.CX0 1 fI fd ps (spXi2 C f g) :=
  FunD.ok F Sc (fun vs H Q E h => by obtain ⟨a, v, u, rfl, _⟩ := h; exact h3.symm) fun cdv A outer s H vs Q E _ h => by
    obtain ⟨a, v, u, rfl, ha, q⟩ := h
    refine ⟨_, body cdv A outer s H E, v, rfl, .ref a, rfl, a, C, rfl, ox, no, .inl ⟨ha, fun dx hn ne => ?_⟩⟩
    refine ⟨u, rfl, .ref a, rfl, a, C, rfl, ox, no2, .inr ⟨dx, [(f, v)], upd_same, (upd_ne ne).trans upd_same, (by show 1 ≤ 900; decide), ?_⟩⟩
    rw [upd_upd2 ne]
    exact q dx hn ne
end
def tRz2 (C : Addr) (f g : Str) (te tu : TE) (W : L2.St → XK) : TS := fun _ σ H => tMkO C (spXi2 C f g) [] (tCons te (tCons tu tNil)) σ H fun cls d H' => W σ cls d H'
theorem ps_rz2 {X : Cx} {x : Str} {C : Addr} {f g : Str} {e e2 : Expr} {te tu : TE} {W : L2.St → XK} {p pos pos' : Pos} (tk : Takes X (fun cls d σ H => W σ cls d H)) (xc : Xc2 X.prog X.w X.K X.mg X.base x C f g) (hr : Room 2 X.A) (hg : Gl X x) (he : PE X e te) (he2 : PE X e2 tu)
    (hc : X.calm = true := by rfl) (hdb : (x == ("__debug__" : Str)) = false := by decide) (hst : starEach [e, e2] X.env = (false, eval e X.env) :: starEach [e2] X.env := by rfl) (hst2 : starEach [e2] X.env = (false, eval e2 X.env) :: starEach [] X.env := by rfl) (hpl : ((backTo pos (starEach [e2] X.env)).any fun x => x.1) = false := by rfl) : PS X (.Raise (some (.Call (.Name x p) [e, e2] [] pos)) none pos') (tRz2 C f g te tu W) := by
  obtain ⟨fI, fd, ps, iC, tI, F1, b⟩ := xc.fn
  exact ps_raise hc tk (pmk_oexG xc.ox iC tI F1 hr b .nil C8.pass0 hg xc.at_ (pa_cons he (pa_cons he2 pa_nil hst2) hst) hdb hst hpl)
section
variable {c : Ctx} {ρ : Rho} {S : Sto} {P : Po}
theorem xd_heap2 {H1 : Hp} {a C dx : Addr} {fs : List (Str × V)} (ha : H1 a = none) : upd (L2.del (upd (upd (upd H1 a (exo a C none)) dx (exd dx fs)) a (exo a C (some dx))) a) dx (.xd fs) = upd H1 dx (.xd fs) := by
  funext b
  by_cases z : b = dx
  · subst z; rw [upd_same, upd_same]
  · rw [upd_ne z, upd_ne z]
    by_cases y : b = a
    · subst y; rw [L2.del_same, ha]
    · rw [L2.del_ne y, upd_ne y, upd_ne z, upd_ne y]
theorem vx_raise2 {C : Addr} {f g : Str} {te tu : TE} (h : VE c te ρ S fun x S1 => VE c tu ρ S1 fun y S2 => c.Y C [(g, y), (f, x)] ρ S2) : VX c (tRz2 C f g te tu c.E) ρ S P := fun T σ H I D b =>
  h T σ H I _ fun v x S1 T1 H1 m1 c1 r1 h2 => h2 T1 σ H1 (I.mv m1 c1) _ fun u y S2 T2 H2 m2 c2 r2 q => by
    refine ⟨(by decide : 2 ≤ 1000), fun a na => ⟨a, v, u, rfl, upd_same, fun dx hdx ne => ⟨rfl, dx, [(g, u), (f, v)], upd_same, ?_, ?_, ?_⟩⟩⟩
    · rw [upd_ne ne, upd_same]
    · rw [upd_ne ne] at hdx; exact hdx
    · have hd : H2 dx = none := by rw [upd_ne ne] at hdx; exact hdx
      rw [xd_heap2 na]
      have mm := m1.trans m2
      have m3 := mm.trans (mv_new (o := .xd [(g, u), (f, v)]) hd)
      have cl := c2.new (o := .xd [(g, u), (f, v)]) hd
      exact I.exc σ ρ C (some dx) [(g, y), (f, x)] S2 T2 _ m3 cl (I.mv m3 cl).sl ⟨dx, [(g, u), (f, v)], rfl, c2.free hd, upd_same, .cons (r2.mv (mv_new hd)) (.cons ((r1.mv m2).mv (mv_new hd)) .nil)⟩ q
end
end VS
namespace VS
open PySem L2 PySem.Spec PyProof.Rows
/-! ### a comprehension over a list or a tuple that is a list known by reference -/
end VS
namespace VS
open PySem L2 C8 PySem.Spec PyProof.Rows
end VS
namespace VS
open PySem L2 C8 PySem.Spec PyProof.Rows
/-! ### zip of two or three, each a list or a tuple -/
/-- a list (true) or a tuple (false) -/
def SqB (b : Bool) (K : PySem.W.Frag) (H : Hp) (a : Addr) (xs : List V) : Prop := match b with
  | true => SqL K H a xs
  | false => SqT K H a xs
def TrB (b : Bool) (h : Heap) (i a : Addr) (k : Nat) : Prop := match b with
  | true => h.IsListIter i a k
  | false => h.IsTupleIter i a k
def ArB (b : Bool) (h : Heap) (a : Addr) (its : Array Value) : Prop := match b with
  | true => h.IsList a its
  | false => h.IsTuple a its
def obB (b : Bool) (a : Addr) : Obj := match b with
  | true => { cls := .type "list_iterator", data := .fields #[.ref a, .int 0 0] }
  | false => { cls := .type "tuple_iterator", data := .fields #[.ref a, .int 0 0] }
theorem drawsB {pr : Program} {wd : World} {Ar : Around} (hh : Ar.handled = none) (b : Bool) (it a : Addr) (hne : a ≠ it) (its : Array Value) :
    Draws pr wd Ar it [it, a] its.size (fun i v => its[i]? = some v) (fun i h => TrB b h it a i ∧ ArB b h a its) := match b with
  | true => Draws.list hh it a hne its
  | false => Draws.tuple hh it a hne its
theorem beginsB (b : Bool) (a : Addr) (its : Array Value) : Begins (.ref a) (obB b a) fun h => ArB b h a its := match b with
  | true => begins_list a its
  | false => begins_tuple a its
theorem obB_tr {b : Bool} {h : Heap} {i a : Addr} (e : h.get? i = some (obB b a)) : TrB b h i a 0 := match b, e with
  | true, e => ⟨_, e, rfl, rfl⟩
  | false, e => ⟨_, e, rfl, rfl⟩
theorem TrB.at {b : Bool} {h h' : Heap} {i a : Addr} {k : Nat} (t : TrB b h i a k) (e : ∀ o, h.get? i = some o → h'.get? i = some o) : TrB b h' i a k := match b, t with
  | true, t => Heap.IsListIter.at t e
  | false, t => Heap.IsTupleIter.at t e
theorem TrB.live {b : Bool} {h : Heap} {i a : Addr} {k : Nat} (t : TrB b h i a k) : ∃ o, h.get? i = some o ∧ ∀ v, o.data ≠ .cell v := by
  cases b with
  | true =>
    obtain ⟨o, e, _, d⟩ := t
    exact ⟨o, e, fun v q => by rw [d] at q; cases q⟩
  | false =>
    obtain ⟨o, e, _, d⟩ := t
    exact ⟨o, e, fun v q => by rw [d] at q; cases q⟩
section
variable {X : Cx} {pins : List (Addr × Obj)} {σ : L2.St} {H : Hp} {s : Shared} {a : Addr} {xs ys : List V}
theorem seqB (b : Bool) (I : Inv X pins σ H s) (h : SqB b X.K H a xs) : ∃ its : List Value, Vals xs its ∧ ArB b s.heap a its.toArray ∧ a < s.heap.objs.size := by
  cases b with
  | true =>
    obtain ⟨its, r, p, _⟩ := I.list h
    exact ⟨its, r, p.isList, p.lt⟩
  | false =>
    obtain ⟨its, r, p, _⟩ := I.tuple h
    obtain ⟨o, e, _⟩ := id p
    exact ⟨its, r, p, Heap.lt_size e⟩
theorem seqB_inj {b : Bool} (I : Inv X pins σ H s) (h : SqB b X.K H a xs) (h' : SqB b X.K H a ys) : xs = ys := by
  cases b with
  | true => exact I.list_inj h h'
  | false => exact I.tuple_inj h h'
end
def ItzB (K : PySem.W.Frag) (p q : Bool) (a b : Addr) : It :=
  ⟨fun i H => ∃ (xs ys : List V) (x y : V), SqB p K H a xs ∧ SqB q K H b ys ∧ xs[i]? = some x ∧ ys[i]? = some y,
    fun i H v H' => ∃ T x y, v = .ref T ∧ H T = none ∧ H' = upd H T (.tup [x, y]) ∧ (∀ xs, SqB p K H a xs → xs[i]? = some x) ∧ ∀ ys, SqB q K H b ys → ys[i]? = some y,
    fun i H => ∃ xs ys : List V, SqB p K H a xs ∧ SqB q K H b ys ∧ i = min xs.length ys.length⟩
theorem turn_zipB {P : Program} {w : World} {K : PySem.W.Frag} {elts : List Expr} {kk : Nat} {tpos : Pos} {p q : Bool} {a b z TI TO i1 i2 : Addr} (D : ZipSep2 z TI TO i1 i2 [i1, a] [i2, b]) (n1 : a ≠ i1) (n2 : b ≠ i2) :
    Turn P w K (.Tuple elts kk tpos) (ItzB K p q a b) [z, TI, TO, i1, i2] z (fun i h => IsZip h z TI TO .none ∧ IsTupOf2 h TI (.ref i1) (.ref i2) ∧ (∃ x y, IsTupOf2 h TO x y) ∧ TrB p h i1 a i ∧ TrB q h i2 b i) where
  mem := by simp
  obj := fun i h st c hc => by
    obtain ⟨hz, hTI, ⟨x, y, hTO⟩, t1, t2⟩ := st
    have e' : c = z ∨ c = TI ∨ c = TO ∨ c = i1 ∨ c = i2 := by simpa using hc
    rcases e' with q | q | q | q | q
    · rw [q]; exact ⟨_, hz, fun v q => nomatch q⟩
    · rw [q]; exact ⟨_, hTI, fun v q => nomatch q⟩
    · rw [q]; exact ⟨_, hTO, fun v q => nomatch q⟩
    · rw [q]; exact t1.live
    · rw [q]; exact t2.live
  keep := fun i h h' st k => by
    obtain ⟨hz, hTI, ⟨x, y, hTO⟩, h1, h2⟩ := st
    exact ⟨k z (by simp) _ hz, k TI (by simp) _ hTI, ⟨x, y, k TO (by simp) _ hTO⟩, h1.at fun o q => k i1 (by simp) o q, h2.at fun o q => k i2 (by simp) o q⟩
  item := by
    intro X hP hw hK hc i pins s σ H E I hf st hg
    subst hP hw hK
    obtain ⟨hz, hTI, ⟨x0, y0, hTO⟩, h1, h2⟩ := st
    obtain ⟨xs, ys, x, y, hqx, hqy, hx, hy⟩ := hg
    obtain ⟨its, rv, p1, _⟩ := seqB p I hqx
    obtain ⟨its2, rv2, p2, _⟩ := seqB q I hqy
    have hh : X.A.in1.handled = none := I.ok.hd hc
    have D1 := drawsB (pr := X.prog) (wd := X.w) hh p i1 a n1 its.toArray
    have D2 := drawsB (pr := X.prog) (wd := X.w) hh q i2 b n2 its2.toArray
    have hzl : z < s.heap.objs.size := Heap.lt_size hz
    have l1 : i < xs.length := (List.getElem?_eq_some_iff.mp hx).1
    have l2 : i < ys.length := (List.getElem?_eq_some_iff.mp hy).1
    have r1 := rv.length
    have r2 := rv2.length
    refine wpAny_pyNext_zipD2_item (i := i) D D1 D2 hz hTI hTO ⟨h1, p1⟩ ⟨h2, p2⟩ (by simp; omega) (by simp; omega) fun u u2 h' tk pu pu2 z' TO' s1' s2' hT hsz hk => ?_
    have pu' : its[i]? = some u := by simpa using pu
    have pu2' : its2[i]? = some u2 := by simpa using pu2
    obtain ⟨u', hu, ru⟩ := rv.get hx
    obtain ⟨u2', hu2, ru2⟩ := rv2.get hy
    rw [pu'] at hu
    rw [pu2'] at hu2
    cases hu
    cases hu2
    refine ⟨_, rfl, wpAny_letOwnedTupleGo_zip (s := { s with heap := h', toks := tk }) z' fun h'' z'' sb => ?_⟩
    have hT2 : h''.get? s.heap.objs.size = some { cls := .type "tuple", data := .seq #[u, u2] } := (sb.2 _ (Nat.ne_of_gt hzl)).trans hT
    have new : ObjOk X.prog X.w (upd H s.heap.objs.size (.tup [x, y])) h'' s.heap.objs.size (.tup [x, y]) :=
      ⟨by show 2 ≤ sizeLine; decide, [u, u2], .cons ru (.cons ru2 .nil), ⟨_, hT2, rfl, _, rfl⟩⟩
    have I1 : Inv X pins σ (upd H s.heap.objs.size (.tup [x, y])) { s with heap := h'', toks := tk } :=
      I.turnedNew (t' := tk) (ch := [z, TI, TO, i1, i2]) (fun c o hb q => (sb.2 c (fun q' => hb (by simp [q']))).trans (hk c o (fun q' => hb (by simp [q'])) (fun q' => hb (by simp [q'])) (fun q' => hb (by simp [q'])) (fun q' => hb (by simp [q'])) q)) hf (Nat.le_refl _) new
    refine ⟨.ref s.heap.objs.size, _, I1, rfl, ⟨_, x, y, rfl, I.hok.fresh (Nat.le_refl _), rfl, fun l hl => by rw [seqB_inj I hl hqx]; exact hx, fun l hl => by rw [seqB_inj I hl hqy]; exact hy⟩, ⟨z'', ?_, ⟨u, u2, ?_⟩, ?_, ?_⟩, fun c hcm => ?_⟩
    · exact (sb.2 _ D.TIz).trans (hk _ _ D.TIz D.TITO D.TIi1 D.TIi2 hTI)
    · exact (sb.2 _ D.TOz).trans TO'
    · exact s1'.1.at fun o q => (sb.2 _ (Ne.symm D.zi1)).trans q
    · exact s2'.1.at fun o q => (sb.2 _ (Ne.symm D.zi2)).trans q
    · have hlt : c < s.heap.objs.size := by
        have e' : c = z ∨ c = TI ∨ c = TO ∨ c = i1 ∨ c = i2 := by simpa using hcm
        rcases e' with q | q | q | q | q
        · rw [q]; exact hzl
        · rw [q]; exact Heap.lt_size hTI
        · rw [q]; exact Heap.lt_size hTO
        · rw [q]; obtain ⟨_, e1, _⟩ := h1.live; exact Heap.lt_size e1
        · rw [q]; obtain ⟨_, e2, _⟩ := h2.live; exact Heap.lt_size e2
      rw [upd_ne (Nat.ne_of_lt hlt)]
      exact (hf c hcm).1
  done := by
    intro X hP hw hK hc i pins s σ H E I hf st hg
    subst hP hw hK
    obtain ⟨hz, hTI, ⟨x0, y0, hTO⟩, h1, h2⟩ := st
    obtain ⟨xs, ys, hqx, hqy, hend⟩ := hg
    obtain ⟨its, rv, p1, _⟩ := seqB p I hqx
    obtain ⟨its2, rv2, p2, _⟩ := seqB q I hqy
    have hh : X.A.in1.handled = none := I.ok.hd hc
    have D1 := drawsB (pr := X.prog) (wd := X.w) hh p i1 a n1 its.toArray
    have D2 := drawsB (pr := X.prog) (wd := X.w) hh q i2 b n2 its2.toArray
    have r1 := rv.length
    have r2 := rv2.length
    refine wpAny_pyNext_zipD2_end (i := i) D D1 D2 hz hTI hTO ⟨h1, p1⟩ ⟨h2, p2⟩ (by simp; omega) (by simp; omega) (by simp; omega) fun h' tk hk => ⟨rfl, I.turnedL (t' := tk) (ch := [z, TI, TO, i1, i2]) (fun c o hb q =>
      hk c o (fun q' => hb (by simp [q'])) (fun q' => hb (by simp [q'])) (fun q' => hb (by simp [q'])) (fun q' => hb (by simp [q'])) q) hf⟩
  self := fun A i s Q E st h => wpAny_pyIter_zip st.1 h
theorem sep2 {a b : Nat} {n : Nat} (la : a < n) (lb : b < n) : ZipSep2 (n + 4) (n + 2) (n + 3) n (n + 1) [n, a] [n + 1, b] := by
  constructor <;> (simp only [List.mem_cons, List.not_mem_nil, or_false, not_or, ne_eq]) <;> (try trivial) <;> (repeat' apply And.intro) <;> (try trivial) <;> (first | exact Or.inl trivial | exact fun z : (_ : Nat) = _ => by omega)
def iZipB (K : PySem.W.Frag) (ta : TA) : TI := fun σ H R => ta σ H fun vs H1 => ∃ p q a b xs ys, vs = [.ref a, .ref b] ∧ SqB p K H1 a xs ∧ SqB q K H1 b ys ∧ R (ItzB K p q a b) H1
theorem fresh_in {X : Cx} {pins : List (Addr × Obj)} {σ : L2.St} {H : Hp} {s : Shared} (I : Inv X pins σ H s) {ks : List Nat} : ∀ c, c ∈ ks.map (fun k => s.heap.objs.size + k) → FpOk X pins H c := fun c hc => by
  obtain ⟨k, _, rfl⟩ := List.mem_map.mp hc
  have hle := Nat.le_add_right s.heap.objs.size k
  exact I.fpOk hle (I.hok.fresh hle)
theorem pi_zipB {X : Cx} {e e2 : Expr} {ta : TA} {p pos tpos : Pos} {elts : List Expr} {kk : Nat} (hg : Gl X "zip") (hm : X.mg "zip" = none) (ha : PA X [e, e2] ta)
    (hs : starEach [e, e2] X.env = (false, eval e X.env) :: starEach [e2] X.env := by rfl) (hpl : (backTo pos (starEach [e2] X.env)).any (·.1) = false := by rfl) :
    PI X (.Tuple elts kk tpos) (.Call (.Name "zip" p) [e, e2] [] pos) (iZipB X.K ta) := by
  refine ⟨fun pins s σ H R I h => ?_⟩
  refine Call_ (ld_blt I hg hm PyProof.Rows.boot_zip (PyProof.Rows.callWith_type1 (thn (ha.run pos pins s σ H _ I h) fun us s1 ⟨vs, H1, I1, r1, q1⟩ => ?_) hs hpl))
  obtain ⟨u, v, a, b, xs, ys, ex, hqx, hqy, q⟩ := q1
  subst ex
  cases r1 with
  | cons r rr =>
    cases rr with
    | cons r' rr =>
      cases rr
      cases r
      cases r'
      obtain ⟨its, rv, p1, la⟩ := seqB u I1 hqx
      obtain ⟨its2, rv2, p2, lb⟩ := seqB v I1 hqy
      refine zip_begins2 (beginsB u a its.toArray) (beginsB v b its2.toArray) p1 p2 fun h' hz hTI hTO h1 h2 hsz hk => wpAny_pyIter_zip hz ?_
      have I2 : Inv X pins σ H1 { s1 with heap := h' } := I1.kept (t' := s1.toks) hk
      refine ⟨s1.heap.objs.size + 4, [s1.heap.objs.size + 4, s1.heap.objs.size + 2, s1.heap.objs.size + 3, s1.heap.objs.size, s1.heap.objs.size + 1], _, _, H1, rfl, I2, turn_zipB (p := u) (q := v) (a := a) (b := b) (sep2 la lb) (Nat.ne_of_lt la) (Nat.ne_of_lt (Nat.lt_succ_of_lt lb)), ⟨hz, hTI, ⟨_, _, hTO⟩, obB_tr h1, obB_tr h2⟩, fresh_in I1 (ks := [4, 2, 3, 0, 1]), q⟩
/-! ### by value -/
/-- a list or a tuple by value -/
inductive IsZ : D → List D → Bool → Prop
  | w {d : D} {ds : List D} (h : IsW d ds) : IsZ d ds true
  | t {ds : List D} : IsZ (.tup ds) ds false
theorem IsZ.rd {K : PySem.W.Frag} {T : Sto} {H : Hp} {x : D} {ds : List D} {b : Bool} {u : V} (h : IsZ x ds b) (r : Rep K H T u x) : ∃ a xs, u = .ref a ∧ (∀ T' H', Mv T H T' H' → SqB b K H' a xs) ∧ RepL K H T xs ds := by
  cases h with
  | w h => exact h.rd r
  | t => exact tup_stays r
theorem walk_zipB {K : PySem.W.Frag} {p q : Bool} {a b : Addr} {xs ys : List V} {n : Nat} (hn : n = min xs.length ys.length) : Walk (ItzB K p q a b) n (fun H => SqB p K H a xs ∧ SqB q K H b ys) (YPair (fun i => xs[i]?) (fun i => ys[i]?)) := by
  subst hn
  refine ⟨fun i H hi g => ?_, fun H g => ⟨xs, ys, g.1, g.2, rfl⟩, fun i H v H' hi g y => ?_⟩
  · exact ⟨xs, ys, xs[i]'(by omega), ys[i]'(by omega), g.1, g.2, List.getElem?_eq_getElem (by omega), List.getElem?_eq_getElem (by omega)⟩
  · obtain ⟨T, u, w, h1, h2, h3, h4, h5⟩ := y
    exact ⟨T, u, w, h1, h2, h3, h4 xs g.1, h5 ys g.2⟩
section
variable {c : Ctx} {ρ : Rho} {S : Sto}
theorem vi_zipB {ta : TA} {W : List D → Sto → Prop} (h : VA c ta ρ S fun xs S1 => ∃ x y ds es p q, xs = [x, y] ∧ IsZ x ds p ∧ IsZ y es q ∧ W (zipD ds es) S1) : VI c (iZipB c.K ta) ρ S W := fun T σ H I R k =>
  h T σ H I _ fun vs es S1 T1 H1 m1 c1 r1 ⟨x, y, ds, es', p, q, e, hx, hy, g⟩ => by
    subst e
    cases r1 with
    | cons h1 t => cases t with
      | cons h2 t =>
        cases t
        obtain ⟨a, xs, rfl, hq, r⟩ := hx.rd h1
        obtain ⟨b, ys, rfl, hq', r2⟩ := hy.rd h2
        refine ⟨p, q, a, b, xs, ys, rfl, hq _ _ Mv.refl, hq' _ _ Mv.refl, k _ (zipD ds es') S1 T1 H1 m1 c1 ⟨fun H => SqB p c.K H a xs ∧ SqB q c.K H b ys, _, walk_zipB (by rw [zipD_len, r.length, r2.length]), fun T2 H2 m => ⟨hq T2 H2 m, hq' T2 H2 m⟩, fun i d S2 T2 H2 H3 y e m cl yy => ?_⟩ g⟩
        obtain ⟨T, u, w, e1, hT, e2, e3, e4⟩ := yy
        obtain ⟨p, p', e5, e6, e7⟩ := zipD_get e
        subst e1 e2 e7
        obtain ⟨v, e8, q1⟩ := r.get e5
        obtain ⟨v', e9, q2⟩ := r2.get e6
        have e3' : xs[i]? = some u := e3
        have e4' : ys[i]? = some w := e4
        rw [e3'] at e8
        rw [e4'] at e9
        cases e8
        cases e9
        exact ⟨mv_new hT, cl.new hT, .tup (cl.free hT) upd_same (.cons ((q1.mv m).mv (mv_new hT)) (.cons ((q2.mv m).mv (mv_new hT)) .nil))⟩
end
end VS
namespace VS
open PySem L2 C8 PySem.Spec PyProof.Rows
/-! ### x or y, x a list: by its truth -/
theorem ve_orL {c : Ctx} {ρ : Rho} {S : Sto} {F : D → Sto → Prop} {ta tb : TE} (h : VE c ta ρ S fun x S1 => ∃ ds, IsL S1 x ds ∧ (ds ≠ [] → F x S1) ∧ (ds = [] → VE c tb ρ S1 F)) : VE c (tOrT c.K ta tb) ρ S F := fun T σ H I Q k =>
  h T σ H I _ fun vx x S1 T1 H1 m1 c1 r1 ⟨ds, hx, h1, h2⟩ => by
    obtain ⟨a, xs, rfl, s, r⟩ := hx.rd c1 r1
    refine ⟨!xs.isEmpty, .inl ⟨xs, s, rfl⟩, ?_⟩
    cases ds with
    | nil =>
      cases r
      exact iteF (h2 rfl T1 σ H1 (I.mv m1 c1) Q fun v d S3 T3 H3 m3 => k v d S3 T3 H3 (m1.trans m3))
    | cons d ds =>
      cases r
      exact iteT (k _ _ S1 T1 H1 m1 c1 r1 (h1 nofun))
end VS
open PySem L2 C8 PySem.Spec PyProof.Rows VS
local macro_rules | `(tactic| walk_at "g1") => `(tactic| with_reducible first
  | refine vx_seq ?_ | refine vx_next ?_ | refine vx_asg ?_ | refine vx_drop ?_ | refine vx_ret ?_ | refine vx_retN ?_ | refine vx_if ?_ | refine vx_break ?_ | refine vx_cont ?_ | refine vx_fld ?_
  | refine ve_int ?_ | refine ve_bl ?_ | refine ve_str ?_ | refine ve_non ?_ | refine ve_ty ?_ | refine ve_op ?_ | refine ve_un ?_ | refine ve_cb ?_ | refine ve_tup ?_
  | refine ve_if ?_ | refine ve_andV ?_ | refine ve_orV ?_ | refine ve_notV ?_ | refine ve_chain ?_ | refine ve_m1 ?_ | refine ve_m0 ?_ | refine ve_bm ?_ | refine ve_bm0 ?_ | refine ve_sl ?_ | refine ve_fld ?_
  | refine va_nil ?_ | refine va_cons ?_ | refine vo_none ?_ | refine vo_some ?_
  | refine vt_test ?_ | refine vt_B ?_ | refine vt_and ?_ | refine vt_or ?_ | refine vt_not ?_ | refine vt_yes ?_
  | refine vg_name ?_ | refine vg_subL ?_ | refine ex_ref ?_ | refine vgw_name (by simp) ?_ | refine vgs_nil ?_ | refine vgs_cons ?_ | refine vgws_nil ?_ | refine vgws_cons ?_
  | refine rv_II ?_ | refine rv_IB ?_ | refine rv_isNo ?_ | refine rv_notNo ?_ | refine rv_inS ?_ | refine rv_notInS ?_ | refine rv_ltS ?_ | refine rv_leS ?_
  | refine rc_max2 ?_ | refine rc_min2 ?_ | refine rc_int ?_ | refine rc_intB ?_ | refine rc_ord ?_ | refine rc_abs ?_ | refine ru_I ?_
  | refine ex_bl ?_ | refine ex_str ?_ | refine ex_int ?_)
local macro_rules | `(tactic| walk_at "g2") => `(tactic| first
  | ((with_reducible apply ve_var); · rfl)
  | ((with_reducible refine brT ?_ ?_); · rfl)
  | ((with_reducible refine brF ?_ ?_); · rfl)
  | ((with_reducible apply rv_eq); · rfl)
  | ((with_reducible apply rv_ne); · rfl)
  | ((with_reducible refine rc_lenS ?_ ?_); (· first | assumption | (have q := szl; omega)))
  | ((with_reducible refine rv_IC ?_ ?_); · (first | decide | (show (0 : Int) < _; omega) | (refine cpow ?_ ?_ ?_ <;> first | decide | omega) | (refine cmulW ?_ ?_ <;> first | omega | decide) | (refine cdivW ?_ ?_ <;> first | omega | decide)))
  | ((with_reducible apply rv_ixL); (· first | exact .c (by assumption) | exact .c put_same | exact .v | exact .r); (· rfl))
  | ((with_reducible apply rc_strI64); (· omega))
  | ((with_reducible refine rs_str ?_ ?_); (· first | assumption | (have q := szl; omega)))
  | ((with_reducible refine rv_addS ?_ ?_); (· first | assumption | (have q := szl; omega)))
  | ((with_reducible apply rc_isi); (· first | assumption | constructor | exact .cl (by assumption)); (· first | assumption | rfl))
  | (with_reducible refine ve_f (XOk.none (E := noE)) ?_)
  | (with_reducible refine vg_tup rfl ?_) | (with_reducible refine vgw_tup rfl ?_))
local macro_rules | `(tactic| walk_at "go") => `(tactic| repeat (first | walk_at "g1" | walk_at "g2"))
local macro_rules | `(tactic| walk_at "g7") => `(tactic| first
  | ((with_reducible refine ve_lst ?_); refine va_cons ?_)
  | with_reducible refine ve_lst ?_)
local macro_rules | `(tactic| walk_at "g3") => `(tactic| first
  | with_reducible refine ve_disp ?_
  | with_reducible refine ve_dnew ?_
  | with_reducible refine vps_cons ?_
  | with_reducible refine vps_nil ?_
  | with_reducible refine ex_keyS ?_
  | with_reducible refine ex_keyI ?_
  | ((with_reducible refine rc_listS ?_ ?_); (· first | assumption | (have q := szl; omega)))
  | ((with_reducible refine ⟨?_, ?_, ?_⟩); (· (show _ ≤ 15; simp; done)); (· (show List.Nodup _; simp; done)))
  | ((with_reducible refine ⟨?_, ?_⟩); (· (show _ ≤ sizeLine; have q := szl; simp only [List.length_append, List.length_map, List.length_cons, List.length_nil]; omega))))
local macro_rules | `(tactic| walk_at "g5") => `(tactic| first
  | ((with_reducible apply rv_cat); (· first | exact .v | exact .c put_same | exact .c (by assumption)); (· first | exact .v | exact .c put_same | exact .c (by assumption)); (· (have q := szl; simp only [List.length_append, List.length_map, List.length_cons, List.length_nil]; omega))))
local macro_rules | `(tactic| walk_at "gv") => `(tactic| repeat (first | walk_at "g1" | walk_at "g2" | walk_at "g3" | walk_at "g7" | walk_at "g5"))
local macro_rules | `(tactic| walk_at "ii") => `(tactic| first | exact .v | exact .c put_same | exact .c (by assumption))
local macro_rules | `(tactic| walk_at "g4") => `(tactic| first
  | ((with_reducible apply ex_ins); (· walk_at "ii"); (· rfl))
  | ((with_reducible apply ex_fldI); (· walk_at "ii"); (· assumption); (· assumption); (· rfl))
  | ((with_reducible apply ex_cell); (· first | exact put_same | assumption))
  | ((with_reducible apply ex_self); (· first | exact put_same | assumption); (· assumption); (· assumption); (· decide))
  | with_reducible refine ve_cls ?_
  | with_reducible refine ve_orL ?_
  | with_reducible refine vx_par ?_
  | with_reducible refine ex_two ?_
  | with_reducible refine ve_mt0 (XOk.none (E := noE)) ?_
  | ((with_reducible apply rv_ixT); (· first | rfl | exact atI_zero))
  | with_reducible refine ve_mk0 (XOk.none (E := noE)) ?_
  | with_reducible refine ve_mk0 (XOk.same fun _ _ _ h => h) ?_
  | with_reducible refine ve_f (XOk.same fun _ _ _ h => h) ?_
  | with_reducible refine ve_mt0 (XOk.same fun _ _ _ h => h) ?_
  | with_reducible refine vx_raise ?_
  | with_reducible refine vx_raise2 ?_
  | with_reducible refine ve_xf ?_
  | ((with_reducible apply ex_xf); (· rfl))
  | with_reducible refine vx_tryD fun E' => ?_
  | with_reducible refine rv_eqET ?_
  | with_reducible refine rv_neET ?_
  | ((with_reducible apply rv_eqEL); (· first | exact .v | exact .r | exact .c put_same | exact .c (by assumption)))
  | ((with_reducible apply rv_neEL); (· first | exact .v | exact .r | exact .c put_same | exact .c (by assumption)))
  | with_reducible refine rs_tupG ?_
  | ((with_reducible refine rv_catA ?_ ?_); (· (have q := szl; simp only [List.length_append, List.length_map, List.length_cons, List.length_nil]; omega)))
  | ((with_reducible apply rc_tupleL); (· first | exact .v | exact .r | exact .c put_same | exact .c (by assumption)))
  | ((with_reducible apply rc_lenQ); (· first | exact .t | exact .l .v | exact .l .r | exact .l (.c put_same) | exact .l (.c (by assumption)))))
local macro_rules | `(tactic| walk_at "g8") => `(tactic| first
  | ((with_reducible apply rs_list); (· first | exact .v | exact .r | exact .c put_same | exact .c (by assumption)))
  | ((with_reducible apply rc_list); (· first | exact .t | exact .l .v | exact .l .r | exact .l (.c put_same) | exact .l (.c (by assumption)))))
local macro_rules | `(tactic| walk_at "gr") => `(tactic| repeat (first | walk_at "g1" | walk_at "gp" | walk_at "g2" | walk_at "g4" | walk_at "g3"))
local macro_rules | `(tactic| walk_at "ga") => `(tactic| repeat (first | walk_at "g1" | walk_at "gp" | walk_at "g2" | walk_at "g4" | walk_at "g8" | walk_at "g3" | walk_at "g7" | walk_at "g5"))
local macro_rules | `(tactic| walk_at "gn") => `(tactic| repeat (first | walk_at "g1" | walk_at "gp" | walk_at "g2" | walk_at "g4" | walk_at "g8" | walk_at "g3" | walk_at "g7"))
local macro_rules | `(tactic| walk_at "gl") => `(tactic| repeat (first | walk_at "g1" | walk_at "gp" | walk_at "g2" | walk_at "g4" | walk_at "g8" | walk_at "g3" | walk_at "g5"))
local macro_rules | `(tactic| walk_at "gp") => `(tactic| ((with_reducible apply ve_kd); · assumption))
namespace LW
open PySem L2 C8 PySem.Spec PyProof.Rows VS
def top (i : Nat) : Stmt := PySem.Challenge.pw_boxinbox_k91_whole_what_goes_on.main.body.getD i (.Pass ⟨0, 0, 0, 0⟩)
def inClass (st : Stmt) (j : Nat) : Stmt := match st with
  | .ClassDef (body := b) .. => b.getD j (.Pass ⟨0, 0, 0, 0⟩)
  | _ => .Pass ⟨0, 0, 0, 0⟩
abbrev s_is_whole : Stmt := top 20
abbrev n_is_whole : List Str := ["thing", "low", "high"]
abbrev a_is_whole : List Str := ["thing", "low", "high"]
theorem sc_is_whole : FnScope n_is_whole a_is_whole (defScope s_is_whole) := ⟨rfl, rfl, rfl, by decide +kernel, rfl, by decide +kernel, by decide +kernel⟩
abbrev s_is_name : Stmt := top 21
abbrev n_is_name : List Str := ["thing", "sign"]
abbrev a_is_name : List Str := ["thing"]
theorem sc_is_name : FnScope n_is_name a_is_name (defScope s_is_name) := ⟨rfl, rfl, rfl, by decide +kernel, rfl, by decide +kernel, by decide +kernel⟩
abbrev s_is_order : Stmt := top 22
abbrev n_is_order : List Str := ["thing", "number"]
abbrev a_is_order : List Str := ["thing"]
theorem sc_is_order : FnScope n_is_order a_is_order (defScope s_is_order) := ⟨rfl, rfl, rfl, by decide +kernel, rfl, by decide +kernel, by decide +kernel⟩
abbrev s_Sides___init__ : Stmt := inClass (top 25) 0
abbrev n_Sides___init__ : List Str := ["self", "one", "other", "third", "side"]
abbrev a_Sides___init__ : List Str := ["self", "one", "other", "third"]
theorem sc_Sides___init__ : FnScope n_Sides___init__ a_Sides___init__ (defScope s_Sides___init__) := ⟨rfl, rfl, rfl, by decide +kernel, rfl, by decide +kernel, by decide +kernel⟩
abbrev s_Sides_told : Stmt := inClass (top 25) 1
abbrev n_Sides_told : List Str := ["self"]
abbrev a_Sides_told : List Str := ["self"]
theorem sc_Sides_told : FnScope n_Sides_told a_Sides_told (defScope s_Sides_told) := ⟨rfl, rfl, rfl, by decide +kernel, rfl, by decide +kernel, by decide +kernel⟩
abbrev s_Sides_ranked : Stmt := inClass (top 25) 2
abbrev n_Sides_ranked : List Str := ["self"]
abbrev a_Sides_ranked : List Str := ["self"]
theorem sc_Sides_ranked : FnScope n_Sides_ranked a_Sides_ranked (defScope s_Sides_ranked) := ⟨rfl, rfl, rfl, by decide +kernel, rfl, by decide +kernel, by decide +kernel⟩
abbrev s_need_spare : Stmt := top 28
abbrev n_need_spare : List Str := ["spare"]
abbrev a_need_spare : List Str := ["spare"]
theorem sc_need_spare : FnScope n_need_spare a_need_spare (defScope s_need_spare) := ⟨rfl, rfl, rfl, by decide +kernel, rfl, by decide +kernel, by decide +kernel⟩
abbrev s_Sides_turned : Stmt := inClass (top 25) 7
abbrev n_Sides_turned : List Str := ["self", "order", "one", "other", "third", "number"]
abbrev a_Sides_turned : List Str := ["self", "order"]
theorem sc_Sides_turned : FnScope n_Sides_turned a_Sides_turned (defScope s_Sides_turned) := ⟨rfl, rfl, rfl, by decide +kernel, rfl, by decide +kernel, by decide +kernel⟩
abbrev s_need_both : Stmt := top 29
abbrev n_need_both : List Str := ["one", "room", "spare", "thing"]
abbrev a_need_both : List Str := ["one", "room", "spare"]
theorem sc_need_both : FnScope n_need_both a_need_both (defScope s_need_both) := ⟨rfl, rfl, rfl, by decide +kernel, rfl, by decide +kernel, by decide +kernel⟩
abbrev s_goes_by : Stmt := top 30
abbrev n_goes_by : List Str := ["one", "room", "order", "spare", "side", "most"]
abbrev a_goes_by : List Str := ["one", "room", "order", "spare"]
theorem sc_goes_by : FnScope n_goes_by a_goes_by (defScope s_goes_by) := ⟨rfl, rfl, rfl, by decide +kernel, rfl, by decide +kernel, by decide +kernel⟩
abbrev s_goes_in : Stmt := top 31
abbrev n_goes_in : List Str := ["one", "room", "spare", "order", "rank", "side"]
abbrev a_goes_in : List Str := ["one", "room", "spare"]
theorem sc_goes_in : FnScope n_goes_in a_goes_in (defScope s_goes_in) := ⟨rfl, rfl, rfl, by decide +kernel, rfl, by decide +kernel, by decide +kernel⟩
abbrev s_are_labels : Stmt := top 46
abbrev n_are_labels : List Str := ["thing", "word"]
abbrev a_are_labels : List Str := ["thing"]
theorem sc_are_labels : FnScope n_are_labels a_are_labels (defScope s_are_labels) := ⟨rfl, rfl, rfl, by decide +kernel, rfl, by decide +kernel, by decide +kernel⟩
abbrev s_room_in : Stmt := top 47
abbrev n_room_in : List Str := ["sides", "wall", "one", "other", "third", "side"]
abbrev a_room_in : List Str := ["sides", "wall"]
theorem sc_room_in : FnScope n_room_in a_room_in (defScope s_room_in) := ⟨rfl, rfl, rfl, by decide +kernel, rfl, by decide +kernel, by decide +kernel⟩
abbrev s_Parcel___init__ : Stmt := inClass (top 48) 0
abbrev n_Parcel___init__ : List Str := ["self", "name", "sides", "wall", "weight", "bears", "labels", "number", "word"]
abbrev a_Parcel___init__ : List Str := ["self", "name", "sides", "wall", "weight", "bears", "labels"]
theorem sc_Parcel___init__ : FnScope n_Parcel___init__ a_Parcel___init__ (defScope s_Parcel___init__) := ⟨rfl, rfl, rfl, by decide +kernel, rfl, by decide +kernel, by decide +kernel⟩
abbrev s_Parcel_name : Stmt := inClass (top 48) 1
abbrev n_Parcel_name : List Str := ["self"]
abbrev a_Parcel_name : List Str := ["self"]
theorem sc_Parcel_name : FnScope n_Parcel_name a_Parcel_name (defScope s_Parcel_name) := ⟨rfl, rfl, rfl, by decide +kernel, rfl, by decide +kernel, by decide +kernel⟩
abbrev s_Parcel_sides : Stmt := inClass (top 48) 2
abbrev n_Parcel_sides : List Str := ["self"]
abbrev a_Parcel_sides : List Str := ["self"]
theorem sc_Parcel_sides : FnScope n_Parcel_sides a_Parcel_sides (defScope s_Parcel_sides) := ⟨rfl, rfl, rfl, by decide +kernel, rfl, by decide +kernel, by decide +kernel⟩
abbrev s_Parcel_labels : Stmt := inClass (top 48) 6
abbrev n_Parcel_labels : List Str := ["self"]
abbrev a_Parcel_labels : List Str := ["self"]
theorem sc_Parcel_labels : FnScope n_Parcel_labels a_Parcel_labels (defScope s_Parcel_labels) := ⟨rfl, rfl, rfl, by decide +kernel, rfl, by decide +kernel, by decide +kernel⟩
abbrev s_Parcel_weight : Stmt := inClass (top 48) 4
abbrev n_Parcel_weight : List Str := ["self"]
abbrev a_Parcel_weight : List Str := ["self"]
theorem sc_Parcel_weight : FnScope n_Parcel_weight a_Parcel_weight (defScope s_Parcel_weight) := ⟨rfl, rfl, rfl, by decide +kernel, rfl, by decide +kernel, by decide +kernel⟩
abbrev s_Parcel_room : Stmt := inClass (top 48) 7
abbrev n_Parcel_room : List Str := ["self"]
abbrev a_Parcel_room : List Str := ["self"]
theorem sc_Parcel_room : FnScope n_Parcel_room a_Parcel_room (defScope s_Parcel_room) := ⟨rfl, rfl, rfl, by decide +kernel, rfl, by decide +kernel, by decide +kernel⟩
abbrev s_Parcel_goes_in : Stmt := inClass (top 48) 13
abbrev n_Parcel_goes_in : List Str := ["self", "other", "spare", "parcel"]
abbrev a_Parcel_goes_in : List Str := ["self", "other", "spare"]
theorem sc_Parcel_goes_in : FnScope n_Parcel_goes_in a_Parcel_goes_in (defScope s_Parcel_goes_in) := ⟨rfl, rfl, rfl, by decide +kernel, rfl, by decide +kernel, by decide +kernel⟩
abbrev s_Heap___init__ : Stmt := inClass (top 51) 0
abbrev n_Heap___init__ : List Str := ["self"]
abbrev a_Heap___init__ : List Str := ["self"]
theorem sc_Heap___init__ : FnScope n_Heap___init__ a_Heap___init__ (defScope s_Heap___init__) := ⟨rfl, rfl, rfl, by decide +kernel, rfl, by decide +kernel, by decide +kernel⟩
abbrev s_Heap_names : Stmt := inClass (top 51) 5
abbrev n_Heap_names : List Str := ["self", "parcel"]
abbrev a_Heap_names : List Str := ["self"]
theorem sc_Heap_names : FnScope n_Heap_names a_Heap_names (defScope s_Heap_names) := ⟨rfl, rfl, rfl, by decide +kernel, rfl, by decide +kernel, by decide +kernel⟩
abbrev s_Heap_place_of : Stmt := inClass (top 51) 1
abbrev n_Heap_place_of : List Str := ["self", "name", "place", "parcel"]
abbrev a_Heap_place_of : List Str := ["self", "name"]
theorem sc_Heap_place_of : FnScope n_Heap_place_of a_Heap_place_of (defScope s_Heap_place_of) := ⟨rfl, rfl, rfl, by decide +kernel, rfl, by decide +kernel, by decide +kernel⟩
abbrev s_Heap_put : Stmt := inClass (top 51) 2
abbrev n_Heap_put : List Str := ["self", "parcel", "ahead", "place"]
abbrev a_Heap_put : List Str := ["self", "parcel", "ahead"]
theorem sc_Heap_put : FnScope n_Heap_put a_Heap_put (defScope s_Heap_put) := ⟨rfl, rfl, rfl, by decide +kernel, rfl, by decide +kernel, by decide +kernel⟩
abbrev s_Heap_out : Stmt := inClass (top 51) 3
abbrev n_Heap_out : List Str := ["self", "name"]
abbrev a_Heap_out : List Str := ["self", "name"]
theorem sc_Heap_out : FnScope n_Heap_out a_Heap_out (defScope s_Heap_out) := ⟨rfl, rfl, rfl, by decide +kernel, rfl, by decide +kernel, by decide +kernel⟩
abbrev s_Heap_parcel : Stmt := inClass (top 51) 4
abbrev n_Heap_parcel : List Str := ["self", "name"]
abbrev a_Heap_parcel : List Str := ["self", "name"]
theorem sc_Heap_parcel : FnScope n_Heap_parcel a_Heap_parcel (defScope s_Heap_parcel) := ⟨rfl, rfl, rfl, by decide +kernel, rfl, by decide +kernel, by decide +kernel⟩
abbrev s_Heap_parcels : Stmt := inClass (top 51) 6
abbrev n_Heap_parcels : List Str := ["self"]
abbrev a_Heap_parcels : List Str := ["self"]
theorem sc_Heap_parcels : FnScope n_Heap_parcels a_Heap_parcels (defScope s_Heap_parcels) := ⟨rfl, rfl, rfl, by decide +kernel, rfl, by decide +kernel, by decide +kernel⟩
abbrev s_shape_of : Stmt := top 39
abbrev n_shape_of : List Str := ["parcel", "room"]
abbrev a_shape_of : List Str := ["parcel"]
theorem sc_shape_of : FnScope n_shape_of a_shape_of (defScope s_shape_of) := ⟨rfl, rfl, rfl, by decide +kernel, rfl, by decide +kernel, by decide +kernel⟩
abbrev s_shape_goes : Stmt := top 40
abbrev n_shape_goes : List Str := ["sides", "room", "spare", "side", "most"]
abbrev a_shape_goes : List Str := ["sides", "room", "spare"]
theorem sc_shape_goes : FnScope n_shape_goes a_shape_goes (defScope s_shape_goes) := ⟨rfl, rfl, rfl, by decide +kernel, rfl, by decide +kernel, by decide +kernel⟩
abbrev s_inside : Stmt := top 41
abbrev n_inside : List Str := ["heap", "spare", "rows", "parcel", "sides", "room", "found", "name", "row"]
abbrev a_inside : List Str := ["heap", "spare"]
theorem sc_inside : FnScope n_inside a_inside (defScope s_inside) := ⟨rfl, rfl, rfl, by decide +kernel, rfl, by decide +kernel, by decide +kernel⟩
abbrev s_goes : Stmt := top 34
abbrev n_goes : List Str := ["one", "other", "spare"]
abbrev a_goes : List Str := ["one", "other", "spare"]
theorem sc_goes : FnScope n_goes a_goes (defScope s_goes) := ⟨rfl, rfl, rfl, by decide +kernel, rfl, by decide +kernel, by decide +kernel⟩
abbrev s_are_names : Stmt := top 35
abbrev n_are_names : List Str := ["heap", "thing", "least", "held", "name"]
abbrev a_are_names : List Str := ["heap", "thing", "least"]
theorem sc_are_names : FnScope n_are_names a_are_names (defScope s_are_names) := ⟨rfl, rfl, rfl, by decide +kernel, rfl, by decide +kernel, by decide +kernel⟩
abbrev s_first_apart : Stmt := top 36
abbrev n_first_apart : List Str := ["heap", "names", "spare", "place"]
abbrev a_first_apart : List Str := ["heap", "names", "spare"]
theorem sc_first_apart : FnScope n_first_apart a_first_apart (defScope s_first_apart) := ⟨rfl, rfl, rfl, by decide +kernel, rfl, by decide +kernel, by decide +kernel⟩
abbrev s_Nest___init__ : Stmt := inClass (top 37) 0
abbrev n_Nest___init__ : List Str := ["self", "heap", "names", "spare", "place", "name", "one", "other"]
abbrev a_Nest___init__ : List Str := ["self", "heap", "names", "spare"]
theorem sc_Nest___init__ : FnScope n_Nest___init__ a_Nest___init__ (defScope s_Nest___init__) := ⟨rfl, rfl, rfl, by decide +kernel, rfl, by decide +kernel, by decide +kernel⟩
abbrev s_Nest_names : Stmt := inClass (top 37) 1
abbrev n_Nest_names : List Str := ["self", "parcel"]
abbrev a_Nest_names : List Str := ["self"]
theorem sc_Nest_names : FnScope n_Nest_names a_Nest_names (defScope s_Nest_names) := ⟨rfl, rfl, rfl, by decide +kernel, rfl, by decide +kernel, by decide +kernel⟩
abbrev s_Nest___str__ : Stmt := inClass (top 37) 6
abbrev n_Nest___str__ : List Str := ["self", "parcel"]
abbrev a_Nest___str__ : List Str := ["self"]
theorem sc_Nest___str__ : FnScope n_Nest___str__ a_Nest___str__ (defScope s_Nest___str__) := ⟨rfl, rfl, rfl, by decide +kernel, rfl, by decide +kernel, by decide +kernel⟩
abbrev s_Nest_turns : Stmt := inClass (top 37) 4
abbrev n_Nest_turns : List Str := ["self"]
abbrev a_Nest_turns : List Str := ["self"]
theorem sc_Nest_turns : FnScope n_Nest_turns a_Nest_turns (defScope s_Nest_turns) := ⟨rfl, rfl, rfl, by decide +kernel, rfl, by decide +kernel, by decide +kernel⟩
abbrev s_Nest_outer : Stmt := inClass (top 37) 2
abbrev n_Nest_outer : List Str := ["self"]
abbrev a_Nest_outer : List Str := ["self"]
theorem sc_Nest_outer : FnScope n_Nest_outer a_Nest_outer (defScope s_Nest_outer) := ⟨rfl, rfl, rfl, by decide +kernel, rfl, by decide +kernel, by decide +kernel⟩
abbrev s_Nest___len__ : Stmt := inClass (top 37) 5
abbrev n_Nest___len__ : List Str := ["self"]
abbrev a_Nest___len__ : List Str := ["self"]
theorem sc_Nest___len__ : FnScope n_Nest___len__ a_Nest___len__ (defScope s_Nest___len__) := ⟨rfl, rfl, rfl, by decide +kernel, rfl, by decide +kernel, by decide +kernel⟩
abbrev s_Nest_weight : Stmt := inClass (top 37) 3
abbrev n_Nest_weight : List Str := ["self", "parcel"]
abbrev a_Nest_weight : List Str := ["self"]
theorem sc_Nest_weight : FnScope n_Nest_weight a_Nest_weight (defScope s_Nest_weight) := ⟨rfl, rfl, rfl, by decide +kernel, rfl, by decide +kernel, by decide +kernel⟩
abbrev s_Nest_lies : Stmt := inClass (top 37) 8
abbrev n_Nest_lies : List Str := ["self", "name", "names", "order", "turn", "number"]
abbrev a_Nest_lies : List Str := ["self", "name"]
theorem sc_Nest_lies : FnScope n_Nest_lies a_Nest_lies (defScope s_Nest_lies) := ⟨rfl, rfl, rfl, by decide +kernel, rfl, by decide +kernel, by decide +kernel⟩
abbrev s__law_cell : Stmt := top 53
abbrev n__law_cell : List Str := ["_law_script", "_law_k"]
abbrev a__law_cell : List Str := ["_law_script", "_law_k"]
theorem sc__law_cell : FnScope n__law_cell a__law_cell (defScope s__law_cell) := ⟨rfl, rfl, rfl, by decide +kernel, rfl, by decide +kernel, by decide +kernel⟩
abbrev s__law_purse : Stmt := top 54
abbrev n__law_purse : List Str := ["_law_cell_here"]
abbrev a__law_purse : List Str := ["_law_cell_here"]
theorem sc__law_purse : FnScope n__law_purse a__law_purse (defScope s__law_purse) := ⟨rfl, rfl, rfl, by decide +kernel, rfl, by decide +kernel, by decide +kernel⟩
abbrev s__law_take : Stmt := top 55
abbrev n__law_take : List Str := ["_law_purse_here", "_law_many", "_law_digit", "_law_one", "_law_other"]
abbrev a__law_take : List Str := ["_law_purse_here", "_law_many"]
theorem sc__law_take : FnScope n__law_take a__law_take (defScope s__law_take) := ⟨rfl, rfl, rfl, by decide +kernel, rfl, by decide +kernel, by decide +kernel⟩
abbrev s__law_names : Stmt := top 56
abbrev n__law_names : List Str := ["_law_purse_here", "_law_many", "_law_letters", "_law_way_here", "_law_first", "_law_stem", "_law_words", "_law_found", "_law_at", "_law_k"]
abbrev a__law_names : List Str := ["_law_purse_here", "_law_many"]
theorem sc__law_names : FnScope n__law_names a__law_names (defScope s__law_names) := ⟨rfl, rfl, rfl, by decide +kernel, rfl, by decide +kernel, by decide +kernel⟩
abbrev s__law_tray : Stmt := top 57
abbrev n__law_tray : List Str := ["_law_purse_here", "_law_many", "_law_spare_here", "_law_found", "_law_orders", "_law_name", "_law_way_here", "_law_marks", "_law_shut", "_law_three", "_law_inner", "_law_more", "_law_order", "_law_card", "_law_side", "_law_over", "_law_number"]
abbrev a__law_tray : List Str := ["_law_purse_here", "_law_many", "_law_spare_here"]
theorem sc__law_tray : FnScope n__law_tray a__law_tray (defScope s__law_tray) := ⟨rfl, rfl, rfl, by decide +kernel, rfl, by decide +kernel, by decide +kernel⟩
abbrev s__law_heap : Stmt := top 58
abbrev n__law_heap : List Str := ["_law_tray_here", "_law_heap_here", "_law_name", "_law_a", "_law_b", "_law_c", "_law_shut", "_law_marks", "_law_weight"]
abbrev a__law_heap : List Str := ["_law_tray_here"]
theorem sc__law_heap : FnScope n__law_heap a__law_heap (defScope s__law_heap) := ⟨rfl, rfl, rfl, by decide +kernel, rfl, by decide +kernel, by decide +kernel⟩
abbrev s__law_goes : Stmt := top 59
abbrev n__law_goes : List Str := ["_law_one", "_law_other", "_law_spare_here", "_law_room", "_law_side", "_law_most"]
abbrev a__law_goes : List Str := ["_law_one", "_law_other", "_law_spare_here"]
theorem sc__law_goes : FnScope n__law_goes a__law_goes (defScope s__law_goes) := ⟨rfl, rfl, rfl, by decide +kernel, rfl, by decide +kernel, by decide +kernel⟩
abbrev s__law_outwards : Stmt := top 60
abbrev n__law_outwards : List Str := ["_law_tray_here", "_law_spare_here", "_law_found", "_law_one", "_law_other"]
abbrev a__law_outwards : List Str := ["_law_tray_here", "_law_spare_here"]
theorem sc__law_outwards : FnScope n__law_outwards a__law_outwards (defScope s__law_outwards) := ⟨rfl, rfl, rfl, by decide +kernel, rfl, by decide +kernel, by decide +kernel⟩
abbrev s__law_spare : Stmt := top 61
abbrev n__law_spare : List Str := ["_law_purse_here", "_law_way_here"]
abbrev a__law_spare : List Str := ["_law_purse_here"]
theorem sc__law_spare : FnScope n__law_spare a__law_spare (defScope s__law_spare) := ⟨rfl, rfl, rfl, by decide +kernel, rfl, by decide +kernel, by decide +kernel⟩
abbrev s__law_inside : Stmt := top 62
abbrev n__law_inside : List Str := ["_law_heap_here", "_law_spare_here"]
abbrev a__law_inside : List Str := ["_law_heap_here", "_law_spare_here"]
theorem sc__law_inside : FnScope n__law_inside a__law_inside (defScope s__law_inside) := ⟨rfl, rfl, rfl, by decide +kernel, rfl, by decide +kernel, by decide +kernel⟩
abbrev s__law_goes_on : Stmt := top 63
abbrev n__law_goes_on : List Str := ["_law_told", "_law_name", "_law_other", "_law_third"]
abbrev a__law_goes_on : List Str := ["_law_told"]
theorem sc__law_goes_on : FnScope n__law_goes_on a__law_goes_on (defScope s__law_goes_on) := ⟨rfl, rfl, rfl, by decide +kernel, rfl, by decide +kernel, by decide +kernel⟩
abbrev s__law_way : Stmt := top 64
abbrev n__law_way : List Str := ["_law_purse_here", "_law_outwards_here", "_law_names_here", "_law_found", "_law_k", "_law_further"]
abbrev a__law_way : List Str := ["_law_purse_here", "_law_outwards_here", "_law_names_here"]
theorem sc__law_way : FnScope n__law_way a__law_way (defScope s__law_way) := ⟨rfl, rfl, rfl, by decide +kernel, rfl, by decide +kernel, by decide +kernel⟩
abbrev s__law_lies_right : Stmt := top 65
abbrev n__law_lies_right : List Str := ["_law_nest", "_law_cards", "_law_spare_here", "_law_placed", "_law_name", "_law_lying", "_law_shut", "_law_marks", "_law_weight", "_law_order", "_law_three", "_law_inner", "_law_number", "_law_side", "_law_most"]
abbrev a__law_lies_right : List Str := ["_law_nest", "_law_cards", "_law_spare_here"]
theorem sc__law_lies_right : FnScope n__law_lies_right a__law_lies_right (defScope s__law_lies_right) := ⟨rfl, rfl, rfl, by decide +kernel, rfl, by decide +kernel, by decide +kernel⟩
abbrev s__law_stands : Stmt := top 66
abbrev n__law_stands : List Str := ["_law_nest", "_law_cards", "_law_names_here", "_law_outer", "_law_card"]
abbrev a__law_stands : List Str := ["_law_nest", "_law_cards"]
theorem sc__law_stands : FnScope n__law_stands a__law_stands (defScope s__law_stands) := ⟨rfl, rfl, rfl, by decide +kernel, rfl, by decide +kernel, by decide +kernel⟩
abbrev s__law_refused : Stmt := top 67
abbrev n__law_refused : List Str := ["_law_heap_here", "_law_names_here", "_law_spare_here", "e"]
abbrev a__law_refused : List Str := ["_law_heap_here", "_law_names_here", "_law_spare_here"]
theorem sc__law_refused : FnScope n__law_refused a__law_refused (defScope s__law_refused) := ⟨rfl, rfl, rfl, by decide +kernel, rfl, by decide +kernel, by decide +kernel⟩
abbrev s__law_way_right : Stmt := top 68
abbrev n__law_way_right : List Str := ["_law_heap_here", "_law_way_here", "_law_cards", "_law_spare_here", "_law_purse_here", "_law_nest", "_law_kept", "_law_less", "_law_found", "_law_doubled", "_law_card"]
abbrev a__law_way_right : List Str := ["_law_heap_here", "_law_way_here", "_law_cards", "_law_spare_here", "_law_purse_here"]
theorem sc__law_way_right : FnScope n__law_way_right a__law_way_right (defScope s__law_way_right) := ⟨rfl, rfl, rfl, by decide +kernel, rfl, by decide +kernel, by decide +kernel⟩
abbrev s_law : Stmt := top 69
abbrev n_law : List Str := ["_law_script", "_law_k", "_law_purse_here", "_law_spare_here", "_law_many", "_law_tray_here", "_law_heap_here", "_law_due", "_law_turn", "_law_told", "_law_way_here", "_law_cards", "_law_name", "_law_card"]
abbrev a_law : List Str := ["_law_script"]
theorem sc_law : FnScope n_law a_law (defScope s_law) := ⟨rfl, rfl, rfl, by decide +kernel, rfl, by decide +kernel, by decide +kernel⟩
abbrev s_NoNumber___init__ : Stmt := inClass (top 5) 0
abbrev n_NoNumber___init__ : List Str := ["self", "found"]
abbrev a_NoNumber___init__ : List Str := ["self", "found"]
theorem sc_NoNumber___init__ : FnScope n_NoNumber___init__ a_NoNumber___init__ (defScope s_NoNumber___init__) := ⟨rfl, rfl, rfl, by decide +kernel, rfl, by decide +kernel, by decide +kernel⟩
abbrev s_NoSide___init__ : Stmt := inClass (top 7) 0
abbrev n_NoSide___init__ : List Str := ["self", "found"]
abbrev a_NoSide___init__ : List Str := ["self", "found"]
theorem sc_NoSide___init__ : FnScope n_NoSide___init__ a_NoSide___init__ (defScope s_NoSide___init__) := ⟨rfl, rfl, rfl, by decide +kernel, rfl, by decide +kernel, by decide +kernel⟩
abbrev s_NoSides___init__ : Stmt := inClass (top 8) 0
abbrev n_NoSides___init__ : List Str := ["self", "found"]
abbrev a_NoSides___init__ : List Str := ["self", "found"]
theorem sc_NoSides___init__ : FnScope n_NoSides___init__ a_NoSides___init__ (defScope s_NoSides___init__) := ⟨rfl, rfl, rfl, by decide +kernel, rfl, by decide +kernel, by decide +kernel⟩
abbrev s_NoOrder___init__ : Stmt := inClass (top 9) 0
abbrev n_NoOrder___init__ : List Str := ["self", "found"]
abbrev a_NoOrder___init__ : List Str := ["self", "found"]
theorem sc_NoOrder___init__ : FnScope n_NoOrder___init__ a_NoOrder___init__ (defScope s_NoOrder___init__) := ⟨rfl, rfl, rfl, by decide +kernel, rfl, by decide +kernel, by decide +kernel⟩
abbrev s_NoParcel___init__ : Stmt := inClass (top 11) 0
abbrev n_NoParcel___init__ : List Str := ["self", "found"]
abbrev a_NoParcel___init__ : List Str := ["self", "found"]
theorem sc_NoParcel___init__ : FnScope n_NoParcel___init__ a_NoParcel___init__ (defScope s_NoParcel___init__) := ⟨rfl, rfl, rfl, by decide +kernel, rfl, by decide +kernel, by decide +kernel⟩
abbrev s_NotInHeap___init__ : Stmt := inClass (top 16) 0
abbrev n_NotInHeap___init__ : List Str := ["self", "found"]
abbrev a_NotInHeap___init__ : List Str := ["self", "found"]
theorem sc_NotInHeap___init__ : FnScope n_NotInHeap___init__ a_NotInHeap___init__ (defScope s_NotInHeap___init__) := ⟨rfl, rfl, rfl, by decide +kernel, rfl, by decide +kernel, by decide +kernel⟩
abbrev s_NoNest___init__ : Stmt := inClass (top 14) 0
abbrev n_NoNest___init__ : List Str := ["self", "found"]
abbrev a_NoNest___init__ : List Str := ["self", "found"]
theorem sc_NoNest___init__ : FnScope n_NoNest___init__ a_NoNest___init__ (defScope s_NoNest___init__) := ⟨rfl, rfl, rfl, by decide +kernel, rfl, by decide +kernel, by decide +kernel⟩
abbrev s_Unnested___init__ : Stmt := inClass (top 15) 0
abbrev n_Unnested___init__ : List Str := ["self", "one", "other"]
abbrev a_Unnested___init__ : List Str := ["self", "one", "other"]
theorem sc_Unnested___init__ : FnScope n_Unnested___init__ a_Unnested___init__ (defScope s_Unnested___init__) := ⟨rfl, rfl, rfl, by decide +kernel, rfl, by decide +kernel, by decide +kernel⟩
def perms : List (List Int) := [[0, 1, 2], [0, 2, 1], [1, 0, 2], [1, 2, 0], [2, 0, 1], [2, 1, 0]]
structure Tx (K : PySem.W.Frag) (mg : Str → Option Value) : Prop where
  b_all : mg "all" = none
  b_bool : mg "bool" = none
  b_enumerate : mg "enumerate" = none
  b_int : mg "int" = none
  b_isinstance : mg "isinstance" = none
  b_len : mg "len" = none
  b_list : mg "list" = none
  b_max : mg "max" = none
  b_min : mg "min" = none
  b_range : mg "range" = none
  b_repr : mg "repr" = none
  b_reversed : mg "reversed" = none
  b_set : mg "set" = none
  b_sorted : mg "sorted" = none
  b_str : mg "str" = none
  b_sum : mg "sum" = none
  b_tuple : mg "tuple" = none
  b_zip : mg "zip" = none
  c_LETTERS : ∃ u, mg "LETTERS" = some u ∧ RelV (.str "abcdefghijklmnopqrstuvwxyz") u
  c_MOST_PARCELS : ∃ u, mg "MOST_PARCELS" = some u ∧ RelV (.int 12) u
  c_MOST_SIDE : ∃ u, mg "MOST_SIDE" = some u ∧ RelV (.int 100000) u
  c_MOST_SPARE : ∃ u, mg "MOST_SPARE" = some u ∧ RelV (.int 1000) u
  c_MOST_WALL : ∃ u, mg "MOST_WALL" = some u ∧ RelV (.int 1000) u
  c_MOST_WEIGHT : ∃ u, mg "MOST_WEIGHT" = some u ∧ RelV (.int 100000) u
  c_ORDERS : ∃ a : Addr, (∃ u, mg "ORDERS" = some u ∧ RelV (.ref a) u) ∧ ∀ H S, Rep K H S (.ref a) (.tup (perms.map fun p => .tup (p.map .int)))
  c_LABELS : ∃ a : Addr, (∃ u, mg "LABELS" = some u ∧ RelV (.ref a) u) ∧ ∀ H S, Rep K H S (.ref a) (.tup [.str "alone", .str "top", .str "upright"])
  al_goes_in_fits : mg "goes_in_fits" = mg "goes_in"
  e_NoNest_NoNest : ∀ A B : Addr, mg "NoNest" = some (.ref A) → mg "NoNest" = some (.ref B) → PySem.W.exmOne K (.ref A) (.ref B) = some true
  e_NoNest_Unnested : ∀ A B : Addr, mg "NoNest" = some (.ref A) → mg "Unnested" = some (.ref B) → PySem.W.exmOne K (.ref A) (.ref B) = some false
  e_Unnested_NoNest : ∀ A B : Addr, mg "Unnested" = some (.ref A) → mg "NoNest" = some (.ref B) → PySem.W.exmOne K (.ref A) (.ref B) = some false
  e_Unnested_Unnested : ∀ A B : Addr, mg "Unnested" = some (.ref A) → mg "Unnested" = some (.ref B) → PySem.W.exmOne K (.ref A) (.ref B) = some true
structure Kl_Sides (K : PySem.W.Frag) (mg : Str → Option Value) (C : Addr) : Prop where
  at_ : mg "Sides" = some (.ref C)
  ins : C8.InsC K C
  a_three : NoAttr K C "three"
  t_int : PySem.W.kitOne K (.type "int") (.ref C) = some false
  t_bool : PySem.W.kitOne K (.type "bool") (.ref C) = some false
  t_str : PySem.W.kitOne K (.type "str") (.ref C) = some false
  t_NoneType : PySem.W.kitOne K (.type "NoneType") (.ref C) = some false
  t_list : PySem.W.kitOne K (.type "list") (.ref C) = some false
  t_tuple : PySem.W.kitOne K (.type "tuple") (.ref C) = some false
  t_dict : PySem.W.kitOne K (.type "dict") (.ref C) = some false
  u_str : PySem.W.kitOne K (.ref C) (.type "str") = some false
  u_list : PySem.W.kitOne K (.ref C) (.type "list") = some false
theorem Kl_Sides.no {K : PySem.W.Frag} {mg : Str → Option Value} {C : Addr} (k : Kl_Sides K mg C) {d : D} (h : isP d = true) : PySem.W.kitOne K (.type (tyN d)) (.ref C) = some false :=
  tyN_all (P := fun n => PySem.W.kitOne K (.type n) (.ref C) = some false) k.t_NoneType k.t_bool k.t_int k.t_str k.t_list k.t_tuple k.t_dict h
structure Kl_Parcel (K : PySem.W.Frag) (mg : Str → Option Value) (C : Addr) : Prop where
  at_ : mg "Parcel" = some (.ref C)
  ins : C8.InsC K C
  a_called : NoAttr K C "called"
  a_outside : NoAttr K C "outside"
  a_thick : NoAttr K C "thick"
  a_heavy : NoAttr K C "heavy"
  a_strong : NoAttr K C "strong"
  a_marks : NoAttr K C "marks"
  a_told : NoAttr K C "told"
  a_names : NoAttr K C "names"
  t_int : PySem.W.kitOne K (.type "int") (.ref C) = some false
  t_bool : PySem.W.kitOne K (.type "bool") (.ref C) = some false
  t_str : PySem.W.kitOne K (.type "str") (.ref C) = some false
  t_NoneType : PySem.W.kitOne K (.type "NoneType") (.ref C) = some false
  t_list : PySem.W.kitOne K (.type "list") (.ref C) = some false
  t_tuple : PySem.W.kitOne K (.type "tuple") (.ref C) = some false
  t_dict : PySem.W.kitOne K (.type "dict") (.ref C) = some false
theorem Kl_Parcel.no {K : PySem.W.Frag} {mg : Str → Option Value} {C : Addr} (k : Kl_Parcel K mg C) {d : D} (h : isP d = true) : PySem.W.kitOne K (.type (tyN d)) (.ref C) = some false :=
  tyN_all (P := fun n => PySem.W.kitOne K (.type n) (.ref C) = some false) k.t_NoneType k.t_bool k.t_int k.t_str k.t_list k.t_tuple k.t_dict h
structure Kl_Heap (K : PySem.W.Frag) (mg : Str → Option Value) (C : Addr) : Prop where
  at_ : mg "Heap" = some (.ref C)
  ins : C8.InsC K C
  a_held : NoAttr K C "held"
  a_told : NoAttr K C "told"
  a_kind : NoAttr K C "kind"
structure Kl_Nest (K : PySem.W.Frag) (mg : Str → Option Value) (C : Addr) : Prop where
  at_ : mg "Nest" = some (.ref C)
  ins : C8.InsC K C
  a_layers : NoAttr K C "layers"
  a_ways : NoAttr K C "ways"
  t_int : PySem.W.kitOne K (.type "int") (.ref C) = some false
  t_bool : PySem.W.kitOne K (.type "bool") (.ref C) = some false
  t_str : PySem.W.kitOne K (.type "str") (.ref C) = some false
  t_NoneType : PySem.W.kitOne K (.type "NoneType") (.ref C) = some false
  t_list : PySem.W.kitOne K (.type "list") (.ref C) = some false
  t_tuple : PySem.W.kitOne K (.type "tuple") (.ref C) = some false
  t_dict : PySem.W.kitOne K (.type "dict") (.ref C) = some false
theorem Kl_Nest.no {K : PySem.W.Frag} {mg : Str → Option Value} {C : Addr} (k : Kl_Nest K mg C) {d : D} (h : isP d = true) : PySem.W.kitOne K (.type (tyN d)) (.ref C) = some false :=
  tyN_all (P := fun n => PySem.W.kitOne K (.type n) (.ref C) = some false) k.t_NoneType k.t_bool k.t_int k.t_str k.t_list k.t_tuple k.t_dict h
end LW
namespace LW
open PySem L2 C8 PySem.Spec PyProof.Rows VS
/-- what a thing is, as far as whole numbers go -/
inductive Wh (K : PySem.W.Frag) (S : Sto) : D → Option Int → Prop
  | i (i : Int) : Wh K S (.int i) (some i)
  | b (b : Bool) : Wh K S (.bl b) none
  | o {d : D} {t : Value} (h : OfC K S d t) (k : PySem.W.kitOne K t (.type "int") = some false) (n : ∀ i, d ≠ .int i) : Wh K S d none
def whB (o : Option Int) (lo hi : Int) : Bool := match o with
  | some i => decide (lo ≤ i) && decide (i ≤ hi)
  | none => false
theorem whB_yes {o : Option Int} {lo hi : Int} (h : whB o lo hi = true) : ∃ i, o = some i ∧ lo ≤ i ∧ i ≤ hi := by
  cases o with
  | none => cases h
  | some i =>
    have h' : (decide (lo ≤ i) && decide (i ≤ hi)) = true := h
    rw [Bool.and_eq_true] at h'
    exact ⟨i, rfl, of_decide_eq_true h'.1, of_decide_eq_true h'.2⟩
theorem whB_of {i lo hi : Int} (h : lo ≤ i ∧ i ≤ hi) : whB (some i) lo hi = true := by
  show (decide (lo ≤ i) && decide (i ≤ hi)) = true
  rw [decide_eq_true h.1, decide_eq_true h.2]; rfl
theorem Wh.some {K : PySem.W.Frag} {S : Sto} {d : D} {i : Int} (h : Wh K S d (some i)) : d = .int i := by cases h; rfl
def p_is_whole (K : PySem.W.Frag) : Pt := fun ds S G _ => ∃ d o lo hi, ds = [d, .int lo, .int hi] ∧ Wh K S d o ∧ G (.bl (whB o lo hi)) S
section
variable {P : Program} {w : World} {K : PySem.W.Frag} {mg : Str → Option Value} {base : Heap}
theorem ok_is_whole {f : Addr} {fd : FuncData} {C_Sides C_Parcel C_Heap C_Nest C_NoNumber C_NoSide C_NoSides C_NoOrder C_NoParcel C_NotInHeap C_NoNest C_Unnested : Addr}
    (F : Fd K "is_whole" "is_whole" s_is_whole [] f fd) (T : Tx K mg) (hsys : SysOk base) :
    FnG P w K mg base (L2.CX P w) 1 f fd a_is_whole (spOf K (p_is_whole K)) := by
  refine VS.unbox ?_
  simp (disch := with_unfolding_all
    refine fn_val F sc_is_whole (fun ds S G Y h => ?_) (fun cdv A hgd outer s H E hr px tk po ds S G Y h => ?_)
    · obtain ⟨d, o, lo, hi, rfl, _⟩ := h
      rfl
    · obtain ⟨d, o, lo, hi, rfl, h, q⟩ := h
      refine ⟨_, (pss_one (ps_ret (pe_and (pe_callB c_isiZ (by rfl) T.b_isinstance (by decide +kernel) (pa_cons (pv 0) (pa_cons (pe_bltn (v := .ty "int") (by rfl) T.b_int (by decide +kernel) rfl) pa_nil))) (pe_and (pe_not (pe_callB c_isiZ (by rfl) T.b_isinstance (by decide +kernel) (pa_cons (pv 0) (pa_cons (pe_bltn (v := .ty "bool") (by rfl) T.b_bool (by decide +kernel) rfl) pa_nil)))) (pe_one (pe_chain op_le op_le (pv 1) (pv 0) (pv 2))))))), ?_⟩
      dsimp only [cxOf, List.map]
      show VX _ _ [_, _, _] _ _
      cases h with
      | i i =>
        walk_at "go"
        refine br (fun h1 => ?_) (fun h1 => ?_)
        · walk_at "go"
          have e : whB (some i) lo hi = decide (i ≤ hi) := by show (decide (lo ≤ i) && decide (i ≤ hi)) = _; rw [decide_eq_true h1]; rfl
          rw [← e]
          exact q
        · have e : whB (some i) lo hi = false := by show (decide (lo ≤ i) && decide (i ≤ hi)) = _; rw [decide_eq_false h1]; rfl
          rw [← e]
          exact q
      | b b =>
        walk_at "go"
        exact q
      | o ht hk hn =>
        walk_at "go"
        refine rc_isiP ht hk ?_
        walk_at "go"
        exact q) only [↓VS.box]
end
/-! ### orders -/
def ordB : List D → Bool
  | [.int a, .int b, .int c] => perms.contains [a, b, c]
  | _ => false
theorem ordB_len {xs : List D} (h : xs.length ≠ 3) : ordB xs = false := by
  unfold ordB
  split
  · exact absurd rfl h
  · rfl
theorem ordB_yes {xs : List D} (h : ordB xs = true) : ∃ p ∈ perms, xs = p.map D.int := by
  unfold ordB at h
  split at h
  · rename_i a b c
    exact ⟨[a, b, c], List.contains_iff_mem.mp h, rfl⟩
  · cases h
theorem ordB_of {p : List Int} (h : p ∈ perms) : ordB (p.map D.int) = true := by
  simp only [perms, List.mem_cons, List.not_mem_nil, or_false] at h
  rcases h with rfl | rfl | rfl | rfl | rfl | rfl <;> rfl
/-- what a thing is, as far as orders go -/
inductive Od (K : PySem.W.Frag) (S : Sto) : D → Bool → Prop
  | t {xs : List D} (hl : xs.length ≤ 1000) (h : ∀ x ∈ xs, ∃ o, Wh K S x o) : Od K S (.tup xs) (ordB xs)
  | o {d : D} {t : Value} (h : OfC K S d t) (k : PySem.W.kitOne K t (.type "tuple") = some false) : Od K S d false
theorem Od.perm {K : PySem.W.Frag} {S : Sto} {p : List Int} (h : p ∈ perms) : Od K S (.tup (p.map D.int)) true := by
  rw [← ordB_of h]
  refine .t ?_ fun x hx => ?_
  · simp only [perms, List.mem_cons, List.not_mem_nil, or_false] at h
    rcases h with rfl | rfl | rfl | rfl | rfl | rfl <;> decide
  · obtain ⟨i, _, rfl⟩ := List.mem_map.mp hx
    exact ⟨_, .i i⟩
theorem Od.yes {K : PySem.W.Frag} {S : Sto} {d : D} {b : Bool} (h : Od K S d b) (e : b = true) : ∃ p ∈ perms, d = .tup (p.map D.int) := by
  cases h with
  | t hl h =>
    obtain ⟨p, hp, rfl⟩ := ordB_yes e
    exact ⟨p, hp, rfl⟩
  | o => cases e
def p_is_order (K : PySem.W.Frag) : Pt := fun ds S G _ => ∃ d b, ds = [d] ∧ Od K S d b ∧ G (.bl b) S
section
variable {P : Program} {w : World} {K : PySem.W.Frag} {mg : Str → Option Value} {base : Heap}
theorem ok_is_order {f : Addr} {fd : FuncData} {C_Sides C_Parcel C_Heap C_Nest C_NoNumber C_NoSide C_NoSides C_NoOrder C_NoParcel C_NotInHeap C_NoNest C_Unnested : Addr} {f_is_whole : Addr} {g_is_whole : FuncData}
    (F : Fd K "is_order" "is_order" s_is_order [] f fd) (T : Tx K mg) (hsys : SysOk base)
    (c_is_whole : Cf P w K mg base (L2.CX P w) 1 "is_whole" s_is_whole [] a_is_whole (p_is_whole K) f_is_whole g_is_whole) :
    FnG P w K mg base (L2.CX P w) 2 f fd a_is_order (spOf K (p_is_order K)) := by
  refine VS.unbox ?_
  simp (disch := with_unfolding_all
    refine fn_val F sc_is_order (fun ds S G Y h => ?_) (fun cdv A hgd outer s H E hr px tk po ds S G Y h => ?_)
    · obtain ⟨d, b, rfl, _⟩ := h
      rfl
    · obtain ⟨d, b, rfl, h, k⟩ := h
      obtain ⟨aO, hO, rO⟩ := T.c_ORDERS
      refine ⟨_, (pss_cons (ps_if (PW.pt (pw_or (pt_not (pt_val (pe_callB c_isiZ (by rfl) T.b_isinstance (by decide +kernel) (pa_cons (pv 0) (pa_cons (pe_bltn (v := .ty "tuple") (by rfl) T.b_tuple (by decide +kernel) rfl) pa_nil))))) (pw_or1 (pt_cmpR op_ne (pe_callB c_len (by rfl) T.b_len (by decide +kernel) (pa_cons (pv 0) pa_nil)) pe_int (nomark _))))) (pss_one (ps_ret pe_bl))
        pss_nil)
        (pss_one (ps_ret (pe_and (pe_callB (cr_all rfl) (by rfl) T.b_all (by decide +kernel) (pa_cons (pe_lc (own := [("number", 1)]) rfl sc_is_order.nd (pi_tup (pv 0)) (blkOk_by (own := [("number", 1)]) (N := n_is_order) (sc := defScope s_is_order) (by decide +kernel)) (fun _ _ _ _ _ => (pg_name (i := 1) sc_is_order.nd rfl (Or.inl rfl))) (fun _ _ _ _ _ => pts_nil) (fun _ _ _ _ _ => (pe_cG c_is_whole.fn hgd (hr.mono (by decide)) (by rfl) c_is_whole.mg c_is_whole.kp c_is_whole.b .nil VS.pass0 (pa_cons (pv 1) (pa_cons pe_int (pa_cons pe_int pa_nil)))))) pa_nil)) (pe_one (pe_cmpR (op_inP hr hsys) (pv 0) (pe_gc (by rfl) hO) (by rfl))))))), ?_⟩
      dsimp only [cxOf, List.map]
      show VX _ _ [_, _] _ _
      cases h with
      | @o d t ht hk =>
        walk_at "go"
        refine rc_isiP ht hk ?_
        walk_at "go"
        exact k
      | @t xs hz hk =>
        walk_at "go"
        refine rc_lenQ .t ?_
        walk_at "go"
        refine brN (fun h1 => ?_) (fun h1 => ?_)
        · walk_at "go"
          rw [ordB_len (fun e => h1 (by rw [e]; rfl))] at k
          exact k
        have h1' : xs.length = 3 := by exact_mod_cast h1
        walk_at "go"
        refine ve_lc (vi_tup (ve_var rfl ⟨xs, rfl, ?_⟩))
        refine ⟨by omega, fun i acc S2 => S2 = S ∧ ∃ bs : List Bool, acc = bs.map .bl ∧ (bs.all id = true ↔ ∀ x ∈ xs.take i, ∃ j : Int, x = .int j ∧ 0 ≤ j ∧ j ≤ 2), ⟨rfl, [], rfl, by simp⟩, ?_, ?_⟩
        · rintro i d acc S2 hd ⟨rfl, bs, rfl, hb⟩ hl
          have htk : xs.take (i + 1) = xs.take i ++ [d] := by rw [List.take_succ, hd]; rfl
          obtain ⟨o, ho⟩ := hk d (List.mem_of_getElem? hd)
          walk_at "go"
          refine ⟨d, o, 0, 2, rfl, ho, rfl, bs ++ [whB o 0 2], by rw [List.map_append]; rfl, ?_⟩
          rw [htk, List.all_append, Bool.and_eq_true, hb]
          constructor
          · rintro ⟨g1, g2⟩ x hx
            rcases List.mem_append.mp hx with q | q
            · exact g1 x q
            · rw [List.mem_singleton.mp q]
              have g3 : whB o 0 2 = true := by simpa using g2
              obtain ⟨j, rfl, j0, j2⟩ := whB_yes g3
              exact ⟨j, ho.some, j0, j2⟩
          · intro g
            refine ⟨fun x hx => g x (List.mem_append_left _ hx), ?_⟩
            obtain ⟨j, e, j0, j2⟩ := g d (List.mem_append_right _ (List.mem_cons_self ..))
            subst e
            cases ho with
            | i j =>
              have := whB_of (i := j) ⟨j0, j2⟩
              simpa using this
            | o h k n => exact absurd rfl (n _)
        · rintro acc S2 ⟨rfl, bs, rfl, hb⟩ hl
          rw [List.take_length] at hb
          walk_at "go"
          refine rc_all .v ?_
          walk_at "go"
          refine br2 (fun h2 => ?_) (fun h2 => ?_)
          · have hall := hb.mp h2
            walk_at "go"
            refine ve_wr (rO · ·) ?_
            match xs, h1', hall with
            | [x, y, z], _, hall =>
              obtain ⟨a, rfl, a0, a2⟩ := hall x (by simp)
              obtain ⟨b, rfl, b0, b2⟩ := hall y (by simp)
              obtain ⟨c, rfl, c0, c2⟩ := hall z (by simp)
              refine rv_inP rfl rfl rfl rfl ?_
              have e : ordB [.int a, .int b, .int c] = ((pdL (perms.map fun p => .tup (p.map .int))).any fun z => PyData.eqv z (pd (.tup [.int a, .int b, .int c]))) := by
                have ha : a = 0 ∨ a = 1 ∨ a = 2 := by omega
                have hbq : b = 0 ∨ b = 1 ∨ b = 2 := by omega
                have hc : c = 0 ∨ c = 1 ∨ c = 2 := by omega
                rcases ha with rfl | rfl | rfl <;> rcases hbq with rfl | rfl | rfl <;> rcases hc with rfl | rfl | rfl <;> rfl
              rw [← e]
              exact k
          · walk_at "go"
            rw [show ordB xs = false from ?_] at k
            · exact k
            · have hn : ¬ ∀ x ∈ xs, ∃ j : Int, x = .int j ∧ 0 ≤ j ∧ j ≤ 2 := fun g => by
                rw [hb.mpr g] at h2
                cases h2
              refine Bool.eq_false_iff.mpr fun g => hn fun x hx => ?_
              obtain ⟨p, hp, rfl⟩ := ordB_yes g
              obtain ⟨i, hi, rfl⟩ := List.mem_map.mp hx
              refine ⟨i, rfl, ?_⟩
              simp only [perms, List.mem_cons, List.not_mem_nil, or_false] at hp
              rcases hp with rfl | rfl | rfl | rfl | rfl | rfl <;> simp only [List.mem_cons, List.not_mem_nil, or_false] at hi <;> rcases hi with rfl | rfl | rfl <;> omega) only [↓VS.box]
end
end LW
namespace LW
open PySem L2 C8 PySem.Spec PyProof.Rows VS
/-! ### Sides by value -/
def fD (t : D) : List (Str × D) := [("three", t)]
def sd (C : Addr) (a b c : Int) : D := .ins C (fD (.tup [.int a, .int b, .int c]))
def In1 (a : Int) : Prop := 1 ≤ a ∧ a ≤ 100000
/-- the first thing that is no side -/
def bad : List (D × Option Int) → Option D
  | [] => none
  | (d, o) :: r => if whB o 1 100000 = true then bad r else some d
def p_Sides_init (K : PySem.W.Frag) (CS CX : Addr) : Pt := fun ds S G Y => ∃ y d1 d2 d3 o1 o2 o3, ds = [.ref y, d1, d2, d3] ∧ S y = some (.ins CS []) ∧ Wh K S d1 o1 ∧ Wh K S d2 o2 ∧ Wh K S d3 o3 ∧
  (bad [(d1, o1), (d2, o2), (d3, o3)] = none → G .non (put S y (.ins CS (fD (.tup [d1, d2, d3]))))) ∧ ∀ d, bad [(d1, o1), (d2, o2), (d3, o3)] = some d → Y CX [("found", d)] S
theorem bad_of {a b c : Int} {d1 d2 d3 : D} (ha : In1 a) (hb : In1 b) (hc : In1 c) : bad [(d1, some a), (d2, some b), (d3, some c)] = none := by
  unfold bad
  rw [if_pos (whB_of ha)]
  unfold bad
  rw [if_pos (whB_of hb)]
  unfold bad
  rw [if_pos (whB_of hc)]
  rfl
/-- the call of the maker where all is good -/
theorem init_ok {K : PySem.W.Frag} {CS CX : Addr} {a b c : Int} (ha : In1 a) (hb : In1 b) (hc : In1 c) {y : Addr} {S : Sto} (hy : S y = none) {G : D → Sto → Prop} {Y : Addr → List (Str × D) → Sto → Prop} (q : G .non (put (put S y (.ins CS [])) y (sd CS a b c))) :
    p_Sides_init K CS CX [.ref y, .int a, .int b, .int c] (put S y (.ins CS [])) G Y :=
  ⟨y, _, _, _, _, _, _, rfl, put_same, .i a, .i b, .i c, fun _ => q, fun d h => by rw [bad_of ha hb hc] at h; cases h⟩
def p_told (CS : Addr) : Pt := fun ds S G _ => ∃ a b c, ds = [sd CS a b c] ∧ G (.tup [.int a, .int b, .int c]) S
def p_ranked (CS : Addr) : Pt := fun ds S G _ => ∃ a b c, ds = [sd CS a b c] ∧ G (.tup ((dn [a, b, c]).map D.int)) S
/-- the side of a number -/
def tn (a b c i : Int) : Int := if i = 0 then a else if i = 1 then b else c
def tnl (a b c : Int) (p : List Int) : List Int := p.map (tn a b c)
theorem perm_len {p : List Int} (h : p ∈ perms) : ∃ i j k, p = [i, j, k] ∧ (i = 0 ∨ i = 1 ∨ i = 2) ∧ (j = 0 ∨ j = 1 ∨ j = 2) ∧ (k = 0 ∨ k = 1 ∨ k = 2) := by
  simp only [perms, List.mem_cons, List.not_mem_nil, or_false] at h
  rcases h with rfl | rfl | rfl | rfl | rfl | rfl <;> exact ⟨_, _, _, rfl, by decide, by decide, by decide⟩
theorem tn_in {a b c i : Int} (ha : In1 a) (hb : In1 b) (hc : In1 c) : In1 (tn a b c i) := by
  unfold tn
  split
  · exact ha
  · split
    · exact hb
    · exact hc
/-- turned by an order -/
def sdl (C : Addr) : List Int → D
  | [a, b, c] => sd C a b c
  | _ => .non
def p_turned (K : PySem.W.Frag) (CS CX : Addr) : Pt := fun ds S G Y => ∃ a b c d k, ds = [sd CS a b c, d] ∧ In1 a ∧ In1 b ∧ In1 c ∧ Od K S d k ∧ (k = true → ∀ p ∈ perms, d = .tup (p.map D.int) → G (sdl CS (tnl a b c p)) S) ∧ (k = false → Y CX [("found", d)] S)
/-- .. a good order -/
theorem turned_ok {K : PySem.W.Frag} {CS CX : Addr} {a b c : Int} {p : List Int} (ha : In1 a) (hb : In1 b) (hc : In1 c) (hp : p ∈ perms) {S : Sto} {G : D → Sto → Prop} {Y : Addr → List (Str × D) → Sto → Prop} (q : G (sdl CS (tnl a b c p)) S) :
    p_turned K CS CX [sd CS a b c, .tup (p.map D.int)] S G Y := by
  refine ⟨a, b, c, _, _, rfl, ha, hb, hc, .perm hp, fun _ p' hp' e => ?_, fun z => by cases z⟩
  have e' : p = p' := by
    injection e with e
    exact List.map_inj_right (fun x y h => by injection h) |>.mp e
  rw [← e']
  exact q
section
variable {P : Program} {w : World} {K : PySem.W.Frag} {mg : Str → Option Value} {base : Heap}
theorem ok_Sides___init__ {f : Addr} {fd : FuncData} {C_Sides C_Parcel C_Heap C_Nest C_NoNumber C_NoSide C_NoSides C_NoOrder C_NoParcel C_NotInHeap C_NoNest C_Unnested : Addr} {f_is_whole : Addr} {g_is_whole : FuncData}
    (F : Fd K "__init__" "Sides.__init__" s_Sides___init__ [] f fd) (T : Tx K mg) (hsys : SysOk base)
    (c_is_whole : Cf P w K mg base (L2.CX P w) 1 "is_whole" s_is_whole [] a_is_whole (p_is_whole K) f_is_whole g_is_whole)
    (x_NoSide : Xc P w K mg base "NoSide" C_NoSide "found")
    (k_Sides : Kl_Sides K mg C_Sides) :
    FnG P w K mg base (L2.CX P w) 3 f fd a_Sides___init__ (spOf K (p_Sides_init K C_Sides C_NoSide)) := by
  refine VS.unbox ?_
  simp (disch := with_unfolding_all
    have kc_Sides := k_Sides.ins.cl
    have ka_Sides_three := k_Sides.a_three
    refine fn_val F sc_Sides___init__ (fun ds S G Y h => ?_) (fun cdv A hgd outer s H E hr px tk po ds S G Y h => ?_)
    · obtain ⟨y, d1, d2, d3, o1, o2, o3, rfl, _⟩ := h
      rfl
    · obtain ⟨y, d1, d2, d3, o1, o2, o3, rfl, hy, w1, w2, w3, q, qx⟩ := h
      refine ⟨_, (pss_cons (ps_for po rfl (pi_tup (pe_tup (pa_cons (pv 1) (pa_cons (pv 2) (pa_cons (pv 3) pa_nil))))) (pg_name (i := 4) sc_Sides___init__.nd rfl (Or.inl rfl))
        (pss_one (ps_if (pt_not (pt_val (pe_cG c_is_whole.fn hgd (hr.mono (by decide)) (by rfl) c_is_whole.mg c_is_whole.kp c_is_whole.b .nil VS.pass0 (pa_cons (pv 4) (pa_cons pe_int (pa_cons (pe_gc (by rfl) T.c_MOST_SIDE) pa_nil)))))) (pss_one (ps_rz tk x_NoSide (hr.mono (by decide)) (by rfl) (pv 4)))
        pss_nil)))
        (pss_one (ps_fld (pv 0) (pe_tup (pa_cons (pv 1) (pa_cons (pv 2) (pa_cons (pv 3) pa_nil)))) rfl))), ?_⟩
      dsimp only [cxOf, List.map]
      show VX _ _ [_, _, _, _, _] _ _
      walk_at "go"
      refine vx_for (vi_tup ?_)
      walk_at "go"
      refine ⟨by show 3 ≤ sizeLine; decide, ?_⟩
      have step : ∀ (d : D) (o : Option Int) (ρ4 : Option D) (W : Nat → Rho → Sto → Prop) (i : Nat), Wh K S d o → (whB o 1 100000 = true → ∀ x, W (i + 1) [some (.ref y), some d1, some d2, some d3, x] S) → (whB o 1 100000 = false → Y C_NoSide [("found", d)] S) → True := fun _ _ _ _ _ _ _ _ => trivial
      refine ⟨_, rfl, fun i ρ2 S2 => S2 = S ∧ ∃ x, ρ2 = [some (.ref y), some d1, some d2, some d3, x] ∧ bad (([(d1, o1), (d2, o2), (d3, o3)]).drop i) = bad [(d1, o1), (d2, o2), (d3, o3)], ⟨rfl, _, rfl, rfl⟩, ?_, ?_⟩
      · rintro i d ρ2 S2 hd ⟨rfl, x, rfl, hb⟩
        walk_at "go"
        have hk : ∃ o, Wh K S2 d o ∧ ([(d1, o1), (d2, o2), (d3, o3)] : List (D × Option Int)).drop i = (d, o) :: ([(d1, o1), (d2, o2), (d3, o3)]).drop (i + 1) := by
          have hi := (List.getElem?_eq_some_iff.mp hd).1
          match i, hi, hd with
          | 0, _, hd => cases hd; exact ⟨o1, w1, rfl⟩
          | 1, _, hd => cases hd; exact ⟨o2, w2, rfl⟩
          | 2, _, hd => cases hd; exact ⟨o3, w3, rfl⟩
        obtain ⟨o, wo, ed⟩ := hk
        rw [ed] at hb
        refine ⟨d, o, 1, 100000, rfl, wo, ?_⟩
        walk_at "go"
        refine brB (fun h1 => ?_) (fun h1 => ?_)
        · walk_at "go"
          refine vx_raise ?_
          walk_at "go"
          refine qx d ?_
          rw [← hb]
          unfold bad
          rw [if_neg (by rw [h1]; decide)]
        · walk_at "go"
          refine ⟨rfl, _, rfl, ?_⟩
          rw [← hb]
          conv => rhs; unfold bad
          rw [if_pos h1]
      · rintro ρ2 S2 ⟨rfl, x, rfl, hb⟩
        walk_at "go"
        refine ⟨by show 3 ≤ sizeLine; decide, ?_⟩
        walk_at "go"
        refine ⟨_, _, _, rfl, hy, k_Sides.ins.cl, k_Sides.a_three, by decide, ?_⟩
        walk_at "go"
        exact q hb.symm) only [↓VS.box]
theorem ok_Sides_told {f : Addr} {fd : FuncData} {C_Sides C_Parcel C_Heap C_Nest C_NoNumber C_NoSide C_NoSides C_NoOrder C_NoParcel C_NotInHeap C_NoNest C_Unnested : Addr}
    (F : Fd K "told" "Sides.told" s_Sides_told [] f fd) (T : Tx K mg) (hsys : SysOk base)
    (k_Sides : Kl_Sides K mg C_Sides) :
    FnG P w K mg base (L2.CX P w) 1 f fd a_Sides_told (spOf K (p_told C_Sides)) := by
  refine VS.unbox ?_
  simp (disch := with_unfolding_all
    have kc_Sides := k_Sides.ins.cl
    have ka_Sides_three := k_Sides.a_three
    refine fn_val F sc_Sides_told (fun ds S G Y h => ?_) (fun cdv A hgd outer s H E hr px tk po ds S G Y h => ?_)
    · obtain ⟨a, b, c, rfl, _⟩ := h
      rfl
    · obtain ⟨a, b, c, rfl, q⟩ := h
      refine ⟨_, (pss_one (ps_ret (pe_fld (pv 0) rfl))), ?_⟩
      dsimp only [cxOf, List.map]
      show VX _ _ [_] _ _
      walk_at "go"
      exact ⟨_, _, _, .v, k_Sides.ins.cl, k_Sides.a_three, rfl, q⟩) only [↓VS.box]
theorem ok_Sides_ranked {f : Addr} {fd : FuncData} {C_Sides C_Parcel C_Heap C_Nest C_NoNumber C_NoSide C_NoSides C_NoOrder C_NoParcel C_NotInHeap C_NoNest C_Unnested : Addr}
    (F : Fd K "ranked" "Sides.ranked" s_Sides_ranked [] f fd) (T : Tx K mg) (hsys : SysOk base)
    (k_Sides : Kl_Sides K mg C_Sides) :
    FnG P w K mg base (L2.CX P w) 1 f fd a_Sides_ranked (spOf K (p_ranked C_Sides)) := by
  refine VS.unbox ?_
  simp (disch := with_unfolding_all
    have kc_Sides := k_Sides.ins.cl
    have ka_Sides_three := k_Sides.a_three
    refine fn_val F sc_Sides_ranked (fun ds S G Y h => ?_) (fun cdv A hgd outer s H E hr px tk po ds S G Y h => ?_)
    · obtain ⟨a, b, c, rfl, _⟩ := h
      rfl
    · obtain ⟨a, b, c, rfl, q⟩ := h
      refine ⟨_, (pss_one (ps_ret (pe_callTy c_tuple (by rfl) T.b_tuple (by decide +kernel) (pa_cons (pe_callBK (c_sortedR (b := true)) (by rfl) T.b_sorted (by decide +kernel) (pa_cons (pe_fld (pv 0) rfl) pa_nil) (pk_cons pe_bl pk_nil)) pa_nil)))), ?_⟩
      dsimp only [cxOf, List.map]
      show VX _ _ [_] _ _
      walk_at "go"
      refine ve_ckw ?_
      walk_at "go"
      refine ⟨_, _, _, .v, k_Sides.ins.cl, k_Sides.a_three, rfl, ?_⟩
      walk_at "go"
      refine rck_sortedR (ns := [a, b, c]) .t ?_
      walk_at "go"
      exact rc_tupleL .v q) only [↓VS.box]
theorem ok_Sides_turned {f : Addr} {fd : FuncData} {C_Sides C_Parcel C_Heap C_Nest C_NoNumber C_NoSide C_NoSides C_NoOrder C_NoParcel C_NotInHeap C_NoNest C_Unnested : Addr} {f_is_order f_Sides : Addr} {g_is_order g_Sides : FuncData}
    (F : Fd K "turned" "Sides.turned" s_Sides_turned [] f fd) (T : Tx K mg) (hsys : SysOk base)
    (c_is_order : Cf P w K mg base (L2.CX P w) 2 "is_order" s_is_order [] a_is_order (p_is_order K) f_is_order g_is_order)
    (c_Sides : Kf P w K mg base 3 "Sides" C_Sides "Sides.__init__" s_Sides___init__ [] a_Sides___init__ (p_Sides_init K C_Sides C_NoSide) f_Sides g_Sides)
    (x_NoOrder : Xc P w K mg base "NoOrder" C_NoOrder "found")
    (k_Sides : Kl_Sides K mg C_Sides) :
    FnG P w K mg base (L2.CX P w) 5 f fd a_Sides_turned (spOf K (p_turned K C_Sides C_NoOrder)) := by
  refine VS.unbox ?_
  simp (disch := with_unfolding_all
    have kc_Sides := k_Sides.ins.cl
    have ka_Sides_three := k_Sides.a_three
    refine fn_val F sc_Sides_turned (fun ds S G Y h => ?_) (fun cdv A hgd outer s H E hr px tk po ds S G Y h => ?_)
    · obtain ⟨a, b, c, d, k, rfl, _⟩ := h
      rfl
    · obtain ⟨a, b, c, d, k, rfl, ha, hb, hc, hd, q, qx⟩ := h
      refine ⟨_, (pss_cons (ps_if (pt_not (pt_val (pe_cG c_is_order.fn hgd (hr.mono (by decide)) (by rfl) c_is_order.mg c_is_order.kp c_is_order.b .nil VS.pass0 (pa_cons (pv 1) pa_nil)))) (pss_one (ps_rz tk x_NoOrder (hr.mono (by decide)) (by rfl) (pv 1)))
        pss_nil)
        (pss_cons (ps_asg (pe_lc (own := [("number", 5)]) rfl sc_Sides_turned.nd (pi_tup (pv 1)) (blkOk_by (own := [("number", 5)]) (N := n_Sides_turned) (sc := defScope s_Sides_turned) (by decide +kernel)) (fun _ _ _ _ _ => (pg_name (i := 5) sc_Sides_turned.nd rfl (Or.inl rfl))) (fun _ _ _ _ _ => pts_nil) (fun _ _ _ _ _ => (pe_ix (kI (K := K) (r := rIxT) ix_tup) (kFld (K := K) (pe_fld (pv 0) rfl)) (pv 5) (fun _ _ => rfl)))) (pg_unl (n := 3) rfl (pgs_cons (pg_name (i := 2) sc_Sides_turned.nd rfl (Or.inl rfl)) (pgs_cons (pg_name (i := 3) sc_Sides_turned.nd rfl (Or.inl rfl)) (pgs_cons (pg_name (i := 4) sc_Sides_turned.nd rfl (Or.inl rfl)) pgs_nil)))))
        (pss_one (ps_ret (pe_kG c_Sides.mk_ c_Sides.fn hgd (hr.mono (by decide)) (by rfl) c_Sides.mg  c_Sides.b .nil VS.pass0 (pa_cons (pv 2) (pa_cons (pv 3) (pa_cons (pv 4) pa_nil)))))))), ?_⟩
      dsimp only [cxOf, List.map]
      show VX _ _ [_, _, _, _, _, _] _ _
      walk_at "go"
      refine ⟨d, k, rfl, hd, ?_⟩
      walk_at "go"
      refine brB (fun h1 => ?_) (fun h1 => ?_)
      · walk_at "go"
        refine vx_raise ?_
        walk_at "go"
        exact qx h1
      · obtain ⟨p, hp, rfl⟩ := hd.yes h1
        have q := q h1 p hp rfl
        walk_at "go"
        refine ve_lcM (fun x => match x with | .int i => .int (tn a b c i) | _ => .non) (vi_tup (ve_var rfl ⟨_, rfl, ?_⟩))
        obtain ⟨i, j, l, rfl, hi, hj, hl⟩ := perm_len hp
        refine ⟨by show 3 ≤ 100000; decide, fun x hx => ?_, ?_⟩
        · obtain ⟨n, hn, rfl⟩ := List.mem_map.mp hx
          have hn : n = 0 ∨ n = 1 ∨ n = 2 := by
            simp only [List.mem_cons, List.not_mem_nil, or_false] at hn
            rcases hn with rfl | rfl | rfl <;> assumption
          walk_at "go"
          refine ⟨rfl, ?_⟩
          walk_at "go"
          refine ⟨_, _, _, .v, k_Sides.ins.cl, k_Sides.a_three, rfl, ?_⟩
          walk_at "go"
          rcases hn with rfl | rfl | rfl
          · exact rv_ixT rfl ⟨rfl, rfl⟩
          · exact rv_ixT rfl ⟨rfl, rfl⟩
          · exact rv_ixT rfl ⟨rfl, rfl⟩
        refine vg_unl .v rfl ?_
        show VGs _ _ [_, _, _] _ _ _
        walk_at "go"
        refine ve_mk0 (XOk.none (E := noE)) ?_
        walk_at "go"
        intro y hy
        refine init_ok (tn_in ha hb hc) (tn_in ha hb hc) (tn_in ha hb hc) hy ⟨rfl, y, _, rfl, put_same, nofun, ?_⟩
        rw [del_put2 hy]
        exact q) only [↓VS.box]
end
end LW
namespace LW
open PySem L2 C8 PySem.Spec PyProof.Rows VS
/-- whether a thing is Sides -/
inductive Sx (K : PySem.W.Frag) (S : Sto) (CS : Addr) : D → Bool → Prop
  | s (a b c : Int) : Sx K S CS (sd CS a b c) true
  | o {d : D} {t : Value} (h : OfC K S d t) (k : PySem.W.kitOne K t (.ref CS) = some false) : Sx K S CS d false
theorem Sx.yes {K : PySem.W.Frag} {S : Sto} {CS : Addr} {d : D} (h : Sx K S CS d true) : ∃ a b c, d = sd CS a b c := by
  cases h with
  | s a b c => exact ⟨a, b, c, rfl⟩
def p_need_spare (K : PySem.W.Frag) (CN : Addr) : Pt := fun ds S G Y => ∃ d o, ds = [d] ∧ Wh K S d o ∧ (whB o 0 1000 = true → G .non S) ∧ (whB o 0 1000 = false → Y CN [("found", d)] S)
def p_need_both (K : PySem.W.Frag) (CS CX CN : Addr) : Pt := fun ds S G Y => ∃ d1 d2 d3 k1 k2 o, ds = [d1, d2, d3] ∧ Sx K S CS d1 k1 ∧ Sx K S CS d2 k2 ∧ Wh K S d3 o ∧
  (k1 = false → Y CX [("found", d1)] S) ∧ (k1 = true → k2 = false → Y CX [("found", d2)] S) ∧ (k1 = true → k2 = true → whB o 0 1000 = false → Y CN [("found", d3)] S) ∧ (k1 = true → k2 = true → whB o 0 1000 = true → G .non S)
def fitB (l m : List Int) (sp : Int) : Bool := (l.zip m).all fun q => decide (q.1 + sp ≤ q.2)
def p_goes_by (CS : Addr) : Pt := fun ds S G _ => ∃ a b c x y z p sp, ds = [sd CS a b c, sd CS x y z, .tup (p.map D.int), .int sp] ∧ In1 a ∧ In1 b ∧ In1 c ∧ p ∈ perms ∧ G (.bl (fitB (tnl a b c p) [x, y, z] sp)) S
def many : List Int → List Int → Int → Nat → D
  | a :: l, x :: m, sp, r => if a + sp > x then .tup [.str "many", .int ((r : Int) + 1), .int (a + sp)] else many l m sp (r + 1)
  | _, _, _, _ => .tup [.str "many", .int 0, .int 0]
def goesD (a b c x y z sp : Int) : D := match perms.find? (fun p => fitB (tnl a b c p) [x, y, z] sp) with
  | some p => .tup [.str "turn", .tup (p.map D.int)]
  | none => many (dn [a, b, c]) (dn [x, y, z]) sp 0
def p_goes_in (K : PySem.W.Frag) (CS CX CN : Addr) : Pt := fun ds S G Y => ∃ d1 d2 d3 k1 k2 o, ds = [d1, d2, d3] ∧ Sx K S CS d1 k1 ∧ Sx K S CS d2 k2 ∧ Wh K S d3 o ∧
  (k1 = false → Y CX [("found", d1)] S) ∧ (k1 = true → k2 = false → Y CX [("found", d2)] S) ∧ (k1 = true → k2 = true → whB o 0 1000 = false → Y CN [("found", d3)] S) ∧
  (∀ a b c x y z sp, d1 = sd CS a b c → d2 = sd CS x y z → d3 = .int sp → 0 ≤ sp → sp ≤ 1000 → In1 a ∧ In1 b ∧ In1 c ∧ G (goesD a b c x y z sp) S)
theorem sd_inj {CS : Addr} {a b c x y z : Int} (h : sd CS a b c = sd CS x y z) : a = x ∧ b = y ∧ c = z := by
  injection h with _ h
  injection h with h _
  injection h with _ h
  injection h with h
  injection h with h1 h
  injection h with h2 h
  injection h with h3 _
  injection h1 with h1
  injection h2 with h2
  injection h3 with h3
  exact ⟨h1, h2, h3⟩
theorem goes_ok {K : PySem.W.Frag} {CS CX CN : Addr} {a b c x y z sp : Int} (ha : In1 a) (hb : In1 b) (hc : In1 c) (h : 0 ≤ sp ∧ sp ≤ 1000) {S : Sto} {G : D → Sto → Prop} {Y : Addr → List (Str × D) → Sto → Prop} (q : G (goesD a b c x y z sp) S) :
    p_goes_in K CS CX CN [sd CS a b c, sd CS x y z, .int sp] S G Y :=
  ⟨_, _, _, true, true, _, rfl, .s .., .s .., .i sp, fun z => (by cases z), fun _ z => (by cases z), fun _ _ z => (by rw [whB_of h] at z; cases z), fun a' b' c' x' y' z' sp' e1 e2 e3 _ _ => by
    obtain ⟨rfl, rfl, rfl⟩ := sd_inj e1
    obtain ⟨rfl, rfl, rfl⟩ := sd_inj e2
    injection e3 with e3
    subst e3
    exact ⟨ha, hb, hc, q⟩⟩
section
variable {P : Program} {w : World} {K : PySem.W.Frag} {mg : Str → Option Value} {base : Heap}
theorem ok_need_spare {f : Addr} {fd : FuncData} {C_Sides C_Parcel C_Heap C_Nest C_NoNumber C_NoSide C_NoSides C_NoOrder C_NoParcel C_NotInHeap C_NoNest C_Unnested : Addr} {f_is_whole : Addr} {g_is_whole : FuncData}
    (F : Fd K "need_spare" "need_spare" s_need_spare [] f fd) (T : Tx K mg) (hsys : SysOk base)
    (c_is_whole : Cf P w K mg base (L2.CX P w) 1 "is_whole" s_is_whole [] a_is_whole (p_is_whole K) f_is_whole g_is_whole)
    (x_NoNumber : Xc P w K mg base "NoNumber" C_NoNumber "found") :
    FnG P w K mg base (L2.CX P w) 3 f fd a_need_spare (spOf K (p_need_spare K C_NoNumber)) := by
  refine VS.unbox ?_
  simp (disch := with_unfolding_all
    refine fn_val F sc_need_spare (fun ds S G Y h => ?_) (fun cdv A hgd outer s H E hr px tk po ds S G Y h => ?_)
    · obtain ⟨d, o, rfl, _⟩ := h
      rfl
    · obtain ⟨d, o, rfl, wd, q, qx⟩ := h
      refine ⟨_, (pss_one (ps_if (pt_not (pt_val (pe_cG c_is_whole.fn hgd (hr.mono (by decide)) (by rfl) c_is_whole.mg c_is_whole.kp c_is_whole.b .nil VS.pass0 (pa_cons (pv 0) (pa_cons pe_int (pa_cons (pe_gc (by rfl) T.c_MOST_SPARE) pa_nil)))))) (pss_one (ps_rz tk x_NoNumber (hr.mono (by decide)) (by rfl) (pv 0)))
        pss_nil)), ?_⟩
      (try dsimp only [cxOf, List.map])
      show VX _ _ [_] _ _
      walk_at "go"
      refine ⟨d, o, 0, 1000, rfl, wd, ?_⟩
      walk_at "go"
      refine brB (fun h1 => ?_) (fun h1 => ?_)
      · walk_at "go"
        refine vx_raise ?_
        walk_at "go"
        exact qx h1
      · walk_at "go"
        exact q h1) only [↓VS.box]
theorem ok_need_both {f : Addr} {fd : FuncData} {C_Sides C_Parcel C_Heap C_Nest C_NoNumber C_NoSide C_NoSides C_NoOrder C_NoParcel C_NotInHeap C_NoNest C_Unnested : Addr} {f_need_spare : Addr} {g_need_spare : FuncData}
    (F : Fd K "need_both" "need_both" s_need_both [] f fd) (T : Tx K mg) (hsys : SysOk base)
    (c_need_spare : Cf P w K mg base (L2.CX P w) 3 "need_spare" s_need_spare [] a_need_spare (p_need_spare K C_NoNumber) f_need_spare g_need_spare)
    (x_NoSides : Xc P w K mg base "NoSides" C_NoSides "found")
    (k_Sides : Kl_Sides K mg C_Sides) :
    FnG P w K mg base (L2.CX P w) 4 f fd a_need_both (spOf K (p_need_both K C_Sides C_NoSides C_NoNumber)) := by
  refine VS.unbox ?_
  simp (disch := with_unfolding_all
    have kc_Sides := k_Sides.ins.cl
    have ka_Sides_three := k_Sides.a_three
    refine fn_val F sc_need_both (fun ds S G Y h => ?_) (fun cdv A hgd outer s H E hr px tk po ds S G Y h => ?_)
    · obtain ⟨d1, d2, d3, k1, k2, o, rfl, _⟩ := h
      rfl
    · obtain ⟨d1, d2, d3, k1, k2, o, rfl, s1, s2, w3, y1, y2, y3, q⟩ := h
      refine ⟨_, (pss_cons (ps_for po rfl (pi_tup (pe_tup (pa_cons (pv 0) (pa_cons (pv 1) pa_nil)))) (pg_name (i := 3) sc_need_both.nd rfl (Or.inl rfl))
        (pss_one (ps_if (pt_not (pt_val (pe_callB c_isiZ (by rfl) T.b_isinstance (by decide +kernel) (pa_cons (pv 3) (pa_cons (pe_gc (v := .ref C_Sides) (by rfl) ⟨_, k_Sides.at_, rfl⟩) pa_nil))))) (pss_one (ps_rz tk x_NoSides (hr.mono (by decide)) (by rfl) (pv 3)))
        pss_nil)))
        (pss_one (ps_expr (pe_cG c_need_spare.fn hgd (hr.mono (by decide)) (by rfl) c_need_spare.mg c_need_spare.kp c_need_spare.b .nil px (pa_cons (pv 2) pa_nil))))), ?_⟩
      (try dsimp only [cxOf, List.map])
      show VX _ _ [_, _, _, _] _ _
      walk_at "go"
      refine vx_for (vi_tup ?_)
      walk_at "go"
      refine ⟨by show 2 ≤ sizeLine; decide, ?_⟩
      refine ⟨_, rfl, fun i ρ2 S2 => S2 = S ∧ ∃ x, ρ2 = [some d1, some d2, some d3, x] ∧ (0 < i → k1 = true) ∧ (1 < i → k2 = true), ⟨rfl, _, rfl, fun z => absurd z (by decide), fun z => absurd z (by decide)⟩, ?_, ?_⟩
      · rintro i d ρ2 S2 hd ⟨rfl, x, rfl, hb1, hb2⟩
        have hi := (List.getElem?_eq_some_iff.mp hd).1
        have hk : ∃ k, Sx K S2 C_Sides d k ∧ (k = false → Y C_NoSides [("found", d)] S2) ∧ (k = true → (0 < i + 1 → k1 = true) ∧ (1 < i + 1 → k2 = true)) := by
          match i, hi, hd, hb1 with
          | 0, _, hd, _ => cases hd; exact ⟨k1, s1, y1, fun z => ⟨fun _ => z, fun z => absurd z (by decide)⟩⟩
          | 1, _, hd, hb1 => cases hd; exact ⟨k2, s2, y2 (hb1 (by decide)), fun z => ⟨fun _ => hb1 (by decide), fun _ => z⟩⟩
        obtain ⟨k, sk, kf, kt⟩ := hk
        walk_at "go"
        refine ve_cls ?_
        walk_at "go"
        cases sk with
        | s a b c =>
          refine rc_isiO (.i .v k_Sides.ins) k_Sides.ins.me ?_
          walk_at "go"
          exact ⟨rfl, _, rfl, kt rfl⟩
        | o ot hk =>
          refine rc_isiO ot hk ?_
          walk_at "go"
          refine vx_raise ?_
          walk_at "go"
          exact kf rfl
      · rintro ρ2 S2 ⟨rfl, x, rfl, hb1, hb2⟩
        have e1 := hb1 (by show 0 < 2; decide)
        have e2 := hb2 (by show 1 < 2; decide)
        walk_at "go"
        refine ve_f (.same fun _ _ _ h => h) ?_
        walk_at "go"
        exact ⟨d3, o, rfl, w3, q e1 e2, y3 e1 e2⟩) only [↓VS.box]
theorem ok_goes_by {f : Addr} {fd : FuncData} {C_Sides C_Parcel C_Heap C_Nest C_NoNumber C_NoSide C_NoSides C_NoOrder C_NoParcel C_NotInHeap C_NoNest C_Unnested : Addr} {f_Sides_turned f_Sides_told : Addr} {g_Sides_turned g_Sides_told : FuncData}
    (F : Fd K "goes_by" "goes_by" s_goes_by [] f fd) (T : Tx K mg) (hsys : SysOk base)
    (c_Sides_turned : Mf P w K mg base 5 C_Sides "turned" "Sides.turned" s_Sides_turned [] a_Sides_turned (p_turned K C_Sides C_NoOrder) f_Sides_turned g_Sides_turned)
    (c_Sides_told : Mf P w K mg base 1 C_Sides "told" "Sides.told" s_Sides_told [] a_Sides_told (p_told C_Sides) f_Sides_told g_Sides_told) :
    FnG P w K mg base (L2.CX P w) 6 f fd a_goes_by (spOf K (p_goes_by C_Sides)) := by
  refine VS.unbox ?_
  simp (disch := with_unfolding_all
    refine fn_val F sc_goes_by (fun ds S G Y h => ?_) (fun cdv A hgd outer s H E hr px tk po ds S G Y h => ?_)
    · obtain ⟨a, b, c, x, y, z, p, sp, rfl, _⟩ := h
      rfl
    · obtain ⟨a, b, c, x, y, z, p, sp, rfl, ha, hb, hc, hp, q⟩ := h
      refine ⟨_, (pss_one (ps_ret (pe_callB (cr_all rfl) (by rfl) T.b_all (by decide +kernel) (pa_cons (pe_lc (own := [("side", 4), ("most", 5)]) rfl sc_goes_by.nd (RZ.pi_zipA (by rfl) T.b_zip (pa_cons (pe_mG0 (pe_mG (pv 0) c_Sides_turned.cl c_Sides_turned.me c_Sides_turned.fn hgd (hr.mono (by decide)) c_Sides_turned.b .nil VS.pass0 (pa_cons (pv 2) pa_nil)) c_Sides_told.cl c_Sides_told.me c_Sides_told.fn hgd (hr.mono (by decide)) c_Sides_told.b .nil VS.pass0) (pa_cons (pe_mG0 (pv 1) c_Sides_told.cl c_Sides_told.me c_Sides_told.fn hgd (hr.mono (by decide)) c_Sides_told.b .nil VS.pass0) pa_nil))) (blkOk_by (own := [("side", 4), ("most", 5)]) (N := n_goes_by) (sc := defScope s_goes_by) (by decide +kernel)) (fun _ _ _ _ _ => (kTup (K := K) (pg_tup (n := 2) rfl (pgs_cons (pg_name (i := 4) sc_goes_by.nd rfl (Or.inl rfl)) (pgs_cons (pg_name (i := 5) sc_goes_by.nd rfl (Or.inl rfl)) pgs_nil))))) (fun _ _ _ _ _ => pts_nil) (fun _ _ _ _ _ => (pe_cmpR op_le (pe_op op_add (pv 4) (pv 3)) (pv 5) (nomark _)))) pa_nil)))), ?_⟩
      (try dsimp only [cxOf, List.map])
      show VX _ _ [_, _, _, _, _, _] _ _
      walk_at "go"
      refine ve_lcM (fun d => match d with | .tup [.int u, .int v] => .bl (decide (u + sp ≤ v)) | _ => .non) (vi_zipT ?_)
      walk_at "go"
      refine ve_mt0 (XOk.none (E := noE)) ?_
      refine ve_mt0 (XOk.none (E := noE)) ?_
      walk_at "go"
      refine ⟨_, .v, rfl, ?_⟩
      walk_at "go"
      refine turned_ok ha hb hc hp ?_
      have hm := hp
      obtain ⟨i, j, l, rfl, _, _, _⟩ := perm_len hp
      refine ⟨_, .v, rfl, ?_⟩
      walk_at "go"
      refine ⟨_, _, _, rfl, ?_⟩
      walk_at "go"
      refine ve_mt0 (XOk.none (E := noE)) ?_
      walk_at "go"
      refine ⟨_, .v, rfl, ?_⟩
      walk_at "go"
      refine ⟨_, _, _, rfl, ?_⟩
      walk_at "go"
      refine ⟨_, _, rfl, by show 3 ≤ 100000; decide, fun d hd => ?_, ?_⟩
      · have hd' : d = .tup [.int (tn a b c i), .int x] ∨ d = .tup [.int (tn a b c j), .int y] ∨ d = .tup [.int (tn a b c l), .int z] := by
          simpa [zipD] using hd
        rcases hd' with rfl | rfl | rfl
        all_goals
          walk_at "go"
          exact ⟨rfl, by walk_at "go"; exact ⟨rfl, rfl⟩⟩
      refine va_nil ?_
      show RC _ _ [.lst (([decide (tn a b c i + sp ≤ x), decide (tn a b c j + sp ≤ y), decide (tn a b c l + sp ≤ z)]).map D.bl)] _ _
      refine rc_all .v ?_
      exact q) only [↓VS.box]
theorem ok_goes_in {f : Addr} {fd : FuncData} {C_Sides C_Parcel C_Heap C_Nest C_NoNumber C_NoSide C_NoSides C_NoOrder C_NoParcel C_NotInHeap C_NoNest C_Unnested : Addr} {f_need_both f_goes_by f_Sides_ranked : Addr} {g_need_both g_goes_by g_Sides_ranked : FuncData}
    (F : Fd K "goes_in" "goes_in" s_goes_in [.int 0] f fd) (T : Tx K mg) (hsys : SysOk base)
    (c_need_both : Cf P w K mg base (L2.CX P w) 4 "need_both" s_need_both [] a_need_both (p_need_both K C_Sides C_NoSides C_NoNumber) f_need_both g_need_both)
    (c_goes_by : Cf P w K mg base (L2.CX P w) 6 "goes_by" s_goes_by [] a_goes_by (p_goes_by C_Sides) f_goes_by g_goes_by)
    (c_Sides_ranked : Mf P w K mg base 1 C_Sides "ranked" "Sides.ranked" s_Sides_ranked [] a_Sides_ranked (p_ranked C_Sides) f_Sides_ranked g_Sides_ranked) :
    FnG P w K mg base (L2.CX P w) 7 f fd a_goes_in (spOf K (p_goes_in K C_Sides C_NoSides C_NoNumber)) := by
  refine VS.unbox ?_
  simp (disch := with_unfolding_all
    refine fn_val F sc_goes_in (fun ds S G Y h => ?_) (fun cdv A hgd outer s H E hr px tk po ds S G Y h => ?_)
    · obtain ⟨d1, d2, d3, k1, k2, o, rfl, _⟩ := h
      rfl
    · obtain ⟨d1, d2, d3, k1, k2, o, rfl, s1, s2, w3, y1, y2, y3, q⟩ := h
      obtain ⟨aO, hO, rO⟩ := T.c_ORDERS
      refine ⟨_, (pss_cons (ps_expr (pe_cG c_need_both.fn hgd (hr.mono (by decide)) (by rfl) c_need_both.mg c_need_both.kp c_need_both.b .nil px (pa_cons (pv 0) (pa_cons (pv 1) (pa_cons (pv 2) pa_nil)))))
        (pss_cons (ps_for po rfl (pi_tup (pe_gc (by rfl) hO)) (pg_name (i := 3) sc_goes_in.nd rfl (Or.inl rfl))
        (pss_one (ps_if (pt_val (pe_cG c_goes_by.fn hgd (hr.mono (by decide)) (by rfl) c_goes_by.mg c_goes_by.kp c_goes_by.b .nil VS.pass0 (pa_cons (pv 0) (pa_cons (pv 1) (pa_cons (pv 3) (pa_cons (pv 2) pa_nil)))))) (pss_one (ps_ret (pe_tup (pa_cons pe_str (pa_cons (pv 3) pa_nil)))))
        pss_nil)))
        (pss_cons (ps_for po rfl (pi_enumT (by rfl) T.b_enumerate (pa_cons (pe_mG0 (pv 0) c_Sides_ranked.cl c_Sides_ranked.me c_Sides_ranked.fn hgd (hr.mono (by decide)) c_Sides_ranked.b .nil VS.pass0) pa_nil)) (pg_tup (n := 2) rfl (pgs_cons (pg_name (i := 4) sc_goes_in.nd rfl (Or.inl rfl)) (pgs_cons (pg_name (i := 5) sc_goes_in.nd rfl (Or.inl rfl)) pgs_nil)))
        (pss_one (ps_if (pt_cmpR op_gt (pe_op op_add (pv 5) (pv 2)) (pe_ix ix_tup (pe_mG0 (pv 1) c_Sides_ranked.cl c_Sides_ranked.me c_Sides_ranked.fn hgd (hr.mono (by decide)) c_Sides_ranked.b .nil VS.pass0) (pv 4) (fun _ _ => rfl)) (nomark _)) (pss_one (ps_ret (pe_tup (pa_cons pe_str (pa_cons (pe_op op_add (pv 4) pe_int) (pa_cons (pe_op op_add (pv 5) (pv 2)) pa_nil))))))
        pss_nil)))
        (pss_one (ps_ret (pe_tup (pa_cons pe_str (pa_cons pe_int (pa_cons pe_int pa_nil))))))))), ?_⟩
      (try dsimp only [cxOf, List.map])
      show VX _ _ [_, _, _, _, _, _] _ _
      walk_at "go"
      refine ve_f (.same fun _ _ _ h => h) ?_
      walk_at "go"
      refine ⟨d1, d2, d3, k1, k2, o, rfl, s1, s2, w3, y1, y2, y3, fun e1 e2 e3 => ?_⟩
      subst e1 e2
      obtain ⟨a, b, c, rfl⟩ := s1.yes
      obtain ⟨x, y, z, rfl⟩ := s2.yes
      obtain ⟨sp, rfl, p0, p1⟩ := whB_yes e3
      cases w3.some
      obtain ⟨ha, hb, hc, q⟩ := q a b c x y z sp rfl rfl rfl p0 p1
      walk_at "go"
      refine vx_for (vi_tup (ve_wr (rO · ·) ⟨_, rfl, ?_⟩))
      refine ⟨fun i ρ2 S2 => S2 = S ∧ ∃ u, ρ2 = [some (sd C_Sides a b c), some (sd C_Sides x y z), some (.int sp), u, none, none] ∧ ∀ p ∈ perms.take i, fitB (tnl a b c p) [x, y, z] sp = false, ⟨rfl, _, rfl, fun p hp => by cases hp⟩, ?_, ?_⟩
      · rintro i d ρ2 S2 hd ⟨rfl, u, rfl, hno⟩
        rw [List.getElem?_map] at hd
        cases hp : perms[i]? with
        | none => rw [hp] at hd; cases hd
        | some p =>
          rw [hp] at hd
          cases hd
          have hm : p ∈ perms := List.mem_of_getElem? hp
          have htk : perms.take (i + 1) = perms.take i ++ [p] := by rw [List.take_succ, hp]; rfl
          walk_at "go"
          refine ⟨a, b, c, x, y, z, p, sp, rfl, ha, hb, hc, hm, ?_⟩
          walk_at "go"
          refine ⟨fun h1 => ?_, fun h1 => ?_⟩
          · walk_at "go"
            refine ⟨by show 2 ≤ sizeLine; decide, ?_⟩
            have e : goesD a b c x y z sp = .tup [.str "turn", .tup (p.map D.int)] := by
              have hf : perms.find? (fun p => fitB (tnl a b c p) [x, y, z] sp) = some p := by
                rw [List.find?_eq_some_iff_append]
                refine ⟨h1, perms.take i, perms.drop (i + 1), ?_, fun r hr => by rw [hno r hr]; rfl⟩
                have hi := (List.getElem?_eq_some_iff.mp hp)
                obtain ⟨hi, e⟩ := hi
                rw [← e, List.getElem_cons_drop, List.take_append_drop]
              unfold goesD
              rw [hf]
            rw [e] at q
            exact q
          · walk_at "go"
            refine ⟨rfl, _, rfl, fun r hr => ?_⟩
            rw [htk] at hr
            rcases List.mem_append.mp hr with hr | hr
            · exact hno r hr
            · rw [List.mem_singleton.mp hr]; exact h1
      · rintro ρ2 S2 ⟨rfl, u, rfl, hno⟩
        have hno' : ∀ p ∈ perms, fitB (tnl a b c p) [x, y, z] sp = false := fun p hp => hno p (by rw [List.length_map, List.take_length]; exact hp)
        have e : goesD a b c x y z sp = many (dn [a, b, c]) (dn [x, y, z]) sp 0 := by
          have hf : perms.find? (fun p => fitB (tnl a b c p) [x, y, z] sp) = none := by
            rw [List.find?_eq_none]
            exact fun p hp => by rw [hno' p hp]; decide
          unfold goesD
          rw [hf]
        rw [e] at q
        have l1 := dn_len [a, b, c]
        have l2 := dn_len [x, y, z]
        generalize e1 : dn [a, b, c] = l at q l1 ⊢
        generalize e2 : dn [x, y, z] = m at q l2 ⊢
        walk_at "go"
        refine vx_for (vi_enumT ?_)
        walk_at "go"
        refine ve_mt0 (XOk.none (E := noE)) ?_
        walk_at "go"
        refine ⟨_, .v, rfl, ?_⟩
        walk_at "go"
        refine ⟨_, _, _, rfl, ?_⟩
        rw [e1]
        walk_at "go"
        refine ⟨_, rfl, fun i ρ2 S3 => S3 = S2 ∧ ∃ u v, ρ2 = [some (sd C_Sides a b c), some (sd C_Sides x y z), some (.int sp), _, u, v] ∧ many (l.drop i) (m.drop i) sp i = many l m sp 0, ⟨rfl, _, _, rfl, rfl⟩, ?_, ?_⟩
        · rintro i d ρ2 S3 hd ⟨rfl, u, v, rfl, hmm⟩
          obtain ⟨d', hd', rfl⟩ := enumD_get hd
          rw [List.getElem?_map] at hd'
          cases hp : l[i]? with
          | none => rw [hp] at hd'; cases hd'
          | some n =>
            rw [hp] at hd'
            cases hd'
            have hi := (List.getElem?_eq_some_iff.mp hp).1
            have hi2 : i < m.length := by rw [l2]; rw [l1] at hi; exact hi
            have hm2 : m[i]? = some m[i] := List.getElem?_eq_getElem hi2
            generalize m[i] = t at hm2
            have dl : l.drop i = n :: l.drop (i + 1) := by rw [List.drop_eq_getElem_cons hi]; rw [List.getElem?_eq_getElem hi] at hp; cases hp; rfl
            have dm : m.drop i = t :: m.drop (i + 1) := by rw [List.drop_eq_getElem_cons hi2]; rw [List.getElem?_eq_getElem hi2] at hm2; cases hm2; rfl
            rw [dl, dm] at hmm
            walk_at "go"
            refine ve_mt0 (XOk.none (E := noE)) ?_
            walk_at "go"
            refine ⟨_, .v, rfl, ?_⟩
            walk_at "go"
            refine ⟨_, _, _, rfl, ?_⟩
            rw [e2]
            walk_at "go"
            refine rv_ixT (d := .int t) (atI_nat (by rw [List.getElem?_map, hm2]; rfl)) ?_
            walk_at "go"
            refine br (fun h1 => ?_) (fun h1 => ?_)
            · walk_at "go"
              refine ⟨by show 3 ≤ sizeLine; decide, ?_⟩
              have e3 : many (n :: l.drop (i + 1)) (t :: m.drop (i + 1)) sp i = .tup [.str "many", .int ((i : Int) + 1), .int (n + sp)] := if_pos h1
              rw [← hmm, e3] at q
              exact q
            · walk_at "go"
              refine ⟨rfl, _, _, rfl, ?_⟩
              rw [← hmm]
              exact (if_neg h1).symm
        · rintro ρ2 S3 ⟨rfl, u, v, rfl, hmm⟩
          rw [enumD_len, List.length_map, List.drop_length] at hmm
          have e3 : many [] (m.drop l.length) sp l.length = .tup [.str "many", .int 0, .int 0] := rfl
          rw [e3] at hmm
          rw [← hmm] at q
          walk_at "go"
          exact ⟨by show 3 ≤ sizeLine; decide, q⟩) only [↓VS.box]
end
end LW
namespace LW
open PySem L2 C8 PySem.Spec PyProof.Rows VS
/-! ### turning and ranking, plain -/
theorem fit_iff {a b c x y z sp i j k : Int} : fitB (tnl a b c [i, j, k]) [x, y, z] sp = true ↔ tn a b c i + sp ≤ x ∧ tn a b c j + sp ≤ y ∧ tn a b c k + sp ≤ z := by
  show (decide (_ ≤ _) && (decide (_ ≤ _) && (decide (_ ≤ _) && true))) = true ↔ _
  simp only [Bool.and_eq_true, decide_eq_true_eq, and_true]
theorem tn012 {a b c : Int} : tn a b c 0 = a ∧ tn a b c 1 = b ∧ tn a b c 2 = c := ⟨rfl, rfl, rfl⟩
theorem perm_cases {p : List Int} (h : p ∈ perms) : p = [0, 1, 2] ∨ p = [0, 2, 1] ∨ p = [1, 0, 2] ∨ p = [1, 2, 0] ∨ p = [2, 0, 1] ∨ p = [2, 1, 0] := by
  simpa only [perms, List.mem_cons, List.not_mem_nil, or_false] using h
/-- two numbers the same but for their order -/
theorem perm2 {a b x y : Int} (h : [a, b].Perm [x, y]) : (x = a ∧ y = b) ∨ (x = b ∧ y = a) := by
  have hx : x ∈ [a, b] := h.mem_iff.mpr (List.mem_cons_self ..)
  simp only [List.mem_cons, List.not_mem_nil, or_false] at hx
  rcases hx with rfl | rfl
  · have := h.cons_inv
    exact .inl ⟨rfl, (List.singleton_perm_singleton.mp this).symm⟩
  · have := ((List.Perm.swap _ _ _).symm.trans h).cons_inv
    exact .inr ⟨rfl, (List.singleton_perm_singleton.mp this).symm⟩
theorem perm3 {a b c x y z : Int} (h : [a, b, c].Perm [x, y, z]) : ∃ p ∈ perms, [x, y, z] = tnl a b c p := by
  have hx : x ∈ [a, b, c] := h.mem_iff.mpr (List.mem_cons_self ..)
  simp only [List.mem_cons, List.not_mem_nil, or_false] at hx
  rcases hx with rfl | rfl | rfl
  · rcases perm2 h.cons_inv with ⟨rfl, rfl⟩ | ⟨rfl, rfl⟩
    · exact ⟨[0, 1, 2], by decide, rfl⟩
    · exact ⟨[0, 2, 1], by decide, rfl⟩
  · have h2 : [a, c].Perm [y, z] := ((List.Perm.swap a x [c]).trans h).cons_inv
    rcases perm2 h2 with ⟨rfl, rfl⟩ | ⟨rfl, rfl⟩
    · exact ⟨[1, 0, 2], by decide, rfl⟩
    · exact ⟨[1, 2, 0], by decide, rfl⟩
  · have h1 : [x, a, b].Perm [a, b, x] := List.perm_append_comm (l₁ := [x]) (l₂ := [a, b])
    have h2 : [a, b].Perm [y, z] := (h1.trans h).cons_inv
    rcases perm2 h2 with ⟨rfl, rfl⟩ | ⟨rfl, rfl⟩
    · exact ⟨[2, 0, 1], by decide, rfl⟩
    · exact ⟨[2, 1, 0], by decide, rfl⟩
theorem up3 (a b c : Int) : ∃ u v w, up [a, b, c] = [u, v, w] ∧ u ≤ v ∧ v ≤ w ∧ ∃ p ∈ perms, [a, b, c] = tnl u v w p := by
  have hp := up_perm [a, b, c]
  have hs := up_sorted [a, b, c]
  have hl := up_len [a, b, c]
  match e : up [a, b, c], hl, hs, hp with
  | [u, v, w], _, hs, hp =>
    refine ⟨u, v, w, rfl, ?_, ?_, perm3 hp⟩
    · exact (List.pairwise_cons.mp hs).1 v (by simp)
    · exact (List.pairwise_cons.mp (List.pairwise_cons.mp hs).2).1 w (by simp)
/-- turned twice -/
def comp (p q : List Int) : List Int := match p with
  | [i, j, k] => tnl i j k q
  | _ => []
theorem comp_mem : ∀ p ∈ perms, ∀ q ∈ perms, comp p q ∈ perms := by decide
theorem comp_ex : ∀ p ∈ perms, ∀ r ∈ perms, ∃ q ∈ perms, comp p q = r := by decide
theorem comp_of {a b c i j k : Int} {q : List Int} (hp : [i, j, k] ∈ perms) (hq : q ∈ perms) : tnl (tn a b c i) (tn a b c j) (tn a b c k) q = tnl a b c (comp [i, j, k] q) := by
  rcases perm_cases hq with rfl | rfl | rfl | rfl | rfl | rfl <;> rfl
def go (a b c x y z sp : Int) : Bool := perms.any fun p => fitB (tnl a b c p) [x, y, z] sp
theorem go_iff {a b c x y z sp : Int} : go a b c x y z sp = true ↔ ∃ p ∈ perms, fitB (tnl a b c p) [x, y, z] sp = true := List.any_eq_true
/-- rank by rank -/
def rk (l m : List Int) (sp : Int) : Bool := match l, m with
  | [u, v, w], [x, y, z] => decide (u + sp ≤ x) && (decide (v + sp ≤ y) && decide (w + sp ≤ z))
  | _, _ => false
theorem rk_iff {u v w x y z sp : Int} : rk [u, v, w] [x, y, z] sp = true ↔ u + sp ≤ x ∧ v + sp ≤ y ∧ w + sp ≤ z := by
  show (decide _ && (decide _ && decide _)) = true ↔ _
  simp only [Bool.and_eq_true, decide_eq_true_eq]
theorem go_rank (a b c x y z sp : Int) : go a b c x y z sp = rk (up [a, b, c]) (up [x, y, z]) sp := by
  obtain ⟨u, v, w, e1, uv, vw, p, hp, ep⟩ := up3 a b c
  obtain ⟨u', v', w', e2, uv', vw', q, hq, eq⟩ := up3 x y z
  rw [e1, e2]
  obtain ⟨i, j, k, rfl, _⟩ := perm_len hp
  obtain ⟨i', j', k', rfl, _⟩ := perm_len hq
  have ea : a = tn u v w i ∧ b = tn u v w j ∧ c = tn u v w k := by
    injection ep with h1 ep; injection ep with h2 ep; injection ep with h3 ep
    exact ⟨h1, h2, h3⟩
  have ex : x = tn u' v' w' i' ∧ y = tn u' v' w' j' ∧ z = tn u' v' w' k' := by
    injection eq with h1 ep; injection ep with h2 ep; injection ep with h3 ep
    exact ⟨h1, h2, h3⟩
  obtain ⟨ra, rb, rc⟩ := ea
  obtain ⟨rx, ry, rz⟩ := ex
  have key : go a b c x y z sp = true ↔ ∃ r ∈ perms, fitB (tnl u v w r) [x, y, z] sp = true := by
    rw [go_iff]
    constructor
    · rintro ⟨r, hr, h⟩
      refine ⟨comp [i, j, k] r, comp_mem _ hp _ hr, ?_⟩
      rw [← comp_of hp hr, ← ra, ← rb, ← rc]
      exact h
    · rintro ⟨r, hr, h⟩
      obtain ⟨s, hs, es⟩ := comp_ex _ hp _ hr
      refine ⟨s, hs, ?_⟩
      rw [ra, rb, rc, comp_of hp hs, es]
      exact h
  have fin : (∃ r ∈ perms, fitB (tnl u v w r) [x, y, z] sp = true) ↔ rk [u, v, w] [u', v', w'] sp = true := by
    rw [rk_iff]
    obtain ⟨t0, t1, t2⟩ := @tn012 u v w
    obtain ⟨s0, s1, s2⟩ := @tn012 u' v' w'
    constructor
    · rintro ⟨r, hr, h⟩
      rcases perm_cases hr with rfl | rfl | rfl | rfl | rfl | rfl <;>
        (have f := fit_iff.mp h; rw [t0, t1, t2, rx, ry, rz] at f; rcases perm_cases hq with e | e | e | e | e | e <;> (injection e with e1 e; injection e with e2 e; injection e with e3 e; subst e1 e2 e3; rw [s0, s1, s2] at f; omega))
    · intro f
      refine ⟨[i', j', k'], hq, ?_⟩
      rw [fit_iff, rx, ry, rz]
      rcases perm_cases hq with e | e | e | e | e | e <;> (injection e with e1 e; injection e with e2 e; injection e with e3 e; subst e1 e2 e3; rw [t0, t1, t2, s0, s1, s2]; omega)
  exact Bool.eq_iff_iff.mpr (key.trans fin)
theorem many_head {l m : List Int} {sp : Int} : ∀ {r : Nat}, ∃ th, many l m sp r = .tup (.str "many" :: th) := by
  induction l generalizing m with
  | nil => exact fun {r} => ⟨_, by unfold many; rfl⟩
  | cons a l ih =>
    intro r
    cases m with
    | nil => exact ⟨_, by unfold many; rfl⟩
    | cons x m =>
      unfold many
      split
      · exact ⟨_, rfl⟩
      · exact ih
theorem goes_head (a b c x y z sp : Int) : ∃ w th, goesD a b c x y z sp = .tup (.str w :: th) ∧ decide (w = ("turn" : Str)) = go a b c x y z sp := by
  cases h : perms.find? (fun p => fitB (tnl a b c p) [x, y, z] sp) with
  | some p =>
    refine ⟨"turn", [.tup (p.map D.int)], by unfold goesD; rw [h], ?_⟩
    have g : go a b c x y z sp = true := go_iff.mpr ⟨p, List.mem_of_find?_eq_some h, by simpa using List.find?_some h⟩
    rw [g]
    decide
  | none =>
    obtain ⟨th, e⟩ := many_head (l := dn [a, b, c]) (m := dn [x, y, z]) (sp := sp) (r := 0)
    refine ⟨"many", th, by unfold goesD; rw [h]; exact e, ?_⟩
    have g : go a b c x y z sp = false := by
      rw [Bool.eq_false_iff]
      intro q
      obtain ⟨p, hp, f⟩ := go_iff.mp q
      have := List.find?_eq_none.mp h p hp
      exact this f
    rw [g]
    decide
end LW
namespace LW
open PySem L2 C8 PySem.Spec PyProof.Rows VS
/-- a purse: after n draws at most -/
def Pu (S : Sto) (p : Addr) (n : Int) : Prop := ∃ a b c : Int, S p = some (.lst [.int a, .int b, .int c]) ∧ 0 ≤ b ∧ b < 2147483648 ∧ 0 ≤ c ∧ c ≤ n
def Off (p : Addr) (S S' : Sto) : Prop := ∀ q, q ≠ p → S' q = S q
theorem Off.refl {p : Addr} {S : Sto} : Off p S S := fun _ _ => rfl
theorem Off.trans {p : Addr} {S S' S'' : Sto} (a : Off p S S') (b : Off p S' S'') : Off p S S'' := fun q h => (b q h).trans (a q h)
theorem Off.put {p : Addr} {S : Sto} {d : D} : Off p S (put S p d) := fun _ h => put_ne h
theorem Off.ex1 {p : Addr} {S S' : Sto} (o : Off p S S') : Ex1 p S S' := fun q d n h => (o q n).trans h
theorem Pu.mono {S : Sto} {p : Addr} {n m : Int} (h : Pu S p n) (l : n ≤ m) : Pu S p m := by
  obtain ⟨a, b, c, h1, h2, h3, h4, h5⟩ := h
  exact ⟨a, b, c, h1, h2, h3, h4, by omega⟩
theorem Pu.off {S S' : Sto} {p q : Addr} {n : Int} (h : Pu S p n) (o : Off q S S') (ne : p ≠ q) : Pu S' p n := by
  obtain ⟨a, b, c, h1, h2⟩ := h
  exact ⟨a, b, c, (o p ne).trans h1, h2⟩
def p__law_take : Pt := fun ds S G _ => ∃ (p : Addr) (n m : Int), ds = [.ref p, .int m] ∧ Pu S p n ∧ n < 1000000 ∧ 0 < m ∧ m < 2 ^ 64 ∧ ∀ (d : Int) (S' : Sto), 0 ≤ d → d < m → Pu S' p (n + 1) → Off p S S' → G (.int d) S'
def p__law_cell : Pt := fun ds S G _ => ∃ (ns : List Int) (k : Nat), ds = [.rol (ns.map .int), .int k] ∧ k < 1000 ∧ ∀ z : Int, G (.int z) S
def p__law_purse : Pt := fun ds S G _ => ∃ z : Int, ds = [.int z] ∧ ∀ (p : Addr) (S' : Sto), S p = none → Pu S' p 0 → Off p S S' → G (.ref p) S'
section
variable {P : Program} {w : World} {K : PySem.W.Frag} {mg : Str → Option Value} {base : Heap}
theorem ok__law_cell {f : Addr} {fd : FuncData} {C_Sides C_Parcel C_Heap C_Nest C_NoNumber C_NoSide C_NoSides C_NoOrder C_NoParcel C_NotInHeap C_NoNest C_Unnested : Addr}
    (F : Fd K "_law_cell" "_law_cell" s__law_cell [] f fd) (T : Tx K mg) (hsys : SysOk base) :
    FnG P w K mg base (L2.CX P w) 1 f fd a__law_cell (spOf K p__law_cell) := by
  refine VS.unbox ?_
  simp (disch := with_unfolding_all
    refine fn_val F sc__law_cell (fun ds S G Y h => ?_) (fun cdv A hgd outer s H E hr px tk po ds S G Y h => ?_)
    · obtain ⟨ns, k, rfl, _⟩ := h
      rfl
    · obtain ⟨ns, k, rfl, hk, q⟩ := h
      refine ⟨_, (pss_cons (ps_if (pt_cmpR op_lt (pv 1) (pe_callB c_len (by rfl) T.b_len (by decide +kernel) (pa_cons (pv 0) pa_nil)) (nomark _)) (pss_one (ps_ret (pe_ix ix_list (pv 0) (pv 1) (fun _ _ => rfl))))
        pss_nil)
        (pss_one (ps_ret (pe_op op_add (pe_op op_mulW pe_int (pv 1)) pe_int)))), ?_⟩
      (try dsimp only [cxOf, List.map])
      show VX _ _ [_, _] _ _
      walk_at "go"
      refine rc_lenQ (.l .r) ?_
      walk_at "go"
      refine br (fun h1 => ?_) (fun h1 => ?_)
      · walk_at "go"
        have hl : k < ns.length := by
          rw [List.length_map] at h1
          omega
        refine rv_ixL .r (atI_nat (j := k) (by rw [List.getElem?_map, List.getElem?_eq_getElem hl]; rfl)) ?_
        exact q _
      · walk_at "go"
        exact q _) only [↓VS.box]
theorem ok__law_purse {f : Addr} {fd : FuncData} {C_Sides C_Parcel C_Heap C_Nest C_NoNumber C_NoSide C_NoSides C_NoOrder C_NoParcel C_NotInHeap C_NoNest C_Unnested : Addr}
    (F : Fd K "_law_purse" "_law_purse" s__law_purse [] f fd) (T : Tx K mg) (hsys : SysOk base) :
    FnG P w K mg base (L2.CX P w) 1 f fd a__law_purse (spOf K p__law_purse) := by
  refine VS.unbox ?_
  simp (disch := with_unfolding_all
    refine fn_val F sc__law_purse (fun ds S G Y h => ?_) (fun cdv A hgd outer s H E hr px tk po ds S G Y h => ?_)
    · obtain ⟨z, rfl, _⟩ := h
      rfl
    · obtain ⟨z, rfl, q⟩ := h
      refine ⟨_, (pss_one (ps_ret (pe_lst (pa_cons (pe_callB (c_max2 rfl) (by rfl) T.b_max (by decide +kernel) (pa_cons pe_int (pa_cons (pe_op op_sub (pv 0) (pe_op op_pow pe_int pe_int)) pa_nil))) (pa_cons (pe_op op_mod (pv 0) pe_int) (pa_cons pe_int pa_nil)))))), ?_⟩
      show VX _ _ [_] _ _
      walk_at "go"
      refine ve_lstc ?_
      walk_at "go"
      refine ⟨(by show 3 ≤ sizeLine; decide), fun p hp => q p _ hp ⟨_, _, _, put_same, Int.emod_nonneg _ (by decide), ?_, Int.le_refl _, Int.le_refl _⟩ .put⟩
      exact Int.lt_trans (Int.emod_lt_of_pos _ (by decide)) (by decide)) only [↓VS.box]
theorem ok__law_take {f : Addr} {fd : FuncData} {C_Sides C_Parcel C_Heap C_Nest C_NoNumber C_NoSide C_NoSides C_NoOrder C_NoParcel C_NotInHeap C_NoNest C_Unnested : Addr}
    (F : Fd K "_law_take" "_law_take" s__law_take [] f fd) (T : Tx K mg) (hsys : SysOk base) :
    FnG P w K mg base (L2.CX P w) 1 f fd a__law_take (spOf K p__law_take) := by
  refine VS.unbox ?_
  simp (disch := with_unfolding_all
    refine fn_val F sc__law_take (fun ds S G Y h => ?_) (fun cdv A hgd outer s H E hr px tk po ds S G Y h => ?_)
    · obtain ⟨p, n, m, rfl, _⟩ := h
      rfl
    · obtain ⟨p, n, m, rfl, ⟨a, b, c, hp, b0, b1, c0, c1⟩, hn, m0, m1, q⟩ := h
      refine ⟨_, (pss_cons (ps_if (pt_cmpR op_gt (pe_ix ix_list (pv 0) pe_int (fun _ _ => rfl)) pe_int (nomark _)) (pss_cons (ps_set (i := 2) sc__law_take.nd rfl (Or.inl rfl) (pe_op op_mod (pe_ix ix_list (pv 0) pe_int (fun _ _ => rfl)) (pv 1)))
        (pss_cons (ps_asg (pe_op op_fdivW (pe_ix ix_list (pv 0) pe_int (fun _ _ => rfl)) (pv 1)) (pg_sub (pv 0) pe_int set_list))
        (pss_one (ps_ret (pv 2)))))
        pss_nil)
        (pss_cons (ps_asg (pe_op op_add (pe_ix ix_list (pv 0) pe_int (fun _ _ => rfl)) pe_int) (pg_sub (pv 0) pe_int set_list))
        (pss_cons (ps_set (i := 3) sc__law_take.nd rfl (Or.inl rfl) (pe_op op_mod (pe_op op_pow (pe_op op_add (pe_op op_add (pe_ix ix_list (pv 0) pe_int (fun _ _ => rfl)) (pe_op op_mulW pe_int (pe_ix ix_list (pv 0) pe_int (fun _ _ => rfl)))) pe_int) pe_int) pe_int))
        (pss_cons (ps_set (i := 4) sc__law_take.nd rfl (Or.inl rfl) (pe_op op_mod (pe_op op_pow (pe_op op_add (pe_op op_mulW (pe_ix ix_list (pv 0) pe_int (fun _ _ => rfl)) (pe_ix ix_list (pv 0) pe_int (fun _ _ => rfl))) pe_int) pe_int) pe_int))
        (pss_one (ps_ret (pe_op op_mod (pe_op op_fdivW (pe_op op_add (pe_op op_mulW (pv 3) pe_int) (pv 4)) pe_int) (pv 1)))))))), ?_⟩
      (try dsimp only [cxOf, List.map])
      show VX _ _ [_, _, _, _, _] _ _
      walk_at "go"
      refine br (fun h1 => ?_) (fun h1 => ?_)
      · walk_at "go"
        refine ⟨_, 0, _, rfl, hp, rfl, ?_⟩
        walk_at "go"
        exact q _ _ (Int.emod_nonneg _ (by omega)) (Int.emod_lt_of_pos _ m0) ⟨_, _, _, put_same, b0, b1, c0, by omega⟩ .put
      · walk_at "go"
        refine ⟨_, 2, _, rfl, hp, rfl, ?_⟩
        have g1 : 0 ≤ b * (c + 1) := Int.mul_nonneg b0 (by omega)
        have g2 : b * (c + 1) ≤ 2147483648 * 1000001 := Int.mul_le_mul (by omega) (by omega) (by omega) (by decide)
        walk_at "go"
        exact q _ _ (Int.emod_nonneg _ (by omega)) (Int.emod_lt_of_pos _ m0) ⟨_, _, _, put_same, b0, b1, by omega, by omega⟩ .put) only [↓VS.box]
end
end LW
namespace LW
open PySem L2 C8 PySem.Spec PyProof.Rows VS
/-! ### the purse, further -/
theorem Pu.ne {S : Sto} {p l : Addr} {n : Int} (h : Pu S p n) (hl : S l = none) : p ≠ l := by
  obtain ⟨a, b, c, e, _⟩ := h
  exact ne_at e hl
theorem Pu.put {S : Sto} {p l : Addr} {n : Int} {d : D} (h : Pu S p n) (hl : S l = none) : Pu (put S l d) p n := by
  have ne := h.ne hl
  obtain ⟨a, b, c, e, r⟩ := h
  exact ⟨a, b, c, by rw [put_ne ne]; exact e, r⟩
theorem Pu.wr {S : Sto} {p l : Addr} {n : Int} {d : D} (h : Pu S p n) (ne : p ≠ l) : Pu (VS.put S l d) p n := by
  obtain ⟨a, b, c, e, r⟩ := h
  exact ⟨a, b, c, by rw [put_ne ne]; exact e, r⟩
theorem _root_.VS.Ex1.new {p l : Addr} {S S' : Sto} {d : D} (x : Ex1 p S S') (hl : S' l = none) : Ex1 p S (put S' l d) := fun q e n h => by
  have h' := x q e n h
  rw [put_ne]
  · exact h'
  · intro z; subst z; rw [hl] at h'; cases h'
theorem _root_.VS.Ex1.wr2 {p l : Addr} {S S' : Sto} {d : D} (x : Ex1 p S S') (hl : S l = none) : Ex1 p S (VS.put S' l d) := fun q e n h => by
  rw [put_ne]
  · exact x q e n h
  · intro z; subst z; rw [hl] at h; cases h
theorem _root_.VS.Ex1.dl {p l : Addr} {S S' : Sto} (x : Ex1 p S S') (hl : S l = none) : Ex1 p S (VS.del S' l) := fun q e n h => by
  rw [VS.del_ne]
  · exact x q e n h
  · intro z; subst z; rw [hl] at h; cases h
theorem list3 {α : Type} {xs : List α} (h : xs.length = 3) : ∃ a b c, xs = [a, b, c] := by
  match xs, h with
  | [a, b, c], _ => exact ⟨a, b, c, rfl⟩
theorem take_ok {S : Sto} {p : Addr} {n m : Int} {G : D → Sto → Prop} {Y : Addr → List (Str × D) → Sto → Prop} (h : Pu S p n) (hn : n < 1000000) (h0 : 0 < m) (h1 : m < 2 ^ 64)
    (q : ∀ (d : Int) (S' : Sto), 0 ≤ d → d < m → Pu S' p (n + 1) → Off p S S' → G (.int d) S') : p__law_take [.ref p, .int m] S G Y := ⟨p, n, m, rfl, h, hn, h0, h1, q⟩
theorem cell_ok {ns : List Int} {k : Nat} {S : Sto} {G : D → Sto → Prop} {Y : Addr → List (Str × D) → Sto → Prop} (hk : k < 1000) (q : ∀ z : Int, G (.int z) S) : p__law_cell [.rol (ns.map .int), .int k] S G Y := ⟨ns, k, rfl, hk, q⟩
theorem purse_ok {z : Int} {S : Sto} {G : D → Sto → Prop} {Y : Addr → List (Str × D) → Sto → Prop} (q : ∀ (p : Addr) (S' : Sto), S p = none → Pu S' p 0 → Off p S S' → G (.ref p) S') : p__law_purse [.int z] S G Y := ⟨z, rfl, q⟩
end LW
open LW
local macro_rules | `(tactic| walk_at "gp") => `(tactic| ((with_reducible apply take_ok); (· assumption); (· first | decide | omega); (· first | decide | omega); (· first | decide | omega)))
local macro_rules | `(tactic| walk_at "gp") => `(tactic| ((with_reducible apply cell_ok); (· omega); intro cell))
local macro_rules | `(tactic| walk_at "gp") => `(tactic| with_reducible refine purse_ok ?_)
namespace LW
open PySem L2 C8 PySem.Spec PyProof.Rows VS
/-- three sides as a list -/
def li (a b c : Int) : D := .lst [.int a, .int b, .int c]
def p__law_three : Pt := fun ds S G _ => ∃ (p : Addr) (n : Int), ds = [.ref p] ∧ Pu S p n ∧ n < 900000 ∧ ∀ a b c S', In1 a → In1 b → In1 c → Pu S' p (n + 20) → Ex1 p S S' → G (li a b c) S'
def p__law_turned : Pt := fun ds S G _ => ∃ a b c p, ds = [li a b c, .tup (p.map D.int)] ∧ p ∈ perms ∧ G (.lst ((tnl a b c p).map D.int)) S
def ordsD : List D := perms.map fun p => .tup (p.map D.int)
def p__law_orders : Pt := fun ds S G _ => ds = [] ∧ G (.lst ordsD) S
end LW
namespace LW
open PySem L2 C8 PySem.Spec PyProof.Rows VS
/-! ### data as whole numbers, orders, Sides -/
end LW
namespace LW
open PySem L2 C8 PySem.Spec PyProof.Rows VS
/-! ### promises met at once -/
theorem told_ok {CS : Addr} {a b c : Int} {S : Sto} {G : D → Sto → Prop} {Y : Addr → List (Str × D) → Sto → Prop} (q : G (.tup [.int a, .int b, .int c]) S) : p_told CS [sd CS a b c] S G Y := ⟨a, b, c, rfl, q⟩
theorem ranked_ok {CS : Addr} {a b c : Int} {S : Sto} {G : D → Sto → Prop} {Y : Addr → List (Str × D) → Sto → Prop} (q : G (.tup ((dn [a, b, c]).map D.int)) S) : p_ranked CS [sd CS a b c] S G Y := ⟨a, b, c, rfl, q⟩
/-- Sides made of good numbers, by value -/
theorem ve_mkSd {c : VS.Ctx} {ρ : Rho} {S : Sto} {F : D → Sto → Prop} {t : TA} {E : L2.St → XK} {CS CX : Addr}
    (h : VA c t ρ S fun ds S1 => ∃ a b d, ds = [.int a, .int b, .int d] ∧ In1 a ∧ In1 b ∧ In1 d ∧ F (sd CS a b d) S1) : VE c (tMakeE CS (spOf c.K (p_Sides_init c.K CS CX)) [] E t) ρ S F :=
  ve_mk0 XOk.none (h.imp fun ds S1 ⟨a, b, d, e, ha, hb, hd, q⟩ y hy => by
    subst e
    exact init_ok ha hb hd hy ⟨rfl, y, _, rfl, put_same, nofun, by rw [del_put2 hy]; exact q⟩)
theorem ex_sd {a b d : Int} {G : Int → Int → Int → Prop} (ha : In1 a) (hb : In1 b) (hd : In1 d) (q : G a b d) : ∃ a' b' d', ([.int a, .int b, .int d] : List D) = [.int a', .int b', .int d'] ∧ In1 a' ∧ In1 b' ∧ In1 d' ∧ G a' b' d' := ⟨a, b, d, rfl, ha, hb, hd, q⟩
theorem lturn_ok {a b c : Int} {o : List Int} {S : Sto} {G : D → Sto → Prop} {Y : Addr → List (Str × D) → Sto → Prop} (ho : o ∈ perms) (q : G (.lst ((tnl a b c o).map D.int)) S) : p__law_turned [li a b c, .tup (o.map D.int)] S G Y := ⟨a, b, c, o, rfl, ho, q⟩
theorem lords_ok {S : Sto} {G : D → Sto → Prop} {Y : Addr → List (Str × D) → Sto → Prop} (q : G (.lst ordsD) S) : p__law_orders [] S G Y := ⟨rfl, q⟩
theorem lthree_ok {S : Sto} {p : Addr} {n : Int} {G : D → Sto → Prop} {Y : Addr → List (Str × D) → Sto → Prop} (h : Pu S p n) (hn : n < 900000) (q : ∀ a b c S', In1 a → In1 b → In1 c → Pu S' p (n + 20) → Ex1 p S S' → G (li a b c) S') : p__law_three [.ref p] S G Y := ⟨p, n, rfl, h, hn, q⟩
theorem li_at {a b c : Int} : atI [D.int a, .int b, .int c] 0 = some (.int a) ∧ atI [D.int a, .int b, .int c] 1 = some (.int b) ∧ atI [D.int a, .int b, .int c] 2 = some (.int c) := ⟨rfl, rfl, rfl⟩
section
variable {c : VS.Ctx} {S : Sto} {F : D → Sto → Prop}
theorem isi_sd {mg : Str → Option Value} {CS : Addr} {a b d : Int} (k : Kl_Sides c.K mg CS) (q : F (.bl true) S) : RC c (rIsiZ c.K) [sd CS a b d, .ref CS] S F := rc_isiO (.i .v k.ins) k.ins.me q
end
end LW
open LW
local macro_rules | `(tactic| walk_at "gp") => `(tactic| with_reducible refine told_ok ?_)
local macro_rules | `(tactic| walk_at "gp") => `(tactic| with_reducible refine ranked_ok ?_)
local macro_rules | `(tactic| walk_at "gp") => `(tactic| with_reducible refine ve_mkSd ?_)
local macro_rules | `(tactic| walk_at "gp") => `(tactic| ((with_reducible refine ex_sd ?_ ?_ ?_ ?_); (· first | assumption | (unfold In1 at *; omega)); (· first | assumption | (unfold In1 at *; omega)); (· first | assumption | (unfold In1 at *; omega))))
local macro_rules | `(tactic| walk_at "gp") => `(tactic| ((with_reducible refine lturn_ok ?_ ?_); (· assumption)))
local macro_rules | `(tactic| walk_at "gp") => `(tactic| with_reducible refine lords_ok ?_)
local macro_rules | `(tactic| walk_at "gp") => `(tactic| ((with_reducible apply lthree_ok); (· assumption); (· first | decide | omega)))
local macro_rules | `(tactic| walk_at "gp") => `(tactic| ((with_reducible apply isi_sd); (· assumption)))
local macro_rules | `(tactic| walk_at "gp") => `(tactic| ((with_reducible apply rv_ixL); (· exact .v); (· with_reducible exact li_at.1)))
local macro_rules | `(tactic| walk_at "gp") => `(tactic| ((with_reducible apply rv_ixL); (· exact .v); (· with_reducible exact li_at.2.1)))
local macro_rules | `(tactic| walk_at "gp") => `(tactic| ((with_reducible apply rv_ixL); (· exact .v); (· with_reducible exact li_at.2.2)))
namespace LW
open PySem L2 C8 PySem.Spec PyProof.Rows VS
end LW
namespace LW
open PySem L2 C8 PySem.Spec PyProof.Rows VS
end LW
namespace LW
open PySem L2 C8 PySem.Spec PyProof.Rows VS
/-! ### data that may be shown and compared -/
structure Ok (d : D) (n k : Nat) : Prop where
  sh : Sh d n k
  s : SeqAt.shaped (pd d) = true
  l : ∀ zs, d = .tup zs → zs.length ≤ 1000
theorem Ok.mono {d : D} {n m k j : Nat} (h : Ok d n k) (a : n ≤ m) (b : k ≤ j) : Ok d m j := ⟨h.sh.mono a b, h.s, h.l⟩
theorem ok_all {n k : Nat} : ∀ {ys : List D}, (∀ y ∈ ys, Ok y n k) → ShL ys (ys.length * (n + 2)) k ∧ PyData.canLayAll0 (pdL ys) = true ∧ PyData.depthAll (pdL ys) ≤ k
  | [], _ => ⟨ShL.nil.mono (Nat.zero_le _) (Nat.zero_le _), rfl, Nat.zero_le _⟩
  | y :: ys, h => by
    obtain ⟨a, b, c⟩ := ok_all (ys := ys) fun z hz => h z (List.mem_cons_of_mem _ hz)
    have hy := h y (List.mem_cons_self ..)
    have s' : ((pd y).canLay0 && decide ((pd y).depth ≤ 64)) = true := hy.s
    rw [Bool.and_eq_true] at s'
    refine ⟨(ShL.cons hy.sh a).mono (by rw [List.length_cons, Nat.succ_mul]; omega) (Nat.max_le.mpr ⟨Nat.le_refl _, Nat.le_refl _⟩), ?_, Nat.max_le.mpr ⟨hy.sh.d, c⟩⟩
    show ((pd y).canLay0 && PyData.canLayAll0 (pdL ys)) = true
    rw [s'.1, b]; rfl
theorem Ok.tup {ys : List D} {n k : Nat} (m : Nat) (h : ∀ y ∈ ys, Ok y n k) (hl : ys.length ≤ m) (hm : m ≤ 1000) (hk : k + 1 ≤ 64) : Ok (.tup ys) (m * (n + 2) + 3) (k + 1) := by
  obtain ⟨a, b, c⟩ := ok_all h
  refine ⟨Sh.tup (a.mono (Nat.mul_le_mul_right _ hl) (Nat.le_refl _)), ?_, fun zs e => by injection e with e; rw [← e]; omega⟩
  show (PyData.canLayAll0 (pdL ys) && decide (PyData.depthAll (pdL ys) + 1 ≤ 64)) = true
  rw [b, decide_eq_true (by omega)]; rfl
theorem Ok.lst {ys : List D} {n k : Nat} (m : Nat) (h : ∀ y ∈ ys, Ok y n k) (hl : ys.length ≤ m) (hk : k + 1 ≤ 64) : Ok (.lst ys) (m * (n + 2) + 2) (k + 1) := by
  obtain ⟨a, b, c⟩ := ok_all h
  refine ⟨Sh.lst (a.mono (Nat.mul_le_mul_right _ hl) (Nat.le_refl _)), ?_, nofun⟩
  show (PyData.canLayAll0 (pdL ys) && decide (PyData.depthAll (pdL ys) + 1 ≤ 64)) = true
  rw [b, decide_eq_true (by omega)]; rfl
theorem ok_int {i : Int} (h : -(2 ^ 60) ≤ i ∧ i ≤ 2 ^ 60) : Ok (.int i) 200 2 := ⟨(Sh.int (k := 64) (by omega) (by decide) (by decide)).mono (by decide) (by decide), rfl, nofun⟩
theorem all2 {Q : D → Prop} {a b : D} (h1 : Q a) (h2 : Q b) : ∀ y ∈ [a, b], Q y := fun y hy => by
  simp only [List.mem_cons, List.not_mem_nil, or_false] at hy
  rcases hy with rfl | rfl <;> assumption
theorem all3 {Q : D → Prop} {a b c : D} (h1 : Q a) (h2 : Q b) (h3 : Q c) : ∀ y ∈ [a, b, c], Q y := fun y hy => by
  simp only [List.mem_cons, List.not_mem_nil, or_false] at hy
  rcases hy with rfl | rfl | rfl <;> assumption
end LW
namespace LW
open PySem L2 C8 PySem.Spec PyProof.Rows VS
end LW
namespace LW
open PySem L2 C8 PySem.Spec PyProof.Rows VS
/-! ### names -/
def lcN (n : Nat) : Bool := decide (n ∈ ("abcdefghijklmnopqrstuvwxyz" : Str).cps.toList)
def lcs (x : Str) : Bool := x.cps.toList.all lcN
def nmB (x : Str) : Bool := (decide (1 ≤ (x.length : Int)) && decide ((x.length : Int) ≤ 8)) && lcs x
def p_is_name (K : PySem.W.Frag) : Pt := fun ds S G _ => ∃ d, ds = [d] ∧ ((∃ x : Str, d = .str x ∧ x.length ≤ 100000 ∧ G (.bl (nmB x)) S) ∨ ∃ t, OfC K S d t ∧ PySem.W.kitOne K t (.type "str") = some false ∧ G (.bl false) S)
theorem lcN_iff {n : Nat} : lcN n = true ↔ 97 ≤ n ∧ n ≤ 122 := by
  unfold lcN
  rw [decide_eq_true_eq]
  have e : ("abcdefghijklmnopqrstuvwxyz" : Str).cps.toList = [97, 98, 99, 100, 101, 102, 103, 104, 105, 106, 107, 108, 109, 110, 111, 112, 113, 114, 115, 116, 117, 118, 119, 120, 121, 122] := by decide +kernel
  rw [e]
  simp only [List.mem_cons, List.not_mem_nil, or_false]
  omega
theorem sum_le {n : Nat} : ∀ {ys : List Str}, (∀ y ∈ ys, y.length ≤ n) → (ys.map (·.length)).sum ≤ n * ys.length
  | [], _ => Nat.zero_le _
  | y :: ys, h => by
    have a := h y (.head _)
    have b := sum_le fun z hz => h z (.tail _ hz)
    rw [List.map_cons, List.sum_cons, List.length_cons, Nat.mul_succ]
    omega
/-- a word: small letters alone -/
def Lw (n : Nat) (z : Str) : Prop := z.length ≤ n ∧ ∀ c ∈ z.cps.toList, lcN c = true
theorem Lw.asc {n : Nat} {z : Str} (h : Lw n z) : Asc n z := ⟨h.1, fun c hc => by have := (lcN_iff.mp (h.2 c hc)).2; omega⟩
theorem Lw.mono {n m : Nat} {z : Str} (h : Lw n z) (l : n ≤ m) : Lw m z := ⟨Nat.le_trans h.1 l, h.2⟩
theorem Lw.add {n m : Nat} {x y : Str} (h : Lw n x) (k : Lw m y) : Lw (n + m) (x ++ y) := by
  refine ⟨by rw [len_add]; exact Nat.add_le_add h.1 k.1, fun c hc => ?_⟩
  rw [tl_add] at hc
  exact (List.mem_append.mp hc).elim (h.2 c) (k.2 c)
theorem Lw.cut {n : Nat} {x : Str} (h : Lw n x) (lo hi : Option Int) : Lw n (cutS x lo hi) := by
  refine ⟨Nat.le_trans (cutS_length x lo hi) h.1, fun c hc => h.2 c ?_⟩
  have hc' : c ∈ (x.cps.toList.drop (HT.sIx x.length 0 lo)).take (HT.sIx x.length x.length hi - HT.sIx x.length 0 lo) := hc
  exact List.mem_of_mem_drop (List.mem_of_mem_take hc')
theorem Lw.join0 {n : Nat} {ys : List Str} (h : ∀ y ∈ ys, Lw 1 y) (hl : ys.length ≤ n) : Lw n (Txt.join ("" : Str) ys) := by
  refine ⟨(Asc.join0 (fun y hy => (h y hy).asc) hl).1, fun c hc => ?_⟩
  rw [tl_join0] at hc
  obtain ⟨l, hl1, hl2⟩ := List.mem_flatten.mp hc
  obtain ⟨y, hy, rfl⟩ := List.mem_map.mp hl1
  exact (h y hy).2 c hl2
theorem Lw.one {n : Nat} (h : lcN n = true) : Lw 1 ⟨#[n]⟩ := ⟨Nat.le_refl _, fun c hc => by
  have : c = n := by simpa using hc
  rw [this]; exact h⟩
theorem Lw.lit {n : Nat} {z : Str} (h : (decide (z.length ≤ n) && z.cps.toList.all lcN) = true) : Lw n z := by
  rw [Bool.and_eq_true, decide_eq_true_eq, List.all_eq_true] at h
  exact ⟨h.1, fun c hc => h.2 c hc⟩
theorem join0_len {ys : List Str} {n : Nat} (h : ∀ y ∈ ys, y.length = 1) (hl : ys.length = n) : (Txt.join ("" : Str) ys).length = n := by
  rw [← str_len, tl_join0, List.length_flatten, List.map_map, ← hl]
  clear hl
  induction ys with
  | nil => rfl
  | cons y ys ih =>
    rw [List.map_cons, List.sum_cons, ih fun z hz => h z (.tail _ hz), List.length_cons]
    have a := h y (.head _)
    rw [← str_len] at a
    show y.cps.toList.length + _ = _
    omega
/-- a good name -/
def Nm (z : Str) : Prop := Lw 8 z ∧ 1 ≤ z.length
theorem Nm.ok {z : Str} (h : Nm z) : nmB z = true := by
  unfold nmB lcs
  rw [decide_eq_true (by have := h.2; omega), decide_eq_true (by have := h.1.1; omega), List.all_eq_true.mpr h.1.2]
  rfl
theorem cut_len (z : Str) (k : Nat) : (cutS z none (some (k : Int))).length = min k z.length := by
  rw [← str_len]
  show ((z.cps.toList.drop 0).take (HT.sIx z.length z.length (some (k : Int)) - 0)).length = _
  rw [HT.sIx_nat, List.length_take, List.drop_zero, str_len]
  omega
theorem cut_lenR (z : Str) (k : Nat) : (cutS z (some (k : Int)) none).length = z.length - min k z.length := by
  rw [← str_len]
  show ((z.cps.toList.drop (HT.sIx z.length 0 (some (k : Int)))).take (z.length - HT.sIx z.length 0 (some (k : Int)))).length = _
  rw [HT.sIx_nat, List.length_take, List.length_drop, str_len]
  omega
theorem lett_at {i : Int} (h0 : 0 ≤ i) (h1 : i < 26) : ∃ n, atI ("abcdefghijklmnopqrstuvwxyz" : Str).cps.toList i = some n ∧ lcN n = true := by
  obtain ⟨n, hn, e⟩ := atI_mem (xs := ("abcdefghijklmnopqrstuvwxyz" : Str).cps.toList) h0 (by rw [show ("abcdefghijklmnopqrstuvwxyz" : Str).cps.toList.length = 26 from by decide +kernel]; exact h1)
  exact ⟨n, e, decide_eq_true hn⟩
def lcD : D → D
  | .str y => .bl (lcN (y.cps.toList.headD 0))
  | _ => .non
theorem lcD_signs (x : Str) : (signsD x).map lcD = (x.cps.toList.map lcN).map D.bl := by
  unfold signsD
  rw [List.map_map, List.map_map]
  rfl
theorem lcs_all (x : Str) : (x.cps.toList.map lcN).all id = lcs x := by
  unfold lcs
  rw [List.all_map]
  rfl
theorem name_ok {K : PySem.W.Frag} {x : Str} {S : Sto} {G : D → Sto → Prop} {Y : Addr → List (Str × D) → Sto → Prop} (h : nmB x = true) (hl : x.length ≤ 100000) (q : G (.bl true) S) : p_is_name K [.str x] S G Y :=
  ⟨_, rfl, .inl ⟨x, rfl, hl, by rw [h]; exact q⟩⟩
section
variable {P : Program} {w : World} {K : PySem.W.Frag} {mg : Str → Option Value} {base : Heap}
theorem ok_is_name {f : Addr} {fd : FuncData} {C_Sides C_Parcel C_Heap C_Nest C_NoNumber C_NoSide C_NoSides C_NoOrder C_NoParcel C_NotInHeap C_NoNest C_Unnested : Addr}
    (F : Fd K "is_name" "is_name" s_is_name [] f fd) (T : Tx K mg) (hsys : SysOk base) :
    FnG P w K mg base (L2.CX P w) 1 f fd a_is_name (spOf K (p_is_name K)) := by
  refine VS.unbox ?_
  simp (disch := with_unfolding_all
    refine fn_val F sc_is_name (fun ds S G Y h => ?_) (fun cdv A hgd outer s H E hr px tk po ds S G Y h => ?_)
    · obtain ⟨d, rfl, _⟩ := h
      rfl
    · obtain ⟨d, rfl, h⟩ := h
      refine ⟨_, (pss_cons (ps_if (PW.pt (pw_or (pt_not (pt_val (pe_callB c_isiZ (by rfl) T.b_isinstance (by decide +kernel) (pa_cons (pv 0) (pa_cons (pe_bltn (v := .ty "str") (by rfl) T.b_str (by decide +kernel) rfl) pa_nil))))) (pw_or1 (pt_not (pt_chain op_le op_le pe_int (pe_callB c_len (by rfl) T.b_len (by decide +kernel) (pa_cons (pv 0) pa_nil)) pe_int))))) (pss_one (ps_ret pe_bl))
        pss_nil)
        (pss_one (ps_ret (pe_callB (cr_all rfl) (by rfl) T.b_all (by decide +kernel) (pa_cons (pe_lc (own := [("sign", 1)]) rfl sc_is_name.nd (pi_str (pv 0)) (blkOk_by (own := [("sign", 1)]) (N := n_is_name) (sc := defScope s_is_name) (by decide +kernel)) (fun _ _ _ _ _ => (pg_name (i := 1) sc_is_name.nd rfl (Or.inl rfl))) (fun _ _ _ _ _ => pts_nil) (fun _ _ _ _ _ => (pe_cmpR op_inStr (pv 1) (pe_gc (by rfl) T.c_LETTERS) (by rfl)))) pa_nil))))), ?_⟩
      (try dsimp only [cxOf, List.map])
      show VX _ _ [_, _] _ _
      walk_at "ga"
      rcases h with ⟨x, rfl, hl, q⟩ | ⟨t, ot, kt, q⟩
      · walk_at "ga"
        have no : ¬ (1 ≤ (x.length : Int) ∧ (x.length : Int) ≤ 8) → nmB x = false := fun z => by
          unfold nmB
          by_cases z1 : 1 ≤ (x.length : Int)
          · by_cases z2 : (x.length : Int) ≤ 8
            · exact absurd ⟨z1, z2⟩ z
            · rw [decide_eq_false z2, Bool.and_false, Bool.false_and]
          · rw [decide_eq_false z1, Bool.false_and, Bool.false_and]
        refine br (fun h1 => ?_) (fun h1 => ?_)
        · walk_at "ga"
          refine brN (fun h2 => ?_) (fun h2 => ?_)
          · walk_at "ga"
            rw [no (fun z => h2 z.2)] at q
            exact q
          · walk_at "ga"
            refine ve_lcM lcD (vi_str ?_)
            walk_at "ga"
            refine ⟨by unfold signsD; rw [List.length_map]; show x.cps.size ≤ 100000; exact hl, fun d hd => ?_, ?_⟩
            · obtain ⟨n, _, rfl⟩ := List.mem_map.mp hd
              walk_at "ga"
              refine ⟨rfl, ?_⟩
              walk_at "ga"
              exact ⟨rfl, rfl⟩
            · rw [lcD_signs]
              walk_at "ga"
              refine rc_all (bs := x.cps.toList.map lcN) .v ?_
              walk_at "ga"
              rw [lcs_all]
              have e : nmB x = lcs x := by
                unfold nmB
                rw [decide_eq_true h1, decide_eq_true h2, Bool.true_and, Bool.true_and]
              rw [← e]
              exact q
        · walk_at "ga"
          rw [no (fun z => h1 z.1)] at q
          exact q
      · refine rc_isiP ot kt ?_
        walk_at "ga"
        exact q) only [↓VS.box]
end
end LW
namespace LW
open PySem L2 C8 PySem.Spec PyProof.Rows VS
/-! ### parcels by value, well made -/
def labs : List Str := ["alone", "top", "upright"]
/-- good labels -/
structure Mk (ms : List Str) : Prop where
  l : ms.length ≤ 3
  e : ∀ m ∈ ms, m ∈ labs
  n : ms.Nodup
def mksOf (ms : List Str) : List Str := labs.filter fun m => decide (m ∈ ms)
def pcD (CP CS : Addr) (nm : Str) (a b c wl wt br : Int) (mk : List Str) : D := .ins CP [("called", .str nm), ("outside", sd CS a b c), ("thick", .int wl), ("heavy", .int wt), ("strong", .int br), ("marks", .lst (mk.map D.str))]
structure Pg (nm : Str) (a b c wl wt br : Int) (mk : List Str) : Prop where
  gn : nmB nm = true
  ln : nm.length ≤ 8
  a : In1 a
  b : In1 b
  c : In1 c
  wl : 1 ≤ wl ∧ wl ≤ 1000
  wt : 0 ≤ wt ∧ wt ≤ 100000
  br : 0 ≤ br ∧ br ≤ 100000
  lb : Mk mk
def p_are_labels : Pt := fun ds S G _ => ∃ ms : List Str, ds = [.lst (ms.map D.str)] ∧ Mk ms ∧ G (.bl true) S
def p_room_in (CS : Addr) : Pt := fun ds S G _ => ∃ a b c w, ds = [sd CS a b c, .int w] ∧ In1 a ∧ In1 b ∧ In1 c ∧ 1 ≤ w ∧ w ≤ 1000 ∧
  (min (min (a - 2 * w) (b - 2 * w)) (c - 2 * w) < 1 → G .non S) ∧ (¬ min (min (a - 2 * w) (b - 2 * w)) (c - 2 * w) < 1 → G (sd CS (a - 2 * w) (b - 2 * w) (c - 2 * w)) S)
def p_Pc_init (CP CS : Addr) : Pt := fun ds S G _ => ∃ y nm a b c wl wt br mk, ds = [.ref y, .str nm, sd CS a b c, .int wl, .int wt, .int br, .lst (mk.map D.str)] ∧ S y = some (.ins CP []) ∧ Pg nm a b c wl wt br mk ∧
  G .non (put S y (pcD CP CS nm a b c wl wt br (mksOf mk)))
def p_Pc_name (CP CS : Addr) : Pt := fun ds S G _ => ∃ nm a b c wl wt br mk, ds = [pcD CP CS nm a b c wl wt br mk] ∧ G (.str nm) S
def p_Pc_sides (CP CS : Addr) : Pt := fun ds S G _ => ∃ nm a b c wl wt br mk, ds = [pcD CP CS nm a b c wl wt br mk] ∧ G (sd CS a b c) S
abbrev noRoom (a b c w : Int) : Prop := min (min (a - 2 * w) (b - 2 * w)) (c - 2 * w) < 1
def p_Pc_room (CP CS : Addr) : Pt := fun ds S G _ => ∃ nm a b c wl wt br mk, ds = [pcD CP CS nm a b c wl wt br mk] ∧ Pg nm a b c wl wt br mk ∧ (noRoom a b c wl → G .non S) ∧ (¬ noRoom a b c wl → G (sd CS (a - 2 * wl) (b - 2 * wl) (c - 2 * wl)) S)
theorem flat_strs : ∀ ms : List Str, (ms.map D.str).all flatD = true
  | [] => rfl
  | m :: ms => by
    rw [List.map_cons, List.all_cons, flat_strs ms]
    rfl
theorem inD_strs {m : Str} (ms : List Str) : inD (.str m) (ms.map D.str) = decide (m ∈ ms) := by
  unfold inD
  rw [List.any_map, Bool.eq_iff_iff, List.any_eq_true, decide_eq_true_eq]
  exact ⟨fun ⟨x, hx, e⟩ => by have e : (x == m) = true := e; rw [← eq_of_beq e]; exact hx, fun h => ⟨m, h, by show (m == m) = true; exact beq_self_eq_true m⟩⟩
def pgoD (nm : Str) (a b c : Int) (mk : List Str) (nm' : Str) (x y z wl' : Int) (mk' : List Str) (sp : Int) : D :=
  if ("alone" : Str) ∈ mk then .tup [.str "alone", .str nm] else if ("alone" : Str) ∈ mk' then .tup [.str "alone", .str nm'] else
  if noRoom x y z wl' then .tup [.str "solid"] else goesD a b c (x - 2 * wl') (y - 2 * wl') (z - 2 * wl') sp
def p_Pc_goes (K : PySem.W.Frag) (CP CS CX CN : Addr) : Pt := fun ds S G Y => ∃ nm a b c wl wt br mk d sp, ds = [pcD CP CS nm a b c wl wt br mk, d, sp] ∧ Pg nm a b c wl wt br mk ∧
  ((∃ t, OfC K S d t ∧ PySem.W.kitOne K t (.ref CP) = some false ∧ Y CX [("found", d)] S) ∨
   ∃ nm' x y z wl' wt' br' mk', d = pcD CP CS nm' x y z wl' wt' br' mk' ∧ Pg nm' x y z wl' wt' br' mk' ∧ ∃ o, Wh K S sp o ∧ (whB o 0 1000 = false → Y CN [("found", sp)] S) ∧ ∀ i, sp = .int i → 0 ≤ i → i ≤ 1000 → G (pgoD nm a b c mk nm' x y z wl' mk' i) S)
theorem Pg.asc {nm : Str} {a b c wl wt br : Int} {mk : List Str} (g : Pg nm a b c wl wt br mk) : Asc 8 nm := by
  refine ⟨g.ln, fun c hc => ?_⟩
  have h := g.gn
  unfold nmB at h
  rw [Bool.and_eq_true] at h
  have h2 := List.all_eq_true.mp h.2 c hc
  have := (lcN_iff.mp h2).2
  omega
theorem labs_in {m : Str} : inD (.str m) [.str "alone", .str "top", .str "upright"] = decide (m ∈ labs) := by
  unfold inD labs
  simp only [List.any_cons, List.any_nil, Bool.or_false, List.mem_cons, List.not_mem_nil, or_false]
  rw [Bool.eq_iff_iff]
  simp only [eqD, Bool.or_eq_true, beq_iff_eq, decide_eq_true_eq]
  exact ⟨fun h => h.imp Eq.symm (·.imp Eq.symm Eq.symm), fun h => h.imp Eq.symm (·.imp Eq.symm Eq.symm)⟩
theorem wh_ok {K : PySem.W.Frag} {i lo hi : Int} (h : lo ≤ i ∧ i ≤ hi) {S : Sto} {G : D → Sto → Prop} {Y : Addr → List (Str × D) → Sto → Prop} (q : G (.bl true) S) : p_is_whole K [.int i, .int lo, .int hi] S G Y :=
  ⟨_, _, lo, hi, rfl, .i i, by rw [whB_of h]; exact q⟩
section
variable {P : Program} {w : World} {K : PySem.W.Frag} {mg : Str → Option Value} {base : Heap}
theorem ok_are_labels {f : Addr} {fd : FuncData} {C_Sides C_Parcel C_Heap C_Nest C_NoNumber C_NoSide C_NoSides C_NoOrder C_NoParcel C_NotInHeap C_NoNest C_Unnested : Addr}
    (F : Fd K "are_labels" "are_labels" s_are_labels [] f fd) (T : Tx K mg) (hsys : SysOk base) :
    FnG P w K mg base (L2.CX P w) 1 f fd a_are_labels (spOf K p_are_labels) := by
  refine VS.unbox ?_
  simp (disch := with_unfolding_all
    refine fn_val F sc_are_labels (fun ds S G Y h => ?_) (fun cdv A hgd outer s H E hr px tk po ds S G Y h => ?_)
    · obtain ⟨ms, rfl, _⟩ := h
      rfl
    · obtain ⟨ms, rfl, hm, q⟩ := h
      obtain ⟨aL, hL, rL⟩ := T.c_LABELS
      refine ⟨_, (pss_cons (ps_if (pt_cmpR op_isNo (pv 0) pe_non (nomark _)) (pss_one (ps_ret pe_bl))
        pss_nil)
        (pss_cons (ps_if (PW.pt (pw_or (pt_not (pt_val (pe_callB c_isiV (by rfl) T.b_isinstance (by decide +kernel) (pa_cons (pv 0) (pa_cons (pe_tup (pa_cons (pe_bltn (v := .ty "list") (by rfl) T.b_list (by decide +kernel) rfl) (pa_cons (pe_bltn (v := .ty "tuple") (by rfl) T.b_tuple (by decide +kernel) rfl) pa_nil))) pa_nil))))) (pw_or1 (pt_cmpR op_gt (pe_callB c_len (by rfl) T.b_len (by decide +kernel) (pa_cons (pv 0) pa_nil)) (pe_callB c_len (by rfl) T.b_len (by decide +kernel) (pa_cons (pe_kd (by rfl) hL) pa_nil)) (nomark _))))) (pss_one (ps_ret pe_bl))
        pss_nil)
        (pss_cons (ps_if (pt_not (pt_val (pe_callB (cr_all rfl) (by rfl) T.b_all (by decide +kernel) (pa_cons (pe_lc (own := [("word", 1)]) rfl sc_are_labels.nd (pi_list (pv 0)) (blkOk_by (own := [("word", 1)]) (N := n_are_labels) (sc := defScope s_are_labels) (by decide +kernel)) (fun _ _ _ _ _ => (pg_name (i := 1) sc_are_labels.nd rfl (Or.inl rfl))) (fun _ _ _ _ _ => pts_nil) (fun _ _ _ _ _ => (pe_and (pe_callB (kC (K := K) (r := rIsiZ) c_isiZ) (by rfl) T.b_isinstance (by decide +kernel) (pa_cons (pv 1) (pa_cons (pe_bltn (v := .ty "str") (by rfl) T.b_str (by decide +kernel) rfl) pa_nil))) (pe_one (pe_cmpR (kO (K := K) (r := (fun K => rIn K false)) op_in_seq) (pv 1) (pe_kd (by rfl) hL) (by rfl)))))) pa_nil)))) (pss_one (ps_ret pe_bl))
        pss_nil)
        (pss_one (ps_ret (pe_cmpR op_eq (pe_lenS (by rfl) T.b_len (by rfl) T.b_set (pv 0)) (pe_callB c_len (by rfl) T.b_len (by decide +kernel) (pa_cons (pv 0) pa_nil)) (nomark _))))))), ?_⟩
      (try dsimp only [cxOf, List.map])
      show VX _ _ [_, _] _ _
      walk_at "ga"
      refine rc_isiLT (.v (isP_strs ms)) ?_
      walk_at "ga"
      refine br (fun h => ?_) (fun _ => ?_)
      · have := hm.l
        simp only [List.length_map] at h
        have h : (ms.length : Int) > 3 := h
        omega
      walk_at "ga"
      refine ve_lcM (fun _ => .bl true) (vi_list ?_)
      walk_at "ga"
      refine ⟨_, .v, ?_⟩
      have len := hm.l
      refine ⟨by rw [List.length_map]; omega, fun d hd => ?_, ?_⟩
      · obtain ⟨m, hm', rfl⟩ := List.mem_map.mp hd
        have el := hm.e m hm'
        walk_at "ga"
        refine ⟨rfl, ?_⟩
        walk_at "ga"
        refine rv_in .t rfl rfl ?_
        rw [labs_in, decide_eq_true el]
        exact ⟨rfl, rfl⟩
      walk_at "ga"
      refine rc_all (bs := ms.map fun _ => true) (by rw [List.map_map, List.map_map]; exact .v) ?_
      walk_at "ga"
      have al : (ms.map fun _ => true).all id = true := by
        rw [List.all_eq_true]
        intro b hb
        obtain ⟨_, _, rfl⟩ := List.mem_map.mp hb
        rfl
      rw [al]
      walk_at "ga"
      refine ve_lenS ?_
      walk_at "ga"
      refine ⟨ms, .l .v, by omega, ?_⟩
      walk_at "ga"
      rw [unl_nodup hm.n _ (Nat.le_refl _), List.length_map, decide_eq_true rfl]
      exact q) only [↓VS.box]
theorem ok_room_in {f : Addr} {fd : FuncData} {C_Sides C_Parcel C_Heap C_Nest C_NoNumber C_NoSide C_NoSides C_NoOrder C_NoParcel C_NotInHeap C_NoNest C_Unnested : Addr} {f_Sides f_Sides_told : Addr} {g_Sides g_Sides_told : FuncData}
    (F : Fd K "room_in" "room_in" s_room_in [] f fd) (T : Tx K mg) (hsys : SysOk base)
    (c_Sides : Kf P w K mg base 3 "Sides" C_Sides "Sides.__init__" s_Sides___init__ [] a_Sides___init__ (p_Sides_init K C_Sides C_NoSide) f_Sides g_Sides)
    (c_Sides_told : Mf P w K mg base 1 C_Sides "told" "Sides.told" s_Sides_told [] a_Sides_told (p_told C_Sides) f_Sides_told g_Sides_told)
    (k_Sides : Kl_Sides K mg C_Sides) :
    FnG P w K mg base (L2.CX P w) 5 f fd a_room_in (spOf K (p_room_in C_Sides)) := by
  refine VS.unbox ?_
  simp (disch := with_unfolding_all
    have kc_Sides := k_Sides.ins.cl
    have ka_Sides_three := k_Sides.a_three
    refine fn_val F sc_room_in (fun ds S G Y h => ?_) (fun cdv A hgd outer s H E hr px tk po ds S G Y h => ?_)
    · obtain ⟨a, b, c, wl, rfl, _⟩ := h
      rfl
    · obtain ⟨a, b, c, wl, rfl, ha, hb, hc, h1, h2, q1, q2⟩ := h
      refine ⟨_, (pss_cons (ps_asg (pe_lc (own := [("side", 5)]) rfl sc_room_in.nd (pi_tup (pe_mG0 (pv 0) c_Sides_told.cl c_Sides_told.me c_Sides_told.fn hgd (hr.mono (by decide)) c_Sides_told.b .nil VS.pass0)) (blkOk_by (own := [("side", 5)]) (N := n_room_in) (sc := defScope s_room_in) (by decide +kernel)) (fun _ _ _ _ _ => (pg_name (i := 5) sc_room_in.nd rfl (Or.inl rfl))) (fun _ _ _ _ _ => pts_nil) (fun _ _ _ _ _ => (pe_op op_sub (pv 5) (pe_op op_mulW pe_int (pv 1))))) (pg_unl (n := 3) rfl (pgs_cons (pg_name (i := 2) sc_room_in.nd rfl (Or.inl rfl)) (pgs_cons (pg_name (i := 3) sc_room_in.nd rfl (Or.inl rfl)) (pgs_cons (pg_name (i := 4) sc_room_in.nd rfl (Or.inl rfl)) pgs_nil)))))
        (pss_cons (ps_if (pt_cmpR op_lt (pe_callB (c_min3 rfl) (by rfl) T.b_min (by decide +kernel) (pa_cons (pv 2) (pa_cons (pv 3) (pa_cons (pv 4) pa_nil)))) pe_int (nomark _)) (pss_one (ps_ret pe_non))
        pss_nil)
        (pss_one (ps_ret (pe_kG c_Sides.mk_ c_Sides.fn hgd (hr.mono (by decide)) (by rfl) c_Sides.mg  c_Sides.b .nil VS.pass0 (pa_cons (pv 2) (pa_cons (pv 3) (pa_cons (pv 4) pa_nil)))))))), ?_⟩
      (try dsimp only [cxOf, List.map])
      show VX _ _ [_, _, _, _, _, _] _ _
      walk_at "ga"
      refine ve_lcM (fun d => match d with | .int i => .int (i - 2 * wl) | _ => .non) (vi_tup ?_)
      walk_at "ga"
      have step : ∀ i : Int, In1 i → i - 2 * wl < 2 ^ 63 := fun i hi => by unfold In1 at hi; omega
      refine ⟨_, rfl, by show 3 ≤ 100000; decide, all3 ?_ ?_ ?_, ?_⟩
      · walk_at "ga"
        refine ⟨rfl, ?_⟩
        walk_at "ga"
        exact ⟨rfl, rfl⟩
      · walk_at "ga"
        refine ⟨rfl, ?_⟩
        walk_at "ga"
        exact ⟨rfl, rfl⟩
      · walk_at "ga"
        refine ⟨rfl, ?_⟩
        walk_at "ga"
        exact ⟨rfl, rfl⟩
      refine vg_unl .v rfl ?_
      show VGs _ _ [.int (a - 2 * wl), .int (b - 2 * wl), .int (c - 2 * wl)] _ _ _
      walk_at "ga"
      refine rc_min3 ?_
      walk_at "ga"
      refine br (fun h => ?_) (fun h => ?_)
      · walk_at "ga"
        exact q1 h
      · walk_at "ga"
        exact q2 h) only [↓VS.box]
theorem ok_Parcel___init__ {f : Addr} {fd : FuncData} {C_Sides C_Parcel C_Heap C_Nest C_NoNumber C_NoSide C_NoSides C_NoOrder C_NoParcel C_NotInHeap C_NoNest C_Unnested : Addr} {f_is_name f_is_whole f_are_labels : Addr} {g_is_name g_is_whole g_are_labels : FuncData}
    (F : Fd K "__init__" "Parcel.__init__" s_Parcel___init__ [.int 1, .int 0, .int 0, .non] f fd) (T : Tx K mg) (hsys : SysOk base)
    (c_is_name : Cf P w K mg base (L2.CX P w) 1 "is_name" s_is_name [] a_is_name (p_is_name K) f_is_name g_is_name)
    (c_is_whole : Cf P w K mg base (L2.CX P w) 1 "is_whole" s_is_whole [] a_is_whole (p_is_whole K) f_is_whole g_is_whole)
    (c_are_labels : Cf P w K mg base (L2.CX P w) 1 "are_labels" s_are_labels [] a_are_labels p_are_labels f_are_labels g_are_labels)
    (k_Sides : Kl_Sides K mg C_Sides)
    (k_Parcel : Kl_Parcel K mg C_Parcel) :
    FnG P w K mg base (L2.CX P w) 3 f fd a_Parcel___init__ (spOf K (p_Pc_init C_Parcel C_Sides)) := by
  refine VS.unbox ?_
  simp (disch := with_unfolding_all
    have kc_Sides := k_Sides.ins.cl
    have ka_Sides_three := k_Sides.a_three
    have kc_Parcel := k_Parcel.ins.cl
    have ka_Parcel_called := k_Parcel.a_called
    have ka_Parcel_outside := k_Parcel.a_outside
    have ka_Parcel_thick := k_Parcel.a_thick
    have ka_Parcel_heavy := k_Parcel.a_heavy
    have ka_Parcel_strong := k_Parcel.a_strong
    have ka_Parcel_marks := k_Parcel.a_marks
    have ka_Parcel_told := k_Parcel.a_told
    have ka_Parcel_names := k_Parcel.a_names
    refine fn_val F sc_Parcel___init__ (fun ds S G Y h => ?_) (fun cdv A hgd outer s H E hr px tk po ds S G Y h => ?_)
    · obtain ⟨y, nm, a, b, c, wl, wt, br, mk, rfl, _⟩ := h
      rfl
    · obtain ⟨y, nm, a, b, c, wl, wt, br, mk, rfl, hy, g, q⟩ := h
      obtain ⟨aL, hL, rL⟩ := T.c_LABELS
      refine ⟨_, (pss_cons (ps_if (pt_not (pt_val (pe_cG c_is_name.fn hgd (hr.mono (by decide)) (by rfl) c_is_name.mg c_is_name.kp c_is_name.b .nil VS.pass0 (pa_cons (pv 1) pa_nil)))) (pss_one ps_nev)
        pss_nil)
        (pss_cons (ps_if (pt_not (pt_val (pe_callB c_isiZ (by rfl) T.b_isinstance (by decide +kernel) (pa_cons (pv 2) (pa_cons (pe_gc (v := .ref C_Sides) (by rfl) ⟨_, k_Sides.at_, rfl⟩) pa_nil))))) (pss_one ps_nev)
        pss_nil)
        (pss_cons (ps_if (pt_not (pt_val (pe_cG c_is_whole.fn hgd (hr.mono (by decide)) (by rfl) c_is_whole.mg c_is_whole.kp c_is_whole.b .nil VS.pass0 (pa_cons (pv 3) (pa_cons pe_int (pa_cons (pe_gc (by rfl) T.c_MOST_WALL) pa_nil)))))) (pss_one ps_nev)
        pss_nil)
        (pss_cons (ps_for po rfl (pi_tup (pe_tup (pa_cons (pv 4) (pa_cons (pv 5) pa_nil)))) (pg_name (i := 7) sc_Parcel___init__.nd rfl (Or.inl rfl))
        (pss_one (ps_if (pt_not (pt_val (pe_cG c_is_whole.fn hgd (hr.mono (by decide)) (by rfl) c_is_whole.mg c_is_whole.kp c_is_whole.b .nil VS.pass0 (pa_cons (pv 7) (pa_cons pe_int (pa_cons (pe_gc (by rfl) T.c_MOST_WEIGHT) pa_nil)))))) (pss_one ps_nev)
        pss_nil)))
        (pss_cons (ps_if (pt_not (pt_val (pe_cG c_are_labels.fn hgd (hr.mono (by decide)) (by rfl) c_are_labels.mg c_are_labels.kp c_are_labels.b .nil VS.pass0 (pa_cons (pv 6) pa_nil)))) (pss_one ps_nev)
        pss_nil)
        (pss_cons (ps_fld (pv 0) (pv 1) rfl)
        (pss_cons (ps_fld (pv 0) (pv 2) rfl)
        (pss_cons (ps_fld (pv 0) (pv 3) rfl)
        (pss_cons (ps_fld (pv 0) (pv 4) rfl)
        (pss_cons (ps_fld (pv 0) (pv 5) rfl)
        (pss_one (ps_fld (pv 0) (pe_lc (own := [("word", 8)]) rfl sc_Parcel___init__.nd (pi_tup (pe_kd (by rfl) hL)) (blkOk_by (own := [("word", 8)]) (N := n_Parcel___init__) (sc := defScope s_Parcel___init__) (by decide +kernel)) (fun _ _ _ _ _ => (pg_name (i := 8) sc_Parcel___init__.nd rfl (Or.inl rfl))) (fun _ _ _ _ _ => (pts_one (PW.pt (pw_and (pt_cmpR op_notNo (pv 6) pe_non (nomark _)) (pw_and1 (pt_cmpR (kO (K := K) (r := (fun K => rIn K false)) op_in_seq) (pv 8) (pv 6) (by rfl))))))) (fun _ _ _ _ _ => (pv 8))) rfl)))))))))))), ?_⟩
      (try dsimp only [cxOf, List.map])
      show VX _ _ [_, _, _, _, _, _, _, _, _] _ _
      walk_at "ga"
      refine name_ok g.gn (Nat.le_trans g.ln (by decide)) ?_
      walk_at "ga"
      refine wh_ok g.wl ?_
      walk_at "ga"
      refine vx_for (vi_tup ?_)
      walk_at "ga"
      refine ⟨_, rfl, fun i ρ2 S2 => S2 = S ∧ ∃ x, ρ2 = [some (.ref y), some (.str nm), some (sd C_Sides a b c), some (.int wl), some (.int wt), some (.int br), some (.lst (mk.map D.str)), x, none], ⟨rfl, _, rfl⟩, ?_, ?_⟩
      · rintro i d ρ2 S2 hd ⟨rfl, x, rfl⟩
        obtain ⟨n, rfl, hn⟩ : ∃ n, d = .int n ∧ 0 ≤ n ∧ n ≤ 100000 := by
          have := List.mem_of_getElem? hd
          simp only [List.mem_cons, List.not_mem_nil, or_false] at this
          rcases this with rfl | rfl
          · exact ⟨_, rfl, g.wt⟩
          · exact ⟨_, rfl, g.br⟩
        walk_at "ga"
        refine wh_ok hn ?_
        walk_at "ga"
        exact ⟨rfl, _, rfl⟩
      · rintro ρ2 S2 ⟨rfl, x, rfl⟩
        walk_at "ga"
        refine ⟨mk, rfl, g.lb, ?_⟩
        walk_at "ga"
        refine ⟨y, C_Parcel, _, rfl, put_same, kc_Parcel, ka_Parcel_outside, by show 1 < 1000; decide, ?_⟩
        walk_at "ga"
        refine ⟨y, C_Parcel, _, rfl, put_same, kc_Parcel, ka_Parcel_thick, by show 2 < 1000; decide, ?_⟩
        walk_at "ga"
        refine ⟨y, C_Parcel, _, rfl, put_same, kc_Parcel, ka_Parcel_heavy, by show 3 < 1000; decide, ?_⟩
        walk_at "ga"
        refine ⟨y, C_Parcel, _, rfl, put_same, kc_Parcel, ka_Parcel_strong, by show 4 < 1000; decide, ?_⟩
        walk_at "ga"
        simp only [put_put]
        generalize hS : VS.put S2 y _ = S3
        refine ve_lcF (fun d => inD d (mk.map D.str)) id (vi_tup ?_)
        walk_at "ga"
        refine ⟨_, rfl, by show 3 ≤ 100000; decide, all3 ?_ ?_ ?_, ?_⟩
        · walk_at "ga"
          refine rv_in (.l .v) rfl (flat_strs mk) ?_
          walk_at "ga"
          exact ⟨rfl, fun _ => rfl, fun _ => by walk_at "ga"; exact ⟨rfl, rfl⟩⟩
        · walk_at "ga"
          refine rv_in (.l .v) rfl (flat_strs mk) ?_
          walk_at "ga"
          exact ⟨rfl, fun _ => rfl, fun _ => by walk_at "ga"; exact ⟨rfl, rfl⟩⟩
        · walk_at "ga"
          refine rv_in (.l .v) rfl (flat_strs mk) ?_
          walk_at "ga"
          exact ⟨rfl, fun _ => rfl, fun _ => by walk_at "ga"; exact ⟨rfl, rfl⟩⟩
        subst hS
        walk_at "ga"
        refine ⟨y, C_Parcel, _, rfl, put_same, kc_Parcel, ka_Parcel_marks, by show 5 < 1000; decide, ?_⟩
        rw [put_put]
        have e : List.map id (List.filter (fun d => inD d (mk.map D.str)) [D.str "alone", D.str "top", D.str "upright"]) = (mksOf mk).map D.str := by
          rw [List.map_id]
          show (labs.map D.str).filter _ = _
          rw [List.filter_map]
          unfold mksOf
          congr 1
          apply List.filter_congr
          intro m _
          exact inD_strs mk
        rw [e]
        exact q) only [↓VS.box]
theorem ok_Parcel_name {f : Addr} {fd : FuncData} {C_Sides C_Parcel C_Heap C_Nest C_NoNumber C_NoSide C_NoSides C_NoOrder C_NoParcel C_NotInHeap C_NoNest C_Unnested : Addr}
    (F : Fd K "name" "Parcel.name" s_Parcel_name [] f fd) (T : Tx K mg) (hsys : SysOk base)
    (k_Parcel : Kl_Parcel K mg C_Parcel)
    (k_Sides : Kl_Sides K mg C_Sides) :
    FnG P w K mg base (L2.CX P w) 1 f fd a_Parcel_name (spOf K (p_Pc_name C_Parcel C_Sides)) := by
  refine VS.unbox ?_
  simp (disch := with_unfolding_all
    have kc_Parcel := k_Parcel.ins.cl
    have ka_Parcel_called := k_Parcel.a_called
    have ka_Parcel_outside := k_Parcel.a_outside
    have ka_Parcel_thick := k_Parcel.a_thick
    have ka_Parcel_heavy := k_Parcel.a_heavy
    have ka_Parcel_strong := k_Parcel.a_strong
    have ka_Parcel_marks := k_Parcel.a_marks
    have ka_Parcel_told := k_Parcel.a_told
    have ka_Parcel_names := k_Parcel.a_names
    have kc_Sides := k_Sides.ins.cl
    have ka_Sides_three := k_Sides.a_three
    refine fn_val F sc_Parcel_name (fun ds S G Y h => ?_) (fun cdv A hgd outer s H E hr px tk po ds S G Y h => ?_)
    · obtain ⟨nm, a, b, c, wl, wt, br, mk, rfl, _⟩ := h
      rfl
    · obtain ⟨nm, a, b, c, wl, wt, br, mk, rfl, q⟩ := h
      refine ⟨_, (pss_one (ps_ret (pe_fld (pv 0) rfl))), ?_⟩
      (try dsimp only [cxOf, List.map])
      show VX _ _ [_] _ _
      walk_at "ga"
      exact q) only [↓VS.box]
theorem ok_Parcel_sides {f : Addr} {fd : FuncData} {C_Sides C_Parcel C_Heap C_Nest C_NoNumber C_NoSide C_NoSides C_NoOrder C_NoParcel C_NotInHeap C_NoNest C_Unnested : Addr}
    (F : Fd K "sides" "Parcel.sides" s_Parcel_sides [] f fd) (T : Tx K mg) (hsys : SysOk base)
    (k_Parcel : Kl_Parcel K mg C_Parcel)
    (k_Sides : Kl_Sides K mg C_Sides) :
    FnG P w K mg base (L2.CX P w) 1 f fd a_Parcel_sides (spOf K (p_Pc_sides C_Parcel C_Sides)) := by
  refine VS.unbox ?_
  simp (disch := with_unfolding_all
    have kc_Parcel := k_Parcel.ins.cl
    have ka_Parcel_called := k_Parcel.a_called
    have ka_Parcel_outside := k_Parcel.a_outside
    have ka_Parcel_thick := k_Parcel.a_thick
    have ka_Parcel_heavy := k_Parcel.a_heavy
    have ka_Parcel_strong := k_Parcel.a_strong
    have ka_Parcel_marks := k_Parcel.a_marks
    have ka_Parcel_told := k_Parcel.a_told
    have ka_Parcel_names := k_Parcel.a_names
    have kc_Sides := k_Sides.ins.cl
    have ka_Sides_three := k_Sides.a_three
    refine fn_val F sc_Parcel_sides (fun ds S G Y h => ?_) (fun cdv A hgd outer s H E hr px tk po ds S G Y h => ?_)
    · obtain ⟨nm, a, b, c, wl, wt, br, mk, rfl, _⟩ := h
      rfl
    · obtain ⟨nm, a, b, c, wl, wt, br, mk, rfl, q⟩ := h
      refine ⟨_, (pss_one (ps_ret (pe_fld (pv 0) rfl))), ?_⟩
      (try dsimp only [cxOf, List.map])
      show VX _ _ [_] _ _
      walk_at "ga"
      exact q) only [↓VS.box]
theorem ok_Parcel_room {f : Addr} {fd : FuncData} {C_Sides C_Parcel C_Heap C_Nest C_NoNumber C_NoSide C_NoSides C_NoOrder C_NoParcel C_NotInHeap C_NoNest C_Unnested : Addr} {f_room_in : Addr} {g_room_in : FuncData}
    (F : Fd K "room" "Parcel.room" s_Parcel_room [] f fd) (T : Tx K mg) (hsys : SysOk base)
    (c_room_in : Cf P w K mg base (L2.CX P w) 5 "room_in" s_room_in [] a_room_in (p_room_in C_Sides) f_room_in g_room_in)
    (k_Parcel : Kl_Parcel K mg C_Parcel)
    (k_Sides : Kl_Sides K mg C_Sides) :
    FnG P w K mg base (L2.CX P w) 6 f fd a_Parcel_room (spOf K (p_Pc_room C_Parcel C_Sides)) := by
  refine VS.unbox ?_
  simp (disch := with_unfolding_all
    have kc_Parcel := k_Parcel.ins.cl
    have ka_Parcel_called := k_Parcel.a_called
    have ka_Parcel_outside := k_Parcel.a_outside
    have ka_Parcel_thick := k_Parcel.a_thick
    have ka_Parcel_heavy := k_Parcel.a_heavy
    have ka_Parcel_strong := k_Parcel.a_strong
    have ka_Parcel_marks := k_Parcel.a_marks
    have ka_Parcel_told := k_Parcel.a_told
    have ka_Parcel_names := k_Parcel.a_names
    have kc_Sides := k_Sides.ins.cl
    have ka_Sides_three := k_Sides.a_three
    refine fn_val F sc_Parcel_room (fun ds S G Y h => ?_) (fun cdv A hgd outer s H E hr px tk po ds S G Y h => ?_)
    · obtain ⟨nm, a, b, c, wl, wt, br, mk, rfl, _⟩ := h
      rfl
    · obtain ⟨nm, a, b, c, wl, wt, br, mk, rfl, g, q1, q2⟩ := h
      refine ⟨_, (pss_one (ps_ret (pe_cG c_room_in.fn hgd (hr.mono (by decide)) (by rfl) c_room_in.mg c_room_in.kp c_room_in.b .nil VS.pass0 (pa_cons (pe_fld (pv 0) rfl) (pa_cons (pe_fld (pv 0) rfl) pa_nil))))), ?_⟩
      (try dsimp only [cxOf, List.map])
      show VX _ _ [_] _ _
      walk_at "ga"
      exact ⟨a, b, c, wl, rfl, g.a, g.b, g.c, g.wl.1, g.wl.2, q1, q2⟩) only [↓VS.box]
theorem ok_Parcel_goes_in {f : Addr} {fd : FuncData} {C_Sides C_Parcel C_Heap C_Nest C_NoNumber C_NoSide C_NoSides C_NoOrder C_NoParcel C_NotInHeap C_NoNest C_Unnested : Addr} {f_need_spare f_Parcel_room f_goes_in : Addr} {g_need_spare g_Parcel_room g_goes_in : FuncData}
    (F : Fd K "goes_in" "Parcel.goes_in" s_Parcel_goes_in [.int 0] f fd) (T : Tx K mg) (hsys : SysOk base)
    (c_need_spare : Cf P w K mg base (L2.CX P w) 3 "need_spare" s_need_spare [] a_need_spare (p_need_spare K C_NoNumber) f_need_spare g_need_spare)
    (c_Parcel_room : Mf P w K mg base 6 C_Parcel "room" "Parcel.room" s_Parcel_room [] a_Parcel_room (p_Pc_room C_Parcel C_Sides) f_Parcel_room g_Parcel_room)
    (c_goes_in : Cf P w K mg base (L2.CX P w) 7 "goes_in" s_goes_in [.int 0] a_goes_in (p_goes_in K C_Sides C_NoSides C_NoNumber) f_goes_in g_goes_in)
    (x_NoParcel : Xc P w K mg base "NoParcel" C_NoParcel "found")
    (k_Parcel : Kl_Parcel K mg C_Parcel)
    (k_Sides : Kl_Sides K mg C_Sides) :
    FnG P w K mg base (L2.CX P w) 8 f fd a_Parcel_goes_in (spOf K (p_Pc_goes K C_Parcel C_Sides C_NoParcel C_NoNumber)) := by
  refine VS.unbox ?_
  simp (disch := with_unfolding_all
    have kc_Parcel := k_Parcel.ins.cl
    have ka_Parcel_called := k_Parcel.a_called
    have ka_Parcel_outside := k_Parcel.a_outside
    have ka_Parcel_thick := k_Parcel.a_thick
    have ka_Parcel_heavy := k_Parcel.a_heavy
    have ka_Parcel_strong := k_Parcel.a_strong
    have ka_Parcel_marks := k_Parcel.a_marks
    have ka_Parcel_told := k_Parcel.a_told
    have ka_Parcel_names := k_Parcel.a_names
    have kc_Sides := k_Sides.ins.cl
    have ka_Sides_three := k_Sides.a_three
    refine fn_val F sc_Parcel_goes_in (fun ds S G Y h => ?_) (fun cdv A hgd outer s H E hr px tk po ds S G Y h => ?_)
    · obtain ⟨nm, a, b, c, wl, wt, br, mk, d, sp, rfl, _⟩ := h
      rfl
    · obtain ⟨nm, a, b, c, wl, wt, br, mk, d, sp, rfl, g, h⟩ := h
      refine ⟨_, (pss_cons (ps_if (pt_not (pt_val (pe_callB c_isiZ (by rfl) T.b_isinstance (by decide +kernel) (pa_cons (pv 1) (pa_cons (pe_gc (v := .ref C_Parcel) (by rfl) ⟨_, k_Parcel.at_, rfl⟩) pa_nil))))) (pss_one (ps_rz tk x_NoParcel (hr.mono (by decide)) (by rfl) (pv 1)))
        pss_nil)
        (pss_cons (ps_expr (pe_cG c_need_spare.fn hgd (hr.mono (by decide)) (by rfl) c_need_spare.mg c_need_spare.kp c_need_spare.b .nil px (pa_cons (pv 2) pa_nil)))
        (pss_cons (ps_for po rfl (pi_tup (pe_tup (pa_cons (pv 0) (pa_cons (pv 1) pa_nil)))) (pg_name (i := 3) sc_Parcel_goes_in.nd rfl (Or.inl rfl))
        (pss_one (ps_if (pt_cmpR op_in_seq pe_str (pe_fld (pv 3) rfl) (by rfl)) (pss_one (ps_ret (pe_tup (pa_cons pe_str (pa_cons (pe_fld (pv 3) rfl) pa_nil)))))
        pss_nil)))
        (pss_cons (ps_if (pt_cmpR op_isNo (pe_mG0 (pv 1) c_Parcel_room.cl c_Parcel_room.me c_Parcel_room.fn hgd (hr.mono (by decide)) c_Parcel_room.b .nil VS.pass0) pe_non (nomark _)) (pss_one (ps_ret (pe_tup (pa_cons pe_str pa_nil))))
        pss_nil)
        (pss_one (ps_ret (pe_cG c_goes_in.fn hgd (hr.mono (by decide)) (by rfl) (T.al_goes_in_fits.trans c_goes_in.mg) c_goes_in.kp c_goes_in.b .nil px (pa_cons (pe_fld (pv 0) rfl) (pa_cons (pe_mG0 (pv 1) c_Parcel_room.cl c_Parcel_room.me c_Parcel_room.fn hgd (hr.mono (by decide)) c_Parcel_room.b .nil VS.pass0) (pa_cons (pv 2) pa_nil)))))))))), ?_⟩
      (try dsimp only [cxOf, List.map])
      show VX _ _ [_, _, _, _] _ _
      walk_at "ga"
      rcases h with ⟨t, ot, kt, q⟩ | ⟨nm', x, y, z, wl', wt', br', mk', rfl, g', o, wo, q1, q2⟩
      · refine rc_isiO ot kt ?_
        walk_at "ga"
        exact q
      · refine rc_isiO (.i .v k_Parcel.ins) k_Parcel.ins.me ?_
        walk_at "ga"
        refine ⟨sp, o, rfl, wo, fun e => ?_, q1⟩
        obtain ⟨i, rfl, i0, i1⟩ := whB_yes e
        cases wo.some
        have q := q2 i rfl i0 i1
        walk_at "ga"
        refine vx_for (vi_tup ?_)
        walk_at "ga"
        refine ⟨_, rfl, fun k ρ2 S2 => S2 = S ∧ ∃ u, ρ2 = [some (pcD C_Parcel C_Sides nm a b c wl wt br mk), some (pcD C_Parcel C_Sides nm' x y z wl' wt' br' mk'), some (.int i), u] ∧ (0 < k → ("alone" : Str) ∉ mk) ∧ (1 < k → ("alone" : Str) ∉ mk'), ⟨rfl, _, rfl, fun z => by omega, fun z => by omega⟩, ?_, ?_⟩
        · rintro k d ρ2 S2 hd ⟨rfl, u, rfl, n1, n2⟩
          match k, hd with
          | 0, hd =>
            cases hd
            walk_at "ga"
            refine rv_in (.l .v) rfl (flat_strs mk) ?_
            rw [inD_strs]
            walk_at "ga"
            refine VS.br (fun h => ?_) (fun h => ?_)
            · walk_at "ga"
              unfold pgoD at q
              rw [if_pos h] at q
              exact q
            · walk_at "ga"
              exact ⟨rfl, _, rfl, fun _ => h, fun z => by omega⟩
          | 1, hd =>
            cases hd
            walk_at "ga"
            refine rv_in (.l .v) rfl (flat_strs mk') ?_
            rw [inD_strs]
            walk_at "ga"
            refine VS.br (fun h => ?_) (fun h => ?_)
            · walk_at "ga"
              unfold pgoD at q
              rw [if_neg (n1 (by omega)), if_pos h] at q
              exact q
            · walk_at "ga"
              exact ⟨rfl, _, rfl, fun _ => n1 (by omega), fun _ => h⟩
          | k + 2, hd => cases hd
        · rintro ρ2 S2 ⟨rfl, u, rfl, n1, n2⟩
          unfold pgoD at q
          rw [if_neg (n1 (by show 0 < 2; omega)), if_neg (n2 (by show 1 < 2; omega))] at q
          walk_at "ga"
          refine ⟨nm', x, y, z, wl', wt', br', mk', rfl, g', fun h => ?_, fun h => ?_⟩
          · walk_at "ga"
            rw [if_pos h] at q
            exact q
          · walk_at "ga"
            refine ⟨nm', x, y, z, wl', wt', br', mk', rfl, g', fun h' => absurd h' h, fun _ => ?_⟩
            walk_at "ga"
            refine goes_ok g.a g.b g.c ⟨i0, i1⟩ ?_
            rw [if_neg h] at q
            exact q) only [↓VS.box]
end
end LW
namespace LW
open PySem L2 C8 PySem.Spec PyProof.Rows VS
/-! ### a parcel's labels -/
def p_Pc_labels (CP CS : Addr) : Pt := fun ds S G _ => ∃ nm a b c wl wt br mk, ds = [pcD CP CS nm a b c wl wt br mk] ∧ ∀ l, S l = none → G (.ref l) (put S l (.lst (mk.map D.str)))
section
variable {P : Program} {w : World} {K : PySem.W.Frag} {mg : Str → Option Value} {base : Heap}
theorem ok_Parcel_labels {f : Addr} {fd : FuncData} {C_Sides C_Parcel C_Heap C_Nest C_NoNumber C_NoSide C_NoSides C_NoOrder C_NoParcel C_NotInHeap C_NoNest C_Unnested : Addr}
    (F : Fd K "labels" "Parcel.labels" s_Parcel_labels [] f fd) (T : Tx K mg) (hsys : SysOk base)
    (k_Parcel : Kl_Parcel K mg C_Parcel)
    (k_Sides : Kl_Sides K mg C_Sides) :
    FnG P w K mg base (L2.CX P w) 1 f fd a_Parcel_labels (spOf K (p_Pc_labels C_Parcel C_Sides)) := by
  refine VS.unbox ?_
  simp (disch := with_unfolding_all
    have kc_Parcel := k_Parcel.ins.cl
    have ka_Parcel_called := k_Parcel.a_called
    have ka_Parcel_outside := k_Parcel.a_outside
    have ka_Parcel_thick := k_Parcel.a_thick
    have ka_Parcel_heavy := k_Parcel.a_heavy
    have ka_Parcel_strong := k_Parcel.a_strong
    have ka_Parcel_marks := k_Parcel.a_marks
    have ka_Parcel_told := k_Parcel.a_told
    have ka_Parcel_names := k_Parcel.a_names
    have kc_Sides := k_Sides.ins.cl
    have ka_Sides_three := k_Sides.a_three
    refine fn_val F sc_Parcel_labels (fun ds S G Y h => ?_) (fun cdv A hgd outer s H E hr px tk po ds S G Y h => ?_)
    · obtain ⟨nm, a, b, c, wl, wt, br, mk, rfl, _⟩ := h
      rfl
    · obtain ⟨nm, a, b, c, wl, wt, br, mk, rfl, q⟩ := h
      refine ⟨_, (pss_one (ps_ret (pe_callTy c_list (by rfl) T.b_list (by decide +kernel) (pa_cons (pe_fld (pv 0) rfl) pa_nil)))), ?_⟩
      (try dsimp only [cxOf, List.map])
      show VX _ _ [_] _ _
      walk_at "gr"
      exact rc_listc (.l .v) q) only [↓VS.box]
end
end LW
namespace LW
open PySem L2 C8 PySem.Spec PyProof.Rows VS
/-! ### a parcel's numbers -/
def p_Pc_weight (CP CS : Addr) : Pt := fun ds S G _ => ∃ nm a b c wl wt br mk, ds = [pcD CP CS nm a b c wl wt br mk] ∧ G (.int wt) S
section
variable {P : Program} {w : World} {K : PySem.W.Frag} {mg : Str → Option Value} {base : Heap}
theorem ok_Parcel_weight {f : Addr} {fd : FuncData} {C_Sides C_Parcel C_Heap C_Nest C_NoNumber C_NoSide C_NoSides C_NoOrder C_NoParcel C_NotInHeap C_NoNest C_Unnested : Addr}
    (F : Fd K "weight" "Parcel.weight" s_Parcel_weight [] f fd) (T : Tx K mg) (hsys : SysOk base)
    (k_Parcel : Kl_Parcel K mg C_Parcel)
    (k_Sides : Kl_Sides K mg C_Sides) :
    FnG P w K mg base (L2.CX P w) 1 f fd a_Parcel_weight (spOf K (p_Pc_weight C_Parcel C_Sides)) := by
  refine VS.unbox ?_
  simp (disch := with_unfolding_all
    have kc_Parcel := k_Parcel.ins.cl
    have ka_Parcel_called := k_Parcel.a_called
    have ka_Parcel_outside := k_Parcel.a_outside
    have ka_Parcel_thick := k_Parcel.a_thick
    have ka_Parcel_heavy := k_Parcel.a_heavy
    have ka_Parcel_strong := k_Parcel.a_strong
    have ka_Parcel_marks := k_Parcel.a_marks
    have ka_Parcel_told := k_Parcel.a_told
    have ka_Parcel_names := k_Parcel.a_names
    have kc_Sides := k_Sides.ins.cl
    have ka_Sides_three := k_Sides.a_three
    refine fn_val F sc_Parcel_weight (fun ds S G Y h => ?_) (fun cdv A hgd outer s H E hr px tk po ds S G Y h => ?_)
    · obtain ⟨nm, a, b, c, wl, wt, br, mk, rfl, _⟩ := h
      rfl
    · obtain ⟨nm, a, b, c, wl, wt, br, mk, rfl, q⟩ := h
      refine ⟨_, (pss_one (ps_ret (pe_fld (pv 0) rfl))), ?_⟩
      (try dsimp only [cxOf, List.map])
      show VX _ _ [_] _ _
      walk_at "ga"
      exact q) only [↓VS.box]
end
end LW
namespace LW
open PySem L2 C8 PySem.Spec PyProof.Rows VS
/-! ### heaps, known by reference -/
structure Pc where
  of ::
  nm : Str
  a : Int
  b : Int
  c : Int
  wl : Int
  wt : Int
  br : Int
  mk : List Str
def Pc.d (CP CS : Addr) (p : Pc) : D := pcD CP CS p.nm p.a p.b p.c p.wl p.wt p.br p.mk
def Pc.g (p : Pc) : Prop := Pg p.nm p.a p.b p.c p.wl p.wt p.br p.mk
/-- parcels that stand in a heap -/
structure Hps (ps : List Pc) : Prop where
  g : ∀ p ∈ ps, p.g
  n : (ps.map Pc.nm).Nodup
  l : ps.length ≤ 12
def HpS (S : Sto) (CH CP CS h l : Addr) (ps : List Pc) : Prop := S h = some (.ins CH [("held", .ref l)]) ∧ S l = some (.lst (ps.map (Pc.d CP CS)))
/-- p is the first one of its name -/
def Frs (ps : List Pc) (i : Nat) (p : Pc) : Prop := ps[i]? = some p ∧ ∀ j q, j < i → ps[j]? = some q → q.nm ≠ p.nm
theorem HpS.ext {S S' : Sto} {CH CP CS h l : Addr} {ps : List Pc} (x : HpS S CH CP CS h l ps) (e : Ext S S') : HpS S' CH CP CS h l ps := ⟨e _ _ x.1, e _ _ x.2⟩
theorem HpS.ne {S : Sto} {CH CP CS h l : Addr} {ps : List Pc} (x : HpS S CH CP CS h l ps) : h ≠ l := fun z => by
  have := x.1
  rw [z, x.2] at this
  cases this
theorem HpS.wr {S : Sto} {CH CP CS h l a : Addr} {ps : List Pc} {d : D} (x : HpS S CH CP CS h l ps) (n1 : h ≠ a) (n2 : l ≠ a) : HpS (VS.put S a d) CH CP CS h l ps := ⟨(put_ne n1).trans x.1, (put_ne n2).trans x.2⟩
theorem HpS.set {S : Sto} {CH CP CS h l : Addr} {ps qs : List Pc} (x : HpS S CH CP CS h l ps) : HpS (VS.put S l (.lst (qs.map (Pc.d CP CS)))) CH CP CS h l qs := ⟨(put_ne x.ne).trans x.1, put_same⟩
theorem Hps.frs {ps : List Pc} (h : (ps.map Pc.nm).Nodup) {i : Nat} {p : Pc} (e : ps[i]? = some p) : Frs ps i p := by
  refine ⟨e, fun j q hj hq en => ?_⟩
  have hi : i < ps.length := (List.getElem?_eq_some_iff.mp e).1
  have e1 : (ps.map Pc.nm)[i]? = some p.nm := by rw [List.getElem?_map, e]; rfl
  have e2 : (ps.map Pc.nm)[j]? = some p.nm := by rw [List.getElem?_map, hq]; exact congrArg some en
  have hi' : i < (ps.map Pc.nm).length := by rw [List.length_map]; exact hi
  have := (List.getElem?_inj hi' h).mp (e1.trans e2.symm)
  omega
theorem Hps.erase {ps : List Pc} (h : Hps ps) (i : Nat) : Hps (ps.eraseIdx i) := by
  refine ⟨fun p hp => h.g p (List.mem_of_mem_eraseIdx hp), ?_, Nat.le_trans (List.length_eraseIdx_le ..) h.l⟩
  exact h.n.sublist ((List.eraseIdx_sublist ..).map _)
theorem map_erase {α β : Type} (f : α → β) : ∀ (xs : List α) (i : Nat), (xs.eraseIdx i).map f = (xs.map f).eraseIdx i
  | [], _ => rfl
  | x :: xs, 0 => rfl
  | x :: xs, i + 1 => by
    show f x :: (xs.eraseIdx i).map f = f x :: (xs.map f).eraseIdx i
    rw [map_erase f xs i]
def p_Hp_init (CH : Addr) : Pt := fun ds S G _ => ∃ y, ds = [.ref y] ∧ S y = some (.ins CH []) ∧ ∀ l, S l = none → G .non (put (put S l (.lst [])) y (.ins CH [("held", .ref l)]))
def p_Hp_names (CH CP CS : Addr) : Pt := fun ds S G _ => ∃ h l ps, ds = [.ref h] ∧ HpS S CH CP CS h l ps ∧ ps.length ≤ 12 ∧ G (.lst ((ps.map Pc.nm).map D.str)) S
def p_Hp_place (CH CP CS : Addr) : Pt := fun ds S G _ => ∃ (h l : Addr) (ps : List Pc) (i : Nat) (p : Pc), ds = [.ref h, .str p.nm] ∧ HpS S CH CP CS h l ps ∧ ps.length ≤ 12 ∧ Frs ps i p ∧ G (.int i) S
def p_Hp_parcel (CH CP CS : Addr) : Pt := fun ds S G _ => ∃ (h l : Addr) (ps : List Pc) (i : Nat) (p : Pc), ds = [.ref h, .str p.nm] ∧ HpS S CH CP CS h l ps ∧ ps.length ≤ 12 ∧ Frs ps i p ∧ G (p.d CP CS) S
def p_Hp_out (CH CP CS : Addr) : Pt := fun ds S G _ => ∃ (h l : Addr) (ps : List Pc) (i : Nat) (p : Pc), ds = [.ref h, .str p.nm] ∧ HpS S CH CP CS h l ps ∧ ps.length ≤ 12 ∧ Frs ps i p ∧ G (p.d CP CS) (put S l (.lst ((ps.eraseIdx i).map (Pc.d CP CS))))
def p_Hp_put (CH CP CS : Addr) : Pt := fun ds S G _ => ∃ (h l : Addr) (ps : List Pc) (p : Pc), ds = [.ref h, p.d CP CS, .non] ∧ HpS S CH CP CS h l ps ∧ ps.length < 12 ∧ p.nm ∉ ps.map Pc.nm ∧ G .non (put S l (.lst ((ps ++ [p]).map (Pc.d CP CS))))
/-- a heap made, known by reference -/
theorem ve_mkHp {c : VS.Ctx} {ρ : Rho} {S : Sto} {F : D → Sto → Prop} {t : TA} {E : L2.St → XK} {CH : Addr}
    (h : VA c t ρ S fun ds S1 => ds = [] ∧ ∀ h l S2, S1 h = none → S1 l = none → Ext S1 S2 → S2 h = some (.ins CH [("held", .ref l)]) → S2 l = some (.lst []) → F (.ref h) S2) : VE c (tMakeE CH (spOf c.K (p_Hp_init CH)) [] E t) ρ S F :=
  ve_mk (dds := []) XOk.none (fun _ _ => .nil) (h.imp fun ds S1 ⟨e, q⟩ y hy => by
    subst e
    refine ⟨y, rfl, put_same, fun l hl => ⟨rfl, ?_⟩⟩
    have ne : l ≠ y := fun z => by subst z; rw [put_same] at hl; cases hl
    rw [put_ne ne] at hl
    refine q y l _ hy hl (fun a d ha => ?_) put_same ((put_ne ne).trans put_same)
    have n1 : a ≠ y := fun z => by subst z; rw [hy] at ha; cases ha
    have n2 : a ≠ l := fun z => by subst z; rw [hl] at ha; cases ha
    rw [put_ne n1, put_ne n2, put_ne n1]
    exact ha)
section
variable {P : Program} {w : World} {K : PySem.W.Frag} {mg : Str → Option Value} {base : Heap}
theorem ok_Heap___init__ {f : Addr} {fd : FuncData} {C_Sides C_Parcel C_Heap C_Nest C_NoNumber C_NoSide C_NoSides C_NoOrder C_NoParcel C_NotInHeap C_NoNest C_Unnested : Addr}
    (F : Fd K "__init__" "Heap.__init__" s_Heap___init__ [] f fd) (T : Tx K mg) (hsys : SysOk base)
    (k_Heap : Kl_Heap K mg C_Heap) :
    FnG P w K mg base (L2.CX P w) 1 f fd a_Heap___init__ (spOf K (p_Hp_init C_Heap)) := by
  refine VS.unbox ?_
  simp (disch := with_unfolding_all
    have kc_Heap := k_Heap.ins.cl
    have ka_Heap_held := k_Heap.a_held
    have ka_Heap_told := k_Heap.a_told
    have ka_Heap_kind := k_Heap.a_kind
    refine fn_val F sc_Heap___init__ (fun ds S G Y h => ?_) (fun cdv A hgd outer s H E hr px tk po ds S G Y h => ?_)
    · obtain ⟨y, rfl, _⟩ := h
      rfl
    · obtain ⟨y, rfl, hy, q⟩ := h
      refine ⟨_, (pss_one (ps_fld (pv 0) (pe_lst pa_nil) rfl)), ?_⟩
      (try dsimp only [cxOf, List.map])
      show VX _ _ [_] _ _
      walk_at "gr"
      refine ve_lstc ?_
      walk_at "gr"
      intro l hl
      have hy2 : VS.put S l (.lst []) y = some (.ins C_Heap []) := by rw [put_ne (ne_at hy hl)]; exact hy
      walk_at "gr"
      exact q l hl) only [↓VS.box]
theorem ok_Heap_names {f : Addr} {fd : FuncData} {C_Sides C_Parcel C_Heap C_Nest C_NoNumber C_NoSide C_NoSides C_NoOrder C_NoParcel C_NotInHeap C_NoNest C_Unnested : Addr} {f_Parcel_name : Addr} {g_Parcel_name : FuncData}
    (F : Fd K "names" "Heap.names" s_Heap_names [] f fd) (T : Tx K mg) (hsys : SysOk base)
    (c_Parcel_name : Mf P w K mg base 1 C_Parcel "name" "Parcel.name" s_Parcel_name [] a_Parcel_name (p_Pc_name C_Parcel C_Sides) f_Parcel_name g_Parcel_name)
    (k_Heap : Kl_Heap K mg C_Heap)
    (k_Parcel : Kl_Parcel K mg C_Parcel)
    (k_Sides : Kl_Sides K mg C_Sides) :
    FnG P w K mg base (L2.CX P w) 2 f fd a_Heap_names (spOf K (p_Hp_names C_Heap C_Parcel C_Sides)) := by
  refine VS.unbox ?_
  simp (disch := with_unfolding_all
    have kc_Heap := k_Heap.ins.cl
    have ka_Heap_held := k_Heap.a_held
    have ka_Heap_told := k_Heap.a_told
    have ka_Heap_kind := k_Heap.a_kind
    have kc_Parcel := k_Parcel.ins.cl
    have ka_Parcel_called := k_Parcel.a_called
    have ka_Parcel_outside := k_Parcel.a_outside
    have ka_Parcel_thick := k_Parcel.a_thick
    have ka_Parcel_heavy := k_Parcel.a_heavy
    have ka_Parcel_strong := k_Parcel.a_strong
    have ka_Parcel_marks := k_Parcel.a_marks
    have ka_Parcel_told := k_Parcel.a_told
    have ka_Parcel_names := k_Parcel.a_names
    have kc_Sides := k_Sides.ins.cl
    have ka_Sides_three := k_Sides.a_three
    refine fn_val F sc_Heap_names (fun ds S G Y h => ?_) (fun cdv A hgd outer s H E hr px tk po ds S G Y h => ?_)
    · obtain ⟨hh, l, ps, rfl, _⟩ := h
      rfl
    · obtain ⟨hh, l, ps, rfl, ⟨h1, h2⟩, hl, q⟩ := h
      refine ⟨_, (pss_one (ps_ret (pe_lc (own := [("parcel", 1)]) rfl sc_Heap_names.nd (pi_list (pe_fld (pv 0) rfl)) (blkOk_by (own := [("parcel", 1)]) (N := n_Heap_names) (sc := defScope s_Heap_names) (by decide +kernel)) (fun _ _ _ _ _ => (pg_name (i := 1) sc_Heap_names.nd rfl (Or.inl rfl))) (fun _ _ _ _ _ => pts_nil) (fun _ _ _ _ _ => (pe_mG0 (pv 1) c_Parcel_name.cl c_Parcel_name.me c_Parcel_name.fn hgd (hr.mono (by decide)) c_Parcel_name.b .nil VS.pass0))))), ?_⟩
      (try dsimp only [cxOf, List.map])
      show VX _ _ [_, _] _ _
      walk_at "gr"
      have ne : hh ≠ l := HpS.ne ⟨h1, h2⟩
      have h3 : (VS.del S l) hh = some (.ins C_Heap [("held", .ref l)]) := by rw [VS.del_ne ne]; exact h1
      refine ve_lcCellE (l := l) ?_ h2 (by rw [List.length_map]; omega) (fun i acc S2 => acc = ((ps.map Pc.nm).map D.str).take i ∧ S2 = VS.del S l) ⟨rfl, rfl⟩ (fun i d acc S2 hd hw _ => ?_) ?_
      · walk_at "gr"
        exact ⟨rfl, rfl⟩
      · obtain ⟨rfl, rfl⟩ := hw
        rw [List.getElem?_map] at hd
        cases e : ps[i]? with
        | none => rw [e] at hd; cases hd
        | some p =>
          rw [e] at hd
          cases hd
          walk_at "gr"
          refine ⟨p.nm, p.a, p.b, p.c, p.wl, p.wt, p.br, p.mk, rfl, ?_, rfl⟩
          rw [List.take_succ]
          congr 1
          rw [List.getElem?_map, List.getElem?_map, e]
          rfl
      · rintro acc S2 ⟨rfl, rfl⟩ _
        rw [put_back h2]
        rw [List.take_of_length_le (by simp)]
        exact q) only [↓VS.box]
theorem ok_Heap_place_of {f : Addr} {fd : FuncData} {C_Sides C_Parcel C_Heap C_Nest C_NoNumber C_NoSide C_NoSides C_NoOrder C_NoParcel C_NotInHeap C_NoNest C_Unnested : Addr} {f_Parcel_name : Addr} {g_Parcel_name : FuncData}
    (F : Fd K "place_of" "Heap.place_of" s_Heap_place_of [] f fd) (T : Tx K mg) (hsys : SysOk base)
    (c_Parcel_name : Mf P w K mg base 1 C_Parcel "name" "Parcel.name" s_Parcel_name [] a_Parcel_name (p_Pc_name C_Parcel C_Sides) f_Parcel_name g_Parcel_name)
    (k_Heap : Kl_Heap K mg C_Heap)
    (k_Parcel : Kl_Parcel K mg C_Parcel)
    (k_Sides : Kl_Sides K mg C_Sides) :
    FnG P w K mg base (L2.CX P w) 2 f fd a_Heap_place_of (spOf K (p_Hp_place C_Heap C_Parcel C_Sides)) := by
  refine VS.unbox ?_
  simp (disch := with_unfolding_all
    have kc_Heap := k_Heap.ins.cl
    have ka_Heap_held := k_Heap.a_held
    have ka_Heap_told := k_Heap.a_told
    have ka_Heap_kind := k_Heap.a_kind
    have kc_Parcel := k_Parcel.ins.cl
    have ka_Parcel_called := k_Parcel.a_called
    have ka_Parcel_outside := k_Parcel.a_outside
    have ka_Parcel_thick := k_Parcel.a_thick
    have ka_Parcel_heavy := k_Parcel.a_heavy
    have ka_Parcel_strong := k_Parcel.a_strong
    have ka_Parcel_marks := k_Parcel.a_marks
    have ka_Parcel_told := k_Parcel.a_told
    have ka_Parcel_names := k_Parcel.a_names
    have kc_Sides := k_Sides.ins.cl
    have ka_Sides_three := k_Sides.a_three
    refine fn_val F sc_Heap_place_of (fun ds S G Y h => ?_) (fun cdv A hgd outer s H E hr px tk po ds S G Y h => ?_)
    · obtain ⟨hh, l, ps, i, p, rfl, _⟩ := h
      rfl
    · obtain ⟨hh, l, ps, i, p, rfl, ⟨h1, h2⟩, hl, ⟨hi, hf⟩, q⟩ := h
      refine ⟨_, (pss_cons (ps_for po rfl (pi_enum (by rfl) T.b_enumerate (pa_cons (pe_fld (pv 0) rfl) pa_nil)) (pg_tup (n := 2) rfl (pgs_cons (pg_name (i := 2) sc_Heap_place_of.nd rfl (Or.inl rfl)) (pgs_cons (pg_name (i := 3) sc_Heap_place_of.nd rfl (Or.inl rfl)) pgs_nil)))
        (pss_one (ps_if (PW.pt (pw_and (pt_val (pe_callB c_isiZ (by rfl) T.b_isinstance (by decide +kernel) (pa_cons (pv 1) (pa_cons (pe_bltn (v := .ty "str") (by rfl) T.b_str (by decide +kernel) rfl) pa_nil)))) (pw_and1 (pt_cmpR op_eq (pe_mG0 (pv 3) c_Parcel_name.cl c_Parcel_name.me c_Parcel_name.fn hgd (hr.mono (by decide)) c_Parcel_name.b .nil VS.pass0) (pv 1) (nomark _))))) (pss_one (ps_ret (pv 2)))
        pss_nil)))
        (pss_one ps_nev)), ?_⟩
      (try dsimp only [cxOf, List.map])
      show VX _ _ [_, _, _, _] _ _
      walk_at "gr"
      have ne : hh ≠ l := HpS.ne ⟨h1, h2⟩
      have h3 : (VS.del S l) hh = some (.ins C_Heap [("held", .ref l)]) := by rw [VS.del_ne ne]; exact h1
      refine vx_forCellE h2 ?_ (fun k ρ2 S2 => k ≤ i ∧ S2 = VS.del S l ∧ ∃ x2 x3, ρ2 = [some (.ref hh), some (.str p.nm), x2, x3]) ⟨Nat.zero_le _, rfl, _, _, rfl⟩ (fun k d ρ2 S2 hd hw => ?_) (fun ρ2 S2 hw => ?_)
      · walk_at "gr"
        exact ⟨rfl, rfl⟩
      · obtain ⟨hk, rfl, x2, x3, rfl⟩ := hw
        rw [List.getElem?_map] at hd
        cases e : ps[k]? with
        | none => rw [e] at hd; cases hd
        | some r =>
          rw [e] at hd
          cases hd
          walk_at "gr"
          refine ⟨r.nm, r.a, r.b, r.c, r.wl, r.wt, r.br, r.mk, rfl, ?_⟩
          walk_at "gr"
          refine VS.br (fun en => ?_) (fun en => ?_)
          · walk_at "gr"
            have : k = i := by
              have n : ¬ k < i := fun z => hf k r z e en
              omega
            subst this
            rw [put_back h2]
            exact q
          · walk_at "gr"
            refine ⟨?_, rfl, _, _, rfl⟩
            have : k ≠ i := fun z => by
              subst z
              rw [hi] at e
              cases e
              exact en rfl
            omega
      · obtain ⟨hk, rfl, x2, x3, rfl⟩ := hw
        rw [List.length_map] at hk
        have := (List.getElem?_eq_some_iff.mp hi).1
        omega) only [↓VS.box]
theorem ok_Heap_parcel {f : Addr} {fd : FuncData} {C_Sides C_Parcel C_Heap C_Nest C_NoNumber C_NoSide C_NoSides C_NoOrder C_NoParcel C_NotInHeap C_NoNest C_Unnested : Addr} {f_Heap_place_of : Addr} {g_Heap_place_of : FuncData}
    (F : Fd K "parcel" "Heap.parcel" s_Heap_parcel [] f fd) (T : Tx K mg) (hsys : SysOk base)
    (c_Heap_place_of : Mf P w K mg base 2 C_Heap "place_of" "Heap.place_of" s_Heap_place_of [] a_Heap_place_of (p_Hp_place C_Heap C_Parcel C_Sides) f_Heap_place_of g_Heap_place_of)
    (k_Heap : Kl_Heap K mg C_Heap)
    (k_Parcel : Kl_Parcel K mg C_Parcel)
    (k_Sides : Kl_Sides K mg C_Sides) :
    FnG P w K mg base (L2.CX P w) 3 f fd a_Heap_parcel (spOf K (p_Hp_parcel C_Heap C_Parcel C_Sides)) := by
  refine VS.unbox ?_
  simp (disch := with_unfolding_all
    have kc_Heap := k_Heap.ins.cl
    have ka_Heap_held := k_Heap.a_held
    have ka_Heap_told := k_Heap.a_told
    have ka_Heap_kind := k_Heap.a_kind
    have kc_Parcel := k_Parcel.ins.cl
    have ka_Parcel_called := k_Parcel.a_called
    have ka_Parcel_outside := k_Parcel.a_outside
    have ka_Parcel_thick := k_Parcel.a_thick
    have ka_Parcel_heavy := k_Parcel.a_heavy
    have ka_Parcel_strong := k_Parcel.a_strong
    have ka_Parcel_marks := k_Parcel.a_marks
    have ka_Parcel_told := k_Parcel.a_told
    have ka_Parcel_names := k_Parcel.a_names
    have kc_Sides := k_Sides.ins.cl
    have ka_Sides_three := k_Sides.a_three
    refine fn_val F sc_Heap_parcel (fun ds S G Y h => ?_) (fun cdv A hgd outer s H E hr px tk po ds S G Y h => ?_)
    · obtain ⟨hh, l, ps, i, p, rfl, _⟩ := h
      rfl
    · obtain ⟨hh, l, ps, i, p, rfl, ⟨h1, h2⟩, hl, hf, q⟩ := h
      refine ⟨_, (pss_one (ps_ret (pe_ix ix_list (pe_fld (pv 0) rfl) (pe_mG (pv 0) c_Heap_place_of.cl c_Heap_place_of.me c_Heap_place_of.fn hgd (hr.mono (by decide)) c_Heap_place_of.b .nil VS.pass0 (pa_cons (pv 1) pa_nil)) (fun _ _ => rfl)))), ?_⟩
      (try dsimp only [cxOf, List.map])
      show VX _ _ [_, _] _ _
      walk_at "gr"
      refine ⟨hh, l, ps, i, p, rfl, ⟨h1, h2⟩, hl, hf, ?_⟩
      refine rv_ixL (.c h2) (atI_nat (j := i) (by rw [List.getElem?_map, hf.1]; rfl)) ?_
      exact q) only [↓VS.box]
theorem ok_Heap_out {f : Addr} {fd : FuncData} {C_Sides C_Parcel C_Heap C_Nest C_NoNumber C_NoSide C_NoSides C_NoOrder C_NoParcel C_NotInHeap C_NoNest C_Unnested : Addr} {f_Heap_place_of : Addr} {g_Heap_place_of : FuncData}
    (F : Fd K "out" "Heap.out" s_Heap_out [] f fd) (T : Tx K mg) (hsys : SysOk base)
    (c_Heap_place_of : Mf P w K mg base 2 C_Heap "place_of" "Heap.place_of" s_Heap_place_of [] a_Heap_place_of (p_Hp_place C_Heap C_Parcel C_Sides) f_Heap_place_of g_Heap_place_of)
    (k_Heap : Kl_Heap K mg C_Heap)
    (k_Parcel : Kl_Parcel K mg C_Parcel)
    (k_Sides : Kl_Sides K mg C_Sides) :
    FnG P w K mg base (L2.CX P w) 3 f fd a_Heap_out (spOf K (p_Hp_out C_Heap C_Parcel C_Sides)) := by
  refine VS.unbox ?_
  simp (disch := with_unfolding_all
    have kc_Heap := k_Heap.ins.cl
    have ka_Heap_held := k_Heap.a_held
    have ka_Heap_told := k_Heap.a_told
    have ka_Heap_kind := k_Heap.a_kind
    have kc_Parcel := k_Parcel.ins.cl
    have ka_Parcel_called := k_Parcel.a_called
    have ka_Parcel_outside := k_Parcel.a_outside
    have ka_Parcel_thick := k_Parcel.a_thick
    have ka_Parcel_heavy := k_Parcel.a_heavy
    have ka_Parcel_strong := k_Parcel.a_strong
    have ka_Parcel_marks := k_Parcel.a_marks
    have ka_Parcel_told := k_Parcel.a_told
    have ka_Parcel_names := k_Parcel.a_names
    have kc_Sides := k_Sides.ins.cl
    have ka_Sides_three := k_Sides.a_three
    refine fn_val F sc_Heap_out (fun ds S G Y h => ?_) (fun cdv A hgd outer s H E hr px tk po ds S G Y h => ?_)
    · obtain ⟨hh, l, ps, i, p, rfl, _⟩ := h
      rfl
    · obtain ⟨hh, l, ps, i, p, rfl, ⟨h1, h2⟩, hl, hf, q⟩ := h
      refine ⟨_, (pss_one (ps_ret (pe_bm PySem.F.plainAttrs_list PySem.F.slot_list_pop PySem.F.type_list_pop mt_popAt (pe_fld (pv 0) rfl) (pa_cons (pe_mG (pv 0) c_Heap_place_of.cl c_Heap_place_of.me c_Heap_place_of.fn hgd (hr.mono (by decide)) c_Heap_place_of.b .nil VS.pass0 (pa_cons (pv 1) pa_nil)) pa_nil)))), ?_⟩
      (try dsimp only [cxOf, List.map])
      show VX _ _ [_, _] _ _
      walk_at "gr"
      refine ⟨hh, l, ps, i, p, rfl, ⟨h1, h2⟩, hl, hf, ?_⟩
      have hi : i < ps.length := (List.getElem?_eq_some_iff.mp hf.1).1
      walk_at "gr"
      exact rm_popAt (j := i) h2 rfl (by omega) (by rw [List.getElem?_map, hf.1]; rfl) (by rw [← map_erase]; exact q)) only [↓VS.box]
theorem ok_Heap_put {f : Addr} {fd : FuncData} {C_Sides C_Parcel C_Heap C_Nest C_NoNumber C_NoSide C_NoSides C_NoOrder C_NoParcel C_NotInHeap C_NoNest C_Unnested : Addr} {f_Heap_names f_Parcel_name : Addr} {g_Heap_names g_Parcel_name : FuncData}
    (F : Fd K "put" "Heap.put" s_Heap_put [.non] f fd) (T : Tx K mg) (hsys : SysOk base)
    (c_Heap_names : Mf P w K mg base 2 C_Heap "names" "Heap.names" s_Heap_names [] a_Heap_names (p_Hp_names C_Heap C_Parcel C_Sides) f_Heap_names g_Heap_names)
    (c_Parcel_name : Mf P w K mg base 1 C_Parcel "name" "Parcel.name" s_Parcel_name [] a_Parcel_name (p_Pc_name C_Parcel C_Sides) f_Parcel_name g_Parcel_name)
    (k_Heap : Kl_Heap K mg C_Heap)
    (k_Parcel : Kl_Parcel K mg C_Parcel)
    (k_Sides : Kl_Sides K mg C_Sides) :
    FnG P w K mg base (L2.CX P w) 3 f fd a_Heap_put (spOf K (p_Hp_put C_Heap C_Parcel C_Sides)) := by
  refine VS.unbox ?_
  simp (disch := with_unfolding_all
    have kc_Heap := k_Heap.ins.cl
    have ka_Heap_held := k_Heap.a_held
    have ka_Heap_told := k_Heap.a_told
    have ka_Heap_kind := k_Heap.a_kind
    have kc_Parcel := k_Parcel.ins.cl
    have ka_Parcel_called := k_Parcel.a_called
    have ka_Parcel_outside := k_Parcel.a_outside
    have ka_Parcel_thick := k_Parcel.a_thick
    have ka_Parcel_heavy := k_Parcel.a_heavy
    have ka_Parcel_strong := k_Parcel.a_strong
    have ka_Parcel_marks := k_Parcel.a_marks
    have ka_Parcel_told := k_Parcel.a_told
    have ka_Parcel_names := k_Parcel.a_names
    have kc_Sides := k_Sides.ins.cl
    have ka_Sides_three := k_Sides.a_three
    refine fn_val F sc_Heap_put (fun ds S G Y h => ?_) (fun cdv A hgd outer s H E hr px tk po ds S G Y h => ?_)
    · obtain ⟨hh, l, ps, p, rfl, _⟩ := h
      rfl
    · obtain ⟨hh, l, ps, p, rfl, ⟨h1, h2⟩, hl, hn, q⟩ := h
      refine ⟨_, (pss_cons (ps_if (pt_not (pt_val (pe_callB c_isiZ (by rfl) T.b_isinstance (by decide +kernel) (pa_cons (pv 1) (pa_cons (pe_gc (v := .ref C_Parcel) (by rfl) ⟨_, k_Parcel.at_, rfl⟩) pa_nil))))) (pss_one ps_nev)
        pss_nil)
        (pss_cons (ps_if (pt_cmpR op_in_seq (pe_mG0 (pv 1) c_Parcel_name.cl c_Parcel_name.me c_Parcel_name.fn hgd (hr.mono (by decide)) c_Parcel_name.b .nil VS.pass0) (pe_mG0 (pv 0) c_Heap_names.cl c_Heap_names.me c_Heap_names.fn hgd (hr.mono (by decide)) c_Heap_names.b .nil VS.pass0) (by rfl)) (pss_one ps_nev)
        pss_nil)
        (pss_cons (ps_set (i := 3) sc_Heap_put.nd rfl (Or.inl rfl) (pe_callB c_len (by rfl) T.b_len (by decide +kernel) (pa_cons (pe_fld (pv 0) rfl) pa_nil)))
        (pss_cons (ps_if (pt_cmpR op_notNo (pv 2) pe_non (nomark _)) (pss_one ps_nev)
        pss_nil)
        (pss_cons (ps_if (pt_cmpR op_eq (pe_callB c_len (by rfl) T.b_len (by decide +kernel) (pa_cons (pe_fld (pv 0) rfl) pa_nil)) (pe_gc (by rfl) T.c_MOST_PARCELS) (nomark _)) (pss_one ps_nev)
        pss_nil)
        (pss_one (ps_expr (pe_bm PySem.F.plainAttrs_list PySem.F.slot_list_insert PySem.F.type_list_insert mt_insertV (pe_fld (pv 0) rfl) (pa_cons (pv 3) (pa_cons (pv 1) pa_nil)))))))))), ?_⟩
      (try dsimp only [cxOf, List.map])
      show VX _ _ [_, _, _, _] _ _
      unfold Pc.d
      walk_at "ga"
      refine rc_isiO (.i .v k_Parcel.ins) k_Parcel.ins.me ?_
      walk_at "ga"
      refine ⟨p.nm, p.a, p.b, p.c, p.wl, p.wt, p.br, p.mk, rfl, ?_⟩
      walk_at "ga"
      refine ⟨hh, l, ps, rfl, ⟨h1, h2⟩, by omega, ?_⟩
      refine rv_in (.l .v) rfl (flat_strs _) ?_
      rw [inD_strs, decide_eq_false hn]
      walk_at "ga"
      refine brYn (fun z => by rw [List.length_map] at z; omega) ?_
      walk_at "ga"
      refine rm_insert (n := ps.length) h2 (by rw [List.length_map]) (by rw [List.length_map]; exact Nat.le_refl _) (by rw [List.length_map]; have := szl; omega) ?_
      rw [List.take_of_length_le (by rw [List.length_map]; exact Nat.le_refl _), List.drop_of_length_le (by rw [List.length_map]; exact Nat.le_refl _), List.append_nil]
      rw [List.map_append] at q
      exact q) only [↓VS.box]
end
end LW
namespace LW
open PySem L2 C8 PySem.Spec PyProof.Rows VS
/-! ### the numbers by which a heap is ordered -/
/-- a heap whose list is a list, by value or by reference -/
def IsHl (S : Sto) (CH CP CS : Addr) (x : D) (ps : List Pc) : Prop := ∃ d, IsI S x CH [("held", d)] ∧ IsL S d (ps.map (Pc.d CP CS))
theorem IsHl.v {S : Sto} {CH CP CS : Addr} {ps : List Pc} : IsHl S CH CP CS (.ins CH [("held", .lst (ps.map (Pc.d CP CS)))]) ps := ⟨_, .v, .v⟩
theorem IsHl.ext {S S' : Sto} {CH CP CS : Addr} {x : D} {ps : List Pc} (s : IsHl S CH CP CS x ps) (e : Ext S S') : IsHl S' CH CP CS x ps := by
  obtain ⟨d, h1, h2⟩ := s
  refine ⟨d, h1.ext e, ?_⟩
  cases h2 with
  | v => exact .v
  | r => exact .r
  | c h => exact .c (e _ _ h)
local macro_rules | `(tactic| walk_at "ii") => `(tactic| assumption)
end LW
namespace LW
open PySem L2 C8 PySem.Spec PyProof.Rows VS
/-! ### in which ones each parcel goes -/
/-- a heap, by reference or by value, and its parcels -/
def IsHp (S : Sto) (CH CP CS : Addr) (x : D) (ps : List Pc) : Prop := ∃ d, IsI S x CH [("held", d)] ∧ IsQ S d (ps.map (Pc.d CP CS))
theorem HpS.is {S : Sto} {CH CP CS h l : Addr} {ps : List Pc} (s : HpS S CH CP CS h l ps) : IsHp S CH CP CS (.ref h) ps := ⟨.ref l, .c s.1, .l (.c s.2)⟩
theorem IsHp.ext {S S' : Sto} {CH CP CS : Addr} {x : D} {ps : List Pc} (s : IsHp S CH CP CS x ps) (e : Ext S S') : IsHp S' CH CP CS x ps := by
  obtain ⟨d, h1, h2⟩ := s
  refine ⟨d, ?_, ?_⟩
  · cases h1 with
    | v => exact .v
    | c h => exact .c (e _ _ h)
  · cases h2 with
    | t => exact .t
    | l h =>
      cases h with
      | v => exact .l .v
      | r => exact .l .r
      | c h => exact .l (.c (e _ _ h))
theorem IsHp.v {S : Sto} {CH CP CS : Addr} {ps : List Pc} : IsHp S CH CP CS (.ins CH [("held", .lst (ps.map (Pc.d CP CS)))]) ps := ⟨_, .v, .l .v⟩
def p_Hp_parcels (CH CP CS : Addr) : Pt := fun ds S G _ => ∃ x ps, ds = [x] ∧ IsHp S CH CP CS x ps ∧ G (.lst (ps.map (Pc.d CP CS))) S
/-- the ranked sides, falling -/
def rkD (a b c : Int) : D := .tup ((dn [a, b, c]).map D.int)
def shA (p : Pc) : D := if ("alone" : Str) ∈ p.mk then .non else rkD p.a p.b p.c
def shB (p : Pc) : D := if ("alone" : Str) ∈ p.mk then .non else if noRoom p.a p.b p.c p.wl then .non else rkD (p.a - 2 * p.wl) (p.b - 2 * p.wl) (p.c - 2 * p.wl)
def p_shape_of (CP CS : Addr) : Pt := fun ds S G _ => ∃ p : Pc, ds = [p.d CP CS] ∧ p.g ∧ ∀ S', Ext S S' → G (.tup [shA p, shB p]) S'
def shG (x y : D) (sp : Int) : Bool := match x, y with
  | .tup [.int a, .int b, .int c], .tup [.int u, .int v, .int w] => decide (a + sp ≤ u) && (decide (b + sp ≤ v) && decide (c + sp ≤ w))
  | _, _ => false
inductive Shp : D → Prop
  | n : Shp .non
  | t {a b c : Int} : Shp (.tup [.int a, .int b, .int c])
theorem dn3 (a b c : Int) : ∃ u v w, dn [a, b, c] = [u, v, w] := by
  obtain ⟨u, v, w, e, _⟩ := up3 a b c
  exact ⟨w, v, u, by unfold dn; rw [e]; rfl⟩
theorem rk_shp (a b c : Int) : Shp (rkD a b c) := by
  obtain ⟨u, v, w, e⟩ := dn3 a b c
  unfold rkD
  rw [e]
  exact .t
theorem shA_shp (p : Pc) : Shp (shA p) := by unfold shA; split; exact .n; exact rk_shp _ _ _
theorem shB_shp (p : Pc) : Shp (shB p) := by
  unfold shB
  split
  · exact .n
  · split
    · exact .n
    · exact rk_shp _ _ _
def p_shape_goes : Pt := fun ds S G _ => ∃ (x y : D) (sp : Int), ds = [x, y, .int sp] ∧ Shp x ∧ Shp y ∧ G (.bl (shG x y sp)) S
/-- whether one parcel goes in another one, by the ranks -/
def goB (sp : Int) (p q : Pc) : Bool := shG (shA p) (shB q) sp
def goN (sp : Int) (ps : List Pc) (p : Pc) : List Str := (ps.filter (goB sp p)).map Pc.nm
/-- a dict from the names to lists, these by reference -/
def inD2 (ps : List Pc) (as : List Addr) : List (Key × D) := List.zipWith (fun p a => ((.inr p.nm : Key), D.ref a)) ps as
def p_inside (K : PySem.W.Frag) (CH CP CS CN : Addr) : Pt := fun ds S G Y =>
  (∃ (x : D) (sp : Int) (ps : List Pc), ds = [x, .int sp] ∧ IsHp S CH CP CS x ps ∧ Hps ps ∧ 0 ≤ sp ∧ sp ≤ 1000 ∧
    ∀ (d : Addr) (as : List Addr) (S' : Sto), S d = none → as.length = ps.length → as.Nodup → d ∉ as → (∀ a ∈ as, S a = none) → Ext S S' → S' d = some (.dK (inD2 ps as)) → (∀ (i : Nat) (a : Addr) (p : Pc), as[i]? = some a → ps[i]? = some p → S' a = some (.lst ((goN sp ps p).map D.str))) → G (.ref d) S') ∨
  ∃ (x y : D) (o : Option Int), ds = [x, y] ∧ Wh K S y o ∧ whB o 0 1000 = false ∧ Y CN [("found", y)] S
def rowD (p : Pc) : D := .tup [.str p.nm, shA p, shB p]
def nmT : D → D
  | .tup (x :: _) => x
  | d => d
theorem dkPut_new {ds : List (Key × D)} {k : Key} {d : D} (h : ∀ x ∈ ds, x.1 ≠ k) : dkPut ds k d = ds ++ [(k, d)] := by
  unfold dkPut
  rw [if_neg]
  intro z
  obtain ⟨x, hx, e⟩ := List.any_eq_true.mp z
  exact h x hx (of_decide_eq_true e)
theorem inD2_app {ps : List Pc} {as : List Addr} {p : Pc} {a : Addr} (h : as.length = ps.length) : inD2 (ps ++ [p]) (as ++ [a]) = inD2 ps as ++ [((.inr p.nm : Key), D.ref a)] := by
  unfold inD2
  rw [List.zipWith_append h.symm]
  rfl
theorem inD2_keys : ∀ {ps : List Pc} {as : List Addr}, as.length = ps.length → (inD2 ps as).map Prod.fst = (ps.map Pc.nm).map (.inr : Str → Key)
  | [], [], _ => rfl
  | [], _ :: _, h => by cases h
  | _ :: _, [], h => by cases h
  | p :: ps, a :: as, h => by
    show _ :: (inD2 ps as).map Prod.fst = _ :: _
    rw [inD2_keys (Nat.succ.inj h)]
theorem _root_.VS.Ext.dl {S S' : Sto} {l : Addr} (x : Ext S S') (h : S l = none) : Ext S (VS.del S' l) := fun a d e => by
  have ne : a ≠ l := fun z => by rw [z, h] at e; cases e
  rw [VS.del_ne ne]
  exact x a d e
theorem _root_.VS.Ext.no {S S' : Sto} {l : Addr} (x : Ext S S') (h : S' l = none) : S l = none := by
  cases e : S l with
  | none => rfl
  | some d => rw [x _ _ e] at h; cases h
section
variable {P : Program} {w : World} {K : PySem.W.Frag} {mg : Str → Option Value} {base : Heap}
theorem ok_Heap_parcels {f : Addr} {fd : FuncData} {C_Sides C_Parcel C_Heap C_Nest C_NoNumber C_NoSide C_NoSides C_NoOrder C_NoParcel C_NotInHeap C_NoNest C_Unnested : Addr}
    (F : Fd K "parcels" "Heap.parcels" s_Heap_parcels [] f fd) (T : Tx K mg) (hsys : SysOk base)
    (k_Heap : Kl_Heap K mg C_Heap)
    (k_Parcel : Kl_Parcel K mg C_Parcel)
    (k_Sides : Kl_Sides K mg C_Sides) :
    FnG P w K mg base (L2.CX P w) 1 f fd a_Heap_parcels (spOf K (p_Hp_parcels C_Heap C_Parcel C_Sides)) := by
  refine VS.unbox ?_
  simp (disch := with_unfolding_all
    have kc_Heap := k_Heap.ins.cl
    have ka_Heap_held := k_Heap.a_held
    have ka_Heap_told := k_Heap.a_told
    have ka_Heap_kind := k_Heap.a_kind
    have kc_Parcel := k_Parcel.ins.cl
    have ka_Parcel_called := k_Parcel.a_called
    have ka_Parcel_outside := k_Parcel.a_outside
    have ka_Parcel_thick := k_Parcel.a_thick
    have ka_Parcel_heavy := k_Parcel.a_heavy
    have ka_Parcel_strong := k_Parcel.a_strong
    have ka_Parcel_marks := k_Parcel.a_marks
    have ka_Parcel_told := k_Parcel.a_told
    have ka_Parcel_names := k_Parcel.a_names
    have kc_Sides := k_Sides.ins.cl
    have ka_Sides_three := k_Sides.a_three
    refine fn_val F sc_Heap_parcels (fun ds S G Y h => ?_) (fun cdv A hgd outer s H E hr px tk po ds S G Y h => ?_)
    · obtain ⟨x, ps, rfl, _⟩ := h
      rfl
    · obtain ⟨x, ps, rfl, ⟨d, h1, h2⟩, q⟩ := h
      refine ⟨_, (pss_one (ps_ret (pe_callTy c_list (by rfl) T.b_list (by decide +kernel) (pa_cons (pe_fld (pv 0) rfl) pa_nil)))), ?_⟩
      (try dsimp only [cxOf, List.map])
      show VX _ _ [_] _ _
      walk_at "gr"
      refine ⟨_, _, _, h1, kc_Heap, ka_Heap_held, rfl, ?_⟩
      walk_at "gr"
      exact rc_list h2 q) only [↓VS.box]
theorem ok_shape_of {f : Addr} {fd : FuncData} {C_Sides C_Parcel C_Heap C_Nest C_NoNumber C_NoSide C_NoSides C_NoOrder C_NoParcel C_NotInHeap C_NoNest C_Unnested : Addr} {f_Parcel_labels f_Parcel_room f_Parcel_sides f_Sides_ranked : Addr} {g_Parcel_labels g_Parcel_room g_Parcel_sides g_Sides_ranked : FuncData}
    (F : Fd K "shape_of" "shape_of" s_shape_of [] f fd) (T : Tx K mg) (hsys : SysOk base)
    (c_Parcel_labels : Mf P w K mg base 1 C_Parcel "labels" "Parcel.labels" s_Parcel_labels [] a_Parcel_labels (p_Pc_labels C_Parcel C_Sides) f_Parcel_labels g_Parcel_labels)
    (c_Parcel_room : Mf P w K mg base 6 C_Parcel "room" "Parcel.room" s_Parcel_room [] a_Parcel_room (p_Pc_room C_Parcel C_Sides) f_Parcel_room g_Parcel_room)
    (c_Parcel_sides : Mf P w K mg base 1 C_Parcel "sides" "Parcel.sides" s_Parcel_sides [] a_Parcel_sides (p_Pc_sides C_Parcel C_Sides) f_Parcel_sides g_Parcel_sides)
    (c_Sides_ranked : Mf P w K mg base 1 C_Sides "ranked" "Sides.ranked" s_Sides_ranked [] a_Sides_ranked (p_ranked C_Sides) f_Sides_ranked g_Sides_ranked)
    (k_Parcel : Kl_Parcel K mg C_Parcel)
    (k_Sides : Kl_Sides K mg C_Sides) :
    FnG P w K mg base (L2.CX P w) 7 f fd a_shape_of (spOf K (p_shape_of C_Parcel C_Sides)) := by
  refine VS.unbox ?_
  simp (disch := with_unfolding_all
    have kc_Parcel := k_Parcel.ins.cl
    have ka_Parcel_called := k_Parcel.a_called
    have ka_Parcel_outside := k_Parcel.a_outside
    have ka_Parcel_thick := k_Parcel.a_thick
    have ka_Parcel_heavy := k_Parcel.a_heavy
    have ka_Parcel_strong := k_Parcel.a_strong
    have ka_Parcel_marks := k_Parcel.a_marks
    have ka_Parcel_told := k_Parcel.a_told
    have ka_Parcel_names := k_Parcel.a_names
    have kc_Sides := k_Sides.ins.cl
    have ka_Sides_three := k_Sides.a_three
    refine fn_val F sc_shape_of (fun ds S G Y h => ?_) (fun cdv A hgd outer s H E hr px tk po ds S G Y h => ?_)
    · obtain ⟨p, rfl, _⟩ := h
      rfl
    · obtain ⟨p, rfl, g, q⟩ := h
      refine ⟨_, (pss_cons (ps_if (pt_cmpR op_in_seq pe_str (pe_mG0 (pv 0) c_Parcel_labels.cl c_Parcel_labels.me c_Parcel_labels.fn hgd (hr.mono (by decide)) c_Parcel_labels.b .nil VS.pass0) (by rfl)) (pss_one (ps_ret (pe_tup (pa_cons pe_non (pa_cons pe_non pa_nil)))))
        pss_nil)
        (pss_cons (ps_set (i := 1) sc_shape_of.nd rfl (Or.inl rfl) (pe_mG0 (pv 0) c_Parcel_room.cl c_Parcel_room.me c_Parcel_room.fn hgd (hr.mono (by decide)) c_Parcel_room.b .nil VS.pass0))
        (pss_one (ps_ret (pe_tup (pa_cons (pe_mG0 (pe_mG0 (pv 0) c_Parcel_sides.cl c_Parcel_sides.me c_Parcel_sides.fn hgd (hr.mono (by decide)) c_Parcel_sides.b .nil VS.pass0) c_Sides_ranked.cl c_Sides_ranked.me c_Sides_ranked.fn hgd (hr.mono (by decide)) c_Sides_ranked.b .nil VS.pass0) (pa_cons (pe_ifExp (pt_cmpR op_isNo (pv 1) pe_non (nomark _)) pe_non (pe_mG0 (pv 1) c_Sides_ranked.cl c_Sides_ranked.me c_Sides_ranked.fn hgd (hr.mono (by decide)) c_Sides_ranked.b .nil VS.pass0)) pa_nil))))))), ?_⟩
      (try dsimp only [cxOf, List.map])
      show VX _ _ [_, _] _ _
      walk_at "gr"
      refine ⟨p.nm, p.a, p.b, p.c, p.wl, p.wt, p.br, p.mk, rfl, fun l hl => ?_⟩
      have x1 : Ext S (put S l (.lst (p.mk.map D.str))) := Ext.put hl
      refine rv_in (.l (.c put_same)) rfl (flat_strs _) ?_
      rw [inD_strs]
      generalize put S l (.lst (p.mk.map D.str)) = S1 at x1 ⊢
      refine ⟨_, rfl, fun e => ?_, fun e => ?_⟩
      · have e := of_decide_eq_true e
        have ea : shA p = .non := if_pos e
        have eb : shB p = .non := if_pos e
        rw [ea, eb] at q
        walk_at "gr"
        exact q _ x1
      · have e := of_decide_eq_false e
        have ea : shA p = rkD p.a p.b p.c := if_neg e
        have eb : shB p = if noRoom p.a p.b p.c p.wl then .non else rkD (p.a - 2 * p.wl) (p.b - 2 * p.wl) (p.c - 2 * p.wl) := if_neg e
        rw [ea, eb] at q
        walk_at "gr"
        refine ⟨p.nm, p.a, p.b, p.c, p.wl, p.wt, p.br, p.mk, rfl, g, fun nr => ?_, fun nr => ?_⟩
        · rw [if_pos nr] at q
          walk_at "gr"
          refine ⟨p.nm, p.a, p.b, p.c, p.wl, p.wt, p.br, p.mk, rfl, ?_⟩
          walk_at "gr"
          exact q _ x1
        · rw [if_neg nr] at q
          walk_at "gr"
          refine ⟨p.nm, p.a, p.b, p.c, p.wl, p.wt, p.br, p.mk, rfl, ?_⟩
          walk_at "gr"
          exact q _ x1) only [↓VS.box]
theorem ok_shape_goes {f : Addr} {fd : FuncData} {C_Sides C_Parcel C_Heap C_Nest C_NoNumber C_NoSide C_NoSides C_NoOrder C_NoParcel C_NotInHeap C_NoNest C_Unnested : Addr}
    (F : Fd K "shape_goes" "shape_goes" s_shape_goes [] f fd) (T : Tx K mg) (hsys : SysOk base) :
    FnG P w K mg base (L2.CX P w) 1 f fd a_shape_goes (spOf K p_shape_goes) := by
  refine VS.unbox ?_
  simp (disch := with_unfolding_all
    refine fn_val F sc_shape_goes (fun ds S G Y h => ?_) (fun cdv A hgd outer s H E hr px tk po ds S G Y h => ?_)
    · obtain ⟨x, y, sp, rfl, _⟩ := h
      rfl
    · obtain ⟨x, y, sp, rfl, hx, hy, q⟩ := h
      refine ⟨_, (pss_cons (ps_if (PW.pt (pw_or (pt_cmpR op_isNo (pv 0) pe_non (nomark _)) (pw_or1 (pt_cmpR op_isNo (pv 1) pe_non (nomark _))))) (pss_one (ps_ret pe_bl))
        pss_nil)
        (pss_one (ps_ret (pe_callB (cr_all rfl) (by rfl) T.b_all (by decide +kernel) (pa_cons (pe_lc (own := [("side", 3), ("most", 4)]) rfl sc_shape_goes.nd (RZ.pi_zipA (by rfl) T.b_zip (pa_cons (pv 0) (pa_cons (pv 1) pa_nil))) (blkOk_by (own := [("side", 3), ("most", 4)]) (N := n_shape_goes) (sc := defScope s_shape_goes) (by decide +kernel)) (fun _ _ _ _ _ => (kTup (K := K) (pg_tup (n := 2) rfl (pgs_cons (pg_name (i := 3) sc_shape_goes.nd rfl (Or.inl rfl)) (pgs_cons (pg_name (i := 4) sc_shape_goes.nd rfl (Or.inl rfl)) pgs_nil))))) (fun _ _ _ _ _ => pts_nil) (fun _ _ _ _ _ => (pe_cmpR op_le (pe_op op_add (pv 3) (pv 2)) (pv 4) (nomark _)))) pa_nil))))), ?_⟩
      (try dsimp only [cxOf, List.map])
      show VX _ _ [_, _, _, _, _] _ _
      cases hx with
      | n =>
        walk_at "gr"
        exact q
      | t =>
        cases hy with
        | n =>
          walk_at "gr"
          exact q
        | t =>
          rename_i a b c u v w
          walk_at "gr"
          refine ve_lcM (fun d => match d with | .tup [.int u, .int v] => .bl (decide (u + sp ≤ v)) | _ => .non) (vi_zipT ?_)
          walk_at "gr"
          refine ⟨_, _, rfl, by show 3 ≤ 100000; decide, fun d hd => ?_, ?_⟩
          · have hd' : d = .tup [.int a, .int u] ∨ d = .tup [.int b, .int v] ∨ d = .tup [.int c, .int w] := by simpa [zipD] using hd
            rcases hd' with rfl | rfl | rfl
            all_goals
              walk_at "gr"
              exact ⟨rfl, by walk_at "gr"; exact ⟨rfl, rfl⟩⟩
          refine va_nil ?_
          show RC _ _ [.lst (([decide (a + sp ≤ u), decide (b + sp ≤ v), decide (c + sp ≤ w)]).map D.bl)] _ _
          refine rc_all .v ?_
          have e : shG (.tup [.int a, .int b, .int c]) (.tup [.int u, .int v, .int w]) sp = ([decide (a + sp ≤ u), decide (b + sp ≤ v), decide (c + sp ≤ w)]).all id := by
            simp [shG]
          rw [e] at q
          exact q) only [↓VS.box]
theorem ok_inside {f : Addr} {fd : FuncData} {C_Sides C_Parcel C_Heap C_Nest C_NoNumber C_NoSide C_NoSides C_NoOrder C_NoParcel C_NotInHeap C_NoNest C_Unnested : Addr} {f_need_spare f_Heap_parcels f_shape_of f_Parcel_name f_shape_goes : Addr} {g_need_spare g_Heap_parcels g_shape_of g_Parcel_name g_shape_goes : FuncData}
    (F : Fd K "inside" "inside" s_inside [.int 0] f fd) (T : Tx K mg) (hsys : SysOk base)
    (c_need_spare : Cf P w K mg base (L2.CX P w) 3 "need_spare" s_need_spare [] a_need_spare (p_need_spare K C_NoNumber) f_need_spare g_need_spare)
    (c_Heap_parcels : Mf P w K mg base 1 C_Heap "parcels" "Heap.parcels" s_Heap_parcels [] a_Heap_parcels (p_Hp_parcels C_Heap C_Parcel C_Sides) f_Heap_parcels g_Heap_parcels)
    (c_shape_of : Cf P w K mg base (L2.CX P w) 7 "shape_of" s_shape_of [] a_shape_of (p_shape_of C_Parcel C_Sides) f_shape_of g_shape_of)
    (c_Parcel_name : Mf P w K mg base 1 C_Parcel "name" "Parcel.name" s_Parcel_name [] a_Parcel_name (p_Pc_name C_Parcel C_Sides) f_Parcel_name g_Parcel_name)
    (c_shape_goes : Cf P w K mg base (L2.CX P w) 1 "shape_goes" s_shape_goes [] a_shape_goes p_shape_goes f_shape_goes g_shape_goes)
    (k_Heap : Kl_Heap K mg C_Heap)
    (k_Parcel : Kl_Parcel K mg C_Parcel)
    (k_Sides : Kl_Sides K mg C_Sides) :
    FnG P w K mg base (L2.CX P w) 8 f fd a_inside (spOf K (p_inside K C_Heap C_Parcel C_Sides C_NoNumber)) := by
  refine VS.unbox ?_
  simp (disch := with_unfolding_all
    have kc_Heap := k_Heap.ins.cl
    have ka_Heap_held := k_Heap.a_held
    have ka_Heap_told := k_Heap.a_told
    have ka_Heap_kind := k_Heap.a_kind
    have kc_Parcel := k_Parcel.ins.cl
    have ka_Parcel_called := k_Parcel.a_called
    have ka_Parcel_outside := k_Parcel.a_outside
    have ka_Parcel_thick := k_Parcel.a_thick
    have ka_Parcel_heavy := k_Parcel.a_heavy
    have ka_Parcel_strong := k_Parcel.a_strong
    have ka_Parcel_marks := k_Parcel.a_marks
    have ka_Parcel_told := k_Parcel.a_told
    have ka_Parcel_names := k_Parcel.a_names
    have kc_Sides := k_Sides.ins.cl
    have ka_Sides_three := k_Sides.a_three
    refine fn_val F sc_inside (fun ds S G Y h => ?_) (fun cdv A hgd outer s H E hr px tk po ds S G Y h => ?_)
    · rcases h with ⟨x, sp, ps, rfl, _⟩ | ⟨x, y, o, rfl, _⟩
      · rfl
      · rfl
    · obtain ⟨y1, y2, rfl⟩ : ∃ y1 y2, ds = [y1, y2] := by
        rcases h with ⟨x, sp, ps, e, _⟩ | ⟨x, y, o, e, _⟩ <;> exact ⟨_, _, e⟩
      refine ⟨_, (pss_cons (ps_expr (pe_cG c_need_spare.fn hgd (hr.mono (by decide)) (by rfl) c_need_spare.mg c_need_spare.kp c_need_spare.b .nil px (pa_cons (pv 1) pa_nil)))
        (pss_cons (ps_set (i := 2) sc_inside.nd rfl (Or.inl rfl) (pe_lst pa_nil))
        (pss_cons (ps_for po rfl (pi_list (pe_mG0 (pv 0) c_Heap_parcels.cl c_Heap_parcels.me c_Heap_parcels.fn hgd (hr.mono (by decide)) c_Heap_parcels.b .nil VS.pass0)) (pg_name (i := 3) sc_inside.nd rfl (Or.inl rfl))
        (pss_cons (ps_asg (pe_cG c_shape_of.fn hgd (hr.mono (by decide)) (by rfl) c_shape_of.mg c_shape_of.kp c_shape_of.b .nil VS.pass0 (pa_cons (pv 3) pa_nil)) (pg_tup (n := 2) rfl (pgs_cons (pg_name (i := 4) sc_inside.nd rfl (Or.inr rfl)) (pgs_cons (pg_name (i := 5) sc_inside.nd rfl (Or.inl rfl)) pgs_nil))))
        (pss_one (ps_expr (pe_bm PySem.F.plainAttrs_list PySem.F.slot_list_append PySem.F.type_list_append mt_append (pv 2) (pa_cons (pe_tup (pa_cons (pe_mG0 (pv 3) c_Parcel_name.cl c_Parcel_name.me c_Parcel_name.fn hgd (hr.mono (by decide)) c_Parcel_name.b .nil VS.pass0) (pa_cons (pv 4) (pa_cons (pv 5) pa_nil)))) pa_nil))))))
        (pss_cons (ps_set (i := 6) sc_inside.nd rfl (Or.inl rfl) pe_dnewK)
        (pss_cons (ps_for po rfl (pi_list (pv 2)) (pg_tup (n := 3) rfl (pgs_cons (pg_name (i := 7) sc_inside.nd rfl (Or.inl rfl)) (pgs_cons (pg_name (i := 4) sc_inside.nd rfl (Or.inr rfl)) (pgs_cons (pg_name (i := 5) sc_inside.nd rfl (Or.inl rfl)) pgs_nil))))
        (pss_one (ps_dput (hu_of hr) (pv 6) (pv 7) (pe_lc (own := [("row", 8)]) rfl sc_inside.nd (pi_list (pv 2)) (blkOk_by (own := [("row", 8)]) (N := n_inside) (sc := defScope s_inside) (by decide +kernel)) (fun _ _ _ _ _ => (pg_name (i := 8) sc_inside.nd rfl (Or.inl rfl))) (fun _ _ _ _ _ => (pts_one (pt_val (pe_cG c_shape_goes.fn hgd (hr.mono (by decide)) (by rfl) c_shape_goes.mg c_shape_goes.kp c_shape_goes.b .nil VS.pass0 (pa_cons (pv 4) (pa_cons (pe_ix (kI (K := K) (r := rIxT) ix_tup) (pv 8) pe_int (fun _ _ => rfl)) (pa_cons (pv 1) pa_nil))))))) (fun _ _ _ _ _ => (pe_ix (kI (K := K) (r := rIxT) ix_tup) (pv 8) pe_int (fun _ _ => rfl)))) (by rfl))))
        (pss_one (ps_ret (pv 6)))))))), ?_⟩
      (try dsimp only [cxOf, List.map])
      show VX _ _ [_, _, _, _, _, _, _, _, _] _ _
      walk_at "gr"
      rcases h with ⟨x, sp, ps, e, hx, hps, s0, s1, q⟩ | ⟨x, y, o, e, hy, hb, q⟩
      · cases e
        refine ⟨.int sp, some sp, rfl, .i sp, fun _ => ?_, fun z => ?_⟩
        · walk_at "gr"
          refine ve_lstc ?_
          walk_at "gr"
          intro l hl
          have hx1 := hx.ext (Ext.put (d := .lst []) hl)
          have x1 := Ext.put (d := .lst []) hl
          have c1 : (put S l (.lst [])) l = some (.lst []) := put_same
          generalize put S l (.lst []) = S1 at hx1 x1 c1 ⊢
          walk_at "gr"
          refine vx_for (vi_list ?_)
          obtain ⟨d0, hi0, hq0⟩ := hx1
          have hx1 : IsHp S1 C_Heap C_Parcel C_Sides y1 ps := ⟨d0, hi0, hq0⟩
          have p12 := hps.l
          walk_at "gr"
          refine ⟨_, hi0, rfl, ?_⟩
          walk_at "gr"
          refine ⟨y1, ps, rfl, hx1, ?_⟩
          refine ⟨_, .v, fun i ρ2 S2 => S2 l = some (.lst ((ps.take i).map rowD)) ∧ Ext S S2 ∧ ∃ x3 x4 x5, ρ2 = [some y1, some (.int sp), some (.ref l), x3, x4, x5, none, none, none], ⟨c1, x1, _, _, _, rfl⟩, ?_, ?_⟩
          · rintro i d _ S2 hd ⟨c2, x2, x3, x4, x5, rfl⟩
            rw [List.getElem?_map] at hd
            cases e : ps[i]? with
            | none => rw [e] at hd; cases hd
            | some r =>
              rw [e] at hd
              cases hd
              have tk : ps.take (i + 1) = ps.take i ++ [r] := by rw [List.take_succ, e]; rfl
              walk_at "gr"
              refine ⟨r, rfl, hps.g r (List.mem_of_getElem? e), fun S3 x3' => ?_⟩
              have c3 := x3' _ _ c2
              walk_at "gr"
              refine ⟨r.nm, r.a, r.b, r.c, r.wl, r.wt, r.br, r.mk, rfl, ?_⟩
              walk_at "gr"
              refine rm_append c3 (by rw [List.length_map, List.length_take]; have := szl; omega) ?_
              refine ⟨?_, (x2.trans x3').wr hl, _, _, _, rfl⟩
              rw [put_same, tk, List.map_append]
              rfl
          · rintro _ S2 ⟨c2, x2, x3, x4, x5, rfl⟩
            rw [List.length_map, List.take_length] at c2
            refine vx_freeze 2 rfl c2 ?_
            have x4' := x2.dl hl
            show VX _ _ [some y1, some (.int sp), some (.lst (ps.map rowD)), x3, x4, x5, none, none, none] _ _
            generalize VS.del S2 l = S3 at x4' ⊢
            clear c2 x2 c1 x1 hx1 hi0 hq0
            refine vx_seq (vx_asg ?_)
            refine ve_dnewc fun d hd => ?_
            have sd0 : S d = none := x4'.no hd
            have c5 : (put S3 d (.dK [])) d = some (.dK []) := put_same
            have x5' := x4'.trans (Ext.put (d := .dK []) hd)
            generalize put S3 d (.dK []) = S4 at c5 x5' ⊢
            walk_at "gr"
            refine vx_for (vi_list ?_)
            walk_at "gr"
            refine ⟨_, .v, fun i ρ2 S2 => ∃ as : List Addr, as.length = i ∧ as.Nodup ∧ d ∉ as ∧ (∀ a ∈ as, S a = none) ∧ Ext S S2 ∧ S2 d = some (.dK (inD2 (ps.take i) as)) ∧ (∀ (j : Nat) (a : Addr) (p : Pc), as[j]? = some a → ps[j]? = some p → S2 a = some (.lst ((goN sp ps p).map D.str))) ∧ ∃ x4 x5 x7, ρ2 = [some y1, some (.int sp), some (.lst (ps.map rowD)), x3, x4, x5, some (.ref d), x7, none], ⟨[], rfl, .nil, nofun, nofun, x5', c5, nofun, _, _, _, rfl⟩, ?_, ?_⟩
            · clear c5 x5'
              rintro i dd _ S5 hdd ⟨as, la, na, da, sa, x6, c6, h6, x4, x5, x7, rfl⟩
              rw [List.getElem?_map] at hdd
              cases e : ps[i]? with
              | none => rw [e] at hdd; cases hdd
              | some r =>
                rw [e] at hdd
                cases hdd
                have hi : i < ps.length := (List.getElem?_eq_some_iff.mp e).1
                have tk : ps.take (i + 1) = ps.take i ++ [r] := by rw [List.take_succ, e]; rfl
                unfold rowD
                walk_at "gr"
                refine vx_dput ?_
                refine ve_lcc (vi_list ?_)
                walk_at "gr"
                refine ⟨_, .v, by rw [List.length_map]; omega, fun j acc S7 => acc = (((ps.take j).filter (goB sp r)).map Pc.nm).map D.str ∧ S7 = S5, ⟨rfl, rfl⟩, ?_, ?_⟩
                · rintro j dz acc S7 hdz ⟨rfl, rfl⟩ _
                  have hdz : (ps.map rowD)[j]? = some dz := hdz
                  rw [List.getElem?_map] at hdz
                  cases e2 : ps[j]? with
                  | none => rw [e2] at hdz; cases hdz
                  | some t =>
                    rw [e2] at hdz
                    cases hdz
                    have tk2 : ps.take (j + 1) = ps.take j ++ [t] := by rw [List.take_succ, e2]; rfl
                    unfold rowD
                    walk_at "gr"
                    refine ⟨_, _, sp, rfl, shA_shp r, shB_shp t, ?_⟩
                    refine ⟨_, rfl, fun eb => ?_, fun eb => ?_⟩
                    · walk_at "gr"
                      refine ⟨?_, rfl⟩
                      rw [tk2, List.filter_append, List.filter_cons_of_pos (show goB sp r t = true from eb), List.map_append, List.map_append]
                      rfl
                    · refine ⟨?_, rfl⟩
                      rw [tk2, List.filter_append, List.filter_cons_of_neg (by rw [show goB sp r t = false from eb]; decide), List.filter_nil, List.append_nil]
                · rintro acc S7 ⟨ea, rfl⟩ _ a ha
                  rw [List.length_map, List.take_length] at ea
                  subst ea
                  have nda : d ≠ a := ne_at c6 ha
                  have naa : ∀ a' ∈ as, a' ≠ a := fun a' h' z => by
                    obtain ⟨j, hj⟩ := List.getElem?_of_mem h'
                    have hjl : j < as.length := (List.getElem?_eq_some_iff.mp hj).1
                    have := h6 j a' _ hj (List.getElem?_eq_getElem (show j < ps.length by omega))
                    rw [z, ha] at this
                    cases this
                  have c7 : (put S7 a (.lst (((ps.filter (goB sp r)).map Pc.nm).map D.str))) d = some (.dK (inD2 (ps.take i) as)) := (put_ne nda).trans c6
                  walk_at "gr"
                  refine ⟨inD2 (ps.take i) as, .inr r.nm, c7, rfl, ?_, as ++ [a], ?_, ?_, ?_, ?_, ?_, ?_, ?_, _, _, _, rfl⟩
                  · have : (inD2 (ps.take i) as).length ≤ as.length := by unfold inD2; rw [List.length_zipWith]; omega
                    have := szl
                    omega
                  · rw [List.length_append, la]; rfl
                  · rw [List.nodup_append]
                    exact ⟨na, by simp, fun x hx y hy => by rw [List.mem_singleton.mp hy]; exact naa x hx⟩
                  · intro z
                    rcases List.mem_append.mp z with z | z
                    · exact da z
                    · exact nda (List.mem_singleton.mp z)
                  · intro x hx
                    rcases List.mem_append.mp hx with hx | hx
                    · exact sa x hx
                    · rw [List.mem_singleton.mp hx]; exact x6.no ha
                  · exact (x6.trans (Ext.put ha)).wr sd0
                  · rw [put_same, dkPut_new, tk, inD2_app (by rw [List.length_take]; omega)]
                    intro x hx z
                    have hk : x.1 ∈ (inD2 (ps.take i) as).map Prod.fst := List.mem_map.mpr ⟨x, hx, rfl⟩
                    rw [inD2_keys (by rw [List.length_take]; omega), z] at hk
                    obtain ⟨w, hw, ew⟩ := List.mem_map.mp hk
                    cases ew
                    obtain ⟨t, ht, et⟩ := List.mem_map.mp hw
                    obtain ⟨j, hj⟩ := List.getElem?_of_mem ht
                    have jl : j < i := by
                      have := (List.getElem?_eq_some_iff.mp hj).1
                      rw [List.length_take] at this
                      omega
                    rw [List.getElem?_take_of_lt jl] at hj
                    have := (Hps.frs hps.n e).2 j t jl hj
                    exact this et
                  · intro j a' p' hj hp'
                    by_cases z : j < as.length
                    · rw [List.getElem?_append_left z] at hj
                      have nea : a' ≠ a := naa a' (List.mem_of_getElem? hj)
                      have ned : a' ≠ d := fun z => da (by rw [← z]; exact List.mem_of_getElem? hj)
                      rw [put_ne ned, put_ne nea]
                      exact h6 j a' p' hj hp'
                    · rw [List.getElem?_append_right (by omega)] at hj
                      have ez : j - as.length = 0 := by
                        have := (List.getElem?_eq_some_iff.mp hj).1
                        simp at this
                        omega
                      rw [ez] at hj
                      cases hj
                      have ej : j = i := by omega
                      subst ej
                      rw [e] at hp'
                      cases hp'
                      rw [put_ne (Ne.symm nda)]
                      exact put_same
            · rintro _ S5 ⟨as, la, na, da, sa, x6, c6, h6, x4, x5, x7, rfl⟩
              rw [List.length_map, List.take_length] at c6
              rw [List.length_map] at la
              walk_at "gr"
              exact q d as S5 sd0 la na da sa x6 c6 h6
        · rw [show whB (some sp) 0 1000 = (decide (0 ≤ sp) && decide (sp ≤ 1000)) from rfl] at z
          simp at z
          omega
      · cases e
        walk_at "gr"
        refine ⟨y2, o, rfl, hy, ?_, ?_⟩
        · intro z
          rw [hb] at z
          cases z
        · exact fun _ => q) only [↓VS.box]
end
end LW
namespace LW
open PySem L2 C8 PySem.Spec PyProof.Rows VS
/-! ### a thing of a list; all of a list -/
theorem pick (Q : D → Prop) {xs : List D} {i : Int} (h0 : 0 ≤ i) (h1 : i < xs.length) (all : ∀ x ∈ xs, Q x) : ∃ x, atI xs i = some x ∧ Q x := by
  obtain ⟨x, hx, e⟩ := atI_mem h0 h1
  exact ⟨x, e, all x hx⟩
theorem ac {Q : D → Prop} {a : D} {l : List D} (h : Q a) (t : ∀ x ∈ l, Q x) : ∀ x ∈ a :: l, Q x := fun x hx => by
  rcases List.mem_cons.mp hx with rfl | hx
  · exact h
  · exact t x hx
theorem an {Q : D → Prop} : ∀ x ∈ ([] : List D), Q x := nofun
theorem rv_ixAll {c : VS.Ctx} {S : Sto} {F : D → Sto → Prop} (Q : D → Prop) {xs : List D} {i : Int} (h0 : 0 ≤ i) (h1 : i < xs.length) (all : ∀ x ∈ xs, Q x) (q : ∀ x, Q x → F x S) : RV c (rIxL c.K) (.lst xs) (.int i) S F := by
  obtain ⟨x, ea, hx⟩ := pick Q h0 h1 all
  exact rv_ixL .v ea (q x hx)
theorem Pu.ext {S S' : Sto} {p : Addr} {n : Int} (h : Pu S p n) (x : Ext S S') : Pu S' p n := by
  obtain ⟨a, b, c, e, r⟩ := h
  exact ⟨a, b, c, x _ _ e, r⟩
end LW
namespace LW
open PySem L2 C8 PySem.Spec PyProof.Rows VS
/-! ### the law's names, fourteen at most, none twice -/
def p__law_names : Pt := fun ds S G _ => ∃ (p : Addr) (n m : Int), ds = [.ref p, .int m] ∧ Pu S p n ∧ n < 800000 ∧ 0 ≤ m ∧ m ≤ 14 ∧
  ∀ (zs : List Str) (S' : Sto), (zs.length : Int) = m → (∀ z ∈ zs, Nm z) → zs.Nodup → Pu S' p (n + 20) → Ex1 p S S' → G (.lst (zs.map D.str)) S'
def nmWords : List Str := Txt.split "x wall rest box parcel in none alone top weight bears label price falling" " "
theorem nmWords_ok : nmWords.length = 14 ∧ ∀ z ∈ nmWords, Nm z := by
  have h : (nmWords.length == 14 && nmWords.all fun z => (decide (z.length ≤ 8) && z.cps.toList.all lcN) && decide (1 ≤ z.length)) = true := by decide +kernel
  rw [Bool.and_eq_true, beq_iff_eq, List.all_eq_true] at h
  refine ⟨h.1, fun z hz => ?_⟩
  have := h.2 z hz
  rw [Bool.and_eq_true, decide_eq_true_eq] at this
  exact ⟨Lw.lit this.1, this.2⟩
/-- the texts of a walk over numbers -/
def rngF (f : Nat → Str) : D → D
  | .int i => .str (f i.toNat)
  | _ => .non
theorem rng_map {m : Int} {f : Nat → Str} : (rngD 0 m.toNat).map (rngF f) = ((List.range m.toNat).map f).map D.str := by
  unfold rngD
  rw [List.map_map, List.map_map]
  apply List.map_congr_left
  intro a _
  show D.str (f (0 + (a : Int)).toNat) = D.str (f a)
  rw [Int.zero_add, Int.toNat_natCast]
theorem rng_mem {m : Int} {d : D} (h : d ∈ rngD 0 m.toNat) : ∃ k : Nat, d = .int k ∧ (k : Int) < m := by
  obtain ⟨i, hi, rfl⟩ := List.mem_map.mp h
  have := List.mem_range.mp hi
  exact ⟨i, by rw [Int.zero_add], by omega⟩
theorem lett_ex {i : Int} (h0 : 0 ≤ i) (h1 : i < 26) : atI ("abcdefghijklmnopqrstuvwxyz" : Str).cps.toList i = some (97 + i.toNat) := by
  obtain ⟨k, rfl⟩ := Int.eq_ofNat_of_zero_le h0
  have h : ∀ k, k < 26 → ("abcdefghijklmnopqrstuvwxyz" : Str).cps.toList[k]? = some (97 + k) := by decide +kernel
  exact atI_nat (h k (by omega))
def chN (i : Int) : Nat := 97 + (i % 26).toNat
theorem chN_lc (i : Int) : lcN (chN i) = true := by
  have h0 : 0 ≤ i % 26 := Int.emod_nonneg _ (by decide)
  have h1 : i % 26 < 26 := Int.emod_lt_of_pos _ (by decide)
  obtain ⟨n, e, l⟩ := lett_at h0 h1
  rw [lett_ex h0 h1] at e
  cases e
  exact l
def fn0 (f : Int) (k : Nat) : Str := (nmWords[((f + 5 * (k : Int)) % 14).toNat]?).getD Str.empty
def fn1 (f : Int) (stem : Str) (k : Nat) : Str := cutS stem none (some (1 + (f + (k : Int)) % 7))
def fn2 (f : Int) (stem : Str) (k : Nat) : Str := stem ++ ⟨#[chN (f + 7 * (k : Int))]⟩
def fn3 (f : Int) (a b : Str) (k : Nat) : Str := a ++ ⟨#[chN (f + 7 * (k : Int))]⟩ ++ b
theorem nd_rng {g : Nat → Str} {n : Nat} (h : ∀ k j, k < j → j < n → g k ≠ g j) : ((List.range n).map g).Nodup := by
  rw [List.nodup_iff_pairwise_ne, List.pairwise_map]
  exact List.pairwise_lt_range.imp_of_mem fun _ hb h' => h _ _ h' (List.mem_range.mp hb)
theorem words_nd : nmWords.Nodup := by decide +kernel
theorem fn0_nd {f : Int} {n : Nat} (hn : n ≤ 14) : ((List.range n).map (fn0 f)).Nodup := nd_rng fun k j h1 h2 e => by
  unfold fn0 at e
  have b0 : 0 ≤ (f + 5 * (k : Int)) % 14 := Int.emod_nonneg _ (by decide)
  have b1 : (f + 5 * (k : Int)) % 14 < 14 := Int.emod_lt_of_pos _ (by decide)
  have c0 : 0 ≤ (f + 5 * (j : Int)) % 14 := Int.emod_nonneg _ (by decide)
  have c1 : (f + 5 * (j : Int)) % 14 < 14 := Int.emod_lt_of_pos _ (by decide)
  have lk : ((f + 5 * (k : Int)) % 14).toNat < nmWords.length := by rw [nmWords_ok.1]; omega
  have lj : ((f + 5 * (j : Int)) % 14).toNat < nmWords.length := by rw [nmWords_ok.1]; omega
  rw [List.getElem?_eq_getElem lk, List.getElem?_eq_getElem lj] at e
  have := (List.getElem_inj words_nd).mp (show nmWords[_] = nmWords[_] from e)
  omega
theorem tlA (a b : Str) : (a ++ b).cps.toList = a.cps.toList ++ b.cps.toList := by
  show (a.cps ++ b.cps).toList = _
  rw [Array.toList_append]
theorem ch_inj {f : Int} {k j : Nat} (h1 : k < j) (h2 : j < 14) : chN (f + 7 * (k : Int)) ≠ chN (f + 7 * (j : Int)) := fun e => by
  unfold chN at e
  omega
theorem fn3_nd {f : Int} {a b : Str} {n : Nat} (hn : n ≤ 14) : ((List.range n).map (fn3 f a b)).Nodup := nd_rng fun k j h1 h2 e => by
  unfold fn3 at e
  have e := congrArg (fun z : Str => z.cps.toList) e
  simp only [tlA] at e
  rw [List.append_assoc, List.append_assoc] at e
  have e := List.append_cancel_left e
  injection e with e _
  exact ch_inj h1 (by omega) e
theorem fn1_len {f : Int} {stem : Str} (l7 : stem.length = 7) (k : Nat) : ((fn1 f stem k).length : Int) = 1 + (f + (k : Int)) % 7 := by
  have b0 : 0 ≤ (f + (k : Int)) % 7 := Int.emod_nonneg _ (by decide)
  have b1 : (f + (k : Int)) % 7 < 7 := Int.emod_lt_of_pos _ (by decide)
  unfold fn1
  obtain ⟨i, hi⟩ := Int.eq_ofNat_of_zero_le (a := 1 + (f + (k : Int)) % 7) (by omega)
  rw [hi, cut_len, l7]
  omega
theorem fn2_len {f : Int} {stem : Str} (l7 : stem.length = 7) (k : Nat) : (fn2 f stem k).length = 8 := by
  unfold fn2
  rw [len_add, l7]
  rfl
theorem fn12_nd {f : Int} {stem : Str} {n m : Nat} (l7 : stem.length = 7) (hn : n ≤ 7) (hm : m ≤ 7) : ((List.range n).map (fn1 f stem) ++ (List.range m).map (fn2 f stem)).Nodup := by
  rw [List.nodup_append]
  refine ⟨nd_rng fun k j h1 h2 e => ?_, nd_rng fun k j h1 h2 e => ?_, fun x hx y hy e => ?_⟩
  · have e1 := fn1_len (f := f) l7 k
    have e2 := fn1_len (f := f) l7 j
    rw [e] at e1
    omega
  · unfold fn2 at e
    have e := congrArg (fun z : Str => z.cps.toList) e
    simp only [tlA] at e
    have e := List.append_cancel_left e
    injection e with e _
    exact ch_inj h1 (by omega) e
  · obtain ⟨k, _, rfl⟩ := List.mem_map.mp hx
    obtain ⟨j, _, rfl⟩ := List.mem_map.mp hy
    have e1 := fn1_len (f := f) l7 k
    rw [e, fn2_len l7] at e1
    have b1 : (f + (k : Int)) % 7 < 7 := Int.emod_lt_of_pos _ (by decide)
    omega
section
variable {P : Program} {w : World} {K : PySem.W.Frag} {mg : Str → Option Value} {base : Heap}
theorem ok__law_names {f : Addr} {fd : FuncData} {C_Sides C_Parcel C_Heap C_Nest C_NoNumber C_NoSide C_NoSides C_NoOrder C_NoParcel C_NotInHeap C_NoNest C_Unnested : Addr} {f__law_take : Addr} {g__law_take : FuncData}
    (F : Fd K "_law_names" "_law_names" s__law_names [] f fd) (T : Tx K mg) (hsys : SysOk base)
    (c__law_take : Cf P w K mg base (L2.CX P w) 1 "_law_take" s__law_take [] a__law_take p__law_take f__law_take g__law_take) :
    FnG P w K mg base (L2.CX P w) 2 f fd a__law_names (spOf K p__law_names) := by
  refine VS.unbox ?_
  simp (disch := with_unfolding_all
    refine fn_val F sc__law_names (fun ds S G Y h => ?_) (fun cdv A hgd outer s H E hr px tk po ds S G Y h => ?_)
    · obtain ⟨p, n, m, rfl, _⟩ := h
      rfl
    · obtain ⟨p, n, m, rfl, hp, hn, m0, m1, q⟩ := h
      refine ⟨_, (pss_cons (ps_set (i := 2) sc__law_names.nd rfl (Or.inr rfl) pe_str)
        (pss_cons (ps_set (i := 3) sc__law_names.nd rfl (Or.inl rfl) (pe_cG c__law_take.fn hgd (hr.mono (by decide)) (by rfl) c__law_take.mg c__law_take.kp c__law_take.b .nil VS.pass0 (pa_cons (pv 0) (pa_cons pe_int pa_nil))))
        (pss_cons (ps_set (i := 4) sc__law_names.nd rfl (Or.inr rfl) (pe_cG c__law_take.fn hgd (hr.mono (by decide)) (by rfl) c__law_take.mg c__law_take.kp c__law_take.b .nil VS.pass0 (pa_cons (pv 0) (pa_cons pe_int pa_nil))))
        (pss_cons (ps_set (i := 5) sc__law_names.nd rfl (Or.inr rfl) (pe_m1 PySem.F.slot_str_join PySem.F.type_str_join m_join pe_str (pe_lc (own := [("_law_k", 9)]) rfl sc__law_names.nd (pi_range1 (by rfl) T.b_range (pa_cons pe_int pa_nil)) (blkOk_by (own := [("_law_k", 9)]) (N := n__law_names) (sc := defScope s__law_names) (by decide +kernel)) (fun _ _ _ _ _ => (pg_name (i := 9) sc__law_names.nd rfl (Or.inl rfl))) (fun _ _ _ _ _ => pts_nil) (fun _ _ _ _ _ => (pe_ix ix_str (pv 2) (pe_cG c__law_take.fn hgd (hr.mono (by decide)) (by rfl) c__law_take.mg c__law_take.kp c__law_take.b .nil VS.pass0 (pa_cons (pv 0) (pa_cons pe_int pa_nil))) (fun _ _ => rfl))))))
        (pss_cons (ps_if (pt_cmpR op_eq (pv 3) pe_int (nomark _)) (pss_cons (ps_set (i := 6) sc__law_names.nd rfl (Or.inr rfl) (pe_m1 PySem.F.slot_str_split PySem.F.type_str_split m_split pe_str pe_str))
        (pss_one (ps_ret (pe_lc (own := [("_law_k", 9)]) rfl sc__law_names.nd (pi_range1 (by rfl) T.b_range (pa_cons (pv 1) pa_nil)) (blkOk_by (own := [("_law_k", 9)]) (N := n__law_names) (sc := defScope s__law_names) (by decide +kernel)) (fun _ _ _ _ _ => (pg_name (i := 9) sc__law_names.nd rfl (Or.inl rfl))) (fun _ _ _ _ _ => pts_nil) (fun _ _ _ _ _ => (pe_ix (kI (K := K) (r := rIxL) ix_list) (pv 6) (pe_op op_mod (pe_op op_add (pv 4) (pe_op op_mulW pe_int (pv 9))) pe_int) (fun _ _ => rfl)))))))
        pss_nil)
        (pss_cons (ps_if (pt_cmpR op_eq (pv 3) pe_int (nomark _)) (pss_cons (ps_setLc (i := 7) (own := [("_law_k", 9)]) rfl sc__law_names.nd rfl rfl (sw_true rfl rfl rfl (by decide +kernel)) (pi_range1 (by rfl) T.b_range (pa_cons (pe_callB (c_min2 rfl) (by rfl) T.b_min (by decide +kernel) (pa_cons (pv 1) (pa_cons pe_int pa_nil))) pa_nil)) (blkOk_by (own := [("_law_k", 9)]) (N := n__law_names) (sc := defScope s__law_names) (by decide +kernel)) (fun _ _ _ _ _ => (pg_name (i := 9) sc__law_names.nd rfl (Or.inl rfl))) (fun _ _ _ _ _ => pts_nil) (fun _ _ _ _ _ => (pe_slice sl_str (pv 5) po_none (po_some (pe_op op_add pe_int (pe_op op_mod (pe_op op_add (pv 4) (pv 9)) pe_int))))))
        (pss_one (ps_ret (pe_op op_cat (pv 7) (pe_lc (own := [("_law_k", 9)]) rfl sc__law_names.nd (pi_range1 (by rfl) T.b_range (pa_cons (pe_op op_sub (pv 1) pe_int) pa_nil)) (blkOk_by (own := [("_law_k", 9)]) (N := n__law_names) (sc := defScope s__law_names) (by decide +kernel)) (fun _ _ _ _ _ => (pg_name (i := 9) sc__law_names.nd rfl (Or.inl rfl))) (fun _ _ _ _ _ => pts_nil) (fun _ _ _ _ _ => (pe_op op_addS (pv 5) (pe_ix ix_str (pv 2) (pe_op op_mod (pe_op op_add (pv 4) (pe_op op_mulW pe_int (pv 9))) pe_int) (fun _ _ => rfl)))))))))
        pss_nil)
        (pss_cons (ps_set (i := 8) sc__law_names.nd rfl (Or.inr rfl) (pe_cG c__law_take.fn hgd (hr.mono (by decide)) (by rfl) c__law_take.mg c__law_take.kp c__law_take.b .nil VS.pass0 (pa_cons (pv 0) (pa_cons pe_int pa_nil))))
        (pss_cons (ps_set (i := 5) sc__law_names.nd rfl (Or.inr rfl) (pe_slice sl_str (pv 5) po_none (po_some (pe_cG c__law_take.fn hgd (hr.mono (by decide)) (by rfl) c__law_take.mg c__law_take.kp c__law_take.b .nil VS.pass0 (pa_cons (pv 0) (pa_cons pe_int pa_nil))))))
        (pss_one (ps_ret (pe_lc (own := [("_law_k", 9)]) rfl sc__law_names.nd (pi_range1 (by rfl) T.b_range (pa_cons (pv 1) pa_nil)) (blkOk_by (own := [("_law_k", 9)]) (N := n__law_names) (sc := defScope s__law_names) (by decide +kernel)) (fun _ _ _ _ _ => (pg_name (i := 9) sc__law_names.nd rfl (Or.inl rfl))) (fun _ _ _ _ _ => pts_nil) (fun _ _ _ _ _ => (pe_op op_addS (pe_op op_addS (pe_slice sl_str (pv 5) po_none (po_some (pv 8))) (pe_ix ix_str (pv 2) (pe_op op_mod (pe_op op_add (pv 4) (pe_op op_mulW pe_int (pv 9))) pe_int) (fun _ _ => rfl))) (pe_slice sl_str (pv 5) (po_some (pv 8)) po_none)))))))))))))), ?_⟩
      (try dsimp only [cxOf, List.map])
      show VX _ _ [_, _, _, _, _, _, _, _, _, _] _ _
      walk_at "gr"
      intro w S1 w0 w1 h1 o1
      walk_at "gr"
      intro f S2 f0 f1 h2 o2
      have o2 := o1.trans o2
      clear h1 o1 hp
      walk_at "gr"
      refine ve_lcJ (fun d => ∃ z, d = .str z ∧ Lw 1 z ∧ z.length = 1) (fun i S3 => Pu S3 p (n + 2 + (i : Nat)) ∧ Off p S S3) (vi_rng1 ?_)
      walk_at "gr"
      refine ⟨7, rfl, by decide, by rw [rngD_len]; decide, ⟨h2.mono (by omega), o2⟩, ?_, ?_⟩
      · rintro i d S3 hd ⟨h3, o3⟩
        have hi : i < 7 := by
          have := (List.getElem?_eq_some_iff.mp hd).1
          rw [rngD_len] at this
          exact this
        walk_at "gr"
        refine ⟨rfl, ?_⟩
        walk_at "gr"
        intro t S4 t0 t1 h4 o4
        obtain ⟨ch, ea, el⟩ := lett_at t0 t1
        refine rv_ixS (by decide) ea ?_
        exact ⟨⟨_, rfl, Lw.one el, rfl⟩, h4.mono (by omega), o3.trans o4⟩
      rintro acc S3 hl ha ⟨h3, o3⟩
      rw [rngD_len] at hl h3
      have hl : acc.length = 7 := hl
      have h3 : Pu S3 p (n + 9) := h3.mono (by show n + 2 + ((7 : Nat) : Int) ≤ n + 9; omega)
      obtain ⟨ys, rfl, hy⟩ := strs_all ha
      rw [List.length_map] at hl
      refine rm_join (.l .v) ?_ ?_
      · have := sum_le fun y z => (hy y z).1.1
        rw [show (Str.ofString "").length = 0 from by decide]
        omega
      have w7 : Lw 7 (Txt.join ("" : Str) ys) := Lw.join0 (fun y z => (hy y z).1) (by omega)
      have l7 : (Txt.join ("" : Str) ys).length = 7 := join0_len (fun y z => (hy y z).2) hl
      generalize Txt.join ("" : Str) ys = stem at w7 l7 ⊢
      clear hy hl ha h2 o2
      have fin : ∀ (zs : List Str) (S4 : Sto), (zs.length : Int) = m → (∀ z ∈ zs, Nm z) → zs.Nodup → Pu S4 p (n + 20) → Off p S S4 → G (.lst (zs.map D.str)) S4 := fun zs S4 a1 hz hnd a3 a4 => q zs S4 a1 hz hnd a3 a4.ex1
      walk_at "gr"
      refine VS.br (fun e => ?_) (fun e => ?_)
      · walk_at "gr"
        refine rm_splitV rfl (by decide +kernel) ?_
        walk_at "gr"
        refine ve_lcM (rngF (fn0 f)) (vi_rng1 ?_)
        walk_at "gr"
        refine ⟨m, rfl, by omega, by rw [rngD_len]; omega, fun d hd => ?_, ?_⟩
        · obtain ⟨i, rfl, hi⟩ := rng_mem hd
          walk_at "gr"
          refine ⟨rfl, ?_⟩
          walk_at "gr"
          have b0 : 0 ≤ (f + 5 * (i : Int)) % 14 := Int.emod_nonneg _ (by decide)
          have b1 : (f + 5 * (i : Int)) % 14 < 14 := Int.emod_lt_of_pos _ (by decide)
          have li : ((f + 5 * (i : Int)) % 14).toNat < nmWords.length := by rw [nmWords_ok.1]; omega
          have ea : atI (nmWords.map D.str) ((f + 5 * (i : Int)) % 14) = some (.str (fn0 f i)) := by
            obtain ⟨t, ht⟩ := Int.eq_ofNat_of_zero_le b0
            unfold fn0
            rw [ht] at li ⊢
            rw [Int.toNat_natCast] at li ⊢
            refine atI_nat ?_
            rw [List.getElem?_map, List.getElem?_eq_getElem li]
            rfl
          refine rv_ixL .v ea ?_
          exact ⟨rfl, rfl⟩
        · rw [rng_map]
          refine fin _ _ (by rw [List.length_map, List.length_range]; omega) (fun z hz => ?_) (fn0_nd (by omega)) (h3.mono (by omega)) o3
          obtain ⟨i, _, rfl⟩ := List.mem_map.mp hz
          have b0 : 0 ≤ (f + 5 * (i : Int)) % 14 := Int.emod_nonneg _ (by decide)
          have b1 : (f + 5 * (i : Int)) % 14 < 14 := Int.emod_lt_of_pos _ (by decide)
          have li : ((f + 5 * (i : Int)) % 14).toNat < nmWords.length := by rw [nmWords_ok.1]; omega
          unfold fn0
          rw [List.getElem?_eq_getElem li]
          exact nmWords_ok.2 _ (List.getElem_mem _)
      walk_at "gr"
      refine VS.br (fun e2 => ?_) (fun e2 => ?_)
      · walk_at "gr"
        refine ve_lcM (rngF (fn1 f stem)) (vi_rng1 ?_)
        walk_at "gr"
        generalize hm : (if 7 < m then 7 else m) = mm
        have hm : (mm = m ∧ m ≤ 7) ∨ (mm = 7 ∧ 7 < m) := by
          split at hm <;> omega
        refine ⟨mm, rfl, by omega, by rw [rngD_len]; omega, fun d hd => ?_, ?_⟩
        · obtain ⟨i, rfl, hi⟩ := rng_mem hd
          walk_at "gr"
          refine ⟨rfl, ?_⟩
          walk_at "gr"
          exact ⟨rfl, rfl⟩
        · rw [rng_map]
          walk_at "gr"
          refine ve_lcM (rngF (fn2 f stem)) (vi_rng1 ?_)
          walk_at "gr"
          refine ⟨m - 7, rfl, by omega, by rw [rngD_len]; omega, fun d hd => ?_, ?_⟩
          · obtain ⟨i, rfl, hi⟩ := rng_mem hd
            walk_at "gr"
            refine ⟨rfl, ?_⟩
            walk_at "gr"
            have b0 : 0 ≤ (f + 7 * (i : Int)) % 26 := Int.emod_nonneg _ (by decide)
            have b1 : (f + 7 * (i : Int)) % 26 < 26 := Int.emod_lt_of_pos _ (by decide)
            refine rv_ixS (by decide) (lett_ex b0 b1) ?_
            have l1 : (⟨#[97 + ((f + 7 * (i : Int)) % 26).toNat]⟩ : Str).length = 1 := rfl
            walk_at "gr"
            exact ⟨rfl, rfl⟩
          · rw [rng_map]
            refine rv_cat .v .v (by rw [List.length_map, List.length_map, List.length_map, List.length_map, List.length_range, List.length_range]; have := szl; omega) ?_
            rw [← List.map_append]
            refine fin _ _ ?_ (fun z hz => ?_) (fn12_nd l7 (by omega) (by omega)) (h3.mono (by omega)) o3
            · rw [List.length_append, List.length_map, List.length_map, List.length_range, List.length_range]
              omega
            · rcases List.mem_append.mp hz with hz | hz
              · obtain ⟨i, _, rfl⟩ := List.mem_map.mp hz
                have ln := fn1_len (f := f) l7 i
                have b0 : 0 ≤ (f + (i : Int)) % 7 := Int.emod_nonneg _ (by decide)
                exact ⟨(w7.cut _ _).mono (by decide), by omega⟩
              · obtain ⟨i, _, rfl⟩ := List.mem_map.mp hz
                have ln := fn2_len (f := f) l7 i
                exact ⟨w7.add (Lw.one (chN_lc _)), by omega⟩
      walk_at "gr"
      intro at_ S4 at0 at1 h4 o4
      walk_at "gr"
      intro t S5 t0 t1 h5 o5
      have o5 := (o3.trans o4).trans o5
      obtain ⟨ka, rfl⟩ := Int.eq_ofNat_of_zero_le at0
      obtain ⟨kt, rfl⟩ := Int.eq_ofNat_of_zero_le t0
      clear h3 o3 h4 o4
      walk_at "gr"
      have w8 : Lw 7 (cutS stem none (some ((kt : Nat) : Int))) := w7.cut _ _
      generalize cutS stem none (some ((kt : Nat) : Int)) = st2 at w8 ⊢
      have l8 := w8.1
      clear w7 l7
      have c1 := cut_len st2 ka
      have c2 := cut_lenR st2 ka
      walk_at "gr"
      refine ve_lcM (rngF (fn3 f (cutS st2 none (some (ka : Int))) (cutS st2 (some (ka : Int)) none))) (vi_rng1 ?_)
      walk_at "gr"
      refine ⟨m, rfl, by omega, by rw [rngD_len]; omega, fun d hd => ?_, ?_⟩
      · obtain ⟨i, rfl, hi⟩ := rng_mem hd
        walk_at "gr"
        refine ⟨rfl, ?_⟩
        walk_at "gr"
        have b0 : 0 ≤ (f + 7 * (i : Int)) % 26 := Int.emod_nonneg _ (by decide)
        have b1 : (f + 7 * (i : Int)) % 26 < 26 := Int.emod_lt_of_pos _ (by decide)
        refine rv_ixS (by decide) (lett_ex b0 b1) ?_
        have l1 : (⟨#[97 + ((f + 7 * (i : Int)) % 26).toNat]⟩ : Str).length = 1 := rfl
        walk_at "gr"
        exact rv_addS (by rw [len_add]; have := szl; omega) ⟨rfl, rfl⟩
      · rw [rng_map]
        refine fin _ _ (by rw [List.length_map, List.length_range]; omega) (fun z hz => ?_) (fn3_nd (by omega)) (h5.mono (by omega)) o5
        obtain ⟨i, _, rfl⟩ := List.mem_map.mp hz
        have l1 : (⟨#[chN (f + 7 * (i : Int))]⟩ : Str).length = 1 := rfl
        refine ⟨⟨?_, (((w8.cut none (some (ka : Int))).add (Lw.one (chN_lc _))).add (w8.cut (some (ka : Int)) none)).2⟩, ?_⟩
        · unfold fn3
          rw [len_add, len_add]
          omega
        · unfold fn3
          rw [len_add, len_add]
          omega) only [↓VS.box]
end
end LW
namespace LW
open PySem L2 C8 PySem.Spec PyProof.Rows VS
/-! ### the law's rows, parcels, heaps -/
def Rwg (r : Pc) : Prop := r.g ∧ mksOf r.mk = r.mk
def mk3 (x y z : Bool) : List Str := (if x then [("alone" : Str)] else []) ++ ((if y then [("top" : Str)] else []) ++ (if z then [("upright" : Str)] else []))
structure Hrs (rs : List Pc) : Prop where
  g : ∀ r ∈ rs, Rwg r
  n : (rs.map Pc.nm).Nodup
  l : rs.length ≤ 12
theorem Hrs.hps {rs : List Pc} (h : Hrs rs) : Hps rs := ⟨fun p hp => (h.g p hp).1, h.n, h.l⟩
end LW
namespace LW
open PySem L2 C8 PySem.Spec PyProof.Rows VS
/-! ### the law's cards -/
def c9D (p : Pc) : D := .tup [.str p.nm, .tup [.int p.a, .int p.b, .int p.c], .int p.wl, .lst (p.mk.map D.str), .int p.wt]
structure C9 (p : Pc) : Prop where
  g : p.g
  b : p.br = 0
  m : mksOf p.mk = p.mk
structure C9s (ps : List Pc) : Prop where
  c : ∀ p ∈ ps, C9 p
  n : (ps.map Pc.nm).Nodup
  l : ps.length ≤ 12
theorem C9s.hps {ps : List Pc} (h : C9s ps) : Hps ps := ⟨fun p hp => (h.c p hp).g, h.n, h.l⟩
def p__law_tray : Pt := fun ds S G _ => ∃ (p : Addr) (n m sp : Int), ds = [.ref p, .int m, .int sp] ∧ Pu S p n ∧ n < 500000 ∧ 0 ≤ m ∧ m ≤ 12 ∧ 0 ≤ sp ∧ sp ≤ 1000 ∧
  ∀ (ps : List Pc) (S' : Sto), C9s ps → (ps.length : Int) = m → Pu S' p (n + 800) → Ex1 p S S' → G (.lst (ps.map c9D)) S'
def ovD (sp sh : Int) : D → D
  | .tup [.int s, .int o] => .int (max 1 (min 100000 (s + sp + 2 * sh + o)))
  | _ => .non
theorem mm_eq (k : Int) : (if (if k < 100000 then k else 100000) > 1 then (if k < 100000 then k else 100000) else 1) = max 1 (min 100000 k) := by
  by_cases h : k < 100000
  · rw [if_pos h]
    by_cases h2 : k > 1
    · rw [if_pos h2]; omega
    · rw [if_neg h2]; omega
  · rw [if_neg h, if_pos (by decide)]; omega
theorem ov_in (k : Int) : In1 (max 1 (min 100000 k)) := by unfold In1; omega
def mk91 : List D := [.lst [.str "alone"], .lst [.str "top"], .lst [.str "upright"], .lst [], .lst [], .lst [], .lst [], .lst [], .lst []]
theorem mk91_ok : ∀ x ∈ mk91, ∃ mk : List Str, x = .lst (mk.map D.str) ∧ Mk mk ∧ mksOf mk = mk := by
  intro x hx
  simp only [mk91, List.mem_cons, List.not_mem_nil, or_false] at hx
  rcases hx with rfl | rfl | rfl | rfl | rfl | rfl | rfl | rfl | rfl
  · exact ⟨["alone"], rfl, ⟨by decide, by decide, by decide⟩, by decide +kernel⟩
  · exact ⟨["top"], rfl, ⟨by decide, by decide, by decide⟩, by decide +kernel⟩
  · exact ⟨["upright"], rfl, ⟨by decide, by decide, by decide⟩, by decide +kernel⟩
  all_goals exact ⟨[], rfl, ⟨by decide, by decide, by decide⟩, by decide +kernel⟩
def ords : List D := perms.map fun o => .tup (o.map D.int)
theorem ins_p91 {fs : List Pc} {r : Pc} {n : Nat} : (fs.take n ++ [r] ++ fs.drop n).Perm (r :: fs) := by
  have h1 : (fs.take n ++ [r] ++ fs.drop n).Perm (r :: (fs.take n ++ fs.drop n)) := by
    rw [List.append_assoc]
    exact List.perm_middle
  rwa [List.take_append_drop] at h1
theorem C9s.ins {fs : List Pc} {r : Pc} {n : Nat} (h : C9s fs) (g : C9 r) (hn : r.nm ∉ fs.map Pc.nm) (l : fs.length < 12) : C9s (fs.take n ++ [r] ++ fs.drop n) := by
  have pm := ins_p91 (fs := fs) (r := r) (n := n)
  refine ⟨fun x hx => ?_, ?_, by rw [pm.length_eq]; exact l⟩
  · rcases List.mem_cons.mp (pm.mem_iff.mp hx) with rfl | hx
    · exact g
    · exact h.c x hx
  · rw [(pm.map Pc.nm).nodup_iff, List.map_cons, List.nodup_cons]
    exact ⟨hn, h.n⟩
section
variable {P : Program} {w : World} {K : PySem.W.Frag} {mg : Str → Option Value} {base : Heap}
theorem ok__law_tray {f : Addr} {fd : FuncData} {C_Sides C_Parcel C_Heap C_Nest C_NoNumber C_NoSide C_NoSides C_NoOrder C_NoParcel C_NotInHeap C_NoNest C_Unnested : Addr} {f__law_take f__law_names : Addr} {g__law_take g__law_names : FuncData}
    (F : Fd K "_law_tray" "_law_tray" s__law_tray [] f fd) (T : Tx K mg) (hsys : SysOk base)
    (c__law_take : Cf P w K mg base (L2.CX P w) 1 "_law_take" s__law_take [] a__law_take p__law_take f__law_take g__law_take)
    (c__law_names : Cf P w K mg base (L2.CX P w) 2 "_law_names" s__law_names [] a__law_names p__law_names f__law_names g__law_names) :
    FnG P w K mg base (L2.CX P w) 3 f fd a__law_tray (spOf K p__law_tray) := by
  refine VS.unbox ?_
  simp (disch := with_unfolding_all
    refine fn_val F sc__law_tray (fun ds S G Y h => ?_) (fun cdv A hgd outer s H E hr px tk po ds S G Y h => ?_)
    · obtain ⟨p, n, m, sp, rfl, _⟩ := h
      rfl
    · obtain ⟨p, n, m, sp, rfl, hp, hn, m0, m1, s0, s1, q⟩ := h
      refine ⟨_, (pss_cons (ps_set (i := 3) sc__law_tray.nd rfl (Or.inl rfl) (pe_lst pa_nil))
        (pss_cons (ps_set (i := 4) sc__law_tray.nd rfl (Or.inl rfl) (pe_lst (pa_cons (pe_tup (pa_cons pe_int (pa_cons pe_int (pa_cons pe_int pa_nil)))) (pa_cons (pe_tup (pa_cons pe_int (pa_cons pe_int (pa_cons pe_int pa_nil)))) (pa_cons (pe_tup (pa_cons pe_int (pa_cons pe_int (pa_cons pe_int pa_nil)))) (pa_cons (pe_tup (pa_cons pe_int (pa_cons pe_int (pa_cons pe_int pa_nil)))) (pa_cons (pe_tup (pa_cons pe_int (pa_cons pe_int (pa_cons pe_int pa_nil)))) (pa_cons (pe_tup (pa_cons pe_int (pa_cons pe_int (pa_cons pe_int pa_nil)))) pa_nil))))))))
        (pss_cons (ps_for po rfl (pi_list (pe_cG c__law_names.fn hgd (hr.mono (by decide)) (by rfl) c__law_names.mg c__law_names.kp c__law_names.b .nil VS.pass0 (pa_cons (pv 0) (pa_cons (pv 1) pa_nil)))) (pg_name (i := 5) sc__law_tray.nd rfl (Or.inl rfl))
        (pss_cons (ps_set (i := 6) sc__law_tray.nd rfl (Or.inl rfl) (pe_cG c__law_take.fn hgd (hr.mono (by decide)) (by rfl) c__law_take.mg c__law_take.kp c__law_take.b .nil VS.pass0 (pa_cons (pv 0) (pa_cons pe_int pa_nil))))
        (pss_cons (ps_set (i := 7) sc__law_tray.nd rfl (Or.inl rfl) (pe_ix ix_list (pe_lst (pa_cons (pe_lst (pa_cons pe_str pa_nil)) (pa_cons (pe_lst (pa_cons pe_str pa_nil)) (pa_cons (pe_lst (pa_cons pe_str pa_nil)) (pa_cons (pe_lst pa_nil) (pa_cons (pe_lst pa_nil) (pa_cons (pe_lst pa_nil) (pa_cons (pe_lst pa_nil) (pa_cons (pe_lst pa_nil) (pa_cons (pe_lst pa_nil) pa_nil)))))))))) (pe_cG c__law_take.fn hgd (hr.mono (by decide)) (by rfl) c__law_take.mg c__law_take.kp c__law_take.b .nil VS.pass0 (pa_cons (pv 0) (pa_cons pe_int pa_nil))) (fun _ _ => rfl)))
        (pss_cons (ps_set (i := 8) sc__law_tray.nd rfl (Or.inr rfl) (pe_op op_add pe_int (pe_cG c__law_take.fn hgd (hr.mono (by decide)) (by rfl) c__law_take.mg c__law_take.kp c__law_take.b .nil VS.pass0 (pa_cons (pv 0) (pa_cons (pe_ix ix_list (pe_lst (pa_cons pe_int (pa_cons pe_int (pa_cons pe_int (pa_cons pe_int pa_nil))))) (pe_cG c__law_take.fn hgd (hr.mono (by decide)) (by rfl) c__law_take.mg c__law_take.kp c__law_take.b .nil VS.pass0 (pa_cons (pv 0) (pa_cons pe_int pa_nil))) (fun _ _ => rfl)) pa_nil)))))
        (pss_cons (ps_set (i := 9) sc__law_tray.nd rfl (Or.inr rfl) (pe_lc (own := [("_law_side", 14)]) rfl sc__law_tray.nd (pi_range1 (by rfl) T.b_range (pa_cons pe_int pa_nil)) (blkOk_by (own := [("_law_side", 14)]) (N := n__law_tray) (sc := defScope s__law_tray) (by decide +kernel)) (fun _ _ _ _ _ => (pg_name (i := 14) sc__law_tray.nd rfl (Or.inl rfl))) (fun _ _ _ _ _ => pts_nil) (fun _ _ _ _ _ => (pe_op op_add pe_int (pe_cG c__law_take.fn hgd (hr.mono (by decide)) (by rfl) c__law_take.mg c__law_take.kp c__law_take.b .nil VS.pass0 (pa_cons (pv 0) (pa_cons pe_int pa_nil)))))))
        (pss_cons (ps_if (PW.pt (pw_and (pt_cmpR (op_neE hr) (pv 3) (pe_lst pa_nil) (nomark _)) (pw_and1 (pt_cmpR op_gt (pv 6) pe_int (nomark _))))) (pss_cons (ps_set (i := 10) sc__law_tray.nd rfl (Or.inl rfl) (pe_ix ix_list (pv 3) (pe_cG c__law_take.fn hgd (hr.mono (by decide)) (by rfl) c__law_take.mg c__law_take.kp c__law_take.b .nil VS.pass0 (pa_cons (pv 0) (pa_cons (pe_callB c_len (by rfl) T.b_len (by decide +kernel) (pa_cons (pv 3) pa_nil)) pa_nil))) (fun _ _ => rfl)))
        (pss_cons (ps_setLc (i := 11) (own := [("_law_side", 14)]) rfl sc__law_tray.nd rfl rfl (sw_true rfl rfl rfl (by decide +kernel)) (pi_range1 (by rfl) T.b_range (pa_cons pe_int pa_nil)) (blkOk_by (own := [("_law_side", 14)]) (N := n__law_tray) (sc := defScope s__law_tray) (by decide +kernel)) (fun _ _ _ _ _ => (pg_name (i := 14) sc__law_tray.nd rfl (Or.inl rfl))) (fun _ _ _ _ _ => pts_nil) (fun _ _ _ _ _ => (pe_ix (kI (K := K) (r := rIxL) ix_list) (pe_lst (pa_cons pe_int (pa_cons pe_int (pa_cons pe_int (pa_cons pe_int (pa_cons (pe_un un_neg pe_int) pa_nil)))))) (pe_cG c__law_take.fn hgd (hr.mono (by decide)) (by rfl) c__law_take.mg c__law_take.kp c__law_take.b .nil VS.pass0 (pa_cons (pv 0) (pa_cons pe_int pa_nil))) (fun _ _ => rfl))))
        (pss_one (ps_set (i := 9) sc__law_tray.nd rfl (Or.inr rfl) (pe_lc (own := [("_law_side", 14), ("_law_over", 15)]) rfl sc__law_tray.nd (VS.pi_zipB (by rfl) T.b_zip (pa_cons (pe_ix ix_tup (pv 10) pe_int (fun _ _ => rfl)) (pa_cons (pv 11) pa_nil))) (blkOk_by (own := [("_law_side", 14), ("_law_over", 15)]) (N := n__law_tray) (sc := defScope s__law_tray) (by decide +kernel)) (fun _ _ _ _ _ => (kTup (K := K) (pg_tup (n := 2) rfl (pgs_cons (pg_name (i := 14) sc__law_tray.nd rfl (Or.inl rfl)) (pgs_cons (pg_name (i := 15) sc__law_tray.nd rfl (Or.inl rfl)) pgs_nil))))) (fun _ _ _ _ _ => pts_nil) (fun _ _ _ _ _ => (pe_callB (c_max2 rfl) (by rfl) T.b_max (by decide +kernel) (pa_cons pe_int (pa_cons (pe_callB (c_min2 rfl) (by rfl) T.b_min (by decide +kernel) (pa_cons pe_int (pa_cons (pe_op op_add (pe_op op_add (pe_op op_add (pv 14) (pv 2)) (pe_op op_mulW pe_int (pv 8))) (pv 15)) pa_nil))) pa_nil)))))))))
        pss_nil)
        (pss_cons (ps_set (i := 12) sc__law_tray.nd rfl (Or.inl rfl) (pe_ix ix_list (pv 4) (pe_cG c__law_take.fn hgd (hr.mono (by decide)) (by rfl) c__law_take.mg c__law_take.kp c__law_take.b .nil VS.pass0 (pa_cons (pv 0) (pa_cons pe_int pa_nil))) (fun _ _ => rfl)))
        (pss_cons (ps_set (i := 13) sc__law_tray.nd rfl (Or.inl rfl) (pe_tup (pa_cons (pv 5) (pa_cons (pe_callTy c_tuple (by rfl) T.b_tuple (by decide +kernel) (pa_cons (pe_lc (own := [("_law_number", 16)]) rfl sc__law_tray.nd (pi_tup (pv 12)) (blkOk_by (own := [("_law_number", 16)]) (N := n__law_tray) (sc := defScope s__law_tray) (by decide +kernel)) (fun _ _ _ _ _ => (pg_name (i := 16) sc__law_tray.nd rfl (Or.inl rfl))) (fun _ _ _ _ _ => pts_nil) (fun _ _ _ _ _ => (pe_ix (kI (K := K) (r := rIxL) ix_list) (pv 9) (pv 16) (fun _ _ => rfl)))) pa_nil)) (pa_cons (pv 8) (pa_cons (pv 7) (pa_cons (pe_cG c__law_take.fn hgd (hr.mono (by decide)) (by rfl) c__law_take.mg c__law_take.kp c__law_take.b .nil VS.pass0 (pa_cons (pv 0) (pa_cons pe_int pa_nil))) pa_nil)))))))
        (pss_one (ps_expr (pe_bm PySem.F.plainAttrs_list PySem.F.slot_list_insert PySem.F.type_list_insert mt_insertV (pv 3) (pa_cons (pe_cG c__law_take.fn hgd (hr.mono (by decide)) (by rfl) c__law_take.mg c__law_take.kp c__law_take.b .nil VS.pass0 (pa_cons (pv 0) (pa_cons (pe_op op_add (pe_callB c_len (by rfl) T.b_len (by decide +kernel) (pa_cons (pv 3) pa_nil)) pe_int) pa_nil))) (pa_cons (pv 13) pa_nil)))))))))))))
        (pss_one (ps_ret (pv 3)))))), ?_⟩
      (try dsimp only [cxOf, List.map])
      show VX _ _ [_, _, _, _, _, _, _, _, _, _, _, _, _, _, _, _, _] _ _
      walk_at "gr"
      refine ve_lstc ?_
      walk_at "gr"
      intro l hl
      have npl := hp.ne hl
      have h2 : Pu (put S l (.lst [])) p n := hp.put hl
      have c2 : (put S l (.lst [])) l = some (.lst []) := put_same
      have o2 : Ex1 p S (put S l (.lst [])) := Ex1.refl.new hl
      generalize put S l (.lst []) = S2 at h2 c2 o2 ⊢
      walk_at "ga"
      refine vx_for (vi_list ?_)
      walk_at "gr"
      refine ⟨p, _, m, rfl, h2, by omega, m0, by omega, fun zs S3 lz hz nz h3 o3 => ?_⟩
      have c3 := o3 _ _ (Ne.symm npl) c2
      have o3 := o2.trans o3
      clear h2 c2 o2
      refine ⟨_, .v, fun i ρ2 S4 => ∃ (ps : List Pc) (x5 x6 x7 x8 x9 x10 x11 x12 x13 : Option D), C9s ps ∧ (ps.map Pc.nm).Perm (zs.take i) ∧ S4 l = some (.lst (ps.map c9D)) ∧ Pu S4 p (n + 20 + 60 * (i : Nat)) ∧ Ex1 p S S4 ∧ ρ2 = [some (.ref p), some (.int m), some (.int sp), some (.ref l), some (.lst ords), x5, x6, x7, x8, x9, x10, x11, x12, x13, none, none, none],
        ⟨[], _, _, _, _, _, _, _, _, _, ⟨nofun, by simp, by decide⟩, .nil, c3, h3.mono (by omega), o3, rfl⟩, ?_, ?_⟩
      · clear h3 o3 c3
        rintro i d _ S4 hd ⟨ps, x5, x6, x7, x8, x9, x10, x11, x12, x13, cs, hpm, c4, h4, o4, rfl⟩
        rw [List.getElem?_map] at hd
        cases ez : zs[i]? with
        | none => rw [ez] at hd; cases hd
        | some z =>
          rw [ez] at hd
          cases hd
          have hi : i < zs.length := (List.getElem?_eq_some_iff.mp ez).1
          have tk : zs.take (i + 1) = zs.take i ++ [z] := by rw [List.take_succ, ez]; rfl
          have lf : ps.length = i := by
            have := hpm.length_eq
            rw [List.length_map, List.length_take] at this
            omega
          have gz := hz z (List.mem_of_getElem? ez)
          walk_at "gr"
          intro a S5 a0 a1 h5 o5
          have c5 := (o5 l (Ne.symm npl)).trans c4
          have o5 := o4.trans o5.ex1
          clear h4 c4 o4
          walk_at "ga"
          intro b S6 b0 b1 h6 o6
          have c6 := (o6 l (Ne.symm npl)).trans c5
          have o6 := o5.trans o6.ex1
          clear h5 c5 o5
          refine rv_ixAll (xs := mk91) (fun x => ∃ mk : List Str, x = .lst (mk.map D.str) ∧ Mk mk ∧ mksOf mk = mk) b0 b1 mk91_ok ?_
          rintro _ ⟨mk, rfl, hmk, emk⟩
          walk_at "ga"
          intro c S7 cc0 cc1 h7 o7
          have c7 := (o7 l (Ne.symm npl)).trans c6
          have o7 := o6.trans o7.ex1
          clear h6 c6 o6
          refine rv_ixAll (fun x => ∃ k : Int, x = .int k ∧ 1 ≤ k ∧ k ≤ 1000) cc0 cc1 (ac ⟨_, rfl, by decide, by decide⟩ (ac ⟨_, rfl, by decide, by decide⟩ (ac ⟨_, rfl, by decide, by decide⟩ (ac ⟨_, rfl, by decide, by decide⟩ an)))) ?_
          rintro _ ⟨k, rfl, k0, k1⟩
          walk_at "ga"
          intro sh S8 sh0 sh1 h8 o8
          have c8 := (o8 l (Ne.symm npl)).trans c7
          have o8 := o7.trans o8.ex1
          clear h7 c7 o7
          walk_at "ga"
          refine ve_lcJ (fun d => ∃ v : Int, d = .int v ∧ 1 ≤ v ∧ v ≤ 30) (fun j S9 => Pu S9 p (n + 20 + 60 * (i : Nat) + 4 + (j : Nat)) ∧ Ex1 p S S9 ∧ S9 l = some (.lst (ps.map c9D))) (vi_rng1 ?_)
          walk_at "gr"
          refine ⟨3, rfl, by decide, by rw [rngD_len]; decide, ⟨h8.mono (by omega), o8, c8⟩, ?_, ?_⟩
          · clear h8 c8 o8
            rintro j d S9 hd ⟨h9, o9, c9⟩
            have hj : j < 3 := by
              have := (List.getElem?_eq_some_iff.mp hd).1
              rw [rngD_len] at this
              exact this
            walk_at "gr"
            refine ⟨rfl, ?_⟩
            walk_at "gr"
            intro t S10 t0 t1 h10 o10
            walk_at "gr"
            exact ⟨⟨_, rfl, by omega, by omega⟩, h10.mono (by omega), o9.trans o10.ex1, (o10 l (Ne.symm npl)).trans c9⟩
          rintro acc S9 hl3 ha ⟨h9, o9, c9⟩
          rw [rngD_len] at hl3 h9
          clear h8 c8 o8
          obtain ⟨ys, rfl, hy⟩ := ints_all ha
          rw [List.length_map] at hl3
          obtain ⟨u, v, w, rfl⟩ := list3 (xs := ys) hl3
          have hu := hy u (by simp)
          have hv := hy v (by simp)
          have hw := hy w (by simp)
          clear hy ha hl3
          have h9 : Pu S9 p (n + 20 + 60 * (i : Nat) + 7) := h9.mono (by show n + 20 + 60 * (i : Nat) + 4 + ((3 : Nat) : Int) ≤ _; omega)
          refine vg_name ?_
          refine vx_join (fun ρ2 S10 => S10 l = some (.lst (ps.map c9D)) ∧ Pu S10 p (n + 20 + 60 * (i : Nat) + 12) ∧ Ex1 p S S10 ∧ ∃ (a' b' c' : Int) (y10 y11 : Option D), In1 a' ∧ In1 b' ∧ In1 c' ∧ ρ2 = [some (.ref p), some (.int m), some (.int sp), some (.ref l), some (.lst ords), some (.str z), some (.int a), some (.lst (mk.map D.str)), some (.int (1 + sh)), some (li a' b' c'), y10, y11, x12, x13, none, none, none]) ?_ ?_
          · walk_at "gr"
            refine ve_lst ?_
            walk_at "gr"
            have stay : ∃ (a' b' c' : Int) (y10 y11 : Option D), In1 a' ∧ In1 b' ∧ In1 c' ∧ ([some (.ref p), some (.int m), some (.int sp), some (.ref l), some (.lst ords), some (.str z), some (.int a), some (.lst (mk.map D.str)), some (.int (1 + sh)), some (li u v w), x10, x11, x12, x13, none, none, none] : Rho) = [some (.ref p), some (.int m), some (.int sp), some (.ref l), some (.lst ords), some (.str z), some (.int a), some (.lst (mk.map D.str)), some (.int (1 + sh)), some (li a' b' c'), y10, y11, x12, x13, none, none, none] :=
              ⟨u, v, w, _, _, by unfold In1; omega, by unfold In1; omega, by unfold In1; omega, rfl⟩
            refine ⟨fun eb => ?_, fun eb => ?_⟩
            · have ppos : 0 < ps.length := by
                cases ps with
                | nil => cases eb
                | cons x r => exact Nat.succ_pos _
              walk_at "gr"
              refine br (fun ea => ?_) (fun ea => ?_)
              · walk_at "gr"
                refine take_ok h9 (by omega) (by rw [List.length_map]; omega) (by rw [List.length_map]; omega) fun r S10 r0 r1 h10 o10 => ?_
                have c10 := (o10 l (Ne.symm npl)).trans c9
                have o10 := o9.trans o10.ex1
                clear h9 c9 o9
                obtain ⟨x, ea, q1, hq1, rfl⟩ := pick (fun d => ∃ q ∈ ps, d = c9D q) r0 r1 (fun x hx => by
                  obtain ⟨q, hq, rfl⟩ := List.mem_map.mp hx
                  exact ⟨q, hq, rfl⟩)
                refine rv_ixL (.c c10) ea ?_
                have gq := (cs.c q1 hq1).g
                have gqa := gq.a
                have gqb := gq.b
                have gqc := gq.c
                unfold In1 at gqa gqb gqc
                clear ea
                walk_at "gr"
                refine ve_lcJ (fun d => ∃ v : Int, d = .int v ∧ -1 ≤ v ∧ v ≤ 4) (fun j S11 => Pu S11 p (n + 20 + 60 * (i : Nat) + 8 + (j : Nat)) ∧ Ex1 p S S11 ∧ S11 l = some (.lst (ps.map c9D))) (vi_rng1 ?_)
                walk_at "gr"
                refine ⟨3, rfl, by decide, by rw [rngD_len]; decide, ⟨h10.mono (by omega), o10, c10⟩, ?_, ?_⟩
                · clear h10 c10 o10
                  rintro j d S11 hd ⟨h11, o11, c11⟩
                  have hj : j < 3 := by
                    have := (List.getElem?_eq_some_iff.mp hd).1
                    rw [rngD_len] at this
                    exact this
                  walk_at "gr"
                  refine ⟨rfl, ?_⟩
                  walk_at "ga"
                  intro t S12 t0 t1 h12 o12
                  refine rv_ixAll (fun d => ∃ v : Int, d = .int v ∧ -1 ≤ v ∧ v ≤ 4) t0 t1 (ac ⟨_, rfl, by decide, by decide⟩ (ac ⟨_, rfl, by decide, by decide⟩ (ac ⟨_, rfl, by decide, by decide⟩ (ac ⟨_, rfl, by decide, by decide⟩ (ac ⟨_, rfl, by decide, by decide⟩ an))))) ?_
                  intro y hy
                  exact ⟨hy, h12.mono (by omega), o11.trans o12.ex1, (o12 l (Ne.symm npl)).trans c11⟩
                rintro acc S11 hl3 ha ⟨h11, o11, c11⟩
                rw [rngD_len] at hl3 h11
                clear h10 c10 o10
                obtain ⟨ys, rfl, hy⟩ := ints_all ha
                rw [List.length_map] at hl3
                obtain ⟨u', v', w', rfl⟩ := list3 (xs := ys) hl3
                have hu' := hy u' (by simp)
                have hv' := hy v' (by simp)
                have hw' := hy w' (by simp)
                clear hy ha hl3
                have h11 : Pu S11 p (n + 20 + 60 * (i : Nat) + 12) := h11.mono (by show n + 20 + 60 * (i : Nat) + 8 + ((3 : Nat) : Int) ≤ _; omega)
                walk_at "gr"
                refine ve_lcM (ovD sp (1 + sh)) (vi_zipB ?_)
                walk_at "gr"
                unfold c9D
                walk_at "gr"
                refine ⟨_, _, _, _, _, _, rfl, .t, .w .v, by show 3 ≤ 100000; decide, fun d hd => ?_, ?_⟩
                · have hd' : d = .tup [.int q1.a, .int u'] ∨ d = .tup [.int q1.b, .int v'] ∨ d = .tup [.int q1.c, .int w'] := by
                    simpa [zipD] using hd
                  rcases hd' with rfl | rfl | rfl
                  all_goals
                    walk_at "gr"
                    refine ⟨rfl, ?_⟩
                    walk_at "gr"
                    exact ⟨congrArg D.int (mm_eq _), rfl⟩
                walk_at "gr"
                exact ⟨c11, h11, o11, _, _, _, _, _, ov_in (q1.a + sp + 2 * (1 + sh) + u'), ov_in (q1.b + sp + 2 * (1 + sh) + v'), ov_in (q1.c + sp + 2 * (1 + sh) + w'), rfl⟩
              · walk_at "gr"
                exact ⟨c9, h9.mono (by omega), o9, stay⟩
            · walk_at "gr"
              exact ⟨c9, h9.mono (by omega), o9, stay⟩
          clear hu hv hw h9 c9 o9
          rintro _ S10 ⟨c10, h10, o10, a', b', c', y10, y11, ga, gb, gc, rfl⟩
          walk_at "gr"
          intro t S11 t0 t1 h11 o11
          have c11 := (o11 l (Ne.symm npl)).trans c10
          have o11 := o10.trans o11.ex1
          clear h10 c10 o10
          refine rv_ixAll (xs := ords) (fun x => ∃ o ∈ perms, x = .tup (o.map D.int)) t0 t1 (fun x hx => by
            obtain ⟨o, ho, rfl⟩ := List.mem_map.mp hx
            exact ⟨o, ho, rfl⟩) ?_
          rintro _ ⟨o, ho, rfl⟩
          walk_at "gr"
          obtain ⟨i1, j1, l1, rfl, hi1, hj1, hl1⟩ := perm_len ho
          have tn_at : ∀ k : Int, (k = 0 ∨ k = 1 ∨ k = 2) → atI ([.int a', .int b', .int c'] : List D) k = some (.int (tn a' b' c' k)) := fun k hk => by
            rcases hk with rfl | rfl | rfl <;> rfl
          refine ve_lcM (fun x => match x with | .int i => .int (tn a' b' c' i) | _ => .non) (vi_tup ?_)
          walk_at "gr"
          refine ⟨_, rfl, by show 3 ≤ 100000; decide, all3 ?_ ?_ ?_, ?_⟩
          · walk_at "gr"
            refine ⟨rfl, ?_⟩
            walk_at "gr"
            exact rv_ixL .v (tn_at _ hi1) ⟨rfl, rfl⟩
          · walk_at "gr"
            refine ⟨rfl, ?_⟩
            walk_at "gr"
            exact rv_ixL .v (tn_at _ hj1) ⟨rfl, rfl⟩
          · walk_at "gr"
            refine ⟨rfl, ?_⟩
            walk_at "gr"
            exact rv_ixL .v (tn_at _ hl1) ⟨rfl, rfl⟩
          walk_at "gr"
          intro wt S12 wt0 wt1 h12 o12
          have c12 := (o12 l (Ne.symm npl)).trans c11
          have o12 := o11.trans o12.ex1
          clear h11 c11 o11
          walk_at "gr"
          refine take_ok h12 (by omega) (by rw [List.length_map]; omega) (by rw [List.length_map]; omega) fun k2 S13 k20 k21 h13 o13 => ?_
          have c13 := (o13 l (Ne.symm npl)).trans c12
          have o13 := o12.trans o13.ex1
          clear h12 c12 o12
          obtain ⟨k2, rfl⟩ := Int.eq_ofNat_of_zero_le k20
          rw [List.length_map] at k21
          walk_at "gr"
          have gr : C9 ⟨z, tn a' b' c' i1, tn a' b' c' j1, tn a' b' c' l1, 1 + sh, wt, 0, mk⟩ := ⟨⟨gz.ok, gz.1.1, tn_in ga gb gc, tn_in ga gb gc, tn_in ga gb gc, by show (1 : Int) ≤ 1 + sh ∧ 1 + sh ≤ 1000; omega, by show (0 : Int) ≤ wt ∧ wt ≤ 100000; omega, by show (0 : Int) ≤ 0 ∧ (0 : Int) ≤ 100000; decide, hmk⟩, rfl, emk⟩
          refine rm_insert (n := k2) c13 rfl (by rw [List.length_map]; omega) (by rw [List.length_map]; have := szl; omega) ?_
          obtain ⟨r, er⟩ : ∃ r : Pc, r = ⟨z, tn a' b' c' i1, tn a' b' c' j1, tn a' b' c' l1, 1 + sh, wt, 0, mk⟩ := ⟨_, rfl⟩
          rw [← er] at gr
          have en : r.nm = z := by rw [er]
          have em : (ps.map c9D).take k2 ++ [c9D r] ++ (ps.map c9D).drop k2 = (ps.take k2 ++ [r] ++ ps.drop k2).map c9D := by
            rw [List.map_append, List.map_append, List.map_take, List.map_drop]; rfl
          have nn : r.nm ∉ ps.map Pc.nm := by
            rw [en]
            intro hzm
            have hzt := hpm.mem_iff.mp hzm
            have hn2 : (zs.take (i + 1)).Nodup := nz.sublist (List.take_sublist _ _)
            rw [tk, List.nodup_append] at hn2
            exact hn2.2.2 _ hzt _ (List.mem_singleton.mpr rfl) rfl
          refine ⟨ps.take k2 ++ [r] ++ ps.drop k2, _, _, _, _, _, _, _, _, _, cs.ins gr nn (by omega), ?_, ?_, (h13.wr npl).mono (by omega), o13.wr2 hl, rfl⟩
          · rw [tk]
            refine ((ins_p91).map Pc.nm).trans ?_
            rw [List.map_cons, en]
            exact (hpm.cons z).trans (List.perm_append_comm (l₁ := [z]))
          · rw [put_same, ← em, er]
            rfl
      · rintro _ S4 ⟨ps, x5, x6, x7, x8, x9, x10, x11, x12, x13, cs, hpm, c4, h4, o4, rfl⟩
        rw [List.length_map, List.take_length] at hpm
        have lz2 := hpm.length_eq
        rw [List.length_map] at lz2
        have npl' := npl
        refine vx_freeze 3 rfl c4 ?_
        walk_at "gr"
        rw [List.length_map] at h4
        have h5 : Pu (VS.del S4 l) p (n + 800) := by
          obtain ⟨a, b, c, e, r⟩ := h4.mono (m := n + 800) (by omega)
          exact ⟨a, b, c, by rw [VS.del_ne npl]; exact e, r⟩
        exact q ps _ cs (by omega) h5 (o4.dl hl)) only [↓VS.box]
end
end LW
namespace LW
open PySem L2 C8 PySem.Spec PyProof.Rows VS
/-! ### lists of texts compared; perms -/
theorem ok_strB {n : Nat} {z : Str} (h : Asc n z) (hn : n ≤ 19) : Ok (.str z) 200 2 := ⟨(Sh.str h).mono (by omega) (by decide), by show ((pd (.str z)).canLay0 && decide ((pd (.str z)).depth ≤ 64)) = true; rw [asc_ok h.2]; rfl, nofun⟩
theorem Hps.perm {rs ts : List Pc} (h : Hps rs) (p : ts.Perm rs) : Hps ts := ⟨fun x hx => h.g x (p.mem_iff.mp hx), (p.map Pc.nm).nodup_iff.mpr h.n, by rw [p.length_eq]; exact h.l⟩
theorem Hps.asc {rs : List Pc} (h : Hps rs) {z : Str} (hz : z ∈ rs.map Pc.nm) : Asc 19 z := by
  obtain ⟨r, hr, rfl⟩ := List.mem_map.mp hz
  exact (Pg.asc (h.g r hr)).mono (by decide)
end LW
namespace LW
open PySem L2 C8 PySem.Spec PyProof.Rows VS
/-! ### a law's world: its purse, and what it keeps by reference -/
structure Wd (S : Sto) (p : Addr) (n : Int) (L : List (Addr × D)) : Prop where
  pu : Pu S p n
  at_ : ∀ x ∈ L, S x.1 = some x.2
  ne : ∀ x ∈ L, x.1 ≠ p
  nd : (L.map Prod.fst).Nodup
theorem Wd.of {S : Sto} {p : Addr} {n : Int} (h : Pu S p n) : Wd S p n [] := ⟨h, nofun, nofun, .nil⟩
theorem Wd.mono {S : Sto} {p : Addr} {n m : Int} {L : List (Addr × D)} (w : Wd S p n L) (h : n ≤ m) : Wd S p m L := ⟨w.pu.mono h, w.at_, w.ne, w.nd⟩
theorem Wd.ex1 {S S' : Sto} {p : Addr} {n m : Int} {L : List (Addr × D)} (w : Wd S p n L) (h : Pu S' p m) (o : Ex1 p S S') : Wd S' p m L := ⟨h, fun x hx => o _ _ (w.ne x hx) (w.at_ x hx), w.ne, w.nd⟩
theorem Wd.off {S S' : Sto} {p : Addr} {n m : Int} {L : List (Addr × D)} (w : Wd S p n L) (h : Pu S' p m) (o : Off p S S') : Wd S' p m L := w.ex1 h o.ex1
theorem Wd.ext {S S' : Sto} {p : Addr} {n : Int} {L : List (Addr × D)} (w : Wd S p n L) (x : Ext S S') : Wd S' p n L := ⟨w.pu.ext x, fun y hy => x _ _ (w.at_ y hy), w.ne, w.nd⟩
theorem Wd.get {S : Sto} {p : Addr} {n : Int} {L : List (Addr × D)} (w : Wd S p n L) (i : Nat) {a : Addr} {d : D} (e : L[i]? = some (a, d)) : S a = some d := w.at_ _ (List.mem_of_getElem? e)
theorem Wd.nep {S : Sto} {p : Addr} {n : Int} {L : List (Addr × D)} (w : Wd S p n L) (i : Nat) {a : Addr} {d : D} (e : L[i]? = some (a, d)) : p ≠ a := Ne.symm (w.ne _ (List.mem_of_getElem? e))
theorem Wd.nij {S : Sto} {p : Addr} {n : Int} {L : List (Addr × D)} (w : Wd S p n L) (i j : Nat) {a b : Addr} {d d' : D} (e : L[i]? = some (a, d)) (e' : L[j]? = some (b, d')) (h : i ≠ j) : a ≠ b := fun z => by
  subst z
  have h1 : (L.map Prod.fst)[i]? = some a := by rw [List.getElem?_map, e]; rfl
  have h2 : (L.map Prod.fst)[j]? = some a := by rw [List.getElem?_map, e']; rfl
  exact h ((List.getElem?_inj (by rw [List.length_map]; exact (List.getElem?_eq_some_iff.mp e).1) w.nd).mp (h1.trans h2.symm))
theorem Wd.free {S : Sto} {p : Addr} {n : Int} {L : List (Addr × D)} {l : Addr} (w : Wd S p n L) (hl : S l = none) : l ∉ L.map Prod.fst := fun z => by
  obtain ⟨x, hx, rfl⟩ := List.mem_map.mp z
  rw [w.at_ x hx] at hl
  cases hl
theorem Wd.new {S : Sto} {p l : Addr} {n : Int} {L : List (Addr × D)} {d : D} (w : Wd S p n L) (hl : S l = none) : Wd (put S l d) p n ((l, d) :: L) := by
  have hf := w.free hl
  refine ⟨w.pu.put hl, fun x hx => ?_, fun x hx => ?_, List.nodup_cons.mpr ⟨hf, w.nd⟩⟩
  · rcases List.mem_cons.mp hx with e | hx
    · rw [e]; exact put_same
    · rw [put_ne]
      · exact w.at_ x hx
      · exact fun z => hf (List.mem_map.mpr ⟨x, hx, z⟩)
  · rcases List.mem_cons.mp hx with e | hx
    · rw [e]; exact Ne.symm (w.pu.ne hl)
    · exact w.ne x hx
theorem Wd.wr {S : Sto} {p a : Addr} {n : Int} {L : List (Addr × D)} {d d' : D} (w : Wd S p n L) (i : Nat) (e : L[i]? = some (a, d)) : Wd (VS.put S a d') p n (L.set i (a, d')) := by
  refine ⟨w.pu.wr (w.nep i e), fun x hx => ?_, fun x hx => ?_, ?_⟩
  · obtain ⟨j, hj⟩ := List.getElem?_of_mem hx
    by_cases z : j = i
    · subst z
      rw [List.getElem?_set_self (List.getElem?_eq_some_iff.mp e).1] at hj
      cases hj
      exact put_same
    · rw [List.getElem?_set_ne (Ne.symm z)] at hj
      have hj' : L[j]? = some (x.1, x.2) := hj
      rw [put_ne (w.nij j i hj' e z)]
      exact w.get j hj'
  · rcases List.mem_or_eq_of_mem_set hx with hx | hx
    · exact w.ne x hx
    · rw [hx]; exact Ne.symm (w.nep i e)
  · have : (L.set i (a, d')).map Prod.fst = L.map Prod.fst := by
      refine List.ext_getElem? fun j => ?_
      rw [List.getElem?_map, List.getElem?_map]
      by_cases z : j = i
      · subst z
        rw [List.getElem?_set_self (List.getElem?_eq_some_iff.mp e).1, e]
        rfl
      · rw [List.getElem?_set_ne (Ne.symm z)]
    rw [this]
    exact w.nd
theorem Wd.sub {S : Sto} {p : Addr} {n : Int} {L M : List (Addr × D)} (w : Wd S p n L) (h : M.Sublist L) : Wd S p n M := ⟨w.pu, fun x hx => w.at_ x (h.subset hx), fun x hx => w.ne x (h.subset hx), w.nd.sublist (h.map _)⟩
theorem Wd.tl {S : Sto} {p : Addr} {n : Int} {x : Addr × D} {L : List (Addr × D)} (w : Wd S p n (x :: L)) : Wd S p n L := w.sub (List.sublist_cons_self ..)
theorem Pu.dl' {S : Sto} {p l : Addr} {n : Int} (h : Pu S p n) (ne : p ≠ l) : Pu (VS.del S l) p n := by
  obtain ⟨x, y, z, e, r⟩ := h
  exact ⟨x, y, z, (VS.del_ne ne).trans e, r⟩
theorem Wd.dl {S : Sto} {p a : Addr} {n : Int} {L : List (Addr × D)} {d : D} (w : Wd S p n L) (i : Nat) (e : L[i]? = some (a, d)) : Wd (VS.del S a) p n (L.eraseIdx i) := by
  refine ⟨w.pu.dl' (w.nep i e), fun x hx => ?_, fun x hx => w.ne x (List.mem_of_mem_eraseIdx hx), w.nd.sublist ((List.eraseIdx_sublist ..).map _)⟩
  obtain ⟨j, ne, hj⟩ := List.mem_eraseIdx_iff_getElem?.mp hx
  have hj' : L[j]? = some (x.1, x.2) := hj
  rw [VS.del_ne (w.nij j i hj' e ne)]
  exact w.get j hj'
theorem Wd.g0 {S : Sto} {p a : Addr} {n : Int} {d : D} {L : List (Addr × D)} (w : Wd S p n ((a, d) :: L)) : S a = some d := w.get 0 rfl
theorem Wd.g1 {S : Sto} {p a : Addr} {n : Int} {d : D} {x0 : Addr × D} {L : List (Addr × D)} (w : Wd S p n (x0 :: (a, d) :: L)) : S a = some d := w.get 1 rfl
theorem Wd.g2 {S : Sto} {p a : Addr} {n : Int} {d : D} {x0 x1 : Addr × D} {L : List (Addr × D)} (w : Wd S p n (x0 :: x1 :: (a, d) :: L)) : S a = some d := w.get 2 rfl
theorem Wd.g3 {S : Sto} {p a : Addr} {n : Int} {d : D} {x0 x1 x2 : Addr × D} {L : List (Addr × D)} (w : Wd S p n (x0 :: x1 :: x2 :: (a, d) :: L)) : S a = some d := w.get 3 rfl
theorem Wd.g4 {S : Sto} {p a : Addr} {n : Int} {d : D} {x0 x1 x2 x3 : Addr × D} {L : List (Addr × D)} (w : Wd S p n (x0 :: x1 :: x2 :: x3 :: (a, d) :: L)) : S a = some d := w.get 4 rfl
theorem Wd.g5 {S : Sto} {p a : Addr} {n : Int} {d : D} {x0 x1 x2 x3 x4 : Addr × D} {L : List (Addr × D)} (w : Wd S p n (x0 :: x1 :: x2 :: x3 :: x4 :: (a, d) :: L)) : S a = some d := w.get 5 rfl
theorem Wd.g6 {S : Sto} {p a : Addr} {n : Int} {d : D} {x0 x1 x2 x3 x4 x5 : Addr × D} {L : List (Addr × D)} (w : Wd S p n (x0 :: x1 :: x2 :: x3 :: x4 :: x5 :: (a, d) :: L)) : S a = some d := w.get 6 rfl
theorem Wd.g7 {S : Sto} {p a : Addr} {n : Int} {d : D} {x0 x1 x2 x3 x4 x5 x6 : Addr × D} {L : List (Addr × D)} (w : Wd S p n (x0 :: x1 :: x2 :: x3 :: x4 :: x5 :: x6 :: (a, d) :: L)) : S a = some d := w.get 7 rfl
theorem take_w {S : Sto} {p : Addr} {n m : Int} {L : List (Addr × D)} {G : D → Sto → Prop} {Y : Addr → List (Str × D) → Sto → Prop} (w : Wd S p n L) (hn : n < 1000000) (h0 : 0 < m) (h1 : m < 2 ^ 64)
    (q : ∀ (d : Int) (S' : Sto), 0 ≤ d → d < m → Wd S' p (n + 1) L → G (.int d) S') : p__law_take [.ref p, .int m] S G Y := take_ok w.pu hn h0 h1 fun d S' d0 d1 h o => q d S' d0 d1 (w.off h o)
end LW
open LW
local macro_rules | `(tactic| walk_at "wd") => `(tactic| first | (apply Wd.g0; assumption) | (apply Wd.g1; assumption) | (apply Wd.g2; assumption) | (apply Wd.g3; assumption) | (apply Wd.g4; assumption) | (apply Wd.g5; assumption) | (apply Wd.g6; assumption) | (apply Wd.g7; assumption))
local macro_rules | `(tactic| walk_at "ii") => `(tactic| first | exact .v | exact .c put_same | exact .c (by assumption) | (apply IsL.c; walk_at "wd") | (apply IsA.c; walk_at "wd") | (refine .c ?_; walk_at "wd"))
local macro_rules | `(tactic| walk_at "gp") => `(tactic| ((with_reducible apply ex_cell); (· walk_at "wd")))
local macro_rules | `(tactic| walk_at "gp") => `(tactic| ((with_reducible apply take_w); (· assumption); (· first | decide | omega); (· first | decide | (simp only [List.length_map]; omega) | omega); (· first | decide | (simp only [List.length_map]; omega) | omega)))
local macro_rules | `(tactic| walk_at "gp") => `(tactic| ((with_reducible apply rv_ixL); (· (apply IsL.c; walk_at "wd")); (· rfl)))
local macro_rules | `(tactic| walk_at "gp") => `(tactic| ((with_reducible apply rc_lenQ); (· (apply IsQ.l; apply IsL.c; walk_at "wd"))))
namespace LW
open PySem L2 C8 PySem.Spec PyProof.Rows VS
/-! ### the longest nest: ranks and the chain, plain -/
section
variable (E : Str → List Str)
variable {E}
/-- a walk from one to one in which it goes -/
inductive Pth (E : Str → List Str) : List Str → Prop
  | nil : Pth E []
  | one {n : Str} : Pth E [n]
  | cons {n m : Str} {l : List Str} (h : m ∈ E n) (t : Pth E (m :: l)) : Pth E (n :: m :: l)
end
end LW
namespace LW
open PySem L2 C8 PySem.Spec PyProof.Rows VS
/-! ### the parcels by their longest side: whatever goes in another one stands ahead of it -/
theorem dn_max (a b c : Int) : ∃ v w, dn [a, b, c] = [max (max a b) c, v, w] := by
  obtain ⟨u, v, w, e⟩ := list3 (up_len [a, b, c])
  have s := up_sorted [a, b, c]
  have pm := up_perm [a, b, c]
  rw [e] at s pm
  have h1 : u ≤ v := (List.pairwise_cons.mp s).1 v (by simp)
  have h2 : v ≤ w := (List.pairwise_cons.mp (List.pairwise_cons.mp s).2).1 w (by simp)
  have hw : w ∈ [a, b, c] := pm.mem_iff.mp (by simp)
  have ha : a ∈ [u, v, w] := pm.mem_iff.mpr (by simp)
  have hb : b ∈ [u, v, w] := pm.mem_iff.mpr (by simp)
  have hc : c ∈ [u, v, w] := pm.mem_iff.mpr (by simp)
  simp only [List.mem_cons, List.not_mem_nil, or_false] at hw ha hb hc
  refine ⟨v, u, ?_⟩
  unfold dn
  rw [e]
  show [w, v, u] = _
  rw [show w = max (max a b) c by omega]
/-- those in which one goes, by its name -/
def Eof (sp : Int) (ps : List Pc) (n : Str) : List Str := match ps.find? fun p => decide (p.nm = n) with
  | some p => goN sp ps p
  | none => []
theorem find_nm : ∀ {ps : List Pc} {p : Pc}, (ps.map Pc.nm).Nodup → p ∈ ps → (ps.find? fun q => decide (q.nm = p.nm)) = some p
  | [], _, _, h => by simp at h
  | q :: ps, p, nd, h => by
    rw [List.map_cons, List.nodup_cons] at nd
    rcases List.mem_cons.mp h with rfl | h
    · rw [List.find?_cons_of_pos (by simp)]
    · have ne : q.nm ≠ p.nm := fun z => nd.1 (by rw [z]; exact List.mem_map.mpr ⟨p, h, rfl⟩)
      rw [List.find?_cons_of_neg (by simpa using ne)]
      exact find_nm nd.2 h
theorem Eof_at {sp : Int} {ps : List Pc} {p : Pc} (nd : (ps.map Pc.nm).Nodup) (h : p ∈ ps) : Eof sp ps p.nm = goN sp ps p := by
  unfold Eof
  rw [find_nm nd h]
theorem mem_goN {sp : Int} {ps : List Pc} {p : Pc} {o : Str} (h : o ∈ goN sp ps p) : ∃ q ∈ ps, q.nm = o ∧ goB sp p q = true := by
  obtain ⟨q, hq, e⟩ := List.mem_map.mp h
  exact ⟨q, (List.mem_filter.mp hq).1, e, (List.mem_filter.mp hq).2⟩
end LW
namespace LW
open PySem L2 C8 PySem.Spec PyProof.Rows VS
/-! ### how many parcels the longest nest has in which each is the outer one -/
def nmD (ns : List Str) : D := .lst (ns.map D.str)
/-- a dict from names to lists of names, by value -/
def ouDs (ns : List Str) (E : Str → List Str) : List (Key × D) := ns.map fun n => ((.inr n : Key), nmD (E n))
theorem valD_map {α : Type} {ns : List Str} {f : Str → D} {x : Str} (h : x ∈ ns) : valD (ns.map fun n => ((.inr n : Key), f n)) (.inr x) = some (f x) := by
  induction ns with
  | nil => simp at h
  | cons n ns ih =>
    by_cases e : n = x
    · subst e
      exact valD_pos rfl
    · rw [List.map_cons, valD_neg (fun z => e (Sum.inr.inj z))]
      exact ih (by rcases List.mem_cons.mp h with rfl | h; exact absurd rfl e; exact h)
theorem valD_ou {ns : List Str} {E : Str → List Str} {x : Str} (h : x ∈ ns) : valD (ouDs ns E) (.inr x) = some (nmD (E x)) := valD_map (α := Unit) h
end LW
namespace LW
open PySem L2 C8 PySem.Spec PyProof.Rows VS
/-! ### the law's own look at what goes in what, by the ranks -/
theorem up_shift (a b c k : Int) : up [a - k, b - k, c - k] = (up [a, b, c]).map fun x => x - k := by
  unfold up
  rw [List.map_mergeSort (s := fun a b : Int => decide (a ≤ b)) (fun x _ y _ => VS.bdec (by omega))]
  rfl
/-- rank by rank, from the least one on -/
def goK (sp : Int) (p q : Pc) : Bool := match up [p.a, p.b, p.c], up [q.a, q.b, q.c] with
  | [u, v, w], [x, y, z] => decide (u + sp + 2 * q.wl ≤ x) && (decide (v + sp + 2 * q.wl ≤ y) && decide (w + sp + 2 * q.wl ≤ z))
  | _, _ => false
theorem go_rankK {sp : Int} {p q : Pc} (gp : p.g) (s0 : 0 ≤ sp) (h1 : ("alone" : Str) ∉ p.mk) (h2 : ("alone" : Str) ∉ q.mk) : goB sp p q = goK sp p q := by
  obtain ⟨u, v, w, e⟩ := list3 (up_len [p.a, p.b, p.c])
  obtain ⟨x, y, z, e'⟩ := list3 (up_len [q.a, q.b, q.c])
  have pm := up_perm [p.a, p.b, p.c]
  have pm' := up_perm [q.a, q.b, q.c]
  have s' := up_sorted [q.a, q.b, q.c]
  rw [e] at pm
  rw [e'] at pm' s'
  have ga := gp.a
  have gb := gp.b
  have gc := gp.c
  unfold In1 at ga gb gc
  have hu : u ∈ [p.a, p.b, p.c] := pm.mem_iff.mp (by simp)
  have hx : x ∈ [q.a, q.b, q.c] := pm'.mem_iff.mp (by simp)
  have ha : q.a ∈ [x, y, z] := pm'.mem_iff.mpr (by simp)
  have hb : q.b ∈ [x, y, z] := pm'.mem_iff.mpr (by simp)
  have hc : q.c ∈ [x, y, z] := pm'.mem_iff.mpr (by simp)
  have h3 : x ≤ y := (List.pairwise_cons.mp s').1 y (by simp)
  have h4 : y ≤ z := (List.pairwise_cons.mp (List.pairwise_cons.mp s').2).1 z (by simp)
  simp only [List.mem_cons, List.not_mem_nil, or_false] at hu hx ha hb hc
  unfold goK goB shA shB
  rw [if_neg h1, if_neg h2, e, e']
  by_cases nr : noRoom q.a q.b q.c q.wl
  · rw [if_pos nr]
    unfold noRoom at nr
    unfold rkD dn
    rw [e]
    show false = (decide (u + sp + 2 * q.wl ≤ x) && (decide (v + sp + 2 * q.wl ≤ y) && decide (w + sp + 2 * q.wl ≤ z)))
    rw [decide_eq_false (show ¬ (u + sp + 2 * q.wl ≤ x) by omega)]
    rfl
  · rw [if_neg nr]
    unfold rkD dn
    rw [e, up_shift, e']
    show (decide (w + sp ≤ z - 2 * q.wl) && (decide (v + sp ≤ y - 2 * q.wl) && decide (u + sp ≤ x - 2 * q.wl))) = (decide (u + sp + 2 * q.wl ≤ x) && (decide (v + sp + 2 * q.wl ≤ y) && decide (w + sp + 2 * q.wl ≤ z)))
    rw [show decide (w + sp ≤ z - 2 * q.wl) = decide (w + sp + 2 * q.wl ≤ z) from VS.bdec (by omega), show decide (v + sp ≤ y - 2 * q.wl) = decide (v + sp + 2 * q.wl ≤ y) from VS.bdec (by omega), show decide (u + sp ≤ x - 2 * q.wl) = decide (u + sp + 2 * q.wl ≤ x) from VS.bdec (by omega)]
    cases decide (w + sp + 2 * q.wl ≤ z) <;> cases decide (v + sp + 2 * q.wl ≤ y) <;> cases decide (u + sp + 2 * q.wl ≤ x) <;> rfl
theorem go_alone {sp : Int} {p q : Pc} (h : ("alone" : Str) ∈ p.mk ∨ ("alone" : Str) ∈ q.mk) : goB sp p q = false := by
  unfold goB shA shB
  rcases h with h | h
  · rw [if_pos h]
    rfl
  · rw [if_pos h]
    split
    · rfl
    · obtain ⟨v, w, e⟩ := dn_max p.a p.b p.c
      unfold rkD
      rw [e]
      rfl
end LW
namespace LW
open PySem L2 C8 PySem.Spec PyProof.Rows VS
/-! ### rows of names, spoilt ones too: what is told of them -/
def chB (E : Str → List Str) : List Str → Bool
  | a :: b :: r => decide (b ∈ E a) && chB E (b :: r)
  | _ => true
theorem chB_iff {E : Str → List Str} : ∀ {zs : List Str}, chB E zs = true ↔ ∀ (j : Nat) (a b : Str), zs[j]? = some a → zs[j + 1]? = some b → b ∈ E a
  | [] => ⟨fun _ j a b h => by simp at h, fun _ => rfl⟩
  | [x] => ⟨fun _ j a b _ h => by simp at h, fun _ => rfl⟩
  | x :: y :: r => by
    have ih := chB_iff (E := E) (zs := y :: r)
    unfold chB
    rw [Bool.and_eq_true, decide_eq_true_eq, ih]
    constructor
    · rintro ⟨h1, h2⟩ j a b e1 e2
      cases j with
      | zero =>
        cases e1
        cases e2
        exact h1
      | succ j => exact h2 j a b e1 e2
    · intro h
      exact ⟨h 0 x y rfl rfl, fun j a b e1 e2 => h (j + 1) a b e1 e2⟩
/-- a thing within a row -/
def Nm1 (d : D) : Prop := (∃ s, d = .str s ∧ Asc 19 s) ∨ d ∈ [D.non, .int 7, .bl true, .lst [.str "a"], .tup [.str "a"], .dK []]
def Rw (n : Nat) (d : D) : Prop := (∃ xs : List D, (d = .lst xs ∨ d = .tup xs) ∧ xs.length ≤ n ∧ ∀ x ∈ xs, Nm1 x) ∨ Nm1 d
def Nz (n m : Nat) (d : D) : Prop := (∃ ys : List D, (d = .lst ys ∨ d = .tup ys) ∧ ys.length ≤ m ∧ ∀ y ∈ ys, Rw n y) ∨ Rw n d
theorem Nm1.p {d : D} (h : Nm1 d) : isP d = true := by
  rcases h with ⟨s, rfl, _⟩ | h
  · rfl
  · simp only [List.mem_cons, List.not_mem_nil, or_false] at h
    rcases h with rfl | rfl | rfl | rfl | rfl | rfl <;> rfl
theorem isPL_of : ∀ {xs : List D}, (∀ x ∈ xs, isP x = true) → isPL xs = true
  | [], _ => rfl
  | x :: xs, h => by
    show (isP x && isPL xs) = true
    rw [h x List.mem_cons_self, isPL_of fun y hy => h y (List.mem_cons_of_mem _ hy)]
    rfl
theorem Rw.p {n : Nat} {d : D} (h : Rw n d) : isP d = true := by
  rcases h with ⟨xs, rfl | rfl, _, h⟩ | h
  · exact isPL_of fun x hx => (h x hx).p
  · exact isPL_of fun x hx => (h x hx).p
  · exact h.p
theorem Nz.p {n m : Nat} {d : D} (h : Nz n m d) : isP d = true := by
  rcases h with ⟨xs, rfl | rfl, _, h⟩ | h
  · exact isPL_of fun x hx => (h x hx).p
  · exact isPL_of fun x hx => (h x hx).p
  · exact h.p
theorem Nm1.a : Nm1 (.str "a") := .inl ⟨_, rfl, Asc.lit (by decide)⟩
theorem Rw.row {n : Nat} {xs : List D} (h : Rw n (.lst xs)) : xs.length ≤ n + 1 ∧ ∀ x ∈ xs, Nm1 x := by
  rcases h with ⟨ys, e | e, h1, h2⟩ | ⟨s, e, _⟩ | h
  · cases e; exact ⟨by omega, h2⟩
  · cases e
  · cases e
  · simp only [List.mem_cons, List.not_mem_nil, or_false] at h
    rcases h with h | h | h | h | h | h
    · cases h
    · cases h
    · cases h
    · cases h
      exact ⟨by simp, fun x hx => by rw [List.mem_singleton.mp hx]; exact Nm1.a⟩
    · cases h
    · cases h
theorem Rw.lst {n : Nat} {xs : List D} (hl : xs.length ≤ n) (h : ∀ x ∈ xs, Nm1 x) : Rw n (.lst xs) := .inl ⟨xs, .inl rfl, hl, h⟩
theorem Rw.mono {n m : Nat} {d : D} (h : Rw n d) (a : n ≤ m) : Rw m d := by
  rcases h with ⟨xs, e, h1, h2⟩ | h
  · exact .inl ⟨xs, e, by omega, h2⟩
  · exact .inr h
theorem Nz.lst {n m : Nat} {ys : List D} (hl : ys.length ≤ m) (h : ∀ y ∈ ys, Rw n y) : Nz n m (.lst ys) := .inl ⟨ys, .inl rfl, hl, h⟩
theorem Nz.mono {n m k j : Nat} {d : D} (h : Nz n m d) (a : n ≤ k) (b : m ≤ j) : Nz k j d := by
  rcases h with ⟨xs, e, h1, h2⟩ | h
  · exact .inl ⟨xs, e, by omega, fun y hy => (h2 y hy).mono a⟩
  · exact .inr (h.mono a)
end LW
namespace LW
open PySem L2 C8 PySem.Spec PyProof.Rows VS
/-! ### whether things are nests of a heap -/
def p_goes31 (CP CS : Addr) : Pt := fun ds S G _ => ∃ (p q : Pc) (sp : Int), ds = [p.d CP CS, q.d CP CS, .int sp] ∧ p.g ∧ q.g ∧ 0 ≤ sp ∧ sp ≤ 1000 ∧ G (.bl (goB sp p q)) S
theorem Eof_go {sp : Int} {ps : List Pc} {p q : Pc} (h : Hps ps) (hp : p ∈ ps) (hq : q ∈ ps) : decide (q.nm ∈ Eof sp ps p.nm) = goB sp p q := by
  rw [Eof_at h.n hp]
  unfold goN
  rw [Bool.eq_iff_iff, decide_eq_true_eq, List.mem_map]
  constructor
  · rintro ⟨r, hr, e⟩
    obtain ⟨h1, h2⟩ := List.mem_filter.mp hr
    have f1 := find_nm h.n h1
    have f2 := find_nm h.n hq
    rw [e] at f1
    rw [f1] at f2
    cases f2
    exact h2
  · intro g
    exact ⟨q, List.mem_filter.mpr ⟨hq, g⟩, rfl⟩
theorem inD_map (ks : List Str) : ∀ zs : List Str, (zs.map D.str).map (fun d => D.bl (inD d (ks.map D.str))) = (zs.map fun z => decide (z ∈ ks)).map D.bl
  | [] => rfl
  | z :: zs => by
    rw [List.map_cons, List.map_cons, List.map_cons, List.map_cons, inD_map ks zs, inD_strs]
theorem shG_rk31 {a b c x y z sp : Int} : shG (rkD a b c) (rkD x y z) sp = rk (up [a, b, c]) (up [x, y, z]) sp := by
  obtain ⟨u, v, w, e1, _⟩ := up3 a b c
  obtain ⟨u', v', w', e2, _⟩ := up3 x y z
  unfold rkD dn
  rw [e1, e2]
  show (decide (w + sp ≤ w') && (decide (v + sp ≤ v') && decide (u + sp ≤ u'))) = (decide (u + sp ≤ u') && (decide (v + sp ≤ v') && decide (w + sp ≤ w')))
  cases decide (w + sp ≤ w') <;> cases decide (v + sp ≤ v') <;> cases decide (u + sp ≤ u') <;> rfl
theorem pgo_head {sp : Int} {p q : Pc} (gp : p.g) (s0 : 0 ≤ sp) : ∃ w th, pgoD p.nm p.a p.b p.c p.mk q.nm q.a q.b q.c q.wl q.mk sp = .tup (.str w :: th) ∧ decide (w = ("turn" : Str)) = goB sp p q := by
  unfold pgoD
  by_cases h1 : ("alone" : Str) ∈ p.mk
  · rw [if_pos h1, go_alone (.inl h1)]
    exact ⟨_, _, rfl, by decide⟩
  · rw [if_neg h1]
    by_cases h2 : ("alone" : Str) ∈ q.mk
    · rw [if_pos h2, go_alone (.inr h2)]
      exact ⟨_, _, rfl, by decide⟩
    · rw [if_neg h2]
      by_cases h3 : noRoom q.a q.b q.c q.wl
      · rw [if_pos h3]
        refine ⟨_, _, rfl, ?_⟩
        unfold goB shA shB
        rw [if_neg h1, if_neg h2, if_pos h3]
        obtain ⟨u, v, w, e⟩ := dn3 p.a p.b p.c
        unfold rkD
        rw [e]
        exact (by decide : decide (("solid" : Str) = "turn") = false).trans rfl
      · rw [if_neg h3]
        obtain ⟨w, th, e1, e2⟩ := goes_head p.a p.b p.c (q.a - 2 * q.wl) (q.b - 2 * q.wl) (q.c - 2 * q.wl) sp
        refine ⟨w, th, e1, e2.trans ?_⟩
        unfold goB shA shB
        rw [if_neg h1, if_neg h2, if_neg h3, go_rank]
        exact shG_rk31.symm
section
variable {P : Program} {w : World} {K : PySem.W.Frag} {mg : Str → Option Value} {base : Heap}
theorem ok_goes {f : Addr} {fd : FuncData} {C_Sides C_Parcel C_Heap C_Nest C_NoNumber C_NoSide C_NoSides C_NoOrder C_NoParcel C_NotInHeap C_NoNest C_Unnested : Addr} {f_Parcel_goes_in : Addr} {g_Parcel_goes_in : FuncData}
    (F : Fd K "goes" "goes" s_goes [] f fd) (T : Tx K mg) (hsys : SysOk base)
    (c_Parcel_goes_in : Mf P w K mg base 8 C_Parcel "goes_in" "Parcel.goes_in" s_Parcel_goes_in [.int 0] a_Parcel_goes_in (p_Pc_goes K C_Parcel C_Sides C_NoParcel C_NoNumber) f_Parcel_goes_in g_Parcel_goes_in)
    (k_Parcel : Kl_Parcel K mg C_Parcel)
    (k_Sides : Kl_Sides K mg C_Sides) :
    FnG P w K mg base (L2.CX P w) 9 f fd a_goes (spOf K (p_goes31 C_Parcel C_Sides)) := by
  refine VS.unbox ?_
  simp (disch := with_unfolding_all
    have kc_Parcel := k_Parcel.ins.cl
    have ka_Parcel_called := k_Parcel.a_called
    have ka_Parcel_outside := k_Parcel.a_outside
    have ka_Parcel_thick := k_Parcel.a_thick
    have ka_Parcel_heavy := k_Parcel.a_heavy
    have ka_Parcel_strong := k_Parcel.a_strong
    have ka_Parcel_marks := k_Parcel.a_marks
    have ka_Parcel_told := k_Parcel.a_told
    have ka_Parcel_names := k_Parcel.a_names
    have kc_Sides := k_Sides.ins.cl
    have ka_Sides_three := k_Sides.a_three
    refine fn_val F sc_goes (fun ds S G Y h => ?_) (fun cdv A hgd outer s H E hr px tk po ds S G Y h => ?_)
    · obtain ⟨p, q, sp, rfl, _⟩ := h
      rfl
    · obtain ⟨p, q, sp, rfl, gp, gq, s0, s1, k⟩ := h
      refine ⟨_, (pss_one (ps_ret (pe_cmpR op_eq (pe_ix ix_tup (pe_mG (pv 0) c_Parcel_goes_in.cl c_Parcel_goes_in.me c_Parcel_goes_in.fn hgd (hr.mono (by decide)) c_Parcel_goes_in.b .nil VS.pass0 (pa_cons (pv 1) (pa_cons (pv 2) pa_nil))) pe_int (fun _ _ => rfl)) pe_str (nomark _)))), ?_⟩
      (try dsimp only [cxOf, List.map])
      show VX _ _ [_, _, _] _ _
      walk_at "gr"
      refine ⟨p.nm, p.a, p.b, p.c, p.wl, p.wt, p.br, p.mk, _, .int sp, rfl, gp, .inr ⟨q.nm, q.a, q.b, q.c, q.wl, q.wt, q.br, q.mk, rfl, gq, some sp, .i sp, fun z => ?_, fun i e i0 i1 => ?_⟩⟩
      · have : whB (some sp) 0 1000 = true := by
          show (decide (0 ≤ sp) && decide (sp ≤ 1000)) = true
          rw [decide_eq_true s0, decide_eq_true s1]; rfl
        rw [this] at z
        cases z
      · cases e
        obtain ⟨w, th, e1, e2⟩ := pgo_head (q := q) gp s0
        rw [e1]
        walk_at "gr"
        rw [e2]
        exact k) only [↓VS.box]
end
end LW
namespace LW
open PySem L2 C8 PySem.Spec PyProof.Rows VS
/-! ### the law's own look -/
def ordD (o : List Int) : D := .tup (o.map D.int)
end LW
namespace LW
open PySem L2 C8 PySem.Spec PyProof.Rows VS
/-! ### the ranks tell the same as the law's own look; what is told is right -/
end LW
namespace LW
open PySem L2 C8 PySem.Spec PyProof.Rows VS
/-! ### nests, made of good names -/
def wayI (sp : Int) (p q : Pc) : List Int := (perms.find? fun o => fitB (tnl p.a p.b p.c o) [q.a - 2 * q.wl, q.b - 2 * q.wl, q.c - 2 * q.wl] sp).getD [0, 1, 2]
def waysI (sp : Int) : List Pc → List (List Int)
  | p :: q :: r => wayI sp p q :: waysI sp (q :: r)
  | _ => []
/-- each goes in the following one -/
def Goes (sp : Int) : List Pc → Prop
  | p :: q :: r => goB sp p q = true ∧ Goes sp (q :: r)
  | _ => True
theorem way_go {sp : Int} {p q : Pc} (gp : p.g) (s0 : 0 ≤ sp) (h : goB sp p q = true) : pgoD p.nm p.a p.b p.c p.mk q.nm q.a q.b q.c q.wl q.mk sp = .tup [.str "turn", ordD (wayI sp p q)] ∧ wayI sp p q ∈ perms ∧ fitB (tnl p.a p.b p.c (wayI sp p q)) [q.a - 2 * q.wl, q.b - 2 * q.wl, q.c - 2 * q.wl] sp = true := by
  obtain ⟨w, th, e1, e2⟩ := pgo_head (q := q) gp s0
  rw [h] at e2
  have e2 := of_decide_eq_true e2
  subst e2
  unfold pgoD at e1 ⊢
  by_cases h1 : ("alone" : Str) ∈ p.mk
  · rw [if_pos h1] at e1
    injection e1 with e1
    injection e1 with e1 _
    injection e1 with e1
    exact absurd e1 (by decide)
  rw [if_neg h1] at e1 ⊢
  by_cases h2 : ("alone" : Str) ∈ q.mk
  · rw [if_pos h2] at e1
    injection e1 with e1
    injection e1 with e1 _
    injection e1 with e1
    exact absurd e1 (by decide)
  rw [if_neg h2] at e1 ⊢
  by_cases h3 : noRoom q.a q.b q.c q.wl
  · rw [if_pos h3] at e1
    injection e1 with e1
    injection e1 with e1 _
    injection e1 with e1
    exact absurd e1 (by decide)
  rw [if_neg h3] at e1 ⊢
  unfold goesD at e1 ⊢
  unfold wayI
  cases hf : perms.find? fun o => fitB (tnl p.a p.b p.c o) [q.a - 2 * q.wl, q.b - 2 * q.wl, q.c - 2 * q.wl] sp with
  | some o => exact ⟨rfl, List.mem_of_find?_eq_some hf, by simpa using List.find?_some hf⟩
  | none =>
    rw [hf] at e1
    obtain ⟨th2, e3⟩ := many_head (l := dn [p.a, p.b, p.c]) (m := dn [q.a - 2 * q.wl, q.b - 2 * q.wl, q.c - 2 * q.wl]) (sp := sp) (r := 0)
    have e1 : many (dn [p.a, p.b, p.c]) (dn [q.a - 2 * q.wl, q.b - 2 * q.wl, q.c - 2 * q.wl]) sp 0 = .tup (.str "turn" :: th) := e1
    rw [e3] at e1
    injection e1 with e1
    injection e1 with e1 _
    injection e1 with e1
    exact absurd e1 (by decide)
def nsD (CN CP CS : Addr) (sp : Int) (zs : List Pc) : D := .ins CN [("layers", .lst (zs.map (Pc.d CP CS))), ("ways", .lst ((waysI sp zs).map ordD))]
def p_Ns_names (CN CP CS : Addr) : Pt := fun ds S G _ => ∃ (zs : List Pc) (sp : Int), ds = [nsD CN CP CS sp zs] ∧ zs.length ≤ 12 ∧ G (nmD (zs.map Pc.nm)) S
def p_Ns_turns (CN CP CS : Addr) : Pt := fun ds S G _ => ∃ (zs : List Pc) (sp : Int), ds = [nsD CN CP CS sp zs] ∧ G (.lst ((waysI sp zs).map ordD)) S
/-- how one lies in the outer one -/
def lieI : List (List Int) → List Int
  | [] => [0, 1, 2]
  | t :: ws => (lieI ws).map fun n => t.getD n.toNat 0
/-- what is no name of a nest -/
inductive NoN (K : PySem.W.Frag) (S : Sto) (zs : List Pc) : D → Prop
  | s {z : Str} (h : z ∉ zs.map Pc.nm) : NoN K S zs (.str z)
  | d {y d' : D} (h : Da S y d') (k : isK "str" d' = false) : NoN K S zs y
  | o {y : D} {C : Addr} {fs : List (Str × D)} (i : IsI S y C fs) (c : InsC K C) (k : PySem.W.kitOne K (.ref C) (.type "str") = some false) : NoN K S zs y
def p_Ns_lies (K : PySem.W.Frag) (CN CP CS CX : Addr) : Pt := fun ds S G Y => ∃ (zs : List Pc) (sp : Int) (d : D), ds = [nsD CN CP CS sp zs, d] ∧ zs.length ≤ 12 ∧ (zs.map Pc.nm).Nodup ∧ Goes sp zs ∧ (∀ z ∈ zs, z.g) ∧ 0 ≤ sp ∧
  ((∃ (i : Nat) (z : Pc), zs[i]? = some z ∧ d = .str z.nm ∧ G (ordD (lieI (waysI sp (zs.drop i)))) S) ∨ (NoN K S zs d ∧ Y CX [("found", d)] S))
theorem way_perm {sp : Int} : ∀ {zs : List Pc}, Goes sp zs → (∀ z ∈ zs, z.g) → 0 ≤ sp → ∀ o ∈ waysI sp zs, o ∈ perms
  | [], _, _, _, o, ho => by cases ho
  | [_], _, _, _, o, ho => by cases ho
  | p :: q :: r, hg, gz, s0, o, ho => by
    rcases List.mem_cons.mp ho with e | ho
    · rw [e]
      exact (way_go (gz p (List.mem_cons_self ..)) s0 hg.1).2.1
    · exact way_perm hg.2 (fun z hz => gz z (List.mem_cons_of_mem _ hz)) s0 o ho
theorem cut_drD (xs : List D) {t : Nat} (h : t ≤ xs.length) : VS.cutD xs (some (t : Int)) none = xs.drop t := by
  show (xs.drop (HT.sIx xs.length 0 (some (t : Int)))).take (xs.length - HT.sIx xs.length 0 (some (t : Int))) = _
  rw [HT.sIx_nat, Nat.min_eq_left h]
  exact List.take_of_length_le (by rw [List.length_drop]; omega)
theorem ways_drop {sp : Int} : ∀ (zs : List Pc) (i : Nat), (waysI sp zs).drop i = waysI sp (zs.drop i)
  | [], i => by rw [List.drop_nil]; exact List.drop_nil
  | [x], 0 => rfl
  | [x], i + 1 => by
    show ([] : List (List Int)).drop (i + 1) = waysI sp (([] : List Pc).drop i)
    rw [List.drop_nil, List.drop_nil]
    rfl
  | x :: y :: r, 0 => rfl
  | x :: y :: r, i + 1 => ways_drop (y :: r) i
/-- an order's numbers, asked of another one -/
def trF (t : List Int) : D → D
  | .int n => .int (t.getD n.toNat 0)
  | d => d
theorem ord_at {t : List Int} (ht : t ∈ perms) {n : Int} (n0 : 0 ≤ n) (n2 : n ≤ 2) : atI (t.map D.int) n = some (.int (t.getD n.toNat 0)) := by
  have h : ∀ t ∈ perms, ∃ x y z : Int, t = [x, y, z] := by
    intro t ht
    simp only [perms, List.mem_cons, List.not_mem_nil, or_false] at ht
    rcases ht with rfl | rfl | rfl | rfl | rfl | rfl <;> exact ⟨_, _, _, rfl⟩
  obtain ⟨x, y, z, rfl⟩ := h t ht
  have : n = 0 ∨ n = 1 ∨ n = 2 := by omega
  rcases this with rfl | rfl | rfl <;> rfl
theorem perm_in {t : List Int} (ht : t ∈ perms) : ∀ n ∈ t, 0 ≤ n ∧ n ≤ 2 := by
  have h : ∀ t ∈ perms, ∀ n ∈ t, (0 : Int) ≤ n ∧ n ≤ 2 := by decide
  exact h t ht
theorem comp_in : ∀ t ∈ perms, ∀ o ∈ perms, (o.map fun n => t.getD n.toNat 0) ∈ perms := by decide
theorem lieI_perm : ∀ {ws : List (List Int)}, (∀ t ∈ ws, t ∈ perms) → lieI ws ∈ perms
  | [], _ => by show ([0, 1, 2] : List Int) ∈ perms; decide
  | t :: ws, h => comp_in t (h t (List.mem_cons_self ..)) _ (lieI_perm fun x hx => h x (List.mem_cons_of_mem _ hx))
theorem ways_at {sp : Int} : ∀ {zs : List Pc} {i : Nat} {p q : Pc}, Goes sp zs → zs[i]? = some p → zs[i + 1]? = some q → goB sp p q = true ∧ (waysI sp zs)[i]? = some (wayI sp p q)
  | [], i, p, q, _, h, _ => by simp at h
  | [x], i, p, q, _, _, h => by simp at h
  | x :: y :: r, 0, p, q, hg, h1, h2 => by
    cases h1
    cases h2
    exact ⟨hg.1, rfl⟩
  | x :: y :: r, i + 1, p, q, hg, h1, h2 => ways_at (zs := y :: r) hg.2 h1 h2
theorem ways_len {sp : Int} : ∀ zs : List Pc, (waysI sp zs).length = zs.length - 1
  | [] => rfl
  | [_] => rfl
  | x :: y :: r => by
    show (waysI sp (y :: r)).length + 1 = _
    rw [ways_len (y :: r)]
    simp
theorem ch_goes {sp : Int} {ps : List Pc} (hps : Hps ps) : ∀ {zs : List Pc}, (∀ z ∈ zs, z ∈ ps) → Goes sp zs → chB (Eof sp ps) (zs.map Pc.nm) = true
  | [], _, _ => rfl
  | [_], _, _ => rfl
  | x :: y :: r, hm, hg => by
    show (decide (y.nm ∈ Eof sp ps x.nm) && chB (Eof sp ps) ((y :: r).map Pc.nm)) = true
    rw [Eof_go hps (hm x (by simp)) (hm y (by simp)), hg.1, ch_goes hps (zs := y :: r) (fun z hz => hm z (List.mem_cons_of_mem _ hz)) hg.2]
    rfl
section
variable {P : Program} {w : World} {K : PySem.W.Frag} {mg : Str → Option Value} {base : Heap}
theorem ok_Nest_names {f : Addr} {fd : FuncData} {C_Sides C_Parcel C_Heap C_Nest C_NoNumber C_NoSide C_NoSides C_NoOrder C_NoParcel C_NotInHeap C_NoNest C_Unnested : Addr} {f_Parcel_name : Addr} {g_Parcel_name : FuncData}
    (F : Fd K "names" "Nest.names" s_Nest_names [] f fd) (T : Tx K mg) (hsys : SysOk base)
    (c_Parcel_name : Mf P w K mg base 1 C_Parcel "name" "Parcel.name" s_Parcel_name [] a_Parcel_name (p_Pc_name C_Parcel C_Sides) f_Parcel_name g_Parcel_name)
    (k_Nest : Kl_Nest K mg C_Nest)
    (k_Heap : Kl_Heap K mg C_Heap)
    (k_Parcel : Kl_Parcel K mg C_Parcel)
    (k_Sides : Kl_Sides K mg C_Sides) :
    FnG P w K mg base (L2.CX P w) 2 f fd a_Nest_names (spOf K (p_Ns_names C_Nest C_Parcel C_Sides)) := by
  refine VS.unbox ?_
  simp (disch := with_unfolding_all
    have kc_Nest := k_Nest.ins.cl
    have ka_Nest_layers := k_Nest.a_layers
    have ka_Nest_ways := k_Nest.a_ways
    have kc_Heap := k_Heap.ins.cl
    have ka_Heap_held := k_Heap.a_held
    have ka_Heap_told := k_Heap.a_told
    have ka_Heap_kind := k_Heap.a_kind
    have kc_Parcel := k_Parcel.ins.cl
    have ka_Parcel_called := k_Parcel.a_called
    have ka_Parcel_outside := k_Parcel.a_outside
    have ka_Parcel_thick := k_Parcel.a_thick
    have ka_Parcel_heavy := k_Parcel.a_heavy
    have ka_Parcel_strong := k_Parcel.a_strong
    have ka_Parcel_marks := k_Parcel.a_marks
    have ka_Parcel_told := k_Parcel.a_told
    have ka_Parcel_names := k_Parcel.a_names
    have kc_Sides := k_Sides.ins.cl
    have ka_Sides_three := k_Sides.a_three
    refine fn_val F sc_Nest_names (fun ds S G Y h => ?_) (fun cdv A hgd outer s H E hr px tk po ds S G Y h => ?_)
    · obtain ⟨zs, sp, rfl, _⟩ := h
      rfl
    · obtain ⟨zs, sp, rfl, z12, q⟩ := h
      refine ⟨_, (pss_one (ps_ret (pe_lc (own := [("parcel", 1)]) rfl sc_Nest_names.nd (pi_list (pe_fld (pv 0) rfl)) (blkOk_by (own := [("parcel", 1)]) (N := n_Nest_names) (sc := defScope s_Nest_names) (by decide +kernel)) (fun _ _ _ _ _ => (pg_name (i := 1) sc_Nest_names.nd rfl (Or.inl rfl))) (fun _ _ _ _ _ => pts_nil) (fun _ _ _ _ _ => (pe_mG0 (pv 1) c_Parcel_name.cl c_Parcel_name.me c_Parcel_name.fn hgd (hr.mono (by decide)) c_Parcel_name.b .nil VS.pass0))))), ?_⟩
      (try dsimp only [cxOf, List.map])
      show VX _ _ [_, _] _ _
      unfold nsD
      walk_at "gr"
      refine ve_lc (vi_list ?_)
      walk_at "gr"
      refine ⟨_, .v, by rw [List.length_map]; omega, fun i acc S2 => acc = ((zs.take i).map Pc.nm).map D.str ∧ S2 = S, ⟨rfl, rfl⟩, ?_, ?_⟩
      · rintro i dz acc S2 hd ⟨rfl, rfl⟩ _
        rw [List.getElem?_map] at hd
        cases e : zs[i]? with
        | none => rw [e] at hd; cases hd
        | some r =>
          rw [e] at hd
          cases hd
          have tk : zs.take (i + 1) = zs.take i ++ [r] := by rw [List.take_succ, e]; rfl
          walk_at "gr"
          refine ⟨r.nm, r.a, r.b, r.c, r.wl, r.wt, r.br, r.mk, rfl, ?_⟩
          refine ⟨?_, rfl⟩
          rw [tk, List.map_append, List.map_append]
          rfl
      rintro acc S2 ⟨rfl, rfl⟩ _
      rw [List.length_map, List.take_length]
      exact q) only [↓VS.box]
theorem ok_Nest_turns {f : Addr} {fd : FuncData} {C_Sides C_Parcel C_Heap C_Nest C_NoNumber C_NoSide C_NoSides C_NoOrder C_NoParcel C_NotInHeap C_NoNest C_Unnested : Addr}
    (F : Fd K "turns" "Nest.turns" s_Nest_turns [] f fd) (T : Tx K mg) (hsys : SysOk base)
    (k_Nest : Kl_Nest K mg C_Nest)
    (k_Heap : Kl_Heap K mg C_Heap)
    (k_Parcel : Kl_Parcel K mg C_Parcel)
    (k_Sides : Kl_Sides K mg C_Sides) :
    FnG P w K mg base (L2.CX P w) 1 f fd a_Nest_turns (spOf K (p_Ns_turns C_Nest C_Parcel C_Sides)) := by
  refine VS.unbox ?_
  simp (disch := with_unfolding_all
    have kc_Nest := k_Nest.ins.cl
    have ka_Nest_layers := k_Nest.a_layers
    have ka_Nest_ways := k_Nest.a_ways
    have kc_Heap := k_Heap.ins.cl
    have ka_Heap_held := k_Heap.a_held
    have ka_Heap_told := k_Heap.a_told
    have ka_Heap_kind := k_Heap.a_kind
    have kc_Parcel := k_Parcel.ins.cl
    have ka_Parcel_called := k_Parcel.a_called
    have ka_Parcel_outside := k_Parcel.a_outside
    have ka_Parcel_thick := k_Parcel.a_thick
    have ka_Parcel_heavy := k_Parcel.a_heavy
    have ka_Parcel_strong := k_Parcel.a_strong
    have ka_Parcel_marks := k_Parcel.a_marks
    have ka_Parcel_told := k_Parcel.a_told
    have ka_Parcel_names := k_Parcel.a_names
    have kc_Sides := k_Sides.ins.cl
    have ka_Sides_three := k_Sides.a_three
    refine fn_val F sc_Nest_turns (fun ds S G Y h => ?_) (fun cdv A hgd outer s H E hr px tk po ds S G Y h => ?_)
    · obtain ⟨zs, sp, rfl, _⟩ := h
      rfl
    · obtain ⟨zs, sp, rfl, q⟩ := h
      refine ⟨_, (pss_one (ps_ret (pe_callTy c_list (by rfl) T.b_list (by decide +kernel) (pa_cons (pe_fld (pv 0) rfl) pa_nil)))), ?_⟩
      (try dsimp only [cxOf, List.map])
      show VX _ _ [_] _ _
      unfold nsD
      walk_at "ga"
      exact q) only [↓VS.box]
theorem ok_Nest_lies {f : Addr} {fd : FuncData} {C_Sides C_Parcel C_Heap C_Nest C_NoNumber C_NoSide C_NoSides C_NoOrder C_NoParcel C_NotInHeap C_NoNest C_Unnested : Addr} {f_Nest_names : Addr} {g_Nest_names : FuncData}
    (F : Fd K "lies" "Nest.lies" s_Nest_lies [] f fd) (T : Tx K mg) (hsys : SysOk base)
    (c_Nest_names : Mf P w K mg base 2 C_Nest "names" "Nest.names" s_Nest_names [] a_Nest_names (p_Ns_names C_Nest C_Parcel C_Sides) f_Nest_names g_Nest_names)
    (x_NotInHeap : Xc P w K mg base "NotInHeap" C_NotInHeap "found")
    (k_Nest : Kl_Nest K mg C_Nest)
    (k_Heap : Kl_Heap K mg C_Heap)
    (k_Parcel : Kl_Parcel K mg C_Parcel)
    (k_Sides : Kl_Sides K mg C_Sides) :
    FnG P w K mg base (L2.CX P w) 3 f fd a_Nest_lies (spOf K (p_Ns_lies K C_Nest C_Parcel C_Sides C_NotInHeap)) := by
  refine VS.unbox ?_
  simp (disch := with_unfolding_all
    have kc_Nest := k_Nest.ins.cl
    have ka_Nest_layers := k_Nest.a_layers
    have ka_Nest_ways := k_Nest.a_ways
    have kc_Heap := k_Heap.ins.cl
    have ka_Heap_held := k_Heap.a_held
    have ka_Heap_told := k_Heap.a_told
    have ka_Heap_kind := k_Heap.a_kind
    have kc_Parcel := k_Parcel.ins.cl
    have ka_Parcel_called := k_Parcel.a_called
    have ka_Parcel_outside := k_Parcel.a_outside
    have ka_Parcel_thick := k_Parcel.a_thick
    have ka_Parcel_heavy := k_Parcel.a_heavy
    have ka_Parcel_strong := k_Parcel.a_strong
    have ka_Parcel_marks := k_Parcel.a_marks
    have ka_Parcel_told := k_Parcel.a_told
    have ka_Parcel_names := k_Parcel.a_names
    have kc_Sides := k_Sides.ins.cl
    have ka_Sides_three := k_Sides.a_three
    refine fn_val F sc_Nest_lies (fun ds S G Y h => ?_) (fun cdv A hgd outer s H E hr px tk po ds S G Y h => ?_)
    · obtain ⟨zs, sp, d, rfl, _⟩ := h
      rfl
    · obtain ⟨zs, sp, d, rfl, z12, nd, hg, gz, s0, q⟩ := h
      refine ⟨_, (pss_cons (ps_set (i := 2) sc_Nest_lies.nd rfl (Or.inl rfl) (pe_mG0 (pv 0) c_Nest_names.cl c_Nest_names.me c_Nest_names.fn hgd (hr.mono (by decide)) c_Nest_names.b .nil VS.pass0))
        (pss_cons (ps_if (PW.pt (pw_or (pt_not (pt_val (pe_callB c_isiZ (by rfl) T.b_isinstance (by decide +kernel) (pa_cons (pv 1) (pa_cons (pe_bltn (v := .ty "str") (by rfl) T.b_str (by decide +kernel) rfl) pa_nil))))) (pw_or1 (pt_cmpR op_notIn_seq (pv 1) (pv 2) (by rfl))))) (pss_one (ps_rz tk x_NotInHeap (hr.mono (by decide)) (by rfl) (pv 1)))
        pss_nil)
        (pss_cons (ps_set (i := 3) sc_Nest_lies.nd rfl (Or.inl rfl) (pe_tup (pa_cons pe_int (pa_cons pe_int (pa_cons pe_int pa_nil)))))
        (pss_cons (ps_for po rfl (pi_reversed (by rfl) T.b_reversed (pa_cons (pe_slice sl_list (pe_fld (pv 0) rfl) (po_some (pe_bm PySem.F.plainAttrs_list PySem.F.slot_list_index PySem.F.type_list_index mt_index (pv 2) (pa_cons (pv 1) pa_nil))) po_none) pa_nil)) (pg_name (i := 4) sc_Nest_lies.nd rfl (Or.inr rfl))
        (pss_one (ps_set (i := 3) sc_Nest_lies.nd rfl (Or.inl rfl) (pe_callTy c_tuple (by rfl) T.b_tuple (by decide +kernel) (pa_cons (pe_lc (own := [("number", 5)]) rfl sc_Nest_lies.nd (pi_tup (pv 3)) (blkOk_by (own := [("number", 5)]) (N := n_Nest_lies) (sc := defScope s_Nest_lies) (by decide +kernel)) (fun _ _ _ _ _ => (pg_name (i := 5) sc_Nest_lies.nd rfl (Or.inl rfl))) (fun _ _ _ _ _ => pts_nil) (fun _ _ _ _ _ => (pe_ix (kI (K := K) (r := rIxT) ix_tup) (pv 4) (pv 5) (fun _ _ => rfl)))) pa_nil)))))
        (pss_one (ps_ret (pv 3))))))), ?_⟩
      (try dsimp only [cxOf, List.map])
      show VX _ _ [_, _, _, _, _, _] _ _
      walk_at "gr"
      refine ⟨zs, sp, rfl, z12, ?_⟩
      unfold nmD
      rcases q with ⟨i, z, hz, rfl, q⟩ | ⟨hp, q⟩
      · have zin : z.nm ∈ zs.map Pc.nm := List.mem_map.mpr ⟨z, List.mem_of_getElem? hz, rfl⟩
        have il : i < zs.length := (List.getElem?_eq_some_iff.mp hz).1
        walk_at "gr"
        refine rv_in (.l .v) rfl (flat_strs _) ?_
        rw [inD_strs, decide_eq_true zin]
        walk_at "gr"
        have hz' : (zs.map Pc.nm)[i]? = some z.nm := by rw [List.getElem?_map, hz]; rfl
        refine vx_for (vi_rev ?_)
        unfold nsD
        refine va_cons (ve_sl (ve_fld (ve_var rfl ⟨_, _, _, .v, kc_Nest, ka_Nest_ways, rfl, ?_⟩)))
        refine vo_some (ve_bmV (ve_var rfl ⟨_, .v, va_cons (ve_var rfl (va_nil ?_))⟩))
        refine rm_indexS (j := i) .v nd hz' ?_
        refine ⟨_, rfl, ?_⟩
        refine vo_none ?_
        refine rs_list .v ?_
        rw [cut_drD _ (by rw [List.length_map, ways_len]; omega), ← List.map_drop, ways_drop]
        refine va_nil ?_
        have wp : ∀ t ∈ waysI sp (zs.drop i), t ∈ perms := fun t ht => by
          rw [← ways_drop] at ht
          exact way_perm hg gz s0 t (List.mem_of_mem_drop ht)
        generalize waysI sp (zs.drop i) = ws at q wp
        refine ⟨_, _, rfl, .v, fun j ρ2 S2 => S2 = S ∧ ∃ x4 x5, ρ2 = [some (.ins C_Nest [("layers", .lst (zs.map (Pc.d C_Parcel C_Sides))), ("ways", .lst ((waysI sp zs).map ordD))]), some (.str z.nm), some (.lst ((zs.map Pc.nm).map D.str)), some (ordD (lieI (ws.drop (ws.length - j)))), x4, x5], ⟨rfl, none, none, by rw [Nat.sub_zero, List.drop_length]; rfl⟩, ?_, ?_⟩
        · rintro j d _ S2 hd ⟨rfl, x4, x5, rfl⟩
          have jl : j < ws.length := by
            have := (List.getElem?_eq_some_iff.mp hd).1
            rw [List.length_reverse, List.length_map] at this
            exact this
          rw [List.getElem?_reverse (by rw [List.length_map]; exact jl), List.length_map, List.getElem?_map] at hd
          have kl : ws.length - 1 - j < ws.length := by omega
          have dr : ws.drop (ws.length - (j + 1)) = ws[ws.length - 1 - j] :: ws.drop (ws.length - j) := by
            rw [show ws.length - (j + 1) = ws.length - 1 - j by omega, List.drop_eq_getElem_cons kl, show ws.length - 1 - j + 1 = ws.length - j by omega]
          rw [List.getElem?_eq_getElem kl] at hd
          cases hd
          have tp := wp _ (List.getElem_mem kl)
          generalize ws[ws.length - 1 - j] = t at dr tp
          have op : lieI (ws.drop (ws.length - j)) ∈ perms := lieI_perm fun x hx => wp x (List.mem_of_mem_drop hx)
          have el : lieI (ws.drop (ws.length - (j + 1))) = (lieI (ws.drop (ws.length - j))).map fun n => t.getD n.toNat 0 := by rw [dr]; rfl
          generalize lieI (ws.drop (ws.length - j)) = o at op el ⊢
          have ol : o.length ≤ 3 := by
            have h : ∀ o ∈ perms, o.length ≤ 3 := by decide
            exact h o op
          unfold ordD
          walk_at "gr"
          refine ve_lcM (trF t) (vi_tup ?_)
          walk_at "gr"
          refine ⟨_, rfl, by rw [List.length_map]; omega, fun d hd => ?_, ?_⟩
          · obtain ⟨n, hn, rfl⟩ := List.mem_map.mp hd
            obtain ⟨n0, n2⟩ := perm_in op n hn
            walk_at "gr"
            refine ⟨rfl, ?_⟩
            walk_at "gr"
            exact rv_ixT (ord_at tp n0 n2) ⟨rfl, rfl⟩
          walk_at "gr"
          refine ⟨rfl, some (.tup (t.map D.int)), x5, ?_⟩
          have em : (o.map D.int).map (trF t) = (o.map fun n => t.getD n.toNat 0).map D.int := by
            rw [List.map_map, List.map_map]
            rfl
          rw [el, em]
          rfl
        · rintro _ S2 ⟨rfl, x4, x5, rfl⟩
          walk_at "gr"
          rw [List.length_reverse, List.length_map, Nat.sub_self, List.drop_zero]
          exact q
      · walk_at "gr"
        cases hp with
        | @s x hne =>
          refine rc_isi (N := "str") (b := true) (.str x) (by decide +kernel) ?_
          walk_at "gr"
          refine rv_in (.l .v) rfl (flat_strs _) ?_
          rw [inD_strs, decide_eq_false hne]
          walk_at "gr"
          exact q
        | @d y d' h k =>
          refine rc_isiD h (isK_str h.p) ?_
          rw [k]
          walk_at "gr"
          exact q
        | o i c k =>
          refine rc_isiP (.i i c) k ?_
          walk_at "gr"
          exact q) only [↓VS.box]
end
end LW
namespace LW
open PySem L2 C8 PySem.Spec PyProof.Rows VS
/-! ### nests, made of texts that are names of the heap, with their refusals -/
/-- names by value: a list or a tuple -/
inductive Nq : D → List Str → Prop
  | l {zs : List Str} : Nq (nmD zs) zs
  | t {zs : List Str} : Nq (.tup (zs.map D.str)) zs
theorem Nq.q {S : Sto} {d : D} {zs : List Str} (h : Nq d zs) : IsQ S d (zs.map D.str) := by
  cases h with
  | l => exact .l .v
  | t => exact .t
theorem Nq.s {d : D} {zs : List Str} (h : Nq d zs) : IsS d (zs.map D.str) := by
  cases h with
  | l => exact isS_of rfl
  | t => exact isS_of rfl
theorem Nq.p {d : D} {zs : List Str} (h : Nq d zs) : isP d = true := by
  cases h with
  | l => exact isP_strs zs
  | t => exact isP_strs zs
theorem Nq.lt {d : D} {zs : List Str} (h : Nq d zs) : isLT d = true := by cases h <;> rfl
theorem unl_full91 {xs : List Str} : ∀ i, i ≤ xs.length → unl xs i = i → (xs.take i).Nodup
  | 0, _, _ => .nil
  | i + 1, hi, h => by
    unfold unl at h
    have le := unl_le (xs := xs) i
    have e : xs[i]? = some xs[i] := List.getElem?_eq_getElem (by omega)
    cases ha : (xs.take i).any (· == xs.getD i Str.empty) with
    | true => rw [ha, cond_true] at h; omega
    | false =>
      rw [ha, cond_false] at h
      have ih := unl_full91 (xs := xs) i (by omega) (by omega)
      rw [List.take_succ, e, List.nodup_append]
      refine ⟨ih, by simp, fun a h1 b h2 z => ?_⟩
      have h2 : b = xs[i] := by simpa using h2
      have : (xs.take i).any (· == xs.getD i Str.empty) = true := List.any_eq_true.mpr ⟨a, h1, by rw [VS.getD_at (show i < xs.length by omega), z, h2]; exact beq_self_eq_true _⟩
      rw [ha] at this
      cases this
theorem unl_lt {zs : List Str} (h : ¬ zs.Nodup) : unl zs zs.length < zs.length := by
  have le := unl_le (xs := zs) zs.length
  by_cases e : unl zs zs.length = zs.length
  · have := unl_full91 zs.length (Nat.le_refl _) e
    rw [List.take_length] at this
    exact absurd this h
  · omega
theorem atI_last91 (xs : List D) (x : D) : atI (xs ++ [x]) (-1) = some x := by
  unfold atI
  rw [show ixN (xs ++ [x]).length (-1) = some xs.length from ?_]
  · show (xs ++ [x])[xs.length]? = some x
    rw [List.getElem?_append_right (Nat.le_refl _), Nat.sub_self]
    rfl
  · unfold ixN
    simp
    constructor <;> omega
theorem join_room {zs : List Pc} (g : ∀ z ∈ zs, z.g) (h : zs.length ≤ 12) : ((zs.map Pc.nm).map (·.length)).sum + (zs.map Pc.nm).length * (" in " : Str).length ≤ 16777216 := by
  have := sum_le (n := 8) (ys := zs.map Pc.nm) fun y hy => by
    obtain ⟨z, hz, rfl⟩ := List.mem_map.mp hy
    exact (g z hz).ln
  rw [List.length_map] at this ⊢
  rw [show (" in " : Str).length = 4 from by decide]
  omega
def p_are_names91 (CH CP CS : Addr) : Pt := fun ds S G _ => ∃ (h l : Addr) (ps : List Pc) (d : D) (zs : List Str), ds = [.ref h, d, .int 1] ∧ Nq d zs ∧ HpS S CH CP CS h l ps ∧ ps.length ≤ 12 ∧ zs.length ≤ 1000 ∧ zs ≠ [] ∧ (∀ z ∈ zs, z ∈ ps.map Pc.nm) ∧ G (.bl (decide zs.Nodup)) S
def p_apart91 (CH CP CS : Addr) : Pt := fun ds S G _ => ∃ (h l : Addr) (ps : List Pc) (d : D) (zs : List Str) (sp : Int), ds = [.ref h, d, .int sp] ∧ Nq d zs ∧ HpS S CH CP CS h l ps ∧ Hps ps ∧ (∀ z ∈ zs, z ∈ ps.map Pc.nm) ∧ zs.length ≤ 1000 ∧ 0 ≤ sp ∧ sp ≤ 1000 ∧
  ((chB (Eof sp ps) zs = true ∧ G .non S) ∨ ∃ a b r, zs = a :: b :: r ∧ b ∉ Eof sp ps a ∧ G (.int 0) S)
def p_Ns_init91 (CN CH CP CS CX CU : Addr) : Pt := fun ds S G Y => ∃ (y h l : Addr) (ps : List Pc) (d : D) (zs : List Str) (sp : Int), ds = [.ref y, .ref h, d, .int sp] ∧ Nq d zs ∧ S y = some (.ins CN []) ∧ HpS S CH CP CS h l ps ∧ Hps ps ∧ (∀ z ∈ zs, z ∈ ps.map Pc.nm) ∧ zs.length ≤ 1000 ∧ zs ≠ [] ∧ 0 ≤ sp ∧ sp ≤ 1000 ∧ y ≠ h ∧ y ≠ l ∧
  ((¬ zs.Nodup ∧ Y CX [("found", d)] S) ∨ (zs.Nodup ∧ ∃ a b r, zs = a :: b :: r ∧ b ∉ Eof sp ps a ∧ Y CU [("other", .str b), ("one", .str a)] S) ∨
   ∃ qs : List Pc, zs = qs.map Pc.nm ∧ zs.Nodup ∧ (∀ z ∈ qs, z ∈ ps) ∧ Goes sp qs ∧ G .non (put S y (nsD CN CP CS sp qs)))
def p_Ns_outer (CN CP CS : Addr) : Pt := fun ds S G _ => ∃ (zs : List Pc) (z : Pc) (sp : Int), ds = [nsD CN CP CS sp (zs ++ [z])] ∧ G (z.d CP CS) S
def p_Ns_weight (CN CP CS : Addr) : Pt := fun ds S G _ => ∃ (zs : List Pc) (sp : Int), ds = [nsD CN CP CS sp zs] ∧ zs.length ≤ 1000 ∧ G (.int (zs.map Pc.wt).sum) S
def p_Ns_len (CN CP CS : Addr) : Pt := fun ds S G _ => ∃ (zs : List Pc) (sp : Int), ds = [nsD CN CP CS sp zs] ∧ zs.length ≤ 1000 ∧ G (.int (zs.length : Nat)) S
def p_Ns_str (CN CP CS : Addr) : Pt := fun ds S G _ => ∃ (zs : List Pc) (sp : Int), ds = [nsD CN CP CS sp zs] ∧ zs.length ≤ 12 ∧ (∀ z ∈ zs, z.g) ∧ G (.str (Txt.join (" in " : Str) (zs.map Pc.nm))) S
section
variable {P : Program} {w : World} {K : PySem.W.Frag} {mg : Str → Option Value} {base : Heap}
theorem ok_are_names {f : Addr} {fd : FuncData} {C_Sides C_Parcel C_Heap C_Nest C_NoNumber C_NoSide C_NoSides C_NoOrder C_NoParcel C_NotInHeap C_NoNest C_Unnested : Addr} {f_Heap_names : Addr} {g_Heap_names : FuncData}
    (F : Fd K "are_names" "are_names" s_are_names [] f fd) (T : Tx K mg) (hsys : SysOk base)
    (c_Heap_names : Mf P w K mg base 2 C_Heap "names" "Heap.names" s_Heap_names [] a_Heap_names (p_Hp_names C_Heap C_Parcel C_Sides) f_Heap_names g_Heap_names)
    (k_Heap : Kl_Heap K mg C_Heap)
    (k_Parcel : Kl_Parcel K mg C_Parcel)
    (k_Sides : Kl_Sides K mg C_Sides) :
    FnG P w K mg base (L2.CX P w) 3 f fd a_are_names (spOf K (p_are_names91 C_Heap C_Parcel C_Sides)) := by
  refine VS.unbox ?_
  simp (disch := with_unfolding_all
    have kc_Heap := k_Heap.ins.cl
    have ka_Heap_held := k_Heap.a_held
    have ka_Heap_told := k_Heap.a_told
    have ka_Heap_kind := k_Heap.a_kind
    have kc_Parcel := k_Parcel.ins.cl
    have ka_Parcel_called := k_Parcel.a_called
    have ka_Parcel_outside := k_Parcel.a_outside
    have ka_Parcel_thick := k_Parcel.a_thick
    have ka_Parcel_heavy := k_Parcel.a_heavy
    have ka_Parcel_strong := k_Parcel.a_strong
    have ka_Parcel_marks := k_Parcel.a_marks
    have ka_Parcel_told := k_Parcel.a_told
    have ka_Parcel_names := k_Parcel.a_names
    have kc_Sides := k_Sides.ins.cl
    have ka_Sides_three := k_Sides.a_three
    refine fn_val F sc_are_names (fun ds S G Y h => ?_) (fun cdv A hgd outer s H E hr px tk po ds S G Y h => ?_)
    · obtain ⟨h, l, ps, d, zs, rfl, _⟩ := h
      rfl
    · obtain ⟨h, l, ps, d, zs, rfl, hz, hs, hl, zl, zne, hin, q⟩ := h
      refine ⟨_, (pss_cons (ps_if (PW.pt (pw_or (pt_not (pt_val (pe_callB c_isiV (by rfl) T.b_isinstance (by decide +kernel) (pa_cons (pv 1) (pa_cons (pe_tup (pa_cons (pe_bltn (v := .ty "list") (by rfl) T.b_list (by decide +kernel) rfl) (pa_cons (pe_bltn (v := .ty "tuple") (by rfl) T.b_tuple (by decide +kernel) rfl) pa_nil))) pa_nil))))) (pw_or1 (pt_cmpR op_lt (pe_callB c_len (by rfl) T.b_len (by decide +kernel) (pa_cons (pv 1) pa_nil)) (pv 2) (nomark _))))) (pss_one (ps_ret pe_bl))
        pss_nil)
        (pss_cons (ps_if (pt_not (pt_val (pe_callB (cr_all rfl) (by rfl) T.b_all (by decide +kernel) (pa_cons (pe_lc (own := [("name", 4)]) rfl sc_are_names.nd (pi_seq (pv 1)) (blkOk_by (own := [("name", 4)]) (N := n_are_names) (sc := defScope s_are_names) (by decide +kernel)) (fun _ _ _ _ _ => (pg_name (i := 4) sc_are_names.nd rfl (Or.inl rfl))) (fun _ _ _ _ _ => pts_nil) (fun _ _ _ _ _ => (pe_callB (kC (K := K) (r := rIsiZ) c_isiZ) (by rfl) T.b_isinstance (by decide +kernel) (pa_cons (pv 4) (pa_cons (pe_bltn (v := .ty "str") (by rfl) T.b_str (by decide +kernel) rfl) pa_nil))))) pa_nil)))) (pss_one (ps_ret pe_bl))
        pss_nil)
        (pss_cons (ps_set (i := 3) sc_are_names.nd rfl (Or.inr rfl) (pe_mG0 (pv 0) c_Heap_names.cl c_Heap_names.me c_Heap_names.fn hgd (hr.mono (by decide)) c_Heap_names.b .nil VS.pass0))
        (pss_one (ps_ret (pe_and (pe_callB (cr_all rfl) (by rfl) T.b_all (by decide +kernel) (pa_cons (pe_lc (own := [("name", 4)]) rfl sc_are_names.nd (pi_seq (pv 1)) (blkOk_by (own := [("name", 4)]) (N := n_are_names) (sc := defScope s_are_names) (by decide +kernel)) (fun _ _ _ _ _ => (pg_name (i := 4) sc_are_names.nd rfl (Or.inl rfl))) (fun _ _ _ _ _ => pts_nil) (fun _ _ _ _ _ => (pe_cmpR (kO (K := K) (r := (fun K => rIn K false)) op_in_seq) (pv 4) (pv 3) (by rfl)))) pa_nil)) (pe_one (pe_cmpR op_eq (pe_lenS (by rfl) T.b_len (by rfl) T.b_set (pv 1)) (pe_callB c_len (by rfl) T.b_len (by decide +kernel) (pa_cons (pv 1) pa_nil)) (nomark _))))))))), ?_⟩
      (try dsimp only [cxOf, List.map])
      show VX _ _ [_, _, _, _, _] _ _
      have c1 := hs.1
      have zpos : 0 < zs.length := List.length_pos_iff.mpr zne
      have lm : (zs.map D.str).length = zs.length := List.length_map ..
      walk_at "gr"
      refine rc_isiLT (.v hz.p) ?_
      rw [hz.lt]
      walk_at "gr"
      refine rc_lenQ hz.q ?_
      walk_at "gr"
      refine VS.br (fun e => by rw [lm] at e; omega) (fun _ => ?_)
      walk_at "gr"
      refine ve_lcM (fun _ => .bl true) (vi_seq ?_)
      walk_at "gr"
      refine ⟨_, hz.s, by omega, fun x hx => ?_, ?_⟩
      · obtain ⟨z, hz', rfl⟩ := List.mem_map.mp hx
        walk_at "gr"
        refine ⟨rfl, ?_⟩
        walk_at "gr"
        exact ⟨rfl, rfl⟩
      walk_at "gr"
      refine rc_all (bs := zs.map fun _ => true) (by rw [List.map_map, List.map_map]; exact .v) ?_
      rw [show (zs.map fun _ => true).all id = true from List.all_eq_true.mpr fun x hx => by obtain ⟨_, _, rfl⟩ := List.mem_map.mp hx; rfl]
      walk_at "gr"
      refine ⟨h, l, ps, rfl, hs, hl, ?_⟩
      walk_at "gr"
      refine ve_lcM (fun d => .bl (inD d ((ps.map Pc.nm).map D.str))) (vi_seq ?_)
      walk_at "gr"
      refine ⟨_, hz.s, by omega, fun x hx => ?_, ?_⟩
      · obtain ⟨z, hz', rfl⟩ := List.mem_map.mp hx
        walk_at "gr"
        refine ⟨rfl, ?_⟩
        walk_at "gr"
        refine rv_in (.l .v) rfl (flat_strs _) ?_
        exact ⟨rfl, rfl⟩
      walk_at "gr"
      refine rc_all (bs := zs.map fun z => decide (z ∈ ps.map Pc.nm)) ?_ ?_
      · rw [inD_map]
        exact .v
      rw [List.all_map, show zs.all (id ∘ fun z => decide (z ∈ ps.map Pc.nm)) = true from List.all_eq_true.mpr fun z h => decide_eq_true (hin z h)]
      walk_at "gr"
      refine ve_lenS ?_
      walk_at "gr"
      refine ⟨zs, hz.q, zl, ?_⟩
      walk_at "gr"
      refine rc_lenQ hz.q ?_
      walk_at "gr"
      rw [lm, show decide ((unl zs zs.length : Int) = (zs.length : Nat)) = decide zs.Nodup from ?_]
      · exact q
      · by_cases nd : zs.Nodup
        · rw [decide_eq_true nd, decide_eq_true (by rw [unl_nodup nd _ (Nat.le_refl _)])]
        · have := unl_lt nd
          rw [decide_eq_false nd, decide_eq_false (by omega)]) only [↓VS.box]
theorem ok_first_apart {f : Addr} {fd : FuncData} {C_Sides C_Parcel C_Heap C_Nest C_NoNumber C_NoSide C_NoSides C_NoOrder C_NoParcel C_NotInHeap C_NoNest C_Unnested : Addr} {f_goes f_Heap_parcel : Addr} {g_goes g_Heap_parcel : FuncData}
    (F : Fd K "first_apart" "first_apart" s_first_apart [] f fd) (T : Tx K mg) (hsys : SysOk base)
    (c_goes : Cf P w K mg base (L2.CX P w) 9 "goes" s_goes [] a_goes (p_goes31 C_Parcel C_Sides) f_goes g_goes)
    (c_Heap_parcel : Mf P w K mg base 3 C_Heap "parcel" "Heap.parcel" s_Heap_parcel [] a_Heap_parcel (p_Hp_parcel C_Heap C_Parcel C_Sides) f_Heap_parcel g_Heap_parcel)
    (k_Heap : Kl_Heap K mg C_Heap)
    (k_Parcel : Kl_Parcel K mg C_Parcel)
    (k_Sides : Kl_Sides K mg C_Sides) :
    FnG P w K mg base (L2.CX P w) 10 f fd a_first_apart (spOf K (p_apart91 C_Heap C_Parcel C_Sides)) := by
  refine VS.unbox ?_
  simp (disch := with_unfolding_all
    have kc_Heap := k_Heap.ins.cl
    have ka_Heap_held := k_Heap.a_held
    have ka_Heap_told := k_Heap.a_told
    have ka_Heap_kind := k_Heap.a_kind
    have kc_Parcel := k_Parcel.ins.cl
    have ka_Parcel_called := k_Parcel.a_called
    have ka_Parcel_outside := k_Parcel.a_outside
    have ka_Parcel_thick := k_Parcel.a_thick
    have ka_Parcel_heavy := k_Parcel.a_heavy
    have ka_Parcel_strong := k_Parcel.a_strong
    have ka_Parcel_marks := k_Parcel.a_marks
    have ka_Parcel_told := k_Parcel.a_told
    have ka_Parcel_names := k_Parcel.a_names
    have kc_Sides := k_Sides.ins.cl
    have ka_Sides_three := k_Sides.a_three
    refine fn_val F sc_first_apart (fun ds S G Y h => ?_) (fun cdv A hgd outer s H E hr px tk po ds S G Y h => ?_)
    · obtain ⟨h, l, ps, d, zs, sp, rfl, _⟩ := h
      rfl
    · obtain ⟨h, l, ps, d, zs, sp, rfl, hz, hs, hps, hin, zl, s0, s1, q⟩ := h
      refine ⟨_, (pss_cons (ps_for po rfl (pi_range1 (by rfl) T.b_range (pa_cons (pe_op op_sub (pe_callB c_len (by rfl) T.b_len (by decide +kernel) (pa_cons (pv 1) pa_nil)) pe_int) pa_nil)) (pg_name (i := 3) sc_first_apart.nd rfl (Or.inl rfl))
        (pss_one (ps_if (pt_not (pt_val (pe_cG c_goes.fn hgd (hr.mono (by decide)) (by rfl) c_goes.mg c_goes.kp c_goes.b .nil VS.pass0 (pa_cons (pe_mG (pv 0) c_Heap_parcel.cl c_Heap_parcel.me c_Heap_parcel.fn hgd (hr.mono (by decide)) c_Heap_parcel.b .nil VS.pass0 (pa_cons (pe_ix (ix_or ix_list ix_tup) (pv 1) (pv 3) (fun _ _ => rfl)) pa_nil)) (pa_cons (pe_mG (pv 0) c_Heap_parcel.cl c_Heap_parcel.me c_Heap_parcel.fn hgd (hr.mono (by decide)) c_Heap_parcel.b .nil VS.pass0 (pa_cons (pe_ix (ix_or ix_list ix_tup) (pv 1) (pe_op op_add (pv 3) pe_int) (fun _ _ => rfl)) pa_nil)) (pa_cons (pv 2) pa_nil)))))) (pss_one (ps_ret (pv 3)))
        pss_nil)))
        (pss_one (ps_ret pe_non))), ?_⟩
      (try dsimp only [cxOf, List.map])
      show VX _ _ [_, _, _, _] _ _
      have c1 := hs.1
      have lm : (zs.map D.str).length = zs.length := List.length_map ..
      have n12 := hps.l
      walk_at "gr"
      refine vx_for (vi_rng1 ?_)
      walk_at "gr"
      refine rc_lenQ hz.q ?_
      walk_at "gr"
      refine ⟨_, rfl, by rw [lm]; omega, fun i ρ2 S2 => S2 = S ∧ (∀ (j : Nat) (a b : Str), j < i → zs[j]? = some a → zs[j + 1]? = some b → b ∈ Eof sp ps a) ∧ ∃ x3, ρ2 = [some (.ref h), some d, some (.int sp), x3], ⟨rfl, fun j a b z => by omega, _, rfl⟩, ?_, ?_⟩
      · rintro i d' _ S2 hd ⟨rfl, hw, x3, rfl⟩
        obtain ⟨rfl, hlt⟩ := rngD_at hd
        rw [lm] at hlt
        obtain ⟨a, ha⟩ : ∃ a, zs[i]? = some a := ⟨_, List.getElem?_eq_getElem (by omega)⟩
        obtain ⟨b, hb⟩ : ∃ b, zs[i + 1]? = some b := ⟨_, List.getElem?_eq_getElem (by omega)⟩
        obtain ⟨p, hp, rfl⟩ := List.mem_map.mp (hin a (List.mem_of_getElem? ha))
        obtain ⟨r, hr2, rfl⟩ := List.mem_map.mp (hin b (List.mem_of_getElem? hb))
        obtain ⟨k1, hk1⟩ := List.getElem?_of_mem hp
        obtain ⟨k2, hk2⟩ := List.getElem?_of_mem hr2
        walk_at "gr"
        refine rv_ixSq hz.q (d := .str p.nm) (atI_nat (j := i) (by rw [List.getElem?_map, ha]; rfl)) ?_
        walk_at "gr"
        refine ⟨h, l, ps, k1, p, rfl, hs, n12, Hps.frs hps.n hk1, ?_⟩
        walk_at "gr"
        refine rv_ixSq hz.q (d := .str r.nm) (atI_nat (j := i + 1) (by rw [List.getElem?_map, hb]; rfl)) ?_
        walk_at "gr"
        refine ⟨h, l, ps, k2, r, rfl, hs, n12, Hps.frs hps.n hk2, ?_⟩
        walk_at "gr"
        refine ⟨p, r, sp, rfl, hps.g p hp, hps.g r hr2, s0, s1, ?_⟩
        refine ⟨_, rfl, fun e => ?_, fun e => ?_⟩
        · have nin : r.nm ∉ Eof sp ps p.nm := fun z => by
            rw [← decide_eq_true_eq (p := r.nm ∈ _), Eof_go hps hp hr2] at z
            rw [z] at e
            cases e
          walk_at "gr"
          rcases q with ⟨ec, _⟩ | ⟨a, b, t, ez, hn, q⟩
          · exact absurd (chB_iff.mp ec i _ _ ha hb) nin
          · have i0 : i = 0 := by
              cases i with
              | zero => rfl
              | succ i =>
                subst ez
                exact absurd (hw 0 a b (by omega) rfl rfl) hn
            subst i0
            exact q
        · walk_at "gr"
          refine ⟨rfl, fun j a b hj ea eb => ?_, _, rfl⟩
          by_cases hji : j < i
          · exact hw j a b hji ea eb
          · obtain rfl : j = i := by omega
            rw [ha] at ea
            rw [hb] at eb
            cases ea
            cases eb
            have g : goB sp p r = true := by
              cases g : goB sp p r with
              | true => rfl
              | false => rw [g] at e; cases e
            rw [← Eof_go hps hp hr2] at g
            exact of_decide_eq_true g
      · rintro ρ2 S2 ⟨rfl, hw, x3, rfl⟩
        walk_at "gr"
        rcases q with ⟨_, q⟩ | ⟨a, b, t, ez, hn, q⟩
        · exact q
        · subst ez
          refine absurd (hw 0 a b ?_ rfl rfl) hn
          rw [rngD_len, lm]
          show 0 < (((t.length + 1 + 1 : Nat) : Int) - 1).toNat
          omega) only [↓VS.box]
theorem ok_Nest___init__ {f : Addr} {fd : FuncData} {C_Sides C_Parcel C_Heap C_Nest C_NoNumber C_NoSide C_NoSides C_NoOrder C_NoParcel C_NotInHeap C_NoNest C_Unnested : Addr} {f_need_spare f_are_names f_first_apart f_Heap_parcel f_Parcel_goes_in : Addr} {g_need_spare g_are_names g_first_apart g_Heap_parcel g_Parcel_goes_in : FuncData}
    (F : Fd K "__init__" "Nest.__init__" s_Nest___init__ [.int 0] f fd) (T : Tx K mg) (hsys : SysOk base)
    (c_need_spare : Cf P w K mg base (L2.CX P w) 3 "need_spare" s_need_spare [] a_need_spare (p_need_spare K C_NoNumber) f_need_spare g_need_spare)
    (c_are_names : Cf P w K mg base (L2.CX P w) 3 "are_names" s_are_names [] a_are_names (p_are_names91 C_Heap C_Parcel C_Sides) f_are_names g_are_names)
    (c_first_apart : Cf P w K mg base (L2.CX P w) 10 "first_apart" s_first_apart [] a_first_apart (p_apart91 C_Heap C_Parcel C_Sides) f_first_apart g_first_apart)
    (c_Heap_parcel : Mf P w K mg base 3 C_Heap "parcel" "Heap.parcel" s_Heap_parcel [] a_Heap_parcel (p_Hp_parcel C_Heap C_Parcel C_Sides) f_Heap_parcel g_Heap_parcel)
    (c_Parcel_goes_in : Mf P w K mg base 8 C_Parcel "goes_in" "Parcel.goes_in" s_Parcel_goes_in [.int 0] a_Parcel_goes_in (p_Pc_goes K C_Parcel C_Sides C_NoParcel C_NoNumber) f_Parcel_goes_in g_Parcel_goes_in)
    (x_NoNest : Xc P w K mg base "NoNest" C_NoNest "found")
    (x_Unnested : Xc2 P w K mg base "Unnested" C_Unnested "one" "other")
    (k_Nest : Kl_Nest K mg C_Nest)
    (k_Heap : Kl_Heap K mg C_Heap)
    (k_Parcel : Kl_Parcel K mg C_Parcel)
    (k_Sides : Kl_Sides K mg C_Sides) :
    FnG P w K mg base (L2.CX P w) 11 f fd a_Nest___init__ (spOf K (p_Ns_init91 C_Nest C_Heap C_Parcel C_Sides C_NoNest C_Unnested)) := by
  refine VS.unbox ?_
  simp (disch := with_unfolding_all
    have kc_Nest := k_Nest.ins.cl
    have ka_Nest_layers := k_Nest.a_layers
    have ka_Nest_ways := k_Nest.a_ways
    have kc_Heap := k_Heap.ins.cl
    have ka_Heap_held := k_Heap.a_held
    have ka_Heap_told := k_Heap.a_told
    have ka_Heap_kind := k_Heap.a_kind
    have kc_Parcel := k_Parcel.ins.cl
    have ka_Parcel_called := k_Parcel.a_called
    have ka_Parcel_outside := k_Parcel.a_outside
    have ka_Parcel_thick := k_Parcel.a_thick
    have ka_Parcel_heavy := k_Parcel.a_heavy
    have ka_Parcel_strong := k_Parcel.a_strong
    have ka_Parcel_marks := k_Parcel.a_marks
    have ka_Parcel_told := k_Parcel.a_told
    have ka_Parcel_names := k_Parcel.a_names
    have kc_Sides := k_Sides.ins.cl
    have ka_Sides_three := k_Sides.a_three
    refine fn_val F sc_Nest___init__ (fun ds S G Y h => ?_) (fun cdv A hgd outer s H E hr px tk po ds S G Y h => ?_)
    · obtain ⟨y, h, l, ps, d, zs, sp, rfl, _⟩ := h
      rfl
    · obtain ⟨y, h, l, ps, d, zs, sp, rfl, hz, hy, hs, hps, hin, zl, zne, s0, s1, nyh, nyl, q⟩ := h
      refine ⟨_, (pss_cons (ps_expr (pe_cG c_need_spare.fn hgd (hr.mono (by decide)) (by rfl) c_need_spare.mg c_need_spare.kp c_need_spare.b .nil VS.pass0 (pa_cons (pv 3) pa_nil)))
        (pss_cons (ps_if (pt_not (pt_val (pe_cG c_are_names.fn hgd (hr.mono (by decide)) (by rfl) c_are_names.mg c_are_names.kp c_are_names.b .nil VS.pass0 (pa_cons (pv 1) (pa_cons (pv 2) (pa_cons pe_int pa_nil)))))) (pss_one (ps_rz tk x_NoNest (hr.mono (by decide)) (by rfl) (pv 2)))
        pss_nil)
        (pss_cons (ps_set (i := 4) sc_Nest___init__.nd rfl (Or.inl rfl) (pe_cG c_first_apart.fn hgd (hr.mono (by decide)) (by rfl) c_first_apart.mg c_first_apart.kp c_first_apart.b .nil VS.pass0 (pa_cons (pv 1) (pa_cons (pv 2) (pa_cons (pv 3) pa_nil)))))
        (pss_cons (ps_if (pt_cmpR op_notNo (pv 4) pe_non (nomark _)) (pss_one (VS.ps_rz2 tk x_Unnested (hr.mono (by decide)) (by rfl) (pe_ix (ix_or ix_list ix_tup) (pv 2) (pv 4) (fun _ _ => rfl)) (pe_ix (ix_or ix_list ix_tup) (pv 2) (pe_op op_add (pv 4) pe_int) (fun _ _ => rfl))))
        pss_nil)
        (pss_cons (ps_fld (pv 0) (pe_lc (own := [("name", 5)]) rfl sc_Nest___init__.nd (pi_seq (pv 2)) (blkOk_by (own := [("name", 5)]) (N := n_Nest___init__) (sc := defScope s_Nest___init__) (by decide +kernel)) (fun _ _ _ _ _ => (pg_name (i := 5) sc_Nest___init__.nd rfl (Or.inl rfl))) (fun _ _ _ _ _ => pts_nil) (fun _ _ _ _ _ => (pe_mG (pv 1) c_Heap_parcel.cl c_Heap_parcel.me c_Heap_parcel.fn hgd (hr.mono (by decide)) c_Heap_parcel.b .nil VS.pass0 (pa_cons (pv 5) pa_nil)))) rfl)
        (pss_one (ps_fld (pv 0) (pe_lc (own := [("one", 6), ("other", 7)]) rfl sc_Nest___init__.nd (pi_zip (by rfl) T.b_zip (pa_cons (pe_fld (pv 0) rfl) (pa_cons (pe_slice sl_list (pe_fld (pv 0) rfl) (po_some pe_int) po_none) pa_nil))) (blkOk_by (own := [("one", 6), ("other", 7)]) (N := n_Nest___init__) (sc := defScope s_Nest___init__) (by decide +kernel)) (fun _ _ _ _ _ => (kTup (K := K) (pg_tup (n := 2) rfl (pgs_cons (pg_name (i := 6) sc_Nest___init__.nd rfl (Or.inl rfl)) (pgs_cons (pg_name (i := 7) sc_Nest___init__.nd rfl (Or.inl rfl)) pgs_nil))))) (fun _ _ _ _ _ => pts_nil) (fun _ _ _ _ _ => (pe_ix (kI (K := K) (r := rIxT) ix_tup) (pe_mG (pv 6) c_Parcel_goes_in.cl c_Parcel_goes_in.me c_Parcel_goes_in.fn hgd (hr.mono (by decide)) c_Parcel_goes_in.b .nil VS.pass0 (pa_cons (pv 7) (pa_cons (pv 3) pa_nil))) pe_int (fun _ _ => rfl)))) rfl))))))), ?_⟩
      (try dsimp only [cxOf, List.map])
      show VX _ _ [_, _, _, _, _, _, _, _] _ _
      have c1 := hs.1
      have w1 : whB (some sp) 0 1000 = true := by
        show (decide (0 ≤ sp) && decide (sp ≤ 1000)) = true
        rw [decide_eq_true s0, decide_eq_true s1]; rfl
      walk_at "gr"
      refine ⟨.int sp, some sp, rfl, .i sp, fun _ => ?_, fun z => by rw [w1] at z; cases z⟩
      walk_at "gr"
      refine ⟨h, l, ps, d, zs, rfl, hz, hs, hps.l, zl, zne, hin, ?_⟩
      rcases q with ⟨nd, q⟩ | ⟨nd, a, b, t, ez, hn, q⟩ | ⟨qs, rfl, nd, zm, hg, q⟩
      · rw [decide_eq_false nd]
        walk_at "gr"
        exact q
      · rw [decide_eq_true nd]
        walk_at "gr"
        refine ⟨h, l, ps, d, zs, sp, rfl, hz, hs, hps, hin, zl, s0, s1, .inr ⟨a, b, t, ez, hn, ?_⟩⟩
        walk_at "gr"
        refine rv_ixSq hz.q (d := .str a) (by rw [ez]; exact atI_nat (j := 0) rfl) ?_
        walk_at "gr"
        refine rv_ixSq hz.q (d := .str b) (by rw [ez]; exact atI_nat (j := 1) rfl) ?_
        exact q
      rw [decide_eq_true nd]
      walk_at "gr"
      refine ⟨h, l, ps, d, _, sp, rfl, hz, hs, hps, hin, zl, s0, s1, .inl ⟨ch_goes hps zm hg, ?_⟩⟩
      walk_at "gr"
      have lz : (qs.map Pc.nm).length = qs.length := List.length_map ..
      rw [lz] at zl
      have zpos : 0 < qs.length := List.length_pos_iff.mpr fun e => zne (by rw [e]; rfl)
      refine ve_lc (vi_seq ?_)
      walk_at "gr"
      refine ⟨_, hz.s, by rw [List.length_map, lz]; omega, fun i acc S2 => acc = (qs.take i).map (Pc.d C_Parcel C_Sides) ∧ S2 = S, ⟨rfl, rfl⟩, ?_, ?_⟩
      · rintro i dz acc S2 hd ⟨rfl, rfl⟩ _
        rw [List.map_map, List.getElem?_map] at hd
        cases e : qs[i]? with
        | none => rw [e] at hd; cases hd
        | some r =>
          rw [e] at hd
          cases hd
          have tk : qs.take (i + 1) = qs.take i ++ [r] := by rw [List.take_succ, e]; rfl
          obtain ⟨k, hk⟩ := List.getElem?_of_mem (zm r (List.mem_of_getElem? e))
          walk_at "gr"
          refine ⟨h, l, ps, k, r, rfl, hs, hps.l, Hps.frs hps.n hk, ?_⟩
          refine ⟨?_, rfl⟩
          rw [tk, List.map_append]
          rfl
      rintro acc S2 ⟨rfl, rfl⟩ _
      rw [List.length_map, lz, List.take_length]
      walk_at "gr"
      obtain ⟨S3, eS3⟩ : ∃ S3, S3 = VS.put S2 y (.ins C_Nest [("layers", .lst (qs.map (Pc.d C_Parcel C_Sides)))]) := ⟨_, rfl⟩
      have cy : S3 y = some (.ins C_Nest [("layers", .lst (qs.map (Pc.d C_Parcel C_Sides)))]) := by rw [eS3]; exact put_same
      show VE _ _ _ (VS.put S2 y (.ins C_Nest [("layers", .lst (qs.map (Pc.d C_Parcel C_Sides)))])) _
      rw [← eS3]
      have hc : VS.cutD (qs.map (Pc.d C_Parcel C_Sides)) (some 1) none = (qs.drop 1).map (Pc.d C_Parcel C_Sides) := by
        rw [show (some (1 : Int)) = some ((1 : Nat) : Int) from rfl, cut_drD _ (by rw [List.length_map]; omega), List.map_drop]
      refine ve_lc (vi_zip ?_)
      walk_at "gr"
      refine rs_list .v ?_
      rw [hc]
      refine va_nil ?_
      refine ⟨_, _, _, _, rfl, .v, .v, by rw [zipD_len, List.length_map]; omega, fun i acc S4 => acc = ((waysI sp qs).take i).map ordD ∧ S4 = S3, ⟨rfl, rfl⟩, ?_, ?_⟩
      · rintro i d acc S4 hd ⟨rfl, rfl⟩ _
        obtain ⟨a, b, h1, h2, rfl⟩ := zipD_get hd
        rw [List.getElem?_map] at h1 h2
        rw [List.getElem?_drop] at h2
        cases e1 : qs[i]? with
        | none => rw [e1] at h1; cases h1
        | some p =>
        cases e2 : qs[1 + i]? with
        | none => rw [e2] at h2; cases h2
        | some r =>
        rw [e1] at h1
        rw [e2] at h2
        cases h1
        cases h2
        rw [Nat.add_comm] at e2
        obtain ⟨g1, g2⟩ := ways_at hg e1 e2
        have gp := hps.g p (zm p (List.mem_of_getElem? e1))
        have gr := hps.g r (zm r (List.mem_of_getElem? e2))
        have tk : (waysI sp qs).take (i + 1) = (waysI sp qs).take i ++ [wayI sp p r] := by rw [List.take_succ, g2]; rfl
        walk_at "gr"
        refine ⟨p.nm, p.a, p.b, p.c, p.wl, p.wt, p.br, p.mk, _, .int sp, rfl, gp, .inr ⟨r.nm, r.a, r.b, r.c, r.wl, r.wt, r.br, r.mk, rfl, gr, some sp, .i sp, fun z => (by rw [w1] at z; cases z), fun i' e i0 i1 => ?_⟩⟩
        cases e
        rw [(way_go gp s0 g1).1]
        walk_at "gr"
        refine ⟨?_, rfl⟩
        rw [tk, List.map_append]
        rfl
      rintro acc S4 ⟨rfl, rfl⟩ _
      rw [zipD_len, List.length_map, List.length_map, List.length_drop, List.take_of_length_le (by rw [ways_len]; omega)]
      walk_at "gr"
      rw [eS3]
      refine ⟨y, C_Nest, _, rfl, put_same, kc_Nest, ka_Nest_ways, show 1 < 1000 by decide, ?_⟩
      show G .non (VS.put (VS.put S2 y _) y (nsD C_Nest C_Parcel C_Sides sp qs))
      rw [put_put]
      exact q) only [↓VS.box]
theorem ok_Nest_outer {f : Addr} {fd : FuncData} {C_Sides C_Parcel C_Heap C_Nest C_NoNumber C_NoSide C_NoSides C_NoOrder C_NoParcel C_NotInHeap C_NoNest C_Unnested : Addr}
    (F : Fd K "outer" "Nest.outer" s_Nest_outer [] f fd) (T : Tx K mg) (hsys : SysOk base)
    (k_Nest : Kl_Nest K mg C_Nest)
    (k_Heap : Kl_Heap K mg C_Heap)
    (k_Parcel : Kl_Parcel K mg C_Parcel)
    (k_Sides : Kl_Sides K mg C_Sides) :
    FnG P w K mg base (L2.CX P w) 1 f fd a_Nest_outer (spOf K (p_Ns_outer C_Nest C_Parcel C_Sides)) := by
  refine VS.unbox ?_
  simp (disch := with_unfolding_all
    have kc_Nest := k_Nest.ins.cl
    have ka_Nest_layers := k_Nest.a_layers
    have ka_Nest_ways := k_Nest.a_ways
    have kc_Heap := k_Heap.ins.cl
    have ka_Heap_held := k_Heap.a_held
    have ka_Heap_told := k_Heap.a_told
    have ka_Heap_kind := k_Heap.a_kind
    have kc_Parcel := k_Parcel.ins.cl
    have ka_Parcel_called := k_Parcel.a_called
    have ka_Parcel_outside := k_Parcel.a_outside
    have ka_Parcel_thick := k_Parcel.a_thick
    have ka_Parcel_heavy := k_Parcel.a_heavy
    have ka_Parcel_strong := k_Parcel.a_strong
    have ka_Parcel_marks := k_Parcel.a_marks
    have ka_Parcel_told := k_Parcel.a_told
    have ka_Parcel_names := k_Parcel.a_names
    have kc_Sides := k_Sides.ins.cl
    have ka_Sides_three := k_Sides.a_three
    refine fn_val F sc_Nest_outer (fun ds S G Y h => ?_) (fun cdv A hgd outer s H E hr px tk po ds S G Y h => ?_)
    · obtain ⟨zs, z, sp, rfl, _⟩ := h
      rfl
    · obtain ⟨zs, z, sp, rfl, q⟩ := h
      refine ⟨_, (pss_one (ps_ret (pe_ix ix_list (pe_fld (pv 0) rfl) (pe_un un_neg pe_int) (fun _ _ => rfl)))), ?_⟩
      (try dsimp only [cxOf, List.map])
      show VX _ _ [_] _ _
      unfold nsD
      walk_at "gr"
      refine rv_ixL .v (d := z.d C_Parcel C_Sides) ?_ q
      rw [List.map_append]
      exact atI_last91 _ _) only [↓VS.box]
theorem ok_Nest_weight {f : Addr} {fd : FuncData} {C_Sides C_Parcel C_Heap C_Nest C_NoNumber C_NoSide C_NoSides C_NoOrder C_NoParcel C_NotInHeap C_NoNest C_Unnested : Addr} {f_Parcel_weight : Addr} {g_Parcel_weight : FuncData}
    (F : Fd K "weight" "Nest.weight" s_Nest_weight [] f fd) (T : Tx K mg) (hsys : SysOk base)
    (c_Parcel_weight : Mf P w K mg base 1 C_Parcel "weight" "Parcel.weight" s_Parcel_weight [] a_Parcel_weight (p_Pc_weight C_Parcel C_Sides) f_Parcel_weight g_Parcel_weight)
    (k_Nest : Kl_Nest K mg C_Nest)
    (k_Heap : Kl_Heap K mg C_Heap)
    (k_Parcel : Kl_Parcel K mg C_Parcel)
    (k_Sides : Kl_Sides K mg C_Sides) :
    FnG P w K mg base (L2.CX P w) 2 f fd a_Nest_weight (spOf K (p_Ns_weight C_Nest C_Parcel C_Sides)) := by
  refine VS.unbox ?_
  simp (disch := with_unfolding_all
    have kc_Nest := k_Nest.ins.cl
    have ka_Nest_layers := k_Nest.a_layers
    have ka_Nest_ways := k_Nest.a_ways
    have kc_Heap := k_Heap.ins.cl
    have ka_Heap_held := k_Heap.a_held
    have ka_Heap_told := k_Heap.a_told
    have ka_Heap_kind := k_Heap.a_kind
    have kc_Parcel := k_Parcel.ins.cl
    have ka_Parcel_called := k_Parcel.a_called
    have ka_Parcel_outside := k_Parcel.a_outside
    have ka_Parcel_thick := k_Parcel.a_thick
    have ka_Parcel_heavy := k_Parcel.a_heavy
    have ka_Parcel_strong := k_Parcel.a_strong
    have ka_Parcel_marks := k_Parcel.a_marks
    have ka_Parcel_told := k_Parcel.a_told
    have ka_Parcel_names := k_Parcel.a_names
    have kc_Sides := k_Sides.ins.cl
    have ka_Sides_three := k_Sides.a_three
    refine fn_val F sc_Nest_weight (fun ds S G Y h => ?_) (fun cdv A hgd outer s H E hr px tk po ds S G Y h => ?_)
    · obtain ⟨zs, sp, rfl, _⟩ := h
      rfl
    · obtain ⟨zs, sp, rfl, zl, q⟩ := h
      refine ⟨_, (pss_one (ps_ret (pe_callB (cr_sum rfl) (by rfl) T.b_sum (by decide +kernel) (pa_cons (pe_lc (own := [("parcel", 1)]) rfl sc_Nest_weight.nd (pi_list (pe_fld (pv 0) rfl)) (blkOk_by (own := [("parcel", 1)]) (N := n_Nest_weight) (sc := defScope s_Nest_weight) (by decide +kernel)) (fun _ _ _ _ _ => (pg_name (i := 1) sc_Nest_weight.nd rfl (Or.inl rfl))) (fun _ _ _ _ _ => pts_nil) (fun _ _ _ _ _ => (pe_mG0 (pv 1) c_Parcel_weight.cl c_Parcel_weight.me c_Parcel_weight.fn hgd (hr.mono (by decide)) c_Parcel_weight.b .nil VS.pass0))) pa_nil)))), ?_⟩
      (try dsimp only [cxOf, List.map])
      show VX _ _ [_, _] _ _
      unfold nsD
      walk_at "gr"
      refine ve_lc (vi_list ?_)
      walk_at "gr"
      refine ⟨_, .v, by rw [List.length_map]; omega, fun i acc S2 => acc = ((zs.take i).map Pc.wt).map D.int ∧ S2 = S, ⟨rfl, rfl⟩, ?_, ?_⟩
      · rintro i dz acc S2 hd ⟨rfl, rfl⟩ _
        rw [List.getElem?_map] at hd
        cases e : zs[i]? with
        | none => rw [e] at hd; cases hd
        | some r =>
          rw [e] at hd
          cases hd
          have tk : zs.take (i + 1) = zs.take i ++ [r] := by rw [List.take_succ, e]; rfl
          walk_at "gr"
          refine ⟨r.nm, r.a, r.b, r.c, r.wl, r.wt, r.br, r.mk, rfl, ?_⟩
          refine ⟨?_, rfl⟩
          rw [tk, List.map_append, List.map_append]
          rfl
      rintro acc S2 ⟨rfl, rfl⟩ _
      rw [List.length_map, List.take_length]
      walk_at "gr"
      exact rc_sum .v q) only [↓VS.box]
theorem ok_Nest___len__ {f : Addr} {fd : FuncData} {C_Sides C_Parcel C_Heap C_Nest C_NoNumber C_NoSide C_NoSides C_NoOrder C_NoParcel C_NotInHeap C_NoNest C_Unnested : Addr}
    (F : Fd K "__len__" "Nest.__len__" s_Nest___len__ [] f fd) (T : Tx K mg) (hsys : SysOk base)
    (k_Nest : Kl_Nest K mg C_Nest)
    (k_Heap : Kl_Heap K mg C_Heap)
    (k_Parcel : Kl_Parcel K mg C_Parcel)
    (k_Sides : Kl_Sides K mg C_Sides) :
    FnG P w K mg base (L2.CX P w) 1 f fd a_Nest___len__ (spOf K (p_Ns_len C_Nest C_Parcel C_Sides)) := by
  refine VS.unbox ?_
  simp (disch := with_unfolding_all
    have kc_Nest := k_Nest.ins.cl
    have ka_Nest_layers := k_Nest.a_layers
    have ka_Nest_ways := k_Nest.a_ways
    have kc_Heap := k_Heap.ins.cl
    have ka_Heap_held := k_Heap.a_held
    have ka_Heap_told := k_Heap.a_told
    have ka_Heap_kind := k_Heap.a_kind
    have kc_Parcel := k_Parcel.ins.cl
    have ka_Parcel_called := k_Parcel.a_called
    have ka_Parcel_outside := k_Parcel.a_outside
    have ka_Parcel_thick := k_Parcel.a_thick
    have ka_Parcel_heavy := k_Parcel.a_heavy
    have ka_Parcel_strong := k_Parcel.a_strong
    have ka_Parcel_marks := k_Parcel.a_marks
    have ka_Parcel_told := k_Parcel.a_told
    have ka_Parcel_names := k_Parcel.a_names
    have kc_Sides := k_Sides.ins.cl
    have ka_Sides_three := k_Sides.a_three
    refine fn_val F sc_Nest___len__ (fun ds S G Y h => ?_) (fun cdv A hgd outer s H E hr px tk po ds S G Y h => ?_)
    · obtain ⟨zs, sp, rfl, _⟩ := h
      rfl
    · obtain ⟨zs, sp, rfl, zl, q⟩ := h
      refine ⟨_, (pss_one (ps_ret (pe_callB c_len (by rfl) T.b_len (by decide +kernel) (pa_cons (pe_fld (pv 0) rfl) pa_nil)))), ?_⟩
      (try dsimp only [cxOf, List.map])
      show VX _ _ [_] _ _
      unfold nsD
      walk_at "gr"
      rw [List.length_map]
      exact q) only [↓VS.box]
theorem ok_Nest___str__ {f : Addr} {fd : FuncData} {C_Sides C_Parcel C_Heap C_Nest C_NoNumber C_NoSide C_NoSides C_NoOrder C_NoParcel C_NotInHeap C_NoNest C_Unnested : Addr} {f_Parcel_name : Addr} {g_Parcel_name : FuncData}
    (F : Fd K "__str__" "Nest.__str__" s_Nest___str__ [] f fd) (T : Tx K mg) (hsys : SysOk base)
    (c_Parcel_name : Mf P w K mg base 1 C_Parcel "name" "Parcel.name" s_Parcel_name [] a_Parcel_name (p_Pc_name C_Parcel C_Sides) f_Parcel_name g_Parcel_name)
    (k_Nest : Kl_Nest K mg C_Nest)
    (k_Heap : Kl_Heap K mg C_Heap)
    (k_Parcel : Kl_Parcel K mg C_Parcel)
    (k_Sides : Kl_Sides K mg C_Sides) :
    FnG P w K mg base (L2.CX P w) 2 f fd a_Nest___str__ (spOf K (p_Ns_str C_Nest C_Parcel C_Sides)) := by
  refine VS.unbox ?_
  simp (disch := with_unfolding_all
    have kc_Nest := k_Nest.ins.cl
    have ka_Nest_layers := k_Nest.a_layers
    have ka_Nest_ways := k_Nest.a_ways
    have kc_Heap := k_Heap.ins.cl
    have ka_Heap_held := k_Heap.a_held
    have ka_Heap_told := k_Heap.a_told
    have ka_Heap_kind := k_Heap.a_kind
    have kc_Parcel := k_Parcel.ins.cl
    have ka_Parcel_called := k_Parcel.a_called
    have ka_Parcel_outside := k_Parcel.a_outside
    have ka_Parcel_thick := k_Parcel.a_thick
    have ka_Parcel_heavy := k_Parcel.a_heavy
    have ka_Parcel_strong := k_Parcel.a_strong
    have ka_Parcel_marks := k_Parcel.a_marks
    have ka_Parcel_told := k_Parcel.a_told
    have ka_Parcel_names := k_Parcel.a_names
    have kc_Sides := k_Sides.ins.cl
    have ka_Sides_three := k_Sides.a_three
    refine fn_val F sc_Nest___str__ (fun ds S G Y h => ?_) (fun cdv A hgd outer s H E hr px tk po ds S G Y h => ?_)
    · obtain ⟨zs, sp, rfl, _⟩ := h
      rfl
    · obtain ⟨zs, sp, rfl, z12, gz, q⟩ := h
      refine ⟨_, (pss_one (ps_ret (pe_m1 PySem.F.slot_str_join PySem.F.type_str_join m_join pe_str (pe_lc (own := [("parcel", 1)]) rfl sc_Nest___str__.nd (pi_list (pe_fld (pv 0) rfl)) (blkOk_by (own := [("parcel", 1)]) (N := n_Nest___str__) (sc := defScope s_Nest___str__) (by decide +kernel)) (fun _ _ _ _ _ => (pg_name (i := 1) sc_Nest___str__.nd rfl (Or.inl rfl))) (fun _ _ _ _ _ => pts_nil) (fun _ _ _ _ _ => (pe_mG0 (pv 1) c_Parcel_name.cl c_Parcel_name.me c_Parcel_name.fn hgd (hr.mono (by decide)) c_Parcel_name.b .nil VS.pass0)))))), ?_⟩
      (try dsimp only [cxOf, List.map])
      show VX _ _ [_, _] _ _
      unfold nsD
      walk_at "gr"
      refine ve_lc (vi_list ?_)
      walk_at "gr"
      refine ⟨_, .v, by rw [List.length_map]; omega, fun i acc S2 => acc = ((zs.take i).map Pc.nm).map D.str ∧ S2 = S, ⟨rfl, rfl⟩, ?_, ?_⟩
      · rintro i dz acc S2 hd ⟨rfl, rfl⟩ _
        rw [List.getElem?_map] at hd
        cases e : zs[i]? with
        | none => rw [e] at hd; cases hd
        | some r =>
          rw [e] at hd
          cases hd
          have tk : zs.take (i + 1) = zs.take i ++ [r] := by rw [List.take_succ, e]; rfl
          walk_at "gr"
          refine ⟨r.nm, r.a, r.b, r.c, r.wl, r.wt, r.br, r.mk, rfl, ?_⟩
          refine ⟨?_, rfl⟩
          rw [tk, List.map_append, List.map_append]
          rfl
      rintro acc S2 ⟨rfl, rfl⟩ _
      rw [List.length_map, List.take_length]
      walk_at "gr"
      refine rm_join (.l .v) (join_room gz z12) ?_
      exact q) only [↓VS.box]
end
end LW
namespace LW
open PySem L2 C8 PySem.Spec PyProof.Rows VS
/-! ### how the parcels of a nest lie in the outer one -/
def sdI (p : Pc) (i : Int) : Int := tn p.a p.b p.c i
def lies (sp : Int) : List Pc → List (List Int)
  | [] => []
  | z :: r => lieI (waysI sp (z :: r)) :: lies sp r
theorem lies_at {sp : Int} : ∀ {zs : List Pc} {i : Nat}, i < zs.length → (lies sp zs)[i]? = some (lieI (waysI sp (zs.drop i)))
  | [], i, h => by cases h
  | z :: r, 0, _ => rfl
  | z :: r, i + 1, h => lies_at (zs := r) (by simpa using h)
theorem comp_perm : ∀ t ∈ perms, ∀ o ∈ perms, (o.map fun n => t.getD n.toNat 0) ∈ perms := by decide
theorem lie_perm {sp : Int} : ∀ {zs : List Pc}, Goes sp zs → (∀ z ∈ zs, z.g) → 0 ≤ sp → lieI (waysI sp zs) ∈ perms
  | [], _, _, _ => by show ([0, 1, 2] : List Int) ∈ perms; decide
  | [_], _, _, _ => by show ([0, 1, 2] : List Int) ∈ perms; decide
  | p :: q :: r, hg, gz, s0 => by
    have ih := lie_perm (zs := q :: r) hg.2 (fun z hz => gz z (List.mem_cons_of_mem _ hz)) s0
    exact comp_perm _ (way_go (gz p (List.mem_cons_self ..)) s0 hg.1).2.1 _ ih
/-- what an order's three numbers are -/
theorem perm3L {o : List Int} (h : o ∈ perms) : ∃ x y z, o = [x, y, z] ∧ 0 ≤ x ∧ x ≤ 2 ∧ 0 ≤ y ∧ y ≤ 2 ∧ 0 ≤ z ∧ z ≤ 2 := by
  have : ∀ o ∈ perms, o.length = 3 ∧ ∀ x ∈ o, 0 ≤ x ∧ x ≤ 2 := by decide
  obtain ⟨h1, h2⟩ := this o h
  match o, h1 with
  | [x, y, z], _ => exact ⟨x, y, z, rfl, (h2 x (by simp)).1, (h2 x (by simp)).2, (h2 y (by simp)).1, (h2 y (by simp)).2, (h2 z (by simp)).1, (h2 z (by simp)).2⟩
theorem fit_at {p : Pc} {t : List Int} {x y z sp : Int} (ht : t ∈ perms) (h : fitB (tnl p.a p.b p.c t) [x, y, z] sp = true) : ∀ n : Int, 0 ≤ n → n ≤ 2 → sdI p (t.getD n.toNat 0) + sp ≤ tn x y z n := by
  obtain ⟨i, j, k, rfl, _⟩ := perm3L ht
  have h : (decide (tn p.a p.b p.c i + sp ≤ x) && (decide (tn p.a p.b p.c j + sp ≤ y) && (decide (tn p.a p.b p.c k + sp ≤ z) && true))) = true := h
  simp only [Bool.and_eq_true, decide_eq_true_eq, and_true] at h
  intro n n0 n2
  have : n = 0 ∨ n = 1 ∨ n = 2 := by omega
  rcases this with rfl | rfl | rfl
  · exact h.1
  · exact h.2.1
  · exact h.2.2
/-- one step outwards -/
theorem lie_step {sp : Int} {p q : Pc} {r : List Pc} (hg : Goes sp (p :: q :: r)) (gz : ∀ z ∈ p :: q :: r, z.g) (s0 : 0 ≤ sp) (a : Nat) (ha : a < 3) :
    sdI p ((lieI (waysI sp (p :: q :: r))).getD a 0) + sp + 2 * q.wl ≤ sdI q ((lieI (waysI sp (q :: r))).getD a 0) := by
  obtain ⟨_, h1, h2⟩ := way_go (gz p (List.mem_cons_self ..)) s0 hg.1
  have hp := lie_perm (zs := q :: r) hg.2 (fun z hz => gz z (List.mem_cons_of_mem _ hz)) s0
  obtain ⟨x, y, z, eo, x0, x2, y0, y2, z0, z2⟩ := perm3L hp
  have f := fit_at h1 h2
  have e : lieI (waysI sp (p :: q :: r)) = [x, y, z].map fun n => (wayI sp p q).getD n.toNat 0 := by
    show (lieI (waysI sp (q :: r))).map _ = _
    rw [eo]
  rw [e, eo]
  have tnm : ∀ n : Int, 0 ≤ n → n ≤ 2 → tn (q.a - 2 * q.wl) (q.b - 2 * q.wl) (q.c - 2 * q.wl) n = sdI q n - 2 * q.wl := fun n n0 n2 => by
    have : n = 0 ∨ n = 1 ∨ n = 2 := by omega
    rcases this with rfl | rfl | rfl <;> rfl
  have key : ∀ n : Int, 0 ≤ n → n ≤ 2 → sdI p ((wayI sp p q).getD n.toNat 0) + sp + 2 * q.wl ≤ sdI q n := fun n n0 n2 => by
    have h1 := f n n0 n2
    rw [tnm n n0 n2] at h1
    omega
  rcases a with _ | _ | _ | a
  · exact key x x0 x2
  · exact key y y0 y2
  · exact key z z0 z2
  · omega
/-- each lies in the rooms of all further out -/
theorem lie_all {sp : Int} (s0 : 0 ≤ sp) : ∀ {zs : List Pc}, Goes sp zs → (∀ z ∈ zs, z.g) → ∀ (i j : Nat) (p q : Pc) (a : Nat), i < j → zs[i]? = some p → zs[j]? = some q → a < 3 →
    sdI p ((lieI (waysI sp (zs.drop i))).getD a 0) + sp + 2 * q.wl ≤ sdI q ((lieI (waysI sp (zs.drop j))).getD a 0)
  | [], _, _, i, j, p, q, a, _, h1, _, _ => by simp at h1
  | [x], _, _, i, j, p, q, a, hij, h1, h2, _ => by
    have := (List.getElem?_eq_some_iff.mp h2).1
    simp at this
    omega
  | x :: y :: r, hg, gz, i, j, p, q, a, hij, h1, h2, ha => by
    have ih := lie_all s0 (zs := y :: r) hg.2 fun z hz => gz z (List.mem_cons_of_mem _ hz)
    cases i with
    | succ i =>
      cases j with
      | zero => omega
      | succ j => exact ih i j p q a (by omega) h1 h2 ha
    | zero =>
      cases h1
      cases j with
      | zero => omega
      | succ j =>
        have st := lie_step hg gz s0 a ha
        cases j with
        | zero =>
          cases h2
          exact st
        | succ j =>
          have := ih 0 (j + 1) y q a (by omega) rfl h2 ha
          have wy := (gz y (by simp)).wl.1
          show sdI x ((lieI (waysI sp (x :: y :: r))).getD a 0) + sp + 2 * q.wl ≤ sdI q ((lieI (waysI sp ((y :: r).drop (j + 1)))).getD a 0)
          have h3 : sdI y ((lieI (waysI sp (y :: r))).getD a 0) + sp + 2 * q.wl ≤ sdI q ((lieI (waysI sp ((y :: r).drop (j + 1)))).getD a 0) := this
          omega
end LW
namespace LW
open PySem L2 C8 PySem.Spec PyProof.Rows VS
/-! ### the law's own look at what goes in what, of cards -/
def p_goes91 : Pt := fun ds S G _ => ∃ (p q : Pc) (sp : Int), ds = [c9D p, c9D q, .int sp] ∧ p.g ∧ q.g ∧ 0 ≤ sp ∧ sp ≤ 1000 ∧ G (.bl (goB sp p q)) S
def shD (k : Int) : D → D
  | .int i => .int (i - k)
  | _ => .non
def leD (sp : Int) : D → D
  | .tup [.int u, .int v] => .bl (decide (u + sp ≤ v))
  | _ => .non
def p__law_outwards : Pt := fun ds S G _ => ∃ (rs : List Pc) (sp : Int), ds = [.lst (rs.map c9D), .int sp] ∧ C9s rs ∧ 0 ≤ sp ∧ sp ≤ 1000 ∧
  ∀ (d : Addr) (as : List Addr) (S' : Sto), S d = none → as.length = rs.length → as.Nodup → d ∉ as → (∀ a ∈ as, S a = none) → Ext S S' → S' d = some (.dK (inD2 rs as)) → (∀ (i : Nat) (a : Addr) (p : Pc), as[i]? = some a → rs[i]? = some p → S' a = some (.lst ((goN sp rs p).map D.str))) → G (.ref d) S'
def p_spare91 : Pt := fun ds S G _ => ∃ (p : Addr) (n : Int), ds = [.ref p] ∧ Pu S p n ∧ n < 800000 ∧ ∀ (sp : Int) (S' : Sto), 0 ≤ sp → sp ≤ 1000 → Pu S' p (n + 5) → Off p S S' → G (.int sp) S'
section
variable {P : Program} {w : World} {K : PySem.W.Frag} {mg : Str → Option Value} {base : Heap}
theorem ok__law_goes {f : Addr} {fd : FuncData} {C_Sides C_Parcel C_Heap C_Nest C_NoNumber C_NoSide C_NoSides C_NoOrder C_NoParcel C_NotInHeap C_NoNest C_Unnested : Addr}
    (F : Fd K "_law_goes" "_law_goes" s__law_goes [] f fd) (T : Tx K mg) (hsys : SysOk base) :
    FnG P w K mg base (L2.CX P w) 1 f fd a__law_goes (spOf K p_goes91) := by
  refine VS.unbox ?_
  simp (disch := with_unfolding_all
    refine fn_val F sc__law_goes (fun ds S G Y h => ?_) (fun cdv A hgd outer s H E hr px tk po ds S G Y h => ?_)
    · obtain ⟨p, q, sp, rfl, _⟩ := h
      rfl
    · obtain ⟨p, q, sp, rfl, gp, gq, s0, s1, qq⟩ := h
      refine ⟨_, (pss_cons (ps_if (PW.pt (pw_or (pt_cmpR op_in_seq pe_str (pe_ix ix_tup (pv 0) pe_int (fun _ _ => rfl)) (by rfl)) (pw_or1 (pt_cmpR op_in_seq pe_str (pe_ix ix_tup (pv 1) pe_int (fun _ _ => rfl)) (by rfl))))) (pss_one (ps_ret pe_bl))
        pss_nil)
        (pss_cons (ps_set (i := 3) sc__law_goes.nd rfl (Or.inl rfl) (pe_callB c_sorted (by rfl) T.b_sorted (by decide +kernel) (pa_cons (pe_lc (own := [("_law_side", 4)]) rfl sc__law_goes.nd (pi_tup (pe_ix ix_tup (pv 1) pe_int (fun _ _ => rfl))) (blkOk_by (own := [("_law_side", 4)]) (N := n__law_goes) (sc := defScope s__law_goes) (by decide +kernel)) (fun _ _ _ _ _ => (pg_name (i := 4) sc__law_goes.nd rfl (Or.inl rfl))) (fun _ _ _ _ _ => pts_nil) (fun _ _ _ _ _ => (pe_op op_sub (pv 4) (pe_op op_mulW pe_int (pe_ix (kI (K := K) (r := rIxT) ix_tup) (pv 1) pe_int (fun _ _ => rfl)))))) pa_nil)))
        (pss_one (ps_ret (pe_callB (cr_all rfl) (by rfl) T.b_all (by decide +kernel) (pa_cons (pe_lc (own := [("_law_side", 4), ("_law_most", 5)]) rfl sc__law_goes.nd (pi_zip (by rfl) T.b_zip (pa_cons (pe_callB c_sorted (by rfl) T.b_sorted (by decide +kernel) (pa_cons (pe_ix ix_tup (pv 0) pe_int (fun _ _ => rfl)) pa_nil)) (pa_cons (pv 3) pa_nil))) (blkOk_by (own := [("_law_side", 4), ("_law_most", 5)]) (N := n__law_goes) (sc := defScope s__law_goes) (by decide +kernel)) (fun _ _ _ _ _ => (kTup (K := K) (pg_tup (n := 2) rfl (pgs_cons (pg_name (i := 4) sc__law_goes.nd rfl (Or.inl rfl)) (pgs_cons (pg_name (i := 5) sc__law_goes.nd rfl (Or.inl rfl)) pgs_nil))))) (fun _ _ _ _ _ => pts_nil) (fun _ _ _ _ _ => (pe_cmpR op_le (pe_op op_add (pv 4) (pv 2)) (pv 5) (nomark _)))) pa_nil)))))), ?_⟩
      (try dsimp only [cxOf, List.map])
      show VX _ _ [_, _, _, _, _, _] _ _
      unfold c9D
      walk_at "ga"
      refine rv_in (.l .v) rfl (flat_strs _) ?_
      rw [inD_strs]
      refine ⟨_, rfl, fun e => ?_, fun e => ?_⟩
      · have e := of_decide_eq_true e
        rw [go_alone (.inl e)] at qq
        walk_at "ga"
        exact qq
      · have e := of_decide_eq_false e
        walk_at "ga"
        refine rv_in (.l .v) rfl (flat_strs _) ?_
        rw [inD_strs]
        refine ⟨_, rfl, fun e2 => ?_, fun e2 => ?_⟩
        · have e2 := of_decide_eq_true e2
          rw [go_alone (.inr e2)] at qq
          walk_at "ga"
          exact qq
        · have e2 := of_decide_eq_false e2
          rw [go_rankK gp s0 e e2] at qq
          have w0 := gq.wl
          have ga := gq.a
          have gb := gq.b
          have gc := gq.c
          have pa := gp.a
          have pb := gp.b
          have pc := gp.c
          unfold In1 at ga gb gc pa pb pc
          walk_at "ga"
          refine ve_lcM (shD (2 * q.wl)) (vi_tup ?_)
          walk_at "ga"
          refine ⟨_, rfl, by show 3 ≤ 100000; decide, all3 ?_ ?_ ?_, ?_⟩
          · walk_at "ga"
            exact ⟨rfl, by walk_at "ga"; exact ⟨rfl, rfl⟩⟩
          · walk_at "ga"
            exact ⟨rfl, by walk_at "ga"; exact ⟨rfl, rfl⟩⟩
          · walk_at "ga"
            exact ⟨rfl, by walk_at "ga"; exact ⟨rfl, rfl⟩⟩
          walk_at "ga"
          refine rc_sorted (ns := [q.a - 2 * q.wl, q.b - 2 * q.wl, q.c - 2 * q.wl]) (.l .v) ?_
          rw [up_shift]
          obtain ⟨u, v, w, e3⟩ := list3 (up_len [p.a, p.b, p.c])
          obtain ⟨x, y, z, e4⟩ := list3 (up_len [q.a, q.b, q.c])
          have pm := up_perm [p.a, p.b, p.c]
          have pm' := up_perm [q.a, q.b, q.c]
          rw [e3] at pm
          rw [e4] at pm'
          have hu : u ∈ [p.a, p.b, p.c] := pm.mem_iff.mp (by simp)
          have hv : v ∈ [p.a, p.b, p.c] := pm.mem_iff.mp (by simp)
          have hw : w ∈ [p.a, p.b, p.c] := pm.mem_iff.mp (by simp)
          have hx : x ∈ [q.a, q.b, q.c] := pm'.mem_iff.mp (by simp)
          have hy : y ∈ [q.a, q.b, q.c] := pm'.mem_iff.mp (by simp)
          have hz : z ∈ [q.a, q.b, q.c] := pm'.mem_iff.mp (by simp)
          clear pm pm'
          simp only [List.mem_cons, List.not_mem_nil, or_false] at hu hv hw hx hy hz
          unfold goK at qq
          rw [e3, e4] at qq
          rw [e4]
          have qq : G (.bl (decide (u + sp + 2 * q.wl ≤ x) && (decide (v + sp + 2 * q.wl ≤ y) && decide (w + sp + 2 * q.wl ≤ z)))) S := qq
          walk_at "ga"
          refine ve_lcM (leD sp) (vi_zip ?_)
          walk_at "ga"
          refine rc_sorted (ns := [p.a, p.b, p.c]) .t ?_
          rw [e3]
          walk_at "ga"
          refine ⟨_, _, _, _, rfl, .v, .v, by show 3 ≤ 100000; decide, fun d hd => ?_, ?_⟩
          · have hd' : d = .tup [.int u, .int (x - 2 * q.wl)] ∨ d = .tup [.int v, .int (y - 2 * q.wl)] ∨ d = .tup [.int w, .int (z - 2 * q.wl)] := by
              simpa [zipD] using hd
            rcases hd' with rfl | rfl | rfl
            all_goals
              walk_at "ga"
              exact ⟨rfl, by walk_at "ga"; exact ⟨rfl, rfl⟩⟩
          walk_at "ga"
          show RC _ _ [.lst (([decide (u + sp ≤ x - 2 * q.wl), decide (v + sp ≤ y - 2 * q.wl), decide (w + sp ≤ z - 2 * q.wl)]).map D.bl)] _ _
          refine rc_all .v ?_
          show G (.bl (decide (u + sp ≤ x - 2 * q.wl) && (decide (v + sp ≤ y - 2 * q.wl) && (decide (w + sp ≤ z - 2 * q.wl) && true)))) S
          rw [Bool.and_true, show decide (u + sp ≤ x - 2 * q.wl) = decide (u + sp + 2 * q.wl ≤ x) from VS.bdec (by omega), show decide (v + sp ≤ y - 2 * q.wl) = decide (v + sp + 2 * q.wl ≤ y) from VS.bdec (by omega), show decide (w + sp ≤ z - 2 * q.wl) = decide (w + sp + 2 * q.wl ≤ z) from VS.bdec (by omega)]
          exact qq) only [↓VS.box]
theorem ok__law_spare {f : Addr} {fd : FuncData} {C_Sides C_Parcel C_Heap C_Nest C_NoNumber C_NoSide C_NoSides C_NoOrder C_NoParcel C_NotInHeap C_NoNest C_Unnested : Addr} {f__law_take : Addr} {g__law_take : FuncData}
    (F : Fd K "_law_spare" "_law_spare" s__law_spare [] f fd) (T : Tx K mg) (hsys : SysOk base)
    (c__law_take : Cf P w K mg base (L2.CX P w) 1 "_law_take" s__law_take [] a__law_take p__law_take f__law_take g__law_take) :
    FnG P w K mg base (L2.CX P w) 2 f fd a__law_spare (spOf K p_spare91) := by
  refine VS.unbox ?_
  simp (disch := with_unfolding_all
    refine fn_val F sc__law_spare (fun ds S G Y h => ?_) (fun cdv A hgd outer s H E hr px tk po ds S G Y h => ?_)
    · obtain ⟨p, n, rfl, _⟩ := h
      rfl
    · obtain ⟨p, n, rfl, hp, hn, q⟩ := h
      refine ⟨_, (pss_cons (ps_set (i := 1) sc__law_spare.nd rfl (Or.inl rfl) (pe_cG c__law_take.fn hgd (hr.mono (by decide)) (by rfl) c__law_take.mg c__law_take.kp c__law_take.b .nil VS.pass0 (pa_cons (pv 0) (pa_cons pe_int pa_nil))))
        (pss_one (ps_ret (pe_ix ix_list (pe_lst (pa_cons pe_int (pa_cons pe_int (pa_cons (pe_cG c__law_take.fn hgd (hr.mono (by decide)) (by rfl) c__law_take.mg c__law_take.kp c__law_take.b .nil VS.pass0 (pa_cons (pv 0) (pa_cons pe_int pa_nil))) (pa_cons (pe_ix ix_list (pe_lst (pa_cons pe_int (pa_cons (pe_cG c__law_take.fn hgd (hr.mono (by decide)) (by rfl) c__law_take.mg c__law_take.kp c__law_take.b .nil VS.pass0 (pa_cons (pv 0) (pa_cons pe_int pa_nil))) pa_nil))) (pe_cG c__law_take.fn hgd (hr.mono (by decide)) (by rfl) c__law_take.mg c__law_take.kp c__law_take.b .nil VS.pass0 (pa_cons (pv 0) (pa_cons pe_int pa_nil))) (fun _ _ => rfl)) pa_nil))))) (pv 1) (fun _ _ => rfl))))), ?_⟩
      (try dsimp only [cxOf, List.map])
      show VX _ _ [_, _] _ _
      walk_at "ga"
      intro t S1 t0 t1 h1 o1
      walk_at "ga"
      intro u S2 u0 u1 h2 o2
      walk_at "ga"
      intro v S3 v0 v1 h3 o3
      walk_at "ga"
      intro x S4 x0 x1 h4 o4
      have o4 := ((o1.trans o2).trans o3).trans o4
      refine rv_ixAll (fun d => ∃ m : Int, d = .int m ∧ 0 ≤ m ∧ m ≤ 1000) x0 x1 (ac ⟨_, rfl, by omega, by omega⟩ (ac ⟨_, rfl, by omega, by omega⟩ an)) ?_
      rintro _ ⟨m, rfl, m0, m1⟩
      walk_at "ga"
      refine rv_ixAll (fun d => ∃ m : Int, d = .int m ∧ 0 ≤ m ∧ m ≤ 1000) t0 t1 (ac ⟨_, rfl, by omega, by omega⟩ (ac ⟨_, rfl, by omega, by omega⟩ (ac ⟨_, rfl, by omega, by omega⟩ (ac ⟨_, rfl, by omega, by omega⟩ an)))) ?_
      rintro _ ⟨k, rfl, k0, k1⟩
      exact q k S4 k0 k1 (h4.mono (by omega)) o4) only [↓VS.box]
theorem ok__law_outwards {f : Addr} {fd : FuncData} {C_Sides C_Parcel C_Heap C_Nest C_NoNumber C_NoSide C_NoSides C_NoOrder C_NoParcel C_NotInHeap C_NoNest C_Unnested : Addr} {f__law_goes : Addr} {g__law_goes : FuncData}
    (F : Fd K "_law_outwards" "_law_outwards" s__law_outwards [] f fd) (T : Tx K mg) (hsys : SysOk base)
    (c__law_goes : Cf P w K mg base (L2.CX P w) 1 "_law_goes" s__law_goes [] a__law_goes p_goes91 f__law_goes g__law_goes) :
    FnG P w K mg base (L2.CX P w) 2 f fd a__law_outwards (spOf K p__law_outwards) := by
  refine VS.unbox ?_
  simp (disch := with_unfolding_all
    refine fn_val F sc__law_outwards (fun ds S G Y h => ?_) (fun cdv A hgd outer s H E hr px tk po ds S G Y h => ?_)
    · obtain ⟨rs, sp, rfl, _⟩ := h
      rfl
    · obtain ⟨rs, sp, rfl, hrs, s0, s1, q⟩ := h
      refine ⟨_, (pss_cons (ps_set (i := 2) sc__law_outwards.nd rfl (Or.inl rfl) pe_dnewK)
        (pss_cons (ps_for po rfl (pi_list (pv 0)) (pg_name (i := 3) sc__law_outwards.nd rfl (Or.inr rfl))
        (pss_one (ps_dput (hu_of hr) (pv 2) (pe_ix ix_tup (pv 3) pe_int (fun _ _ => rfl)) (pe_lc (own := [("_law_other", 4)]) rfl sc__law_outwards.nd (pi_list (pv 0)) (blkOk_by (own := [("_law_other", 4)]) (N := n__law_outwards) (sc := defScope s__law_outwards) (by decide +kernel)) (fun _ _ _ _ _ => (pg_name (i := 4) sc__law_outwards.nd rfl (Or.inl rfl))) (fun _ _ _ _ _ => (pts_one (pt_val (pe_cG c__law_goes.fn hgd (hr.mono (by decide)) (by rfl) c__law_goes.mg c__law_goes.kp c__law_goes.b .nil VS.pass0 (pa_cons (pv 3) (pa_cons (pv 4) (pa_cons (pv 1) pa_nil))))))) (fun _ _ _ _ _ => (pe_ix (kI (K := K) (r := rIxT) ix_tup) (pv 4) pe_int (fun _ _ => rfl)))) (by rfl))))
        (pss_one (ps_ret (pv 2))))), ?_⟩
      (try dsimp only [cxOf, List.map])
      show VX _ _ [_, _, _, _, _] _ _
      have p12 := hrs.l
      refine vx_seq (vx_asg ?_)
      refine ve_dnewc fun d hd => ?_
      have sd0 : S d = none := hd
      have c5 : (put S d (.dK [])) d = some (.dK []) := put_same
      have x5' := Ext.put (S := S) (d := .dK []) hd
      generalize put S d (.dK []) = S4 at c5 x5' ⊢
      walk_at "gr"
      refine vx_for (vi_list ?_)
      walk_at "gr"
      refine ⟨_, .v, fun i ρ2 S2 => ∃ as : List Addr, as.length = i ∧ as.Nodup ∧ d ∉ as ∧ (∀ a ∈ as, S a = none) ∧ Ext S S2 ∧ S2 d = some (.dK (inD2 (rs.take i) as)) ∧ (∀ (j : Nat) (a : Addr) (p : Pc), as[j]? = some a → rs[j]? = some p → S2 a = some (.lst ((goN sp rs p).map D.str))) ∧ ∃ x3 x4, ρ2 = [some (.lst (rs.map c9D)), some (.int sp), some (.ref d), x3, x4], ⟨[], rfl, .nil, nofun, nofun, x5', c5, nofun, _, _, rfl⟩, ?_, ?_⟩
      · clear c5 x5'
        rintro i dd _ S5 hdd ⟨as, la, na, da, sa, x6, c6, h6, x3, x4, rfl⟩
        rw [List.getElem?_map] at hdd
        cases e : rs[i]? with
        | none => rw [e] at hdd; cases hdd
        | some r =>
          rw [e] at hdd
          cases hdd
          have hi : i < rs.length := (List.getElem?_eq_some_iff.mp e).1
          have tk : rs.take (i + 1) = rs.take i ++ [r] := by rw [List.take_succ, e]; rfl
          unfold c9D
          walk_at "gr"
          refine vx_dput ?_
          refine ve_lcc (vi_list ?_)
          walk_at "gr"
          refine ⟨_, .v, by rw [List.length_map]; omega, fun j acc S7 => acc = (((rs.take j).filter (goB sp r)).map Pc.nm).map D.str ∧ S7 = S5, ⟨rfl, rfl⟩, ?_, ?_⟩
          · rintro j dz acc S7 hdz ⟨rfl, rfl⟩ _
            have hdz : (rs.map c9D)[j]? = some dz := hdz
            rw [List.getElem?_map] at hdz
            cases e2 : rs[j]? with
            | none => rw [e2] at hdz; cases hdz
            | some t =>
              rw [e2] at hdz
              cases hdz
              have tk2 : rs.take (j + 1) = rs.take j ++ [t] := by rw [List.take_succ, e2]; rfl
              unfold c9D
              walk_at "gr"
              refine ⟨r, t, sp, rfl, (hrs.c r (List.mem_of_getElem? e)).g, (hrs.c t (List.mem_of_getElem? e2)).g, s0, s1, ?_⟩
              refine ⟨_, rfl, fun eb => ?_, fun eb => ?_⟩
              · walk_at "gr"
                refine ⟨?_, rfl⟩
                rw [tk2, List.filter_append, List.filter_cons_of_pos (show goB sp r t = true from eb), List.map_append, List.map_append]
                rfl
              · refine ⟨?_, rfl⟩
                rw [tk2, List.filter_append, List.filter_cons_of_neg (by rw [show goB sp r t = false from eb]; decide), List.filter_nil, List.append_nil]
          · rintro acc S7 ⟨ea, rfl⟩ _ a ha
            rw [List.length_map, List.take_length] at ea
            subst ea
            have nda : d ≠ a := ne_at c6 ha
            have naa : ∀ a' ∈ as, a' ≠ a := fun a' h' z => by
              obtain ⟨j, hj⟩ := List.getElem?_of_mem h'
              have hjl : j < as.length := (List.getElem?_eq_some_iff.mp hj).1
              have := h6 j a' _ hj (List.getElem?_eq_getElem (show j < rs.length by omega))
              rw [z, ha] at this
              cases this
            have c7 : (put S7 a (.lst (((rs.filter (goB sp r)).map Pc.nm).map D.str))) d = some (.dK (inD2 (rs.take i) as)) := (put_ne nda).trans c6
            walk_at "gr"
            refine ⟨inD2 (rs.take i) as, .inr r.nm, c7, rfl, ?_, as ++ [a], ?_, ?_, ?_, ?_, ?_, ?_, ?_, _, _, rfl⟩
            · have : (inD2 (rs.take i) as).length ≤ as.length := by unfold inD2; rw [List.length_zipWith]; omega
              have := szl
              omega
            · rw [List.length_append, la]; rfl
            · rw [List.nodup_append]
              exact ⟨na, by simp, fun x hx y hy => by rw [List.mem_singleton.mp hy]; exact naa x hx⟩
            · intro z
              rcases List.mem_append.mp z with z | z
              · exact da z
              · exact nda (List.mem_singleton.mp z)
            · intro x hx
              rcases List.mem_append.mp hx with hx | hx
              · exact sa x hx
              · rw [List.mem_singleton.mp hx]; exact x6.no ha
            · exact (x6.trans (Ext.put ha)).wr sd0
            · rw [put_same, dkPut_new, tk, inD2_app (by rw [List.length_take]; omega)]
              intro x hx z
              have hk : x.1 ∈ (inD2 (rs.take i) as).map Prod.fst := List.mem_map.mpr ⟨x, hx, rfl⟩
              rw [inD2_keys (by rw [List.length_take]; omega), z] at hk
              obtain ⟨w, hw, ew⟩ := List.mem_map.mp hk
              cases ew
              obtain ⟨t, ht, et⟩ := List.mem_map.mp hw
              obtain ⟨j, hj⟩ := List.getElem?_of_mem ht
              have jl : j < i := by
                have := (List.getElem?_eq_some_iff.mp hj).1
                rw [List.length_take] at this
                omega
              rw [List.getElem?_take_of_lt jl] at hj
              have := (Hps.frs hrs.n e).2 j t jl hj
              exact this et
            · intro j a' p' hj hp'
              by_cases z : j < as.length
              · rw [List.getElem?_append_left z] at hj
                have nea : a' ≠ a := naa a' (List.mem_of_getElem? hj)
                have ned : a' ≠ d := fun z => da (by rw [← z]; exact List.mem_of_getElem? hj)
                rw [put_ne ned, put_ne nea]
                exact h6 j a' p' hj hp'
              · rw [List.getElem?_append_right (by omega)] at hj
                have ez : j - as.length = 0 := by
                  have := (List.getElem?_eq_some_iff.mp hj).1
                  simp at this
                  omega
                rw [ez] at hj
                cases hj
                have ej : j = i := by omega
                subst ej
                rw [e] at hp'
                cases hp'
                rw [put_ne (Ne.symm nda)]
                exact put_same
      · rintro _ S5 ⟨as, la, na, da, sa, x6, c6, h6, x3, x4, rfl⟩
        rw [List.length_map, List.take_length] at c6
        rw [List.length_map] at la
        walk_at "gr"
        exact q d as S5 sd0 la na da sa x6 c6 h6) only [↓VS.box]
end
end LW
namespace LW
open PySem L2 C8 PySem.Spec PyProof.Rows VS
/-! ### what goes in what: plain facts -/
theorem goK_of {sp : Int} {p q : Pc} (gp : p.g) (s0 : 0 ≤ sp) (h : goB sp p q = true) : (("alone" : Str) ∉ p.mk ∧ ("alone" : Str) ∉ q.mk) ∧ goK sp p q = true := by
  by_cases h1 : ("alone" : Str) ∈ p.mk
  · rw [go_alone (.inl h1)] at h; cases h
  · by_cases h2 : ("alone" : Str) ∈ q.mk
    · rw [go_alone (.inr h2)] at h; cases h
    · exact ⟨⟨h1, h2⟩, by rw [← go_rankK gp s0 h1 h2]; exact h⟩
theorem go_trans {sp : Int} {p q r : Pc} (gp : p.g) (gq : q.g) (s0 : 0 ≤ sp) (h1 : goB sp p q = true) (h2 : goB sp q r = true) : goB sp p r = true := by
  obtain ⟨⟨a1, a2⟩, k1⟩ := goK_of gp s0 h1
  obtain ⟨⟨_, a3⟩, k2⟩ := goK_of gq s0 h2
  rw [go_rankK gp s0 a1 a3]
  unfold goK at k1 k2 ⊢
  obtain ⟨u, v, w, e⟩ := list3 (up_len [p.a, p.b, p.c])
  obtain ⟨x, y, z, e'⟩ := list3 (up_len [q.a, q.b, q.c])
  obtain ⟨x', y', z', e''⟩ := list3 (up_len [r.a, r.b, r.c])
  rw [e, e'] at k1
  rw [e', e''] at k2
  rw [e, e'']
  have k1 : (decide (u + sp + 2 * q.wl ≤ x) && (decide (v + sp + 2 * q.wl ≤ y) && decide (w + sp + 2 * q.wl ≤ z))) = true := k1
  have k2 : (decide (x + sp + 2 * r.wl ≤ x') && (decide (y + sp + 2 * r.wl ≤ y') && decide (z + sp + 2 * r.wl ≤ z'))) = true := k2
  show (decide (u + sp + 2 * r.wl ≤ x') && (decide (v + sp + 2 * r.wl ≤ y') && decide (w + sp + 2 * r.wl ≤ z'))) = true
  simp only [Bool.and_eq_true, decide_eq_true_eq] at k1 k2 ⊢
  have := gq.wl.1
  omega
theorem Eof_mem {sp : Int} {ps : List Pc} {n o : Str} (h : o ∈ Eof sp ps n) : ∃ p ∈ ps, ∃ q ∈ ps, p.nm = n ∧ q.nm = o ∧ goB sp p q = true := by
  unfold Eof at h
  split at h
  · rename_i p hp
    obtain ⟨q, hq, e, g⟩ := mem_goN h
    exact ⟨p, List.mem_of_find?_eq_some hp, q, hq, by simpa using List.find?_some hp, e, g⟩
  · simp at h
theorem pnm_inj {ps : List Pc} (nd : (ps.map Pc.nm).Nodup) {p q : Pc} (hp : p ∈ ps) (hq : q ∈ ps) (e : p.nm = q.nm) : p = q := by
  have h1 := find_nm nd hp
  have h2 := find_nm nd hq
  rw [e, h2] at h1
  exact (Option.some.inj h1).symm
theorem Eof_trans {sp : Int} {ps : List Pc} (h : Hps ps) (s0 : 0 ≤ sp) (x y z : Str) (h1 : y ∈ Eof sp ps x) (h2 : z ∈ Eof sp ps y) : z ∈ Eof sp ps x := by
  obtain ⟨p, hp, q, hq, rfl, rfl, g1⟩ := Eof_mem h1
  obtain ⟨q', hq', r, hr, e, rfl, g2⟩ := Eof_mem h2
  have := pnm_inj h.n hq' hq e
  subst this
  rw [Eof_at h.n hp]
  exact List.mem_map.mpr ⟨r, List.mem_filter.mpr ⟨hr, go_trans (h.g p hp) (h.g q' hq) s0 g1 g2⟩, rfl⟩
def hpD (CH l : Addr) : D := .ins CH [("held", .ref l)]
theorem Wd.hp {S : Sto} {p h l CH CP CS : Addr} {n : Int} {L : List (Addr × D)} {ps : List Pc} (w : Wd S p n L) (j k : Nat) (hj : L[j]? = some (h, hpD CH l)) (hk : L[k]? = some (l, .lst (ps.map (Pc.d CP CS)))) : HpS S CH CP CS h l ps := ⟨w.get j hj, w.get k hk⟩
theorem Wd.newE2 {S S' : Sto} {p h k : Addr} {n : Int} {L : List (Addr × D)} {d e : D} (w : Wd S p n L) (hh : S h = none) (hk : S k = none) (ne : h ≠ k) (x : Ext S S') (e1 : S' h = some d) (e2 : S' k = some e) : Wd S' p n ((h, d) :: (k, e) :: L) := by
  have v := w.ext x
  refine ⟨v.pu, fun y hy => ?_, fun y hy => ?_, ?_⟩
  · rcases List.mem_cons.mp hy with z | hy
    · rw [z]; exact e1
    · rcases List.mem_cons.mp hy with z | hy
      · rw [z]; exact e2
      · exact v.at_ y hy
  · rcases List.mem_cons.mp hy with z | hy
    · rw [z]; exact Ne.symm (w.pu.ne hh)
    · rcases List.mem_cons.mp hy with z | hy
      · rw [z]; exact Ne.symm (w.pu.ne hk)
      · exact w.ne y hy
  · rw [List.map_cons, List.map_cons, List.nodup_cons, List.nodup_cons]
    refine ⟨fun z => ?_, w.free hk, w.nd⟩
    rcases List.mem_cons.mp z with z | z
    · exact ne z
    · exact w.free hh z
theorem vdK_in {S : Sto} {f : Pc → List Str} : ∀ {ps : List Pc} {as : List Addr}, as.length = ps.length → (∀ (i : Nat) (a : Addr) (p : Pc), as[i]? = some a → ps[i]? = some p → S a = some (.lst ((f p).map D.str))) → VdK S (inD2 ps as) (ps.map fun p => ((.inr p.nm : Key), nmD (f p)))
  | [], [], _, _ => .nil
  | [], _ :: _, h, _ => by cases h
  | _ :: _, [], h, _ => by cases h
  | p :: ps, a :: as, h, k => .cons (.c (k 0 a p rfl rfl) (by nofun) .v) (vdK_in (Nat.succ.inj h) fun i a' p' h1 h2 => k (i + 1) a' p' h1 h2)
theorem ou_of {sp : Int} {ps : List Pc} (nd : (ps.map Pc.nm).Nodup) : (ps.map fun p => ((.inr p.nm : Key), nmD (goN sp ps p))) = ouDs (ps.map Pc.nm) (Eof sp ps) := by
  unfold ouDs
  rw [List.map_map]
  refine List.map_congr_left fun p hp => ?_
  show _ = ((.inr p.nm : Key), nmD (Eof sp ps p.nm))
  rw [Eof_at nd hp]
theorem Eof_in {sp : Int} {ps : List Pc} {n o : Str} (h : o ∈ Eof sp ps n) : o ∈ ps.map Pc.nm := by
  unfold Eof at h
  split at h
  · obtain ⟨q, hq, e, _⟩ := mem_goN h
    exact List.mem_map.mpr ⟨q, hq, e⟩
  · simp at h
theorem Eof_len {sp : Int} {ps : List Pc} {n : Str} : (Eof sp ps n).length ≤ ps.length := by
  unfold Eof
  split
  · unfold goN
    rw [List.length_map]
    exact List.length_filter_le _ _
  · exact Nat.zero_le _
theorem nd_len : ∀ {xs ys : List Str}, xs.Nodup → (∀ x ∈ xs, x ∈ ys) → xs.length ≤ ys.length
  | [], _, _, _ => Nat.zero_le _
  | x :: xs, ys, h, hm => by
    have hx := hm x (List.mem_cons_self ..)
    have hn := List.nodup_cons.mp h
    have := nd_len (xs := xs) (ys := ys.erase x) hn.2 fun z hz => (List.mem_erase_of_ne fun e => hn.1 (by rw [← e]; exact hz)).mpr (hm z (List.mem_cons_of_mem _ hz))
    rw [List.length_erase_of_mem hx] at this
    have : 0 < ys.length := List.length_pos_of_mem hx
    simp
    omega
/-- the parcels of names -/
theorem go_irr {sp : Int} {p : Pc} (gp : p.g) (s0 : 0 ≤ sp) : goB sp p p = false := by
  cases h : goB sp p p with
  | false => rfl
  | true =>
    obtain ⟨⟨a1, a2⟩, k1⟩ := goK_of gp s0 h
    unfold goK at k1
    obtain ⟨u, v, w, e⟩ := list3 (up_len [p.a, p.b, p.c])
    rw [e] at k1
    have k1 : (decide (u + sp + 2 * p.wl ≤ u) && (decide (v + sp + 2 * p.wl ≤ v) && decide (w + sp + 2 * p.wl ≤ w))) = true := k1
    simp only [Bool.and_eq_true, decide_eq_true_eq] at k1
    have := gp.wl.1
    omega
theorem Eof_irr {sp : Int} {ps : List Pc} (h : Hps ps) (s0 : 0 ≤ sp) (x : Str) : x ∉ Eof sp ps x := fun hx => by
  obtain ⟨p, hp, q, hq, rfl, e, g⟩ := Eof_mem hx
  have := pnm_inj h.n hq hp e
  subst this
  rw [go_irr (h.g q hq) s0] at g
  cases g
theorem pth_all {E : Str → List Str} (tr : ∀ x y z, y ∈ E x → z ∈ E y → z ∈ E x) : ∀ {r : List Str} {a : Str}, Pth E (a :: r) → ∀ z ∈ r, z ∈ E a
  | [], _, _, z, hz => by cases hz
  | b :: r, a, h, z, hz => by
    cases h with
    | cons h1 h2 =>
      rcases List.mem_cons.mp hz with rfl | hz
      · exact h1
      · exact tr _ _ _ h1 (pth_all tr h2 z hz)
theorem pth_tail {E : Str → List Str} {a : Str} {r : List Str} (h : Pth E (a :: r)) : Pth E r := by
  cases h with
  | one => exact .nil
  | cons h1 h2 => exact h2
theorem pth_nd {E : Str → List Str} (tr : ∀ x y z, y ∈ E x → z ∈ E y → z ∈ E x) (ir : ∀ x, x ∉ E x) : ∀ {zs : List Str}, Pth E zs → zs.Nodup
  | [], _ => .nil
  | a :: r, h => List.nodup_cons.mpr ⟨fun z => ir a (pth_all tr h a z), pth_nd tr ir (pth_tail h)⟩
theorem pcs_of {ps : List Pc} : ∀ {zs : List Str}, (∀ z ∈ zs, z ∈ ps.map Pc.nm) → ∃ qs : List Pc, zs = qs.map Pc.nm ∧ ∀ q ∈ qs, q ∈ ps
  | [], _ => ⟨[], rfl, nofun⟩
  | z :: zs, h => by
    obtain ⟨q, hq, rfl⟩ := List.mem_map.mp (h z (List.mem_cons_self ..))
    obtain ⟨qs, rfl, hqs⟩ := pcs_of (zs := zs) fun y hy => h y (List.mem_cons_of_mem _ hy)
    exact ⟨q :: qs, rfl, fun x hx => (List.mem_cons.mp hx).elim (fun e => e ▸ hq) (hqs x)⟩
theorem goes_pth {sp : Int} {ps : List Pc} (h : Hps ps) : ∀ {qs : List Pc}, (∀ q ∈ qs, q ∈ ps) → Pth (Eof sp ps) (qs.map Pc.nm) → Goes sp qs
  | [], _, _ => trivial
  | [_], _, _ => trivial
  | p :: q :: r, hm, hp => by
    have hp : Pth (Eof sp ps) (p.nm :: q.nm :: r.map Pc.nm) := hp
    cases hp with
    | cons h1 h2 =>
      refine ⟨?_, goes_pth h (qs := q :: r) (fun z hz => hm z (List.mem_cons_of_mem _ hz)) h2⟩
      rw [← Eof_go h (hm p (by simp)) (hm q (by simp))]
      exact decide_eq_true h1
theorem goes_pw {sp : Int} (s0 : 0 ≤ sp) : ∀ {qs : List Pc}, (∀ q ∈ qs, q.g) → Goes sp qs → qs.Pairwise fun p q => goB sp p q = true
  | [], _, _ => .nil
  | [_], _, _ => by simp
  | p :: q :: r, gz, hg => by
    have ih := goes_pw s0 (qs := q :: r) (fun z hz => gz z (List.mem_cons_of_mem _ hz)) hg.2
    refine List.pairwise_cons.mpr ⟨fun z hz => ?_, ih⟩
    rcases List.mem_cons.mp hz with rfl | hz
    · exact hg.1
    · exact go_trans (gz p (by simp)) (gz q (by simp)) s0 hg.1 ((List.pairwise_cons.mp ih).1 z hz)
theorem pw_goes {sp : Int} : ∀ {qs : List Pc}, (qs.Pairwise fun p q => goB sp p q = true) → Goes sp qs
  | [], _ => trivial
  | [_], _ => trivial
  | p :: q :: r, h => ⟨(List.pairwise_cons.mp h).1 q (by simp), pw_goes (qs := q :: r) (List.pairwise_cons.mp h).2⟩
theorem goes_sub {sp : Int} {qs rs : List Pc} (s0 : 0 ≤ sp) (gz : ∀ q ∈ qs, q.g) (hg : Goes sp qs) (h : rs.Sublist qs) : Goes sp rs := pw_goes ((goes_pw s0 gz hg).sublist h)
/-- the cards of one name -/
theorem one_card {ps : List Pc} (nd : (ps.map Pc.nm).Nodup) {q : Pc} (hq : q ∈ ps) : (ps.filter fun p => decide (p.nm = q.nm)) = [q] := by
  induction ps with
  | nil => cases hq
  | cons p ps ih =>
    rw [List.map_cons, List.nodup_cons] at nd
    by_cases e : p.nm = q.nm
    · have : p = q := by
        rcases List.mem_cons.mp hq with h | h
        · exact h.symm
        · exact absurd (List.mem_map.mpr ⟨q, h, e.symm⟩) nd.1
      subst this
      rw [List.filter_cons, if_pos (decide_eq_true rfl)]
      congr 1
      refine List.filter_eq_nil_iff.mpr fun x hx h => ?_
      exact nd.1 (List.mem_map.mpr ⟨x, hx, of_decide_eq_true h⟩)
    · rw [List.filter_cons, if_neg (by rw [decide_eq_false e]; decide)]
      refine ih nd.2 ?_
      rcases List.mem_cons.mp hq with h | h
      · exact absurd (by rw [h]) e
      · exact h
end LW
namespace LW
open PySem L2 C8 PySem.Spec PyProof.Rows VS
/-! ### the heap of the cards -/
def p_heap91 (CH CP CS : Addr) : Pt := fun ds S G _ => ∃ rs : List Pc, ds = [.lst (rs.map c9D)] ∧ C9s rs ∧ ∀ h l S', S h = none → S l = none → Ext S S' → HpS S' CH CP CS h l rs → G (.ref h) S'
theorem ve_mkPc {c : VS.Ctx} {ρ : Rho} {S : Sto} {F : D → Sto → Prop} {t : TA} {E : L2.St → XK} {CP CS : Addr}
    (h : VA c t ρ S fun ds S1 => ∃ nm a b d wl wt br mk, ds = [.str nm, sd CS a b d, .int wl, .int wt, .int br, .lst (mk.map D.str)] ∧ Pg nm a b d wl wt br mk ∧ F (pcD CP CS nm a b d wl wt br (mksOf mk)) S1) : VE c (tMakeE CP (spOf c.K (p_Pc_init CP CS)) [] E t) ρ S F :=
  ve_mk0 XOk.none (h.imp fun ds S1 ⟨nm, a, b, d, wl, wt, br, mk, e, g, q⟩ y hy => by
    subst e
    exact ⟨y, nm, a, b, d, wl, wt, br, mk, rfl, put_same, g, rfl, y, _, rfl, put_same, nofun, by rw [del_put2 hy]; exact q⟩)
local macro_rules | `(tactic| walk_at "gp") => `(tactic| with_reducible refine ve_mkPc ?_)
section
variable {P : Program} {w : World} {K : PySem.W.Frag} {mg : Str → Option Value} {base : Heap}
theorem ok__law_heap {f : Addr} {fd : FuncData} {C_Sides C_Parcel C_Heap C_Nest C_NoNumber C_NoSide C_NoSides C_NoOrder C_NoParcel C_NotInHeap C_NoNest C_Unnested : Addr} {f_Heap f_Heap_put f_Sides f_Parcel : Addr} {g_Heap g_Heap_put g_Sides g_Parcel : FuncData}
    (F : Fd K "_law_heap" "_law_heap" s__law_heap [] f fd) (T : Tx K mg) (hsys : SysOk base)
    (c_Heap : Kf P w K mg base 1 "Heap" C_Heap "Heap.__init__" s_Heap___init__ [] a_Heap___init__ (p_Hp_init C_Heap) f_Heap g_Heap)
    (c_Heap_put : Mf P w K mg base 3 C_Heap "put" "Heap.put" s_Heap_put [.non] a_Heap_put (p_Hp_put C_Heap C_Parcel C_Sides) f_Heap_put g_Heap_put)
    (d_Heap_put2 : Bd K g_Heap_put a_Heap_put [.non])
    (c_Sides : Kf P w K mg base 3 "Sides" C_Sides "Sides.__init__" s_Sides___init__ [] a_Sides___init__ (p_Sides_init K C_Sides C_NoSide) f_Sides g_Sides)
    (c_Parcel : Kf P w K mg base 3 "Parcel" C_Parcel "Parcel.__init__" s_Parcel___init__ [.int 1, .int 0, .int 0, .non] a_Parcel___init__ (p_Pc_init C_Parcel C_Sides) f_Parcel g_Parcel)
    (k_Heap : Kl_Heap K mg C_Heap)
    (k_Parcel : Kl_Parcel K mg C_Parcel)
    (k_Sides : Kl_Sides K mg C_Sides) :
    FnG P w K mg base (L2.CX P w) 6 f fd a__law_heap (spOf K (p_heap91 C_Heap C_Parcel C_Sides)) := by
  refine VS.unbox ?_
  simp (disch := with_unfolding_all
    have kc_Heap := k_Heap.ins.cl
    have ka_Heap_held := k_Heap.a_held
    have ka_Heap_told := k_Heap.a_told
    have ka_Heap_kind := k_Heap.a_kind
    have kc_Parcel := k_Parcel.ins.cl
    have ka_Parcel_called := k_Parcel.a_called
    have ka_Parcel_outside := k_Parcel.a_outside
    have ka_Parcel_thick := k_Parcel.a_thick
    have ka_Parcel_heavy := k_Parcel.a_heavy
    have ka_Parcel_strong := k_Parcel.a_strong
    have ka_Parcel_marks := k_Parcel.a_marks
    have ka_Parcel_told := k_Parcel.a_told
    have ka_Parcel_names := k_Parcel.a_names
    have kc_Sides := k_Sides.ins.cl
    have ka_Sides_three := k_Sides.a_three
    refine fn_val F sc__law_heap (fun ds S G Y h => ?_) (fun cdv A hgd outer s H E hr px tk po ds S G Y h => ?_)
    · obtain ⟨rs, rfl, _⟩ := h
      rfl
    · obtain ⟨rs, rfl, hrs, q⟩ := h
      refine ⟨_, (pss_cons (ps_set (i := 1) sc__law_heap.nd rfl (Or.inl rfl) (pe_kG0 c_Heap.mk_ c_Heap.fn hgd (hr.mono (by decide)) (by rfl) c_Heap.mg  c_Heap.b .nil VS.pass0))
        (pss_cons (ps_for po rfl (pi_list (pv 0)) (pg_tup (n := 5) rfl (pgs_cons (pg_name (i := 2) sc__law_heap.nd rfl (Or.inl rfl)) (pgs_cons (pg_tup (n := 3) rfl (pgs_cons (pg_name (i := 3) sc__law_heap.nd rfl (Or.inl rfl)) (pgs_cons (pg_name (i := 4) sc__law_heap.nd rfl (Or.inl rfl)) (pgs_cons (pg_name (i := 5) sc__law_heap.nd rfl (Or.inl rfl)) pgs_nil)))) (pgs_cons (pg_name (i := 6) sc__law_heap.nd rfl (Or.inl rfl)) (pgs_cons (pg_name (i := 7) sc__law_heap.nd rfl (Or.inl rfl)) (pgs_cons (pg_name (i := 8) sc__law_heap.nd rfl (Or.inl rfl)) pgs_nil))))))
        (pss_one (ps_expr (pe_mG (pv 1) c_Heap_put.cl c_Heap_put.me c_Heap_put.fn hgd (hr.mono (by decide)) d_Heap_put2.b d_Heap_put2.v VS.pass0 (pa_cons (pe_kG c_Parcel.mk_ c_Parcel.fn hgd (hr.mono (by decide)) (by rfl) c_Parcel.mg  c_Parcel.b .nil VS.pass0 (pa_cons (pv 2) (pa_cons (pe_kG c_Sides.mk_ c_Sides.fn hgd (hr.mono (by decide)) (by rfl) c_Sides.mg  c_Sides.b .nil VS.pass0 (pa_cons (pv 3) (pa_cons (pv 4) (pa_cons (pv 5) pa_nil)))) (pa_cons (pv 6) (pa_cons (pv 8) (pa_cons pe_int (pa_cons (pv 7) pa_nil))))))) pa_nil)))))
        (pss_one (ps_ret (pv 1))))), ?_⟩
      (try dsimp only [cxOf, List.map])
      show VX _ _ [_, _, _, _, _, _, _, _, _] _ _
      refine vx_seq (vx_asg ?_)
      refine ve_mkHp ?_
      refine va_nil ?_
      refine ⟨rfl, fun h' l' S1 nh nl x1 a1 a2 => ?_⟩
      walk_at "gr"
      refine vx_for (vi_list ?_)
      walk_at "gr"
      refine ⟨_, .v, fun k ρ2 S2 => Ext S S2 ∧ HpS S2 C_Heap C_Parcel C_Sides h' l' (rs.take k) ∧ ∃ x2 x3 x4 x5 x6 x7 x8, ρ2 = [some (.lst (rs.map c9D)), some (.ref h'), x2, x3, x4, x5, x6, x7, x8], ⟨x1, ⟨a1, a2⟩, _, _, _, _, _, _, _, rfl⟩, ?_, ?_⟩
      · rintro k d ρ2 S2 hd ⟨x2, hs2, y2, y3, y4, y5, y6, y7, y8, rfl⟩
        rw [List.getElem?_map] at hd
        cases e : rs[k]? with
        | none => rw [e] at hd; cases hd
        | some r =>
          rw [e] at hd
          cases hd
          have hk : k < rs.length := (List.getElem?_eq_some_iff.mp e).1
          have h12 := hrs.l
          have tk : rs.take (k + 1) = rs.take k ++ [r] := by rw [List.take_succ, e]; rfl
          have c1 := hs2.1
          have cr := hrs.c r (List.mem_of_getElem? e)
          have ga := cr.g.a
          have gb := cr.g.b
          have gc := cr.g.c
          unfold c9D
          walk_at "gr"
          refine ve_mt (dds := [.non]) (XOk.none (E := noE)) (fun _ _ => .cons .non .nil) ?_
          walk_at "gr"
          refine ⟨r.nm, r.a, r.b, r.c, r.wl, r.wt, 0, r.mk, rfl, by have := cr.g; rw [← cr.b]; exact this, ?_⟩
          rw [cr.m]
          walk_at "gr"
          refine ⟨h', l', rs.take k, r, by unfold Pc.d; rw [cr.b]; rfl, hs2, ?_, ?_, ?_⟩
          · have : (rs.take k).length ≤ k := by rw [List.length_take]; omega
            omega
          · have hn := hrs.n
            have es : rs.map Pc.nm = (rs.take (k + 1)).map Pc.nm ++ (rs.drop (k + 1)).map Pc.nm := by rw [← List.map_append, List.take_append_drop]
            rw [es, tk, List.map_append, List.nodup_append] at hn
            have hn := hn.1
            rw [List.nodup_append] at hn
            exact fun z => hn.2.2 _ z _ (List.mem_singleton.mpr rfl) rfl
          · refine ⟨Ext.wr nl x2, ?_, _, _, _, _, _, _, _, rfl⟩
            rw [tk]
            exact hs2.set
      · rintro ρ2 S2 ⟨x2, hs2, y2, y3, y4, y5, y6, y7, y8, rfl⟩
        rw [List.length_map, List.take_length] at hs2
        walk_at "gr"
        exact q h' l' S2 nh nl x2 hs2) only [↓VS.box]
end
end LW
namespace LW
open PySem L2 C8 PySem.Spec PyProof.Rows VS
/-! ### what goes in what is told, goes on, and a way outwards -/
def p_inside91 (CH CP CS : Addr) : Pt := fun ds S G _ => ∃ (x : D) (sp : Int) (ps : List Pc), ds = [x, .int sp] ∧ IsHp S CH CP CS x ps ∧ Hps ps ∧ 0 ≤ sp ∧ sp ≤ 1000 ∧
    ∀ (d : Addr) (as : List Addr) (S' : Sto), S d = none → as.length = ps.length → as.Nodup → d ∉ as → (∀ a ∈ as, S a = none) → Ext S S' → S' d = some (.dK (inD2 ps as)) → (∀ (i : Nat) (a : Addr) (p : Pc), as[i]? = some a → ps[i]? = some p → S' a = some (.lst ((goN sp ps p).map D.str))) → G (.ref d) S'
def p__law_goes_on : Pt := fun ds S G _ => ∃ (ns : List Str) (E : Str → List Str), ds = [.dK (ouDs ns E)] ∧ (∀ x, x ∉ E x) ∧ (∀ x ∈ ns, ∀ y ∈ E x, y ∈ ns) ∧ (∀ x y z, y ∈ E x → z ∈ E y → z ∈ E x) ∧ (∀ x, (E x).length ≤ 12) ∧ G (.bl true) S
def p__law_way : Pt := fun ds S G _ => ∃ (p : Addr) (n : Int) (ns : List Str) (E : Str → List Str) (L : List (Addr × D)), ds = [.ref p, .dK (ouDs ns E), nmD ns] ∧ Wd S p n L ∧ n < 700000 ∧ ns ≠ [] ∧ ns.length ≤ 12 ∧ (∀ x ∈ ns, ∀ y ∈ E x, y ∈ ns) ∧ (∀ x, (E x).length ≤ 12) ∧
  ∀ (zs : List Str) (S' : Sto), zs ≠ [] → (∀ z ∈ zs, z ∈ ns) → Pth E zs → zs.length ≤ 13 → Wd S' p (n + 60) L → G (nmD zs) S'
theorem pth_snoc {E : Str → List Str} : ∀ {zs : List Str} {a b : Str}, Pth E (zs ++ [a]) → b ∈ E a → Pth E (zs ++ [a] ++ [b])
  | [], a, b, _, h => .cons h .one
  | z :: zs, a, b, h, hb => by
    cases zs with
    | nil =>
      cases h with
      | cons h1 h2 => exact .cons h1 (.cons hb .one)
    | cons y zs =>
      cases h with
      | cons h1 h2 => exact .cons h1 (pth_snoc (zs := y :: zs) h2 hb)
section
variable {P : Program} {w : World} {K : PySem.W.Frag} {mg : Str → Option Value} {base : Heap}
theorem ok__law_inside {f : Addr} {fd : FuncData} {C_Sides C_Parcel C_Heap C_Nest C_NoNumber C_NoSide C_NoSides C_NoOrder C_NoParcel C_NotInHeap C_NoNest C_Unnested : Addr} {f_inside : Addr} {g_inside : FuncData}
    (F : Fd K "_law_inside" "_law_inside" s__law_inside [] f fd) (T : Tx K mg) (hsys : SysOk base)
    (c_inside : Cf P w K mg base (L2.CX P w) 8 "inside" s_inside [.int 0] a_inside (p_inside K C_Heap C_Parcel C_Sides C_NoNumber) f_inside g_inside)
    (d_inside1 : Bd K g_inside a_inside [.int 0])
    (k_Heap : Kl_Heap K mg C_Heap)
    (k_Parcel : Kl_Parcel K mg C_Parcel)
    (k_Sides : Kl_Sides K mg C_Sides) :
    FnG P w K mg base (L2.CX P w) 9 f fd a__law_inside (spOf K (p_inside91 C_Heap C_Parcel C_Sides)) := by
  refine VS.unbox ?_
  simp (disch := with_unfolding_all
    have kc_Heap := k_Heap.ins.cl
    have ka_Heap_held := k_Heap.a_held
    have ka_Heap_told := k_Heap.a_told
    have ka_Heap_kind := k_Heap.a_kind
    have kc_Parcel := k_Parcel.ins.cl
    have ka_Parcel_called := k_Parcel.a_called
    have ka_Parcel_outside := k_Parcel.a_outside
    have ka_Parcel_thick := k_Parcel.a_thick
    have ka_Parcel_heavy := k_Parcel.a_heavy
    have ka_Parcel_strong := k_Parcel.a_strong
    have ka_Parcel_marks := k_Parcel.a_marks
    have ka_Parcel_told := k_Parcel.a_told
    have ka_Parcel_names := k_Parcel.a_names
    have kc_Sides := k_Sides.ins.cl
    have ka_Sides_three := k_Sides.a_three
    refine fn_val F sc__law_inside (fun ds S G Y h => ?_) (fun cdv A hgd outer s H E hr px tk po ds S G Y h => ?_)
    · obtain ⟨x, sp, ps, rfl, _⟩ := h
      rfl
    · obtain ⟨x, sp, ps, rfl, hx, hps, s0, s1, q⟩ := h
      refine ⟨_, (pss_cons (ps_if (pt_cmpR op_eq (pv 1) pe_int (nomark _)) (pss_one (ps_ret (pe_cG c_inside.fn hgd (hr.mono (by decide)) (by rfl) c_inside.mg c_inside.kp d_inside1.b d_inside1.v VS.pass0 (pa_cons (pv 0) pa_nil))))
        pss_nil)
        (pss_one (ps_ret (pe_cG c_inside.fn hgd (hr.mono (by decide)) (by rfl) c_inside.mg c_inside.kp c_inside.b .nil VS.pass0 (pa_cons (pv 0) (pa_cons (pv 1) pa_nil)))))), ?_⟩
      (try dsimp only [cxOf, List.map])
      show VX _ _ [_, _] _ _
      walk_at "gr"
      refine br (fun e => ?_) (fun e => ?_)
      · subst e
        walk_at "gr"
        refine ve_fd (dds := [.int 0]) (XOk.none (E := noE)) (fun _ _ => .cons (.int _) .nil) ?_
        walk_at "gr"
        exact .inl ⟨x, 0, ps, rfl, hx, hps, s0, s1, q⟩
      · walk_at "gr"
        exact .inl ⟨x, sp, ps, rfl, hx, hps, s0, s1, q⟩) only [↓VS.box]
theorem ok__law_goes_on {f : Addr} {fd : FuncData} {C_Sides C_Parcel C_Heap C_Nest C_NoNumber C_NoSide C_NoSides C_NoOrder C_NoParcel C_NotInHeap C_NoNest C_Unnested : Addr}
    (F : Fd K "_law_goes_on" "_law_goes_on" s__law_goes_on [] f fd) (T : Tx K mg) (hsys : SysOk base) :
    FnG P w K mg base (L2.CX P w) 1 f fd a__law_goes_on (spOf K p__law_goes_on) := by
  refine VS.unbox ?_
  simp (disch := with_unfolding_all
    refine fn_val F sc__law_goes_on (fun ds S G Y h => ?_) (fun cdv A hgd outer s H E hr px tk po ds S G Y h => ?_)
    · obtain ⟨ns, E, rfl, _⟩ := h
      rfl
    · obtain ⟨ns, E, rfl, ir, hin, tr, l12, q⟩ := h
      refine ⟨_, (pss_cons (VS.ps_lk (ps_for po rfl (pi_keys (pv 0)) (pg_name (i := 1) sc__law_goes_on.nd rfl (Or.inr rfl))
        (pss_cons (ps_if (pt_cmpR op_in_seq (pv 1) (pe_dget (hu_of hr) (pv 0) (pv 1) (fun _ _ => rfl)) (by rfl)) (pss_one (ps_ret pe_bl))
        pss_nil)
        (pss_one (ps_for po rfl (pi_list (pe_dget (hu_of hr) (pv 0) (pv 1) (fun _ _ => rfl))) (pg_name (i := 2) sc__law_goes_on.nd rfl (Or.inl rfl))
        (pss_one (ps_if (pt_not (pt_val (pe_callB (cr_all rfl) (by rfl) T.b_all (by decide +kernel) (pa_cons (pe_lc (own := [("_law_third", 3)]) rfl sc__law_goes_on.nd (pi_list (pe_dget (hu_of hr) (pv 0) (pv 2) (fun _ _ => rfl))) (blkOk_by (own := [("_law_third", 3)]) (N := n__law_goes_on) (sc := defScope s__law_goes_on) (by decide +kernel)) (fun _ _ _ _ _ => (pg_name (i := 3) sc__law_goes_on.nd rfl (Or.inl rfl))) (fun _ _ _ _ _ => pts_nil) (fun _ _ _ _ _ => (pe_cmpR (kO (K := K) (r := (fun K => rIn K false)) op_in_seq) (pv 3) (pe_dget (hu_of hr) (pv 0) (pv 1) (fun _ _ => rfl)) (by rfl)))) pa_nil)))) (pss_one (ps_ret pe_bl))
        pss_nil)))))))
        (pss_one (ps_ret pe_bl))), ?_⟩
      (try dsimp only [cxOf, List.map])
      show VX _ _ [_, _, _, _] _ _
      walk_at "gr"
      refine vx_forKeys adr_slot (fun i ρ2 S2 => S2 = S ∧ ∃ x1 x2 x3, ρ2 = [some (.dK (ouDs ns E)), x1, x2, x3]) ⟨rfl, _, _, _, rfl⟩ ?_ ?_
      · rintro i k x ρ2 S2 e ⟨rfl, x1, x2, x3, rfl⟩
        unfold ouDs at e
        rw [List.getElem?_map] at e
        cases hn : ns[i]? with
        | none => rw [hn] at e; cases e
        | some n =>
          rw [hn] at e
          cases e
          have hnn := List.mem_of_getElem? hn
          show VG _ _ (.str n) _ _ _
          walk_at "gr"
          refine ve_dget ?_
          walk_at "gr"
          refine ⟨_, .inr n, _, .v, rfl, valD_ou hnn, ?_⟩
          unfold nmD
          refine rv_in (.l .v) rfl (flat_strs _) ?_
          rw [inD_strs, decide_eq_false (ir n)]
          walk_at "gr"
          refine vx_for (vi_list ?_)
          refine ve_dget ?_
          walk_at "gr"
          refine ⟨_, .inr n, _, .v, rfl, valD_ou hnn, ?_⟩
          unfold nmD
          refine ⟨_, .v, fun j ρ3 S3 => S3 = S2 ∧ ∃ x2 x3, ρ3 = [some (.dK (ouDs ns E)), some (.str n), x2, x3], ⟨rfl, _, _, rfl⟩, ?_, ?_⟩
          · rintro j d _ S3 hd ⟨rfl, x2, x3, rfl⟩
            obtain ⟨y, hy, rfl⟩ := List.mem_map.mp (List.mem_of_getElem? hd)
            have hyn := hin n hnn y hy
            walk_at "gr"
            refine ve_lcM (fun _ => .bl true) (vi_list ?_)
            refine ve_dget ?_
            walk_at "gr"
            refine ⟨_, .inr y, _, .v, rfl, valD_ou hyn, ?_⟩
            unfold nmD
            refine ⟨_, .v, by rw [List.length_map]; have := l12 y; omega, fun d hd => ?_, ?_⟩
            · obtain ⟨z, hz, rfl⟩ := List.mem_map.mp hd
              walk_at "gr"
              refine ⟨rfl, ?_⟩
              walk_at "gr"
              refine ve_dget ?_
              walk_at "gr"
              refine ⟨_, .inr n, _, .v, rfl, valD_ou hnn, ?_⟩
              unfold nmD
              refine rv_in (.l .v) rfl (flat_strs _) ?_
              rw [inD_strs, decide_eq_true (tr n y z hy hz)]
              exact ⟨rfl, rfl⟩
            walk_at "gr"
            refine rc_all (bs := (E y).map fun _ => true) (by rw [List.map_map, List.map_map]; exact .v) ?_
            rw [show ((E y).map fun _ => true).all id = true from List.all_eq_true.mpr fun x hx => by obtain ⟨_, _, rfl⟩ := List.mem_map.mp hx; rfl]
            walk_at "gr"
            exact ⟨rfl, _, _, rfl⟩
          · rintro _ S3 ⟨rfl, x2, x3, rfl⟩
            exact ⟨rfl, _, _, _, rfl⟩
      · rintro _ S2 ⟨rfl, x1, x2, x3, rfl⟩
        walk_at "gr"
        exact q) only [↓VS.box]
theorem ok__law_way {f : Addr} {fd : FuncData} {C_Sides C_Parcel C_Heap C_Nest C_NoNumber C_NoSide C_NoSides C_NoOrder C_NoParcel C_NotInHeap C_NoNest C_Unnested : Addr} {f__law_take : Addr} {g__law_take : FuncData}
    (F : Fd K "_law_way" "_law_way" s__law_way [] f fd) (T : Tx K mg) (hsys : SysOk base)
    (c__law_take : Cf P w K mg base (L2.CX P w) 1 "_law_take" s__law_take [] a__law_take p__law_take f__law_take g__law_take) :
    FnG P w K mg base (L2.CX P w) 2 f fd a__law_way (spOf K p__law_way) := by
  refine VS.unbox ?_
  simp (disch := with_unfolding_all
    refine fn_val F sc__law_way (fun ds S G Y h => ?_) (fun cdv A hgd outer s H E hr px tk po ds S G Y h => ?_)
    · obtain ⟨p, n, ns, E, L, rfl, _⟩ := h
      rfl
    · obtain ⟨p, n, ns, E, L, rfl, hp, hn, e0, n12, hE, hEl, q⟩ := h
      refine ⟨_, (pss_cons (ps_set (i := 3) sc__law_way.nd rfl (Or.inl rfl) (pe_lst (pa_cons (pe_ix ix_list (pv 2) (pe_cG c__law_take.fn hgd (hr.mono (by decide)) (by rfl) c__law_take.mg c__law_take.kp c__law_take.b .nil VS.pass0 (pa_cons (pv 0) (pa_cons (pe_callB c_len (by rfl) T.b_len (by decide +kernel) (pa_cons (pv 2) pa_nil)) pa_nil))) (fun _ _ => rfl)) pa_nil)))
        (pss_cons (ps_for po rfl (pi_range1 (by rfl) T.b_range (pa_cons pe_int pa_nil)) (pg_name (i := 4) sc__law_way.nd rfl (Or.inl rfl))
        (pss_cons (ps_set (i := 5) sc__law_way.nd rfl (Or.inl rfl) (pe_dget (hu_of hr) (pv 1) (pe_ix ix_list (pv 3) (pe_un un_neg pe_int) (fun _ _ => rfl)) (fun _ _ => rfl)))
        (pss_one (ps_if (PW.pt (pw_and (pt_cmpR (op_neE hr) (pv 5) (pe_lst pa_nil) (nomark _)) (pw_and1 (pt_cmpR op_gt (pe_cG c__law_take.fn hgd (hr.mono (by decide)) (by rfl) c__law_take.mg c__law_take.kp c__law_take.b .nil VS.pass0 (pa_cons (pv 0) (pa_cons pe_int pa_nil))) pe_int (nomark _))))) (pss_one (ps_expr (pe_bm PySem.F.plainAttrs_list PySem.F.slot_list_append PySem.F.type_list_append mt_append (pv 3) (pa_cons (pe_ix ix_list (pv 5) (pe_ix ix_list (pe_lst (pa_cons pe_int (pa_cons (pe_cG c__law_take.fn hgd (hr.mono (by decide)) (by rfl) c__law_take.mg c__law_take.kp c__law_take.b .nil VS.pass0 (pa_cons (pv 0) (pa_cons (pe_callB c_len (by rfl) T.b_len (by decide +kernel) (pa_cons (pv 5) pa_nil)) pa_nil))) pa_nil))) (pe_cG c__law_take.fn hgd (hr.mono (by decide)) (by rfl) c__law_take.mg c__law_take.kp c__law_take.b .nil VS.pass0 (pa_cons (pv 0) (pa_cons pe_int pa_nil))) (fun _ _ => rfl)) (fun _ _ => rfl)) pa_nil))))
        pss_nil))))
        (pss_one (ps_ret (pv 3))))), ?_⟩
      (try dsimp only [cxOf, List.map])
      show VX _ _ [_, _, _, _, _, _] _ _
      have npos : 0 < ns.length := List.length_pos_iff.mpr e0
      unfold nmD
      walk_at "gr"
      refine ve_lstc ?_
      walk_at "gr"
      intro d S1 d0 d1 w1
      clear hp
      refine rv_ixAll (fun x => ∃ z, x = .str z ∧ z ∈ ns) d0 (by rw [List.length_map] at d1 ⊢; exact d1) (fun x hx => by
        obtain ⟨z, hz, rfl⟩ := List.mem_map.mp hx
        exact ⟨z, rfl, hz⟩) ?_
      rintro x ⟨z0, rfl, hz0⟩
      walk_at "gr"
      intro f hf
      have w2 := w1.new (d := .lst [.str z0]) hf
      generalize VS.put S1 f (.lst [.str z0]) = S2 at w2 ⊢
      clear w1
      walk_at "gr"
      refine vx_for (vi_rng1 ?_)
      walk_at "gr"
      refine ⟨12, rfl, by decide, fun i ρ2 S4 => ∃ (ys : List Str) (z : Str) (x4 x5 : Option D), Pth E (ys ++ [z]) ∧ (∀ y ∈ ys ++ [z], y ∈ ns) ∧ ys.length ≤ i ∧ Wd S4 p (n + 2 + 4 * (i : Nat)) ((f, .lst ((ys ++ [z]).map D.str)) :: L) ∧ ρ2 = [some (.ref p), some (.dK (ouDs ns E)), some (.lst (ns.map D.str)), some (.ref f), x4, x5], ⟨[], z0, none, none, .one, fun y hy => by rw [List.mem_singleton.mp hy]; exact hz0, Nat.le_refl _, w2.mono (by omega), rfl⟩, ?_, ?_⟩
      · rintro i d _ S4 hd ⟨ys, z, x4, x5, hpth, hm, yl, w4, rfl⟩
        obtain ⟨im, rfl⟩ := rngD_get hd
        have i12 : (i : Int) < 12 := by omega
        clear w2 hd
        have hz : z ∈ ns := hm z (by simp)
        walk_at "gr"
        rw [List.map_append] at w4
        have w4' : Wd S4 p (n + 2 + 4 * (i : Nat)) ((f, .lst (ys.map D.str ++ [.str z])) :: L) := w4
        clear w4
        walk_at "gr"
        refine ve_dget ?_
        walk_at "gr"
        refine rv_ixL (.c w4'.g0) (atI_last91 _ _) ?_
        refine ⟨_, .inr z, _, .v, rfl, valD_ou hz, ?_⟩
        unfold nmD
        walk_at "gr"
        refine ve_lst ?_
        walk_at "gr"
        have stay : ∀ {S5 : Sto} {k : Int} {x4 x5 : Option D}, k ≤ n + 2 + 4 * ((i + 1 : Nat) : Int) → Wd S5 p k ((f, .lst (ys.map D.str ++ [.str z])) :: L) → ∃ (ys' : List Str) (z' : Str) (y4 y5 : Option D), Pth E (ys' ++ [z']) ∧ (∀ y ∈ ys' ++ [z'], y ∈ ns) ∧ ys'.length ≤ i + 1 ∧ Wd S5 p (n + 2 + 4 * ((i + 1 : Nat) : Int)) ((f, .lst ((ys' ++ [z']).map D.str)) :: L) ∧ [some (.ref p), some (.dK (ouDs ns E)), some (.lst (ns.map D.str)), some (.ref f), x4, x5] = [some (.ref p), some (.dK (ouDs ns E)), some (.lst (ns.map D.str)), some (.ref f), y4, y5] :=
          fun hk w5 => ⟨ys, z, _, _, hpth, hm, by omega, by rw [List.map_append]; exact w5.mono hk, rfl⟩
        refine ⟨fun hb => ?_, fun hb => ?_⟩
        · have mne : E z ≠ [] := fun e => by rw [e] at hb; cases hb
          have mpos : 0 < (E z).length := List.length_pos_iff.mpr mne
          have hEz := hEl z
          walk_at "gr"
          intro t S5 t0 t1 w5
          clear w4'
          walk_at "gr"
          refine br (fun e => ?_) (fun e => ?_)
          · walk_at "ga"
            intro u S6 u0 u1 w6
            clear w5
            walk_at "ga"
            intro v S7 v0 v1 w7
            clear w6
            have u1' : u < ((E z).length : Int) := by rw [List.length_map] at u1; exact u1
            refine rv_ixAll (fun x => ∃ k : Int, x = .int k ∧ 0 ≤ k ∧ k < ((E z).length : Int)) v0 v1 (ac ⟨0, rfl, by decide, by omega⟩ (ac ⟨u, rfl, u0, u1'⟩ an)) ?_
            rintro _ ⟨k, rfl, k0, k1⟩
            walk_at "gr"
            refine rv_ixAll (fun x => ∃ y, x = .str y ∧ y ∈ E z) k0 (by rw [List.length_map]; exact k1) (fun x hx => by
              obtain ⟨y, hy, rfl⟩ := List.mem_map.mp hx
              exact ⟨y, rfl, hy⟩) ?_
            rintro _ ⟨y, rfl, hy⟩
            walk_at "gr"
            have yz : (ys ++ [z]).length ≤ i + 1 := by rw [List.length_append]; show ys.length + 1 ≤ _; omega
            refine rm_append w7.g0 (by have := szl; rw [List.length_append, List.length_map]; show ys.length + 1 < _; omega) ?_
            have w8 := (w7.wr (d' := .lst ((ys ++ [z] ++ [y]).map D.str)) 0 rfl).mono (m := n + 2 + 4 * ((i + 1 : Nat) : Int)) (by omega)
            rw [show (ys ++ [z] ++ [y]).map D.str = ys.map D.str ++ [.str z] ++ [.str y] by rw [List.map_append, List.map_append]; rfl] at w8
            refine ⟨ys ++ [z], y, _, _, pth_snoc hpth hy, fun x hx => ?_, yz, ?_, rfl⟩
            · rcases List.mem_append.mp hx with hx | hx
              · exact hm x hx
              · rw [List.mem_singleton.mp hx]; exact hE z hz y hy
            · rw [show (ys ++ [z] ++ [y]).map D.str = ys.map D.str ++ [.str z] ++ [.str y] by rw [List.map_append, List.map_append]; rfl]
              exact w8
          · walk_at "gr"
            exact stay (by omega) w5
        · walk_at "gr"
          exact stay (by omega) w4'
      · rintro _ S4 ⟨ys, z, x4, x5, hpth, hm, yl, w4, rfl⟩
        rw [rngD_len] at yl w4
        have c4 := w4.g0
        refine vx_freeze 3 rfl c4 ?_
        walk_at "gr"
        refine q (ys ++ [z]) (VS.del S4 f) (by simp) hm hpth (by rw [List.length_append]; show _ + 1 ≤ 13; omega) ((w4.dl 0 rfl).mono (by omega))) only [↓VS.box]
end
end LW
namespace LW
open PySem L2 C8 PySem.Spec PyProof.Rows VS
/-! ### what the law looks at of a nest -/
structure Qs (sp : Int) (qs : List Pc) : Prop where
  g : ∀ q ∈ qs, q.g
  n : (qs.map Pc.nm).Nodup
  l : qs.length ≤ 12
  e : qs ≠ []
  go : Goes sp qs
def p__law_stands (CN CP CS : Addr) : Pt := fun ds S G _ => ∃ (qs : List Pc) (sp : Int), ds = [nsD CN CP CS sp qs, .lst (qs.map c9D)] ∧ Qs sp qs ∧ 0 ≤ sp ∧ G (.bl true) S
def p__law_lies_right (CN CP CS : Addr) : Pt := fun ds S G _ => ∃ (qs : List Pc) (sp : Int), ds = [nsD CN CP CS sp qs, .lst (qs.map c9D), .int sp] ∧ Qs sp qs ∧ 0 ≤ sp ∧ sp ≤ 1000 ∧ ∀ S', Ext S S' → G (.bl true) S'
theorem c9_nm (qs : List Pc) : (qs.map c9D).map nmT = (qs.map Pc.nm).map D.str := by
  rw [List.map_map, List.map_map]
  rfl
def wtT : D → D
  | .tup [_, _, _, _, w] => w
  | _ => .non
theorem c9_wt (qs : List Pc) : (qs.map c9D).map wtT = (qs.map Pc.wt).map D.int := by
  rw [List.map_map, List.map_map]
  rfl
theorem sum_wt : ∀ {qs : List Pc}, (∀ q ∈ qs, q.g) → 0 ≤ (qs.map Pc.wt).sum ∧ (qs.map Pc.wt).sum ≤ 100000 * (qs.length : Int)
  | [], _ => by simp
  | q :: qs, h => by
    have := sum_wt (qs := qs) fun x hx => h x (List.mem_cons_of_mem _ hx)
    have := (h q (List.mem_cons_self ..)).wt
    rw [List.map_cons, List.sum_cons, List.length_cons]
    omega
theorem Pc.asc {p : Pc} (h : p.g) : Asc 19 p.nm := (Pg.asc h).mono (by decide)
theorem nms_ok {qs : List Pc} (h : ∀ q ∈ qs, q.g) (hl : qs.length ≤ 12) : Ok (.lst ((qs.map Pc.nm).map D.str)) 2500 4 :=
  (Ok.lst 12 (n := 200) (k := 2) (fun y hy => by
    obtain ⟨z, hz, rfl⟩ := List.mem_map.mp hy
    obtain ⟨q, hq, rfl⟩ := List.mem_map.mp hz
    exact ok_strB (Pc.asc (h q hq)) (by decide)) (by rw [List.length_map, List.length_map]; exact hl) (by decide)).mono (by decide) (by decide)
/-- how a parcel lies by an order -/
def lyD (q : Pc) (o : List Int) : D := .lst (o.map fun n => .int (sdI q n))
def lyL (sp : Int) (qs : List Pc) : List D := List.zipWith lyD qs (lies sp qs)
theorem lyL_at {sp : Int} {qs : List Pc} {i : Nat} {q : Pc} (h : qs[i]? = some q) : (lyL sp qs)[i]? = some (lyD q (lieI (waysI sp (qs.drop i)))) := by
  have hi := (List.getElem?_eq_some_iff.mp h).1
  unfold lyL
  rw [List.getElem?_zipWith, h, lies_at hi]
def sdF (r : Pc) : D → D
  | .int n => .int (sdI r n)
  | _ => .non
theorem perm_three {o : List Int} (h : o ∈ perms) : o.length = 3 := by
  have : ∀ o ∈ perms, o.length = 3 := by decide
  exact this o h
theorem tn_atI {a b c n : Int} (n0 : 0 ≤ n) (n2 : n ≤ 2) : atI ([.int a, .int b, .int c] : List D) n = some (.int (tn a b c n)) := by
  have : n = 0 ∨ n = 1 ∨ n = 2 := by omega
  rcases this with rfl | rfl | rfl <;> rfl
theorem ok_ord {o : List Int} (h : o ∈ perms) : Ok (ordD o) 1000 3 := by
  unfold ordD
  refine Ok.mono (Ok.tup 3 (n := 200) (k := 2) (fun y hy => ?_) (by rw [List.length_map, perm_three h]; exact Nat.le_refl 3) (by decide) (by decide)) (by decide) (by decide)
  obtain ⟨n, hn, rfl⟩ := List.mem_map.mp hy
  have := perm_in h n hn
  exact ok_int (by omega)
theorem in_ords : ∀ o ∈ perms, ((pdL ords).any fun z => PyData.eqv z (pd (ordD o))) = true := by decide +kernel
def le2D (sp k : Int) : D → D
  | .tup [.int u, .int v] => .bl (decide (u + sp ≤ v - k))
  | _ => .non
section
variable {P : Program} {w : World} {K : PySem.W.Frag} {mg : Str → Option Value} {base : Heap}
theorem ok__law_stands {f : Addr} {fd : FuncData} {C_Sides C_Parcel C_Heap C_Nest C_NoNumber C_NoSide C_NoSides C_NoOrder C_NoParcel C_NotInHeap C_NoNest C_Unnested : Addr} {f_Nest_names f_Nest___len__ f_Nest___str__ f_Nest_outer f_Parcel_name f_Parcel_sides f_Sides_told f_Nest_weight f_Nest_turns : Addr} {g_Nest_names g_Nest___len__ g_Nest___str__ g_Nest_outer g_Parcel_name g_Parcel_sides g_Sides_told g_Nest_weight g_Nest_turns : FuncData}
    (F : Fd K "_law_stands" "_law_stands" s__law_stands [] f fd) (T : Tx K mg) (hsys : SysOk base)
    (c_Nest_names : Mf P w K mg base 2 C_Nest "names" "Nest.names" s_Nest_names [] a_Nest_names (p_Ns_names C_Nest C_Parcel C_Sides) f_Nest_names g_Nest_names)
    (c_Nest___len__ : Mf P w K mg base 1 C_Nest "__len__" "Nest.__len__" s_Nest___len__ [] a_Nest___len__ (p_Ns_len C_Nest C_Parcel C_Sides) f_Nest___len__ g_Nest___len__)
    (c_Nest___str__ : Mf P w K mg base 2 C_Nest "__str__" "Nest.__str__" s_Nest___str__ [] a_Nest___str__ (p_Ns_str C_Nest C_Parcel C_Sides) f_Nest___str__ g_Nest___str__)
    (c_Nest_outer : Mf P w K mg base 1 C_Nest "outer" "Nest.outer" s_Nest_outer [] a_Nest_outer (p_Ns_outer C_Nest C_Parcel C_Sides) f_Nest_outer g_Nest_outer)
    (c_Parcel_name : Mf P w K mg base 1 C_Parcel "name" "Parcel.name" s_Parcel_name [] a_Parcel_name (p_Pc_name C_Parcel C_Sides) f_Parcel_name g_Parcel_name)
    (c_Parcel_sides : Mf P w K mg base 1 C_Parcel "sides" "Parcel.sides" s_Parcel_sides [] a_Parcel_sides (p_Pc_sides C_Parcel C_Sides) f_Parcel_sides g_Parcel_sides)
    (c_Sides_told : Mf P w K mg base 1 C_Sides "told" "Sides.told" s_Sides_told [] a_Sides_told (p_told C_Sides) f_Sides_told g_Sides_told)
    (c_Nest_weight : Mf P w K mg base 2 C_Nest "weight" "Nest.weight" s_Nest_weight [] a_Nest_weight (p_Ns_weight C_Nest C_Parcel C_Sides) f_Nest_weight g_Nest_weight)
    (c_Nest_turns : Mf P w K mg base 1 C_Nest "turns" "Nest.turns" s_Nest_turns [] a_Nest_turns (p_Ns_turns C_Nest C_Parcel C_Sides) f_Nest_turns g_Nest_turns)
    (k_Nest : Kl_Nest K mg C_Nest)
    (k_Heap : Kl_Heap K mg C_Heap)
    (k_Parcel : Kl_Parcel K mg C_Parcel)
    (k_Sides : Kl_Sides K mg C_Sides) :
    FnG P w K mg base (L2.CX P w) 6 f fd a__law_stands (spOf K (p__law_stands C_Nest C_Parcel C_Sides)) := by
  refine VS.unbox ?_
  simp (disch := with_unfolding_all
    have kc_Nest := k_Nest.ins.cl
    have ka_Nest_layers := k_Nest.a_layers
    have ka_Nest_ways := k_Nest.a_ways
    have kc_Heap := k_Heap.ins.cl
    have ka_Heap_held := k_Heap.a_held
    have ka_Heap_told := k_Heap.a_told
    have ka_Heap_kind := k_Heap.a_kind
    have kc_Parcel := k_Parcel.ins.cl
    have ka_Parcel_called := k_Parcel.a_called
    have ka_Parcel_outside := k_Parcel.a_outside
    have ka_Parcel_thick := k_Parcel.a_thick
    have ka_Parcel_heavy := k_Parcel.a_heavy
    have ka_Parcel_strong := k_Parcel.a_strong
    have ka_Parcel_marks := k_Parcel.a_marks
    have ka_Parcel_told := k_Parcel.a_told
    have ka_Parcel_names := k_Parcel.a_names
    have kc_Sides := k_Sides.ins.cl
    have ka_Sides_three := k_Sides.a_three
    refine fn_val F sc__law_stands (fun ds S G Y h => ?_) (fun cdv A hgd outer s H E hr px tk po ds S G Y h => ?_)
    · obtain ⟨qs, sp, rfl, _⟩ := h
      rfl
    · obtain ⟨qs, sp, rfl, hq, s0, q⟩ := h
      refine ⟨_, (pss_cons (ps_setLc (i := 2) (own := [("_law_card", 4)]) rfl sc__law_stands.nd rfl rfl (sw_true rfl rfl rfl (by decide +kernel)) (pi_list (pv 1)) (blkOk_by (own := [("_law_card", 4)]) (N := n__law_stands) (sc := defScope s__law_stands) (by decide +kernel)) (fun _ _ _ _ _ => (pg_name (i := 4) sc__law_stands.nd rfl (Or.inl rfl))) (fun _ _ _ _ _ => pts_nil) (fun _ _ _ _ _ => (pe_ix (kI (K := K) (r := rIxT) ix_tup) (pv 4) pe_int (fun _ _ => rfl))))
        (pss_cons (ps_if (PW.pt (pw_or (pt_cmpR op_ne (pe_callB (c_repr hgd hr hsys) (by rfl) T.b_repr (by decide +kernel) (pa_cons (pe_mG0 (pv 0) c_Nest_names.cl c_Nest_names.me c_Nest_names.fn hgd (hr.mono (by decide)) c_Nest_names.b .nil VS.pass0) pa_nil)) (pe_callB (c_repr hgd hr hsys) (by rfl) T.b_repr (by decide +kernel) (pa_cons (pv 2) pa_nil)) (nomark _)) (pw_or (pt_cmpR op_ne (pe_callB (c_lenO c_Nest___len__.fn hgd (hr.mono (by decide)) c_Nest___len__.me.at_ c_Nest___len__.me.fn c_Nest___len__.b) (by rfl) T.b_len (by decide +kernel) (pa_cons (pv 0) pa_nil)) (pe_callB c_len (by rfl) T.b_len (by decide +kernel) (pa_cons (pv 2) pa_nil)) (nomark _)) (pw_or1 (pt_cmpR op_ne (pe_callTy (c_strO c_Nest___str__.fn hgd (hr.mono (by decide)) c_Nest___str__.me.at_ c_Nest___str__.me.fn c_Nest___str__.b) (by rfl) T.b_str (by decide +kernel) (pa_cons (pv 0) pa_nil)) (pe_m1 PySem.F.slot_str_join PySem.F.type_str_join m_join pe_str (pv 2)) (nomark _)))))) (pss_one (ps_ret pe_bl))
        pss_nil)
        (pss_cons (ps_set (i := 3) sc__law_stands.nd rfl (Or.inl rfl) (pe_mG0 (pv 0) c_Nest_outer.cl c_Nest_outer.me c_Nest_outer.fn hgd (hr.mono (by decide)) c_Nest_outer.b .nil VS.pass0))
        (pss_cons (ps_if (pt_cmpR op_ne (pe_callB (c_repr hgd hr hsys) (by rfl) T.b_repr (by decide +kernel) (pa_cons (pe_tup (pa_cons (pe_mG0 (pv 3) c_Parcel_name.cl c_Parcel_name.me c_Parcel_name.fn hgd (hr.mono (by decide)) c_Parcel_name.b .nil VS.pass0) (pa_cons (pe_mG0 (pe_mG0 (pv 3) c_Parcel_sides.cl c_Parcel_sides.me c_Parcel_sides.fn hgd (hr.mono (by decide)) c_Parcel_sides.b .nil VS.pass0) c_Sides_told.cl c_Sides_told.me c_Sides_told.fn hgd (hr.mono (by decide)) c_Sides_told.b .nil VS.pass0) pa_nil))) pa_nil)) (pe_callB (c_repr hgd hr hsys) (by rfl) T.b_repr (by decide +kernel) (pa_cons (pe_tup (pa_cons (pe_ix ix_list (pv 2) (pe_un un_neg pe_int) (fun _ _ => rfl)) (pa_cons (pe_ix ix_tup (pe_ix ix_list (pv 1) (pe_un un_neg pe_int) (fun _ _ => rfl)) pe_int (fun _ _ => rfl)) pa_nil))) pa_nil)) (nomark _)) (pss_one (ps_ret pe_bl))
        pss_nil)
        (pss_one (ps_ret (pe_and (pe_cmpR op_eq (pe_callB (c_repr hgd hr hsys) (by rfl) T.b_repr (by decide +kernel) (pa_cons (pe_mG0 (pv 0) c_Nest_weight.cl c_Nest_weight.me c_Nest_weight.fn hgd (hr.mono (by decide)) c_Nest_weight.b .nil VS.pass0) pa_nil)) (pe_callTy c_strInt (by rfl) T.b_str (by decide +kernel) (pa_cons (pe_callB (cr_sum rfl) (by rfl) T.b_sum (by decide +kernel) (pa_cons (pe_lc (own := [("_law_card", 4)]) rfl sc__law_stands.nd (pi_list (pv 1)) (blkOk_by (own := [("_law_card", 4)]) (N := n__law_stands) (sc := defScope s__law_stands) (by decide +kernel)) (fun _ _ _ _ _ => (pg_name (i := 4) sc__law_stands.nd rfl (Or.inl rfl))) (fun _ _ _ _ _ => pts_nil) (fun _ _ _ _ _ => (pe_ix (kI (K := K) (r := rIxT) ix_tup) (pv 4) pe_int (fun _ _ => rfl)))) pa_nil)) pa_nil)) (nomark _)) (pe_one (pe_cmpR op_eq (pe_callB c_len (by rfl) T.b_len (by decide +kernel) (pa_cons (pe_mG0 (pv 0) c_Nest_turns.cl c_Nest_turns.me c_Nest_turns.fn hgd (hr.mono (by decide)) c_Nest_turns.b .nil VS.pass0) pa_nil)) (pe_op op_sub (pe_callB c_len (by rfl) T.b_len (by decide +kernel) (pa_cons (pv 2) pa_nil)) pe_int) (nomark _)))))))))), ?_⟩
      (try dsimp only [cxOf, List.map])
      show VX _ _ [_, _, _, _, _] _ _
      have q12 := hq.l
      walk_at "gr"
      refine ve_lcM nmT (vi_list ?_)
      walk_at "gr"
      refine ⟨_, .v, by rw [List.length_map]; omega, fun d hd => ?_, ?_⟩
      · obtain ⟨x, hx, rfl⟩ := List.mem_map.mp hd
        unfold c9D
        walk_at "gr"
        refine ⟨rfl, ?_⟩
        walk_at "gr"
        exact ⟨rfl, rfl⟩
      rw [c9_nm]
      walk_at "gr"
      refine ⟨qs, sp, rfl, q12, ?_⟩
      unfold nmD
      walk_at "gr"
      refine rc_reprS .v (nms_ok hq.g q12).sh (by decide) (by decide) ?_
      walk_at "gr"
      refine rc_reprS .v (nms_ok hq.g q12).sh (by decide) (by decide) ?_
      refine rv_neSame ?_
      walk_at "gr"
      refine rc_lenO .v ⟨qs, sp, rfl, by omega, _, rfl, by omega, by omega, ?_⟩
      walk_at "gr"
      refine brNd (by simp) ?_
      walk_at "gr"
      refine rc_strO .v ⟨qs, sp, rfl, q12, hq.g, _, rfl, ?_⟩
      walk_at "gr"
      refine rm_join (.l .v) (join_room hq.g q12) ?_
      refine rv_neSame ?_
      walk_at "gr"
      obtain ⟨rs, z, rfl⟩ : ∃ rs z, qs = rs ++ [z] := ⟨_, _, (List.dropLast_concat_getLast hq.e).symm⟩
      refine ⟨rs, z, sp, rfl, ?_⟩
      walk_at "gr"
      refine ⟨z.nm, z.a, z.b, z.c, z.wl, z.wt, z.br, z.mk, rfl, ?_⟩
      walk_at "gr"
      refine ⟨z.nm, z.a, z.b, z.c, z.wl, z.wt, z.br, z.mk, rfl, ?_⟩
      walk_at "gr"
      have gz := hq.g z (by simp)
      have ga := gz.a
      have gb := gz.b
      have gc := gz.c
      unfold In1 at ga gb gc
      have shz : Ok (.tup [.str z.nm, .tup [.int z.a, .int z.b, .int z.c]]) 2000 4 := Ok.mono (Ok.tup 2 (all2 ((ok_strB (Pc.asc gz) (by decide)).mono (m := 700) (j := 3) (by decide) (by decide)) (Ok.mono (Ok.tup 3 (all3 (ok_int (by omega)) (ok_int (by omega)) (ok_int (by omega))) (Nat.le_refl 3) (by decide) (by decide)) (by decide) (by decide))) (Nat.le_refl 2) (by decide) (by decide)) (by decide) (by decide)
      refine rc_reprS .v shz.sh (by decide) (by decide) ?_
      walk_at "gr"
      refine rv_ixL .v (d := .str z.nm) (by rw [List.map_append, List.map_append]; exact atI_last91 _ _) ?_
      walk_at "gr"
      refine rv_ixL .v (d := c9D z) (by rw [List.map_append]; exact atI_last91 _ _) ?_
      walk_at "gr"
      refine rv_ixT (d := .tup [.int z.a, .int z.b, .int z.c]) rfl ?_
      walk_at "gr"
      refine rc_reprS .v shz.sh (by decide) (by decide) ?_
      refine rv_neSame ?_
      walk_at "gr"
      refine ⟨rs ++ [z], sp, rfl, by omega, ?_⟩
      have sw := sum_wt hq.g
      walk_at "gr"
      refine rc_reprS .v (ok_int (i := ((rs ++ [z]).map Pc.wt).sum) (by omega)).sh (by decide) (by decide) ?_
      walk_at "gr"
      refine ve_lcM wtT (vi_list ?_)
      walk_at "gr"
      refine ⟨_, .v, by rw [List.length_map]; omega, fun d hd => ?_, ?_⟩
      · obtain ⟨x, hx, rfl⟩ := List.mem_map.mp hd
        unfold c9D
        walk_at "gr"
        refine ⟨rfl, ?_⟩
        walk_at "gr"
        exact ⟨rfl, rfl⟩
      rw [c9_wt]
      walk_at "gr"
      refine rc_sum .v ?_
      walk_at "gr"
      have he : (pd (D.int ((rs ++ [z]).map Pc.wt).sum)).shown = Str.ofString (toString ((rs ++ [z]).map Pc.wt).sum) := rfl
      rw [he, decide_eq_true rfl]
      refine ⟨fun _ => ?_, fun e => by cases e⟩
      walk_at "gr"
      refine ⟨rs ++ [z], sp, rfl, ?_⟩
      walk_at "gr"
      have lw : ((waysI sp (rs ++ [z])).map ordD).length = rs.length := by rw [List.length_map, ways_len, List.length_append]; rfl
      have ln : (((rs ++ [z]).map Pc.nm).map D.str).length = rs.length + 1 := by rw [List.length_map, List.length_map, List.length_append]; rfl
      rw [lw, ln, decide_eq_true (by omega)]
      exact q) only [↓VS.box]
theorem ok__law_lies_right {f : Addr} {fd : FuncData} {C_Sides C_Parcel C_Heap C_Nest C_NoNumber C_NoSide C_NoSides C_NoOrder C_NoParcel C_NotInHeap C_NoNest C_Unnested : Addr} {f_Nest_lies : Addr} {g_Nest_lies : FuncData}
    (F : Fd K "_law_lies_right" "_law_lies_right" s__law_lies_right [] f fd) (T : Tx K mg) (hsys : SysOk base)
    (c_Nest_lies : Mf P w K mg base 3 C_Nest "lies" "Nest.lies" s_Nest_lies [] a_Nest_lies (p_Ns_lies K C_Nest C_Parcel C_Sides C_NotInHeap) f_Nest_lies g_Nest_lies)
    (k_Nest : Kl_Nest K mg C_Nest)
    (k_Heap : Kl_Heap K mg C_Heap)
    (k_Parcel : Kl_Parcel K mg C_Parcel)
    (k_Sides : Kl_Sides K mg C_Sides) :
    FnG P w K mg base (L2.CX P w) 4 f fd a__law_lies_right (spOf K (p__law_lies_right C_Nest C_Parcel C_Sides)) := by
  refine VS.unbox ?_
  simp (disch := with_unfolding_all
    have kc_Nest := k_Nest.ins.cl
    have ka_Nest_layers := k_Nest.a_layers
    have ka_Nest_ways := k_Nest.a_ways
    have kc_Heap := k_Heap.ins.cl
    have ka_Heap_held := k_Heap.a_held
    have ka_Heap_told := k_Heap.a_told
    have ka_Heap_kind := k_Heap.a_kind
    have kc_Parcel := k_Parcel.ins.cl
    have ka_Parcel_called := k_Parcel.a_called
    have ka_Parcel_outside := k_Parcel.a_outside
    have ka_Parcel_thick := k_Parcel.a_thick
    have ka_Parcel_heavy := k_Parcel.a_heavy
    have ka_Parcel_strong := k_Parcel.a_strong
    have ka_Parcel_marks := k_Parcel.a_marks
    have ka_Parcel_told := k_Parcel.a_told
    have ka_Parcel_names := k_Parcel.a_names
    have kc_Sides := k_Sides.ins.cl
    have ka_Sides_three := k_Sides.a_three
    refine fn_val F sc__law_lies_right (fun ds S G Y h => ?_) (fun cdv A hgd outer s H E hr px tk po ds S G Y h => ?_)
    · obtain ⟨qs, sp, rfl, _⟩ := h
      rfl
    · obtain ⟨qs, sp, rfl, hq, s0, s1, q⟩ := h
      refine ⟨_, (pss_cons (ps_set (i := 3) sc__law_lies_right.nd rfl (Or.inl rfl) (pe_lst pa_nil))
        (pss_cons (ps_for po rfl (pi_list (pv 1)) (pg_tup (n := 5) rfl (pgs_cons (pg_name (i := 4) sc__law_lies_right.nd rfl (Or.inl rfl)) (pgs_cons (pg_name (i := 5) sc__law_lies_right.nd rfl (Or.inr rfl)) (pgs_cons (pg_name (i := 6) sc__law_lies_right.nd rfl (Or.inr rfl)) (pgs_cons (pg_name (i := 7) sc__law_lies_right.nd rfl (Or.inl rfl)) (pgs_cons (pg_name (i := 8) sc__law_lies_right.nd rfl (Or.inl rfl)) pgs_nil))))))
        (pss_cons (ps_set (i := 9) sc__law_lies_right.nd rfl (Or.inl rfl) (pe_mG (pv 0) c_Nest_lies.cl c_Nest_lies.me c_Nest_lies.fn hgd (hr.mono (by decide)) c_Nest_lies.b .nil VS.pass0 (pa_cons (pv 4) pa_nil)))
        (pss_cons (ps_if (pt_cmpR (op_notInPL hr hsys) (pv 9) (pe_lst (pa_cons (pe_tup (pa_cons pe_int (pa_cons pe_int (pa_cons pe_int pa_nil)))) (pa_cons (pe_tup (pa_cons pe_int (pa_cons pe_int (pa_cons pe_int pa_nil)))) (pa_cons (pe_tup (pa_cons pe_int (pa_cons pe_int (pa_cons pe_int pa_nil)))) (pa_cons (pe_tup (pa_cons pe_int (pa_cons pe_int (pa_cons pe_int pa_nil)))) (pa_cons (pe_tup (pa_cons pe_int (pa_cons pe_int (pa_cons pe_int pa_nil)))) (pa_cons (pe_tup (pa_cons pe_int (pa_cons pe_int (pa_cons pe_int pa_nil)))) pa_nil))))))) (by rfl)) (pss_one (ps_ret pe_bl))
        pss_nil)
        (pss_cons (ps_setLc (i := 10) (own := [("_law_number", 12)]) rfl sc__law_lies_right.nd rfl rfl (sw_true rfl rfl rfl (by decide +kernel)) (pi_tup (pv 9)) (blkOk_by (own := [("_law_number", 12)]) (N := n__law_lies_right) (sc := defScope s__law_lies_right) (by decide +kernel)) (fun _ _ _ _ _ => (pg_name (i := 12) sc__law_lies_right.nd rfl (Or.inl rfl))) (fun _ _ _ _ _ => pts_nil) (fun _ _ _ _ _ => (pe_ix (kI (K := K) (r := rIxT) ix_tup) (pv 5) (pv 12) (fun _ _ => rfl))))
        (pss_cons (ps_for po rfl (pi_list (pv 3)) (pg_name (i := 11) sc__law_lies_right.nd rfl (Or.inl rfl))
        (pss_one (ps_if (pt_not (pt_val (pe_callB (cr_all rfl) (by rfl) T.b_all (by decide +kernel) (pa_cons (pe_lc (own := [("_law_side", 13), ("_law_most", 14)]) rfl sc__law_lies_right.nd (pi_zip (by rfl) T.b_zip (pa_cons (pv 11) (pa_cons (pv 10) pa_nil))) (blkOk_by (own := [("_law_side", 13), ("_law_most", 14)]) (N := n__law_lies_right) (sc := defScope s__law_lies_right) (by decide +kernel)) (fun _ _ _ _ _ => (kTup (K := K) (pg_tup (n := 2) rfl (pgs_cons (pg_name (i := 13) sc__law_lies_right.nd rfl (Or.inl rfl)) (pgs_cons (pg_name (i := 14) sc__law_lies_right.nd rfl (Or.inl rfl)) pgs_nil))))) (fun _ _ _ _ _ => pts_nil) (fun _ _ _ _ _ => (pe_cmpR op_le (pe_op op_add (pv 13) (pv 2)) (pe_op op_sub (pv 14) (pe_op op_mulW pe_int (pv 6))) (nomark _)))) pa_nil)))) (pss_one (ps_ret pe_bl))
        pss_nil)))
        (pss_one (ps_expr (pe_bm PySem.F.plainAttrs_list PySem.F.slot_list_append PySem.F.type_list_append mt_append (pv 3) (pa_cons (pv 10) pa_nil)))))))))
        (pss_one (ps_ret (pe_cmpR op_eq (pe_callB (c_repr hgd hr hsys) (by rfl) T.b_repr (by decide +kernel) (pa_cons (pe_mG (pv 0) c_Nest_lies.cl c_Nest_lies.me c_Nest_lies.fn hgd (hr.mono (by decide)) c_Nest_lies.b .nil VS.pass0 (pa_cons (pe_ix ix_tup (pe_ix ix_list (pv 1) (pe_un un_neg pe_int) (fun _ _ => rfl)) pe_int (fun _ _ => rfl)) pa_nil)) pa_nil)) pe_str (nomark _)))))), ?_⟩
      (try dsimp only [cxOf, List.map])
      show VX _ _ [_, _, _, _, _, _, _, _, _, _, _, _, _, _, _] _ _
      have q12 := hq.l
      walk_at "gr"
      refine ve_lstc ?_
      walk_at "gr"
      intro f hf
      have c1 : (put S f (.lst [])) f = some (.lst ((lyL sp qs).take 0)) := put_same
      have x1 := Ext.put (S := S) (d := .lst []) hf
      generalize put S f (.lst []) = S1 at c1 x1 ⊢
      walk_at "gr"
      refine vx_for (vi_list ?_)
      walk_at "gr"
      refine ⟨_, .v, fun i ρ2 S2 => S2 f = some (.lst ((lyL sp qs).take i)) ∧ Ext S S2 ∧ ∃ x4 x5 x6 x7 x8 x9 x10 x11, ρ2 = [some (nsD C_Nest C_Parcel C_Sides sp qs), some (.lst (qs.map c9D)), some (.int sp), some (.ref f), x4, x5, x6, x7, x8, x9, x10, x11, none, none, none], ⟨c1, x1, _, _, _, _, _, _, _, _, rfl⟩, ?_, ?_⟩
      · clear c1 x1
        rintro i d _ S2 hd ⟨c2, x2, x4, x5, x6, x7, x8, x9, x10, x11, rfl⟩
        rw [List.getElem?_map] at hd
        cases e : qs[i]? with
        | none => rw [e] at hd; cases hd
        | some r =>
          rw [e] at hd
          cases hd
          have hi : i < qs.length := (List.getElem?_eq_some_iff.mp e).1
          have gr := hq.g r (List.mem_of_getElem? e)
          have lp : lieI (waysI sp (qs.drop i)) ∈ perms := by
            rw [← ways_drop]
            exact lieI_perm fun t ht => way_perm hq.go hq.g s0 t (List.mem_of_mem_drop ht)
          unfold c9D
          walk_at "gr"
          refine ⟨qs, sp, _, rfl, q12, hq.n, hq.go, hq.g, s0, .inl ⟨i, r, e, rfl, ?_⟩⟩
          have tk := lyL_at (sp := sp) e
          have al : ∀ j p, j < i → qs[j]? = some p → ∀ a, a < 3 → sdI p ((lieI (waysI sp (qs.drop j))).getD a 0) + sp + 2 * r.wl ≤ sdI r ((lieI (waysI sp (qs.drop i))).getD a 0) := fun j p hj hp a ha => lie_all s0 hq.go hq.g j i p r a hj hp e ha
          generalize lieI (waysI sp (qs.drop i)) = o at lp tk al ⊢
          walk_at "ga"
          refine rv_inPL (ds := ords) .v .v ?_ rfl ?_ rfl ?_
          · exact (ok_ord lp).sh.p
          · exact (ok_ord lp).s
          rw [in_ords o lp]
          walk_at "gr"
          refine ve_lcM (sdF r) (vi_tup ?_)
          walk_at "gr"
          refine ⟨_, rfl, by rw [List.length_map, perm_three lp]; decide, fun d hd => ?_, ?_⟩
          · obtain ⟨n, hn, rfl⟩ := List.mem_map.mp hd
            obtain ⟨n0, n2⟩ := perm_in lp n hn
            walk_at "gr"
            refine ⟨rfl, ?_⟩
            walk_at "gr"
            exact rv_ixT (tn_atI n0 n2) ⟨rfl, rfl⟩
          have wr := gr.wl
          obtain ⟨oa, ob, oc, rfl, oa0, oa2, ob0, ob2, oc0, oc2⟩ := perm3L lp
          have ia := tn_in (i := oa) gr.a gr.b gr.c
          have ib := tn_in (i := ob) gr.a gr.b gr.c
          have ic := tn_in (i := oc) gr.a gr.b gr.c
          unfold In1 at ia ib ic
          walk_at "gr"
          refine vx_mid (fun ρ2 S3 => S3 = S2 ∧ ∃ y11, ρ2 = [some (nsD C_Nest C_Parcel C_Sides sp qs), some (.lst (qs.map c9D)), some (.int sp), some (.ref f), some (.str r.nm), some (.tup [.int r.a, .int r.b, .int r.c]), some (.int r.wl), some (.lst (r.mk.map D.str)), some (.int r.wt), some (ordD [oa, ob, oc]), some (.lst [.int (sdI r oa), .int (sdI r ob), .int (sdI r oc)]), y11, none, none, none]) ?_ ?_
          · refine vx_forCellL c2 ?_ (fun j ρ3 S3 => S3 = VS.del S2 f ∧ ∃ y11, ρ3 = [some (nsD C_Nest C_Parcel C_Sides sp qs), some (.lst (qs.map c9D)), some (.int sp), some (.ref f), some (.str r.nm), some (.tup [.int r.a, .int r.b, .int r.c]), some (.int r.wl), some (.lst (r.mk.map D.str)), some (.int r.wt), some (ordD [oa, ob, oc]), some (.lst [.int (sdI r oa), .int (sdI r ob), .int (sdI r oc)]), y11, none, none, none]) ⟨rfl, _, rfl⟩ (fun j d ρ3 S3 hd hw => ?_) (fun ρ3 S3 hw => ?_)
            · walk_at "gr"
              exact ⟨rfl, rfl⟩
            · obtain ⟨rfl, y11, rfl⟩ := hw
              have hj : j < i := by
                have := (List.getElem?_eq_some_iff.mp hd).1
                rw [List.length_take] at this
                omega
              rw [List.getElem?_take_of_lt hj] at hd
              obtain ⟨p, hp⟩ : ∃ p, qs[j]? = some p := ⟨_, List.getElem?_eq_getElem (by omega)⟩
              rw [lyL_at hp] at hd
              cases hd
              have gp := hq.g p (List.mem_of_getElem? hp)
              have lp' : lieI (waysI sp (qs.drop j)) ∈ perms := by
                rw [← ways_drop]
                exact lieI_perm fun t ht => way_perm hq.go hq.g s0 t (List.mem_of_mem_drop ht)
              have h0 := al j p hj hp 0 (by decide)
              have h1 := al j p hj hp 1 (by decide)
              have h2 := al j p hj hp 2 (by decide)
              generalize lieI (waysI sp (qs.drop j)) = o' at lp' h0 h1 h2 ⊢
              obtain ⟨pa, pb, pc, rfl, pa0, pa2, pb0, pb2, pc0, pc2⟩ := perm3L lp'
              have h0 : sdI p pa + sp + 2 * r.wl ≤ sdI r oa := h0
              have h1 : sdI p pb + sp + 2 * r.wl ≤ sdI r ob := h1
              have h2 : sdI p pc + sp + 2 * r.wl ≤ sdI r oc := h2
              have ja := tn_in (i := pa) gp.a gp.b gp.c
              have jb := tn_in (i := pb) gp.a gp.b gp.c
              have jc := tn_in (i := pc) gp.a gp.b gp.c
              unfold In1 at ja jb jc
              show VG _ _ (.lst [.int (sdI p pa), .int (sdI p pb), .int (sdI p pc)]) _ _ _
              unfold sdI at h0 h1 h2 ⊢
              generalize tn p.a p.b p.c pa = u at h0 ja ⊢
              generalize tn p.a p.b p.c pb = v at h1 jb ⊢
              generalize tn p.a p.b p.c pc = t at h2 jc ⊢
              generalize tn r.a r.b r.c oa = x at h0 ia ⊢
              generalize tn r.a r.b r.c ob = y at h1 ib ⊢
              generalize tn r.a r.b r.c oc = z at h2 ic ⊢
              walk_at "gr"
              refine ve_lcM (le2D sp (2 * r.wl)) (vi_zip ?_)
              walk_at "gr"
              refine ⟨_, _, _, _, rfl, .v, .v, by show 3 ≤ 100000; decide, fun d hd => ?_, ?_⟩
              · have hd' : d = .tup [.int u, .int x] ∨ d = .tup [.int v, .int y] ∨ d = .tup [.int t, .int z] := by
                  simpa [zipD] using hd
                rcases hd' with rfl | rfl | rfl
                all_goals
                  walk_at "gr"
                  refine ⟨rfl, ?_⟩
                  walk_at "gr"
                  exact ⟨rfl, rfl⟩
              walk_at "gr"
              show RC _ _ [.lst (([decide (u + sp ≤ x - 2 * r.wl), decide (v + sp ≤ y - 2 * r.wl), decide (t + sp ≤ z - 2 * r.wl)]).map D.bl)] _ _
              refine rc_all .v ?_
              rw [decide_eq_true (show u + sp ≤ x - 2 * r.wl by omega), decide_eq_true (show v + sp ≤ y - 2 * r.wl by omega), decide_eq_true (show t + sp ≤ z - 2 * r.wl by omega)]
              walk_at "gr"
              exact ⟨rfl, _, rfl⟩
            · obtain ⟨rfl, y11, rfl⟩ := hw
              rw [put_back c2]
              exact ⟨rfl, _, rfl⟩
          rintro _ S3 ⟨rfl, y11, rfl⟩
          walk_at "gr"
          refine rm_append c2 (by rw [List.length_take]; have := szl; omega) ?_
          refine ⟨?_, x2.wr hf, _, _, _, _, _, _, _, _, rfl⟩
          rw [put_same, List.take_succ, tk]
          rfl
      · rintro _ S2 ⟨c2, x2, x4, x5, x6, x7, x8, x9, x10, x11, rfl⟩
        obtain ⟨rs, z, rfl⟩ : ∃ rs z, qs = rs ++ [z] := ⟨_, _, (List.dropLast_concat_getLast hq.e).symm⟩
        walk_at "gr"
        refine rv_ixL .v (d := c9D z) (by rw [List.map_append]; exact atI_last91 _ _) ?_
        unfold c9D
        walk_at "gr"
        refine ⟨rs ++ [z], sp, _, rfl, q12, hq.n, hq.go, hq.g, s0, .inl ⟨rs.length, z, by rw [List.getElem?_append_right (Nat.le_refl _), Nat.sub_self]; rfl, rfl, ?_⟩⟩
        rw [List.drop_left]
        walk_at "gr"
        refine rc_reprS (d := ordD [0, 1, 2]) .v (ok_ord (by decide)).sh (by decide) (by decide) ?_
        rw [show (pd (ordD [0, 1, 2])).shown = ("(0, 1, 2)" : Str) by decide +kernel]
        walk_at "gr"
        rw [decide_eq_true rfl]
        exact q S2 x2) only [↓VS.box]
end
end LW
namespace LW
open PySem L2 C8 PySem.Spec PyProof.Rows VS
/-! ### nests that are refused; a way and what is left of it -/
def p_refused91 (CH CP CS : Addr) : Pt := fun ds S G _ => ∃ (h l : Addr) (ps : List Pc) (d : D) (zs : List Str) (sp : Int), ds = [.ref h, d, .int sp] ∧ Nq d zs ∧ HpS S CH CP CS h l ps ∧ Hps ps ∧ (∀ z ∈ zs, z ∈ ps.map Pc.nm) ∧ zs.length ≤ 1000 ∧ zs ≠ [] ∧ 0 ≤ sp ∧ sp ≤ 1000 ∧
  ((¬ zs.Nodup ∧ ∀ S', Ext S S' → G (.tup [.str "nest", d]) S') ∨ (zs.Nodup ∧ ∃ a b r, zs = a :: b :: r ∧ b ∉ Eof sp ps a ∧ ∀ S', Ext S S' → G (.tup [.str "unnested", .str a, .str b]) S') ∨
   (zs.Nodup ∧ zs.length = 1 ∧ ∀ S', Ext S S' → G (.tup [.str "made"]) S'))
def p_way91 (CH CP CS : Addr) : Pt := fun ds S G _ => ∃ (p h l : Addr) (n : Int) (ps qs : List Pc) (i : Nat) (q0 : Pc) (sp : Int), ds = [.ref h, nmD (qs.map Pc.nm), .lst (qs.map c9D), .int sp, .ref p] ∧ Wd S p n [(h, hpD CH l), (l, .lst (ps.map (Pc.d CP CS)))] ∧ n < 700000 ∧ Hps ps ∧ (∀ q ∈ qs, q ∈ ps) ∧ Qs sp qs ∧ qs.length ≤ 12 ∧ 0 ≤ sp ∧ sp ≤ 1000 ∧
  qs[0]? = some q0 ∧ ps[i]? = some q0 ∧ ∀ S', Wd S' p (n + 20) [(h, hpD CH l), (l, .lst ((ps.eraseIdx i).map (Pc.d CP CS)))] → G (.bl true) S'
/-- a nest made of good names, by value -/
theorem ve_mkNs {c : VS.Ctx} {ρ : Rho} {S : Sto} {F : D → Sto → Prop} {t : TA} {E : L2.St → XK} {CN CH CP CS CX CU : Addr}
    (h : VA c t ρ S fun ds S1 => ∃ (h l : Addr) (ps qs : List Pc) (d : D) (sp : Int), ds = [.ref h, d, .int sp] ∧ Nq d (qs.map Pc.nm) ∧ HpS S1 CH CP CS h l ps ∧ Hps ps ∧ (∀ q ∈ qs, q ∈ ps) ∧ Qs sp qs ∧ 0 ≤ sp ∧ sp ≤ 1000 ∧ F (nsD CN CP CS sp qs) S1) : VE c (tMakeE CN (spOf c.K (p_Ns_init91 CN CH CP CS CX CU)) [] E t) ρ S F :=
  ve_mk0 XOk.none (h.imp fun ds S1 ⟨h, l, ps, qs, d, sp, e, hq, hs, hps, hm, q, s0, s1, f⟩ y hy => by
    subst e
    have n1 : y ≠ h := fun z => by rw [z, hs.1] at hy; cases hy
    have n2 : y ≠ l := fun z => by rw [z, hs.2] at hy; cases hy
    refine ⟨y, h, l, ps, d, qs.map Pc.nm, sp, rfl, hq, put_same, hs.wr (Ne.symm n1) (Ne.symm n2), hps, fun z hz => ?_, by rw [List.length_map]; have := q.l; omega, fun e => q.e (List.map_eq_nil_iff.mp e), s0, s1, n1, n2, .inr (.inr ⟨qs, rfl, q.n, hm, q.go, ⟨rfl, y, _, rfl, put_same, nofun, by rw [del_put2 hy]; exact f⟩⟩)⟩
    obtain ⟨x, hx, rfl⟩ := List.mem_map.mp hz
    exact List.mem_map.mpr ⟨x, hm x hx, rfl⟩)
theorem cut_tkD (xs : List D) {t : Nat} (h : t ≤ xs.length) : VS.cutD xs none (some (t : Int)) = xs.take t := by
  show (xs.drop (HT.sIx xs.length 0 none)).take (HT.sIx xs.length xs.length (some (t : Int)) - HT.sIx xs.length 0 none) = _
  rw [HT.sIx_nat, Nat.min_eq_left h]
  rfl
theorem atI_last2a (xs : List D) (x y : D) : atI (xs ++ [x, y]) (-1) = some y := by
  have := atI_last91 (xs ++ [x]) y
  rwa [List.append_assoc] at this
theorem atI_last2b (xs : List D) (x y : D) : atI (xs ++ [x, y]) (-2) = some x := by
  unfold atI
  rw [show ixN (xs ++ [x, y]).length (-2) = some xs.length from ?_]
  · show (xs ++ [x, y])[xs.length]? = some x
    rw [List.getElem?_append_right (Nat.le_refl _), Nat.sub_self]
    rfl
  · unfold ixN
    simp
    constructor <;> omega
theorem Qs.sub {sp : Int} {qs rs : List Pc} (h : Qs sp qs) (s0 : 0 ≤ sp) (hs : rs.Sublist qs) (ne : rs ≠ []) : Qs sp rs :=
  ⟨fun q hq => h.g q (hs.subset hq), h.n.sublist (hs.map _), Nat.le_trans hs.length_le h.l, ne, goes_sub s0 h.g h.go hs⟩
theorem hps_in {ps qs : List Pc} (hm : ∀ q ∈ qs, q ∈ ps) : ∀ z ∈ qs.map Pc.nm, z ∈ ps.map Pc.nm := fun z hz => by
  obtain ⟨x, hx, rfl⟩ := List.mem_map.mp hz
  exact List.mem_map.mpr ⟨x, hm x hx, rfl⟩
/-- the other way round the first two are refused -/
theorem rev_apart {sp : Int} {ps qs : List Pc} (hps : Hps ps) (hm : ∀ q ∈ qs, q ∈ ps) (s0 : 0 ≤ sp) (q : Qs sp qs) : qs.length = 1 ∨ ∃ (rs : List Pc) (a b : Pc), qs = rs ++ [b, a] ∧ (qs.map Pc.nm).reverse = a.nm :: b.nm :: (rs.map Pc.nm).reverse ∧ b.nm ∉ Eof sp ps a.nm := by
  obtain ⟨rs, a, rfl⟩ : ∃ rs z, qs = rs ++ [z] := ⟨_, _, (List.dropLast_concat_getLast q.e).symm⟩
  by_cases e : rs = []
  · subst e
    exact .inl rfl
  obtain ⟨rs, b, rfl⟩ : ∃ ts z, rs = ts ++ [z] := ⟨_, _, (List.dropLast_concat_getLast e).symm⟩
  refine .inr ⟨rs, a, b, by simp, by simp, fun hb => ?_⟩
  have pw := goes_pw s0 q.g q.go
  rw [List.append_assoc, List.pairwise_append] at pw
  have g1 : goB sp b a = true := (List.pairwise_cons.mp pw.2.1).1 a (by simp)
  have ha := hm a (by simp)
  have hb' := hm b (by simp)
  have g2 : goB sp a b = true := by
    rw [← Eof_go hps ha hb']
    exact decide_eq_true hb
  have := go_trans (hps.g b hb') (hps.g a ha) s0 g1 g2
  rw [go_irr (hps.g b hb') s0] at this
  cases this
section
variable {P : Program} {w : World} {K : PySem.W.Frag} {mg : Str → Option Value} {base : Heap}
theorem ok__law_refused {f : Addr} {fd : FuncData} {C_Sides C_Parcel C_Heap C_Nest C_NoNumber C_NoSide C_NoSides C_NoOrder C_NoParcel C_NotInHeap C_NoNest C_Unnested : Addr} {f_Nest : Addr} {g_Nest : FuncData}
    (F : Fd K "_law_refused" "_law_refused" s__law_refused [] f fd) (T : Tx K mg) (hsys : SysOk base)
    (c_Nest : Kf P w K mg base 11 "Nest" C_Nest "Nest.__init__" s_Nest___init__ [.int 0] a_Nest___init__ (p_Ns_init91 C_Nest C_Heap C_Parcel C_Sides C_NoNest C_Unnested) f_Nest g_Nest)
    (x_NoNest : Xc P w K mg base "NoNest" C_NoNest "found")
    (x_Unnested : Xc2 P w K mg base "Unnested" C_Unnested "one" "other")
    (k_Nest : Kl_Nest K mg C_Nest)
    (k_Heap : Kl_Heap K mg C_Heap)
    (k_Parcel : Kl_Parcel K mg C_Parcel)
    (k_Sides : Kl_Sides K mg C_Sides) :
    FnG P w K mg base (L2.CX P w) 13 f fd a__law_refused (spOf K (p_refused91 C_Heap C_Parcel C_Sides)) := by
  refine VS.unbox ?_
  simp (disch := with_unfolding_all
    have kc_Nest := k_Nest.ins.cl
    have ka_Nest_layers := k_Nest.a_layers
    have ka_Nest_ways := k_Nest.a_ways
    have kc_Heap := k_Heap.ins.cl
    have ka_Heap_held := k_Heap.a_held
    have ka_Heap_told := k_Heap.a_told
    have ka_Heap_kind := k_Heap.a_kind
    have kc_Parcel := k_Parcel.ins.cl
    have ka_Parcel_called := k_Parcel.a_called
    have ka_Parcel_outside := k_Parcel.a_outside
    have ka_Parcel_thick := k_Parcel.a_thick
    have ka_Parcel_heavy := k_Parcel.a_heavy
    have ka_Parcel_strong := k_Parcel.a_strong
    have ka_Parcel_marks := k_Parcel.a_marks
    have ka_Parcel_told := k_Parcel.a_told
    have ka_Parcel_names := k_Parcel.a_names
    have kc_Sides := k_Sides.ins.cl
    have ka_Sides_three := k_Sides.a_three
    have e_NoNest_NoNest := T.e_NoNest_NoNest _ _ x_NoNest.at_ x_NoNest.at_
    have e_NoNest_Unnested := T.e_NoNest_Unnested _ _ x_NoNest.at_ x_Unnested.at_
    have e_Unnested_NoNest := T.e_Unnested_NoNest _ _ x_Unnested.at_ x_NoNest.at_
    have e_Unnested_Unnested := T.e_Unnested_Unnested _ _ x_Unnested.at_ x_Unnested.at_
    refine fn_val F sc__law_refused (fun ds S G Y h => ?_) (fun cdv A hgd outer s H E hr px tk po ds S G Y h => ?_)
    · obtain ⟨h, l, ps, d, zs, sp, rfl, _⟩ := h
      rfl
    · obtain ⟨h, l, ps, d, zs, sp, rfl, hz, hs, hps, hin, zl, zne, s0, s1, q⟩ := h
      refine ⟨_, (pss_cons (ps_tryD rfl rfl sc__law_refused.nd (fun W pn xe tk po => have px := passS_of tk; (pss_one (ps_expr (pe_kG c_Nest.mk_ c_Nest.fn hgd (hr.mono (by decide)) (by rfl) c_Nest.mg  c_Nest.b .nil px (pa_cons (pv 0) (pa_cons (pv 1) (pa_cons (pv 2) pa_nil))))))) (.named (i := 3) ⟨by rfl, by decide, .inl x_NoNest.at_⟩ rfl rfl (fun a oe cls d pn hz hf => (pss_one (ps_ret (pe_tup (pa_cons pe_str (pa_cons (pe_xf x_NoNest.xf x_NoNest.no hz hf (pv 3)) pa_nil)))))) (.named (i := 3) ⟨by rfl, by decide, .inl x_Unnested.at_⟩ rfl rfl (fun a oe cls d pn hz hf => (pss_one (ps_ret (pe_tup (pa_cons pe_str (pa_cons (pe_xf x_Unnested.xf x_Unnested.no hz hf (pv 3)) (pa_cons (pe_xf x_Unnested.xf x_Unnested.no2 hz hf (pv 3)) pa_nil))))))) .rest)))
        (pss_one (ps_ret (pe_tup (pa_cons pe_str pa_nil))))), ?_⟩
      (try dsimp only [cxOf, List.map])
      show VX _ _ [_, _, _, _] _ _
      walk_at "gr"
      refine fun y hy => ?_
      have n1 : y ≠ h := fun z => by rw [z, hs.1] at hy; cases hy
      have n2 : y ≠ l := fun z => by rw [z, hs.2] at hy; cases hy
      refine ⟨y, h, l, ps, d, zs, sp, rfl, hz, put_same, hs.wr (Ne.symm n1) (Ne.symm n2), hps, hin, zl, zne, s0, s1, n1, n2, ?_⟩
      rcases q with ⟨nd, q⟩ | ⟨nd, a, b, r, ez, hn, q⟩ | ⟨nd, l1, q⟩
      · refine .inl ⟨nd, hd_hit e_NoNest_NoNest fun ax dd => ?_⟩
        walk_at "gr"
        exact q _ (Ext.put hy)
      · refine .inr (.inl ⟨nd, a, b, r, ez, hn, hd_skip e_Unnested_NoNest (hd_hit e_Unnested_Unnested fun ax dd => ?_)⟩)
        walk_at "gr"
        exact q _ (Ext.put hy)
      · obtain ⟨qs, rfl, hm⟩ := pcs_of hin
        refine .inr (.inr ⟨qs, rfl, nd, hm, ?_, ⟨rfl, y, _, rfl, put_same, nofun, ?_⟩⟩)
        · rw [List.length_map] at l1
          match qs, l1 with
          | [x], _ => exact trivial
        rw [del_put2 hy]
        walk_at "gr"
        exact q S Ext.refl) only [↓VS.box]
local macro_rules | `(tactic| walk_at "gp") => `(tactic| with_reducible refine ve_mkNs ?_)
theorem ok__law_way_right {f : Addr} {fd : FuncData} {C_Sides C_Parcel C_Heap C_Nest C_NoNumber C_NoSide C_NoSides C_NoOrder C_NoParcel C_NotInHeap C_NoNest C_Unnested : Addr} {f_Nest f__law_stands f__law_lies_right f__law_take f__law_refused f_Heap_out : Addr} {g_Nest g__law_stands g__law_lies_right g__law_take g__law_refused g_Heap_out : FuncData}
    (F : Fd K "_law_way_right" "_law_way_right" s__law_way_right [] f fd) (T : Tx K mg) (hsys : SysOk base)
    (c_Nest : Kf P w K mg base 11 "Nest" C_Nest "Nest.__init__" s_Nest___init__ [.int 0] a_Nest___init__ (p_Ns_init91 C_Nest C_Heap C_Parcel C_Sides C_NoNest C_Unnested) f_Nest g_Nest)
    (c__law_stands : Cf P w K mg base (L2.CX P w) 6 "_law_stands" s__law_stands [] a__law_stands (p__law_stands C_Nest C_Parcel C_Sides) f__law_stands g__law_stands)
    (c__law_lies_right : Cf P w K mg base (L2.CX P w) 4 "_law_lies_right" s__law_lies_right [] a__law_lies_right (p__law_lies_right C_Nest C_Parcel C_Sides) f__law_lies_right g__law_lies_right)
    (c__law_take : Cf P w K mg base (L2.CX P w) 1 "_law_take" s__law_take [] a__law_take p__law_take f__law_take g__law_take)
    (c__law_refused : Cf P w K mg base (L2.CX P w) 13 "_law_refused" s__law_refused [] a__law_refused (p_refused91 C_Heap C_Parcel C_Sides) f__law_refused g__law_refused)
    (c_Heap_out : Mf P w K mg base 3 C_Heap "out" "Heap.out" s_Heap_out [] a_Heap_out (p_Hp_out C_Heap C_Parcel C_Sides) f_Heap_out g_Heap_out)
    (k_Nest : Kl_Nest K mg C_Nest)
    (k_Heap : Kl_Heap K mg C_Heap)
    (k_Parcel : Kl_Parcel K mg C_Parcel)
    (k_Sides : Kl_Sides K mg C_Sides) :
    FnG P w K mg base (L2.CX P w) 14 f fd a__law_way_right (spOf K (p_way91 C_Heap C_Parcel C_Sides)) := by
  refine VS.unbox ?_
  simp (disch := with_unfolding_all
    have kc_Nest := k_Nest.ins.cl
    have ka_Nest_layers := k_Nest.a_layers
    have ka_Nest_ways := k_Nest.a_ways
    have kc_Heap := k_Heap.ins.cl
    have ka_Heap_held := k_Heap.a_held
    have ka_Heap_told := k_Heap.a_told
    have ka_Heap_kind := k_Heap.a_kind
    have kc_Parcel := k_Parcel.ins.cl
    have ka_Parcel_called := k_Parcel.a_called
    have ka_Parcel_outside := k_Parcel.a_outside
    have ka_Parcel_thick := k_Parcel.a_thick
    have ka_Parcel_heavy := k_Parcel.a_heavy
    have ka_Parcel_strong := k_Parcel.a_strong
    have ka_Parcel_marks := k_Parcel.a_marks
    have ka_Parcel_told := k_Parcel.a_told
    have ka_Parcel_names := k_Parcel.a_names
    have kc_Sides := k_Sides.ins.cl
    have ka_Sides_three := k_Sides.a_three
    refine fn_val F sc__law_way_right (fun ds S G Y h => ?_) (fun cdv A hgd outer s H E hr px tk po ds S G Y h => ?_)
    · obtain ⟨p, h, l, n, ps, qs, i, q0, sp, rfl, _⟩ := h
      rfl
    · obtain ⟨p, h, l, n, ps, qs, i, q0, sp, rfl, w, hn, hps, hm, hq, q12, s0, s1, e0, ei, q⟩ := h
      refine ⟨_, (pss_cons (ps_set (i := 5) sc__law_way_right.nd rfl (Or.inl rfl) (pe_kG c_Nest.mk_ c_Nest.fn hgd (hr.mono (by decide)) (by rfl) c_Nest.mg  c_Nest.b .nil VS.pass0 (pa_cons (pv 0) (pa_cons (pe_callTy c_list (by rfl) T.b_list (by decide +kernel) (pa_cons (pv 1) pa_nil)) (pa_cons (pv 3) pa_nil)))))
        (pss_cons (ps_if (PW.pt (pw_or (pt_not (pt_val (pe_cG c__law_stands.fn hgd (hr.mono (by decide)) (by rfl) c__law_stands.mg c__law_stands.kp c__law_stands.b .nil VS.pass0 (pa_cons (pv 5) (pa_cons (pv 2) pa_nil))))) (pw_or1 (pt_not (pt_val (pe_cG c__law_lies_right.fn hgd (hr.mono (by decide)) (by rfl) c__law_lies_right.mg c__law_lies_right.kp c__law_lies_right.b .nil VS.pass0 (pa_cons (pv 5) (pa_cons (pv 2) (pa_cons (pv 3) pa_nil))))))))) (pss_one (ps_ret pe_bl))
        pss_nil)
        (pss_cons (ps_set (i := 6) sc__law_way_right.nd rfl (Or.inl rfl) (pe_orT (pe_lc (own := [("_law_card", 10)]) rfl sc__law_way_right.nd (pi_list (pv 2)) (blkOk_by (own := [("_law_card", 10)]) (N := n__law_way_right) (sc := defScope s__law_way_right) (by decide +kernel)) (fun _ _ _ _ _ => (pg_name (i := 10) sc__law_way_right.nd rfl (Or.inl rfl))) (fun _ _ _ _ _ => (pts_one (pt_cmpR op_gt (pe_cG c__law_take.fn hgd (hr.mono (by decide)) (by rfl) c__law_take.mg c__law_take.kp c__law_take.b .nil VS.pass0 (pa_cons (pv 4) (pa_cons pe_int pa_nil))) pe_int (nomark _)))) (fun _ _ _ _ _ => (pv 10))) (pe_one (pe_slice sl_list (pv 2) po_none (po_some pe_int)))))
        (pss_cons (ps_set (i := 7) sc__law_way_right.nd rfl (Or.inl rfl) (pe_kG c_Nest.mk_ c_Nest.fn hgd (hr.mono (by decide)) (by rfl) c_Nest.mg  c_Nest.b .nil VS.pass0 (pa_cons (pv 0) (pa_cons (pe_callTy c_tuple (by rfl) T.b_tuple (by decide +kernel) (pa_cons (pe_lc (own := [("_law_card", 10)]) rfl sc__law_way_right.nd (pi_list (pv 6)) (blkOk_by (own := [("_law_card", 10)]) (N := n__law_way_right) (sc := defScope s__law_way_right) (by decide +kernel)) (fun _ _ _ _ _ => (pg_name (i := 10) sc__law_way_right.nd rfl (Or.inl rfl))) (fun _ _ _ _ _ => pts_nil) (fun _ _ _ _ _ => (pe_ix (kI (K := K) (r := rIxT) ix_tup) (pv 10) pe_int (fun _ _ => rfl)))) pa_nil)) (pa_cons (pv 3) pa_nil)))))
        (pss_cons (ps_if (PW.pt (pw_or (pt_not (pt_val (pe_cG c__law_stands.fn hgd (hr.mono (by decide)) (by rfl) c__law_stands.mg c__law_stands.kp c__law_stands.b .nil VS.pass0 (pa_cons (pv 7) (pa_cons (pv 6) pa_nil))))) (pw_or1 (pt_not (pt_val (pe_cG c__law_lies_right.fn hgd (hr.mono (by decide)) (by rfl) c__law_lies_right.mg c__law_lies_right.kp c__law_lies_right.b .nil VS.pass0 (pa_cons (pv 7) (pa_cons (pv 6) (pa_cons (pv 3) pa_nil))))))))) (pss_one (ps_ret pe_bl))
        pss_nil)
        (pss_cons (ps_set (i := 8) sc__law_way_right.nd rfl (Or.inl rfl) (pe_cG c__law_refused.fn hgd (hr.mono (by decide)) (by rfl) c__law_refused.mg c__law_refused.kp c__law_refused.b .nil VS.pass0 (pa_cons (pv 0) (pa_cons (pe_revL (pv 1)) (pa_cons (pv 3) pa_nil)))))
        (pss_cons (ps_if (PW.pt (pw_and (pt_cmpR op_gt (pe_callB c_len (by rfl) T.b_len (by decide +kernel) (pa_cons (pv 1) pa_nil)) pe_int (nomark _)) (pw_and1 (pt_cmpR op_ne (pe_callB (c_repr hgd hr hsys) (by rfl) T.b_repr (by decide +kernel) (pa_cons (pv 8) pa_nil)) (pe_callB (c_repr hgd hr hsys) (by rfl) T.b_repr (by decide +kernel) (pa_cons (pe_tup (pa_cons pe_str (pa_cons (pe_ix ix_list (pv 1) (pe_un un_neg pe_int) (fun _ _ => rfl)) (pa_cons (pe_ix ix_list (pv 1) (pe_un un_neg pe_int) (fun _ _ => rfl)) pa_nil)))) pa_nil)) (nomark _))))) (pss_one (ps_ret pe_bl))
        pss_nil)
        (pss_cons (ps_set (i := 9) sc__law_way_right.nd rfl (Or.inl rfl) (pe_op op_cat (pv 1) (pe_lst (pa_cons (pe_ix ix_list (pv 1) (pe_cG c__law_take.fn hgd (hr.mono (by decide)) (by rfl) c__law_take.mg c__law_take.kp c__law_take.b .nil VS.pass0 (pa_cons (pv 4) (pa_cons (pe_callB c_len (by rfl) T.b_len (by decide +kernel) (pa_cons (pv 1) pa_nil)) pa_nil))) (fun _ _ => rfl)) pa_nil))))
        (pss_cons (ps_if (pt_cmpR op_ne (pe_callB (c_repr hgd hr hsys) (by rfl) T.b_repr (by decide +kernel) (pa_cons (pe_cG c__law_refused.fn hgd (hr.mono (by decide)) (by rfl) c__law_refused.mg c__law_refused.kp c__law_refused.b .nil VS.pass0 (pa_cons (pv 0) (pa_cons (pv 9) (pa_cons (pv 3) pa_nil)))) pa_nil)) (pe_callB (c_repr hgd hr hsys) (by rfl) T.b_repr (by decide +kernel) (pa_cons (pe_tup (pa_cons pe_str (pa_cons (pv 9) pa_nil))) pa_nil)) (nomark _)) (pss_one (ps_ret pe_bl))
        pss_nil)
        (pss_cons (ps_expr (pe_mG (pv 0) c_Heap_out.cl c_Heap_out.me c_Heap_out.fn hgd (hr.mono (by decide)) c_Heap_out.b .nil VS.pass0 (pa_cons (pe_ix ix_list (pv 1) pe_int (fun _ _ => rfl)) pa_nil)))
        (pss_one (ps_ret (pe_and (pe_cG c__law_stands.fn hgd (hr.mono (by decide)) (by rfl) c__law_stands.mg c__law_stands.kp c__law_stands.b .nil VS.pass0 (pa_cons (pv 5) (pa_cons (pv 2) pa_nil))) (pe_and (pe_cG c__law_stands.fn hgd (hr.mono (by decide)) (by rfl) c__law_stands.mg c__law_stands.kp c__law_stands.b .nil VS.pass0 (pa_cons (pv 7) (pa_cons (pv 6) pa_nil))) (pe_one (pe_cG c__law_lies_right.fn hgd (hr.mono (by decide)) (by rfl) c__law_lies_right.mg c__law_lies_right.kp c__law_lies_right.b .nil VS.pass0 (pa_cons (pv 5) (pa_cons (pv 2) (pa_cons (pv 3) pa_nil))))))))))))))))))), ?_⟩
      (try dsimp only [cxOf, List.map])
      show VX _ _ [_, _, _, _, _, _, _, _, _, _, _] _ _
      have hs := w.hp 0 1 rfl rfl
      have qpos : 0 < qs.length := List.length_pos_iff.mpr hq.e
      have lm : ((qs.map Pc.nm).map D.str).length = qs.length := by rw [List.length_map, List.length_map]
      unfold nmD
      walk_at "gr"
      refine rc_list (.l .v) ?_
      walk_at "gr"
      refine ⟨h, l, ps, qs, _, sp, rfl, .l, hs, hps, hm, hq, s0, s1, ?_⟩
      walk_at "gr"
      refine ⟨qs, sp, rfl, hq, s0, ?_⟩
      walk_at "gr"
      refine ⟨qs, sp, rfl, hq, s0, s1, fun S1 x1 => ?_⟩
      have w1 := w.ext x1
      clear w hs x1
      walk_at "gr"
      apply joinD (A := fun e S2 => ∃ ks : List Pc, e = .lst (ks.map c9D) ∧ ks.Sublist qs ∧ ks ≠ [] ∧ Wd S2 p (n + 13) [(h, hpD C_Heap l), (l, .lst (ps.map (Pc.d C_Parcel C_Sides)))])
      · intro R
        refine ve_lc (vi_list ?_)
        walk_at "gr"
        refine ⟨_, .v, by rw [List.length_map]; omega, fun j acc S2 => ∃ ks : List Pc, acc = ks.map c9D ∧ ks.Sublist (qs.take j) ∧ Wd S2 p (n + (j : Nat)) [(h, hpD C_Heap l), (l, .lst (ps.map (Pc.d C_Parcel C_Sides)))], ⟨[], rfl, List.nil_sublist _, w1.mono (by omega)⟩, ?_, ?_⟩
        · rintro j d acc S2 hd ⟨ks, rfl, hks, w2⟩ _
          rw [List.getElem?_map] at hd
          cases e : qs[j]? with
          | none => rw [e] at hd; cases hd
          | some r =>
            rw [e] at hd
            cases hd
            have hj : j < qs.length := (List.getElem?_eq_some_iff.mp e).1
            have tk : qs.take (j + 1) = qs.take j ++ [r] := by rw [List.take_succ, e]; rfl
            walk_at "gr"
            intro t S3 t0 t1 w3
            walk_at "gr"
            refine ⟨fun _ => ?_, fun _ => ?_⟩
            · walk_at "gr"
              exact ⟨ks ++ [r], by rw [List.map_append]; rfl, by rw [tk]; exact hks.append (List.Sublist.refl _), w3.mono (by omega)⟩
            · exact ⟨ks, rfl, by rw [tk]; exact hks.trans (List.sublist_append_left _ _), w3.mono (by omega)⟩
        · rintro acc S2 ⟨ks, rfl, hks, w2⟩ _
          rw [List.length_map] at hks w2
          rw [List.take_length] at hks
          refine ⟨_, .v, fun ne => ?_, fun e => ?_⟩
          · have kne : ks ≠ [] := fun e => ne (by rw [e]; rfl)
            have A : ∃ ks' : List Pc, D.lst (ks.map c9D) = .lst (ks'.map c9D) ∧ ks'.Sublist qs ∧ ks' ≠ [] ∧ Wd S2 p (n + 13) [(h, hpD C_Heap l), (l, .lst (ps.map (Pc.d C_Parcel C_Sides)))] := ⟨ks, rfl, hks, kne, w2.mono (by omega)⟩
            generalize (.lst (ks.map c9D) : D) = e1 at A ⊢
            exact R e1 S2 A
          · walk_at "gr"
            refine rs_list .v ?_
            have ec : VS.cutD (qs.map c9D) none (some 1) = (qs.take 1).map c9D := by
              rw [List.map_take]
              exact cut_tkD _ (t := 1) (by rw [List.length_map]; omega)
            rw [ec]
            have A : ∃ ks' : List Pc, D.lst ((qs.take 1).map c9D) = .lst (ks'.map c9D) ∧ ks'.Sublist qs ∧ ks' ≠ [] ∧ Wd S2 p (n + 13) [(h, hpD C_Heap l), (l, .lst (ps.map (Pc.d C_Parcel C_Sides)))] := ⟨_, rfl, List.take_sublist _ _, fun e => hq.e (by
              cases qs with
              | nil => rfl
              | cons x r => cases e), w2.mono (by omega)⟩
            generalize (.lst ((qs.take 1).map c9D) : D) = e1 at A ⊢
            exact R e1 S2 A
      clear w1
      rintro e1 S2 ⟨ks, rfl, hks, kne, w2⟩
      have hk := hq.sub s0 hks kne
      have hmk : ∀ q ∈ ks, q ∈ ps := fun q h => hm q (hks.subset h)
      have k12 := hk.l
      have hs2 := w2.hp 0 1 rfl rfl
      walk_at "gr"
      refine ve_lcM nmT (vi_list ?_)
      walk_at "gr"
      refine ⟨_, .v, by rw [List.length_map]; omega, fun d hd => ?_, ?_⟩
      · obtain ⟨x, hx, rfl⟩ := List.mem_map.mp hd
        unfold c9D
        walk_at "gr"
        refine ⟨rfl, ?_⟩
        walk_at "gr"
        exact ⟨rfl, rfl⟩
      rw [c9_nm]
      walk_at "gr"
      refine ⟨h, l, ps, ks, _, sp, rfl, .t, hs2, hps, hmk, hk, s0, s1, ?_⟩
      walk_at "gr"
      refine ⟨ks, sp, rfl, hk, s0, ?_⟩
      walk_at "gr"
      refine ⟨ks, sp, rfl, hk, s0, s1, fun S3 x3 => ?_⟩
      have w3 := w2.ext x3
      have hs3 := w3.hp 0 1 rfl rfl
      clear w2 hs2 x3
      walk_at "gr"
      refine ve_revL ?_
      walk_at "gr"
      refine ⟨_, .v, ?_⟩
      rw [← List.map_reverse]
      walk_at "gr"
      have hin : ∀ z ∈ (qs.map Pc.nm).reverse, z ∈ ps.map Pc.nm := fun z hz => hps_in hm z (List.mem_reverse.mp hz)
      have lr : (qs.map Pc.nm).reverse.length = qs.length := by rw [List.length_reverse, List.length_map]
      apply joinD (A := fun e S4 => Wd S4 p (n + 13) [(h, hpD C_Heap l), (l, .lst (ps.map (Pc.d C_Parcel C_Sides)))] ∧ (qs.length = 1 ∨ ∃ (rs : List Pc) (a b : Pc), qs = rs ++ [b, a] ∧ e = .tup [.str "unnested", .str a.nm, .str b.nm]))
      · intro R
        refine ⟨h, l, ps, _, _, sp, rfl, .l, hs3, hps, hin, by omega, fun e => hq.e (List.map_eq_nil_iff.mp (List.reverse_eq_nil_iff.mp e)), s0, s1, ?_⟩
        rcases rev_apart hps hm s0 hq with l1 | ⟨rs, a, b, eq, er, hnE⟩
        · refine .inr (.inr ⟨(List.reverse_perm _).nodup_iff.mpr hq.n, by omega, fun S4 x4 => ?_⟩)
          have w4 := w3.ext x4
          generalize (D.tup [.str "made"]) = e1
          exact R e1 S4 ⟨w4, .inl l1⟩
        · refine .inr (.inl ⟨(List.reverse_perm _).nodup_iff.mpr hq.n, a.nm, b.nm, _, er, hnE, fun S4 x4 => ?_⟩)
          have w4 := w3.ext x4
          obtain ⟨e1, ee⟩ : ∃ e1, e1 = D.tup [.str "unnested", .str a.nm, .str b.nm] := ⟨_, rfl⟩
          rw [← ee]
          exact R e1 S4 ⟨w4, .inr ⟨rs, a, b, eq, ee⟩⟩
      clear w3 hs3
      rintro e1 S4 ⟨w4, he⟩
      refine vg_name ?_
      refine vx_join (fun ρ2 S5 => S5 = S4 ∧ ρ2 = [some (.ref h), some (nmD (qs.map Pc.nm)), some (.lst (qs.map c9D)), some (.int sp), some (.ref p), some (nsD C_Nest C_Parcel C_Sides sp qs), some (.lst (ks.map c9D)), some (nsD C_Nest C_Parcel C_Sides sp ks), some e1, none, none]) ?_ ?_
      · rcases he with l1 | ⟨rs, a, b, eq, rfl⟩
        · walk_at "gr"
          refine br (fun e => by rw [lm] at e; omega) (fun e => ?_)
          walk_at "gr"
          exact ⟨rfl, rfl⟩
        · have ga := hq.g a (by rw [eq]; simp)
          have gb := hq.g b (by rw [eq]; simp)
          have sh3 : Ok (.tup [.str "unnested", .str a.nm, .str b.nm]) 2000 4 := Ok.mono (Ok.tup 3 (all3 (ok_strB (n := 19) (Asc.lit (by decide)) (by decide)) (ok_strB (Pc.asc ga) (by decide)) (ok_strB (Pc.asc gb) (by decide))) (Nat.le_refl 3) (by decide) (by decide)) (by decide) (by decide)
          walk_at "gr"
          refine br (fun e => ?_) (fun e => ?_)
          · walk_at "gr"
            refine rc_reprS .v sh3.sh (by decide) (by decide) ?_
            walk_at "gr"
            refine rv_ixL .v (d := .str a.nm) (by rw [eq, List.map_append, List.map_append]; exact atI_last2a _ _ _) ?_
            walk_at "gr"
            refine rv_ixL .v (d := .str b.nm) (by rw [eq, List.map_append, List.map_append]; exact atI_last2b _ _ _) ?_
            walk_at "gr"
            refine rc_reprS .v sh3.sh (by decide) (by decide) ?_
            refine rv_neSame ?_
            walk_at "gr"
            exact ⟨rfl, rfl⟩
          · walk_at "gr"
            exact ⟨rfl, rfl⟩
      rintro _ S5 ⟨rfl, rfl⟩
      clear he
      unfold nmD
      walk_at "gr"
      refine ve_lst ?_
      walk_at "gr"
      intro t S6 t0 t1 w6
      clear w4
      refine rv_ixAll (fun x => ∃ z, x = .str z ∧ z ∈ qs.map Pc.nm) t0 t1 (fun x hx => by
        obtain ⟨z, hz, rfl⟩ := List.mem_map.mp hx
        exact ⟨z, rfl, hz⟩) ?_
      rintro _ ⟨z, rfl, hz⟩
      walk_at "gr"
      refine rv_cat .v .v (by rw [lm]; have := szl; show qs.length + 1 ≤ _; omega) ?_
      have ed : (qs.map Pc.nm).map D.str ++ [D.str z] = (qs.map Pc.nm ++ [z]).map D.str := by rw [List.map_append]; rfl
      rw [ed]
      have hin2 : ∀ y ∈ qs.map Pc.nm ++ [z], y ∈ ps.map Pc.nm := fun y hy => by
        rcases List.mem_append.mp hy with hy | hy
        · exact hps_in hm y hy
        · rw [List.mem_singleton.mp hy]
          exact hps_in hm z hz
      have l2 : (qs.map Pc.nm ++ [z]).length = qs.length + 1 := by rw [List.length_append, List.length_map]; rfl
      have nnd : ¬ (qs.map Pc.nm ++ [z]).Nodup := fun h => by
        rw [List.nodup_append] at h
        exact h.2.2 z hz z (by simp) rfl
      have shd : Ok (.tup [.str "nest", .lst ((qs.map Pc.nm ++ [z]).map D.str)]) 20000 6 := by
        have shl : Ok (.lst ((qs.map Pc.nm ++ [z]).map D.str)) 5000 4 := (Ok.lst 13 (n := 200) (k := 2) (fun y hy => by
          obtain ⟨x, hx, rfl⟩ := List.mem_map.mp hy
          obtain ⟨q, hq', rfl⟩ := List.mem_map.mp (hin2 x hx)
          exact ok_strB (Pc.asc (hps.g q hq')) (by decide)) (by rw [List.length_map, l2]; omega) (by decide)).mono (by decide) (by decide)
        exact Ok.mono (Ok.tup 2 (all2 ((ok_strB (n := 19) (Asc.lit (by decide)) (by decide)).mono (m := 5000) (j := 4) (by decide) (by decide)) shl) (Nat.le_refl 2) (by decide) (by decide)) (by decide) (by decide)
      have hs6 := w6.hp 0 1 rfl rfl
      walk_at "gr"
      refine ⟨h, l, ps, _, _, sp, rfl, .l, hs6, hps, hin2, by omega, fun e => (by rw [e] at l2; cases l2), s0, s1, .inl ⟨nnd, fun S7 x7 => ?_⟩⟩
      have w7 := w6.ext x7
      have hs7 := w7.hp 0 1 rfl rfl
      have c7 := hs7.1
      clear w6 hs6 x7
      walk_at "gr"
      refine rc_reprS .v shd.sh (by decide) (by decide) ?_
      walk_at "gr"
      refine rc_reprS .v shd.sh (by decide) (by decide) ?_
      refine rv_neSame ?_
      walk_at "gr"
      refine rv_ixL .v (d := .str q0.nm) (atI_nat (j := 0) (by rw [List.getElem?_map, List.getElem?_map, e0]; rfl)) ?_
      walk_at "gr"
      refine ⟨h, l, ps, i, q0, rfl, hs7, hps.l, Hps.frs hps.n ei, ?_⟩
      have w8 := w7.wr (d' := .lst ((ps.eraseIdx i).map (Pc.d C_Parcel C_Sides))) 1 rfl
      clear c7
      generalize VS.put S7 l (.lst ((ps.eraseIdx i).map (Pc.d C_Parcel C_Sides))) = S8 at w8 ⊢
      clear w7 hs7
      walk_at "gr"
      refine ⟨qs, sp, rfl, hq, s0, ?_⟩
      walk_at "gr"
      refine ⟨ks, sp, rfl, hk, s0, ?_⟩
      walk_at "gr"
      refine ⟨qs, sp, rfl, hq, s0, s1, fun S9 x9 => ?_⟩
      exact q S9 ((w8.ext x9).mono (by omega))) only [↓VS.box]
end
end LW
namespace LW
open PySem L2 C8 PySem.Spec PyProof.Rows VS
/-! ### the law -/
def p_law : Pt := fun ds S G _ => ∃ ns : List Int, ds = [.rol (ns.map .int)] ∧ ns.length ≤ 63 ∧ ∀ S', G (.bl true) S'
theorem erase_fil : ∀ {ps : List Pc} {i : Nat} {q : Pc}, (ps.map Pc.nm).Nodup → ps[i]? = some q → (ps.filter fun p => !decide (p.nm = q.nm)) = ps.eraseIdx i
  | [], i, q, _, h => by simp at h
  | p :: ps, 0, q, nd, h => by
    cases h
    rw [List.map_cons, List.nodup_cons] at nd
    rw [List.filter_cons, if_neg (by simp)]
    show _ = ps
    refine List.filter_eq_self.mpr fun x hx => ?_
    cases e : decide (x.nm = p.nm) with
    | false => rfl
    | true => exact absurd (List.mem_map.mpr ⟨x, hx, of_decide_eq_true e⟩) nd.1
  | p :: ps, i + 1, q, nd, h => by
    rw [List.map_cons, List.nodup_cons] at nd
    have hq : q ∈ ps := List.mem_of_getElem? (i := i) h
    have ne : p.nm ≠ q.nm := fun e => nd.1 (List.mem_map.mpr ⟨q, hq, e.symm⟩)
    rw [List.filter_cons, if_pos (by rw [decide_eq_false ne]; rfl), erase_fil nd.2 (i := i) h]
    rfl
theorem C9s.erase {rs : List Pc} (h : C9s rs) (i : Nat) : C9s (rs.eraseIdx i) := ⟨fun r hr => h.c r (List.mem_of_mem_eraseIdx hr), h.n.sublist ((List.eraseIdx_sublist ..).map _), Nat.le_trans (List.length_eraseIdx_le ..) h.l⟩
/-- the cards of a name, of the others -/
def nmQ (z : Str) : D → Bool
  | .tup (.str x :: _) => decide (x = z)
  | _ => false
theorem nmQ_fil (z : Str) : ∀ ps : List Pc, (ps.map c9D).filter (nmQ z) = (ps.filter fun p => decide (p.nm = z)).map c9D
  | [] => rfl
  | p :: ps => by
    rw [List.map_cons, List.filter_cons, List.filter_cons, nmQ_fil z ps]
    show (if decide (p.nm = z) = true then _ else _) = _
    split <;> rfl
theorem nmQ_fil' (z : Str) : ∀ ps : List Pc, (ps.map c9D).filter (fun d => !nmQ z d) = (ps.filter fun p => !decide (p.nm = z)).map c9D
  | [] => rfl
  | p :: ps => by
    rw [List.map_cons, List.filter_cons, List.filter_cons, nmQ_fil' z ps]
    show (if (!decide (p.nm = z)) = true then _ else _) = _
    split <;> rfl
theorem ou_sh {sp : Int} {ps : List Pc} (h : Hps ps) : Sh (.dK (ouDs (ps.map Pc.nm) (Eof sp ps))) 40000 8 := by
  have k : ShK (ouDs (ps.map Pc.nm) (Eof sp ps)) _ 4 := shK_all (n := 19) (a := 2500) fun x hx => by
    obtain ⟨z, hz, rfl⟩ := List.mem_map.mp hx
    obtain ⟨p, hp, rfl⟩ := List.mem_map.mp hz
    refine ⟨p.nm, _, rfl, Pc.asc (h.g p hp), ?_⟩
    exact ((Ok.lst 12 (n := 200) (k := 2) (fun y hy => by
      obtain ⟨o, ho, rfl⟩ := List.mem_map.mp hy
      obtain ⟨q, hq, rfl⟩ := List.mem_map.mp (Eof_in ho)
      exact ok_strB (Pc.asc (h.g q hq)) (by decide)) (by rw [List.length_map]; exact Nat.le_trans Eof_len h.l) (by decide)).mono (by decide) (by decide)).sh
  have l12 := h.l
  refine (Sh.dic k).mono ?_ (by decide)
  unfold ouDs
  rw [List.length_map, List.length_map]
  omega
theorem vd_ou {S : Sto} {sp : Int} {ps : List Pc} {d : Addr} {as : List Addr} (nd : (ps.map Pc.nm).Nodup) (la : as.length = ps.length) (hd : S d = some (.dK (inD2 ps as))) (ha : ∀ (i : Nat) (a : Addr) (p : Pc), as[i]? = some a → ps[i]? = some p → S a = some (.lst ((goN sp ps p).map D.str))) : Vd S (.ref d) (.dK (ouDs (ps.map Pc.nm) (Eof sp ps))) := by
  rw [← ou_of nd]
  exact .c hd nofun (.dK (vdK_in la ha))
theorem valD_in0 {ps : List Pc} {as : List Addr} {a : Addr} {p : Pc} (h : ps[0]? = some p) (h2 : as[0]? = some a) : valD (inD2 ps as) (.inr p.nm) = some (.ref a) := by
  cases ps with
  | nil => cases h
  | cons x r =>
    cases as with
    | nil => cases h2
    | cons y t =>
      cases h
      cases h2
      exact valD_pos rfl
section
variable {P : Program} {w : World} {K : PySem.W.Frag} {mg : Str → Option Value} {base : Heap}
theorem ok_law {f : Addr} {fd : FuncData} {C_Sides C_Parcel C_Heap C_Nest C_NoNumber C_NoSide C_NoSides C_NoOrder C_NoParcel C_NotInHeap C_NoNest C_Unnested : Addr} {f__law_cell f__law_purse f__law_take f__law_spare f__law_tray f__law_heap f__law_outwards f__law_inside f__law_goes_on f__law_way f__law_way_right f_Heap_names : Addr} {g__law_cell g__law_purse g__law_take g__law_spare g__law_tray g__law_heap g__law_outwards g__law_inside g__law_goes_on g__law_way g__law_way_right g_Heap_names : FuncData}
    (F : Fd K "law" "law" s_law [] f fd) (T : Tx K mg) (hsys : SysOk base)
    (c__law_cell : Cf P w K mg base (L2.CX P w) 1 "_law_cell" s__law_cell [] a__law_cell p__law_cell f__law_cell g__law_cell)
    (c__law_purse : Cf P w K mg base (L2.CX P w) 1 "_law_purse" s__law_purse [] a__law_purse p__law_purse f__law_purse g__law_purse)
    (c__law_take : Cf P w K mg base (L2.CX P w) 1 "_law_take" s__law_take [] a__law_take p__law_take f__law_take g__law_take)
    (c__law_spare : Cf P w K mg base (L2.CX P w) 2 "_law_spare" s__law_spare [] a__law_spare p_spare91 f__law_spare g__law_spare)
    (c__law_tray : Cf P w K mg base (L2.CX P w) 3 "_law_tray" s__law_tray [] a__law_tray p__law_tray f__law_tray g__law_tray)
    (c__law_heap : Cf P w K mg base (L2.CX P w) 6 "_law_heap" s__law_heap [] a__law_heap (p_heap91 C_Heap C_Parcel C_Sides) f__law_heap g__law_heap)
    (c__law_outwards : Cf P w K mg base (L2.CX P w) 2 "_law_outwards" s__law_outwards [] a__law_outwards p__law_outwards f__law_outwards g__law_outwards)
    (c__law_inside : Cf P w K mg base (L2.CX P w) 9 "_law_inside" s__law_inside [] a__law_inside (p_inside91 C_Heap C_Parcel C_Sides) f__law_inside g__law_inside)
    (c__law_goes_on : Cf P w K mg base (L2.CX P w) 1 "_law_goes_on" s__law_goes_on [] a__law_goes_on p__law_goes_on f__law_goes_on g__law_goes_on)
    (c__law_way : Cf P w K mg base (L2.CX P w) 2 "_law_way" s__law_way [] a__law_way p__law_way f__law_way g__law_way)
    (c__law_way_right : Cf P w K mg base (L2.CX P w) 14 "_law_way_right" s__law_way_right [] a__law_way_right (p_way91 C_Heap C_Parcel C_Sides) f__law_way_right g__law_way_right)
    (c_Heap_names : Mf P w K mg base 2 C_Heap "names" "Heap.names" s_Heap_names [] a_Heap_names (p_Hp_names C_Heap C_Parcel C_Sides) f_Heap_names g_Heap_names)
    (k_Nest : Kl_Nest K mg C_Nest)
    (k_Heap : Kl_Heap K mg C_Heap)
    (k_Parcel : Kl_Parcel K mg C_Parcel)
    (k_Sides : Kl_Sides K mg C_Sides) :
    FnG P w K mg base (L2.CX P w) 20 f fd a_law (spOf K p_law) := by
  refine VS.unbox ?_
  simp (disch := with_unfolding_all
    have kc_Nest := k_Nest.ins.cl
    have ka_Nest_layers := k_Nest.a_layers
    have ka_Nest_ways := k_Nest.a_ways
    have kc_Heap := k_Heap.ins.cl
    have ka_Heap_held := k_Heap.a_held
    have ka_Heap_told := k_Heap.a_told
    have ka_Heap_kind := k_Heap.a_kind
    have kc_Parcel := k_Parcel.ins.cl
    have ka_Parcel_called := k_Parcel.a_called
    have ka_Parcel_outside := k_Parcel.a_outside
    have ka_Parcel_thick := k_Parcel.a_thick
    have ka_Parcel_heavy := k_Parcel.a_heavy
    have ka_Parcel_strong := k_Parcel.a_strong
    have ka_Parcel_marks := k_Parcel.a_marks
    have ka_Parcel_told := k_Parcel.a_told
    have ka_Parcel_names := k_Parcel.a_names
    have kc_Sides := k_Sides.ins.cl
    have ka_Sides_three := k_Sides.a_three
    refine fn_val F sc_law (fun ds S G Y h => ?_) (fun cdv A hgd outer s H E hr px tk po ds S G Y h => ?_)
    · obtain ⟨ns, rfl, _⟩ := h
      rfl
    · obtain ⟨ns, rfl, hn, q⟩ := h
      refine ⟨_, (pss_cons (ps_for po rfl (pi_range1 (by rfl) T.b_range (pa_cons (pe_callB (c_max2 rfl) (by rfl) T.b_max (by decide +kernel) (pa_cons pe_int (pa_cons (pe_callB (c_min2 rfl) (by rfl) T.b_min (by decide +kernel) (pa_cons pe_int (pa_cons (pe_callB c_len (by rfl) T.b_len (by decide +kernel) (pa_cons (pv 0) pa_nil)) pa_nil))) pa_nil))) pa_nil)) (pg_name (i := 1) sc_law.nd rfl (Or.inl rfl))
        (pss_cons (ps_set (i := 2) sc_law.nd rfl (Or.inl rfl) (pe_cG c__law_purse.fn hgd (hr.mono (by decide)) (by rfl) c__law_purse.mg c__law_purse.kp c__law_purse.b .nil VS.pass0 (pa_cons (pe_cG c__law_cell.fn hgd (hr.mono (by decide)) (by rfl) c__law_cell.mg c__law_cell.kp c__law_cell.b .nil VS.pass0 (pa_cons (pv 0) (pa_cons (pv 1) pa_nil))) pa_nil)))
        (pss_cons (ps_set (i := 3) sc_law.nd rfl (Or.inl rfl) (pe_cG c__law_spare.fn hgd (hr.mono (by decide)) (by rfl) c__law_spare.mg c__law_spare.kp c__law_spare.b .nil VS.pass0 (pa_cons (pv 2) pa_nil)))
        (pss_cons (ps_set (i := 4) sc_law.nd rfl (Or.inl rfl) (pe_ix ix_list (pe_lst (pa_cons pe_int (pa_cons (pe_op op_add pe_int (pe_cG c__law_take.fn hgd (hr.mono (by decide)) (by rfl) c__law_take.mg c__law_take.kp c__law_take.b .nil VS.pass0 (pa_cons (pv 2) (pa_cons pe_int pa_nil)))) (pa_cons (pe_op op_add pe_int (pe_cG c__law_take.fn hgd (hr.mono (by decide)) (by rfl) c__law_take.mg c__law_take.kp c__law_take.b .nil VS.pass0 (pa_cons (pv 2) (pa_cons pe_int pa_nil)))) pa_nil)))) (pe_cG c__law_take.fn hgd (hr.mono (by decide)) (by rfl) c__law_take.mg c__law_take.kp c__law_take.b .nil VS.pass0 (pa_cons (pv 2) (pa_cons pe_int pa_nil))) (fun _ _ => rfl)))
        (pss_cons (ps_set (i := 5) sc_law.nd rfl (Or.inl rfl) (pe_cG c__law_tray.fn hgd (hr.mono (by decide)) (by rfl) c__law_tray.mg c__law_tray.kp c__law_tray.b .nil VS.pass0 (pa_cons (pv 2) (pa_cons (pv 4) (pa_cons (pv 3) pa_nil)))))
        (pss_cons (ps_set (i := 6) sc_law.nd rfl (Or.inl rfl) (pe_cG c__law_heap.fn hgd (hr.mono (by decide)) (by rfl) c__law_heap.mg c__law_heap.kp c__law_heap.b .nil VS.pass0 (pa_cons (pv 5) pa_nil)))
        (pss_cons (ps_set (i := 7) sc_law.nd rfl (Or.inl rfl) (pe_cG c__law_outwards.fn hgd (hr.mono (by decide)) (by rfl) c__law_outwards.mg c__law_outwards.kp c__law_outwards.b .nil VS.pass0 (pa_cons (pv 5) (pa_cons (pv 3) pa_nil))))
        (pss_cons (ps_for po rfl (pi_range1 (by rfl) T.b_range (pa_cons pe_int pa_nil)) (pg_name (i := 8) sc_law.nd rfl (Or.inl rfl))
        (pss_cons (ps_set (i := 9) sc_law.nd rfl (Or.inl rfl) (pe_cG c__law_inside.fn hgd (hr.mono (by decide)) (by rfl) c__law_inside.mg c__law_inside.kp c__law_inside.b .nil VS.pass0 (pa_cons (pv 6) (pa_cons (pv 3) pa_nil))))
        (pss_cons (ps_if (PW.pt (pw_or (pt_cmpR op_ne (pe_callB (c_repr hgd hr hsys) (by rfl) T.b_repr (by decide +kernel) (pa_cons (pv 9) pa_nil)) (pe_callB (c_repr hgd hr hsys) (by rfl) T.b_repr (by decide +kernel) (pa_cons (pv 7) pa_nil)) (nomark _)) (pw_or1 (pt_not (pt_val (pe_cG c__law_goes_on.fn hgd (hr.mono (by decide)) (by rfl) c__law_goes_on.mg c__law_goes_on.kp c__law_goes_on.b .nil VS.pass0 (pa_cons (pv 9) pa_nil))))))) (pss_one (ps_ret pe_bl))
        pss_nil)
        (pss_one (ps_expr (pe_bm PySem.F.plainAttrs_list PySem.F.slot_list_append PySem.F.type_list_append mt_append (pe_dget (hu_of hr) (pv 9) (pe_ix ix_tup (pe_ix ix_list (pv 5) pe_int (fun _ _ => rfl)) pe_int (fun _ _ => rfl)) (fun _ _ => rfl)) (pa_cons pe_str pa_nil)))))))
        (pss_cons (ps_set (i := 10) sc_law.nd rfl (Or.inr rfl) (pe_cG c__law_way.fn hgd (hr.mono (by decide)) (by rfl) c__law_way.mg c__law_way.kp c__law_way.b .nil VS.pass0 (pa_cons (pv 2) (pa_cons (pv 7) (pa_cons (pe_mG0 (pv 6) c_Heap_names.cl c_Heap_names.me c_Heap_names.fn hgd (hr.mono (by decide)) c_Heap_names.b .nil VS.pass0) pa_nil)))))
        (pss_cons (ps_set (i := 11) sc_law.nd rfl (Or.inl rfl) (pe_lst pa_nil))
        (pss_cons (ps_for po rfl (pi_list (pv 10)) (pg_name (i := 12) sc_law.nd rfl (Or.inr rfl))
        (pss_one (ps_expr (pe_bm PySem.F.plainAttrs_list PySem.F.slot_list_extend PySem.F.type_list_extend mt_extend (pv 11) (pa_cons (pe_lc (own := [("_law_card", 13)]) rfl sc_law.nd (pi_list (pv 5)) (blkOk_by (own := [("_law_card", 13)]) (N := n_law) (sc := defScope s_law) (by decide +kernel)) (fun _ _ _ _ _ => (pg_name (i := 13) sc_law.nd rfl (Or.inl rfl))) (fun _ _ _ _ _ => (pts_one (pt_cmpR op_eq (pe_ix (kI (K := K) (r := rIxT) ix_tup) (pv 13) pe_int (fun _ _ => rfl)) (pv 12) (nomark _)))) (fun _ _ _ _ _ => (pv 13))) pa_nil)))))
        (pss_cons (ps_if (pt_not (pt_val (pe_cG c__law_way_right.fn hgd (hr.mono (by decide)) (by rfl) c__law_way_right.mg c__law_way_right.kp c__law_way_right.b .nil VS.pass0 (pa_cons (pv 6) (pa_cons (pv 10) (pa_cons (pv 11) (pa_cons (pv 3) (pa_cons (pv 2) pa_nil)))))))) (pss_one (ps_ret pe_bl))
        pss_nil)
        (pss_cons (ps_setLc (i := 5) (own := [("_law_card", 13)]) rfl sc_law.nd rfl rfl (sw_true rfl rfl rfl (by decide +kernel)) (pi_list (pv 5)) (blkOk_by (own := [("_law_card", 13)]) (N := n_law) (sc := defScope s_law) (by decide +kernel)) (fun _ _ _ _ _ => (pg_name (i := 13) sc_law.nd rfl (Or.inl rfl))) (fun _ _ _ _ _ => (pts_one (pt_cmpR op_ne (pe_ix (kI (K := K) (r := rIxT) ix_tup) (pv 13) pe_int (fun _ _ => rfl)) (pe_ix (kI (K := K) (r := rIxL) ix_list) (pv 10) pe_int (fun _ _ => rfl)) (nomark _)))) (fun _ _ _ _ _ => (pv 13)))
        (pss_one (ps_if (pt_cmpR op_ne (pe_callB (c_repr hgd hr hsys) (by rfl) T.b_repr (by decide +kernel) (pa_cons (pe_cG c__law_inside.fn hgd (hr.mono (by decide)) (by rfl) c__law_inside.mg c__law_inside.kp c__law_inside.b .nil VS.pass0 (pa_cons (pv 6) (pa_cons (pv 3) pa_nil))) pa_nil)) (pe_callB (c_repr hgd hr hsys) (by rfl) T.b_repr (by decide +kernel) (pa_cons (pe_cG c__law_outwards.fn hgd (hr.mono (by decide)) (by rfl) c__law_outwards.mg c__law_outwards.kp c__law_outwards.b .nil VS.pass0 (pa_cons (pv 5) (pa_cons (pv 3) pa_nil))) pa_nil)) (nomark _)) (pss_one (ps_ret pe_bl))
        pss_nil)))))))))))))))
        (pss_one (ps_ret pe_bl))), ?_⟩
      (try dsimp only [cxOf, List.map])
      show VX _ _ [_, _, _, _, _, _, _, _, _, _, _, _, _, _] _ _
      walk_at "gr"
      refine vx_for (vi_cells (by decide) (by decide) (by decide) rfl fun j j0 j1 => ?_)
      refine ⟨fun i ρ2 S2 => ∃ x1 x2 x3 x4 x5 x6 x7 x8 x9 x10 x11 x12, ρ2 = [some (.rol (ns.map .int)), x1, x2, x3, x4, x5, x6, x7, x8, x9, x10, x11, x12, none], ⟨_, _, _, _, _, _, _, _, _, _, _, _, rfl⟩, ?_, ?_⟩
      · rintro i0 d_ _ S2 hd_ ⟨x1, x2, x3, x4, x5, x6, x7, x8, x9, x10, x11, x12, rfl⟩
        obtain ⟨rfl, hi⟩ := rngD_at hd_
        walk_at "gr"
        intro p S3 hp0 h3 o3
        clear o3 hp0
        walk_at "gr"
        refine ⟨p, _, rfl, h3, by decide, fun sp S4 s0 s1 h4 o4 => ?_⟩
        clear h3 o4
        walk_at "ga"
        intro t1 S5 t10 t11 h5 o5
        clear h4 o5
        walk_at "ga"
        intro t2 S6 t20 t21 h6 o6
        clear h5 o6
        walk_at "ga"
        intro t3 S7 t30 t31 h7 o7
        clear h6 o7
        refine rv_ixAll (fun d => ∃ m : Int, d = .int m ∧ 1 ≤ m ∧ m ≤ 12) t30 t31 (ac ⟨_, rfl, by decide, by decide⟩ (ac ⟨_, rfl, by omega, by omega⟩ (ac ⟨_, rfl, by omega, by omega⟩ an))) ?_
        rintro _ ⟨m, rfl, m0, m1⟩
        walk_at "gr"
        refine ⟨p, _, m, sp, rfl, h7, by decide, by omega, m1, s0, s1, fun ps S8 cs lm h8 o8 => ?_⟩
        clear h7 o8
        have hps := cs.hps
        have ps0 : ps ≠ [] := fun e => by rw [e] at lm; simp at lm; omega
        walk_at "gr"
        refine ⟨ps, rfl, cs, fun h l S9 nh nl x9 hs9 => ?_⟩
        have w9 : Wd S9 p 900 [(h, hpD C_Heap l), (l, .lst (ps.map (Pc.d C_Parcel C_Sides)))] := ((Wd.of h8).newE2 nh nl hs9.ne x9 hs9.1 hs9.2).mono (by decide)
        clear h8 nh nl x9 hs9
        walk_at "gr"
        refine ⟨ps, sp, rfl, cs, s0, s1, fun d as S10 nd la na da sa e10 hd ha => ?_⟩
        have w10 := w9.ext e10
        refine vg_name ?_
        show VX _ _ [some (.rol (ns.map .int)), some (.int (i0 : Nat)), some (.ref p), some (.int sp), some (.int m), some (.lst (ps.map c9D)), some (.ref h), some (.ref d), x8, x9, x10, x11, x12, none] S10 _
        refine vx_see (fun a => a = d ∨ a ∈ as) (fun a ha' => ?_) (VdR.refl.set 7 rfl (d' := .dK (ps.map fun p => ((.inr p.nm : Key), nmD (goN sp ps p)))) (.c (d := .dK (inD2 ps as)) ?_ nofun (.dK (vdK_in la fun i a p e1 e2 => ?_)))) ?_
        · rcases ha' with rfl | ha'
          · exact ⟨_, hd, nofun⟩
          · obtain ⟨i, hi⟩ := List.getElem?_of_mem ha'
            obtain ⟨p, hp⟩ : ∃ p, ps[i]? = some p := ⟨_, List.getElem?_eq_getElem (by have := (List.getElem?_eq_some_iff.mp hi).1; omega)⟩
            exact ⟨_, ha i a p hi hp, nofun⟩
        · rw [onlyA_in (.inl rfl)]
          exact hd
        · rw [onlyA_in (.inr (List.mem_of_getElem? e1))]
          exact ha i a p e1 e2
        rw [ou_of cs.n]
        show VX _ _ [some (.rol (ns.map .int)), some (.int (i0 : Nat)), some (.ref p), some (.int sp), some (.int m), some (.lst (ps.map c9D)), some (.ref h), some (.dK (ouDs (ps.map Pc.nm) (Eof sp ps))), x8, x9, x10, x11, x12, none] _ _
        have e11 : Ext S9 (cutA (fun a => a = d ∨ a ∈ as) S10) := ext_cut e10 fun a ha => by
          rcases ha with rfl | ha
          · exact nd
          · exact sa a ha
        have w11 := w9.ext e11
        generalize cutA (fun a => a = d ∨ a ∈ as) S10 = S11 at w11 ⊢
        clear w10 hd ha e10 da na la sa nd d as e11 w9
        walk_at "gr"
        refine vx_for (vi_rng1 ?_)
        walk_at "gr"
        refine ⟨2, rfl, by decide, fun i ρ2 S12 => Wd S12 p 900 [(h, hpD C_Heap l), (l, .lst (ps.map (Pc.d C_Parcel C_Sides)))] ∧ ∃ y8 y9, ρ2 = [some (.rol (ns.map .int)), some (.int (i0 : Nat)), some (.ref p), some (.int sp), some (.int m), some (.lst (ps.map c9D)), some (.ref h), some (.dK (ouDs (ps.map Pc.nm) (Eof sp ps))), y8, y9, x10, x11, x12, none], ⟨w11, _, _, rfl⟩, ?_, ?_⟩
        · clear w11
          rintro i d _ S12 hd ⟨w12, y8, y9, rfl⟩
          obtain ⟨rfl, _⟩ := rngD_at hd
          have hs12 := w12.hp 0 1 rfl rfl
          walk_at "gr"
          refine ⟨.ref h, sp, ps, rfl, hs12.is, hps, s0, s1, fun d as S13 nd la na da sa e13 hd ha => ?_⟩
          have w13 := w12.ext e13
          have vd := vd_ou cs.n la hd ha
          refine vg_name ?_
          refine vx_join (fun ρ2 S14 => S14 = S13 ∧ ρ2 = [some (.rol (ns.map .int)), some (.int (i0 : Nat)), some (.ref p), some (.int sp), some (.int m), some (.lst (ps.map c9D)), some (.ref h), some (.dK (ouDs (ps.map Pc.nm) (Eof sp ps))), some (.int (i : Nat)), some (.ref d), x10, x11, x12, none]) ?_ ?_
          · refine vx_if ?_
            refine vt_pureR (VdR.refl.set 9 rfl vd) ?_
            walk_at "gr"
            refine rc_reprS .v (ou_sh hps) (by decide) (by decide) ?_
            walk_at "gr"
            refine rc_reprS .v (ou_sh hps) (by decide) (by decide) ?_
            refine rv_neSame ?_
            walk_at "gr"
            refine ⟨_, _, rfl, Eof_irr hps s0, fun x hx y hy => Eof_in hy, Eof_trans hps s0, fun x => Nat.le_trans Eof_len hps.l, ?_⟩
            walk_at "gr"
            exact ⟨rfl, rfl⟩
          rintro _ S14 ⟨rfl, rfl⟩
          obtain ⟨p0, hp0⟩ : ∃ p0, ps[0]? = some p0 := ⟨_, List.getElem?_eq_getElem (List.length_pos_iff.mpr ps0)⟩
          obtain ⟨a0, ha0⟩ : ∃ a0, as[0]? = some a0 := ⟨_, List.getElem?_eq_getElem (by rw [la]; exact List.length_pos_iff.mpr ps0)⟩
          have c0 := ha 0 a0 p0 ha0 hp0
          have ps12 := hps.l
          walk_at "gr"
          refine ve_dget ?_
          walk_at "gr"
          refine rv_ixL .v (d := c9D p0) (atI_nat (j := 0) (by rw [List.getElem?_map, hp0]; rfl)) ?_
          unfold c9D
          walk_at "gr"
          refine ⟨_, .inr p0.nm, _, .c hd, rfl, valD_in0 hp0 ha0, ?_⟩
          walk_at "gr"
          refine rm_append c0 (by rw [List.length_map]; have := szl; unfold goN; rw [List.length_map]; have := List.length_filter_le (goB sp p0) ps; omega) ?_
          exact ⟨w12.ext (e13.wr (sa a0 (List.mem_of_getElem? ha0))), _, _, rfl⟩
        · rintro _ S12 ⟨w12, y8, y9, rfl⟩
          clear w11
          have hs12 := w12.hp 0 1 rfl rfl
          have c12 := hs12.1
          have ps12 := hps.l
          have lp : (ps.map Pc.nm).length = ps.length := List.length_map ..
          walk_at "gr"
          refine ⟨h, l, ps, rfl, hs12, ps12, ?_⟩
          walk_at "gr"
          refine ⟨p, _, _, _, _, rfl, w12, by decide, fun e => ps0 (List.map_eq_nil_iff.mp e), by omega, fun x hx y hy => Eof_in hy, fun x => Nat.le_trans Eof_len ps12, fun zs S13 zne hz pth zl w13 => ?_⟩
          clear w12 hs12 c12
          have nd := pth_nd (Eof_trans hps s0) (Eof_irr hps s0) pth
          obtain ⟨qs, rfl, hm⟩ := pcs_of hz
          have q12 : qs.length ≤ 12 := by
            have := nd_len nd hz
            rw [List.length_map, lp] at this
            omega
          have qne : qs ≠ [] := fun e => zne (by rw [e]; rfl)
          have hq : Qs sp qs := ⟨fun x hx => hps.g x (hm x hx), nd, q12, qne, goes_pth hps hm pth⟩
          clear pth zl zne hz
          walk_at "gr"
          refine ve_lstc ?_
          walk_at "gr"
          intro c hc
          have w14 := w13.new (d := .lst ((qs.take 0).map c9D)) hc
          have ec : (.lst [] : D) = .lst ((qs.take 0).map c9D) := rfl
          rw [ec]
          generalize VS.put S13 c (.lst ((qs.take 0).map c9D)) = S14 at w14 ⊢
          clear w13 hc ec
          unfold nmD
          walk_at "gr"
          refine vx_for (vi_list ?_)
          walk_at "gr"
          refine ⟨_, .v, fun i ρ2 S15 => Wd S15 p 960 ((c, .lst ((qs.take i).map c9D)) :: [(h, hpD C_Heap l), (l, .lst (ps.map (Pc.d C_Parcel C_Sides)))]) ∧ ∃ y12, ρ2 = [some (.rol (ns.map .int)), some (.int (i0 : Nat)), some (.ref p), some (.int sp), some (.int m), some (.lst (ps.map c9D)), some (.ref h), some (.dK (ouDs (ps.map Pc.nm) (Eof sp ps))), y8, y9, some (.lst ((qs.map Pc.nm).map D.str)), some (.ref c), y12, none], ⟨w14.mono (by decide), _, rfl⟩, ?_, ?_⟩
          · clear w14
            rintro i d _ S15 hd ⟨w15, y12, rfl⟩
            rw [List.map_map, List.getElem?_map] at hd
            cases e : qs[i]? with
            | none => rw [e] at hd; cases hd
            | some r =>
              rw [e] at hd
              cases hd
              have hi' : i < qs.length := (List.getElem?_eq_some_iff.mp e).1
              have tk : qs.take (i + 1) = qs.take i ++ [r] := by rw [List.take_succ, e]; rfl
              have hr' := hm r (List.mem_of_getElem? e)
              refine vg_name ?_
              show VX _ _ [some (.rol (ns.map .int)), some (.int (i0 : Nat)), some (.ref p), some (.int sp), some (.int m), some (.lst (ps.map c9D)), some (.ref h), some (.dK (ouDs (ps.map Pc.nm) (Eof sp ps))), y8, y9, some (.lst ((qs.map Pc.nm).map D.str)), some (.ref c), some (.str r.nm), none] S15 _
              walk_at "gr"
              refine ve_lcF (nmQ r.nm) id (vi_list ?_)
              walk_at "gr"
              refine ⟨_, .v, by rw [List.length_map]; omega, fun d hd => ?_, ?_⟩
              · obtain ⟨x, hx, rfl⟩ := List.mem_map.mp hd
                unfold c9D
                walk_at "gr"
                refine ⟨rfl, fun _ => rfl, fun _ => ?_⟩
                walk_at "gr"
                exact ⟨rfl, rfl⟩
              rw [List.map_id, nmQ_fil, one_card cs.n hr']
              walk_at "gr"
              refine rm_extend w15.g0 .v (by rw [List.length_map, List.length_take]; show _ + 1 ≤ _; have := szl; omega) ?_
              refine ⟨?_, _, rfl⟩
              rw [tk, List.map_append]
              exact w15.wr 0 rfl
          · rintro _ S15 ⟨w15, y12, rfl⟩
            rw [List.length_map, List.length_map, List.take_length] at w15
            clear w14
            refine vx_freeze 11 rfl w15.g0 ?_
            have w16 : Wd (VS.del S15 c) p 960 [(h, hpD C_Heap l), (l, .lst (ps.map (Pc.d C_Parcel C_Sides)))] := w15.dl 0 rfl
            generalize VS.del S15 c = S16 at w16 ⊢
            clear w15
            obtain ⟨q0, e0⟩ : ∃ q0, qs[0]? = some q0 := ⟨_, List.getElem?_eq_getElem (List.length_pos_iff.mpr qne)⟩
            have hq0 := hm q0 (List.mem_of_getElem? e0)
            obtain ⟨i, ei⟩ := List.getElem?_of_mem hq0
            walk_at "gr"
            refine ⟨p, h, l, _, ps, qs, i, q0, sp, rfl, w16, by decide, hps, hm, hq, q12, s0, s1, e0, ei, fun S17 w17 => ?_⟩
            clear w16
            walk_at "gr"
            refine ve_lcF (fun d => !nmQ q0.nm d) id (vi_list ?_)
            walk_at "gr"
            refine ⟨_, .v, by rw [List.length_map]; omega, fun d hd => ?_, ?_⟩
            · obtain ⟨x, hx, rfl⟩ := List.mem_map.mp hd
              unfold c9D
              walk_at "gr"
              refine rv_ixL .v (d := .str q0.nm) (atI_nat (j := 0) (by rw [List.getElem?_map, List.getElem?_map, e0]; rfl)) ?_
              walk_at "gr"
              refine ⟨rfl, fun _ => rfl, fun _ => ?_⟩
              walk_at "gr"
              exact ⟨rfl, rfl⟩
            rw [List.map_id, nmQ_fil', erase_fil cs.n ei]
            have cs2 := cs.erase i
            generalize ps.eraseIdx i = rs at cs2 w17 ⊢
            have hps2 := cs2.hps
            have hs17 := w17.hp 0 1 rfl rfl
            walk_at "gr"
            refine ⟨.ref h, sp, rs, rfl, hs17.is, hps2, s0, s1, fun d as S18 nd la na da sa e18 hd ha => ?_⟩
            have vd := vd_ou cs2.n la hd ha
            walk_at "gr"
            refine rc_reprV vd (ou_sh hps2) (by decide) (by decide) ?_
            walk_at "gr"
            refine ⟨rs, sp, rfl, cs2, s0, s1, fun d' as' S19 nd' la' na' da' sa' e19 hd' ha' => ?_⟩
            have vd' := vd_ou cs2.n la' hd' ha'
            walk_at "gr"
            refine rc_reprV vd' (ou_sh hps2) (by decide) (by decide) ?_
            refine rv_neSame ?_
            walk_at "gr"
            exact ⟨_, _, _, _, _, _, _, _, _, _, _, _, rfl⟩
      · rintro _ S2 ⟨x1, x2, x3, x4, x5, x6, x7, x8, x9, x10, x11, x12, rfl⟩
        walk_at "gr"
        exact q _) only [↓VS.box]
end
end LW
namespace LW
open PySem L2 C8 PySem.Spec PyProof.Rows
theorem fd_mk {K : PySem.W.Frag} {x qual : Str} {st : Stmt} {f : Addr} {od an : Option Addr} {sl : Array (Option Value)} {oc kV dc pm cd ct : Value}
    (l : K.lookup f = some ⟨oc, od, .func (PySem.W.fnOf x qual (defArgs st) (defBody st) (defScope st) .none kV dc pm an cd ct), sl⟩) (c : PySem.W.codeIn K cd qual = true) (k : PySem.W.keepIn K (.ref f) = true) : VS.Fd K x qual st [] f (PySem.W.fnOf x qual (defArgs st) (defBody st) (defScope st) .none kV dc pm an cd ct) :=
  ⟨⟨oc, od, .none, kV, dc, pm, an, cd, ct, sl, rfl, l, c, .inl ⟨rfl, rfl⟩, .inl rfl⟩, k⟩
theorem fd_mkD {K : PySem.W.Frag} {x qual : Str} {st : Stmt} {dvs : List V} {its : Array Value} {f T : Addr} {od an dd : Option Addr} {sl ds : Array (Option Value)} {oc kV dc pm cd ct dc2 : Value} {dn : Nat}
    (l : K.lookup f = some ⟨oc, od, .func (PySem.W.fnOf x qual (defArgs st) (defBody st) (defScope st) (.ref T) kV dc pm an cd ct), sl⟩) (c : PySem.W.codeIn K cd qual = true) (k : PySem.W.keepIn K (.ref f) = true) (hd : dvs ≠ [])
    (lT : K.lookup T = some ⟨dc2, dd, .seq its dn, ds⟩) (v : Vals dvs its.toList) : VS.Fd K x qual st dvs f (PySem.W.fnOf x qual (defArgs st) (defBody st) (defScope st) (.ref T) kV dc pm an cd ct) :=
  ⟨⟨oc, od, .ref T, kV, dc, pm, an, cd, ct, sl, rfl, l, c, .inr ⟨hd, T, _, its.toList, dn, rfl, lT, by simp, v⟩, .inl rfl⟩, k⟩
theorem all_mk {l : PySem.W.OpenLaw} {w : World} {K : PySem.W.Frag} {h : Heap} {mg : Str → Option Value} {fa C_Sides C_Parcel C_Heap C_Nest C_NoNumber C_NoSide C_NoSides C_NoOrder C_NoParcel C_NotInHeap C_NoNest C_Unnested BNoNumber_0 fXNoNumber BNoSide_0 fXNoSide BNoSides_0 fXNoSides BNoOrder_0 fXNoOrder BNoParcel_0 fXNoParcel BNotInHeap_0 fXNotInHeap BNoNest_0 fXNoNest BUnnested_0 fXUnnested f0 f1 f2 f3 f4 f5 f6 f7 f8 f9 f10 T10 f11 f12 f13 T13 f14 f15 f16 f17 f18 f19 T19 f20 f21 f22 f23 T23 f24 f25 f26 f27 f28 f29 T29 f30 f31 f32 f33 T33 f34 f35 f36 f37 f38 f39 f40 f41 f42 f43 f44 f45 f46 f47 f48 f49 f50 f51 f52 f53 f54 f55 f56 f57 : Addr} (X : K.In h) (G : h.Ns mainGlobals mg) (hfa : mg "law" = some (.ref fa))
    (aKSides : PySem.W.nsIn K mainGlobals "Sides" = some (some (.ref C_Sides)))
    (pgKSides : PySem.W.plainGet K C_Sides Str.empty = true)
    (hdKSides : PySem.W.hasDictIn K C_Sides = true)
    (poKSides : PySem.W.plainOver K C_Sides = true)
    (saKSides : PySem.W.findIn K (.ref C_Sides) "__setattr__" = some (some (.builtin "object.__setattr__")))
    (haKSides : PySem.W.findIn K (.ref C_Sides) "__class__" = some (some (.builtin "object.__class__")))
    (hmKSides : PySem.W.mroIn K C_Sides (.type "object") = some true)
    (icKSides : PySem.W.isClsIn K C_Sides = true)
    (tcKSides : PySem.W.typeIn K (.ref C_Sides) = some (.type "type"))
    (nKSides_three : PySem.W.findIn K (.ref C_Sides) "three" = some none)
    (zKSides_int : PySem.W.subIn K (.type "int") (.ref C_Sides) = some false)
    (zKSides_bool : PySem.W.subIn K (.type "bool") (.ref C_Sides) = some false)
    (zKSides_str : PySem.W.subIn K (.type "str") (.ref C_Sides) = some false)
    (zKSides_NoneType : PySem.W.subIn K (.type "NoneType") (.ref C_Sides) = some false)
    (zKSides_list : PySem.W.subIn K (.type "list") (.ref C_Sides) = some false)
    (zKSides_tuple : PySem.W.subIn K (.type "tuple") (.ref C_Sides) = some false)
    (zKSides_dict : PySem.W.subIn K (.type "dict") (.ref C_Sides) = some false)
    (mKSides_0 : PySem.W.subIn K (.ref C_Sides) (.type "str") = some false)
    (mKSides_1 : PySem.W.subIn K (.ref C_Sides) (.type "list") = some false)
    (aKParcel : PySem.W.nsIn K mainGlobals "Parcel" = some (some (.ref C_Parcel)))
    (pgKParcel : PySem.W.plainGet K C_Parcel Str.empty = true)
    (hdKParcel : PySem.W.hasDictIn K C_Parcel = true)
    (poKParcel : PySem.W.plainOver K C_Parcel = true)
    (saKParcel : PySem.W.findIn K (.ref C_Parcel) "__setattr__" = some (some (.builtin "object.__setattr__")))
    (haKParcel : PySem.W.findIn K (.ref C_Parcel) "__class__" = some (some (.builtin "object.__class__")))
    (hmKParcel : PySem.W.mroIn K C_Parcel (.type "object") = some true)
    (icKParcel : PySem.W.isClsIn K C_Parcel = true)
    (tcKParcel : PySem.W.typeIn K (.ref C_Parcel) = some (.type "type"))
    (nKParcel_called : PySem.W.findIn K (.ref C_Parcel) "called" = some none)
    (nKParcel_outside : PySem.W.findIn K (.ref C_Parcel) "outside" = some none)
    (nKParcel_thick : PySem.W.findIn K (.ref C_Parcel) "thick" = some none)
    (nKParcel_heavy : PySem.W.findIn K (.ref C_Parcel) "heavy" = some none)
    (nKParcel_strong : PySem.W.findIn K (.ref C_Parcel) "strong" = some none)
    (nKParcel_marks : PySem.W.findIn K (.ref C_Parcel) "marks" = some none)
    (nKParcel_told : PySem.W.findIn K (.ref C_Parcel) "told" = some none)
    (nKParcel_names : PySem.W.findIn K (.ref C_Parcel) "names" = some none)
    (zKParcel_int : PySem.W.subIn K (.type "int") (.ref C_Parcel) = some false)
    (zKParcel_bool : PySem.W.subIn K (.type "bool") (.ref C_Parcel) = some false)
    (zKParcel_str : PySem.W.subIn K (.type "str") (.ref C_Parcel) = some false)
    (zKParcel_NoneType : PySem.W.subIn K (.type "NoneType") (.ref C_Parcel) = some false)
    (zKParcel_list : PySem.W.subIn K (.type "list") (.ref C_Parcel) = some false)
    (zKParcel_tuple : PySem.W.subIn K (.type "tuple") (.ref C_Parcel) = some false)
    (zKParcel_dict : PySem.W.subIn K (.type "dict") (.ref C_Parcel) = some false)
    (aKHeap : PySem.W.nsIn K mainGlobals "Heap" = some (some (.ref C_Heap)))
    (pgKHeap : PySem.W.plainGet K C_Heap Str.empty = true)
    (hdKHeap : PySem.W.hasDictIn K C_Heap = true)
    (poKHeap : PySem.W.plainOver K C_Heap = true)
    (saKHeap : PySem.W.findIn K (.ref C_Heap) "__setattr__" = some (some (.builtin "object.__setattr__")))
    (haKHeap : PySem.W.findIn K (.ref C_Heap) "__class__" = some (some (.builtin "object.__class__")))
    (hmKHeap : PySem.W.mroIn K C_Heap (.type "object") = some true)
    (icKHeap : PySem.W.isClsIn K C_Heap = true)
    (tcKHeap : PySem.W.typeIn K (.ref C_Heap) = some (.type "type"))
    (nKHeap_held : PySem.W.findIn K (.ref C_Heap) "held" = some none)
    (nKHeap_told : PySem.W.findIn K (.ref C_Heap) "told" = some none)
    (nKHeap_kind : PySem.W.findIn K (.ref C_Heap) "kind" = some none)
    (aKNest : PySem.W.nsIn K mainGlobals "Nest" = some (some (.ref C_Nest)))
    (pgKNest : PySem.W.plainGet K C_Nest Str.empty = true)
    (hdKNest : PySem.W.hasDictIn K C_Nest = true)
    (poKNest : PySem.W.plainOver K C_Nest = true)
    (saKNest : PySem.W.findIn K (.ref C_Nest) "__setattr__" = some (some (.builtin "object.__setattr__")))
    (haKNest : PySem.W.findIn K (.ref C_Nest) "__class__" = some (some (.builtin "object.__class__")))
    (hmKNest : PySem.W.mroIn K C_Nest (.type "object") = some true)
    (icKNest : PySem.W.isClsIn K C_Nest = true)
    (tcKNest : PySem.W.typeIn K (.ref C_Nest) = some (.type "type"))
    (nKNest_layers : PySem.W.findIn K (.ref C_Nest) "layers" = some none)
    (nKNest_ways : PySem.W.findIn K (.ref C_Nest) "ways" = some none)
    (zKNest_int : PySem.W.subIn K (.type "int") (.ref C_Nest) = some false)
    (zKNest_bool : PySem.W.subIn K (.type "bool") (.ref C_Nest) = some false)
    (zKNest_str : PySem.W.subIn K (.type "str") (.ref C_Nest) = some false)
    (zKNest_NoneType : PySem.W.subIn K (.type "NoneType") (.ref C_Nest) = some false)
    (zKNest_list : PySem.W.subIn K (.type "list") (.ref C_Nest) = some false)
    (zKNest_tuple : PySem.W.subIn K (.type "tuple") (.ref C_Nest) = some false)
    (zKNest_dict : PySem.W.subIn K (.type "dict") (.ref C_Nest) = some false)
    (hnO : PySem.W.specialIn K (.builtin "object.__class__") "__get__" = some (some (.builtin "getset_descriptor.__get__"))) (htkO : PySem.W.takesIn K (.builtin "object.__class__") = some true)
    {nmXNoNumber qnXNoNumber : Str} {NXNoNumber : Addr} {bsXNoNumber : List Value} {snXNoNumber : List Str} {suXNoNumber : List Value} {abXNoNumber : Bool} {coXNoNumber : Option Bool} {ddXNoNumber : Option Addr} {k0XNoNumber k1XNoNumber k2XNoNumber k3XNoNumber k5XNoNumber : Option Value}
    (aXNoNumber : PySem.W.nsIn K mainGlobals "NoNumber" = some (some (.ref C_NoNumber)))
    (xXNoNumber : K.lookup C_NoNumber = some (excClassObj nmXNoNumber qnXNoNumber C_NoNumber NXNoNumber bsXNoNumber [.ref BNoNumber_0, .type "ValueError", .type "Exception", .type "BaseException", .type "object"] true snXNoNumber suXNoNumber abXNoNumber coXNoNumber ddXNoNumber k0XNoNumber k1XNoNumber k2XNoNumber k3XNoNumber k5XNoNumber "ValueError.__new__"))
    (saXNoNumber : PySem.W.findIn K (.ref C_NoNumber) "__setattr__" = some (some (.builtin "object.__setattr__")))
    (gaXNoNumber : PySem.W.findIn K (.ref C_NoNumber) "__getattribute__" = some (some (.builtin "BaseException.__getattribute__")))
    (ggXNoNumber : PySem.W.findIn K (.ref C_NoNumber) "__getattr__" = some none)
    (noXNoNumber : PySem.W.findIn K (.ref C_NoNumber) "found" = some none)
    (exXNoNumber : PySem.W.subIn K (.ref C_NoNumber) (.type "BaseException") = some true)
    (tyXNoNumber : PySem.W.typeIn K (.ref C_NoNumber) = some (.type "type"))
    (kcXNoNumber : PySem.W.keepIn K (.ref C_NoNumber) = true)
    (hdXNoNumber : PySem.W.hasDictIn K C_NoNumber = true)
    (iXNoNumber : PySem.W.findIn K (.ref C_NoNumber) "__init__" = some (some (.ref fXNoNumber))) (tXNoNumber : PySem.W.typeIn K (.ref fXNoNumber) = some (.type "function"))
    {odXNoNumber anXNoNumber : Option Addr} {slXNoNumber : Array (Option Value)} {ocXNoNumber kVXNoNumber dcXNoNumber pmXNoNumber cdXNoNumber ctXNoNumber : Value}
    (lXNoNumber : K.lookup fXNoNumber = some ⟨ocXNoNumber, odXNoNumber, .func (PySem.W.fnOf "__init__" "NoNumber.__init__" (defArgs s_NoNumber___init__) (defBody s_NoNumber___init__) (defScope s_NoNumber___init__) .none kVXNoNumber dcXNoNumber pmXNoNumber anXNoNumber cdXNoNumber ctXNoNumber), slXNoNumber⟩) (cXNoNumber : PySem.W.codeIn K cdXNoNumber "NoNumber.__init__" = true) (kXNoNumber : PySem.W.keepIn K (.ref fXNoNumber) = true)
    {nmXNoSide qnXNoSide : Str} {NXNoSide : Addr} {bsXNoSide : List Value} {snXNoSide : List Str} {suXNoSide : List Value} {abXNoSide : Bool} {coXNoSide : Option Bool} {ddXNoSide : Option Addr} {k0XNoSide k1XNoSide k2XNoSide k3XNoSide k5XNoSide : Option Value}
    (aXNoSide : PySem.W.nsIn K mainGlobals "NoSide" = some (some (.ref C_NoSide)))
    (xXNoSide : K.lookup C_NoSide = some (excClassObj nmXNoSide qnXNoSide C_NoSide NXNoSide bsXNoSide [.ref BNoSide_0, .type "ValueError", .type "Exception", .type "BaseException", .type "object"] true snXNoSide suXNoSide abXNoSide coXNoSide ddXNoSide k0XNoSide k1XNoSide k2XNoSide k3XNoSide k5XNoSide "ValueError.__new__"))
    (saXNoSide : PySem.W.findIn K (.ref C_NoSide) "__setattr__" = some (some (.builtin "object.__setattr__")))
    (gaXNoSide : PySem.W.findIn K (.ref C_NoSide) "__getattribute__" = some (some (.builtin "BaseException.__getattribute__")))
    (ggXNoSide : PySem.W.findIn K (.ref C_NoSide) "__getattr__" = some none)
    (noXNoSide : PySem.W.findIn K (.ref C_NoSide) "found" = some none)
    (exXNoSide : PySem.W.subIn K (.ref C_NoSide) (.type "BaseException") = some true)
    (tyXNoSide : PySem.W.typeIn K (.ref C_NoSide) = some (.type "type"))
    (kcXNoSide : PySem.W.keepIn K (.ref C_NoSide) = true)
    (hdXNoSide : PySem.W.hasDictIn K C_NoSide = true)
    (iXNoSide : PySem.W.findIn K (.ref C_NoSide) "__init__" = some (some (.ref fXNoSide))) (tXNoSide : PySem.W.typeIn K (.ref fXNoSide) = some (.type "function"))
    {odXNoSide anXNoSide : Option Addr} {slXNoSide : Array (Option Value)} {ocXNoSide kVXNoSide dcXNoSide pmXNoSide cdXNoSide ctXNoSide : Value}
    (lXNoSide : K.lookup fXNoSide = some ⟨ocXNoSide, odXNoSide, .func (PySem.W.fnOf "__init__" "NoSide.__init__" (defArgs s_NoSide___init__) (defBody s_NoSide___init__) (defScope s_NoSide___init__) .none kVXNoSide dcXNoSide pmXNoSide anXNoSide cdXNoSide ctXNoSide), slXNoSide⟩) (cXNoSide : PySem.W.codeIn K cdXNoSide "NoSide.__init__" = true) (kXNoSide : PySem.W.keepIn K (.ref fXNoSide) = true)
    {nmXNoSides qnXNoSides : Str} {NXNoSides : Addr} {bsXNoSides : List Value} {snXNoSides : List Str} {suXNoSides : List Value} {abXNoSides : Bool} {coXNoSides : Option Bool} {ddXNoSides : Option Addr} {k0XNoSides k1XNoSides k2XNoSides k3XNoSides k5XNoSides : Option Value}
    (aXNoSides : PySem.W.nsIn K mainGlobals "NoSides" = some (some (.ref C_NoSides)))
    (xXNoSides : K.lookup C_NoSides = some (excClassObj nmXNoSides qnXNoSides C_NoSides NXNoSides bsXNoSides [.ref BNoSides_0, .type "ValueError", .type "Exception", .type "BaseException", .type "object"] true snXNoSides suXNoSides abXNoSides coXNoSides ddXNoSides k0XNoSides k1XNoSides k2XNoSides k3XNoSides k5XNoSides "ValueError.__new__"))
    (saXNoSides : PySem.W.findIn K (.ref C_NoSides) "__setattr__" = some (some (.builtin "object.__setattr__")))
    (gaXNoSides : PySem.W.findIn K (.ref C_NoSides) "__getattribute__" = some (some (.builtin "BaseException.__getattribute__")))
    (ggXNoSides : PySem.W.findIn K (.ref C_NoSides) "__getattr__" = some none)
    (noXNoSides : PySem.W.findIn K (.ref C_NoSides) "found" = some none)
    (exXNoSides : PySem.W.subIn K (.ref C_NoSides) (.type "BaseException") = some true)
    (tyXNoSides : PySem.W.typeIn K (.ref C_NoSides) = some (.type "type"))
    (kcXNoSides : PySem.W.keepIn K (.ref C_NoSides) = true)
    (hdXNoSides : PySem.W.hasDictIn K C_NoSides = true)
    (iXNoSides : PySem.W.findIn K (.ref C_NoSides) "__init__" = some (some (.ref fXNoSides))) (tXNoSides : PySem.W.typeIn K (.ref fXNoSides) = some (.type "function"))
    {odXNoSides anXNoSides : Option Addr} {slXNoSides : Array (Option Value)} {ocXNoSides kVXNoSides dcXNoSides pmXNoSides cdXNoSides ctXNoSides : Value}
    (lXNoSides : K.lookup fXNoSides = some ⟨ocXNoSides, odXNoSides, .func (PySem.W.fnOf "__init__" "NoSides.__init__" (defArgs s_NoSides___init__) (defBody s_NoSides___init__) (defScope s_NoSides___init__) .none kVXNoSides dcXNoSides pmXNoSides anXNoSides cdXNoSides ctXNoSides), slXNoSides⟩) (cXNoSides : PySem.W.codeIn K cdXNoSides "NoSides.__init__" = true) (kXNoSides : PySem.W.keepIn K (.ref fXNoSides) = true)
    {nmXNoOrder qnXNoOrder : Str} {NXNoOrder : Addr} {bsXNoOrder : List Value} {snXNoOrder : List Str} {suXNoOrder : List Value} {abXNoOrder : Bool} {coXNoOrder : Option Bool} {ddXNoOrder : Option Addr} {k0XNoOrder k1XNoOrder k2XNoOrder k3XNoOrder k5XNoOrder : Option Value}
    (aXNoOrder : PySem.W.nsIn K mainGlobals "NoOrder" = some (some (.ref C_NoOrder)))
    (xXNoOrder : K.lookup C_NoOrder = some (excClassObj nmXNoOrder qnXNoOrder C_NoOrder NXNoOrder bsXNoOrder [.ref BNoOrder_0, .type "ValueError", .type "Exception", .type "BaseException", .type "object"] true snXNoOrder suXNoOrder abXNoOrder coXNoOrder ddXNoOrder k0XNoOrder k1XNoOrder k2XNoOrder k3XNoOrder k5XNoOrder "ValueError.__new__"))
    (saXNoOrder : PySem.W.findIn K (.ref C_NoOrder) "__setattr__" = some (some (.builtin "object.__setattr__")))
    (gaXNoOrder : PySem.W.findIn K (.ref C_NoOrder) "__getattribute__" = some (some (.builtin "BaseException.__getattribute__")))
    (ggXNoOrder : PySem.W.findIn K (.ref C_NoOrder) "__getattr__" = some none)
    (noXNoOrder : PySem.W.findIn K (.ref C_NoOrder) "found" = some none)
    (exXNoOrder : PySem.W.subIn K (.ref C_NoOrder) (.type "BaseException") = some true)
    (tyXNoOrder : PySem.W.typeIn K (.ref C_NoOrder) = some (.type "type"))
    (kcXNoOrder : PySem.W.keepIn K (.ref C_NoOrder) = true)
    (hdXNoOrder : PySem.W.hasDictIn K C_NoOrder = true)
    (iXNoOrder : PySem.W.findIn K (.ref C_NoOrder) "__init__" = some (some (.ref fXNoOrder))) (tXNoOrder : PySem.W.typeIn K (.ref fXNoOrder) = some (.type "function"))
    {odXNoOrder anXNoOrder : Option Addr} {slXNoOrder : Array (Option Value)} {ocXNoOrder kVXNoOrder dcXNoOrder pmXNoOrder cdXNoOrder ctXNoOrder : Value}
    (lXNoOrder : K.lookup fXNoOrder = some ⟨ocXNoOrder, odXNoOrder, .func (PySem.W.fnOf "__init__" "NoOrder.__init__" (defArgs s_NoOrder___init__) (defBody s_NoOrder___init__) (defScope s_NoOrder___init__) .none kVXNoOrder dcXNoOrder pmXNoOrder anXNoOrder cdXNoOrder ctXNoOrder), slXNoOrder⟩) (cXNoOrder : PySem.W.codeIn K cdXNoOrder "NoOrder.__init__" = true) (kXNoOrder : PySem.W.keepIn K (.ref fXNoOrder) = true)
    {nmXNoParcel qnXNoParcel : Str} {NXNoParcel : Addr} {bsXNoParcel : List Value} {snXNoParcel : List Str} {suXNoParcel : List Value} {abXNoParcel : Bool} {coXNoParcel : Option Bool} {ddXNoParcel : Option Addr} {k0XNoParcel k1XNoParcel k2XNoParcel k3XNoParcel k5XNoParcel : Option Value}
    (aXNoParcel : PySem.W.nsIn K mainGlobals "NoParcel" = some (some (.ref C_NoParcel)))
    (xXNoParcel : K.lookup C_NoParcel = some (excClassObj nmXNoParcel qnXNoParcel C_NoParcel NXNoParcel bsXNoParcel [.ref BNoParcel_0, .type "ValueError", .type "Exception", .type "BaseException", .type "object"] true snXNoParcel suXNoParcel abXNoParcel coXNoParcel ddXNoParcel k0XNoParcel k1XNoParcel k2XNoParcel k3XNoParcel k5XNoParcel "ValueError.__new__"))
    (saXNoParcel : PySem.W.findIn K (.ref C_NoParcel) "__setattr__" = some (some (.builtin "object.__setattr__")))
    (gaXNoParcel : PySem.W.findIn K (.ref C_NoParcel) "__getattribute__" = some (some (.builtin "BaseException.__getattribute__")))
    (ggXNoParcel : PySem.W.findIn K (.ref C_NoParcel) "__getattr__" = some none)
    (noXNoParcel : PySem.W.findIn K (.ref C_NoParcel) "found" = some none)
    (exXNoParcel : PySem.W.subIn K (.ref C_NoParcel) (.type "BaseException") = some true)
    (tyXNoParcel : PySem.W.typeIn K (.ref C_NoParcel) = some (.type "type"))
    (kcXNoParcel : PySem.W.keepIn K (.ref C_NoParcel) = true)
    (hdXNoParcel : PySem.W.hasDictIn K C_NoParcel = true)
    (iXNoParcel : PySem.W.findIn K (.ref C_NoParcel) "__init__" = some (some (.ref fXNoParcel))) (tXNoParcel : PySem.W.typeIn K (.ref fXNoParcel) = some (.type "function"))
    {odXNoParcel anXNoParcel : Option Addr} {slXNoParcel : Array (Option Value)} {ocXNoParcel kVXNoParcel dcXNoParcel pmXNoParcel cdXNoParcel ctXNoParcel : Value}
    (lXNoParcel : K.lookup fXNoParcel = some ⟨ocXNoParcel, odXNoParcel, .func (PySem.W.fnOf "__init__" "NoParcel.__init__" (defArgs s_NoParcel___init__) (defBody s_NoParcel___init__) (defScope s_NoParcel___init__) .none kVXNoParcel dcXNoParcel pmXNoParcel anXNoParcel cdXNoParcel ctXNoParcel), slXNoParcel⟩) (cXNoParcel : PySem.W.codeIn K cdXNoParcel "NoParcel.__init__" = true) (kXNoParcel : PySem.W.keepIn K (.ref fXNoParcel) = true)
    {nmXNotInHeap qnXNotInHeap : Str} {NXNotInHeap : Addr} {bsXNotInHeap : List Value} {snXNotInHeap : List Str} {suXNotInHeap : List Value} {abXNotInHeap : Bool} {coXNotInHeap : Option Bool} {ddXNotInHeap : Option Addr} {k0XNotInHeap k1XNotInHeap k2XNotInHeap k3XNotInHeap k5XNotInHeap : Option Value}
    (aXNotInHeap : PySem.W.nsIn K mainGlobals "NotInHeap" = some (some (.ref C_NotInHeap)))
    (xXNotInHeap : K.lookup C_NotInHeap = some (excClassObj nmXNotInHeap qnXNotInHeap C_NotInHeap NXNotInHeap bsXNotInHeap [.ref BNotInHeap_0, .type "KeyError", .type "LookupError", .type "Exception", .type "BaseException", .type "object"] true snXNotInHeap suXNotInHeap abXNotInHeap coXNotInHeap ddXNotInHeap k0XNotInHeap k1XNotInHeap k2XNotInHeap k3XNotInHeap k5XNotInHeap "LookupError.__new__"))
    (saXNotInHeap : PySem.W.findIn K (.ref C_NotInHeap) "__setattr__" = some (some (.builtin "object.__setattr__")))
    (gaXNotInHeap : PySem.W.findIn K (.ref C_NotInHeap) "__getattribute__" = some (some (.builtin "BaseException.__getattribute__")))
    (ggXNotInHeap : PySem.W.findIn K (.ref C_NotInHeap) "__getattr__" = some none)
    (noXNotInHeap : PySem.W.findIn K (.ref C_NotInHeap) "found" = some none)
    (exXNotInHeap : PySem.W.subIn K (.ref C_NotInHeap) (.type "BaseException") = some true)
    (tyXNotInHeap : PySem.W.typeIn K (.ref C_NotInHeap) = some (.type "type"))
    (kcXNotInHeap : PySem.W.keepIn K (.ref C_NotInHeap) = true)
    (hdXNotInHeap : PySem.W.hasDictIn K C_NotInHeap = true)
    (iXNotInHeap : PySem.W.findIn K (.ref C_NotInHeap) "__init__" = some (some (.ref fXNotInHeap))) (tXNotInHeap : PySem.W.typeIn K (.ref fXNotInHeap) = some (.type "function"))
    {odXNotInHeap anXNotInHeap : Option Addr} {slXNotInHeap : Array (Option Value)} {ocXNotInHeap kVXNotInHeap dcXNotInHeap pmXNotInHeap cdXNotInHeap ctXNotInHeap : Value}
    (lXNotInHeap : K.lookup fXNotInHeap = some ⟨ocXNotInHeap, odXNotInHeap, .func (PySem.W.fnOf "__init__" "NotInHeap.__init__" (defArgs s_NotInHeap___init__) (defBody s_NotInHeap___init__) (defScope s_NotInHeap___init__) .none kVXNotInHeap dcXNotInHeap pmXNotInHeap anXNotInHeap cdXNotInHeap ctXNotInHeap), slXNotInHeap⟩) (cXNotInHeap : PySem.W.codeIn K cdXNotInHeap "NotInHeap.__init__" = true) (kXNotInHeap : PySem.W.keepIn K (.ref fXNotInHeap) = true)
    {nmXNoNest qnXNoNest : Str} {NXNoNest : Addr} {bsXNoNest : List Value} {snXNoNest : List Str} {suXNoNest : List Value} {abXNoNest : Bool} {coXNoNest : Option Bool} {ddXNoNest : Option Addr} {k0XNoNest k1XNoNest k2XNoNest k3XNoNest k5XNoNest : Option Value}
    (aXNoNest : PySem.W.nsIn K mainGlobals "NoNest" = some (some (.ref C_NoNest)))
    (xXNoNest : K.lookup C_NoNest = some (excClassObj nmXNoNest qnXNoNest C_NoNest NXNoNest bsXNoNest [.ref BNoNest_0, .type "ValueError", .type "Exception", .type "BaseException", .type "object"] true snXNoNest suXNoNest abXNoNest coXNoNest ddXNoNest k0XNoNest k1XNoNest k2XNoNest k3XNoNest k5XNoNest "ValueError.__new__"))
    (saXNoNest : PySem.W.findIn K (.ref C_NoNest) "__setattr__" = some (some (.builtin "object.__setattr__")))
    (gaXNoNest : PySem.W.findIn K (.ref C_NoNest) "__getattribute__" = some (some (.builtin "BaseException.__getattribute__")))
    (ggXNoNest : PySem.W.findIn K (.ref C_NoNest) "__getattr__" = some none)
    (noXNoNest : PySem.W.findIn K (.ref C_NoNest) "found" = some none)
    (exXNoNest : PySem.W.subIn K (.ref C_NoNest) (.type "BaseException") = some true)
    (tyXNoNest : PySem.W.typeIn K (.ref C_NoNest) = some (.type "type"))
    (kcXNoNest : PySem.W.keepIn K (.ref C_NoNest) = true)
    (hdXNoNest : PySem.W.hasDictIn K C_NoNest = true)
    (iXNoNest : PySem.W.findIn K (.ref C_NoNest) "__init__" = some (some (.ref fXNoNest))) (tXNoNest : PySem.W.typeIn K (.ref fXNoNest) = some (.type "function"))
    {odXNoNest anXNoNest : Option Addr} {slXNoNest : Array (Option Value)} {ocXNoNest kVXNoNest dcXNoNest pmXNoNest cdXNoNest ctXNoNest : Value}
    (lXNoNest : K.lookup fXNoNest = some ⟨ocXNoNest, odXNoNest, .func (PySem.W.fnOf "__init__" "NoNest.__init__" (defArgs s_NoNest___init__) (defBody s_NoNest___init__) (defScope s_NoNest___init__) .none kVXNoNest dcXNoNest pmXNoNest anXNoNest cdXNoNest ctXNoNest), slXNoNest⟩) (cXNoNest : PySem.W.codeIn K cdXNoNest "NoNest.__init__" = true) (kXNoNest : PySem.W.keepIn K (.ref fXNoNest) = true)
    {nmXUnnested qnXUnnested : Str} {NXUnnested : Addr} {bsXUnnested : List Value} {snXUnnested : List Str} {suXUnnested : List Value} {abXUnnested : Bool} {coXUnnested : Option Bool} {ddXUnnested : Option Addr} {k0XUnnested k1XUnnested k2XUnnested k3XUnnested k5XUnnested : Option Value}
    (aXUnnested : PySem.W.nsIn K mainGlobals "Unnested" = some (some (.ref C_Unnested)))
    (xXUnnested : K.lookup C_Unnested = some (excClassObj nmXUnnested qnXUnnested C_Unnested NXUnnested bsXUnnested [.ref BUnnested_0, .type "ValueError", .type "Exception", .type "BaseException", .type "object"] true snXUnnested suXUnnested abXUnnested coXUnnested ddXUnnested k0XUnnested k1XUnnested k2XUnnested k3XUnnested k5XUnnested "ValueError.__new__"))
    (saXUnnested : PySem.W.findIn K (.ref C_Unnested) "__setattr__" = some (some (.builtin "object.__setattr__")))
    (gaXUnnested : PySem.W.findIn K (.ref C_Unnested) "__getattribute__" = some (some (.builtin "BaseException.__getattribute__")))
    (ggXUnnested : PySem.W.findIn K (.ref C_Unnested) "__getattr__" = some none)
    (noXUnnested : PySem.W.findIn K (.ref C_Unnested) "one" = some none)
    (exXUnnested : PySem.W.subIn K (.ref C_Unnested) (.type "BaseException") = some true)
    (tyXUnnested : PySem.W.typeIn K (.ref C_Unnested) = some (.type "type"))
    (kcXUnnested : PySem.W.keepIn K (.ref C_Unnested) = true)
    (hdXUnnested : PySem.W.hasDictIn K C_Unnested = true)
    (nqXUnnested : PySem.W.findIn K (.ref C_Unnested) "other" = some none)
    (iXUnnested : PySem.W.findIn K (.ref C_Unnested) "__init__" = some (some (.ref fXUnnested))) (tXUnnested : PySem.W.typeIn K (.ref fXUnnested) = some (.type "function"))
    {odXUnnested anXUnnested : Option Addr} {slXUnnested : Array (Option Value)} {ocXUnnested kVXUnnested dcXUnnested pmXUnnested cdXUnnested ctXUnnested : Value}
    (lXUnnested : K.lookup fXUnnested = some ⟨ocXUnnested, odXUnnested, .func (PySem.W.fnOf "__init__" "Unnested.__init__" (defArgs s_Unnested___init__) (defBody s_Unnested___init__) (defScope s_Unnested___init__) .none kVXUnnested dcXUnnested pmXUnnested anXUnnested cdXUnnested ctXUnnested), slXUnnested⟩) (cXUnnested : PySem.W.codeIn K cdXUnnested "Unnested.__init__" = true) (kXUnnested : PySem.W.keepIn K (.ref fXUnnested) = true)
    (a0 : PySem.W.nsIn K mainGlobals "is_whole" = some (some (.ref f0)))
    {od0 an0 : Option Addr} {sl0 : Array (Option Value)} {oc0 kV0 dc0 pm0 cd0 ct0 : Value}
    (l0 : K.lookup f0 = some ⟨oc0, od0, .func (PySem.W.fnOf "is_whole" "is_whole" (defArgs s_is_whole) (defBody s_is_whole) (defScope s_is_whole) .none kV0 dc0 pm0 an0 cd0 ct0), sl0⟩) (c0 : PySem.W.codeIn K cd0 "is_whole" = true) (k0 : PySem.W.keepIn K (.ref f0) = true)
    (a1 : PySem.W.nsIn K mainGlobals "is_name" = some (some (.ref f1)))
    {od1 an1 : Option Addr} {sl1 : Array (Option Value)} {oc1 kV1 dc1 pm1 cd1 ct1 : Value}
    (l1 : K.lookup f1 = some ⟨oc1, od1, .func (PySem.W.fnOf "is_name" "is_name" (defArgs s_is_name) (defBody s_is_name) (defScope s_is_name) .none kV1 dc1 pm1 an1 cd1 ct1), sl1⟩) (c1 : PySem.W.codeIn K cd1 "is_name" = true) (k1 : PySem.W.keepIn K (.ref f1) = true)
    (a2 : PySem.W.nsIn K mainGlobals "is_order" = some (some (.ref f2)))
    {od2 an2 : Option Addr} {sl2 : Array (Option Value)} {oc2 kV2 dc2 pm2 cd2 ct2 : Value}
    (l2 : K.lookup f2 = some ⟨oc2, od2, .func (PySem.W.fnOf "is_order" "is_order" (defArgs s_is_order) (defBody s_is_order) (defScope s_is_order) .none kV2 dc2 pm2 an2 cd2 ct2), sl2⟩) (c2 : PySem.W.codeIn K cd2 "is_order" = true) (k2 : PySem.W.keepIn K (.ref f2) = true)
    (a3 : PySem.W.findIn K (.ref C_Sides) "__init__" = some (some (.ref f3))) (i3 : PySem.W.isFn K (.ref f3) = true)
    {od3 an3 : Option Addr} {sl3 : Array (Option Value)} {oc3 kV3 dc3 pm3 cd3 ct3 : Value}
    (l3 : K.lookup f3 = some ⟨oc3, od3, .func (PySem.W.fnOf "__init__" "Sides.__init__" (defArgs s_Sides___init__) (defBody s_Sides___init__) (defScope s_Sides___init__) .none kV3 dc3 pm3 an3 cd3 ct3), sl3⟩) (c3 : PySem.W.codeIn K cd3 "Sides.__init__" = true) (k3 : PySem.W.keepIn K (.ref f3) = true)
    (mk3 : PySem.W.makesIn K C_Sides = true) (kc3 : PySem.W.keepIn K (.ref C_Sides) = true)
    (a4 : PySem.W.findIn K (.ref C_Sides) "told" = some (some (.ref f4))) (i4 : PySem.W.isFn K (.ref f4) = true)
    {od4 an4 : Option Addr} {sl4 : Array (Option Value)} {oc4 kV4 dc4 pm4 cd4 ct4 : Value}
    (l4 : K.lookup f4 = some ⟨oc4, od4, .func (PySem.W.fnOf "told" "Sides.told" (defArgs s_Sides_told) (defBody s_Sides_told) (defScope s_Sides_told) .none kV4 dc4 pm4 an4 cd4 ct4), sl4⟩) (c4 : PySem.W.codeIn K cd4 "Sides.told" = true) (k4 : PySem.W.keepIn K (.ref f4) = true)
    (a5 : PySem.W.findIn K (.ref C_Sides) "ranked" = some (some (.ref f5))) (i5 : PySem.W.isFn K (.ref f5) = true)
    {od5 an5 : Option Addr} {sl5 : Array (Option Value)} {oc5 kV5 dc5 pm5 cd5 ct5 : Value}
    (l5 : K.lookup f5 = some ⟨oc5, od5, .func (PySem.W.fnOf "ranked" "Sides.ranked" (defArgs s_Sides_ranked) (defBody s_Sides_ranked) (defScope s_Sides_ranked) .none kV5 dc5 pm5 an5 cd5 ct5), sl5⟩) (c5 : PySem.W.codeIn K cd5 "Sides.ranked" = true) (k5 : PySem.W.keepIn K (.ref f5) = true)
    (a6 : PySem.W.nsIn K mainGlobals "need_spare" = some (some (.ref f6)))
    {od6 an6 : Option Addr} {sl6 : Array (Option Value)} {oc6 kV6 dc6 pm6 cd6 ct6 : Value}
    (l6 : K.lookup f6 = some ⟨oc6, od6, .func (PySem.W.fnOf "need_spare" "need_spare" (defArgs s_need_spare) (defBody s_need_spare) (defScope s_need_spare) .none kV6 dc6 pm6 an6 cd6 ct6), sl6⟩) (c6 : PySem.W.codeIn K cd6 "need_spare" = true) (k6 : PySem.W.keepIn K (.ref f6) = true)
    (a7 : PySem.W.findIn K (.ref C_Sides) "turned" = some (some (.ref f7))) (i7 : PySem.W.isFn K (.ref f7) = true)
    {od7 an7 : Option Addr} {sl7 : Array (Option Value)} {oc7 kV7 dc7 pm7 cd7 ct7 : Value}
    (l7 : K.lookup f7 = some ⟨oc7, od7, .func (PySem.W.fnOf "turned" "Sides.turned" (defArgs s_Sides_turned) (defBody s_Sides_turned) (defScope s_Sides_turned) .none kV7 dc7 pm7 an7 cd7 ct7), sl7⟩) (c7 : PySem.W.codeIn K cd7 "Sides.turned" = true) (k7 : PySem.W.keepIn K (.ref f7) = true)
    (a8 : PySem.W.nsIn K mainGlobals "need_both" = some (some (.ref f8)))
    {od8 an8 : Option Addr} {sl8 : Array (Option Value)} {oc8 kV8 dc8 pm8 cd8 ct8 : Value}
    (l8 : K.lookup f8 = some ⟨oc8, od8, .func (PySem.W.fnOf "need_both" "need_both" (defArgs s_need_both) (defBody s_need_both) (defScope s_need_both) .none kV8 dc8 pm8 an8 cd8 ct8), sl8⟩) (c8 : PySem.W.codeIn K cd8 "need_both" = true) (k8 : PySem.W.keepIn K (.ref f8) = true)
    (a9 : PySem.W.nsIn K mainGlobals "goes_by" = some (some (.ref f9)))
    {od9 an9 : Option Addr} {sl9 : Array (Option Value)} {oc9 kV9 dc9 pm9 cd9 ct9 : Value}
    (l9 : K.lookup f9 = some ⟨oc9, od9, .func (PySem.W.fnOf "goes_by" "goes_by" (defArgs s_goes_by) (defBody s_goes_by) (defScope s_goes_by) .none kV9 dc9 pm9 an9 cd9 ct9), sl9⟩) (c9 : PySem.W.codeIn K cd9 "goes_by" = true) (k9 : PySem.W.keepIn K (.ref f9) = true)
    (a10 : PySem.W.nsIn K mainGlobals "goes_in" = some (some (.ref f10)))
    {od10 an10 : Option Addr} {sl10 : Array (Option Value)} {oc10 kV10 dc10 pm10 cd10 ct10 : Value}
    (l10 : K.lookup f10 = some ⟨oc10, od10, .func (PySem.W.fnOf "goes_in" "goes_in" (defArgs s_goes_in) (defBody s_goes_in) (defScope s_goes_in) (.ref T10) kV10 dc10 pm10 an10 cd10 ct10), sl10⟩) (c10 : PySem.W.codeIn K cd10 "goes_in" = true) (k10 : PySem.W.keepIn K (.ref f10) = true)
    {dt10_0 : Tok}
    {dd10 : Option Addr} {dn10 : Nat} {ds10 : Array (Option Value)} {dc210 : Value} (t10 : K.lookup T10 = some ⟨dc210, dd10, .seq #[.int 0 dt10_0] dn10, ds10⟩)
    (a11 : PySem.W.nsIn K mainGlobals "are_labels" = some (some (.ref f11)))
    {od11 an11 : Option Addr} {sl11 : Array (Option Value)} {oc11 kV11 dc11 pm11 cd11 ct11 : Value}
    (l11 : K.lookup f11 = some ⟨oc11, od11, .func (PySem.W.fnOf "are_labels" "are_labels" (defArgs s_are_labels) (defBody s_are_labels) (defScope s_are_labels) .none kV11 dc11 pm11 an11 cd11 ct11), sl11⟩) (c11 : PySem.W.codeIn K cd11 "are_labels" = true) (k11 : PySem.W.keepIn K (.ref f11) = true)
    (a12 : PySem.W.nsIn K mainGlobals "room_in" = some (some (.ref f12)))
    {od12 an12 : Option Addr} {sl12 : Array (Option Value)} {oc12 kV12 dc12 pm12 cd12 ct12 : Value}
    (l12 : K.lookup f12 = some ⟨oc12, od12, .func (PySem.W.fnOf "room_in" "room_in" (defArgs s_room_in) (defBody s_room_in) (defScope s_room_in) .none kV12 dc12 pm12 an12 cd12 ct12), sl12⟩) (c12 : PySem.W.codeIn K cd12 "room_in" = true) (k12 : PySem.W.keepIn K (.ref f12) = true)
    (a13 : PySem.W.findIn K (.ref C_Parcel) "__init__" = some (some (.ref f13))) (i13 : PySem.W.isFn K (.ref f13) = true)
    {od13 an13 : Option Addr} {sl13 : Array (Option Value)} {oc13 kV13 dc13 pm13 cd13 ct13 : Value}
    (l13 : K.lookup f13 = some ⟨oc13, od13, .func (PySem.W.fnOf "__init__" "Parcel.__init__" (defArgs s_Parcel___init__) (defBody s_Parcel___init__) (defScope s_Parcel___init__) (.ref T13) kV13 dc13 pm13 an13 cd13 ct13), sl13⟩) (c13 : PySem.W.codeIn K cd13 "Parcel.__init__" = true) (k13 : PySem.W.keepIn K (.ref f13) = true)
    {dt13_0 : Tok}
    {dt13_1 : Tok}
    {dt13_2 : Tok}
    {dd13 : Option Addr} {dn13 : Nat} {ds13 : Array (Option Value)} {dc213 : Value} (t13 : K.lookup T13 = some ⟨dc213, dd13, .seq #[.int 1 dt13_0, .int 0 dt13_1, .int 0 dt13_2, .none] dn13, ds13⟩)
    (mk13 : PySem.W.makesIn K C_Parcel = true) (kc13 : PySem.W.keepIn K (.ref C_Parcel) = true)
    (a14 : PySem.W.findIn K (.ref C_Parcel) "name" = some (some (.ref f14))) (i14 : PySem.W.isFn K (.ref f14) = true)
    {od14 an14 : Option Addr} {sl14 : Array (Option Value)} {oc14 kV14 dc14 pm14 cd14 ct14 : Value}
    (l14 : K.lookup f14 = some ⟨oc14, od14, .func (PySem.W.fnOf "name" "Parcel.name" (defArgs s_Parcel_name) (defBody s_Parcel_name) (defScope s_Parcel_name) .none kV14 dc14 pm14 an14 cd14 ct14), sl14⟩) (c14 : PySem.W.codeIn K cd14 "Parcel.name" = true) (k14 : PySem.W.keepIn K (.ref f14) = true)
    (a15 : PySem.W.findIn K (.ref C_Parcel) "sides" = some (some (.ref f15))) (i15 : PySem.W.isFn K (.ref f15) = true)
    {od15 an15 : Option Addr} {sl15 : Array (Option Value)} {oc15 kV15 dc15 pm15 cd15 ct15 : Value}
    (l15 : K.lookup f15 = some ⟨oc15, od15, .func (PySem.W.fnOf "sides" "Parcel.sides" (defArgs s_Parcel_sides) (defBody s_Parcel_sides) (defScope s_Parcel_sides) .none kV15 dc15 pm15 an15 cd15 ct15), sl15⟩) (c15 : PySem.W.codeIn K cd15 "Parcel.sides" = true) (k15 : PySem.W.keepIn K (.ref f15) = true)
    (a16 : PySem.W.findIn K (.ref C_Parcel) "labels" = some (some (.ref f16))) (i16 : PySem.W.isFn K (.ref f16) = true)
    {od16 an16 : Option Addr} {sl16 : Array (Option Value)} {oc16 kV16 dc16 pm16 cd16 ct16 : Value}
    (l16 : K.lookup f16 = some ⟨oc16, od16, .func (PySem.W.fnOf "labels" "Parcel.labels" (defArgs s_Parcel_labels) (defBody s_Parcel_labels) (defScope s_Parcel_labels) .none kV16 dc16 pm16 an16 cd16 ct16), sl16⟩) (c16 : PySem.W.codeIn K cd16 "Parcel.labels" = true) (k16 : PySem.W.keepIn K (.ref f16) = true)
    (a17 : PySem.W.findIn K (.ref C_Parcel) "weight" = some (some (.ref f17))) (i17 : PySem.W.isFn K (.ref f17) = true)
    {od17 an17 : Option Addr} {sl17 : Array (Option Value)} {oc17 kV17 dc17 pm17 cd17 ct17 : Value}
    (l17 : K.lookup f17 = some ⟨oc17, od17, .func (PySem.W.fnOf "weight" "Parcel.weight" (defArgs s_Parcel_weight) (defBody s_Parcel_weight) (defScope s_Parcel_weight) .none kV17 dc17 pm17 an17 cd17 ct17), sl17⟩) (c17 : PySem.W.codeIn K cd17 "Parcel.weight" = true) (k17 : PySem.W.keepIn K (.ref f17) = true)
    (a18 : PySem.W.findIn K (.ref C_Parcel) "room" = some (some (.ref f18))) (i18 : PySem.W.isFn K (.ref f18) = true)
    {od18 an18 : Option Addr} {sl18 : Array (Option Value)} {oc18 kV18 dc18 pm18 cd18 ct18 : Value}
    (l18 : K.lookup f18 = some ⟨oc18, od18, .func (PySem.W.fnOf "room" "Parcel.room" (defArgs s_Parcel_room) (defBody s_Parcel_room) (defScope s_Parcel_room) .none kV18 dc18 pm18 an18 cd18 ct18), sl18⟩) (c18 : PySem.W.codeIn K cd18 "Parcel.room" = true) (k18 : PySem.W.keepIn K (.ref f18) = true)
    (a19 : PySem.W.findIn K (.ref C_Parcel) "goes_in" = some (some (.ref f19))) (i19 : PySem.W.isFn K (.ref f19) = true)
    {od19 an19 : Option Addr} {sl19 : Array (Option Value)} {oc19 kV19 dc19 pm19 cd19 ct19 : Value}
    (l19 : K.lookup f19 = some ⟨oc19, od19, .func (PySem.W.fnOf "goes_in" "Parcel.goes_in" (defArgs s_Parcel_goes_in) (defBody s_Parcel_goes_in) (defScope s_Parcel_goes_in) (.ref T19) kV19 dc19 pm19 an19 cd19 ct19), sl19⟩) (c19 : PySem.W.codeIn K cd19 "Parcel.goes_in" = true) (k19 : PySem.W.keepIn K (.ref f19) = true)
    {dt19_0 : Tok}
    {dd19 : Option Addr} {dn19 : Nat} {ds19 : Array (Option Value)} {dc219 : Value} (t19 : K.lookup T19 = some ⟨dc219, dd19, .seq #[.int 0 dt19_0] dn19, ds19⟩)
    (a20 : PySem.W.findIn K (.ref C_Heap) "__init__" = some (some (.ref f20))) (i20 : PySem.W.isFn K (.ref f20) = true)
    {od20 an20 : Option Addr} {sl20 : Array (Option Value)} {oc20 kV20 dc20 pm20 cd20 ct20 : Value}
    (l20 : K.lookup f20 = some ⟨oc20, od20, .func (PySem.W.fnOf "__init__" "Heap.__init__" (defArgs s_Heap___init__) (defBody s_Heap___init__) (defScope s_Heap___init__) .none kV20 dc20 pm20 an20 cd20 ct20), sl20⟩) (c20 : PySem.W.codeIn K cd20 "Heap.__init__" = true) (k20 : PySem.W.keepIn K (.ref f20) = true)
    (mk20 : PySem.W.makesIn K C_Heap = true) (kc20 : PySem.W.keepIn K (.ref C_Heap) = true)
    (a21 : PySem.W.findIn K (.ref C_Heap) "names" = some (some (.ref f21))) (i21 : PySem.W.isFn K (.ref f21) = true)
    {od21 an21 : Option Addr} {sl21 : Array (Option Value)} {oc21 kV21 dc21 pm21 cd21 ct21 : Value}
    (l21 : K.lookup f21 = some ⟨oc21, od21, .func (PySem.W.fnOf "names" "Heap.names" (defArgs s_Heap_names) (defBody s_Heap_names) (defScope s_Heap_names) .none kV21 dc21 pm21 an21 cd21 ct21), sl21⟩) (c21 : PySem.W.codeIn K cd21 "Heap.names" = true) (k21 : PySem.W.keepIn K (.ref f21) = true)
    (a22 : PySem.W.findIn K (.ref C_Heap) "place_of" = some (some (.ref f22))) (i22 : PySem.W.isFn K (.ref f22) = true)
    {od22 an22 : Option Addr} {sl22 : Array (Option Value)} {oc22 kV22 dc22 pm22 cd22 ct22 : Value}
    (l22 : K.lookup f22 = some ⟨oc22, od22, .func (PySem.W.fnOf "place_of" "Heap.place_of" (defArgs s_Heap_place_of) (defBody s_Heap_place_of) (defScope s_Heap_place_of) .none kV22 dc22 pm22 an22 cd22 ct22), sl22⟩) (c22 : PySem.W.codeIn K cd22 "Heap.place_of" = true) (k22 : PySem.W.keepIn K (.ref f22) = true)
    (a23 : PySem.W.findIn K (.ref C_Heap) "put" = some (some (.ref f23))) (i23 : PySem.W.isFn K (.ref f23) = true)
    {od23 an23 : Option Addr} {sl23 : Array (Option Value)} {oc23 kV23 dc23 pm23 cd23 ct23 : Value}
    (l23 : K.lookup f23 = some ⟨oc23, od23, .func (PySem.W.fnOf "put" "Heap.put" (defArgs s_Heap_put) (defBody s_Heap_put) (defScope s_Heap_put) (.ref T23) kV23 dc23 pm23 an23 cd23 ct23), sl23⟩) (c23 : PySem.W.codeIn K cd23 "Heap.put" = true) (k23 : PySem.W.keepIn K (.ref f23) = true)
    {dd23 : Option Addr} {dn23 : Nat} {ds23 : Array (Option Value)} {dc223 : Value} (t23 : K.lookup T23 = some ⟨dc223, dd23, .seq #[.none] dn23, ds23⟩)
    (a24 : PySem.W.findIn K (.ref C_Heap) "out" = some (some (.ref f24))) (i24 : PySem.W.isFn K (.ref f24) = true)
    {od24 an24 : Option Addr} {sl24 : Array (Option Value)} {oc24 kV24 dc24 pm24 cd24 ct24 : Value}
    (l24 : K.lookup f24 = some ⟨oc24, od24, .func (PySem.W.fnOf "out" "Heap.out" (defArgs s_Heap_out) (defBody s_Heap_out) (defScope s_Heap_out) .none kV24 dc24 pm24 an24 cd24 ct24), sl24⟩) (c24 : PySem.W.codeIn K cd24 "Heap.out" = true) (k24 : PySem.W.keepIn K (.ref f24) = true)
    (a25 : PySem.W.findIn K (.ref C_Heap) "parcel" = some (some (.ref f25))) (i25 : PySem.W.isFn K (.ref f25) = true)
    {od25 an25 : Option Addr} {sl25 : Array (Option Value)} {oc25 kV25 dc25 pm25 cd25 ct25 : Value}
    (l25 : K.lookup f25 = some ⟨oc25, od25, .func (PySem.W.fnOf "parcel" "Heap.parcel" (defArgs s_Heap_parcel) (defBody s_Heap_parcel) (defScope s_Heap_parcel) .none kV25 dc25 pm25 an25 cd25 ct25), sl25⟩) (c25 : PySem.W.codeIn K cd25 "Heap.parcel" = true) (k25 : PySem.W.keepIn K (.ref f25) = true)
    (a26 : PySem.W.findIn K (.ref C_Heap) "parcels" = some (some (.ref f26))) (i26 : PySem.W.isFn K (.ref f26) = true)
    {od26 an26 : Option Addr} {sl26 : Array (Option Value)} {oc26 kV26 dc26 pm26 cd26 ct26 : Value}
    (l26 : K.lookup f26 = some ⟨oc26, od26, .func (PySem.W.fnOf "parcels" "Heap.parcels" (defArgs s_Heap_parcels) (defBody s_Heap_parcels) (defScope s_Heap_parcels) .none kV26 dc26 pm26 an26 cd26 ct26), sl26⟩) (c26 : PySem.W.codeIn K cd26 "Heap.parcels" = true) (k26 : PySem.W.keepIn K (.ref f26) = true)
    (a27 : PySem.W.nsIn K mainGlobals "shape_of" = some (some (.ref f27)))
    {od27 an27 : Option Addr} {sl27 : Array (Option Value)} {oc27 kV27 dc27 pm27 cd27 ct27 : Value}
    (l27 : K.lookup f27 = some ⟨oc27, od27, .func (PySem.W.fnOf "shape_of" "shape_of" (defArgs s_shape_of) (defBody s_shape_of) (defScope s_shape_of) .none kV27 dc27 pm27 an27 cd27 ct27), sl27⟩) (c27 : PySem.W.codeIn K cd27 "shape_of" = true) (k27 : PySem.W.keepIn K (.ref f27) = true)
    (a28 : PySem.W.nsIn K mainGlobals "shape_goes" = some (some (.ref f28)))
    {od28 an28 : Option Addr} {sl28 : Array (Option Value)} {oc28 kV28 dc28 pm28 cd28 ct28 : Value}
    (l28 : K.lookup f28 = some ⟨oc28, od28, .func (PySem.W.fnOf "shape_goes" "shape_goes" (defArgs s_shape_goes) (defBody s_shape_goes) (defScope s_shape_goes) .none kV28 dc28 pm28 an28 cd28 ct28), sl28⟩) (c28 : PySem.W.codeIn K cd28 "shape_goes" = true) (k28 : PySem.W.keepIn K (.ref f28) = true)
    (a29 : PySem.W.nsIn K mainGlobals "inside" = some (some (.ref f29)))
    {od29 an29 : Option Addr} {sl29 : Array (Option Value)} {oc29 kV29 dc29 pm29 cd29 ct29 : Value}
    (l29 : K.lookup f29 = some ⟨oc29, od29, .func (PySem.W.fnOf "inside" "inside" (defArgs s_inside) (defBody s_inside) (defScope s_inside) (.ref T29) kV29 dc29 pm29 an29 cd29 ct29), sl29⟩) (c29 : PySem.W.codeIn K cd29 "inside" = true) (k29 : PySem.W.keepIn K (.ref f29) = true)
    {dt29_0 : Tok}
    {dd29 : Option Addr} {dn29 : Nat} {ds29 : Array (Option Value)} {dc229 : Value} (t29 : K.lookup T29 = some ⟨dc229, dd29, .seq #[.int 0 dt29_0] dn29, ds29⟩)
    (a30 : PySem.W.nsIn K mainGlobals "goes" = some (some (.ref f30)))
    {od30 an30 : Option Addr} {sl30 : Array (Option Value)} {oc30 kV30 dc30 pm30 cd30 ct30 : Value}
    (l30 : K.lookup f30 = some ⟨oc30, od30, .func (PySem.W.fnOf "goes" "goes" (defArgs s_goes) (defBody s_goes) (defScope s_goes) .none kV30 dc30 pm30 an30 cd30 ct30), sl30⟩) (c30 : PySem.W.codeIn K cd30 "goes" = true) (k30 : PySem.W.keepIn K (.ref f30) = true)
    (a31 : PySem.W.nsIn K mainGlobals "are_names" = some (some (.ref f31)))
    {od31 an31 : Option Addr} {sl31 : Array (Option Value)} {oc31 kV31 dc31 pm31 cd31 ct31 : Value}
    (l31 : K.lookup f31 = some ⟨oc31, od31, .func (PySem.W.fnOf "are_names" "are_names" (defArgs s_are_names) (defBody s_are_names) (defScope s_are_names) .none kV31 dc31 pm31 an31 cd31 ct31), sl31⟩) (c31 : PySem.W.codeIn K cd31 "are_names" = true) (k31 : PySem.W.keepIn K (.ref f31) = true)
    (a32 : PySem.W.nsIn K mainGlobals "first_apart" = some (some (.ref f32)))
    {od32 an32 : Option Addr} {sl32 : Array (Option Value)} {oc32 kV32 dc32 pm32 cd32 ct32 : Value}
    (l32 : K.lookup f32 = some ⟨oc32, od32, .func (PySem.W.fnOf "first_apart" "first_apart" (defArgs s_first_apart) (defBody s_first_apart) (defScope s_first_apart) .none kV32 dc32 pm32 an32 cd32 ct32), sl32⟩) (c32 : PySem.W.codeIn K cd32 "first_apart" = true) (k32 : PySem.W.keepIn K (.ref f32) = true)
    (a33 : PySem.W.findIn K (.ref C_Nest) "__init__" = some (some (.ref f33))) (i33 : PySem.W.isFn K (.ref f33) = true)
    {od33 an33 : Option Addr} {sl33 : Array (Option Value)} {oc33 kV33 dc33 pm33 cd33 ct33 : Value}
    (l33 : K.lookup f33 = some ⟨oc33, od33, .func (PySem.W.fnOf "__init__" "Nest.__init__" (defArgs s_Nest___init__) (defBody s_Nest___init__) (defScope s_Nest___init__) (.ref T33) kV33 dc33 pm33 an33 cd33 ct33), sl33⟩) (c33 : PySem.W.codeIn K cd33 "Nest.__init__" = true) (k33 : PySem.W.keepIn K (.ref f33) = true)
    {dt33_0 : Tok}
    {dd33 : Option Addr} {dn33 : Nat} {ds33 : Array (Option Value)} {dc233 : Value} (t33 : K.lookup T33 = some ⟨dc233, dd33, .seq #[.int 0 dt33_0] dn33, ds33⟩)
    (mk33 : PySem.W.makesIn K C_Nest = true) (kc33 : PySem.W.keepIn K (.ref C_Nest) = true)
    (a34 : PySem.W.findIn K (.ref C_Nest) "names" = some (some (.ref f34))) (i34 : PySem.W.isFn K (.ref f34) = true)
    {od34 an34 : Option Addr} {sl34 : Array (Option Value)} {oc34 kV34 dc34 pm34 cd34 ct34 : Value}
    (l34 : K.lookup f34 = some ⟨oc34, od34, .func (PySem.W.fnOf "names" "Nest.names" (defArgs s_Nest_names) (defBody s_Nest_names) (defScope s_Nest_names) .none kV34 dc34 pm34 an34 cd34 ct34), sl34⟩) (c34 : PySem.W.codeIn K cd34 "Nest.names" = true) (k34 : PySem.W.keepIn K (.ref f34) = true)
    (a35 : PySem.W.findIn K (.ref C_Nest) "__str__" = some (some (.ref f35))) (i35 : PySem.W.isFn K (.ref f35) = true)
    {od35 an35 : Option Addr} {sl35 : Array (Option Value)} {oc35 kV35 dc35 pm35 cd35 ct35 : Value}
    (l35 : K.lookup f35 = some ⟨oc35, od35, .func (PySem.W.fnOf "__str__" "Nest.__str__" (defArgs s_Nest___str__) (defBody s_Nest___str__) (defScope s_Nest___str__) .none kV35 dc35 pm35 an35 cd35 ct35), sl35⟩) (c35 : PySem.W.codeIn K cd35 "Nest.__str__" = true) (k35 : PySem.W.keepIn K (.ref f35) = true)
    (a36 : PySem.W.findIn K (.ref C_Nest) "turns" = some (some (.ref f36))) (i36 : PySem.W.isFn K (.ref f36) = true)
    {od36 an36 : Option Addr} {sl36 : Array (Option Value)} {oc36 kV36 dc36 pm36 cd36 ct36 : Value}
    (l36 : K.lookup f36 = some ⟨oc36, od36, .func (PySem.W.fnOf "turns" "Nest.turns" (defArgs s_Nest_turns) (defBody s_Nest_turns) (defScope s_Nest_turns) .none kV36 dc36 pm36 an36 cd36 ct36), sl36⟩) (c36 : PySem.W.codeIn K cd36 "Nest.turns" = true) (k36 : PySem.W.keepIn K (.ref f36) = true)
    (a37 : PySem.W.findIn K (.ref C_Nest) "outer" = some (some (.ref f37))) (i37 : PySem.W.isFn K (.ref f37) = true)
    {od37 an37 : Option Addr} {sl37 : Array (Option Value)} {oc37 kV37 dc37 pm37 cd37 ct37 : Value}
    (l37 : K.lookup f37 = some ⟨oc37, od37, .func (PySem.W.fnOf "outer" "Nest.outer" (defArgs s_Nest_outer) (defBody s_Nest_outer) (defScope s_Nest_outer) .none kV37 dc37 pm37 an37 cd37 ct37), sl37⟩) (c37 : PySem.W.codeIn K cd37 "Nest.outer" = true) (k37 : PySem.W.keepIn K (.ref f37) = true)
    (a38 : PySem.W.findIn K (.ref C_Nest) "__len__" = some (some (.ref f38))) (i38 : PySem.W.isFn K (.ref f38) = true)
    {od38 an38 : Option Addr} {sl38 : Array (Option Value)} {oc38 kV38 dc38 pm38 cd38 ct38 : Value}
    (l38 : K.lookup f38 = some ⟨oc38, od38, .func (PySem.W.fnOf "__len__" "Nest.__len__" (defArgs s_Nest___len__) (defBody s_Nest___len__) (defScope s_Nest___len__) .none kV38 dc38 pm38 an38 cd38 ct38), sl38⟩) (c38 : PySem.W.codeIn K cd38 "Nest.__len__" = true) (k38 : PySem.W.keepIn K (.ref f38) = true)
    (a39 : PySem.W.findIn K (.ref C_Nest) "weight" = some (some (.ref f39))) (i39 : PySem.W.isFn K (.ref f39) = true)
    {od39 an39 : Option Addr} {sl39 : Array (Option Value)} {oc39 kV39 dc39 pm39 cd39 ct39 : Value}
    (l39 : K.lookup f39 = some ⟨oc39, od39, .func (PySem.W.fnOf "weight" "Nest.weight" (defArgs s_Nest_weight) (defBody s_Nest_weight) (defScope s_Nest_weight) .none kV39 dc39 pm39 an39 cd39 ct39), sl39⟩) (c39 : PySem.W.codeIn K cd39 "Nest.weight" = true) (k39 : PySem.W.keepIn K (.ref f39) = true)
    (a40 : PySem.W.findIn K (.ref C_Nest) "lies" = some (some (.ref f40))) (i40 : PySem.W.isFn K (.ref f40) = true)
    {od40 an40 : Option Addr} {sl40 : Array (Option Value)} {oc40 kV40 dc40 pm40 cd40 ct40 : Value}
    (l40 : K.lookup f40 = some ⟨oc40, od40, .func (PySem.W.fnOf "lies" "Nest.lies" (defArgs s_Nest_lies) (defBody s_Nest_lies) (defScope s_Nest_lies) .none kV40 dc40 pm40 an40 cd40 ct40), sl40⟩) (c40 : PySem.W.codeIn K cd40 "Nest.lies" = true) (k40 : PySem.W.keepIn K (.ref f40) = true)
    (a41 : PySem.W.nsIn K mainGlobals "_law_cell" = some (some (.ref f41)))
    {od41 an41 : Option Addr} {sl41 : Array (Option Value)} {oc41 kV41 dc41 pm41 cd41 ct41 : Value}
    (l41 : K.lookup f41 = some ⟨oc41, od41, .func (PySem.W.fnOf "_law_cell" "_law_cell" (defArgs s__law_cell) (defBody s__law_cell) (defScope s__law_cell) .none kV41 dc41 pm41 an41 cd41 ct41), sl41⟩) (c41 : PySem.W.codeIn K cd41 "_law_cell" = true) (k41 : PySem.W.keepIn K (.ref f41) = true)
    (a42 : PySem.W.nsIn K mainGlobals "_law_purse" = some (some (.ref f42)))
    {od42 an42 : Option Addr} {sl42 : Array (Option Value)} {oc42 kV42 dc42 pm42 cd42 ct42 : Value}
    (l42 : K.lookup f42 = some ⟨oc42, od42, .func (PySem.W.fnOf "_law_purse" "_law_purse" (defArgs s__law_purse) (defBody s__law_purse) (defScope s__law_purse) .none kV42 dc42 pm42 an42 cd42 ct42), sl42⟩) (c42 : PySem.W.codeIn K cd42 "_law_purse" = true) (k42 : PySem.W.keepIn K (.ref f42) = true)
    (a43 : PySem.W.nsIn K mainGlobals "_law_take" = some (some (.ref f43)))
    {od43 an43 : Option Addr} {sl43 : Array (Option Value)} {oc43 kV43 dc43 pm43 cd43 ct43 : Value}
    (l43 : K.lookup f43 = some ⟨oc43, od43, .func (PySem.W.fnOf "_law_take" "_law_take" (defArgs s__law_take) (defBody s__law_take) (defScope s__law_take) .none kV43 dc43 pm43 an43 cd43 ct43), sl43⟩) (c43 : PySem.W.codeIn K cd43 "_law_take" = true) (k43 : PySem.W.keepIn K (.ref f43) = true)
    (a44 : PySem.W.nsIn K mainGlobals "_law_names" = some (some (.ref f44)))
    {od44 an44 : Option Addr} {sl44 : Array (Option Value)} {oc44 kV44 dc44 pm44 cd44 ct44 : Value}
    (l44 : K.lookup f44 = some ⟨oc44, od44, .func (PySem.W.fnOf "_law_names" "_law_names" (defArgs s__law_names) (defBody s__law_names) (defScope s__law_names) .none kV44 dc44 pm44 an44 cd44 ct44), sl44⟩) (c44 : PySem.W.codeIn K cd44 "_law_names" = true) (k44 : PySem.W.keepIn K (.ref f44) = true)
    (a45 : PySem.W.nsIn K mainGlobals "_law_tray" = some (some (.ref f45)))
    {od45 an45 : Option Addr} {sl45 : Array (Option Value)} {oc45 kV45 dc45 pm45 cd45 ct45 : Value}
    (l45 : K.lookup f45 = some ⟨oc45, od45, .func (PySem.W.fnOf "_law_tray" "_law_tray" (defArgs s__law_tray) (defBody s__law_tray) (defScope s__law_tray) .none kV45 dc45 pm45 an45 cd45 ct45), sl45⟩) (c45 : PySem.W.codeIn K cd45 "_law_tray" = true) (k45 : PySem.W.keepIn K (.ref f45) = true)
    (a46 : PySem.W.nsIn K mainGlobals "_law_heap" = some (some (.ref f46)))
    {od46 an46 : Option Addr} {sl46 : Array (Option Value)} {oc46 kV46 dc46 pm46 cd46 ct46 : Value}
    (l46 : K.lookup f46 = some ⟨oc46, od46, .func (PySem.W.fnOf "_law_heap" "_law_heap" (defArgs s__law_heap) (defBody s__law_heap) (defScope s__law_heap) .none kV46 dc46 pm46 an46 cd46 ct46), sl46⟩) (c46 : PySem.W.codeIn K cd46 "_law_heap" = true) (k46 : PySem.W.keepIn K (.ref f46) = true)
    (a47 : PySem.W.nsIn K mainGlobals "_law_goes" = some (some (.ref f47)))
    {od47 an47 : Option Addr} {sl47 : Array (Option Value)} {oc47 kV47 dc47 pm47 cd47 ct47 : Value}
    (l47 : K.lookup f47 = some ⟨oc47, od47, .func (PySem.W.fnOf "_law_goes" "_law_goes" (defArgs s__law_goes) (defBody s__law_goes) (defScope s__law_goes) .none kV47 dc47 pm47 an47 cd47 ct47), sl47⟩) (c47 : PySem.W.codeIn K cd47 "_law_goes" = true) (k47 : PySem.W.keepIn K (.ref f47) = true)
    (a48 : PySem.W.nsIn K mainGlobals "_law_outwards" = some (some (.ref f48)))
    {od48 an48 : Option Addr} {sl48 : Array (Option Value)} {oc48 kV48 dc48 pm48 cd48 ct48 : Value}
    (l48 : K.lookup f48 = some ⟨oc48, od48, .func (PySem.W.fnOf "_law_outwards" "_law_outwards" (defArgs s__law_outwards) (defBody s__law_outwards) (defScope s__law_outwards) .none kV48 dc48 pm48 an48 cd48 ct48), sl48⟩) (c48 : PySem.W.codeIn K cd48 "_law_outwards" = true) (k48 : PySem.W.keepIn K (.ref f48) = true)
    (a49 : PySem.W.nsIn K mainGlobals "_law_spare" = some (some (.ref f49)))
    {od49 an49 : Option Addr} {sl49 : Array (Option Value)} {oc49 kV49 dc49 pm49 cd49 ct49 : Value}
    (l49 : K.lookup f49 = some ⟨oc49, od49, .func (PySem.W.fnOf "_law_spare" "_law_spare" (defArgs s__law_spare) (defBody s__law_spare) (defScope s__law_spare) .none kV49 dc49 pm49 an49 cd49 ct49), sl49⟩) (c49 : PySem.W.codeIn K cd49 "_law_spare" = true) (k49 : PySem.W.keepIn K (.ref f49) = true)
    (a50 : PySem.W.nsIn K mainGlobals "_law_inside" = some (some (.ref f50)))
    {od50 an50 : Option Addr} {sl50 : Array (Option Value)} {oc50 kV50 dc50 pm50 cd50 ct50 : Value}
    (l50 : K.lookup f50 = some ⟨oc50, od50, .func (PySem.W.fnOf "_law_inside" "_law_inside" (defArgs s__law_inside) (defBody s__law_inside) (defScope s__law_inside) .none kV50 dc50 pm50 an50 cd50 ct50), sl50⟩) (c50 : PySem.W.codeIn K cd50 "_law_inside" = true) (k50 : PySem.W.keepIn K (.ref f50) = true)
    (a51 : PySem.W.nsIn K mainGlobals "_law_goes_on" = some (some (.ref f51)))
    {od51 an51 : Option Addr} {sl51 : Array (Option Value)} {oc51 kV51 dc51 pm51 cd51 ct51 : Value}
    (l51 : K.lookup f51 = some ⟨oc51, od51, .func (PySem.W.fnOf "_law_goes_on" "_law_goes_on" (defArgs s__law_goes_on) (defBody s__law_goes_on) (defScope s__law_goes_on) .none kV51 dc51 pm51 an51 cd51 ct51), sl51⟩) (c51 : PySem.W.codeIn K cd51 "_law_goes_on" = true) (k51 : PySem.W.keepIn K (.ref f51) = true)
    (a52 : PySem.W.nsIn K mainGlobals "_law_way" = some (some (.ref f52)))
    {od52 an52 : Option Addr} {sl52 : Array (Option Value)} {oc52 kV52 dc52 pm52 cd52 ct52 : Value}
    (l52 : K.lookup f52 = some ⟨oc52, od52, .func (PySem.W.fnOf "_law_way" "_law_way" (defArgs s__law_way) (defBody s__law_way) (defScope s__law_way) .none kV52 dc52 pm52 an52 cd52 ct52), sl52⟩) (c52 : PySem.W.codeIn K cd52 "_law_way" = true) (k52 : PySem.W.keepIn K (.ref f52) = true)
    (a53 : PySem.W.nsIn K mainGlobals "_law_lies_right" = some (some (.ref f53)))
    {od53 an53 : Option Addr} {sl53 : Array (Option Value)} {oc53 kV53 dc53 pm53 cd53 ct53 : Value}
    (l53 : K.lookup f53 = some ⟨oc53, od53, .func (PySem.W.fnOf "_law_lies_right" "_law_lies_right" (defArgs s__law_lies_right) (defBody s__law_lies_right) (defScope s__law_lies_right) .none kV53 dc53 pm53 an53 cd53 ct53), sl53⟩) (c53 : PySem.W.codeIn K cd53 "_law_lies_right" = true) (k53 : PySem.W.keepIn K (.ref f53) = true)
    (a54 : PySem.W.nsIn K mainGlobals "_law_stands" = some (some (.ref f54)))
    {od54 an54 : Option Addr} {sl54 : Array (Option Value)} {oc54 kV54 dc54 pm54 cd54 ct54 : Value}
    (l54 : K.lookup f54 = some ⟨oc54, od54, .func (PySem.W.fnOf "_law_stands" "_law_stands" (defArgs s__law_stands) (defBody s__law_stands) (defScope s__law_stands) .none kV54 dc54 pm54 an54 cd54 ct54), sl54⟩) (c54 : PySem.W.codeIn K cd54 "_law_stands" = true) (k54 : PySem.W.keepIn K (.ref f54) = true)
    (a55 : PySem.W.nsIn K mainGlobals "_law_refused" = some (some (.ref f55)))
    {od55 an55 : Option Addr} {sl55 : Array (Option Value)} {oc55 kV55 dc55 pm55 cd55 ct55 : Value}
    (l55 : K.lookup f55 = some ⟨oc55, od55, .func (PySem.W.fnOf "_law_refused" "_law_refused" (defArgs s__law_refused) (defBody s__law_refused) (defScope s__law_refused) .none kV55 dc55 pm55 an55 cd55 ct55), sl55⟩) (c55 : PySem.W.codeIn K cd55 "_law_refused" = true) (k55 : PySem.W.keepIn K (.ref f55) = true)
    (a56 : PySem.W.nsIn K mainGlobals "_law_way_right" = some (some (.ref f56)))
    {od56 an56 : Option Addr} {sl56 : Array (Option Value)} {oc56 kV56 dc56 pm56 cd56 ct56 : Value}
    (l56 : K.lookup f56 = some ⟨oc56, od56, .func (PySem.W.fnOf "_law_way_right" "_law_way_right" (defArgs s__law_way_right) (defBody s__law_way_right) (defScope s__law_way_right) .none kV56 dc56 pm56 an56 cd56 ct56), sl56⟩) (c56 : PySem.W.codeIn K cd56 "_law_way_right" = true) (k56 : PySem.W.keepIn K (.ref f56) = true)
    (a57 : PySem.W.nsIn K mainGlobals "law" = some (some (.ref f57)))
    {od57 an57 : Option Addr} {sl57 : Array (Option Value)} {oc57 kV57 dc57 pm57 cd57 ct57 : Value}
    (l57 : K.lookup f57 = some ⟨oc57, od57, .func (PySem.W.fnOf "law" "law" (defArgs s_law) (defBody s_law) (defScope s_law) .none kV57 dc57 pm57 an57 cd57 ct57), sl57⟩) (c57 : PySem.W.codeIn K cd57 "law" = true) (k57 : PySem.W.keepIn K (.ref f57) = true)
    (z_all : PySem.W.nsIn K mainGlobals "all" = some none)
    (z_bool : PySem.W.nsIn K mainGlobals "bool" = some none)
    (z_enumerate : PySem.W.nsIn K mainGlobals "enumerate" = some none)
    (z_int : PySem.W.nsIn K mainGlobals "int" = some none)
    (z_isinstance : PySem.W.nsIn K mainGlobals "isinstance" = some none)
    (z_len : PySem.W.nsIn K mainGlobals "len" = some none)
    (z_list : PySem.W.nsIn K mainGlobals "list" = some none)
    (z_max : PySem.W.nsIn K mainGlobals "max" = some none)
    (z_min : PySem.W.nsIn K mainGlobals "min" = some none)
    (z_range : PySem.W.nsIn K mainGlobals "range" = some none)
    (z_repr : PySem.W.nsIn K mainGlobals "repr" = some none)
    (z_reversed : PySem.W.nsIn K mainGlobals "reversed" = some none)
    (z_set : PySem.W.nsIn K mainGlobals "set" = some none)
    (z_sorted : PySem.W.nsIn K mainGlobals "sorted" = some none)
    (z_str : PySem.W.nsIn K mainGlobals "str" = some none)
    (z_sum : PySem.W.nsIn K mainGlobals "sum" = some none)
    (z_tuple : PySem.W.nsIn K mainGlobals "tuple" = some none)
    (z_zip : PySem.W.nsIn K mainGlobals "zip" = some none)
    {t_LETTERS : Tok} (z_LETTERS : PySem.W.nsIn K mainGlobals "LETTERS" = some (some (.str "abcdefghijklmnopqrstuvwxyz" t_LETTERS)))
    {t_MOST_PARCELS : Tok} (z_MOST_PARCELS : PySem.W.nsIn K mainGlobals "MOST_PARCELS" = some (some (.int 12 t_MOST_PARCELS)))
    {t_MOST_SIDE : Tok} (z_MOST_SIDE : PySem.W.nsIn K mainGlobals "MOST_SIDE" = some (some (.int 100000 t_MOST_SIDE)))
    {t_MOST_SPARE : Tok} (z_MOST_SPARE : PySem.W.nsIn K mainGlobals "MOST_SPARE" = some (some (.int 1000 t_MOST_SPARE)))
    {t_MOST_WALL : Tok} (z_MOST_WALL : PySem.W.nsIn K mainGlobals "MOST_WALL" = some (some (.int 1000 t_MOST_WALL)))
    {t_MOST_WEIGHT : Tok} (z_MOST_WEIGHT : PySem.W.nsIn K mainGlobals "MOST_WEIGHT" = some (some (.int 100000 t_MOST_WEIGHT)))
    (z_goes_in_fits : PySem.W.nsIn K mainGlobals "goes_in_fits" = some (some (.ref f10)))
    (icNoNest : PySem.W.isClsIn K C_NoNest = true)
    (icUnnested : PySem.W.isClsIn K C_Unnested = true)
    (sbNoNest_NoNest : PySem.W.subIn K (.ref C_NoNest) (.ref C_NoNest) = some true)
    (sbNoNest_Unnested : PySem.W.subIn K (.ref C_NoNest) (.ref C_Unnested) = some false)
    (sbUnnested_NoNest : PySem.W.subIn K (.ref C_Unnested) (.ref C_NoNest) = some false)
    (sbUnnested_Unnested : PySem.W.subIn K (.ref C_Unnested) (.ref C_Unnested) = some true)
    {aO t0_ t1_ t2_ t3_ t4_ t5_ : Addr} {dO : Option Addr} {nO : Nat} {sO : Array (Option Value)} (z_ORDERS : PySem.W.nsIn K mainGlobals "ORDERS" = some (some (.ref aO)))
    (kO : K.lookup aO = some ⟨.type "tuple", dO, .seq #[.ref t0_, .ref t1_, .ref t2_, .ref t3_, .ref t4_, .ref t5_] nO, sO⟩)
    {e0_ : Option Addr} {m0_ : Nat} {r0_ : Array (Option Value)} {x0_ y0_ w0_ : Tok} (kt0_ : K.lookup t0_ = some ⟨.type "tuple", e0_, .seq #[.int 0 x0_, .int 1 y0_, .int 2 w0_] m0_, r0_⟩)
    {e1_ : Option Addr} {m1_ : Nat} {r1_ : Array (Option Value)} {x1_ y1_ w1_ : Tok} (kt1_ : K.lookup t1_ = some ⟨.type "tuple", e1_, .seq #[.int 0 x1_, .int 2 y1_, .int 1 w1_] m1_, r1_⟩)
    {e2_ : Option Addr} {m2_ : Nat} {r2_ : Array (Option Value)} {x2_ y2_ w2_ : Tok} (kt2_ : K.lookup t2_ = some ⟨.type "tuple", e2_, .seq #[.int 1 x2_, .int 0 y2_, .int 2 w2_] m2_, r2_⟩)
    {e3_ : Option Addr} {m3_ : Nat} {r3_ : Array (Option Value)} {x3_ y3_ w3_ : Tok} (kt3_ : K.lookup t3_ = some ⟨.type "tuple", e3_, .seq #[.int 1 x3_, .int 2 y3_, .int 0 w3_] m3_, r3_⟩)
    {e4_ : Option Addr} {m4_ : Nat} {r4_ : Array (Option Value)} {x4_ y4_ w4_ : Tok} (kt4_ : K.lookup t4_ = some ⟨.type "tuple", e4_, .seq #[.int 2 x4_, .int 0 y4_, .int 1 w4_] m4_, r4_⟩)
    {e5_ : Option Addr} {m5_ : Nat} {r5_ : Array (Option Value)} {x5_ y5_ w5_ : Tok} (kt5_ : K.lookup t5_ = some ⟨.type "tuple", e5_, .seq #[.int 2 x5_, .int 1 y5_, .int 0 w5_] m5_, r5_⟩)
    {aL_ : Addr} {dL_ : Option Addr} {nL_ : Nat} {sL_ : Array (Option Value)} {xL_ yL_ wL_ : Tok} (z_LABELS : PySem.W.nsIn K mainGlobals "LABELS" = some (some (.ref aL_)))
    (kL_ : K.lookup aL_ = some ⟨.type "tuple", dL_, .seq #[.str "alone" xL_, .str "top" yL_, .str "upright" wL_] nL_, sL_⟩)
    : ∃ fd : FuncData, (∀ (s : Shared) (u : Value), BindsTo s fd ⟨[u], []⟩ [("_law_script", u)]) ∧ ∀ base : Heap, K.In base → base.Ns mainGlobals mg → VS.SysOk base → VS.FnG l.prog w K mg base (L2.CX l.prog w) 20 fa fd ["_law_script"] (VS.spOf K p_law) := by
  have e := hfa.symm.trans (PySem.W.mg_of X G a57)
  cases e
  have T : Tx K mg := ⟨PySem.W.mg_none_of X G z_all, PySem.W.mg_none_of X G z_bool, PySem.W.mg_none_of X G z_enumerate, PySem.W.mg_none_of X G z_int, PySem.W.mg_none_of X G z_isinstance, PySem.W.mg_none_of X G z_len, PySem.W.mg_none_of X G z_list, PySem.W.mg_none_of X G z_max, PySem.W.mg_none_of X G z_min, PySem.W.mg_none_of X G z_range, PySem.W.mg_none_of X G z_repr, PySem.W.mg_none_of X G z_reversed, PySem.W.mg_none_of X G z_set, PySem.W.mg_none_of X G z_sorted, PySem.W.mg_none_of X G z_str, PySem.W.mg_none_of X G z_sum, PySem.W.mg_none_of X G z_tuple, PySem.W.mg_none_of X G z_zip, ⟨_, PySem.W.mg_of X G z_LETTERS, _, rfl⟩, ⟨_, PySem.W.mg_of X G z_MOST_PARCELS, _, rfl⟩, ⟨_, PySem.W.mg_of X G z_MOST_SIDE, _, rfl⟩, ⟨_, PySem.W.mg_of X G z_MOST_SPARE, _, rfl⟩, ⟨_, PySem.W.mg_of X G z_MOST_WALL, _, rfl⟩, ⟨_, PySem.W.mg_of X G z_MOST_WEIGHT, _, rfl⟩, ⟨aO, ⟨_, PySem.W.mg_of X G z_ORDERS, rfl⟩, fun H S => .tupK ⟨_, _, _, kO, rfl, rfl, (by show 6 ≤ sizeLine; decide), (.cons (show RelV (.ref t0_) (.ref t0_) from rfl) (.cons (show RelV (.ref t1_) (.ref t1_) from rfl) (.cons (show RelV (.ref t2_) (.ref t2_) from rfl) (.cons (show RelV (.ref t3_) (.ref t3_) from rfl) (.cons (show RelV (.ref t4_) (.ref t4_) from rfl) (.cons (show RelV (.ref t5_) (.ref t5_) from rfl) .nil))))))⟩ (.cons (.tupK ⟨_, _, _, kt0_, rfl, rfl, (by show 3 ≤ sizeLine; decide), (.cons (show RelV (.int 0) (.int 0 x0_) from ⟨_, rfl⟩) (.cons (show RelV (.int 1) (.int 1 y0_) from ⟨_, rfl⟩) (.cons (show RelV (.int 2) (.int 2 w0_) from ⟨_, rfl⟩) .nil)))⟩ (.cons (.int _) (.cons (.int _) (.cons (.int _) .nil)))) (.cons (.tupK ⟨_, _, _, kt1_, rfl, rfl, (by show 3 ≤ sizeLine; decide), (.cons (show RelV (.int 0) (.int 0 x1_) from ⟨_, rfl⟩) (.cons (show RelV (.int 2) (.int 2 y1_) from ⟨_, rfl⟩) (.cons (show RelV (.int 1) (.int 1 w1_) from ⟨_, rfl⟩) .nil)))⟩ (.cons (.int _) (.cons (.int _) (.cons (.int _) .nil)))) (.cons (.tupK ⟨_, _, _, kt2_, rfl, rfl, (by show 3 ≤ sizeLine; decide), (.cons (show RelV (.int 1) (.int 1 x2_) from ⟨_, rfl⟩) (.cons (show RelV (.int 0) (.int 0 y2_) from ⟨_, rfl⟩) (.cons (show RelV (.int 2) (.int 2 w2_) from ⟨_, rfl⟩) .nil)))⟩ (.cons (.int _) (.cons (.int _) (.cons (.int _) .nil)))) (.cons (.tupK ⟨_, _, _, kt3_, rfl, rfl, (by show 3 ≤ sizeLine; decide), (.cons (show RelV (.int 1) (.int 1 x3_) from ⟨_, rfl⟩) (.cons (show RelV (.int 2) (.int 2 y3_) from ⟨_, rfl⟩) (.cons (show RelV (.int 0) (.int 0 w3_) from ⟨_, rfl⟩) .nil)))⟩ (.cons (.int _) (.cons (.int _) (.cons (.int _) .nil)))) (.cons (.tupK ⟨_, _, _, kt4_, rfl, rfl, (by show 3 ≤ sizeLine; decide), (.cons (show RelV (.int 2) (.int 2 x4_) from ⟨_, rfl⟩) (.cons (show RelV (.int 0) (.int 0 y4_) from ⟨_, rfl⟩) (.cons (show RelV (.int 1) (.int 1 w4_) from ⟨_, rfl⟩) .nil)))⟩ (.cons (.int _) (.cons (.int _) (.cons (.int _) .nil)))) (.cons (.tupK ⟨_, _, _, kt5_, rfl, rfl, (by show 3 ≤ sizeLine; decide), (.cons (show RelV (.int 2) (.int 2 x5_) from ⟨_, rfl⟩) (.cons (show RelV (.int 1) (.int 1 y5_) from ⟨_, rfl⟩) (.cons (show RelV (.int 0) (.int 0 w5_) from ⟨_, rfl⟩) .nil)))⟩ (.cons (.int _) (.cons (.int _) (.cons (.int _) .nil)))) .nil))))))⟩, ⟨aL_, ⟨_, PySem.W.mg_of X G z_LABELS, rfl⟩, fun H S => .tupK ⟨_, _, _, kL_, rfl, rfl, (by show 3 ≤ sizeLine; decide), (.cons (show RelV (.str "alone") (.str "alone" xL_) from ⟨_, rfl⟩) (.cons (show RelV (.str "top") (.str "top" yL_) from ⟨_, rfl⟩) (.cons (show RelV (.str "upright") (.str "upright" wL_) from ⟨_, rfl⟩) .nil)))⟩ (.cons (.str _) (.cons (.str _) (.cons (.str _) .nil)))⟩, (PySem.W.mg_of X G z_goes_in_fits).trans (PySem.W.mg_of X G a10).symm, fun A B h1 h2 => by cases (PySem.W.mg_of X G aXNoNest).symm.trans h1; cases (PySem.W.mg_of X G aXNoNest).symm.trans h2; exact VS.exm_own icNoNest tyXNoNest sbNoNest_NoNest exXNoNest, fun A B h1 h2 => by cases (PySem.W.mg_of X G aXNoNest).symm.trans h1; cases (PySem.W.mg_of X G aXUnnested).symm.trans h2; exact VS.exm_own icUnnested tyXUnnested sbNoNest_Unnested exXUnnested, fun A B h1 h2 => by cases (PySem.W.mg_of X G aXUnnested).symm.trans h1; cases (PySem.W.mg_of X G aXNoNest).symm.trans h2; exact VS.exm_own icNoNest tyXNoNest sbUnnested_NoNest exXNoNest, fun A B h1 h2 => by cases (PySem.W.mg_of X G aXUnnested).symm.trans h1; cases (PySem.W.mg_of X G aXUnnested).symm.trans h2; exact VS.exm_own icUnnested tyXUnnested sbUnnested_Unnested exXUnnested⟩
  have k_Sides : Kl_Sides K mg C_Sides := ⟨PySem.W.mg_of X G aKSides, ⟨⟨pgKSides, hdKSides, poKSides, saKSides⟩, haKSides, hnO, htkO, hmKSides, VS.kit_self⟩, nKSides_three, VS.kit_own rfl icKSides tcKSides zKSides_int, VS.kit_own rfl icKSides tcKSides zKSides_bool, VS.kit_own rfl icKSides tcKSides zKSides_str, VS.kit_own rfl icKSides tcKSides zKSides_NoneType, VS.kit_own rfl icKSides tcKSides zKSides_list, VS.kit_own rfl icKSides tcKSides zKSides_tuple, VS.kit_own rfl icKSides tcKSides zKSides_dict, VS.kit_tyO (by decide +kernel) mKSides_0, VS.kit_tyO (by decide +kernel) mKSides_1⟩
  have k_Parcel : Kl_Parcel K mg C_Parcel := ⟨PySem.W.mg_of X G aKParcel, ⟨⟨pgKParcel, hdKParcel, poKParcel, saKParcel⟩, haKParcel, hnO, htkO, hmKParcel, VS.kit_self⟩, nKParcel_called, nKParcel_outside, nKParcel_thick, nKParcel_heavy, nKParcel_strong, nKParcel_marks, nKParcel_told, nKParcel_names, VS.kit_own rfl icKParcel tcKParcel zKParcel_int, VS.kit_own rfl icKParcel tcKParcel zKParcel_bool, VS.kit_own rfl icKParcel tcKParcel zKParcel_str, VS.kit_own rfl icKParcel tcKParcel zKParcel_NoneType, VS.kit_own rfl icKParcel tcKParcel zKParcel_list, VS.kit_own rfl icKParcel tcKParcel zKParcel_tuple, VS.kit_own rfl icKParcel tcKParcel zKParcel_dict⟩
  have k_Heap : Kl_Heap K mg C_Heap := ⟨PySem.W.mg_of X G aKHeap, ⟨⟨pgKHeap, hdKHeap, poKHeap, saKHeap⟩, haKHeap, hnO, htkO, hmKHeap, VS.kit_self⟩, nKHeap_held, nKHeap_told, nKHeap_kind⟩
  have k_Nest : Kl_Nest K mg C_Nest := ⟨PySem.W.mg_of X G aKNest, ⟨⟨pgKNest, hdKNest, poKNest, saKNest⟩, haKNest, hnO, htkO, hmKNest, VS.kit_self⟩, nKNest_layers, nKNest_ways, VS.kit_own rfl icKNest tcKNest zKNest_int, VS.kit_own rfl icKNest tcKNest zKNest_bool, VS.kit_own rfl icKNest tcKNest zKNest_str, VS.kit_own rfl icKNest tcKNest zKNest_NoneType, VS.kit_own rfl icKNest tcKNest zKNest_list, VS.kit_own rfl icKNest tcKNest zKNest_tuple, VS.kit_own rfl icKNest tcKNest zKNest_dict⟩
  have F0 : VS.Fd K "is_whole" "is_whole" s_is_whole [] f0 _ := fd_mk l0 c0 k0
  have b0 : Binds K _ a_is_whole [] := F0.bindsN fun _ _ _ _ _ _ us hl => match us, hl with | [_, _, _], _ => rfl
  have F1 : VS.Fd K "is_name" "is_name" s_is_name [] f1 _ := fd_mk l1 c1 k1
  have b1 : Binds K _ a_is_name [] := F1.bindsN fun _ _ _ _ _ _ us hl => match us, hl with | [_], _ => rfl
  have F2 : VS.Fd K "is_order" "is_order" s_is_order [] f2 _ := fd_mk l2 c2 k2
  have b2 : Binds K _ a_is_order [] := F2.bindsN fun _ _ _ _ _ _ us hl => match us, hl with | [_], _ => rfl
  have F3 : VS.Fd K "__init__" "Sides.__init__" s_Sides___init__ [] f3 _ := fd_mk l3 c3 k3
  have b3 : Binds K _ a_Sides___init__ [] := F3.bindsN fun _ _ _ _ _ _ us hl => match us, hl with | [_, _, _, _], _ => rfl
  have F4 : VS.Fd K "told" "Sides.told" s_Sides_told [] f4 _ := fd_mk l4 c4 k4
  have b4 : Binds K _ a_Sides_told [] := F4.bindsN fun _ _ _ _ _ _ us hl => match us, hl with | [_], _ => rfl
  have F5 : VS.Fd K "ranked" "Sides.ranked" s_Sides_ranked [] f5 _ := fd_mk l5 c5 k5
  have b5 : Binds K _ a_Sides_ranked [] := F5.bindsN fun _ _ _ _ _ _ us hl => match us, hl with | [_], _ => rfl
  have F6 : VS.Fd K "need_spare" "need_spare" s_need_spare [] f6 _ := fd_mk l6 c6 k6
  have b6 : Binds K _ a_need_spare [] := F6.bindsN fun _ _ _ _ _ _ us hl => match us, hl with | [_], _ => rfl
  have F7 : VS.Fd K "turned" "Sides.turned" s_Sides_turned [] f7 _ := fd_mk l7 c7 k7
  have b7 : Binds K _ a_Sides_turned [] := F7.bindsN fun _ _ _ _ _ _ us hl => match us, hl with | [_, _], _ => rfl
  have F8 : VS.Fd K "need_both" "need_both" s_need_both [] f8 _ := fd_mk l8 c8 k8
  have b8 : Binds K _ a_need_both [] := F8.bindsN fun _ _ _ _ _ _ us hl => match us, hl with | [_, _, _], _ => rfl
  have F9 : VS.Fd K "goes_by" "goes_by" s_goes_by [] f9 _ := fd_mk l9 c9 k9
  have b9 : Binds K _ a_goes_by [] := F9.bindsN fun _ _ _ _ _ _ us hl => match us, hl with | [_, _, _, _], _ => rfl
  have F10 : VS.Fd K "goes_in" "goes_in" s_goes_in [.int 0] f10 _ := fd_mkD l10 c10 k10 (by decide) t10 (.cons (show RelV (.int 0) _ from ⟨_, rfl⟩) .nil)
  obtain ⟨bb10⟩ := VS.bdN (ps := a_goes_in) F10 3 1 (by decide) rfl (fun T kV doc pm an cdv ct us its h1 h2 => match us, its, h1, h2 with | [_, _, _], [_], _, _ => ⟨_, rfl, rfl⟩)
  have b10 : Binds K _ a_goes_in [] := VS.bd_nil bb10
  have F11 : VS.Fd K "are_labels" "are_labels" s_are_labels [] f11 _ := fd_mk l11 c11 k11
  have b11 : Binds K _ a_are_labels [] := F11.bindsN fun _ _ _ _ _ _ us hl => match us, hl with | [_], _ => rfl
  have F12 : VS.Fd K "room_in" "room_in" s_room_in [] f12 _ := fd_mk l12 c12 k12
  have b12 : Binds K _ a_room_in [] := F12.bindsN fun _ _ _ _ _ _ us hl => match us, hl with | [_, _], _ => rfl
  have F13 : VS.Fd K "__init__" "Parcel.__init__" s_Parcel___init__ [.int 1, .int 0, .int 0, .non] f13 _ := fd_mkD l13 c13 k13 (by decide) t13 (.cons (show RelV (.int 1) _ from ⟨_, rfl⟩) (.cons (show RelV (.int 0) _ from ⟨_, rfl⟩) (.cons (show RelV (.int 0) _ from ⟨_, rfl⟩) (.cons (show RelV (.non) _ from rfl) .nil))))
  obtain ⟨bb13⟩ := VS.bdN (ps := a_Parcel___init__) F13 7 4 (by decide) rfl (fun T kV doc pm an cdv ct us its h1 h2 => match us, its, h1, h2 with | [_, _, _, _, _, _, _], [_, _, _, _], _, _ => ⟨_, rfl, rfl⟩)
  have b13 : Binds K _ a_Parcel___init__ [] := VS.bd_nil bb13
  have F14 : VS.Fd K "name" "Parcel.name" s_Parcel_name [] f14 _ := fd_mk l14 c14 k14
  have b14 : Binds K _ a_Parcel_name [] := F14.bindsN fun _ _ _ _ _ _ us hl => match us, hl with | [_], _ => rfl
  have F15 : VS.Fd K "sides" "Parcel.sides" s_Parcel_sides [] f15 _ := fd_mk l15 c15 k15
  have b15 : Binds K _ a_Parcel_sides [] := F15.bindsN fun _ _ _ _ _ _ us hl => match us, hl with | [_], _ => rfl
  have F16 : VS.Fd K "labels" "Parcel.labels" s_Parcel_labels [] f16 _ := fd_mk l16 c16 k16
  have b16 : Binds K _ a_Parcel_labels [] := F16.bindsN fun _ _ _ _ _ _ us hl => match us, hl with | [_], _ => rfl
  have F17 : VS.Fd K "weight" "Parcel.weight" s_Parcel_weight [] f17 _ := fd_mk l17 c17 k17
  have b17 : Binds K _ a_Parcel_weight [] := F17.bindsN fun _ _ _ _ _ _ us hl => match us, hl with | [_], _ => rfl
  have F18 : VS.Fd K "room" "Parcel.room" s_Parcel_room [] f18 _ := fd_mk l18 c18 k18
  have b18 : Binds K _ a_Parcel_room [] := F18.bindsN fun _ _ _ _ _ _ us hl => match us, hl with | [_], _ => rfl
  have F19 : VS.Fd K "goes_in" "Parcel.goes_in" s_Parcel_goes_in [.int 0] f19 _ := fd_mkD l19 c19 k19 (by decide) t19 (.cons (show RelV (.int 0) _ from ⟨_, rfl⟩) .nil)
  obtain ⟨bb19⟩ := VS.bdN (ps := a_Parcel_goes_in) F19 3 1 (by decide) rfl (fun T kV doc pm an cdv ct us its h1 h2 => match us, its, h1, h2 with | [_, _, _], [_], _, _ => ⟨_, rfl, rfl⟩)
  have b19 : Binds K _ a_Parcel_goes_in [] := VS.bd_nil bb19
  have F20 : VS.Fd K "__init__" "Heap.__init__" s_Heap___init__ [] f20 _ := fd_mk l20 c20 k20
  have b20 : Binds K _ a_Heap___init__ [] := F20.bindsN fun _ _ _ _ _ _ us hl => match us, hl with | [_], _ => rfl
  have F21 : VS.Fd K "names" "Heap.names" s_Heap_names [] f21 _ := fd_mk l21 c21 k21
  have b21 : Binds K _ a_Heap_names [] := F21.bindsN fun _ _ _ _ _ _ us hl => match us, hl with | [_], _ => rfl
  have F22 : VS.Fd K "place_of" "Heap.place_of" s_Heap_place_of [] f22 _ := fd_mk l22 c22 k22
  have b22 : Binds K _ a_Heap_place_of [] := F22.bindsN fun _ _ _ _ _ _ us hl => match us, hl with | [_, _], _ => rfl
  have F23 : VS.Fd K "put" "Heap.put" s_Heap_put [.non] f23 _ := fd_mkD l23 c23 k23 (by decide) t23 (.cons (show RelV (.non) _ from rfl) .nil)
  obtain ⟨bb23⟩ := VS.bdN (ps := a_Heap_put) F23 3 1 (by decide) rfl (fun T kV doc pm an cdv ct us its h1 h2 => match us, its, h1, h2 with | [_, _, _], [_], _, _ => ⟨_, rfl, rfl⟩)
  have b23 : Binds K _ a_Heap_put [] := VS.bd_nil bb23
  have F24 : VS.Fd K "out" "Heap.out" s_Heap_out [] f24 _ := fd_mk l24 c24 k24
  have b24 : Binds K _ a_Heap_out [] := F24.bindsN fun _ _ _ _ _ _ us hl => match us, hl with | [_, _], _ => rfl
  have F25 : VS.Fd K "parcel" "Heap.parcel" s_Heap_parcel [] f25 _ := fd_mk l25 c25 k25
  have b25 : Binds K _ a_Heap_parcel [] := F25.bindsN fun _ _ _ _ _ _ us hl => match us, hl with | [_, _], _ => rfl
  have F26 : VS.Fd K "parcels" "Heap.parcels" s_Heap_parcels [] f26 _ := fd_mk l26 c26 k26
  have b26 : Binds K _ a_Heap_parcels [] := F26.bindsN fun _ _ _ _ _ _ us hl => match us, hl with | [_], _ => rfl
  have F27 : VS.Fd K "shape_of" "shape_of" s_shape_of [] f27 _ := fd_mk l27 c27 k27
  have b27 : Binds K _ a_shape_of [] := F27.bindsN fun _ _ _ _ _ _ us hl => match us, hl with | [_], _ => rfl
  have F28 : VS.Fd K "shape_goes" "shape_goes" s_shape_goes [] f28 _ := fd_mk l28 c28 k28
  have b28 : Binds K _ a_shape_goes [] := F28.bindsN fun _ _ _ _ _ _ us hl => match us, hl with | [_, _, _], _ => rfl
  have F29 : VS.Fd K "inside" "inside" s_inside [.int 0] f29 _ := fd_mkD l29 c29 k29 (by decide) t29 (.cons (show RelV (.int 0) _ from ⟨_, rfl⟩) .nil)
  obtain ⟨bb29⟩ := VS.bdN (ps := a_inside) F29 2 1 (by decide) rfl (fun T kV doc pm an cdv ct us its h1 h2 => match us, its, h1, h2 with | [_, _], [_], _, _ => ⟨_, rfl, rfl⟩)
  have b29 : Binds K _ a_inside [] := VS.bd_nil bb29
  have F30 : VS.Fd K "goes" "goes" s_goes [] f30 _ := fd_mk l30 c30 k30
  have b30 : Binds K _ a_goes [] := F30.bindsN fun _ _ _ _ _ _ us hl => match us, hl with | [_, _, _], _ => rfl
  have F31 : VS.Fd K "are_names" "are_names" s_are_names [] f31 _ := fd_mk l31 c31 k31
  have b31 : Binds K _ a_are_names [] := F31.bindsN fun _ _ _ _ _ _ us hl => match us, hl with | [_, _, _], _ => rfl
  have F32 : VS.Fd K "first_apart" "first_apart" s_first_apart [] f32 _ := fd_mk l32 c32 k32
  have b32 : Binds K _ a_first_apart [] := F32.bindsN fun _ _ _ _ _ _ us hl => match us, hl with | [_, _, _], _ => rfl
  have F33 : VS.Fd K "__init__" "Nest.__init__" s_Nest___init__ [.int 0] f33 _ := fd_mkD l33 c33 k33 (by decide) t33 (.cons (show RelV (.int 0) _ from ⟨_, rfl⟩) .nil)
  obtain ⟨bb33⟩ := VS.bdN (ps := a_Nest___init__) F33 4 1 (by decide) rfl (fun T kV doc pm an cdv ct us its h1 h2 => match us, its, h1, h2 with | [_, _, _, _], [_], _, _ => ⟨_, rfl, rfl⟩)
  have b33 : Binds K _ a_Nest___init__ [] := VS.bd_nil bb33
  have F34 : VS.Fd K "names" "Nest.names" s_Nest_names [] f34 _ := fd_mk l34 c34 k34
  have b34 : Binds K _ a_Nest_names [] := F34.bindsN fun _ _ _ _ _ _ us hl => match us, hl with | [_], _ => rfl
  have F35 : VS.Fd K "__str__" "Nest.__str__" s_Nest___str__ [] f35 _ := fd_mk l35 c35 k35
  have b35 : Binds K _ a_Nest___str__ [] := F35.bindsN fun _ _ _ _ _ _ us hl => match us, hl with | [_], _ => rfl
  have F36 : VS.Fd K "turns" "Nest.turns" s_Nest_turns [] f36 _ := fd_mk l36 c36 k36
  have b36 : Binds K _ a_Nest_turns [] := F36.bindsN fun _ _ _ _ _ _ us hl => match us, hl with | [_], _ => rfl
  have F37 : VS.Fd K "outer" "Nest.outer" s_Nest_outer [] f37 _ := fd_mk l37 c37 k37
  have b37 : Binds K _ a_Nest_outer [] := F37.bindsN fun _ _ _ _ _ _ us hl => match us, hl with | [_], _ => rfl
  have F38 : VS.Fd K "__len__" "Nest.__len__" s_Nest___len__ [] f38 _ := fd_mk l38 c38 k38
  have b38 : Binds K _ a_Nest___len__ [] := F38.bindsN fun _ _ _ _ _ _ us hl => match us, hl with | [_], _ => rfl
  have F39 : VS.Fd K "weight" "Nest.weight" s_Nest_weight [] f39 _ := fd_mk l39 c39 k39
  have b39 : Binds K _ a_Nest_weight [] := F39.bindsN fun _ _ _ _ _ _ us hl => match us, hl with | [_], _ => rfl
  have F40 : VS.Fd K "lies" "Nest.lies" s_Nest_lies [] f40 _ := fd_mk l40 c40 k40
  have b40 : Binds K _ a_Nest_lies [] := F40.bindsN fun _ _ _ _ _ _ us hl => match us, hl with | [_, _], _ => rfl
  have F41 : VS.Fd K "_law_cell" "_law_cell" s__law_cell [] f41 _ := fd_mk l41 c41 k41
  have b41 : Binds K _ a__law_cell [] := F41.bindsN fun _ _ _ _ _ _ us hl => match us, hl with | [_, _], _ => rfl
  have F42 : VS.Fd K "_law_purse" "_law_purse" s__law_purse [] f42 _ := fd_mk l42 c42 k42
  have b42 : Binds K _ a__law_purse [] := F42.bindsN fun _ _ _ _ _ _ us hl => match us, hl with | [_], _ => rfl
  have F43 : VS.Fd K "_law_take" "_law_take" s__law_take [] f43 _ := fd_mk l43 c43 k43
  have b43 : Binds K _ a__law_take [] := F43.bindsN fun _ _ _ _ _ _ us hl => match us, hl with | [_, _], _ => rfl
  have F44 : VS.Fd K "_law_names" "_law_names" s__law_names [] f44 _ := fd_mk l44 c44 k44
  have b44 : Binds K _ a__law_names [] := F44.bindsN fun _ _ _ _ _ _ us hl => match us, hl with | [_, _], _ => rfl
  have F45 : VS.Fd K "_law_tray" "_law_tray" s__law_tray [] f45 _ := fd_mk l45 c45 k45
  have b45 : Binds K _ a__law_tray [] := F45.bindsN fun _ _ _ _ _ _ us hl => match us, hl with | [_, _, _], _ => rfl
  have F46 : VS.Fd K "_law_heap" "_law_heap" s__law_heap [] f46 _ := fd_mk l46 c46 k46
  have b46 : Binds K _ a__law_heap [] := F46.bindsN fun _ _ _ _ _ _ us hl => match us, hl with | [_], _ => rfl
  have F47 : VS.Fd K "_law_goes" "_law_goes" s__law_goes [] f47 _ := fd_mk l47 c47 k47
  have b47 : Binds K _ a__law_goes [] := F47.bindsN fun _ _ _ _ _ _ us hl => match us, hl with | [_, _, _], _ => rfl
  have F48 : VS.Fd K "_law_outwards" "_law_outwards" s__law_outwards [] f48 _ := fd_mk l48 c48 k48
  have b48 : Binds K _ a__law_outwards [] := F48.bindsN fun _ _ _ _ _ _ us hl => match us, hl with | [_, _], _ => rfl
  have F49 : VS.Fd K "_law_spare" "_law_spare" s__law_spare [] f49 _ := fd_mk l49 c49 k49
  have b49 : Binds K _ a__law_spare [] := F49.bindsN fun _ _ _ _ _ _ us hl => match us, hl with | [_], _ => rfl
  have F50 : VS.Fd K "_law_inside" "_law_inside" s__law_inside [] f50 _ := fd_mk l50 c50 k50
  have b50 : Binds K _ a__law_inside [] := F50.bindsN fun _ _ _ _ _ _ us hl => match us, hl with | [_, _], _ => rfl
  have F51 : VS.Fd K "_law_goes_on" "_law_goes_on" s__law_goes_on [] f51 _ := fd_mk l51 c51 k51
  have b51 : Binds K _ a__law_goes_on [] := F51.bindsN fun _ _ _ _ _ _ us hl => match us, hl with | [_], _ => rfl
  have F52 : VS.Fd K "_law_way" "_law_way" s__law_way [] f52 _ := fd_mk l52 c52 k52
  have b52 : Binds K _ a__law_way [] := F52.bindsN fun _ _ _ _ _ _ us hl => match us, hl with | [_, _, _], _ => rfl
  have F53 : VS.Fd K "_law_lies_right" "_law_lies_right" s__law_lies_right [] f53 _ := fd_mk l53 c53 k53
  have b53 : Binds K _ a__law_lies_right [] := F53.bindsN fun _ _ _ _ _ _ us hl => match us, hl with | [_, _, _], _ => rfl
  have F54 : VS.Fd K "_law_stands" "_law_stands" s__law_stands [] f54 _ := fd_mk l54 c54 k54
  have b54 : Binds K _ a__law_stands [] := F54.bindsN fun _ _ _ _ _ _ us hl => match us, hl with | [_, _], _ => rfl
  have F55 : VS.Fd K "_law_refused" "_law_refused" s__law_refused [] f55 _ := fd_mk l55 c55 k55
  have b55 : Binds K _ a__law_refused [] := F55.bindsN fun _ _ _ _ _ _ us hl => match us, hl with | [_, _, _], _ => rfl
  have F56 : VS.Fd K "_law_way_right" "_law_way_right" s__law_way_right [] f56 _ := fd_mk l56 c56 k56
  have b56 : Binds K _ a__law_way_right [] := F56.bindsN fun _ _ _ _ _ _ us hl => match us, hl with | [_, _, _, _, _], _ => rfl
  have F57 : VS.Fd K "law" "law" s_law [] fa _ := fd_mk l57 c57 k57
  have FXNoNumber : VS.Fd K "__init__" "NoNumber.__init__" s_NoNumber___init__ [] fXNoNumber _ := fd_mk lXNoNumber cXNoNumber kXNoNumber
  have bXNoNumber : Binds K _ a_NoNumber___init__ [] := FXNoNumber.bindsN fun _ _ _ _ _ _ us hl => match us, hl with | [_, _], _ => rfl
  have FXNoSide : VS.Fd K "__init__" "NoSide.__init__" s_NoSide___init__ [] fXNoSide _ := fd_mk lXNoSide cXNoSide kXNoSide
  have bXNoSide : Binds K _ a_NoSide___init__ [] := FXNoSide.bindsN fun _ _ _ _ _ _ us hl => match us, hl with | [_, _], _ => rfl
  have FXNoSides : VS.Fd K "__init__" "NoSides.__init__" s_NoSides___init__ [] fXNoSides _ := fd_mk lXNoSides cXNoSides kXNoSides
  have bXNoSides : Binds K _ a_NoSides___init__ [] := FXNoSides.bindsN fun _ _ _ _ _ _ us hl => match us, hl with | [_, _], _ => rfl
  have FXNoOrder : VS.Fd K "__init__" "NoOrder.__init__" s_NoOrder___init__ [] fXNoOrder _ := fd_mk lXNoOrder cXNoOrder kXNoOrder
  have bXNoOrder : Binds K _ a_NoOrder___init__ [] := FXNoOrder.bindsN fun _ _ _ _ _ _ us hl => match us, hl with | [_, _], _ => rfl
  have FXNoParcel : VS.Fd K "__init__" "NoParcel.__init__" s_NoParcel___init__ [] fXNoParcel _ := fd_mk lXNoParcel cXNoParcel kXNoParcel
  have bXNoParcel : Binds K _ a_NoParcel___init__ [] := FXNoParcel.bindsN fun _ _ _ _ _ _ us hl => match us, hl with | [_, _], _ => rfl
  have FXNotInHeap : VS.Fd K "__init__" "NotInHeap.__init__" s_NotInHeap___init__ [] fXNotInHeap _ := fd_mk lXNotInHeap cXNotInHeap kXNotInHeap
  have bXNotInHeap : Binds K _ a_NotInHeap___init__ [] := FXNotInHeap.bindsN fun _ _ _ _ _ _ us hl => match us, hl with | [_, _], _ => rfl
  have FXNoNest : VS.Fd K "__init__" "NoNest.__init__" s_NoNest___init__ [] fXNoNest _ := fd_mk lXNoNest cXNoNest kXNoNest
  have bXNoNest : Binds K _ a_NoNest___init__ [] := FXNoNest.bindsN fun _ _ _ _ _ _ us hl => match us, hl with | [_, _], _ => rfl
  have FXUnnested : VS.Fd K "__init__" "Unnested.__init__" s_Unnested___init__ [] fXUnnested _ := fd_mk lXUnnested cXUnnested kXUnnested
  have bXUnnested : Binds K _ a_Unnested___init__ [] := FXUnnested.bindsN fun _ _ _ _ _ _ us hl => match us, hl with | [_, _, _], _ => rfl
  refine ⟨_, fun s u => F57.bindsA (ps := ["_law_script"]) (fun _ _ _ _ _ _ us hl => match us, hl with | [_], _ => rfl) s [u] rfl, fun base _ _ hsys => ?_⟩
  have oxXNoNumber : VS.OexG K C_NoNumber := ⟨⟨nmXNoNumber, qnXNoNumber, NXNoNumber, bsXNoNumber, _, snXNoNumber, suXNoNumber, abXNoNumber, coXNoNumber, ddXNoNumber, k0XNoNumber, k1XNoNumber, k2XNoNumber, k3XNoNumber, k5XNoNumber, _, xXNoNumber, VS.bmG_VE.up⟩, saXNoNumber, exXNoNumber, tyXNoNumber, kcXNoNumber⟩
  have x_NoNumber : VS.Xc l.prog w K mg base "NoNumber" C_NoNumber "found" := ⟨oxXNoNumber, ⟨gaXNoNumber, ggXNoNumber, exXNoNumber, hdXNoNumber⟩, noXNoNumber, PySem.W.mg_of X G aXNoNumber, fXNoNumber, _, _, iXNoNumber, tXNoNumber, VS.xinit_ok (f := "found") FXNoNumber sc_NoNumber___init__ rfl oxXNoNumber noXNoNumber (fun cdv A outer s H E => pss_one (VS.ps_ostG (pv 0) (pv 1))), bXNoNumber⟩
  have oxXNoSide : VS.OexG K C_NoSide := ⟨⟨nmXNoSide, qnXNoSide, NXNoSide, bsXNoSide, _, snXNoSide, suXNoSide, abXNoSide, coXNoSide, ddXNoSide, k0XNoSide, k1XNoSide, k2XNoSide, k3XNoSide, k5XNoSide, _, xXNoSide, VS.bmG_VE.up⟩, saXNoSide, exXNoSide, tyXNoSide, kcXNoSide⟩
  have x_NoSide : VS.Xc l.prog w K mg base "NoSide" C_NoSide "found" := ⟨oxXNoSide, ⟨gaXNoSide, ggXNoSide, exXNoSide, hdXNoSide⟩, noXNoSide, PySem.W.mg_of X G aXNoSide, fXNoSide, _, _, iXNoSide, tXNoSide, VS.xinit_ok (f := "found") FXNoSide sc_NoSide___init__ rfl oxXNoSide noXNoSide (fun cdv A outer s H E => pss_one (VS.ps_ostG (pv 0) (pv 1))), bXNoSide⟩
  have oxXNoSides : VS.OexG K C_NoSides := ⟨⟨nmXNoSides, qnXNoSides, NXNoSides, bsXNoSides, _, snXNoSides, suXNoSides, abXNoSides, coXNoSides, ddXNoSides, k0XNoSides, k1XNoSides, k2XNoSides, k3XNoSides, k5XNoSides, _, xXNoSides, VS.bmG_VE.up⟩, saXNoSides, exXNoSides, tyXNoSides, kcXNoSides⟩
  have x_NoSides : VS.Xc l.prog w K mg base "NoSides" C_NoSides "found" := ⟨oxXNoSides, ⟨gaXNoSides, ggXNoSides, exXNoSides, hdXNoSides⟩, noXNoSides, PySem.W.mg_of X G aXNoSides, fXNoSides, _, _, iXNoSides, tXNoSides, VS.xinit_ok (f := "found") FXNoSides sc_NoSides___init__ rfl oxXNoSides noXNoSides (fun cdv A outer s H E => pss_one (VS.ps_ostG (pv 0) (pv 1))), bXNoSides⟩
  have oxXNoOrder : VS.OexG K C_NoOrder := ⟨⟨nmXNoOrder, qnXNoOrder, NXNoOrder, bsXNoOrder, _, snXNoOrder, suXNoOrder, abXNoOrder, coXNoOrder, ddXNoOrder, k0XNoOrder, k1XNoOrder, k2XNoOrder, k3XNoOrder, k5XNoOrder, _, xXNoOrder, VS.bmG_VE.up⟩, saXNoOrder, exXNoOrder, tyXNoOrder, kcXNoOrder⟩
  have x_NoOrder : VS.Xc l.prog w K mg base "NoOrder" C_NoOrder "found" := ⟨oxXNoOrder, ⟨gaXNoOrder, ggXNoOrder, exXNoOrder, hdXNoOrder⟩, noXNoOrder, PySem.W.mg_of X G aXNoOrder, fXNoOrder, _, _, iXNoOrder, tXNoOrder, VS.xinit_ok (f := "found") FXNoOrder sc_NoOrder___init__ rfl oxXNoOrder noXNoOrder (fun cdv A outer s H E => pss_one (VS.ps_ostG (pv 0) (pv 1))), bXNoOrder⟩
  have oxXNoParcel : VS.OexG K C_NoParcel := ⟨⟨nmXNoParcel, qnXNoParcel, NXNoParcel, bsXNoParcel, _, snXNoParcel, suXNoParcel, abXNoParcel, coXNoParcel, ddXNoParcel, k0XNoParcel, k1XNoParcel, k2XNoParcel, k3XNoParcel, k5XNoParcel, _, xXNoParcel, VS.bmG_VE.up⟩, saXNoParcel, exXNoParcel, tyXNoParcel, kcXNoParcel⟩
  have x_NoParcel : VS.Xc l.prog w K mg base "NoParcel" C_NoParcel "found" := ⟨oxXNoParcel, ⟨gaXNoParcel, ggXNoParcel, exXNoParcel, hdXNoParcel⟩, noXNoParcel, PySem.W.mg_of X G aXNoParcel, fXNoParcel, _, _, iXNoParcel, tXNoParcel, VS.xinit_ok (f := "found") FXNoParcel sc_NoParcel___init__ rfl oxXNoParcel noXNoParcel (fun cdv A outer s H E => pss_one (VS.ps_ostG (pv 0) (pv 1))), bXNoParcel⟩
  have oxXNotInHeap : VS.OexG K C_NotInHeap := ⟨⟨nmXNotInHeap, qnXNotInHeap, NXNotInHeap, bsXNotInHeap, _, snXNotInHeap, suXNotInHeap, abXNotInHeap, coXNotInHeap, ddXNotInHeap, k0XNotInHeap, k1XNotInHeap, k2XNotInHeap, k3XNotInHeap, k5XNotInHeap, _, xXNotInHeap, VS.bmG_KE.up⟩, saXNotInHeap, exXNotInHeap, tyXNotInHeap, kcXNotInHeap⟩
  have x_NotInHeap : VS.Xc l.prog w K mg base "NotInHeap" C_NotInHeap "found" := ⟨oxXNotInHeap, ⟨gaXNotInHeap, ggXNotInHeap, exXNotInHeap, hdXNotInHeap⟩, noXNotInHeap, PySem.W.mg_of X G aXNotInHeap, fXNotInHeap, _, _, iXNotInHeap, tXNotInHeap, VS.xinit_ok (f := "found") FXNotInHeap sc_NotInHeap___init__ rfl oxXNotInHeap noXNotInHeap (fun cdv A outer s H E => pss_one (VS.ps_ostG (pv 0) (pv 1))), bXNotInHeap⟩
  have oxXNoNest : VS.OexG K C_NoNest := ⟨⟨nmXNoNest, qnXNoNest, NXNoNest, bsXNoNest, _, snXNoNest, suXNoNest, abXNoNest, coXNoNest, ddXNoNest, k0XNoNest, k1XNoNest, k2XNoNest, k3XNoNest, k5XNoNest, _, xXNoNest, VS.bmG_VE.up⟩, saXNoNest, exXNoNest, tyXNoNest, kcXNoNest⟩
  have x_NoNest : VS.Xc l.prog w K mg base "NoNest" C_NoNest "found" := ⟨oxXNoNest, ⟨gaXNoNest, ggXNoNest, exXNoNest, hdXNoNest⟩, noXNoNest, PySem.W.mg_of X G aXNoNest, fXNoNest, _, _, iXNoNest, tXNoNest, VS.xinit_ok (f := "found") FXNoNest sc_NoNest___init__ rfl oxXNoNest noXNoNest (fun cdv A outer s H E => pss_one (VS.ps_ostG (pv 0) (pv 1))), bXNoNest⟩
  have oxXUnnested : VS.OexG K C_Unnested := ⟨⟨nmXUnnested, qnXUnnested, NXUnnested, bsXUnnested, _, snXUnnested, suXUnnested, abXUnnested, coXUnnested, ddXUnnested, k0XUnnested, k1XUnnested, k2XUnnested, k3XUnnested, k5XUnnested, _, xXUnnested, VS.bmG_VE.up⟩, saXUnnested, exXUnnested, tyXUnnested, kcXUnnested⟩
  have ocXUnnested : L2.OexC K C_Unnested := ⟨⟨nmXUnnested, qnXUnnested, NXUnnested, bsXUnnested, _, snXUnnested, suXUnnested, abXUnnested, coXUnnested, ddXUnnested, k0XUnnested, k1XUnnested, k2XUnnested, k3XUnnested, k5XUnnested, xXUnnested, rfl⟩, saXUnnested, exXUnnested, tyXUnnested, kcXUnnested⟩
  have x_Unnested : VS.Xc2 l.prog w K mg base "Unnested" C_Unnested "one" "other" := ⟨oxXUnnested, ⟨gaXUnnested, ggXUnnested, exXUnnested, hdXUnnested⟩, noXUnnested, nqXUnnested, PySem.W.mg_of X G aXUnnested, fXUnnested, _, _, iXUnnested, tXUnnested, VS.xinit2_ok (f := "one") (g := "other") FXUnnested sc_Unnested___init__ rfl ocXUnnested noXUnnested nqXUnnested (fun cdv A outer s H E => pss_cons (L2.ps_ost (pv 0) (pv 1)) (pss_one (L2.ps_ost (pv 0) (pv 2)))), bXUnnested⟩
  have c_is_whole : VS.Cf l.prog w K mg base (L2.CX l.prog w) 1 "is_whole" s_is_whole [] a_is_whole (p_is_whole K) f0 _ := ⟨ok_is_whole (C_Sides := C_Sides) (C_Parcel := C_Parcel) (C_Heap := C_Heap) (C_Nest := C_Nest) (C_NoNumber := C_NoNumber) (C_NoSide := C_NoSide) (C_NoSides := C_NoSides) (C_NoOrder := C_NoOrder) (C_NoParcel := C_NoParcel) (C_NotInHeap := C_NotInHeap) (C_NoNest := C_NoNest) (C_Unnested := C_Unnested) F0 T hsys, F0, PySem.W.mg_of X G a0, b0⟩
  have c_is_name : VS.Cf l.prog w K mg base (L2.CX l.prog w) 1 "is_name" s_is_name [] a_is_name (p_is_name K) f1 _ := ⟨ok_is_name (C_Sides := C_Sides) (C_Parcel := C_Parcel) (C_Heap := C_Heap) (C_Nest := C_Nest) (C_NoNumber := C_NoNumber) (C_NoSide := C_NoSide) (C_NoSides := C_NoSides) (C_NoOrder := C_NoOrder) (C_NoParcel := C_NoParcel) (C_NotInHeap := C_NotInHeap) (C_NoNest := C_NoNest) (C_Unnested := C_Unnested) F1 T hsys, F1, PySem.W.mg_of X G a1, b1⟩
  have c_is_order : VS.Cf l.prog w K mg base (L2.CX l.prog w) 2 "is_order" s_is_order [] a_is_order (p_is_order K) f2 _ := ⟨ok_is_order (C_Sides := C_Sides) (C_Parcel := C_Parcel) (C_Heap := C_Heap) (C_Nest := C_Nest) (C_NoNumber := C_NoNumber) (C_NoSide := C_NoSide) (C_NoSides := C_NoSides) (C_NoOrder := C_NoOrder) (C_NoParcel := C_NoParcel) (C_NotInHeap := C_NotInHeap) (C_NoNest := C_NoNest) (C_Unnested := C_Unnested) F2 T hsys c_is_whole, F2, PySem.W.mg_of X G a2, b2⟩
  have c_Sides : VS.Kf l.prog w K mg base 3 "Sides" C_Sides "Sides.__init__" s_Sides___init__ [] a_Sides___init__ (p_Sides_init K C_Sides C_NoSide) f3 _ := ⟨⟨mk3, a3, i3, kc3⟩, ok_Sides___init__ (C_Sides := C_Sides) (C_Parcel := C_Parcel) (C_Heap := C_Heap) (C_Nest := C_Nest) (C_NoNumber := C_NoNumber) (C_NoSide := C_NoSide) (C_NoSides := C_NoSides) (C_NoOrder := C_NoOrder) (C_NoParcel := C_NoParcel) (C_NotInHeap := C_NotInHeap) (C_NoNest := C_NoNest) (C_Unnested := C_Unnested) F3 T hsys c_is_whole x_NoSide k_Sides, F3, k_Sides.at_, b3⟩
  have c_Sides_told : VS.Mf l.prog w K mg base 1 C_Sides "told" "Sides.told" s_Sides_told [] a_Sides_told (p_told C_Sides) f4 _ := ⟨ok_Sides_told (C_Sides := C_Sides) (C_Parcel := C_Parcel) (C_Heap := C_Heap) (C_Nest := C_Nest) (C_NoNumber := C_NoNumber) (C_NoSide := C_NoSide) (C_NoSides := C_NoSides) (C_NoOrder := C_NoOrder) (C_NoParcel := C_NoParcel) (C_NotInHeap := C_NotInHeap) (C_NoNest := C_NoNest) (C_Unnested := C_Unnested) F4 T hsys k_Sides, F4, k_Sides.ins.cl, ⟨a4, i4, k4⟩, b4⟩
  have c_Sides_ranked : VS.Mf l.prog w K mg base 1 C_Sides "ranked" "Sides.ranked" s_Sides_ranked [] a_Sides_ranked (p_ranked C_Sides) f5 _ := ⟨ok_Sides_ranked (C_Sides := C_Sides) (C_Parcel := C_Parcel) (C_Heap := C_Heap) (C_Nest := C_Nest) (C_NoNumber := C_NoNumber) (C_NoSide := C_NoSide) (C_NoSides := C_NoSides) (C_NoOrder := C_NoOrder) (C_NoParcel := C_NoParcel) (C_NotInHeap := C_NotInHeap) (C_NoNest := C_NoNest) (C_Unnested := C_Unnested) F5 T hsys k_Sides, F5, k_Sides.ins.cl, ⟨a5, i5, k5⟩, b5⟩
  have c_need_spare : VS.Cf l.prog w K mg base (L2.CX l.prog w) 3 "need_spare" s_need_spare [] a_need_spare (p_need_spare K C_NoNumber) f6 _ := ⟨ok_need_spare (C_Sides := C_Sides) (C_Parcel := C_Parcel) (C_Heap := C_Heap) (C_Nest := C_Nest) (C_NoNumber := C_NoNumber) (C_NoSide := C_NoSide) (C_NoSides := C_NoSides) (C_NoOrder := C_NoOrder) (C_NoParcel := C_NoParcel) (C_NotInHeap := C_NotInHeap) (C_NoNest := C_NoNest) (C_Unnested := C_Unnested) F6 T hsys c_is_whole x_NoNumber, F6, PySem.W.mg_of X G a6, b6⟩
  have c_Sides_turned : VS.Mf l.prog w K mg base 5 C_Sides "turned" "Sides.turned" s_Sides_turned [] a_Sides_turned (p_turned K C_Sides C_NoOrder) f7 _ := ⟨ok_Sides_turned (C_Sides := C_Sides) (C_Parcel := C_Parcel) (C_Heap := C_Heap) (C_Nest := C_Nest) (C_NoNumber := C_NoNumber) (C_NoSide := C_NoSide) (C_NoSides := C_NoSides) (C_NoOrder := C_NoOrder) (C_NoParcel := C_NoParcel) (C_NotInHeap := C_NotInHeap) (C_NoNest := C_NoNest) (C_Unnested := C_Unnested) F7 T hsys c_is_order c_Sides x_NoOrder k_Sides, F7, k_Sides.ins.cl, ⟨a7, i7, k7⟩, b7⟩
  have c_need_both : VS.Cf l.prog w K mg base (L2.CX l.prog w) 4 "need_both" s_need_both [] a_need_both (p_need_both K C_Sides C_NoSides C_NoNumber) f8 _ := ⟨ok_need_both (C_Sides := C_Sides) (C_Parcel := C_Parcel) (C_Heap := C_Heap) (C_Nest := C_Nest) (C_NoNumber := C_NoNumber) (C_NoSide := C_NoSide) (C_NoSides := C_NoSides) (C_NoOrder := C_NoOrder) (C_NoParcel := C_NoParcel) (C_NotInHeap := C_NotInHeap) (C_NoNest := C_NoNest) (C_Unnested := C_Unnested) F8 T hsys c_need_spare x_NoSides k_Sides, F8, PySem.W.mg_of X G a8, b8⟩
  have c_goes_by : VS.Cf l.prog w K mg base (L2.CX l.prog w) 6 "goes_by" s_goes_by [] a_goes_by (p_goes_by C_Sides) f9 _ := ⟨ok_goes_by (C_Sides := C_Sides) (C_Parcel := C_Parcel) (C_Heap := C_Heap) (C_Nest := C_Nest) (C_NoNumber := C_NoNumber) (C_NoSide := C_NoSide) (C_NoSides := C_NoSides) (C_NoOrder := C_NoOrder) (C_NoParcel := C_NoParcel) (C_NotInHeap := C_NotInHeap) (C_NoNest := C_NoNest) (C_Unnested := C_Unnested) F9 T hsys c_Sides_turned c_Sides_told, F9, PySem.W.mg_of X G a9, b9⟩
  have c_goes_in : VS.Cf l.prog w K mg base (L2.CX l.prog w) 7 "goes_in" s_goes_in [.int 0] a_goes_in (p_goes_in K C_Sides C_NoSides C_NoNumber) f10 _ := ⟨ok_goes_in (C_Sides := C_Sides) (C_Parcel := C_Parcel) (C_Heap := C_Heap) (C_Nest := C_Nest) (C_NoNumber := C_NoNumber) (C_NoSide := C_NoSide) (C_NoSides := C_NoSides) (C_NoOrder := C_NoOrder) (C_NoParcel := C_NoParcel) (C_NotInHeap := C_NotInHeap) (C_NoNest := C_NoNest) (C_Unnested := C_Unnested) F10 T hsys c_need_both c_goes_by c_Sides_ranked, F10, PySem.W.mg_of X G a10, b10⟩
  have c_are_labels : VS.Cf l.prog w K mg base (L2.CX l.prog w) 1 "are_labels" s_are_labels [] a_are_labels p_are_labels f11 _ := ⟨ok_are_labels (C_Sides := C_Sides) (C_Parcel := C_Parcel) (C_Heap := C_Heap) (C_Nest := C_Nest) (C_NoNumber := C_NoNumber) (C_NoSide := C_NoSide) (C_NoSides := C_NoSides) (C_NoOrder := C_NoOrder) (C_NoParcel := C_NoParcel) (C_NotInHeap := C_NotInHeap) (C_NoNest := C_NoNest) (C_Unnested := C_Unnested) F11 T hsys, F11, PySem.W.mg_of X G a11, b11⟩
  have c_room_in : VS.Cf l.prog w K mg base (L2.CX l.prog w) 5 "room_in" s_room_in [] a_room_in (p_room_in C_Sides) f12 _ := ⟨ok_room_in (C_Sides := C_Sides) (C_Parcel := C_Parcel) (C_Heap := C_Heap) (C_Nest := C_Nest) (C_NoNumber := C_NoNumber) (C_NoSide := C_NoSide) (C_NoSides := C_NoSides) (C_NoOrder := C_NoOrder) (C_NoParcel := C_NoParcel) (C_NotInHeap := C_NotInHeap) (C_NoNest := C_NoNest) (C_Unnested := C_Unnested) F12 T hsys c_Sides c_Sides_told k_Sides, F12, PySem.W.mg_of X G a12, b12⟩
  have c_Parcel : VS.Kf l.prog w K mg base 3 "Parcel" C_Parcel "Parcel.__init__" s_Parcel___init__ [.int 1, .int 0, .int 0, .non] a_Parcel___init__ (p_Pc_init C_Parcel C_Sides) f13 _ := ⟨⟨mk13, a13, i13, kc13⟩, ok_Parcel___init__ (C_Sides := C_Sides) (C_Parcel := C_Parcel) (C_Heap := C_Heap) (C_Nest := C_Nest) (C_NoNumber := C_NoNumber) (C_NoSide := C_NoSide) (C_NoSides := C_NoSides) (C_NoOrder := C_NoOrder) (C_NoParcel := C_NoParcel) (C_NotInHeap := C_NotInHeap) (C_NoNest := C_NoNest) (C_Unnested := C_Unnested) F13 T hsys c_is_name c_is_whole c_are_labels k_Sides k_Parcel, F13, k_Parcel.at_, b13⟩
  have c_Parcel_name : VS.Mf l.prog w K mg base 1 C_Parcel "name" "Parcel.name" s_Parcel_name [] a_Parcel_name (p_Pc_name C_Parcel C_Sides) f14 _ := ⟨ok_Parcel_name (C_Sides := C_Sides) (C_Parcel := C_Parcel) (C_Heap := C_Heap) (C_Nest := C_Nest) (C_NoNumber := C_NoNumber) (C_NoSide := C_NoSide) (C_NoSides := C_NoSides) (C_NoOrder := C_NoOrder) (C_NoParcel := C_NoParcel) (C_NotInHeap := C_NotInHeap) (C_NoNest := C_NoNest) (C_Unnested := C_Unnested) F14 T hsys k_Parcel k_Sides, F14, k_Parcel.ins.cl, ⟨a14, i14, k14⟩, b14⟩
  have c_Parcel_sides : VS.Mf l.prog w K mg base 1 C_Parcel "sides" "Parcel.sides" s_Parcel_sides [] a_Parcel_sides (p_Pc_sides C_Parcel C_Sides) f15 _ := ⟨ok_Parcel_sides (C_Sides := C_Sides) (C_Parcel := C_Parcel) (C_Heap := C_Heap) (C_Nest := C_Nest) (C_NoNumber := C_NoNumber) (C_NoSide := C_NoSide) (C_NoSides := C_NoSides) (C_NoOrder := C_NoOrder) (C_NoParcel := C_NoParcel) (C_NotInHeap := C_NotInHeap) (C_NoNest := C_NoNest) (C_Unnested := C_Unnested) F15 T hsys k_Parcel k_Sides, F15, k_Parcel.ins.cl, ⟨a15, i15, k15⟩, b15⟩
  have c_Parcel_labels : VS.Mf l.prog w K mg base 1 C_Parcel "labels" "Parcel.labels" s_Parcel_labels [] a_Parcel_labels (p_Pc_labels C_Parcel C_Sides) f16 _ := ⟨ok_Parcel_labels (C_Sides := C_Sides) (C_Parcel := C_Parcel) (C_Heap := C_Heap) (C_Nest := C_Nest) (C_NoNumber := C_NoNumber) (C_NoSide := C_NoSide) (C_NoSides := C_NoSides) (C_NoOrder := C_NoOrder) (C_NoParcel := C_NoParcel) (C_NotInHeap := C_NotInHeap) (C_NoNest := C_NoNest) (C_Unnested := C_Unnested) F16 T hsys k_Parcel k_Sides, F16, k_Parcel.ins.cl, ⟨a16, i16, k16⟩, b16⟩
  have c_Parcel_weight : VS.Mf l.prog w K mg base 1 C_Parcel "weight" "Parcel.weight" s_Parcel_weight [] a_Parcel_weight (p_Pc_weight C_Parcel C_Sides) f17 _ := ⟨ok_Parcel_weight (C_Sides := C_Sides) (C_Parcel := C_Parcel) (C_Heap := C_Heap) (C_Nest := C_Nest) (C_NoNumber := C_NoNumber) (C_NoSide := C_NoSide) (C_NoSides := C_NoSides) (C_NoOrder := C_NoOrder) (C_NoParcel := C_NoParcel) (C_NotInHeap := C_NotInHeap) (C_NoNest := C_NoNest) (C_Unnested := C_Unnested) F17 T hsys k_Parcel k_Sides, F17, k_Parcel.ins.cl, ⟨a17, i17, k17⟩, b17⟩
  have c_Parcel_room : VS.Mf l.prog w K mg base 6 C_Parcel "room" "Parcel.room" s_Parcel_room [] a_Parcel_room (p_Pc_room C_Parcel C_Sides) f18 _ := ⟨ok_Parcel_room (C_Sides := C_Sides) (C_Parcel := C_Parcel) (C_Heap := C_Heap) (C_Nest := C_Nest) (C_NoNumber := C_NoNumber) (C_NoSide := C_NoSide) (C_NoSides := C_NoSides) (C_NoOrder := C_NoOrder) (C_NoParcel := C_NoParcel) (C_NotInHeap := C_NotInHeap) (C_NoNest := C_NoNest) (C_Unnested := C_Unnested) F18 T hsys c_room_in k_Parcel k_Sides, F18, k_Parcel.ins.cl, ⟨a18, i18, k18⟩, b18⟩
  have c_Parcel_goes_in : VS.Mf l.prog w K mg base 8 C_Parcel "goes_in" "Parcel.goes_in" s_Parcel_goes_in [.int 0] a_Parcel_goes_in (p_Pc_goes K C_Parcel C_Sides C_NoParcel C_NoNumber) f19 _ := ⟨ok_Parcel_goes_in (C_Sides := C_Sides) (C_Parcel := C_Parcel) (C_Heap := C_Heap) (C_Nest := C_Nest) (C_NoNumber := C_NoNumber) (C_NoSide := C_NoSide) (C_NoSides := C_NoSides) (C_NoOrder := C_NoOrder) (C_NoParcel := C_NoParcel) (C_NotInHeap := C_NotInHeap) (C_NoNest := C_NoNest) (C_Unnested := C_Unnested) F19 T hsys c_need_spare c_Parcel_room c_goes_in x_NoParcel k_Parcel k_Sides, F19, k_Parcel.ins.cl, ⟨a19, i19, k19⟩, b19⟩
  have c_Heap : VS.Kf l.prog w K mg base 1 "Heap" C_Heap "Heap.__init__" s_Heap___init__ [] a_Heap___init__ (p_Hp_init C_Heap) f20 _ := ⟨⟨mk20, a20, i20, kc20⟩, ok_Heap___init__ (C_Sides := C_Sides) (C_Parcel := C_Parcel) (C_Heap := C_Heap) (C_Nest := C_Nest) (C_NoNumber := C_NoNumber) (C_NoSide := C_NoSide) (C_NoSides := C_NoSides) (C_NoOrder := C_NoOrder) (C_NoParcel := C_NoParcel) (C_NotInHeap := C_NotInHeap) (C_NoNest := C_NoNest) (C_Unnested := C_Unnested) F20 T hsys k_Heap, F20, k_Heap.at_, b20⟩
  have c_Heap_names : VS.Mf l.prog w K mg base 2 C_Heap "names" "Heap.names" s_Heap_names [] a_Heap_names (p_Hp_names C_Heap C_Parcel C_Sides) f21 _ := ⟨ok_Heap_names (C_Sides := C_Sides) (C_Parcel := C_Parcel) (C_Heap := C_Heap) (C_Nest := C_Nest) (C_NoNumber := C_NoNumber) (C_NoSide := C_NoSide) (C_NoSides := C_NoSides) (C_NoOrder := C_NoOrder) (C_NoParcel := C_NoParcel) (C_NotInHeap := C_NotInHeap) (C_NoNest := C_NoNest) (C_Unnested := C_Unnested) F21 T hsys c_Parcel_name k_Heap k_Parcel k_Sides, F21, k_Heap.ins.cl, ⟨a21, i21, k21⟩, b21⟩
  have c_Heap_place_of : VS.Mf l.prog w K mg base 2 C_Heap "place_of" "Heap.place_of" s_Heap_place_of [] a_Heap_place_of (p_Hp_place C_Heap C_Parcel C_Sides) f22 _ := ⟨ok_Heap_place_of (C_Sides := C_Sides) (C_Parcel := C_Parcel) (C_Heap := C_Heap) (C_Nest := C_Nest) (C_NoNumber := C_NoNumber) (C_NoSide := C_NoSide) (C_NoSides := C_NoSides) (C_NoOrder := C_NoOrder) (C_NoParcel := C_NoParcel) (C_NotInHeap := C_NotInHeap) (C_NoNest := C_NoNest) (C_Unnested := C_Unnested) F22 T hsys c_Parcel_name k_Heap k_Parcel k_Sides, F22, k_Heap.ins.cl, ⟨a22, i22, k22⟩, b22⟩
  have c_Heap_put : VS.Mf l.prog w K mg base 3 C_Heap "put" "Heap.put" s_Heap_put [.non] a_Heap_put (p_Hp_put C_Heap C_Parcel C_Sides) f23 _ := ⟨ok_Heap_put (C_Sides := C_Sides) (C_Parcel := C_Parcel) (C_Heap := C_Heap) (C_Nest := C_Nest) (C_NoNumber := C_NoNumber) (C_NoSide := C_NoSide) (C_NoSides := C_NoSides) (C_NoOrder := C_NoOrder) (C_NoParcel := C_NoParcel) (C_NotInHeap := C_NotInHeap) (C_NoNest := C_NoNest) (C_Unnested := C_Unnested) F23 T hsys c_Heap_names c_Parcel_name k_Heap k_Parcel k_Sides, F23, k_Heap.ins.cl, ⟨a23, i23, k23⟩, b23⟩
  have c_Heap_out : VS.Mf l.prog w K mg base 3 C_Heap "out" "Heap.out" s_Heap_out [] a_Heap_out (p_Hp_out C_Heap C_Parcel C_Sides) f24 _ := ⟨ok_Heap_out (C_Sides := C_Sides) (C_Parcel := C_Parcel) (C_Heap := C_Heap) (C_Nest := C_Nest) (C_NoNumber := C_NoNumber) (C_NoSide := C_NoSide) (C_NoSides := C_NoSides) (C_NoOrder := C_NoOrder) (C_NoParcel := C_NoParcel) (C_NotInHeap := C_NotInHeap) (C_NoNest := C_NoNest) (C_Unnested := C_Unnested) F24 T hsys c_Heap_place_of k_Heap k_Parcel k_Sides, F24, k_Heap.ins.cl, ⟨a24, i24, k24⟩, b24⟩
  have c_Heap_parcel : VS.Mf l.prog w K mg base 3 C_Heap "parcel" "Heap.parcel" s_Heap_parcel [] a_Heap_parcel (p_Hp_parcel C_Heap C_Parcel C_Sides) f25 _ := ⟨ok_Heap_parcel (C_Sides := C_Sides) (C_Parcel := C_Parcel) (C_Heap := C_Heap) (C_Nest := C_Nest) (C_NoNumber := C_NoNumber) (C_NoSide := C_NoSide) (C_NoSides := C_NoSides) (C_NoOrder := C_NoOrder) (C_NoParcel := C_NoParcel) (C_NotInHeap := C_NotInHeap) (C_NoNest := C_NoNest) (C_Unnested := C_Unnested) F25 T hsys c_Heap_place_of k_Heap k_Parcel k_Sides, F25, k_Heap.ins.cl, ⟨a25, i25, k25⟩, b25⟩
  have c_Heap_parcels : VS.Mf l.prog w K mg base 1 C_Heap "parcels" "Heap.parcels" s_Heap_parcels [] a_Heap_parcels (p_Hp_parcels C_Heap C_Parcel C_Sides) f26 _ := ⟨ok_Heap_parcels (C_Sides := C_Sides) (C_Parcel := C_Parcel) (C_Heap := C_Heap) (C_Nest := C_Nest) (C_NoNumber := C_NoNumber) (C_NoSide := C_NoSide) (C_NoSides := C_NoSides) (C_NoOrder := C_NoOrder) (C_NoParcel := C_NoParcel) (C_NotInHeap := C_NotInHeap) (C_NoNest := C_NoNest) (C_Unnested := C_Unnested) F26 T hsys k_Heap k_Parcel k_Sides, F26, k_Heap.ins.cl, ⟨a26, i26, k26⟩, b26⟩
  have c_shape_of : VS.Cf l.prog w K mg base (L2.CX l.prog w) 7 "shape_of" s_shape_of [] a_shape_of (p_shape_of C_Parcel C_Sides) f27 _ := ⟨ok_shape_of (C_Sides := C_Sides) (C_Parcel := C_Parcel) (C_Heap := C_Heap) (C_Nest := C_Nest) (C_NoNumber := C_NoNumber) (C_NoSide := C_NoSide) (C_NoSides := C_NoSides) (C_NoOrder := C_NoOrder) (C_NoParcel := C_NoParcel) (C_NotInHeap := C_NotInHeap) (C_NoNest := C_NoNest) (C_Unnested := C_Unnested) F27 T hsys c_Parcel_labels c_Parcel_room c_Parcel_sides c_Sides_ranked k_Parcel k_Sides, F27, PySem.W.mg_of X G a27, b27⟩
  have c_shape_goes : VS.Cf l.prog w K mg base (L2.CX l.prog w) 1 "shape_goes" s_shape_goes [] a_shape_goes p_shape_goes f28 _ := ⟨ok_shape_goes (C_Sides := C_Sides) (C_Parcel := C_Parcel) (C_Heap := C_Heap) (C_Nest := C_Nest) (C_NoNumber := C_NoNumber) (C_NoSide := C_NoSide) (C_NoSides := C_NoSides) (C_NoOrder := C_NoOrder) (C_NoParcel := C_NoParcel) (C_NotInHeap := C_NotInHeap) (C_NoNest := C_NoNest) (C_Unnested := C_Unnested) F28 T hsys, F28, PySem.W.mg_of X G a28, b28⟩
  have c_inside : VS.Cf l.prog w K mg base (L2.CX l.prog w) 8 "inside" s_inside [.int 0] a_inside (p_inside K C_Heap C_Parcel C_Sides C_NoNumber) f29 _ := ⟨ok_inside (C_Sides := C_Sides) (C_Parcel := C_Parcel) (C_Heap := C_Heap) (C_Nest := C_Nest) (C_NoNumber := C_NoNumber) (C_NoSide := C_NoSide) (C_NoSides := C_NoSides) (C_NoOrder := C_NoOrder) (C_NoParcel := C_NoParcel) (C_NotInHeap := C_NotInHeap) (C_NoNest := C_NoNest) (C_Unnested := C_Unnested) F29 T hsys c_need_spare c_Heap_parcels c_shape_of c_Parcel_name c_shape_goes k_Heap k_Parcel k_Sides, F29, PySem.W.mg_of X G a29, b29⟩
  have c_goes : VS.Cf l.prog w K mg base (L2.CX l.prog w) 9 "goes" s_goes [] a_goes (p_goes31 C_Parcel C_Sides) f30 _ := ⟨ok_goes (C_Sides := C_Sides) (C_Parcel := C_Parcel) (C_Heap := C_Heap) (C_Nest := C_Nest) (C_NoNumber := C_NoNumber) (C_NoSide := C_NoSide) (C_NoSides := C_NoSides) (C_NoOrder := C_NoOrder) (C_NoParcel := C_NoParcel) (C_NotInHeap := C_NotInHeap) (C_NoNest := C_NoNest) (C_Unnested := C_Unnested) F30 T hsys c_Parcel_goes_in k_Parcel k_Sides, F30, PySem.W.mg_of X G a30, b30⟩
  have c_are_names : VS.Cf l.prog w K mg base (L2.CX l.prog w) 3 "are_names" s_are_names [] a_are_names (p_are_names91 C_Heap C_Parcel C_Sides) f31 _ := ⟨ok_are_names (C_Sides := C_Sides) (C_Parcel := C_Parcel) (C_Heap := C_Heap) (C_Nest := C_Nest) (C_NoNumber := C_NoNumber) (C_NoSide := C_NoSide) (C_NoSides := C_NoSides) (C_NoOrder := C_NoOrder) (C_NoParcel := C_NoParcel) (C_NotInHeap := C_NotInHeap) (C_NoNest := C_NoNest) (C_Unnested := C_Unnested) F31 T hsys c_Heap_names k_Heap k_Parcel k_Sides, F31, PySem.W.mg_of X G a31, b31⟩
  have c_first_apart : VS.Cf l.prog w K mg base (L2.CX l.prog w) 10 "first_apart" s_first_apart [] a_first_apart (p_apart91 C_Heap C_Parcel C_Sides) f32 _ := ⟨ok_first_apart (C_Sides := C_Sides) (C_Parcel := C_Parcel) (C_Heap := C_Heap) (C_Nest := C_Nest) (C_NoNumber := C_NoNumber) (C_NoSide := C_NoSide) (C_NoSides := C_NoSides) (C_NoOrder := C_NoOrder) (C_NoParcel := C_NoParcel) (C_NotInHeap := C_NotInHeap) (C_NoNest := C_NoNest) (C_Unnested := C_Unnested) F32 T hsys c_goes c_Heap_parcel k_Heap k_Parcel k_Sides, F32, PySem.W.mg_of X G a32, b32⟩
  have c_Nest : VS.Kf l.prog w K mg base 11 "Nest" C_Nest "Nest.__init__" s_Nest___init__ [.int 0] a_Nest___init__ (p_Ns_init91 C_Nest C_Heap C_Parcel C_Sides C_NoNest C_Unnested) f33 _ := ⟨⟨mk33, a33, i33, kc33⟩, ok_Nest___init__ (C_Sides := C_Sides) (C_Parcel := C_Parcel) (C_Heap := C_Heap) (C_Nest := C_Nest) (C_NoNumber := C_NoNumber) (C_NoSide := C_NoSide) (C_NoSides := C_NoSides) (C_NoOrder := C_NoOrder) (C_NoParcel := C_NoParcel) (C_NotInHeap := C_NotInHeap) (C_NoNest := C_NoNest) (C_Unnested := C_Unnested) F33 T hsys c_need_spare c_are_names c_first_apart c_Heap_parcel c_Parcel_goes_in x_NoNest x_Unnested k_Nest k_Heap k_Parcel k_Sides, F33, k_Nest.at_, b33⟩
  have c_Nest_names : VS.Mf l.prog w K mg base 2 C_Nest "names" "Nest.names" s_Nest_names [] a_Nest_names (p_Ns_names C_Nest C_Parcel C_Sides) f34 _ := ⟨ok_Nest_names (C_Sides := C_Sides) (C_Parcel := C_Parcel) (C_Heap := C_Heap) (C_Nest := C_Nest) (C_NoNumber := C_NoNumber) (C_NoSide := C_NoSide) (C_NoSides := C_NoSides) (C_NoOrder := C_NoOrder) (C_NoParcel := C_NoParcel) (C_NotInHeap := C_NotInHeap) (C_NoNest := C_NoNest) (C_Unnested := C_Unnested) F34 T hsys c_Parcel_name k_Nest k_Heap k_Parcel k_Sides, F34, k_Nest.ins.cl, ⟨a34, i34, k34⟩, b34⟩
  have c_Nest___str__ : VS.Mf l.prog w K mg base 2 C_Nest "__str__" "Nest.__str__" s_Nest___str__ [] a_Nest___str__ (p_Ns_str C_Nest C_Parcel C_Sides) f35 _ := ⟨ok_Nest___str__ (C_Sides := C_Sides) (C_Parcel := C_Parcel) (C_Heap := C_Heap) (C_Nest := C_Nest) (C_NoNumber := C_NoNumber) (C_NoSide := C_NoSide) (C_NoSides := C_NoSides) (C_NoOrder := C_NoOrder) (C_NoParcel := C_NoParcel) (C_NotInHeap := C_NotInHeap) (C_NoNest := C_NoNest) (C_Unnested := C_Unnested) F35 T hsys c_Parcel_name k_Nest k_Heap k_Parcel k_Sides, F35, k_Nest.ins.cl, ⟨a35, i35, k35⟩, b35⟩
  have c_Nest_turns : VS.Mf l.prog w K mg base 1 C_Nest "turns" "Nest.turns" s_Nest_turns [] a_Nest_turns (p_Ns_turns C_Nest C_Parcel C_Sides) f36 _ := ⟨ok_Nest_turns (C_Sides := C_Sides) (C_Parcel := C_Parcel) (C_Heap := C_Heap) (C_Nest := C_Nest) (C_NoNumber := C_NoNumber) (C_NoSide := C_NoSide) (C_NoSides := C_NoSides) (C_NoOrder := C_NoOrder) (C_NoParcel := C_NoParcel) (C_NotInHeap := C_NotInHeap) (C_NoNest := C_NoNest) (C_Unnested := C_Unnested) F36 T hsys k_Nest k_Heap k_Parcel k_Sides, F36, k_Nest.ins.cl, ⟨a36, i36, k36⟩, b36⟩
  have c_Nest_outer : VS.Mf l.prog w K mg base 1 C_Nest "outer" "Nest.outer" s_Nest_outer [] a_Nest_outer (p_Ns_outer C_Nest C_Parcel C_Sides) f37 _ := ⟨ok_Nest_outer (C_Sides := C_Sides) (C_Parcel := C_Parcel) (C_Heap := C_Heap) (C_Nest := C_Nest) (C_NoNumber := C_NoNumber) (C_NoSide := C_NoSide) (C_NoSides := C_NoSides) (C_NoOrder := C_NoOrder) (C_NoParcel := C_NoParcel) (C_NotInHeap := C_NotInHeap) (C_NoNest := C_NoNest) (C_Unnested := C_Unnested) F37 T hsys k_Nest k_Heap k_Parcel k_Sides, F37, k_Nest.ins.cl, ⟨a37, i37, k37⟩, b37⟩
  have c_Nest___len__ : VS.Mf l.prog w K mg base 1 C_Nest "__len__" "Nest.__len__" s_Nest___len__ [] a_Nest___len__ (p_Ns_len C_Nest C_Parcel C_Sides) f38 _ := ⟨ok_Nest___len__ (C_Sides := C_Sides) (C_Parcel := C_Parcel) (C_Heap := C_Heap) (C_Nest := C_Nest) (C_NoNumber := C_NoNumber) (C_NoSide := C_NoSide) (C_NoSides := C_NoSides) (C_NoOrder := C_NoOrder) (C_NoParcel := C_NoParcel) (C_NotInHeap := C_NotInHeap) (C_NoNest := C_NoNest) (C_Unnested := C_Unnested) F38 T hsys k_Nest k_Heap k_Parcel k_Sides, F38, k_Nest.ins.cl, ⟨a38, i38, k38⟩, b38⟩
  have c_Nest_weight : VS.Mf l.prog w K mg base 2 C_Nest "weight" "Nest.weight" s_Nest_weight [] a_Nest_weight (p_Ns_weight C_Nest C_Parcel C_Sides) f39 _ := ⟨ok_Nest_weight (C_Sides := C_Sides) (C_Parcel := C_Parcel) (C_Heap := C_Heap) (C_Nest := C_Nest) (C_NoNumber := C_NoNumber) (C_NoSide := C_NoSide) (C_NoSides := C_NoSides) (C_NoOrder := C_NoOrder) (C_NoParcel := C_NoParcel) (C_NotInHeap := C_NotInHeap) (C_NoNest := C_NoNest) (C_Unnested := C_Unnested) F39 T hsys c_Parcel_weight k_Nest k_Heap k_Parcel k_Sides, F39, k_Nest.ins.cl, ⟨a39, i39, k39⟩, b39⟩
  have c_Nest_lies : VS.Mf l.prog w K mg base 3 C_Nest "lies" "Nest.lies" s_Nest_lies [] a_Nest_lies (p_Ns_lies K C_Nest C_Parcel C_Sides C_NotInHeap) f40 _ := ⟨ok_Nest_lies (C_Sides := C_Sides) (C_Parcel := C_Parcel) (C_Heap := C_Heap) (C_Nest := C_Nest) (C_NoNumber := C_NoNumber) (C_NoSide := C_NoSide) (C_NoSides := C_NoSides) (C_NoOrder := C_NoOrder) (C_NoParcel := C_NoParcel) (C_NotInHeap := C_NotInHeap) (C_NoNest := C_NoNest) (C_Unnested := C_Unnested) F40 T hsys c_Nest_names x_NotInHeap k_Nest k_Heap k_Parcel k_Sides, F40, k_Nest.ins.cl, ⟨a40, i40, k40⟩, b40⟩
  have c__law_cell : VS.Cf l.prog w K mg base (L2.CX l.prog w) 1 "_law_cell" s__law_cell [] a__law_cell p__law_cell f41 _ := ⟨ok__law_cell (C_Sides := C_Sides) (C_Parcel := C_Parcel) (C_Heap := C_Heap) (C_Nest := C_Nest) (C_NoNumber := C_NoNumber) (C_NoSide := C_NoSide) (C_NoSides := C_NoSides) (C_NoOrder := C_NoOrder) (C_NoParcel := C_NoParcel) (C_NotInHeap := C_NotInHeap) (C_NoNest := C_NoNest) (C_Unnested := C_Unnested) F41 T hsys, F41, PySem.W.mg_of X G a41, b41⟩
  have c__law_purse : VS.Cf l.prog w K mg base (L2.CX l.prog w) 1 "_law_purse" s__law_purse [] a__law_purse p__law_purse f42 _ := ⟨ok__law_purse (C_Sides := C_Sides) (C_Parcel := C_Parcel) (C_Heap := C_Heap) (C_Nest := C_Nest) (C_NoNumber := C_NoNumber) (C_NoSide := C_NoSide) (C_NoSides := C_NoSides) (C_NoOrder := C_NoOrder) (C_NoParcel := C_NoParcel) (C_NotInHeap := C_NotInHeap) (C_NoNest := C_NoNest) (C_Unnested := C_Unnested) F42 T hsys, F42, PySem.W.mg_of X G a42, b42⟩
  have c__law_take : VS.Cf l.prog w K mg base (L2.CX l.prog w) 1 "_law_take" s__law_take [] a__law_take p__law_take f43 _ := ⟨ok__law_take (C_Sides := C_Sides) (C_Parcel := C_Parcel) (C_Heap := C_Heap) (C_Nest := C_Nest) (C_NoNumber := C_NoNumber) (C_NoSide := C_NoSide) (C_NoSides := C_NoSides) (C_NoOrder := C_NoOrder) (C_NoParcel := C_NoParcel) (C_NotInHeap := C_NotInHeap) (C_NoNest := C_NoNest) (C_Unnested := C_Unnested) F43 T hsys, F43, PySem.W.mg_of X G a43, b43⟩
  have c__law_names : VS.Cf l.prog w K mg base (L2.CX l.prog w) 2 "_law_names" s__law_names [] a__law_names p__law_names f44 _ := ⟨ok__law_names (C_Sides := C_Sides) (C_Parcel := C_Parcel) (C_Heap := C_Heap) (C_Nest := C_Nest) (C_NoNumber := C_NoNumber) (C_NoSide := C_NoSide) (C_NoSides := C_NoSides) (C_NoOrder := C_NoOrder) (C_NoParcel := C_NoParcel) (C_NotInHeap := C_NotInHeap) (C_NoNest := C_NoNest) (C_Unnested := C_Unnested) F44 T hsys c__law_take, F44, PySem.W.mg_of X G a44, b44⟩
  have c__law_tray : VS.Cf l.prog w K mg base (L2.CX l.prog w) 3 "_law_tray" s__law_tray [] a__law_tray p__law_tray f45 _ := ⟨ok__law_tray (C_Sides := C_Sides) (C_Parcel := C_Parcel) (C_Heap := C_Heap) (C_Nest := C_Nest) (C_NoNumber := C_NoNumber) (C_NoSide := C_NoSide) (C_NoSides := C_NoSides) (C_NoOrder := C_NoOrder) (C_NoParcel := C_NoParcel) (C_NotInHeap := C_NotInHeap) (C_NoNest := C_NoNest) (C_Unnested := C_Unnested) F45 T hsys c__law_take c__law_names, F45, PySem.W.mg_of X G a45, b45⟩
  obtain ⟨d_Heap_put2⟩ := VS.bdN (ps := a_Heap_put) F23 2 0 (by decide) rfl (fun T kV doc pm an cdv ct us its h1 h2 => match us, its, h1, h2 with | [_, _], [_], _, _ => ⟨_, rfl, rfl⟩)
  have c__law_heap : VS.Cf l.prog w K mg base (L2.CX l.prog w) 6 "_law_heap" s__law_heap [] a__law_heap (p_heap91 C_Heap C_Parcel C_Sides) f46 _ := ⟨ok__law_heap (C_Sides := C_Sides) (C_Parcel := C_Parcel) (C_Heap := C_Heap) (C_Nest := C_Nest) (C_NoNumber := C_NoNumber) (C_NoSide := C_NoSide) (C_NoSides := C_NoSides) (C_NoOrder := C_NoOrder) (C_NoParcel := C_NoParcel) (C_NotInHeap := C_NotInHeap) (C_NoNest := C_NoNest) (C_Unnested := C_Unnested) F46 T hsys c_Heap c_Heap_put d_Heap_put2 c_Sides c_Parcel k_Heap k_Parcel k_Sides, F46, PySem.W.mg_of X G a46, b46⟩
  have c__law_goes : VS.Cf l.prog w K mg base (L2.CX l.prog w) 1 "_law_goes" s__law_goes [] a__law_goes p_goes91 f47 _ := ⟨ok__law_goes (C_Sides := C_Sides) (C_Parcel := C_Parcel) (C_Heap := C_Heap) (C_Nest := C_Nest) (C_NoNumber := C_NoNumber) (C_NoSide := C_NoSide) (C_NoSides := C_NoSides) (C_NoOrder := C_NoOrder) (C_NoParcel := C_NoParcel) (C_NotInHeap := C_NotInHeap) (C_NoNest := C_NoNest) (C_Unnested := C_Unnested) F47 T hsys, F47, PySem.W.mg_of X G a47, b47⟩
  have c__law_outwards : VS.Cf l.prog w K mg base (L2.CX l.prog w) 2 "_law_outwards" s__law_outwards [] a__law_outwards p__law_outwards f48 _ := ⟨ok__law_outwards (C_Sides := C_Sides) (C_Parcel := C_Parcel) (C_Heap := C_Heap) (C_Nest := C_Nest) (C_NoNumber := C_NoNumber) (C_NoSide := C_NoSide) (C_NoSides := C_NoSides) (C_NoOrder := C_NoOrder) (C_NoParcel := C_NoParcel) (C_NotInHeap := C_NotInHeap) (C_NoNest := C_NoNest) (C_Unnested := C_Unnested) F48 T hsys c__law_goes, F48, PySem.W.mg_of X G a48, b48⟩
  have c__law_spare : VS.Cf l.prog w K mg base (L2.CX l.prog w) 2 "_law_spare" s__law_spare [] a__law_spare p_spare91 f49 _ := ⟨ok__law_spare (C_Sides := C_Sides) (C_Parcel := C_Parcel) (C_Heap := C_Heap) (C_Nest := C_Nest) (C_NoNumber := C_NoNumber) (C_NoSide := C_NoSide) (C_NoSides := C_NoSides) (C_NoOrder := C_NoOrder) (C_NoParcel := C_NoParcel) (C_NotInHeap := C_NotInHeap) (C_NoNest := C_NoNest) (C_Unnested := C_Unnested) F49 T hsys c__law_take, F49, PySem.W.mg_of X G a49, b49⟩
  obtain ⟨d_inside1⟩ := VS.bdN (ps := a_inside) F29 1 0 (by decide) rfl (fun T kV doc pm an cdv ct us its h1 h2 => match us, its, h1, h2 with | [_], [_], _, _ => ⟨_, rfl, rfl⟩)
  have c__law_inside : VS.Cf l.prog w K mg base (L2.CX l.prog w) 9 "_law_inside" s__law_inside [] a__law_inside (p_inside91 C_Heap C_Parcel C_Sides) f50 _ := ⟨ok__law_inside (C_Sides := C_Sides) (C_Parcel := C_Parcel) (C_Heap := C_Heap) (C_Nest := C_Nest) (C_NoNumber := C_NoNumber) (C_NoSide := C_NoSide) (C_NoSides := C_NoSides) (C_NoOrder := C_NoOrder) (C_NoParcel := C_NoParcel) (C_NotInHeap := C_NotInHeap) (C_NoNest := C_NoNest) (C_Unnested := C_Unnested) F50 T hsys c_inside d_inside1 k_Heap k_Parcel k_Sides, F50, PySem.W.mg_of X G a50, b50⟩
  have c__law_goes_on : VS.Cf l.prog w K mg base (L2.CX l.prog w) 1 "_law_goes_on" s__law_goes_on [] a__law_goes_on p__law_goes_on f51 _ := ⟨ok__law_goes_on (C_Sides := C_Sides) (C_Parcel := C_Parcel) (C_Heap := C_Heap) (C_Nest := C_Nest) (C_NoNumber := C_NoNumber) (C_NoSide := C_NoSide) (C_NoSides := C_NoSides) (C_NoOrder := C_NoOrder) (C_NoParcel := C_NoParcel) (C_NotInHeap := C_NotInHeap) (C_NoNest := C_NoNest) (C_Unnested := C_Unnested) F51 T hsys, F51, PySem.W.mg_of X G a51, b51⟩
  have c__law_way : VS.Cf l.prog w K mg base (L2.CX l.prog w) 2 "_law_way" s__law_way [] a__law_way p__law_way f52 _ := ⟨ok__law_way (C_Sides := C_Sides) (C_Parcel := C_Parcel) (C_Heap := C_Heap) (C_Nest := C_Nest) (C_NoNumber := C_NoNumber) (C_NoSide := C_NoSide) (C_NoSides := C_NoSides) (C_NoOrder := C_NoOrder) (C_NoParcel := C_NoParcel) (C_NotInHeap := C_NotInHeap) (C_NoNest := C_NoNest) (C_Unnested := C_Unnested) F52 T hsys c__law_take, F52, PySem.W.mg_of X G a52, b52⟩
  have c__law_lies_right : VS.Cf l.prog w K mg base (L2.CX l.prog w) 4 "_law_lies_right" s__law_lies_right [] a__law_lies_right (p__law_lies_right C_Nest C_Parcel C_Sides) f53 _ := ⟨ok__law_lies_right (C_Sides := C_Sides) (C_Parcel := C_Parcel) (C_Heap := C_Heap) (C_Nest := C_Nest) (C_NoNumber := C_NoNumber) (C_NoSide := C_NoSide) (C_NoSides := C_NoSides) (C_NoOrder := C_NoOrder) (C_NoParcel := C_NoParcel) (C_NotInHeap := C_NotInHeap) (C_NoNest := C_NoNest) (C_Unnested := C_Unnested) F53 T hsys c_Nest_lies k_Nest k_Heap k_Parcel k_Sides, F53, PySem.W.mg_of X G a53, b53⟩
  have c__law_stands : VS.Cf l.prog w K mg base (L2.CX l.prog w) 6 "_law_stands" s__law_stands [] a__law_stands (p__law_stands C_Nest C_Parcel C_Sides) f54 _ := ⟨ok__law_stands (C_Sides := C_Sides) (C_Parcel := C_Parcel) (C_Heap := C_Heap) (C_Nest := C_Nest) (C_NoNumber := C_NoNumber) (C_NoSide := C_NoSide) (C_NoSides := C_NoSides) (C_NoOrder := C_NoOrder) (C_NoParcel := C_NoParcel) (C_NotInHeap := C_NotInHeap) (C_NoNest := C_NoNest) (C_Unnested := C_Unnested) F54 T hsys c_Nest_names c_Nest___len__ c_Nest___str__ c_Nest_outer c_Parcel_name c_Parcel_sides c_Sides_told c_Nest_weight c_Nest_turns k_Nest k_Heap k_Parcel k_Sides, F54, PySem.W.mg_of X G a54, b54⟩
  have c__law_refused : VS.Cf l.prog w K mg base (L2.CX l.prog w) 13 "_law_refused" s__law_refused [] a__law_refused (p_refused91 C_Heap C_Parcel C_Sides) f55 _ := ⟨ok__law_refused (C_Sides := C_Sides) (C_Parcel := C_Parcel) (C_Heap := C_Heap) (C_Nest := C_Nest) (C_NoNumber := C_NoNumber) (C_NoSide := C_NoSide) (C_NoSides := C_NoSides) (C_NoOrder := C_NoOrder) (C_NoParcel := C_NoParcel) (C_NotInHeap := C_NotInHeap) (C_NoNest := C_NoNest) (C_Unnested := C_Unnested) F55 T hsys c_Nest x_NoNest x_Unnested k_Nest k_Heap k_Parcel k_Sides, F55, PySem.W.mg_of X G a55, b55⟩
  have c__law_way_right : VS.Cf l.prog w K mg base (L2.CX l.prog w) 14 "_law_way_right" s__law_way_right [] a__law_way_right (p_way91 C_Heap C_Parcel C_Sides) f56 _ := ⟨ok__law_way_right (C_Sides := C_Sides) (C_Parcel := C_Parcel) (C_Heap := C_Heap) (C_Nest := C_Nest) (C_NoNumber := C_NoNumber) (C_NoSide := C_NoSide) (C_NoSides := C_NoSides) (C_NoOrder := C_NoOrder) (C_NoParcel := C_NoParcel) (C_NotInHeap := C_NotInHeap) (C_NoNest := C_NoNest) (C_Unnested := C_Unnested) F56 T hsys c_Nest c__law_stands c__law_lies_right c__law_take c__law_refused c_Heap_out k_Nest k_Heap k_Parcel k_Sides, F56, PySem.W.mg_of X G a56, b56⟩
  exact ok_law (C_Sides := C_Sides) (C_Parcel := C_Parcel) (C_Heap := C_Heap) (C_Nest := C_Nest) (C_NoNumber := C_NoNumber) (C_NoSide := C_NoSide) (C_NoSides := C_NoSides) (C_NoOrder := C_NoOrder) (C_NoParcel := C_NoParcel) (C_NotInHeap := C_NotInHeap) (C_NoNest := C_NoNest) (C_Unnested := C_Unnested) F57 T hsys c__law_cell c__law_purse c__law_take c__law_spare c__law_tray c__law_heap c__law_outwards c__law_inside c__law_goes_on c__law_way c__law_way_right c_Heap_names k_Nest k_Heap k_Parcel k_Sides
end LW
open PySem PySem.W PyProof.Rows in
set_option maxRecDepth 100000 in
set_option maxHeartbeats 0 in
theorem PySem.Challenge.cw_boxinbox_k91_whole_what_goes_on_holds : PySem.Challenge.rw_boxinbox_k91_whole_what_goes_on.Holds := by
  w_on; o_law; k_head; (case hw => w_witness2)
  k_fill
  refine VS.walk_val (l := PySem.Challenge.rw_boxinbox_k91_whole_what_goes_on) (n := 63) (k := 20) (x := "_law_script") (CX := fun w => L2.CX (PySem.Challenge.rw_boxinbox_k91_whole_what_goes_on).prog w) (p := fun _ => LW.p_law) rfl (by decide) rfl ⟨rfl, by decide, by decide⟩ (by first | rfl | decide +kernel) (fun w h Y => PySem.W.kIn_of Y) ?F (fun _ ns h => ⟨ns, rfl, h, fun _ => rfl⟩) (fun _ _ _ _ _ z => by obtain ⟨_, _, _, _, _, _, _, _, _, _, _, _, q⟩ := z; exact q)
  case F =>
    intro w mg fa h KX G hmg
    refine' LW.all_mk KX G hmg ?aKSides ?pgKSides ?hdKSides ?poKSides ?saKSides ?haKSides ?hmKSides ?icKSides ?tcKSides ?nKSides_three ?zKSides_int ?zKSides_bool ?zKSides_str ?zKSides_NoneType ?zKSides_list ?zKSides_tuple ?zKSides_dict ?mKSides_0 ?mKSides_1 ?aKParcel ?pgKParcel ?hdKParcel ?poKParcel ?saKParcel ?haKParcel ?hmKParcel ?icKParcel ?tcKParcel ?nKParcel_called ?nKParcel_outside ?nKParcel_thick ?nKParcel_heavy ?nKParcel_strong ?nKParcel_marks ?nKParcel_told ?nKParcel_names ?zKParcel_int ?zKParcel_bool ?zKParcel_str ?zKParcel_NoneType ?zKParcel_list ?zKParcel_tuple ?zKParcel_dict ?aKHeap ?pgKHeap ?hdKHeap ?poKHeap ?saKHeap ?haKHeap ?hmKHeap ?icKHeap ?tcKHeap ?nKHeap_held ?nKHeap_told ?nKHeap_kind ?aKNest ?pgKNest ?hdKNest ?poKNest ?saKNest ?haKNest ?hmKNest ?icKNest ?tcKNest ?nKNest_layers ?nKNest_ways ?zKNest_int ?zKNest_bool ?zKNest_str ?zKNest_NoneType ?zKNest_list ?zKNest_tuple ?zKNest_dict ?hnO ?htkO ?aXNoNumber ?xXNoNumber ?saXNoNumber ?gaXNoNumber ?ggXNoNumber ?noXNoNumber ?exXNoNumber ?tyXNoNumber ?kcXNoNumber ?hdXNoNumber ?iXNoNumber ?tXNoNumber ?lXNoNumber ?cXNoNumber ?kXNoNumber ?aXNoSide ?xXNoSide ?saXNoSide ?gaXNoSide ?ggXNoSide ?noXNoSide ?exXNoSide ?tyXNoSide ?kcXNoSide ?hdXNoSide ?iXNoSide ?tXNoSide ?lXNoSide ?cXNoSide ?kXNoSide ?aXNoSides ?xXNoSides ?saXNoSides ?gaXNoSides ?ggXNoSides ?noXNoSides ?exXNoSides ?tyXNoSides ?kcXNoSides ?hdXNoSides ?iXNoSides ?tXNoSides ?lXNoSides ?cXNoSides ?kXNoSides ?aXNoOrder ?xXNoOrder ?saXNoOrder ?gaXNoOrder ?ggXNoOrder ?noXNoOrder ?exXNoOrder ?tyXNoOrder ?kcXNoOrder ?hdXNoOrder ?iXNoOrder ?tXNoOrder ?lXNoOrder ?cXNoOrder ?kXNoOrder ?aXNoParcel ?xXNoParcel ?saXNoParcel ?gaXNoParcel ?ggXNoParcel ?noXNoParcel ?exXNoParcel ?tyXNoParcel ?kcXNoParcel ?hdXNoParcel ?iXNoParcel ?tXNoParcel ?lXNoParcel ?cXNoParcel ?kXNoParcel ?aXNotInHeap ?xXNotInHeap ?saXNotInHeap ?gaXNotInHeap ?ggXNotInHeap ?noXNotInHeap ?exXNotInHeap ?tyXNotInHeap ?kcXNotInHeap ?hdXNotInHeap ?iXNotInHeap ?tXNotInHeap ?lXNotInHeap ?cXNotInHeap ?kXNotInHeap ?aXNoNest ?xXNoNest ?saXNoNest ?gaXNoNest ?ggXNoNest ?noXNoNest ?exXNoNest ?tyXNoNest ?kcXNoNest ?hdXNoNest ?iXNoNest ?tXNoNest ?lXNoNest ?cXNoNest ?kXNoNest ?aXUnnested ?xXUnnested ?saXUnnested ?gaXUnnested ?ggXUnnested ?noXUnnested ?exXUnnested ?tyXUnnested ?kcXUnnested ?hdXUnnested ?nqXUnnested ?iXUnnested ?tXUnnested ?lXUnnested ?cXUnnested ?kXUnnested ?a0 ?l0 ?c0 ?k0 ?a1 ?l1 ?c1 ?k1 ?a2 ?l2 ?c2 ?k2 ?a3 ?i3 ?l3 ?c3 ?k3 ?mk3 ?kc3 ?a4 ?i4 ?l4 ?c4 ?k4 ?a5 ?i5 ?l5 ?c5 ?k5 ?a6 ?l6 ?c6 ?k6 ?a7 ?i7 ?l7 ?c7 ?k7 ?a8 ?l8 ?c8 ?k8 ?a9 ?l9 ?c9 ?k9 ?a10 ?l10 ?c10 ?k10 ?t10 ?a11 ?l11 ?c11 ?k11 ?a12 ?l12 ?c12 ?k12 ?a13 ?i13 ?l13 ?c13 ?k13 ?t13 ?mk13 ?kc13 ?a14 ?i14 ?l14 ?c14 ?k14 ?a15 ?i15 ?l15 ?c15 ?k15 ?a16 ?i16 ?l16 ?c16 ?k16 ?a17 ?i17 ?l17 ?c17 ?k17 ?a18 ?i18 ?l18 ?c18 ?k18 ?a19 ?i19 ?l19 ?c19 ?k19 ?t19 ?a20 ?i20 ?l20 ?c20 ?k20 ?mk20 ?kc20 ?a21 ?i21 ?l21 ?c21 ?k21 ?a22 ?i22 ?l22 ?c22 ?k22 ?a23 ?i23 ?l23 ?c23 ?k23 ?t23 ?a24 ?i24 ?l24 ?c24 ?k24 ?a25 ?i25 ?l25 ?c25 ?k25 ?a26 ?i26 ?l26 ?c26 ?k26 ?a27 ?l27 ?c27 ?k27 ?a28 ?l28 ?c28 ?k28 ?a29 ?l29 ?c29 ?k29 ?t29 ?a30 ?l30 ?c30 ?k30 ?a31 ?l31 ?c31 ?k31 ?a32 ?l32 ?c32 ?k32 ?a33 ?i33 ?l33 ?c33 ?k33 ?t33 ?mk33 ?kc33 ?a34 ?i34 ?l34 ?c34 ?k34 ?a35 ?i35 ?l35 ?c35 ?k35 ?a36 ?i36 ?l36 ?c36 ?k36 ?a37 ?i37 ?l37 ?c37 ?k37 ?a38 ?i38 ?l38 ?c38 ?k38 ?a39 ?i39 ?l39 ?c39 ?k39 ?a40 ?i40 ?l40 ?c40 ?k40 ?a41 ?l41 ?c41 ?k41 ?a42 ?l42 ?c42 ?k42 ?a43 ?l43 ?c43 ?k43 ?a44 ?l44 ?c44 ?k44 ?a45 ?l45 ?c45 ?k45 ?a46 ?l46 ?c46 ?k46 ?a47 ?l47 ?c47 ?k47 ?a48 ?l48 ?c48 ?k48 ?a49 ?l49 ?c49 ?k49 ?a50 ?l50 ?c50 ?k50 ?a51 ?l51 ?c51 ?k51 ?a52 ?l52 ?c52 ?k52 ?a53 ?l53 ?c53 ?k53 ?a54 ?l54 ?c54 ?k54 ?a55 ?l55 ?c55 ?k55 ?a56 ?l56 ?c56 ?k56 ?a57 ?l57 ?c57 ?k57 ?z_all ?z_bool ?z_enumerate ?z_int ?z_isinstance ?z_len ?z_list ?z_max ?z_min ?z_range ?z_repr ?z_reversed ?z_set ?z_sorted ?z_str ?z_sum ?z_tuple ?z_zip ?z_LETTERS ?z_MOST_PARCELS ?z_MOST_SIDE ?z_MOST_SPARE ?z_MOST_WALL ?z_MOST_WEIGHT ?z_goes_in_fits ?icNoNest ?icUnnested ?sbNoNest_NoNest ?sbNoNest_Unnested ?sbUnnested_NoNest ?sbUnnested_Unnested ?z_ORDERS ?kO ?kt0_ ?kt1_ ?kt2_ ?kt3_ ?kt4_ ?kt5_ ?z_LABELS ?kL_
    (case aKSides => k_is)
    (case aKParcel => k_is)
    (case aKHeap => k_is)
    (case aKNest => k_is)
    (case pgKSides => k_is)
    (case hdKSides => k_is)
    (case poKSides => k_is)
    (case saKSides => k_is)
    (case haKSides => k_is)
    (case hmKSides => k_is)
    (case icKSides => k_is)
    (case tcKSides => k_is)
    (case nKSides_three => k_is)
    (case zKSides_int => k_is)
    (case zKSides_bool => k_is)
    (case zKSides_str => k_is)
    (case zKSides_NoneType => k_is)
    (case zKSides_list => k_is)
    (case zKSides_tuple => k_is)
    (case zKSides_dict => k_is)
    (case mKSides_0 => k_is)
    (case mKSides_1 => k_is)
    (case pgKParcel => k_is)
    (case hdKParcel => k_is)
    (case poKParcel => k_is)
    (case saKParcel => k_is)
    (case haKParcel => k_is)
    (case hmKParcel => k_is)
    (case icKParcel => k_is)
    (case tcKParcel => k_is)
    (case nKParcel_called => k_is)
    (case nKParcel_outside => k_is)
    (case nKParcel_thick => k_is)
    (case nKParcel_heavy => k_is)
    (case nKParcel_strong => k_is)
    (case nKParcel_marks => k_is)
    (case nKParcel_told => k_is)
    (case nKParcel_names => k_is)
    (case zKParcel_int => k_is)
    (case zKParcel_bool => k_is)
    (case zKParcel_str => k_is)
    (case zKParcel_NoneType => k_is)
    (case zKParcel_list => k_is)
    (case zKParcel_tuple => k_is)
    (case zKParcel_dict => k_is)
    (case pgKHeap => k_is)
    (case hdKHeap => k_is)
    (case poKHeap => k_is)
    (case saKHeap => k_is)
    (case haKHeap => k_is)
    (case hmKHeap => k_is)
    (case icKHeap => k_is)
    (case tcKHeap => k_is)
    (case nKHeap_held => k_is)
    (case nKHeap_told => k_is)
    (case nKHeap_kind => k_is)
    (case pgKNest => k_is)
    (case hdKNest => k_is)
    (case poKNest => k_is)
    (case saKNest => k_is)
    (case haKNest => k_is)
    (case hmKNest => k_is)
    (case icKNest => k_is)
    (case tcKNest => k_is)
    (case nKNest_layers => k_is)
    (case nKNest_ways => k_is)
    (case zKNest_int => k_is)
    (case zKNest_bool => k_is)
    (case zKNest_str => k_is)
    (case zKNest_NoneType => k_is)
    (case zKNest_list => k_is)
    (case zKNest_tuple => k_is)
    (case zKNest_dict => k_is)
    (case hnO => k_is)
    (case htkO => k_is)
    (case aXNoNumber => k_is)
    (case xXNoNumber => k_is)
    (case saXNoNumber => k_is)
    (case gaXNoNumber => k_is)
    (case ggXNoNumber => k_is)
    (case noXNoNumber => k_is)
    (case exXNoNumber => k_is)
    (case tyXNoNumber => k_is)
    (case kcXNoNumber => k_is)
    (case hdXNoNumber => k_is)
    (case iXNoNumber => k_is)
    (case tXNoNumber => k_is)
    (case lXNoNumber => k_is)
    (case cXNoNumber => k_is)
    (case kXNoNumber => k_is)
    (case aXNoSide => k_is)
    (case xXNoSide => k_is)
    (case saXNoSide => k_is)
    (case gaXNoSide => k_is)
    (case ggXNoSide => k_is)
    (case noXNoSide => k_is)
    (case exXNoSide => k_is)
    (case tyXNoSide => k_is)
    (case kcXNoSide => k_is)
    (case hdXNoSide => k_is)
    (case iXNoSide => k_is)
    (case tXNoSide => k_is)
    (case lXNoSide => k_is)
    (case cXNoSide => k_is)
    (case kXNoSide => k_is)
    (case aXNoSides => k_is)
    (case xXNoSides => k_is)
    (case saXNoSides => k_is)
    (case gaXNoSides => k_is)
    (case ggXNoSides => k_is)
    (case noXNoSides => k_is)
    (case exXNoSides => k_is)
    (case tyXNoSides => k_is)
    (case kcXNoSides => k_is)
    (case hdXNoSides => k_is)
    (case iXNoSides => k_is)
    (case tXNoSides => k_is)
    (case lXNoSides => k_is)
    (case cXNoSides => k_is)
    (case kXNoSides => k_is)
    (case aXNoOrder => k_is)
    (case xXNoOrder => k_is)
    (case saXNoOrder => k_is)
    (case gaXNoOrder => k_is)
    (case ggXNoOrder => k_is)
    (case noXNoOrder => k_is)
    (case exXNoOrder => k_is)
    (case tyXNoOrder => k_is)
    (case kcXNoOrder => k_is)
    (case hdXNoOrder => k_is)
    (case iXNoOrder => k_is)
    (case tXNoOrder => k_is)
    (case lXNoOrder => k_is)
    (case cXNoOrder => k_is)
    (case kXNoOrder => k_is)
    (case aXNoParcel => k_is)
    (case xXNoParcel => k_is)
    (case saXNoParcel => k_is)
    (case gaXNoParcel => k_is)
    (case ggXNoParcel => k_is)
    (case noXNoParcel => k_is)
    (case exXNoParcel => k_is)
    (case tyXNoParcel => k_is)
    (case kcXNoParcel => k_is)
    (case hdXNoParcel => k_is)
    (case iXNoParcel => k_is)
    (case tXNoParcel => k_is)
    (case lXNoParcel => k_is)
    (case cXNoParcel => k_is)
    (case kXNoParcel => k_is)
    (case aXNotInHeap => k_is)
    (case xXNotInHeap => k_is)
    (case saXNotInHeap => k_is)
    (case gaXNotInHeap => k_is)
    (case ggXNotInHeap => k_is)
    (case noXNotInHeap => k_is)
    (case exXNotInHeap => k_is)
    (case tyXNotInHeap => k_is)
    (case kcXNotInHeap => k_is)
    (case hdXNotInHeap => k_is)
    (case iXNotInHeap => k_is)
    (case tXNotInHeap => k_is)
    (case lXNotInHeap => k_is)
    (case cXNotInHeap => k_is)
    (case kXNotInHeap => k_is)
    (case aXNoNest => k_is)
    (case xXNoNest => k_is)
    (case saXNoNest => k_is)
    (case gaXNoNest => k_is)
    (case ggXNoNest => k_is)
    (case noXNoNest => k_is)
    (case exXNoNest => k_is)
    (case tyXNoNest => k_is)
    (case kcXNoNest => k_is)
    (case hdXNoNest => k_is)
    (case iXNoNest => k_is)
    (case tXNoNest => k_is)
    (case lXNoNest => k_is)
    (case cXNoNest => k_is)
    (case kXNoNest => k_is)
    (case aXUnnested => k_is)
    (case xXUnnested => k_is)
    (case saXUnnested => k_is)
    (case gaXUnnested => k_is)
    (case ggXUnnested => k_is)
    (case noXUnnested => k_is)
    (case exXUnnested => k_is)
    (case tyXUnnested => k_is)
    (case kcXUnnested => k_is)
    (case hdXUnnested => k_is)
    (case nqXUnnested => k_is)
    (case iXUnnested => k_is)
    (case tXUnnested => k_is)
    (case lXUnnested => k_is)
    (case cXUnnested => k_is)
    (case kXUnnested => k_is)
    (case a0 => k_is)
    (case l0 => k_is)
    (case c0 => k_is)
    (case k0 => k_is)
    (case a1 => k_is)
    (case l1 => k_is)
    (case c1 => k_is)
    (case k1 => k_is)
    (case a2 => k_is)
    (case l2 => k_is)
    (case c2 => k_is)
    (case k2 => k_is)
    (case a3 => k_is)
    (case i3 => k_is)
    (case l3 => k_is)
    (case c3 => k_is)
    (case k3 => k_is)
    (case mk3 => k_is)
    (case kc3 => k_is)
    (case a4 => k_is)
    (case i4 => k_is)
    (case l4 => k_is)
    (case c4 => k_is)
    (case k4 => k_is)
    (case a5 => k_is)
    (case i5 => k_is)
    (case l5 => k_is)
    (case c5 => k_is)
    (case k5 => k_is)
    (case a6 => k_is)
    (case l6 => k_is)
    (case c6 => k_is)
    (case k6 => k_is)
    (case a7 => k_is)
    (case i7 => k_is)
    (case l7 => k_is)
    (case c7 => k_is)
    (case k7 => k_is)
    (case a8 => k_is)
    (case l8 => k_is)
    (case c8 => k_is)
    (case k8 => k_is)
    (case a9 => k_is)
    (case l9 => k_is)
    (case c9 => k_is)
    (case k9 => k_is)
    (case a10 => k_is)
    (case l10 => k_is)
    (case c10 => k_is)
    (case k10 => k_is)
    (case t10 => k_is)
    (case a11 => k_is)
    (case l11 => k_is)
    (case c11 => k_is)
    (case k11 => k_is)
    (case a12 => k_is)
    (case l12 => k_is)
    (case c12 => k_is)
    (case k12 => k_is)
    (case a13 => k_is)
    (case i13 => k_is)
    (case l13 => k_is)
    (case c13 => k_is)
    (case k13 => k_is)
    (case t13 => k_is)
    (case mk13 => k_is)
    (case kc13 => k_is)
    (case a14 => k_is)
    (case i14 => k_is)
    (case l14 => k_is)
    (case c14 => k_is)
    (case k14 => k_is)
    (case a15 => k_is)
    (case i15 => k_is)
    (case l15 => k_is)
    (case c15 => k_is)
    (case k15 => k_is)
    (case a16 => k_is)
    (case i16 => k_is)
    (case l16 => k_is)
    (case c16 => k_is)
    (case k16 => k_is)
    (case a17 => k_is)
    (case i17 => k_is)
    (case l17 => k_is)
    (case c17 => k_is)
    (case k17 => k_is)
    (case a18 => k_is)
    (case i18 => k_is)
    (case l18 => k_is)
    (case c18 => k_is)
    (case k18 => k_is)
    (case a19 => k_is)
    (case i19 => k_is)
    (case l19 => k_is)
    (case c19 => k_is)
    (case k19 => k_is)
    (case t19 => k_is)
    (case a20 => k_is)
    (case i20 => k_is)
    (case l20 => k_is)
    (case c20 => k_is)
    (case k20 => k_is)
    (case mk20 => k_is)
    (case kc20 => k_is)
    (case a21 => k_is)
    (case i21 => k_is)
    (case l21 => k_is)
    (case c21 => k_is)
    (case k21 => k_is)
    (case a22 => k_is)
    (case i22 => k_is)
    (case l22 => k_is)
    (case c22 => k_is)
    (case k22 => k_is)
    (case a23 => k_is)
    (case i23 => k_is)
    (case l23 => k_is)
    (case c23 => k_is)
    (case k23 => k_is)
    (case t23 => k_is)
    (case a24 => k_is)
    (case i24 => k_is)
    (case l24 => k_is)
    (case c24 => k_is)
    (case k24 => k_is)
    (case a25 => k_is)
    (case i25 => k_is)
    (case l25 => k_is)
    (case c25 => k_is)
    (case k25 => k_is)
    (case a26 => k_is)
    (case i26 => k_is)
    (case l26 => k_is)
    (case c26 => k_is)
    (case k26 => k_is)
    (case a27 => k_is)
    (case l27 => k_is)
    (case c27 => k_is)
    (case k27 => k_is)
    (case a28 => k_is)
    (case l28 => k_is)
    (case c28 => k_is)
    (case k28 => k_is)
    (case a29 => k_is)
    (case l29 => k_is)
    (case c29 => k_is)
    (case k29 => k_is)
    (case t29 => k_is)
    (case a30 => k_is)
    (case l30 => k_is)
    (case c30 => k_is)
    (case k30 => k_is)
    (case a31 => k_is)
    (case l31 => k_is)
    (case c31 => k_is)
    (case k31 => k_is)
    (case a32 => k_is)
    (case l32 => k_is)
    (case c32 => k_is)
    (case k32 => k_is)
    (case a33 => k_is)
    (case i33 => k_is)
    (case l33 => k_is)
    (case c33 => k_is)
    (case k33 => k_is)
    (case t33 => k_is)
    (case mk33 => k_is)
    (case kc33 => k_is)
    (case a34 => k_is)
    (case i34 => k_is)
    (case l34 => k_is)
    (case c34 => k_is)
    (case k34 => k_is)
    (case a35 => k_is)
    (case i35 => k_is)
    (case l35 => k_is)
    (case c35 => k_is)
    (case k35 => k_is)
    (case a36 => k_is)
    (case i36 => k_is)
    (case l36 => k_is)
    (case c36 => k_is)
    (case k36 => k_is)
    (case a37 => k_is)
    (case i37 => k_is)
    (case l37 => k_is)
    (case c37 => k_is)
    (case k37 => k_is)
    (case a38 => k_is)
    (case i38 => k_is)
    (case l38 => k_is)
    (case c38 => k_is)
    (case k38 => k_is)
    (case a39 => k_is)
    (case i39 => k_is)
    (case l39 => k_is)
    (case c39 => k_is)
    (case k39 => k_is)
    (case a40 => k_is)
    (case i40 => k_is)
    (case l40 => k_is)
    (case c40 => k_is)
    (case k40 => k_is)
    (case a41 => k_is)
    (case l41 => k_is)
    (case c41 => k_is)
    (case k41 => k_is)
    (case a42 => k_is)
    (case l42 => k_is)
    (case c42 => k_is)
    (case k42 => k_is)
    (case a43 => k_is)
    (case l43 => k_is)
    (case c43 => k_is)
    (case k43 => k_is)
    (case a44 => k_is)
    (case l44 => k_is)
    (case c44 => k_is)
    (case k44 => k_is)
    (case a45 => k_is)
    (case l45 => k_is)
    (case c45 => k_is)
    (case k45 => k_is)
    (case a46 => k_is)
    (case l46 => k_is)
    (case c46 => k_is)
    (case k46 => k_is)
    (case a47 => k_is)
    (case l47 => k_is)
    (case c47 => k_is)
    (case k47 => k_is)
    (case a48 => k_is)
    (case l48 => k_is)
    (case c48 => k_is)
    (case k48 => k_is)
    (case a49 => k_is)
    (case l49 => k_is)
    (case c49 => k_is)
    (case k49 => k_is)
    (case a50 => k_is)
    (case l50 => k_is)
    (case c50 => k_is)
    (case k50 => k_is)
    (case a51 => k_is)
    (case l51 => k_is)
    (case c51 => k_is)
    (case k51 => k_is)
    (case a52 => k_is)
    (case l52 => k_is)
    (case c52 => k_is)
    (case k52 => k_is)
    (case a53 => k_is)
    (case l53 => k_is)
    (case c53 => k_is)
    (case k53 => k_is)
    (case a54 => k_is)
    (case l54 => k_is)
    (case c54 => k_is)
    (case k54 => k_is)
    (case a55 => k_is)
    (case l55 => k_is)
    (case c55 => k_is)
    (case k55 => k_is)
    (case a56 => k_is)
    (case l56 => k_is)
    (case c56 => k_is)
    (case k56 => k_is)
    (case a57 => k_is)
    (case l57 => k_is)
    (case c57 => k_is)
    (case k57 => k_is)
    (case z_all => k_is)
    (case z_bool => k_is)
    (case z_enumerate => k_is)
    (case z_int => k_is)
    (case z_isinstance => k_is)
    (case z_len => k_is)
    (case z_list => k_is)
    (case z_max => k_is)
    (case z_min => k_is)
    (case z_range => k_is)
    (case z_repr => k_is)
    (case z_reversed => k_is)
    (case z_set => k_is)
    (case z_sorted => k_is)
    (case z_str => k_is)
    (case z_sum => k_is)
    (case z_tuple => k_is)
    (case z_zip => k_is)
    (case z_LETTERS => k_is)
    (case z_MOST_PARCELS => k_is)
    (case z_MOST_SIDE => k_is)
    (case z_MOST_SPARE => k_is)
    (case z_MOST_WALL => k_is)
    (case z_MOST_WEIGHT => k_is)
    (case z_goes_in_fits => k_is)
    (case icNoNest => k_is)
    (case icUnnested => k_is)
    (case sbNoNest_NoNest => k_is)
    (case sbNoNest_Unnested => k_is)
    (case sbUnnested_NoNest => k_is)
    (case sbUnnested_Unnested => k_is)
    (case z_ORDERS => k_is)
    (case kO => k_is)
    (case kt0_ => k_is)
    (case kt1_ => k_is)
    (case kt2_ => k_is)
    (case kt3_ => k_is)
    (case kt4_ => k_is)
    (case kt5_ => k_is)
    (case z_LABELS => k_is)
    (case kL_ => k_is)
