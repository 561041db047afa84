import PyProof.Rows.All
import Wide.All
import OpenK.AllK
import Wide.FinOn
import HandS.ForMost
import HandS.Walk
import HandS.IsInst
import HandS.Codes
import HandS.Wide
import HandS.Defaults
import HandS.MakeKwOnly
import KE.KDictList
import HandS.TupLe
import HandS.Exc
import HandS.ExcInit
import HandS.ExcField
import HandS.SortKw
import HandS.Zip
import HandS.NoneIn
import HandS.TryMany
import KE.GoesMore
import KE.KCallOwn
import HandS.TupAny
import HandS.FStr
import HandS.More
import HandS.OwnEq
import HandS.Style
import KE.DatumOrd
import KE.SortKeyHeap
import HandS.Keys
import KE.KDictCopyH
import PyProof.Rows.SortShellAny
import HandS.SortOrd
import KE.KDictZip
import KE.GoesZip
import HandS.Conv
import HandS.Flow
import HandS.Lambda
import HandS.Nested
import HandS.EndTab
import HandS.Strs
import HandS.SetFor
import HandS.ListItems
import HandS.HotCalls
import HandS.Rev
import HandS.Replace
import PySem.Challenge.RW_boxinbox_k52_rows_and_reasons
set_option Elab.async false
set_option linter.all false
set_option maxRecDepth 100000
set_option maxHeartbeats 8000000
namespace VS
def Box (p : Prop) : Prop := p
theorem box {p : Prop} (h : p) : Box p = True := eq_true h
theorem unbox {p : Prop} (h : Box p) : p := h
end VS
namespace VS
open PySem L2 C8 PySem.Spec PyProof.Rows
/-! ### objects of own exception classes: their class, isinstance, == with own instances -/
section
open PySem.W
variable {prog : Program} {w : World} {A : Around} {E : Value → Shared → Prop} {s : Shared} {K : PySem.W.Frag} {x D : Addr} {ox od : Obj}
structure XcT (K : PySem.W.Frag) (D : Addr) : Prop where
  ga : PySem.W.findIn K (.ref D) "__getattribute__" = some (some (.builtin "BaseException.__getattribute__"))
  gg : PySem.W.findIn K (.ref D) "__getattr__" = some none
  exC : PySem.W.subIn K (.ref D) (.type "BaseException") = some true
  hd : PySem.W.hasDictIn K D = true
  ha : PySem.W.findIn K (.ref D) "__class__" = some (some (.builtin "object.__class__"))
  hn : PySem.W.specialIn K (.builtin "object.__class__") "__get__" = some (some (.builtin "getset_descriptor.__get__"))
  htk : PySem.W.takesIn K (.builtin "object.__class__") = some true
  hm : PySem.W.mroIn K D (.type "object") = some true
  eq : PySem.W.findIn K (.ref D) "__eq__" = some (some (.builtin "object.__eq__"))
theorem exc_class (T : XcT K D) {Q : Option Value → Shared → Prop} (X : K.In s.heap) (I : InstAt s.heap x ox D (some od)) (h : Q (some (.ref D)) { s with toks := s.toks + 1 }) : wpAny (model prog w) A (getAttr? (.ref x) "__class__") Q E s := by
  have hf : findObj K D (some od) "__class__" = some (.bind (.builtin "getset_descriptor.__get__") (.builtin "object.__class__")) := findObj_data (by obtain ⟨cd, hc, _⟩ := any_some T.hd; rw [hc]; rfl) T.ha T.hn T.htk
  obtain ⟨hp, g, d, t, os⟩ := s
  have L0 := I.type (M := model prog w)
  have L1 := looks_findIn (M := model prog w) X T.ga
  have L2 := looks_findIn (M := model prog w) X T.gg
  have L3 := looks_find (M := model prog w) X I hf
  have sub : Looks (model prog w) hp (isInstance (.ref x) (.type "BaseException")) true := L0.andThen (looks_subIn X T.exC)
  have hx2 : (Value.builtin "BaseException.__getattribute__" == Value.builtin "object.__getattribute__") = false := by decide +kernel
  have hx1 : (onTheHeap (Value.ref D) && Value.builtin "BaseException.__getattribute__" == Value.builtin "object.__getattribute__") = false := by rw [hx2]; rfl
  unfold getAttr? getAttrBy? getAttrBy
  refine wpAny_bind (wpAny_mkText (wpAny_bind (wpAny_attempt (wpAny_holding (wpAny_bind (L0.at (wpAny_bind (L1.at ?_))))))))
  show wpAny _ _ (if (onTheHeap (Value.ref D) && Value.builtin "BaseException.__getattribute__" == Value.builtin "object.__getattribute__") = true then _ else _) _ _ _
  rw [hx1, if_neg Bool.false_ne_true]
  unfold getAttrByItsOwn hookBefore
  refine wpAny_bind ?_
  rw [if_pos (show onTheHeap (Value.ref D) = true from rfl)]
  refine L2.at ?_
  refine wpAny_bind (wpAny_attempt (wpAny_holding ?_))
  unfold callGetattribute
  rw [show (false && onTheHeap (Value.builtin "BaseException.__getattribute__")) = false from rfl, if_neg Bool.false_ne_true]
  unfold boundAndCalled
  rw [PySem.F.excAttr_ValueError.ga.bind (.ref x)]
  refine wpAny_bind (wpAny_pure ?_)
  show wpAny _ _ (call (.builtin "BaseException.__getattribute__") [.ref x, .str "__class__" t]) _ _ _
  refine wpAny_call (codeAny_call_builtin PySem.F.excAttr_ValueError.ga.plain PySem.F.entry_bexc_ga ?_)
  refine @check_slot (model prog w) _ _ ⟨hp, g, d, t + 1, os⟩ "BaseException.__getattribute__" "BaseException" "__getattribute__" (.ref x) [.str "__class__" t] [] _ (by decide +kernel) (by decide +kernel) sub (PySem.F.args_bexc_ga (.ref x) (.str "__class__" t)) ?_
  unfold Builtin.«object.__getattribute__»
  refine wpAny_bind (wpAny_of_eq (a := ((Value.ref x : Value), [Value.str "__class__" t])) (by first | rfl | (simp only [slotArgs]; rfl)) ?_)
  refine wpAny_bind (wpAny_pure (wpAny_bind (L0.at (wpAny_bind (L3.at ?_)))))
  show wpAny _ _ (holding [Value.builtin "object.__class__"] (call (.builtin "getset_descriptor.__get__") [.builtin "object.__class__", .ref x, .ref D]) >>= ret) _ _ _
  refine wpAny_bind (wpAny_holding (wpAny_call (class_get (ox := ox) (od := some od) X I T.hm ?_)))
  refine wpAny_pure ?_
  show wpAny _ _ (handedOut (.ref D)) _ _ _
  rw [handedOut_of rfl]
  exact wpAny_pure (wpAny_pure h)
end
open PySem.W in
theorem kitx_exc {K : PySem.W.Frag} {x D : Addr} {ox od : Obj} (T : XcT K D) : PySem.W.KitX K (.ref x) (.ref D) (fun h => PySem.W.InstAt h x ox D (some od)) where
  ty := fun _ _ _ I => I.type
  it := fun _ _ X _ => by
    obtain ⟨cdD, hcD, _⟩ := any_some T.hd
    unfold clsIn at hcD
    split at hcD
    · rename_i c' d' cd' sl' ho
      intro A' Q' E' s' k q
      unfold isType loadHead
      exact wpAny_bind (wpAny_loadPart (k _ _ (X _ _ ho)) (wpAny_pure q))
    · cases hcD
  ne := fun h tp dd its n sl X htp => by
    obtain ⟨cdD, hcD, _⟩ := any_some T.hd
    refine Bool.eq_false_iff.mpr fun q => ?_
    have e : D = tp := Value.ref.inj (beq_iff_eq.mp q)
    subst e
    unfold clsIn at hcD
    split at hcD
    · rename_i c' d' cd' sl' ho
      have z := (X _ _ ho).symm.trans htp
      cases z
    · cases hcD
  ca := fun X I k => exc_class T X I k
section
variable {X : Cx} {pins : List (Addr × Obj)} {σ : L2.St} {H : Hp} {s : Shared}
/-- the class of a thing, also of an object of an own exception class -/
inductive TyZ (K : PySem.W.Frag) (H : Hp) : V → Value → Prop
  | x {v : V} {t : Value} (h : TyX K H v t) : TyZ K H v t
  | e {a C dd : Addr} {fs : List (Str × V)} (h : H a = some (exo a C (some dd))) (h2 : H dd = some (exd dd fs)) (T : XcT K C) : TyZ K H (.ref a) (.ref C)
theorem exo_inst {a C dd : Addr} {fs : List (Str × V)} (I : Inv X pins σ H s) (h : H a = some (exo a C (some dd))) (h2 : H dd = some (exd dd fs)) :
    ∃ ox od, PySem.W.InstAt s.heap a ox C (some od) ∧ s.heap.get? a = some ox ∧ ox.cls = .ref C := by
  obtain ⟨t1, ho⟩ := exo_at I.hok h
  obtain ⟨mA, ⟨od, es, ep, hd, _⟩, _⟩ := exd_at I.hok h2
  exact ⟨_, od, ⟨ho, rfl, rfl, hd⟩, ho, rfl⟩
theorem kit_ofZ {x : V} {u t : Value} (I : Inv X pins σ H s) (rx : RelV x u) (ty : TyZ X.K H x t) : ∃ P : Heap → Prop, PySem.W.KitX X.K u t P ∧ P s.heap ∧ u ≠ .builtin "__main__.__loader__#opaque" := by
  cases ty with
  | x h => exact kit_of I rx h
  | @e a C dd fs h h2 T =>
    cases (show u = Value.ref a from rx)
    obtain ⟨ox, od, J, _⟩ := exo_inst I h h2
    exact ⟨_, kitx_exc T, J, fun z => nomatch z⟩
def rIsiZ (K : PySem.W.Frag) : List V → Hp → VK → Prop := fun xs H Q => ∃ (x c : V) (t u : Value) (b : Bool), xs = [x, c] ∧ ClsV c u ∧ TyZ K H x t ∧ PySem.W.kitOne K t u = some b ∧ Q (.bl b) H
theorem c_isiZ : CallR X (.builtin "isinstance") (rIsiZ X.K) := by
  intro pins s σ H xs us Q I r h
  obtain ⟨x, c, t, u, b, rfl, k, ty, e, q⟩ := h
  obtain ⟨u1, u2, rfl, r1, r2⟩ := vals2 r
  have e2 := k.eq r2
  subst e2
  obtain ⟨P, Z, p, hx⟩ := kit_ofZ I r1 ty
  exact PySem.W.kia_one Z I.kIn p e hx fun tk => ⟨.bl b, H, I.tok tk, rfl, q⟩
end
end VS
namespace VS
open PySem L2
/-! values without the heap -/
inductive D where
  | non | bl (b : Bool) | int (i : Int) | str (x : Str) | ty (n : String) | ref (a : Addr)
  | rol (xs : List D) | hid | lst (xs : List D) | tup (xs : List D) | dK (kvs : List (Key × D)) | ins (C : Addr) (fs : List (Str × D)) | xcp (a dd C : Addr) (fs : List (Str × D)) | xv (C : Addr) (fs : List (Str × D)) | fn (F : NdefX.NF) (ws : List V) (cs : List D)
/-- the objects that are known by reference -/
abbrev Sto := Addr → Option D
def put (S : Sto) (a : Addr) (d : D) : Sto := fun b => if b = a then some d else S b
def del (S : Sto) (a : Addr) : Sto := fun b => if b = a then none else S b
theorem put_same {S : Sto} {a : Addr} {d : D} : put S a d a = some d := by unfold put; rw [if_pos rfl]
theorem put_ne {S : Sto} {a b : Addr} {d : D} (h : b ≠ a) : put S a d b = S b := by unfold put; rw [if_neg h]
theorem put_put {S : Sto} {a : Addr} {d e : D} : put (put S a d) a e = put S a e := by
  funext b; unfold put; split <;> rfl
theorem del_same {S : Sto} {a : Addr} : del S a a = none := by unfold del; rw [if_pos rfl]
theorem del_ne {S : Sto} {a b : Addr} (h : b ≠ a) : del S a b = S b := by unfold del; rw [if_neg h]
theorem ne_at {S : Sto} {a b : Addr} {d : D} (h : S a = some d) (h' : S b = none) : a ≠ b := by
  intro e; subst e; rw [h] at h'; cases h'
abbrev Kl (K : PySem.W.Frag) (a : Addr) (xs : List V) : Prop :=
  ∃ (o : Obj) (its : Array Value) (n : Nat), K.lookup a = some o ∧ o.cls = .type "list" ∧ o.dict = none ∧ o.data = .seq its n ∧ its.size ≤ sizeLine ∧ Vals xs its.toList
abbrev Kt (K : PySem.W.Frag) (a : Addr) (xs : List V) : Prop :=
  ∃ (o : Obj) (its : Array Value) (n : Nat), K.lookup a = some o ∧ o.cls = .type "tuple" ∧ o.data = .seq its n ∧ its.size ≤ sizeLine ∧ Vals xs its.toList
section
variable (K : PySem.W.Frag) (H : Hp) (S : Sto)
mutual
/-- v is the value d, all of whose objects stand in H and are not known by reference -/
inductive Rep : V → D → Prop
  | non : Rep .non .non
  | bl (b : Bool) : Rep (.bl b) (.bl b)
  | int (i : Int) : Rep (.int i) (.int i)
  | str (x : Str) : Rep (.str x) (.str x)
  | ty (n : String) : Rep (.ty n) (.ty n)
  | ref (a : Addr) : Rep (.ref a) (.ref a)
  | rol {a : Addr} {xs : List V} {ds : List D} {o : Obj} (s : S a = none) (h : H a = some (.frz o (.lst xs))) (r : RepL xs ds) : Rep (.ref a) (.rol ds)
  | rolK {a : Addr} {xs : List V} {ds : List D} (h : Kl K a xs) (r : RepL xs ds) : Rep (.ref a) (.rol ds)
  | lst {a : Addr} {xs : List V} {ds : List D} (s : S a = none) (h : H a = some (.lst xs)) (r : RepL xs ds) : Rep (.ref a) (.lst ds)
  | tup {a : Addr} {xs : List V} {ds : List D} (s : S a = none) (h : H a = some (.tup xs)) (r : RepL xs ds) : Rep (.ref a) (.tup ds)
  | tupK {a : Addr} {xs : List V} {ds : List D} (h : Kt K a xs) (r : RepL xs ds) : Rep (.ref a) (.tup ds)
  | dK {a : Addr} {kvs : List (Key × V)} {ds : List (Key × D)} (s : S a = none) (h : Rd H a (.dK kvs)) (r : RepK kvs ds) : Rep (.ref a) (.dK ds)
  | ins {a C dx : Addr} {fs : List (Str × V)} {ds : List (Str × D)} (s : S a = none) (h : H a = some (.ins C dx fs)) (r : RepF fs ds) : Rep (.ref a) (.ins C ds)
  | xcp {a dd C : Addr} {fs : List (Str × V)} {ds : List (Str × D)} (s : S dd = none) (h : H dd = some (.xd fs)) (r : RepF fs ds) : Rep (.ref a) (.xcp a dd C ds)
  | xv {a C dd : Addr} {fs : List (Str × V)} {ds : List (Str × D)} (s : S a = none) (h : H a = some (exo a C (some dd))) (s2 : S dd = none) (h2 : H dd = some (exd dd fs)) (r : RepF fs ds) : Rep (.ref a) (.xv C ds)
  | fn {a : Addr} {F : NdefX.NF} {ws : List V} {cs : List D} (s : S a = none) (h : H a = some (NdefX.FnO a F)) (s2 : S F.c = none) (h2 : H F.c = some (LamX.CodeO F.c F.qual)) (r : RepL ws cs) : Rep (.ref a) (.fn F ws cs)
inductive RepL : List V → List D → Prop
  | nil : RepL [] []
  | cons {v : V} {vs : List V} {d : D} {ds : List D} (h : Rep v d) (t : RepL vs ds) : RepL (v :: vs) (d :: ds)
inductive RepK : List (Key × V) → List (Key × D) → Prop
  | nil : RepK [] []
  | cons {k : Key} {v : V} {vs : List (Key × V)} {d : D} {ds : List (Key × D)} (h : Rep v d) (t : RepK vs ds) : RepK ((k, v) :: vs) ((k, d) :: ds)
inductive RepF : List (Str × V) → List (Str × D) → Prop
  | nil : RepF [] []
  | cons {k : Str} {v : V} {vs : List (Str × V)} {d : D} {ds : List (Str × D)} (h : Rep v d) (t : RepF vs ds) : RepF ((k, v) :: vs) ((k, d) :: ds)
end
end
/-- from (S, H) to (S', H'): what is not known by reference stays, so does what is hidden -/
structure Mk (S : Sto) (H : Hp) (S' : Sto) (H' : Hp) : Prop where
  keep : ∀ a o, S a = none → H a = some o → H' a = some o
  fresh : ∀ a, S a = none → H a ≠ none → S' a = none
structure Mv (S : Sto) (H : Hp) (S' : Sto) (H' : Hp) : Prop extends Mk S H S' H' where
  hid : ∀ a o, S a = some .hid → H a = some o → H' a = some o ∧ S' a = some .hid
theorem Mv.refl {S : Sto} {H : Hp} : Mv S H S H := ⟨⟨fun _ _ _ h => h, fun _ h _ => h⟩, fun _ _ h e => ⟨e, h⟩⟩
theorem Mv.trans {S S1 S2 : Sto} {H H1 H2 : Hp} (a : Mv S H S1 H1) (b : Mv S1 H1 S2 H2) : Mv S H S2 H2 where
  keep := fun x o s h => b.keep x o (a.fresh x s (by rw [h]; simp)) (a.keep x o s h)
  fresh := fun x s h => by
    cases q : H x with
    | none => exact absurd q h
    | some o => exact b.fresh x (a.fresh x s h) (by rw [a.keep x o s q]; simp)
  hid := fun x o s h => let ⟨e1, e2⟩ := a.hid x o s h; b.hid x o e2 e1
/-- the same, but dicts may be locked, or freed again -/
def nrm : HO → HO
  | .frz _ (.dK k) => .dK k
  | o => o
structure Ml (S : Sto) (H : Hp) (S' : Sto) (H' : Hp) : Prop where
  kp : ∀ a o, S a = none → H a = some o → ∃ o', H' a = some o' ∧ nrm o' = nrm o
  fresh : ∀ a, S a = none → H a ≠ none → S' a = none
theorem Mk.ml {S S' : Sto} {H H' : Hp} (m : Mk S H S' H') : Ml S H S' H' := ⟨fun a o s h => ⟨o, m.keep a o s h, rfl⟩, m.fresh⟩
theorem nrm_eq {o o' : HO} (e : nrm o' = nrm o) (nd : ∀ k, nrm o ≠ .dK k) : o' = nrm o := by
  unfold nrm at e
  split at e
  · exact absurd e.symm (nd _)
  · exact e
theorem Ml.keep {S S' : Sto} {H H' : Hp} (m : Ml S H S' H') (a : Addr) (o : HO) (s : S a = none) (h : H a = some o) (nd : nrm o = o ∧ ∀ k, nrm o ≠ .dK k := by exact ⟨rfl, fun _ e => by cases e⟩) : H' a = some o := by
  obtain ⟨o', h', e⟩ := m.kp a o s h
  rw [h', nrm_eq e nd.2, nd.1]
theorem Ml.keepD {S S' : Sto} {H H' : Hp} (m : Ml S H S' H') {a : Addr} {k : List (Key × V)} (s : S a = none) (h : Rd H a (.dK k)) : Rd H' a (.dK k) := by
  have fin : ∀ o, H a = some o → nrm o = .dK k → Rd H' a (.dK k) := fun o ho e => by
    obtain ⟨o', h', e'⟩ := m.kp a o s ho
    rw [e] at e'
    unfold nrm at e'
    split at e'
    · cases e'
      exact .inr ⟨_, h'⟩
    · rw [e'] at h'
      exact .inl h'
  rcases h with h | ⟨o, h⟩
  · exact fin _ h rfl
  · exact fin _ h rfl
theorem rd_ne {H : Hp} {a : Addr} {u : HO} (h : Rd H a u) : H a ≠ none := by
  rcases h with h | ⟨o, h⟩ <;> (rw [h]; simp)
section
variable {K : PySem.W.Frag} {S S' : Sto} {H H' : Hp}
mutual
theorem Rep.ml (m : Ml S H S' H') : ∀ {v : V} {d : D}, Rep K H S v d → Rep K H' S' v d
  | _, _, .non => .non
  | _, _, .bl b => .bl b
  | _, _, .int i => .int i
  | _, _, .str x => .str x
  | _, _, .ty n => .ty n
  | _, _, .ref a => .ref a
  | _, _, .rol s h r => .rol (m.fresh _ s (by rw [h]; simp)) (m.keep _ _ s h) (RepL.ml m r)
  | _, _, .rolK h r => .rolK h (RepL.ml m r)
  | _, _, .lst s h r => .lst (m.fresh _ s (by rw [h]; simp)) (m.keep _ _ s h) (RepL.ml m r)
  | _, _, .tup s h r => .tup (m.fresh _ s (by rw [h]; simp)) (m.keep _ _ s h) (RepL.ml m r)
  | _, _, .tupK h r => .tupK h (RepL.ml m r)
  | _, _, .dK s h r => .dK (m.fresh _ s (rd_ne h)) (m.keepD s h) (RepK.ml m r)
  | _, _, .ins s h r => .ins (m.fresh _ s (by rw [h]; simp)) (m.keep _ _ s h) (RepF.ml m r)
  | _, _, .xcp s h r => .xcp (m.fresh _ s (by rw [h]; simp)) (m.keep _ _ s h) (RepF.ml m r)
  | _, _, .xv s h s2 h2 r => .xv (m.fresh _ s (by rw [h]; simp)) (m.keep _ _ s h) (m.fresh _ s2 (by rw [h2]; simp)) (m.keep _ _ s2 h2) (RepF.ml m r)
  | _, _, .fn s h s2 h2 r => .fn (m.fresh _ s (by rw [h]; simp)) (m.keep _ _ s h) (m.fresh _ s2 (by rw [h2]; simp)) (m.keep _ _ s2 h2) (RepL.ml m r)
theorem RepL.ml (m : Ml S H S' H') : ∀ {vs : List V} {ds : List D}, RepL K H S vs ds → RepL K H' S' vs ds
  | _, _, .nil => .nil
  | _, _, .cons h t => .cons (Rep.ml m h) (RepL.ml m t)
theorem RepK.ml (m : Ml S H S' H') : ∀ {vs : List (Key × V)} {ds : List (Key × D)}, RepK K H S vs ds → RepK K H' S' vs ds
  | _, _, .nil => .nil
  | _, _, .cons h t => .cons (Rep.ml m h) (RepK.ml m t)
theorem RepF.ml (m : Ml S H S' H') : ∀ {vs : List (Str × V)} {ds : List (Str × D)}, RepF K H S vs ds → RepF K H' S' vs ds
  | _, _, .nil => .nil
  | _, _, .cons h t => .cons (Rep.ml m h) (RepF.ml m t)
end
theorem Rep.mk (m : Mk S H S' H') {v : V} {d : D} (r : Rep K H S v d) : Rep K H' S' v d := Rep.ml m.ml r
theorem RepL.mk (m : Mk S H S' H') {vs : List V} {ds : List D} (r : RepL K H S vs ds) : RepL K H' S' vs ds := RepL.ml m.ml r
theorem RepK.mk (m : Mk S H S' H') {vs : List (Key × V)} {ds : List (Key × D)} (r : RepK K H S vs ds) : RepK K H' S' vs ds := RepK.ml m.ml r
theorem RepF.mk (m : Mk S H S' H') {vs : List (Str × V)} {ds : List (Str × D)} (r : RepF K H S vs ds) : RepF K H' S' vs ds := RepF.ml m.ml r
theorem Rep.mv {v : V} {d : D} (r : Rep K H S v d) (m : Mv S H S' H') : Rep K H' S' v d := Rep.mk m.toMk r
theorem RepL.mv {v : List V} {d : List D} (r : RepL K H S v d) (m : Mv S H S' H') : RepL K H' S' v d := RepL.mk m.toMk r
theorem RepK.mv {v : List (Key × V)} {d : List (Key × D)} (r : RepK K H S v d) (m : Mv S H S' H') : RepK K H' S' v d := RepK.mk m.toMk r
theorem RepF.mv {v : List (Str × V)} {d : List (Str × D)} (r : RepF K H S v d) (m : Mv S H S' H') : RepF K H' S' v d := RepF.mk m.toMk r
theorem RepL.length : ∀ {vs : List V} {ds : List D}, RepL K H S vs ds → vs.length = ds.length
  | _, _, .nil => rfl
  | _, _, .cons _ t => congrArg Nat.succ (RepL.length t)
theorem RepL.get : ∀ {vs : List V} {ds : List D} {i : Nat} {d : D}, RepL K H S vs ds → ds[i]? = some d → ∃ v, vs[i]? = some v ∧ Rep K H S v d
  | _, _, _, _, .nil, e => by simp at e
  | _, _, 0, _, .cons h _, e => by simp at e; subst e; exact ⟨_, rfl, h⟩
  | _, _, i + 1, d, .cons _ t, e => by
    obtain ⟨v, h1, h2⟩ := RepL.get (i := i) (d := d) t (by simpa using e)
    exact ⟨v, by simpa using h1, h2⟩
theorem RepL.append : ∀ {xs ys : List V} {us ws : List D}, RepL K H S xs us → RepL K H S ys ws → RepL K H S (xs ++ ys) (us ++ ws)
  | _, _, _, _, .nil, s => s
  | _, _, _, _, .cons r t, s => .cons r (RepL.append t s)
theorem RepL.set {x : V} {u : D} (r : Rep K H S x u) : ∀ {xs : List V} {us : List D} (i : Nat), RepL K H S xs us → RepL K H S (xs.set i x) (us.set i u)
  | _, _, _, .nil => .nil
  | _, _, 0, .cons _ t => .cons r t
  | _, _, i + 1, .cons q t => .cons q (RepL.set r i t)
theorem RepL.take : ∀ {xs : List V} {us : List D} (n : Nat), RepL K H S xs us → RepL K H S (xs.take n) (us.take n)
  | _, _, 0, _ => .nil
  | _, _, _ + 1, .nil => .nil
  | _, _, n + 1, .cons r t => .cons r (RepL.take n t)
theorem RepL.drop : ∀ {xs : List V} {us : List D} (n : Nat), RepL K H S xs us → RepL K H S (xs.drop n) (us.drop n)
  | _, _, 0, r => r
  | _, _, _ + 1, .nil => .nil
  | _, _, n + 1, .cons _ t => RepL.drop n t
theorem RepL.eraseIdx : ∀ {xs : List V} {us : List D} (n : Nat), RepL K H S xs us → RepL K H S (xs.eraseIdx n) (us.eraseIdx n)
  | _, _, _, .nil => .nil
  | _, _, 0, .cons _ t => t
  | _, _, n + 1, .cons r t => .cons r (RepL.eraseIdx n t)
theorem RepL.ints : ∀ {vs : List V} {ns : List Int}, RepL K H S vs (ns.map D.int) → vs = ns.map V.int
  | _, [], .nil => rfl
  | _, n :: ns, .cons (.int _) t => congrArg (V.int n :: ·) (RepL.ints t)
theorem RepL.bls : ∀ {vs : List V} {ns : List Bool}, RepL K H S vs (ns.map D.bl) → vs = ns.map V.bl
  | _, [], .nil => rfl
  | _, n :: ns, .cons (.bl _) t => congrArg (V.bl n :: ·) (RepL.bls t)
theorem RepL.ofInts : ∀ {ns : List Int}, RepL K H S (ns.map V.int) (ns.map D.int)
  | [] => .nil
  | n :: _ => .cons (.int n) RepL.ofInts
theorem RepF.lookup {f : Str} {d : D} : ∀ {vs : List (Str × V)} {ds : List (Str × D)}, RepF K H S vs ds → ds.lookup f = some d → ∃ v, vs.lookup f = some v ∧ Rep K H S v d
  | _, _, .nil, e => by cases e
  | _, _, .cons (k := k) h t, e => by
    by_cases q : f == k
    · rw [List.lookup_cons, q] at e
      cases e
      exact ⟨_, by rw [List.lookup_cons, q], h⟩
    · have q' : (f == k) = false := by simpa using q
      rw [List.lookup_cons, q'] at e
      obtain ⟨v, h1, h2⟩ := RepF.lookup t e
      exact ⟨v, by rw [List.lookup_cons, q']; exact h1, h2⟩
theorem RepF.lookup_none {f : Str} : ∀ {vs : List (Str × V)} {ds : List (Str × D)}, RepF K H S vs ds → ds.lookup f = none → vs.lookup f = none
  | _, _, .nil, _ => rfl
  | _, _, .cons (k := k) h t, e => by
    by_cases q : f == k
    · rw [List.lookup_cons, q] at e
      cases e
    · have q' : (f == k) = false := by simpa using q
      rw [List.lookup_cons, q'] at e
      rw [List.lookup_cons, q']
      exact RepF.lookup_none t e
theorem RepF.length : ∀ {vs : List (Str × V)} {ds : List (Str × D)}, RepF K H S vs ds → vs.length = ds.length
  | _, _, .nil => rfl
  | _, _, .cons _ t => congrArg Nat.succ (RepF.length t)
def putD (f : Str) (v : D) : List (Str × D) → List (Str × D)
  | [] => [(f, v)]
  | (g, u) :: r => if g = f then (g, v) :: r else (g, u) :: putD f v r
theorem RepF.put {f : Str} {v : V} {d : D} (r : Rep K H S v d) : ∀ {vs : List (Str × V)} {ds : List (Str × D)}, RepF K H S vs ds → RepF K H S (putF f v vs) (putD f d ds)
  | _, _, .nil => .cons r .nil
  | _, _, .cons (k := k) h t => by
    unfold putD putF
    by_cases q : k = f
    · rw [if_pos q, if_pos q]; exact .cons r t
    · rw [if_neg q, if_neg q]; exact .cons h (RepF.put r t)
theorem Rep.seqL {v : V} {ds : List D} (r : Rep K H S v (.lst ds)) : ∃ a xs, v = .ref a ∧ S a = none ∧ H a = some (.lst xs) ∧ RepL K H S xs ds := by
  cases r with
  | lst s h r => exact ⟨_, _, rfl, s, h, r⟩
theorem Rep.seqR {v : V} {ds : List D} (r : Rep K H S v (.rol ds)) : ∃ a xs, v = .ref a ∧ (∀ S' H', Mv S H S' H' → SqL K H' a xs) ∧ RepL K H S xs ds := by
  cases r with
  | rol s h r => exact ⟨_, _, rfl, fun S' H' m => .inl (.inr ⟨_, m.keep _ _ s h⟩), r⟩
  | rolK h r => exact ⟨_, _, rfl, fun _ _ _ => .inr h, r⟩
theorem Rep.seqT {v : V} {ds : List D} (r : Rep K H S v (.tup ds)) : ∃ a xs, v = .ref a ∧ SqT K H a xs ∧ RepL K H S xs ds := by
  cases r with
  | tup s h r => exact ⟨_, _, rfl, .inl (.inl h), r⟩
  | tupK h r => exact ⟨_, _, rfl, .inr h, r⟩
end
/-! what is known by reference stands -/
def CellOk (K : PySem.W.Frag) (H : Hp) (S : Sto) (a : Addr) : D → Prop
  | .lst ds => ∃ xs, H a = some (.lst xs) ∧ RepL K H S xs ds
  | .dK ds => ∃ kvs, H a = some (.dK kvs) ∧ RepK K H S kvs ds
  | .ins C ds => ∃ dx fs, H a = some (.ins C dx fs) ∧ RepF K H S fs ds
  | .hid => ∃ o, H a = some o
  | .str q => ∃ ps : Array Value, H a = some (.tbl ps) ∧ TriplesOk ps.toList ∧ ∀ (pos : Pos) (cv : Value), codeAmong pos ps.toList = some cv → ∃ c, cv = .ref c ∧ S c = none ∧ H c = some (LamX.CodeO c q)
  | _ => False
theorem cell_l {K : PySem.W.Frag} {H : Hp} {S : Sto} {a : Addr} {xs : List V} {ds : List D} (h : H a = some (.lst xs)) (r : RepL K H S xs ds) : CellOk K H S a (.lst ds) := ⟨xs, h, r⟩
theorem cell_d {K : PySem.W.Frag} {H : Hp} {S : Sto} {a : Addr} {xs : List (Key × V)} {ds : List (Key × D)} (h : H a = some (.dK xs)) (r : RepK K H S xs ds) : CellOk K H S a (.dK ds) := ⟨xs, h, r⟩
theorem cell_i {K : PySem.W.Frag} {H : Hp} {S : Sto} {a C dx : Addr} {xs : List (Str × V)} {ds : List (Str × D)} (h : H a = some (.ins C dx xs)) (r : RepF K H S xs ds) : CellOk K H S a (.ins C ds) := ⟨dx, xs, h, r⟩
/-- the whole of what is known by reference: S, and what is hidden -/
structure Cells (K : PySem.W.Frag) (H : Hp) (S T : Sto) : Prop where
  ov : ∀ a, (T a = S a ∧ T a ≠ some .hid) ∨ (S a = none ∧ T a = some .hid)
  ok : ∀ a d, T a = some d → CellOk K H T a d
section
variable {K : PySem.W.Frag} {S S' T T' : Sto} {H H' : Hp} {a p : Addr} {d : D}
theorem Cells.at (c : Cells K H S T) (h : S a = some d) : T a = some d := by
  rcases c.ov a with ⟨e, _⟩ | ⟨e, _⟩
  · rw [e]; exact h
  · rw [h] at e; cases e
theorem CellOk.mk (m : Mk S H S' H') (e : H' a = H a) : ∀ {d : D}, CellOk K H S a d → CellOk K H' S' a d
  | .lst _, ⟨xs, h, r⟩ => ⟨xs, by rw [e]; exact h, r.mk m⟩
  | .dK _, ⟨xs, h, r⟩ => ⟨xs, by rw [e]; exact h, r.mk m⟩
  | .ins _ _, ⟨dx, fs, h, r⟩ => ⟨dx, fs, by rw [e]; exact h, r.mk m⟩
  | .hid, ⟨o, h⟩ => ⟨o, by rw [e]; exact h⟩
  | .str _, ⟨ps, h, t, w⟩ => ⟨ps, by rw [e]; exact h, t, fun pos cv hc =>
    let ⟨c, e1, e2, e3⟩ := w pos cv hc
    ⟨c, e1, m.fresh c e2 (by rw [e3]; simp), m.keep c _ e2 e3⟩⟩
theorem CellOk.mv (m : Mv S H S' H') (e : H' a = H a) {d : D} (h : CellOk K H S a d) : CellOk K H' S' a d := CellOk.mk m.toMk e h
theorem CellOk.there : ∀ {d : D}, CellOk K H S a d → H a ≠ none
  | .lst _, ⟨xs, h, _⟩ => by rw [h]; simp
  | .dK _, ⟨xs, h, _⟩ => by rw [h]; simp
  | .ins _ _, ⟨dx, fs, h, _⟩ => by rw [h]; simp
  | .hid, ⟨o, h⟩ => by rw [h]; simp
  | .str _, ⟨ps, h, _⟩ => by rw [h]; simp
theorem Cells.free (c : Cells K H S T) (h : H p = none) : T p = none := by
  cases q : T p with
  | none => rfl
  | some d => exact absurd h (c.ok p d q).there
theorem Cells.freeS (c : Cells K H S T) (h : H p = none) : S p = none := by
  have q := c.free h
  rcases c.ov p with ⟨e, _⟩ | ⟨e, _⟩
  · rw [← e]; exact q
  · exact e
/-- a new object, known by value -/
theorem mv_new {o : HO} (h : H p = none) : Mv S H S (upd H p o) :=
  ⟨⟨fun _ _ _ e => by rw [upd_ne (ne_of_none e h)]; exact e, fun _ s _ => s⟩, fun _ _ s e => ⟨by rw [upd_ne (ne_of_none e h)]; exact e, s⟩⟩
theorem Cells.new {o : HO} (c : Cells K H S T) (h : H p = none) : Cells K (upd H p o) S T := ⟨c.ov, fun a d e => by
  have q := c.ok a d e
  refine CellOk.mv (mv_new h) (upd_ne fun z => ?_) q
  subst z
  exact q.there h⟩
theorem ov_put (h : ∀ a, (T a = S a ∧ T a ≠ some .hid) ∨ (S a = none ∧ T a = some .hid)) (nh : d ≠ .hid) : ∀ a, (put T p d a = put S p d a ∧ put T p d a ≠ some .hid) ∨ (put S p d a = none ∧ put T p d a = some .hid) := fun a => by
  by_cases z : a = p
  · subst z; rw [put_same, put_same]; exact .inl ⟨rfl, fun q => nh (Option.some.inj q)⟩
  · rw [put_ne z, put_ne z]; exact h a
/-- a new object, known by reference -/
theorem mv_newc {o : HO} (h : H p = none) : Mv S H (put S p d) (upd H p o) where
  keep := fun _ _ _ e => by rw [upd_ne (ne_of_none e h)]; exact e
  fresh := fun b s e => by
    rw [put_ne]
    · exact s
    · intro z; subst z; exact e h
  hid := fun b o s e => by
    have z := ne_of_none e h
    rw [upd_ne z, put_ne z]
    exact ⟨e, s⟩
theorem Cells.newc {o : HO} (c : Cells K H S T) (h : H p = none) (hd : CellOk K (upd H p o) (put T p d) p d) (nh : d ≠ .hid := by nofun) : Cells K (upd H p o) (put S p d) (put T p d) := ⟨ov_put c.ov nh, fun a e q => by
  by_cases z : a = p
  · subst z; rw [put_same] at q; cases q; exact hd
  · rw [put_ne z] at q
    have w := c.ok a e q
    exact CellOk.mv (mv_newc h) (upd_ne z) w⟩
/-- a new object, hidden -/
theorem Cells.newh {o : HO} (c : Cells K H S T) (h : H p = none) : Cells K (upd H p o) S (put T p .hid) := ⟨fun a => by
  by_cases z : a = p
  · subst z; exact .inr ⟨c.freeS h, put_same⟩
  · rw [put_ne z]; exact c.ov a, fun a e q => by
  by_cases z : a = p
  · subst z; rw [put_same] at q; cases q; exact ⟨o, upd_same⟩
  · rw [put_ne z] at q
    exact CellOk.mv (mv_newc h) (upd_ne z) (c.ok a e q)⟩
/-- the hidden object changes -/
theorem mk_hid {o : HO} (h : T p = some .hid) : Mk T H T (upd H p o) where
  keep := fun b _ s e => by
    rw [upd_ne]
    · exact e
    · intro z; subst z; rw [h] at s; cases s
  fresh := fun _ s _ => s
theorem Cells.hidw {o : HO} (c : Cells K H S T) (h : T p = some .hid) : Cells K (upd H p o) S T := ⟨c.ov, fun a e q => by
  by_cases z : a = p
  · subst z; rw [h] at q; cases q; exact ⟨o, upd_same⟩
  · exact CellOk.mk (mk_hid h) (upd_ne z) (c.ok a e q)⟩
theorem Mv.hidw {S1 : Sto} {H1 : Hp} {o : HO} (m : Mv S1 H1 T H) (n : H1 p = none) : Mv S1 H1 T (upd H p o) where
  keep := fun a u s e => by rw [upd_ne (ne_of_none e n)]; exact m.keep a u s e
  fresh := m.fresh
  hid := fun a u s e => by
    rw [upd_ne (ne_of_none e n)]
    exact m.hid a u s e
/-- the hidden object shows -/
theorem mk_show (h : T p = some .hid) : Mk T H (VS.del T p) H := ⟨fun _ _ _ h => h, fun b s _ => by
  unfold VS.del
  split
  · rfl
  · exact s⟩
theorem Cells.unhid (c : Cells K H S T) (h : T p = some .hid) : Cells K H S (VS.del T p) := ⟨fun a => by
  by_cases z : a = p
  · subst z
    rw [del_same]
    rcases c.ov a with ⟨_, e⟩ | ⟨e, _⟩
    · exact absurd h e
    · exact .inl ⟨e.symm, by simp⟩
  · rw [del_ne z]; exact c.ov a, fun a d q => by
  by_cases z : a = p
  · subst z; rw [del_same] at q; cases q
  · rw [del_ne z] at q
    exact CellOk.mk (mk_show h) rfl (c.ok a d q)⟩
/-- an object that is known by reference changes -/
theorem mv_wr {o : HO} {e : D} (h : S p = some e) (ne : e ≠ .hid := by nofun) : Mv S H (put S p d) (upd H p o) where
  keep := fun b _ s e => by
    rw [upd_ne]
    · exact e
    · intro z; subst z; rw [h] at s; cases s
  fresh := fun b s _ => by
    rw [put_ne]
    · exact s
    · intro z; subst z; rw [h] at s; cases s
  hid := fun b o s e => by
    have z : b ≠ p := by
      intro z; subst z; rw [h] at s; cases s; exact ne rfl
    rw [upd_ne z, put_ne z]
    exact ⟨e, s⟩
theorem Cells.wr {o : HO} {e : D} (c : Cells K H S T) (h : T p = some e) (hd : CellOk K (upd H p o) (put T p d) p d) (ne : e ≠ .hid := by nofun) (nh : d ≠ .hid := by nofun) : Cells K (upd H p o) (put S p d) (put T p d) := ⟨ov_put c.ov nh, fun a e q => by
  by_cases z : a = p
  · subst z; rw [put_same] at q; cases q; exact hd
  · rw [put_ne z] at q
    exact CellOk.mv (mv_wr h ne) (upd_ne z) (c.ok a e q)⟩
/-- from now on known by value -/
theorem mv_del (h : S p ≠ some .hid) : Mv S H (del S p) H := ⟨⟨fun _ _ _ h => h, fun b s _ => by
  unfold del
  split
  · rfl
  · exact s⟩, fun b o s e => ⟨e, by rw [del_ne]; exact s; intro z; subst z; exact h s⟩⟩
theorem Cells.del (c : Cells K H S T) (h : T p ≠ some .hid) : Cells K H (del S p) (del T p) := ⟨fun a => by
  by_cases z : a = p
  · subst z; rw [del_same, del_same]; exact .inl ⟨rfl, by simp⟩
  · rw [del_ne z, del_ne z]; exact c.ov a, fun a d q => by
  by_cases z : a = p
  · subst z; rw [del_same] at q; cases q
  · rw [del_ne z] at q
    exact CellOk.mv (mv_del h) rfl (c.ok a d q)⟩
/-- what can't be known by value -/
inductive NoF : D → Prop
  | hid : NoF .hid
  | str (q : Str) : NoF (.str q)
theorem NoF.ne {d : D} (n : ¬ NoF d) : d ≠ .hid := fun e => n (by rw [e]; exact .hid)
theorem Cells.rep (c : Cells K H S T) (h : T p = some d) (n : ¬ NoF d) : Rep K H (VS.del T p) (.ref p) d := by
  have ne : T p ≠ some .hid := by rw [h]; intro e; cases e; exact n .hid
  have q := c.ok p d h
  cases d with
  | lst ds => obtain ⟨xs, h1, r⟩ := q; exact .lst del_same h1 (r.mv (mv_del ne))
  | dK ds => obtain ⟨xs, h1, r⟩ := q; exact .dK del_same (.inl h1) (r.mv (mv_del ne))
  | ins C ds => obtain ⟨dx, fs, h1, r⟩ := q; exact .ins del_same h1 (r.mv (mv_del ne))
  | hid => exact absurd h ne
  | str x => exact absurd (NoF.str x) n
  | _ => exact q.elim
end
/-! ### where one stands -/
abbrev Rho := List (Option D)
/-- the written part; what is wanted of an exception, by the heap and by value (at the slots as they then are) -/
structure Ctx where
  K : PySem.W.Frag
  E : St → XK
  Y : Addr → List (Str × D) → Rho → Sto → Prop
def XRep (K : PySem.W.Frag) (H : Hp) (S : Sto) (d : Option Addr) (fs : List (Str × D)) : Prop :=
  ∃ dd fv, d = some dd ∧ S dd = none ∧ H dd = some (.xd fv) ∧ RepF K H S fv fs
/-- the slots hold what ρ says -/
structure Sl (K : PySem.W.Frag) (H : Hp) (T : Sto) (σ : St) (ρ : Rho) : Prop where
  slots : ∀ (i : Nat) (d : D), ρ[i]? = some (some d) → ∃ v, σ[i]? = some (some v) ∧ Rep K H T v d
  len : σ.length = ρ.length
structure In (c : Ctx) (σ : St) (H : Hp) (ρ : Rho) (S T : Sto) : Prop where
  cells : Cells c.K H S T
  slots : ∀ (i : Nat) (d : D), ρ[i]? = some (some d) → ∃ v, σ[i]? = some (some v) ∧ Rep c.K H T v d
  len : σ.length = ρ.length
  exc : ∀ (σ' : St) (ρ' : Rho) (C : Addr) (d : Option Addr) (fs : List (Str × D)) (S' T' : Sto) (H' : Hp), Mv T H T' H' → Cells c.K H' S' T' → Sl c.K H' T' σ' ρ' → XRep c.K H' T' d fs → c.Y C fs ρ' S' → c.E σ' (.ref C) d H'
section
variable {c : Ctx} {σ : St} {H H' : Hp} {ρ : Rho} {S S' T T' : Sto}
theorem In.mv (I : In c σ H ρ S T) (m : Mv T H T' H') (cl : Cells c.K H' S' T') : In c σ H' ρ S' T' :=
  ⟨cl, fun i d e => let ⟨v, h, r⟩ := I.slots i d e; ⟨v, h, r.mv m⟩, I.len, fun σ2 ρ2 C d fs S2 T2 H2 m2 c2 sl x y => I.exc σ2 ρ2 C d fs S2 T2 H2 (m.trans m2) c2 sl x y⟩
theorem In.sl (I : In c σ H ρ S T) : Sl c.K H T σ ρ := ⟨I.slots, I.len⟩
theorem In.set (I : In c σ H ρ S T) {v : V} {d : D} (i : Nat) (r : Rep c.K H T v d) : In c (σ.set i (some v)) H (ρ.set i (some d)) S T := by
  refine ⟨I.cells, fun j e q => ?_, by simp [I.len], I.exc⟩
  by_cases z : j = i
  · subst z
    have hj : j < ρ.length := by
      cases Nat.lt_or_ge j ρ.length with
      | inl h => exact h
      | inr h => rw [List.getElem?_eq_none (by simpa using h)] at q; cases q
    rw [List.getElem?_set_self hj] at q
    cases q
    exact ⟨v, List.getElem?_set_self (by rw [I.len]; exact hj), r⟩
  · rw [List.getElem?_set_ne (Ne.symm z)] at q
    obtain ⟨u, h1, h2⟩ := I.slots j e q
    exact ⟨u, by rw [List.getElem?_set_ne (Ne.symm z)]; exact h1, h2⟩
end
/-! ### readings by value -/
def VE (c : Ctx) (te : TE) (ρ : Rho) (S : Sto) (F : D → Sto → Prop) : Prop := ∀ T σ H, In c σ H ρ S T → ∀ Q : VK,
  (∀ v d S' T' H', Mv T H T' H' → Cells c.K H' S' T' → Rep c.K H' T' v d → F d S' → Q v H') → te σ H Q
def VT (c : Ctx) (tt : TT) (ρ : Rho) (S : Sto) (F : Bool → Sto → Prop) : Prop := ∀ T σ H, In c σ H ρ S T → ∀ Q : Bool → Hp → Prop,
  (∀ b S' T' H', Mv T H T' H' → Cells c.K H' S' T' → F b S' → Q b H') → tt σ H Q
def VA (c : Ctx) (ta : TA) (ρ : Rho) (S : Sto) (F : List D → Sto → Prop) : Prop := ∀ T σ H, In c σ H ρ S T → ∀ Q : List V → Hp → Prop,
  (∀ vs ds S' T' H', Mv T H T' H' → Cells c.K H' S' T' → RepL c.K H' T' vs ds → F ds S' → Q vs H') → ta σ H Q
def VO (c : Ctx) (to : TO) (ρ : Rho) (S : Sto) (F : Option Int → Sto → Prop) : Prop := ∀ T σ H, In c σ H ρ S T → ∀ Q : Option Int → Hp → Prop,
  (∀ o S' T' H', Mv T H T' H' → Cells c.K H' S' T' → F o S' → Q o H') → to σ H Q
def RU (c : Ctx) (r : V → Hp → VK → Prop) (x : D) (S : Sto) (F : D → Sto → Prop) : Prop := ∀ T u H, Cells c.K H S T → Rep c.K H T u x → ∀ Q : VK,
  (∀ v d S' T' H', Mv T H T' H' → Cells c.K H' S' T' → Rep c.K H' T' v d → F d S' → Q v H') → r u H Q
def RV (c : Ctx) (r : R2) (x y : D) (S : Sto) (F : D → Sto → Prop) : Prop := ∀ T u w H, Cells c.K H S T → Rep c.K H T u x → Rep c.K H T w y → ∀ Q : VK,
  (∀ v d S' T' H', Mv T H T' H' → Cells c.K H' S' T' → Rep c.K H' T' v d → F d S' → Q v H') → r u w H Q
def RC (c : Ctx) (r : List V → Hp → VK → Prop) (ds : List D) (S : Sto) (F : D → Sto → Prop) : Prop := ∀ T us H, Cells c.K H S T → RepL c.K H T us ds → ∀ Q : VK,
  (∀ v d S' T' H', Mv T H T' H' → Cells c.K H' S' T' → Rep c.K H' T' v d → F d S' → Q v H') → r us H Q
def RM (c : Ctx) (r : V → List V → Hp → VK → Prop) (x : D) (ds : List D) (S : Sto) (F : D → Sto → Prop) : Prop := ∀ T u us H, Cells c.K H S T → Rep c.K H T u x → RepL c.K H T us ds → ∀ Q : VK,
  (∀ v d S' T' H', Mv T H T' H' → Cells c.K H' S' T' → Rep c.K H' T' v d → F d S' → Q v H') → r u us H Q
def VG (c : Ctx) (g : TG) (d : D) (ρ : Rho) (S : Sto) (F : Rho → Sto → Prop) : Prop := ∀ T v σ H, In c σ H ρ S T → Rep c.K H T v d → ∀ Q : St → Hp → Prop,
  (∀ σ' ρ' S' T' H', Mv T H T' H' → In c σ' H' ρ' S' T' → F ρ' S' → Q σ' H') → g v σ H Q
/-- what is wanted behind a statement -/
structure Po where
  nx : Rho → Sto → Prop
  rt : D → Sto → Prop
  bk : Rho → Sto → Prop
  ct : Rho → Sto → Prop
structure Bh (c : Ctx) (P : Po) (D : Ends) (T : Sto) (H : Hp) : Prop where
  nx : ∀ σ' ρ' S' T' H', Mv T H T' H' → In c σ' H' ρ' S' T' → P.nx ρ' S' → D.nx σ' H'
  rt : ∀ v d S' T' H', Mv T H T' H' → Cells c.K H' S' T' → Rep c.K H' T' v d → P.rt d S' → D.rt v H'
  bk : ∀ σ' ρ' S' T' H', Mv T H T' H' → In c σ' H' ρ' S' T' → P.bk ρ' S' → D.bk σ' H'
  ct : ∀ σ' ρ' S' T' H', Mv T H T' H' → In c σ' H' ρ' S' T' → P.ct ρ' S' → D.ct σ' H'
theorem Bh.mv {c : Ctx} {P : Po} {D : Ends} {T T' : Sto} {H H' : Hp} (b : Bh c P D T H) (m : Mv T H T' H') : Bh c P D T' H' :=
  ⟨fun σ ρ S2 T2 H2 m2 => b.nx σ ρ S2 T2 H2 (m.trans m2), fun v d S2 T2 H2 m2 => b.rt v d S2 T2 H2 (m.trans m2), fun σ ρ S2 T2 H2 m2 => b.bk σ ρ S2 T2 H2 (m.trans m2), fun σ ρ S2 T2 H2 m2 => b.ct σ ρ S2 T2 H2 (m.trans m2)⟩
def VX (c : Ctx) (t : TS) (ρ : Rho) (S : Sto) (P : Po) : Prop := ∀ T σ H, In c σ H ρ S T → ∀ D : Ends, Bh c P D T H → t D σ H
/-- an iterator: its values one by one -/
def Yl (K : PySem.W.Frag) (J : It) (ds : List D) (T : Sto) (H : Hp) : Prop := ∃ G Y, Walk J ds.length G Y ∧ (∀ T1 H1, Mv T H T1 H1 → G H1) ∧
  ∀ (i : Nat) (d : D) (S1 T1 : Sto) (H1 H2 : Hp) (x : V), ds[i]? = some d → Mv T H T1 H1 → Cells K H1 S1 T1 → Y i H1 x H2 → Mv T1 H1 T1 H2 ∧ Cells K H2 S1 T1 ∧ Rep K H2 T1 x d
def VI (c : Ctx) (wi : TI) (ρ : Rho) (S : Sto) (F : List D → Sto → Prop) : Prop := ∀ T σ H, In c σ H ρ S T → ∀ R : It → Hp → Prop,
  (∀ J ds S' T' H', Mv T H T' H' → Cells c.K H' S' T' → Yl c.K J ds T' H' → F ds S' → R J H') → wi σ H R
end VS
namespace VS
open PySem L2
/-! ### the readings that bear no name in the layer -/
abbrev CR1 := List V → Hp → VK → Prop
abbrev MR1 := V → List V → Hp → VK → Prop
def rAddStr : R2 := fun x y H Q => ∃ i j, x = .str i ∧ y = .str j ∧ i.length + j.length ≤ sizeLine ∧ Q (.str (i ++ j)) H
def rLtStr : R2 := fun x y H Q => ∃ i j, x = .str i ∧ y = .str j ∧ Q (.bl (decide (i.cps.toList < j.cps.toList))) H
def rLeStr : R2 := fun x y H Q => ∃ i j, x = .str i ∧ y = .str j ∧ Q (.bl (!decide (j.cps.toList < i.cps.toList))) H
def rInStr : R2 := fun x y H Q => ∃ i j, x = .str i ∧ y = .str j ∧ Q (.bl (!(Builtin.Str.occurrences j i 0 j.length 1).isEmpty)) H
def rNotInStr : R2 := fun x y H Q => ∃ i j, x = .str i ∧ y = .str j ∧ Q (.bl (!(!(Builtin.Str.occurrences j i 0 j.length 1).isEmpty))) H
def rLen (K : PySem.W.Frag) : CR1 := fun xs H Q => ∃ x n, xs = [x] ∧ LenV K x H n ∧ Q (.int n) H
def rAbs : CR1 := fun xs H Q => ∃ i, xs = [.int i] ∧ Q (.int (if i < 0 then -i else i)) H
def rMax2 : CR1 := fun xs H Q => ∃ i j, xs = [.int i, .int j] ∧ Q (.int (if j > i then j else i)) H
def rMin2 : CR1 := fun xs H Q => ∃ i j, xs = [.int i, .int j] ∧ Q (.int (if j < i then j else i)) H
def rInt1 : CR1 := fun xs H Q => (∃ i, xs = [.int i] ∧ Q (.int i) H) ∨ ∃ k, xs = [.bl k] ∧ Q (.int (if k then 1 else 0)) H
def rStrInt : CR1 := fun xs H Q => ∃ i, xs = [.int i] ∧ i.natAbs.log2 < 1920 ∧ Q (.str (toString i)) H
def rOrd : CR1 := fun xs H Q => ∃ x, xs = [.str x] ∧ x.length = 1 ∧ Q (.int (x.cps.getD 0 0 : Nat)) H
def rListOf (K : PySem.W.Frag) : CR1 := fun xs H Q => ∃ p ys, xs = [.ref p] ∧ (SqL K H p ys ∨ SqT K H p ys) ∧ ∀ l, H l = none → Q (.ref l) (upd H l (.lst ys))
def rTupleOf (K : PySem.W.Frag) : CR1 := fun xs H Q => ∃ p ys, xs = [.ref p] ∧ ((SqL K H p ys ∧ ∀ l, H l = none → Q (.ref l) (upd H l (.tup ys))) ∨ (SqT K H p ys ∧ Q (.ref p) H))
def rIsNo : R2 := fun x y H Q => y = .non ∧ Q (.bl (decide (x = .non))) H
def rNotNo : R2 := fun x y H Q => y = .non ∧ Q (.bl (!decide (x = .non))) H
section
variable {X : Cx}
theorem op_isNo : OpR X (compareOp .Is) rIsNo := op_isN
theorem op_notNo : OpR X (compareOp .IsNot) rNotNo := op_notN
theorem c_len : CallR X (.builtin "len") (rLen X.K) := call_len
theorem c_max2 (hc : X.calm = true) : CallR X (.builtin "max") rMax2 := call_max2 hc
theorem c_min2 (hc : X.calm = true) : CallR X (.builtin "min") rMin2 := call_min2 hc
theorem c_int1 : CallR X (.type "int") rInt1 := call_int1
theorem c_list : CallR X (.type "list") (rListOf X.K) := call_list_of
theorem c_tuple : CallR X (.type "tuple") (rTupleOf X.K) := call_tuple_of
end
section
variable {c : Ctx} {ρ : Rho} {S : Sto} {F : D → Sto → Prop} {d : D}
/-! ### expressions -/
theorem ve_var {i : Nat} (h : ρ[i]? = some (some d)) (q : F d S) : VE c (tVar i) ρ S F := fun T σ H I Q k =>
  let ⟨v, e, r⟩ := I.slots i d h
  ⟨v, e, k v d S T H Mv.refl I.cells r q⟩
theorem ve_int {i : Int} (q : F (.int i) S) : VE c (tC (.int i)) ρ S F := fun T σ H I Q k => k _ _ S T H Mv.refl I.cells (.int i) q
theorem ve_bl {b : Bool} (q : F (.bl b) S) : VE c (tC (.bl b)) ρ S F := fun T σ H I Q k => k _ _ S T H Mv.refl I.cells (.bl b) q
theorem ve_str {x : Str} (q : F (.str x) S) : VE c (tC (.str x)) ρ S F := fun T σ H I Q k => k _ _ S T H Mv.refl I.cells (.str x) q
theorem ve_non (q : F .non S) : VE c (tC .non) ρ S F := fun T σ H I Q k => k _ _ S T H Mv.refl I.cells .non q
theorem ve_ty {n : String} (q : F (.ty n) S) : VE c (tC (.ty n)) ρ S F := fun T σ H I Q k => k _ _ S T H Mv.refl I.cells (.ty n) q
theorem ve_ref {a : Addr} (q : F (.ref a) S) : VE c (tC (.ref a)) ρ S F := fun T σ H I Q k => k _ _ S T H Mv.refl I.cells (.ref a) q
/-- a written thing that is a value at every heap -/
theorem ve_wr {v : V} (h : ∀ H S, Rep c.K H S v d) (q : F d S) : VE c (tC v) ρ S F := fun T σ H I Q k => k _ _ S T H Mv.refl I.cells (h H T) q
theorem ve_op {r : R2} {ta tb : TE} (h : VE c ta ρ S fun x S1 => VE c tb ρ S1 fun y S2 => RV c r x y S2 F) : VE c (tOp r ta tb) ρ S F := fun T σ H I Q k =>
  h T σ H I _ fun vx x S1 T1 H1 m1 c1 r1 h1 => h1 T1 σ H1 (I.mv m1 c1) _ fun vy y S2 T2 H2 m2 c2 r2 h2 => h2 T2 vx vy H2 c2 (r1.mv m2) r2 Q fun v d S3 T3 H3 m3 c3 r3 q => k v d S3 T3 H3 (m1.trans (m2.trans m3)) c3 r3 q
theorem ve_un {r : V → Hp → VK → Prop} {ta : TE} (h : VE c ta ρ S fun x S1 => RU c r x S1 F) : VE c (tUn r ta) ρ S F := fun T σ H I Q k =>
  h T σ H I _ fun vx x S1 T1 H1 m1 c1 r1 h1 => h1 T1 vx H1 c1 r1 Q fun v d S3 T3 H3 m3 c3 r3 q => k v d S3 T3 H3 (m1.trans m3) c3 r3 q
theorem ve_cb {r : CR1} {t : TA} (h : VA c t ρ S fun ds S1 => RC c r ds S1 F) : VE c (tCB r t) ρ S F := fun T σ H I Q k =>
  h T σ H I _ fun us ds S1 T1 H1 m1 c1 r1 h1 => h1 T1 us H1 c1 r1 Q fun v d S3 T3 H3 m3 c3 r3 q => k v d S3 T3 H3 (m1.trans m3) c3 r3 q
theorem va_nil {F : List D → Sto → Prop} (q : F [] S) : VA c tNil ρ S F := fun T σ H I Q k => k _ _ S T H Mv.refl I.cells .nil q
theorem va_cons {F : List D → Sto → Prop} {ta : TE} {t : TA} (h : VE c ta ρ S fun x S1 => VA c t ρ S1 fun xs S2 => F (x :: xs) S2) : VA c (tCons ta t) ρ S F := fun T σ H I Q k =>
  h T σ H I _ fun vx x S1 T1 H1 m1 c1 r1 h1 => h1 T1 σ H1 (I.mv m1 c1) _ fun vs ds S2 T2 H2 m2 c2 r2 h2 => k _ _ S2 T2 H2 (m1.trans m2) c2 (.cons (r1.mv m2) r2) h2
theorem ve_tup {t : TA} (h : VA c t ρ S fun ds S1 => ds.length ≤ sizeLine ∧ F (.tup ds) S1) : VE c (tTup t) ρ S F := fun T σ H I Q k =>
  h T σ H I _ fun us ds S1 T1 H1 m1 c1 r1 ⟨hl, q⟩ => ⟨by rw [r1.length]; exact hl, fun p hp => k _ _ S1 T1 _ (m1.trans (mv_new hp)) (c1.new hp) (.tup (c1.free hp) upd_same (r1.mv (mv_new hp))) q⟩
/-- a list, by value; by reference -/
theorem ve_lst {t : TA} (h : VA c t ρ S fun ds S1 => ds.length ≤ sizeLine ∧ F (.lst ds) S1) : VE c (tLst t) ρ S F := fun T σ H I Q k =>
  h T σ H I _ fun us ds S1 T1 H1 m1 c1 r1 ⟨hl, q⟩ => ⟨by rw [r1.length]; exact hl, fun p hp => k _ _ S1 T1 _ (m1.trans (mv_new hp)) (c1.new hp) (.lst (c1.free hp) upd_same (r1.mv (mv_new hp))) q⟩
theorem ve_lstc {t : TA} (h : VA c t ρ S fun ds S1 => ds.length ≤ sizeLine ∧ ∀ p, S1 p = none → F (.ref p) (put S1 p (.lst ds))) : VE c (tLst t) ρ S F := fun T σ H I Q k =>
  h T σ H I _ fun us ds S1 T1 H1 m1 c1 r1 ⟨hl, q⟩ => ⟨by rw [r1.length]; exact hl, fun p hp => k _ _ _ _ _ (m1.trans (mv_newc hp)) (c1.newc hp (cell_l upd_same (r1.mv (mv_newc hp)))) (.ref p) (q p (c1.freeS hp))⟩
theorem ve_if {t : TT} {ta tb : TE} (h : VT c t ρ S fun b S1 => (b = true → VE c ta ρ S1 F) ∧ (b = false → VE c tb ρ S1 F)) : VE c (tIf t ta tb) ρ S F := fun T σ H I Q k =>
  h T σ H I _ fun b S1 T1 H1 m1 c1 ⟨h1, h2⟩ => by
    cases b with
    | true => exact iteT (h1 rfl T1 σ H1 (I.mv m1 c1) Q fun v d S3 T3 H3 m3 => k v d S3 T3 H3 (m1.trans m3))
    | false => exact iteF (h2 rfl T1 σ H1 (I.mv m1 c1) Q fun v d S3 T3 H3 m3 => k v d S3 T3 H3 (m1.trans m3))
theorem ve_andV {ta tb : TE} (h : VE c ta ρ S fun x S1 => ∃ b, x = .bl b ∧ (b = true → VE c tb ρ S1 F) ∧ (b = false → F (.bl false) S1)) : VE c (tAndV ta tb) ρ S F := fun T σ H I Q k =>
  h T σ H I _ fun vx x S1 T1 H1 m1 c1 r1 ⟨b, e, h1, h2⟩ => by
    subst e
    cases r1
    refine ⟨b, rfl, ?_⟩
    cases b with
    | true => exact iteT (h1 rfl T1 σ H1 (I.mv m1 c1) Q fun v d S3 T3 H3 m3 => k v d S3 T3 H3 (m1.trans m3))
    | false => exact iteF (k _ _ S1 T1 H1 m1 c1 (.bl false) (h2 rfl))
theorem ve_orV {ta tb : TE} (h : VE c ta ρ S fun x S1 => ∃ b, x = .bl b ∧ (b = false → VE c tb ρ S1 F) ∧ (b = true → F (.bl true) S1)) : VE c (tOrV ta tb) ρ S F := fun T σ H I Q k =>
  h T σ H I _ fun vx x S1 T1 H1 m1 c1 r1 ⟨b, e, h1, h2⟩ => by
    subst e
    cases r1
    refine ⟨b, rfl, ?_⟩
    cases b with
    | true => exact iteT (k _ _ S1 T1 H1 m1 c1 (.bl true) (h2 rfl))
    | false => exact iteF (h1 rfl T1 σ H1 (I.mv m1 c1) Q fun v d S3 T3 H3 m3 => k v d S3 T3 H3 (m1.trans m3))
theorem ve_notV {ta : TE} (h : VE c ta ρ S fun x S1 => ∃ b, x = .bl b ∧ F (.bl (!b)) S1) : VE c (tNotV ta) ρ S F := fun T σ H I Q k =>
  h T σ H I _ fun vx x S1 T1 H1 m1 c1 r1 ⟨b, e, h1⟩ => by
    subst e
    cases r1
    exact ⟨b, rfl, k _ _ S1 T1 H1 m1 c1 (.bl _) h1⟩
theorem ve_chain {r r' : R2} {ta tb tc : TE} (h : VE c ta ρ S fun x S1 => VE c tb ρ S1 fun y S2 => RV c r x y S2 fun z S3 => ∃ k, z = .bl k ∧ (k = true → VE c tc ρ S3 fun w S4 => RV c r' y w S4 F) ∧ (k = false → F (.bl false) S3)) : VE c (tChain r r' ta tb tc) ρ S F := fun T σ H I Q k =>
  h T σ H I _ fun vx x S1 T1 H1 m1 c1 r1 h1 => h1 T1 σ H1 (I.mv m1 c1) _ fun vy y S2 T2 H2 m2 c2 r2 h2 => h2 T2 vx vy H2 c2 (r1.mv m2) r2 _ fun v d S3 T3 H3 m3 c3 r3 ⟨b, e, q1, q2⟩ => by
    subst e
    cases r3
    refine ⟨b, rfl, ?_⟩
    cases b with
    | true => exact iteT (q1 rfl T3 σ H3 (I.mv (m1.trans (m2.trans m3)) c3) _ fun vw w S4 T4 H4 m4 c4 r4 h4 => h4 T4 vy vw H4 c4 (r2.mv (m3.trans m4)) r4 Q fun v d S5 T5 H5 m5 => k v d S5 T5 H5 (m1.trans (m2.trans (m3.trans (m4.trans m5)))))
    | false => exact iteF (k _ _ S3 T3 H3 (m1.trans (m2.trans m3)) c3 (.bl false) (q2 rfl))
/-! ### tests -/
variable {G : Bool → Sto → Prop}
theorem vt_test {t : TE} (h : VE c t ρ S fun x S1 => ∃ b, x = .bl b ∧ G b S1) : VT c (tTest t) ρ S G := fun T σ H I Q k =>
  h T σ H I _ fun vx x S1 T1 H1 m1 c1 r1 ⟨b, e, h1⟩ => by
    subst e
    cases r1
    exact ⟨b, rfl, k b S1 T1 H1 m1 c1 h1⟩
theorem vt_B {t : TE} (h : VE c t ρ S fun x S1 => ∃ b, x = .bl b ∧ G b S1) : VT c (tB t) ρ S G := vt_test h
theorem vt_and {t u : TT} (h : VT c t ρ S fun b S1 => (b = true → VT c u ρ S1 G) ∧ (b = false → G false S1)) : VT c (tAnd t u) ρ S G := fun T σ H I Q k =>
  h T σ H I _ fun b S1 T1 H1 m1 c1 ⟨h1, h2⟩ => by
    cases b with
    | true => exact iteT (h1 rfl T1 σ H1 (I.mv m1 c1) Q fun b S3 T3 H3 m3 => k b S3 T3 H3 (m1.trans m3))
    | false => exact iteF (k false S1 T1 H1 m1 c1 (h2 rfl))
theorem vt_or {t u : TT} (h : VT c t ρ S fun b S1 => (b = true → G true S1) ∧ (b = false → VT c u ρ S1 G)) : VT c (tOr t u) ρ S G := fun T σ H I Q k =>
  h T σ H I _ fun b S1 T1 H1 m1 c1 ⟨h1, h2⟩ => by
    cases b with
    | true => exact iteT (k true S1 T1 H1 m1 c1 (h1 rfl))
    | false => exact iteF (h2 rfl T1 σ H1 (I.mv m1 c1) Q fun b S3 T3 H3 m3 => k b S3 T3 H3 (m1.trans m3))
theorem vt_not {t : TT} (h : VT c t ρ S fun b S1 => G (!b) S1) : VT c (tNot t) ρ S G := fun T σ H I Q k => h T σ H I _ fun b S1 T1 H1 m1 c1 h1 => k _ S1 T1 H1 m1 c1 h1
theorem vt_yes (h : G true S) : VT c tYes ρ S G := fun T σ H I Q k => k true S T H Mv.refl I.cells h
/-! ### weaker ends -/
theorem VE.imp {F' : D → Sto → Prop} {te : TE} (h : VE c te ρ S F) (i : ∀ d S, F d S → F' d S) : VE c te ρ S F' := fun T σ H I Q k => h T σ H I Q fun v d S' T' H' m cl r q => k v d S' T' H' m cl r (i _ _ q)
theorem VT.imp {G' : Bool → Sto → Prop} {te : TT} (h : VT c te ρ S G) (i : ∀ d S, G d S → G' d S) : VT c te ρ S G' := fun T σ H I Q k => h T σ H I Q fun v S' T' H' m cl q => k v S' T' H' m cl (i _ _ q)
/-! ### what a list is to be read of -/
inductive IsL (S : Sto) : D → List D → Prop
  | v {ds : List D} : IsL S (.lst ds) ds
  | r {ds : List D} : IsL S (.rol ds) ds
  | c {l : Addr} {ds : List D} (h : S l = some (.lst ds)) : IsL S (.ref l) ds
theorem IsL.rd {K : PySem.W.Frag} {H : Hp} {T : Sto} {x : D} {ds : List D} {u : V} (h : IsL S x ds) (cl : Cells K H S T) (r : Rep K H T u x) : ∃ a xs, u = .ref a ∧ SqL K H a xs ∧ RepL K H T xs ds := by
  cases h with
  | v => obtain ⟨a, xs, e, s, h, r⟩ := r.seqL; exact ⟨a, xs, e, .of h, r⟩
  | r => obtain ⟨a, xs, e, h, r⟩ := r.seqR; exact ⟨a, xs, e, h _ _ Mv.refl, r⟩
  | c h => cases r; obtain ⟨xs, h1, r⟩ := cl.ok _ _ (cl.at h); exact ⟨_, xs, rfl, .of h1, r⟩
/-- a list that may be added to another one -/
inductive IsA (S : Sto) : D → List D → Prop
  | v {ds : List D} : IsA S (.lst ds) ds
  | c {l : Addr} {ds : List D} (h : S l = some (.lst ds)) : IsA S (.ref l) ds
theorem IsA.rd {K : PySem.W.Frag} {H : Hp} {T : Sto} {x : D} {ds : List D} {u : V} (h : IsA S x ds) (cl : Cells K H S T) (r : Rep K H T u x) : ∃ a xs, u = .ref a ∧ H a = some (.lst xs) ∧ RepL K H T xs ds := by
  cases h with
  | v => obtain ⟨a, xs, e, s, h, r⟩ := r.seqL; exact ⟨a, xs, e, h, r⟩
  | c h => cases r; obtain ⟨xs, h1, r⟩ := cl.ok _ _ (cl.at h); exact ⟨_, xs, rfl, h1, r⟩
inductive IsQ (S : Sto) : D → List D → Prop
  | l {x : D} {ds : List D} (h : IsL S x ds) : IsQ S x ds
  | t {ds : List D} : IsQ S (.tup ds) ds
theorem IsQ.rd {K : PySem.W.Frag} {H : Hp} {T : Sto} {x : D} {ds : List D} {u : V} (h : IsQ S x ds) (cl : Cells K H S T) (r : Rep K H T u x) : ∃ a xs, u = .ref a ∧ (SqL K H a xs ∨ SqT K H a xs) ∧ RepL K H T xs ds := by
  cases h with
  | l h => obtain ⟨a, xs, e, s, r⟩ := h.rd cl r; exact ⟨a, xs, e, .inl s, r⟩
  | t => obtain ⟨a, xs, e, s, r⟩ := r.seqT; exact ⟨a, xs, e, .inr s, r⟩
/-! ### operations by value -/
theorem rv_II {g : Int → Int → Int} {i j : Int} (q : F (.int (g i j)) S) : RV c (rI0 fun i j => .int (g i j)) (.int i) (.int j) S F := fun T u w H cl r1 r2 Q k => by
  cases r1; cases r2; exact ⟨i, j, rfl, rfl, k _ _ S T H Mv.refl cl (.int _) q⟩
theorem rv_IB {g : Int → Int → Bool} {i j : Int} (q : F (.bl (g i j)) S) : RV c (rI0 fun i j => .bl (g i j)) (.int i) (.int j) S F := fun T u w H cl r1 r2 Q k => by
  cases r1; cases r2; exact ⟨i, j, rfl, rfl, k _ _ S T H Mv.refl cl (.bl _) q⟩
theorem rv_IC {C : Int → Int → Prop} {g : Int → Int → Int} {i j : Int} (hc : C i j) (q : F (.int (g i j)) S) : RV c (rI C fun i j => .int (g i j)) (.int i) (.int j) S F := fun T u w H cl r1 r2 Q k => by
  cases r1; cases r2; exact ⟨i, j, rfl, rfl, hc, k _ _ S T H Mv.refl cl (.int _) q⟩
theorem ru_I {g : Int → Int} {i : Int} (q : F (.int (g i)) S) : RU c (rU fun i => .int (g i)) (.int i) S F := fun T u H cl r1 Q k => by
  cases r1; exact ⟨i, rfl, k _ _ S T H Mv.refl cl (.int _) q⟩
/-- == and != of ints, texts, truths, None -/
def sEq : D → D → Option Bool
  | .int i, .int j => some (decide (i = j))
  | .str i, .str j => some (decide (i = j))
  | .bl i, .bl j => some (decide (i = j))
  | .non, .non => some true
  | .non, .int _ => some false | .int _, .non => some false | .non, .bl _ => some false | .bl _, .non => some false
  | .non, .str _ => some false | .str _, .non => some false | .int _, .str _ => some false | .str _, .int _ => some false
  | .bl _, .str _ => some false | .str _, .bl _ => some false
  | _, _ => none
theorem sEq_ok {K : PySem.W.Frag} {H : Hp} {x y : D} {u w : V} {b : Bool} (h : sEq x y = some b) (r1 : Rep K H S u x) (r2 : Rep K H S w y) : scal u w = true ∧ decide (u = w) = b := by
  cases r1 <;> cases r2 <;> first | (cases h; done) | (cases h; refine ⟨rfl, ?_⟩; first | rfl | simp)
theorem rv_eq {x y : D} {b : Bool} (h : sEq x y = some b) (q : F (.bl b) S) : RV c rEq x y S F := fun T u w H cl r1 r2 Q k => by
  obtain ⟨h1, h2⟩ := sEq_ok h r1 r2
  exact ⟨h1, by rw [h2]; exact k _ _ S T H Mv.refl cl (.bl _) q⟩
theorem rv_ne {x y : D} {b : Bool} (h : sEq x y = some b) (q : F (.bl (!b)) S) : RV c rNe x y S F := fun T u w H cl r1 r2 Q k => by
  obtain ⟨h1, h2⟩ := sEq_ok h r1 r2
  exact ⟨h1, by rw [h2]; exact k _ _ S T H Mv.refl cl (.bl _) q⟩
def isNoD : D → Bool
  | .non => true
  | _ => false
theorem isNo_ok {K : PySem.W.Frag} {H : Hp} {x : D} {u : V} (r : Rep K H S u x) : decide (u = V.non) = isNoD x := by
  cases r <;> first | rfl | (show decide _ = false; simp)
theorem rv_isNo {x : D} (q : F (.bl (isNoD x)) S) : RV c rIsNo x .non S F := fun T u w H cl r1 r2 Q k => by
  cases r2; exact ⟨rfl, by rw [isNo_ok r1]; exact k _ _ S T H Mv.refl cl (.bl _) q⟩
theorem rv_notNo {x : D} (q : F (.bl (!isNoD x)) S) : RV c rNotNo x .non S F := fun T u w H cl r1 r2 Q k => by
  cases r2; exact ⟨rfl, by rw [isNo_ok r1]; exact k _ _ S T H Mv.refl cl (.bl _) q⟩
theorem RepL.at {K : PySem.W.Frag} {H : Hp} {xs : List V} {ds : List D} {i : Int} (r : RepL K H S xs ds) (h : atI ds i = some d) : ∃ v, atI xs i = some v ∧ Rep K H S v d := by
  unfold atI at h ⊢
  rw [r.length]
  cases e : ixN ds.length i with
  | none => rw [e] at h; cases h
  | some j => rw [e] at h; exact r.get h
theorem rv_ixL {x : D} {ds : List D} {i : Int} (h : IsL S x ds) (e : atI ds i = some d) (q : F d S) : RV c (rIxL c.K) x (.int i) S F := fun T u w H cl r1 r2 Q k => by
  cases r2
  obtain ⟨a, xs, rfl, s, r⟩ := h.rd cl r1
  obtain ⟨v, h1, h2⟩ := r.at e
  exact ⟨a, xs, i, v, rfl, rfl, s, h1, k _ _ S T H Mv.refl cl h2 q⟩
theorem rv_ixT {ds : List D} {i : Int} (e : atI ds i = some d) (q : F d S) : RV c (rIxT c.K) (.tup ds) (.int i) S F := fun T u w H cl r1 r2 Q k => by
  cases r2
  obtain ⟨a, xs, rfl, s, r⟩ := r1.seqT
  obtain ⟨v, h1, h2⟩ := r.at e
  exact ⟨a, xs, i, v, rfl, rfl, s, h1, k _ _ S T H Mv.refl cl h2 q⟩
theorem rv_addS {x y : Str} (h : x.length + y.length ≤ sizeLine) (q : F (.str (x ++ y)) S) : RV c rAddStr (.str x) (.str y) S F := fun T u w H cl r1 r2 Q k => by
  cases r1; cases r2; exact ⟨x, y, rfl, rfl, h, k _ _ S T H Mv.refl cl (.str _) q⟩
theorem rv_ltS {x y : Str} (q : F (.bl (decide (x.cps.toList < y.cps.toList))) S) : RV c rLtStr (.str x) (.str y) S F := fun T u w H cl r1 r2 Q k => by
  cases r1; cases r2; exact ⟨x, y, rfl, rfl, k _ _ S T H Mv.refl cl (.bl _) q⟩
theorem rv_leS {x y : Str} (q : F (.bl (!decide (y.cps.toList < x.cps.toList))) S) : RV c rLeStr (.str x) (.str y) S F := fun T u w H cl r1 r2 Q k => by
  cases r1; cases r2; exact ⟨x, y, rfl, rfl, k _ _ S T H Mv.refl cl (.bl _) q⟩
theorem found_one (x : Str) (n : Nat) : (!(Builtin.Str.occurrences x ⟨#[n]⟩ 0 x.length 1).isEmpty) = decide (n ∈ x.cps.toList) := StrLaws.found_one x n
theorem rv_inS {n : Nat} {y : Str} (q : F (.bl (decide (n ∈ y.cps.toList))) S) : RV c rInStr (.str ⟨#[n]⟩) (.str y) S F := fun T u w H cl r1 r2 Q k => by
  cases r1; cases r2; exact ⟨_, y, rfl, rfl, by rw [found_one]; exact k _ _ S T H Mv.refl cl (.bl _) q⟩
theorem rv_notInS {n : Nat} {y : Str} (q : F (.bl (!decide (n ∈ y.cps.toList))) S) : RV c rNotInStr (.str ⟨#[n]⟩) (.str y) S F := fun T u w H cl r1 r2 Q k => by
  cases r1; cases r2; exact ⟨_, y, rfl, rfl, by rw [found_one]; exact k _ _ S T H Mv.refl cl (.bl _) q⟩
theorem rv_cat {x y : D} {ds es : List D} (h1 : IsA S x ds) (h2 : IsA S y es) (hl : ds.length + es.length ≤ sizeLine) (q : F (.lst (ds ++ es)) S) : RV c rCat x y S F := fun T u w H cl r1 r2 Q k => by
  obtain ⟨a, xs, rfl, s, r⟩ := h1.rd cl r1
  obtain ⟨b, zs, rfl, s', r'⟩ := h2.rd cl r2
  exact ⟨a, b, xs, zs, rfl, rfl, s, s', by rw [r.length, r'.length]; exact hl, fun p hp => k _ _ S T _ (mv_new hp) (cl.new hp) (.lst (cl.free hp) upd_same ((r.append r').mv (mv_new hp))) q⟩
/-! ### calls of built-ins -/
theorem rc_lenQ {x : D} {ds : List D} (h : IsQ S x ds) (q : F (.int ds.length) S) : RC c (rLen c.K) [x] S F := fun T us H cl r Q k => by
  cases r with
  | cons h1 t =>
    cases t
    obtain ⟨a, xs, rfl, s, r⟩ := h.rd cl h1
    refine ⟨_, ds.length, rfl, ?_, k _ _ S T H Mv.refl cl (.int _) q⟩
    rcases s with s | s
    · exact .inl ⟨xs, s, r.length.symm⟩
    · exact .inr ⟨xs, s, r.length.symm⟩
theorem rc_lenS {x : Str} (h : x.length ≤ sizeLine) (q : F (.int x.length) S) : RC c (rLen c.K) [.str x] S F := fun T us H cl r Q k => by
  cases r with
  | cons h1 t => cases t; cases h1; exact ⟨_, _, rfl, ⟨h, rfl⟩, k _ _ S T H Mv.refl cl (.int _) q⟩
theorem rc_abs {i : Int} (q : F (.int (if i < 0 then -i else i)) S) : RC c rAbs [.int i] S F := fun T us H cl r Q k => by
  cases r with
  | cons h1 t => cases t; cases h1; exact ⟨_, rfl, k _ _ S T H Mv.refl cl (.int _) q⟩
theorem rc_max2 {i j : Int} (q : F (.int (if j > i then j else i)) S) : RC c rMax2 [.int i, .int j] S F := fun T us H cl r Q k => by
  cases r with
  | cons h1 t => cases t with
    | cons h2 t => cases t; cases h1; cases h2; exact ⟨_, _, rfl, k _ _ S T H Mv.refl cl (.int _) q⟩
theorem rc_min2 {i j : Int} (q : F (.int (if j < i then j else i)) S) : RC c rMin2 [.int i, .int j] S F := fun T us H cl r Q k => by
  cases r with
  | cons h1 t => cases t with
    | cons h2 t => cases t; cases h1; cases h2; exact ⟨_, _, rfl, k _ _ S T H Mv.refl cl (.int _) q⟩
theorem rc_int {i : Int} (q : F (.int i) S) : RC c rInt1 [.int i] S F := fun T us H cl r Q k => by
  cases r with
  | cons h1 t => cases t; cases h1; exact .inl ⟨_, rfl, k _ _ S T H Mv.refl cl (.int _) q⟩
theorem rc_intB {b : Bool} (q : F (.int (if b then 1 else 0)) S) : RC c rInt1 [.bl b] S F := fun T us H cl r Q k => by
  cases r with
  | cons h1 t => cases t; cases h1; exact .inr ⟨_, rfl, k _ _ S T H Mv.refl cl (.int _) q⟩
theorem rc_strI {i : Int} (h : i.natAbs.log2 < 1920) (q : F (.str (toString i)) S) : RC c rStrInt [.int i] S F := fun T us H cl r Q k => by
  cases r with
  | cons h1 t => cases t; cases h1; exact ⟨_, rfl, h, k _ _ S T H Mv.refl cl (.str _) q⟩
theorem rc_ord {n : Nat} (q : F (.int n) S) : RC c rOrd [.str ⟨#[n]⟩] S F := fun T us H cl r Q k => by
  cases r with
  | cons h1 t => cases t; cases h1; exact ⟨_, rfl, rfl, k _ _ S T H Mv.refl cl (.int _) q⟩
theorem rc_list {x : D} {ds : List D} (h : IsQ S x ds) (q : F (.lst ds) S) : RC c (rListOf c.K) [x] S F := fun T us H cl r Q k => by
  cases r with
  | cons h1 t =>
    cases t
    obtain ⟨a, xs, rfl, s, r⟩ := h.rd cl h1
    exact ⟨a, xs, rfl, s, fun p hp => k _ _ S T _ (mv_new hp) (cl.new hp) (.lst (cl.free hp) upd_same (r.mv (mv_new hp))) q⟩
theorem rc_tupleL {x : D} {ds : List D} (h : IsL S x ds) (q : F (.tup ds) S) : RC c (rTupleOf c.K) [x] S F := fun T us H cl r Q k => by
  cases r with
  | cons h1 t =>
    cases t
    obtain ⟨a, xs, rfl, s, r⟩ := h.rd cl h1
    exact ⟨a, xs, rfl, .inl ⟨s, fun p hp => k _ _ S T _ (mv_new hp) (cl.new hp) (.tup (cl.free hp) upd_same (r.mv (mv_new hp))) q⟩⟩
theorem rc_all {bs : List Bool} {x : D} (h : IsL S x (bs.map D.bl)) (q : F (.bl (bs.all id)) S) : RC c (rAll c.K) [x] S F := fun T us H cl r Q k => by
  cases r with
  | cons h1 t =>
    cases t
    obtain ⟨a, xs, rfl, s, r⟩ := h.rd cl h1
    have e := r.bls
    subst e
    exact ⟨a, bs, rfl, s, k _ _ S T H Mv.refl cl (.bl _) q⟩
/-- isinstance by a built-in class -/
inductive TyS (S : Sto) : D → String → Prop
  | non : TyS S .non "NoneType" | bl (b : Bool) : TyS S (.bl b) "bool" | int (i : Int) : TyS S (.int i) "int" | str (x : Str) : TyS S (.str x) "str"
  | rol (ds : List D) : TyS S (.rol ds) "list" | lst (ds : List D) : TyS S (.lst ds) "list" | tup (ds : List D) : TyS S (.tup ds) "tuple" | dK (ds : List (Key × D)) : TyS S (.dK ds) "dict"
  | cl {l : Addr} {ds : List D} (h : S l = some (.lst ds)) : TyS S (.ref l) "list" | cd {l : Addr} {ds : List (Key × D)} (h : S l = some (.dK ds)) : TyS S (.ref l) "dict"
theorem TyS.ok {K : PySem.W.Frag} {H : Hp} {T : Sto} {x : D} {n : String} {u : V} (t : TyS S x n) (cl : Cells K H S T) (r : Rep K H T u x) : TyX K H u (.type n) := by
  cases t with
  | non => cases r; exact .base .non
  | bl => cases r; exact .base (.bl _)
  | int => cases r; exact .base (.int _)
  | str => cases r; exact .base (.str _)
  | rol =>
    cases r with
    | rol _ h _ => exact .base (.frz h)
    | rolK h _ => obtain ⟨o, its, n, h1, h2, _⟩ := h; exact .kList h1 h2
  | lst => cases r with | lst _ h _ => exact .base (.lst h)
  | tup =>
    cases r with
    | tup _ h _ => exact .base (.tup h)
    | tupK h _ => obtain ⟨o, its, n, h1, h2, _⟩ := h; exact .kTuple h1 h2
  | dK => cases r with | dK _ h _ => exact h.elim (fun h => .base (.dK h)) fun ⟨_, h⟩ => .fDict h
  | cl h => cases r; obtain ⟨xs, h1, _⟩ := cl.ok _ _ (cl.at h); exact .base (.lst h1)
  | cd h => cases r; obtain ⟨xs, h1, _⟩ := cl.ok _ _ (cl.at h); exact .base (.dK h1)
theorem rc_isi {x : D} {n N : String} {b : Bool} (t : TyS S x n) (h : kitB n N = some b) (q : F (.bl b) S) : RC c (rIsiZ c.K) [x, .ty N] S F := fun T us H cl r Q k => by
  cases r with
  | cons h1 r => cases r with
    | cons h2 r =>
      cases r
      cases h2
      exact ⟨_, _, _, _, b, rfl, .ty N, TyZ.x (t.ok cl h1), kit_ty h, k _ _ S T H Mv.refl cl (.bl _) q⟩
/-! ### methods of built-ins -/
theorem ve_m1 {r : MR1} {to te : TE} (h : VE c to ρ S fun x S1 => ∃ z, x = .str z ∧ VE c te ρ S1 fun y S2 => RM c r (.str z) [y] S2 F) : VE c (tM1 r to te) ρ S F := fun T σ H I Q k =>
  h T σ H I _ fun vx x S1 T1 H1 m1 c1 r1 ⟨z, e, h1⟩ => by
    subst e
    cases r1
    exact ⟨⟨z, rfl⟩, h1 T1 σ H1 (I.mv m1 c1) _ fun vy y S2 T2 H2 m2 c2 r2 h2 => h2 T2 _ _ H2 c2 (.str z) (.cons r2 .nil) Q fun v d S3 T3 H3 m3 c3 r3 q => k v d S3 T3 H3 (m1.trans (m2.trans m3)) c3 r3 q⟩
theorem ve_m0 {r : MR1} {to : TE} (h : VE c to ρ S fun x S1 => ∃ z, x = .str z ∧ RM c r (.str z) [] S1 F) : VE c (tM0 r to) ρ S F := fun T σ H I Q k =>
  h T σ H I _ fun vx x S1 T1 H1 m1 c1 r1 ⟨z, e, h1⟩ => by
    subst e
    cases r1
    exact ⟨⟨z, rfl⟩, h1 T1 _ _ H1 c1 (.str z) .nil Q fun v d S3 T3 H3 m3 c3 r3 q => k v d S3 T3 H3 (m1.trans m3) c3 r3 q⟩
/-- a method of a list that is known by reference -/
theorem ve_bm {r : MR1} {to : TE} {t : TA} (h : VE c to ρ S fun x S1 => ∃ l ds, x = .ref l ∧ S1 l = some (.lst ds) ∧ VA c t ρ S1 fun es S2 => RM c r (.ref l) es S2 F) : VE c (tBM c.K "list" r to t) ρ S F := fun T σ H I Q k =>
  h T σ H I _ fun vx x S1 T1 H1 m1 c1 r1 ⟨l, ds, e, hl, h1⟩ => by
    subst e
    cases r1
    obtain ⟨xs, hx, _⟩ := c1.ok _ _ (c1.at hl)
    exact ⟨.inl ⟨rfl, xs, .of hx⟩, h1 T1 σ H1 (I.mv m1 c1) _ fun vs es S2 T2 H2 m2 c2 r2 h2 => h2 T2 _ vs H2 c2 (.ref l) r2 Q fun v d S3 T3 H3 m3 c3 r3 q => k v d S3 T3 H3 (m1.trans (m2.trans m3)) c3 r3 q⟩
theorem ve_bm0 {r : MR1} {to : TE} (h : VE c to ρ S fun x S1 => ∃ l ds, x = .ref l ∧ S1 l = some (.lst ds) ∧ RM c r (.ref l) [] S1 F) : VE c (tBM0 c.K "list" r to) ρ S F := fun T σ H I Q k =>
  h T σ H I _ fun vx x S1 T1 H1 m1 c1 r1 ⟨l, ds, e, hl, h1⟩ => by
    subst e
    cases r1
    obtain ⟨xs, hx, _⟩ := c1.ok _ _ (c1.at hl)
    exact ⟨.inl ⟨rfl, xs, .of hx⟩, h1 T1 _ _ H1 c1 (.ref l) .nil Q fun v d S3 T3 H3 m3 c3 r3 q => k v d S3 T3 H3 (m1.trans m3) c3 r3 q⟩
theorem rm_append {l : Addr} {ds : List D} {x : D} (h : S l = some (.lst ds)) (hl : ds.length < sizeLine) (q : F .non (put S l (.lst (ds ++ [x])))) : RM c rAppend (.ref l) [x] S F := fun T u us H cl r1 r2 Q k => by
  cases r1
  cases r2 with
  | cons h1 t =>
    cases t
    obtain ⟨xs, hx, r⟩ := cl.ok _ _ (cl.at h)
    exact ⟨l, xs, _, rfl, rfl, hx, by rw [r.length]; exact hl, k _ _ _ _ _ (mv_wr (cl.at h)) (cl.wr (cl.at h) (cell_l upd_same ((r.append (.cons h1 .nil)).mv (mv_wr (cl.at h))))) .non q⟩
/-! ### slices -/
theorem vo_none {F : Option Int → Sto → Prop} (q : F none S) : VO c tNoPart ρ S F := fun T σ H I Q k => k none S T H Mv.refl I.cells q
theorem vo_some {F : Option Int → Sto → Prop} {te : TE} (h : VE c te ρ S fun x S1 => ∃ i, x = .int i ∧ F (some i) S1) : VO c (tPart te) ρ S F := fun T σ H I Q k =>
  h T σ H I _ fun vx x S1 T1 H1 m1 c1 r1 ⟨i, e, q⟩ => by
    subst e
    cases r1
    exact ⟨i, rfl, k _ S1 T1 H1 m1 c1 q⟩
def RS (c : Ctx) (r : V → Option Int → Option Int → Hp → VK → Prop) (x : D) (lo hi : Option Int) (S : Sto) (F : D → Sto → Prop) : Prop := ∀ T u H, Cells c.K H S T → Rep c.K H T u x → ∀ Q : VK,
  (∀ v d S' T' H', Mv T H T' H' → Cells c.K H' S' T' → Rep c.K H' T' v d → F d S' → Q v H') → r u lo hi H Q
theorem ve_sl {r : V → Option Int → Option Int → Hp → VK → Prop} {te : TE} {tl th : TO} (h : VE c te ρ S fun x S1 => VO c tl ρ S1 fun lo S2 => VO c th ρ S2 fun hi S3 => RS c r x lo hi S3 F) : VE c (tSl r te tl th) ρ S F := fun T σ H I Q k =>
  h T σ H I _ fun vx x S1 T1 H1 m1 c1 r1 h1 => h1 T1 σ H1 (I.mv m1 c1) _ fun lo S2 T2 H2 m2 c2 h2 => h2 T2 σ H2 (I.mv (m1.trans m2) c2) _ fun hi S3 T3 H3 m3 c3 h3 => h3 T3 vx H3 c3 (r1.mv (m2.trans m3)) Q fun v d S4 T4 H4 m4 => k v d S4 T4 H4 (m1.trans (m2.trans (m3.trans m4)))
theorem rs_str {z : Str} {lo hi : Option Int} (hz : z.length ≤ sizeLine) (q : F (.str (cutS z lo hi)) S) : RS c rSlS (.str z) lo hi S F := fun T u H cl r Q k => by
  cases r; exact ⟨z, rfl, hz, k _ _ S T H Mv.refl cl (.str _) q⟩
def cutD (xs : List D) (lo hi : Option Int) : List D := (xs.drop (HT.sIx xs.length 0 lo)).take (HT.sIx xs.length xs.length hi - HT.sIx xs.length 0 lo)
theorem RepL.cut {K : PySem.W.Frag} {H : Hp} {xs : List V} {ds : List D} (r : RepL K H S xs ds) (lo hi : Option Int) : RepL K H S (cutV xs lo hi) (cutD ds lo hi) := by
  unfold cutV cutD
  rw [r.length]
  exact (r.drop _).take _
theorem rs_list {x : D} {ds : List D} {lo hi : Option Int} (h : IsL S x ds) (q : F (.lst (cutD ds lo hi)) S) : RS c (rSlL c.K) x lo hi S F := fun T u H cl r Q k => by
  obtain ⟨a, xs, rfl, s, r⟩ := h.rd cl r
  exact ⟨a, xs, rfl, s, fun p hp => k _ _ S T _ (mv_new hp) (cl.new hp) (.lst (cl.free hp) upd_same ((r.cut lo hi).mv (mv_new hp))) q⟩
/-! ### calls of defs -/
/-- a def's promise by value: from the arguments and what is known by reference to what is wanted of the value, of an exception -/
abbrev Pt := List D → Sto → (D → Sto → Prop) → (Addr → List (Str × D) → Sto → Prop) → Prop
def spOf (K : PySem.W.Frag) (p : Pt) : Sp := fun vs H Q E => ∃ ds S T F Y, RepL K H T vs ds ∧ Cells K H S T ∧ p ds S F Y ∧
  (∀ v d S' T' H', Mv T H T' H' → Cells K H' S' T' → Rep K H' T' v d → F d S' → Q v H') ∧
  (∀ (C : Addr) (x : Option Addr) (fs : List (Str × D)) (S' T' : Sto) (H' : Hp), Mv T H T' H' → Cells K H' S' T' → XRep K H' T' x fs → Y C fs S' → E (.ref C) x H')
abbrev noY : Addr → List (Str × D) → Sto → Prop := fun _ _ _ => False
/-! ### statements -/
variable {P : Po}
theorem vx_next {nx bk ct : Rho → Sto → Prop} {rt : D → Sto → Prop} (q : nx ρ S) : VX c tNext ρ S ⟨nx, rt, bk, ct⟩ := fun T σ H I D b => b.nx σ ρ S T H Mv.refl I q
theorem vx_break {nx bk ct : Rho → Sto → Prop} {rt : D → Sto → Prop} (q : bk ρ S) : VX c tBreak ρ S ⟨nx, rt, bk, ct⟩ := fun T σ H I D b => b.bk σ ρ S T H Mv.refl I q
theorem vx_cont {nx bk ct : Rho → Sto → Prop} {rt : D → Sto → Prop} (q : ct ρ S) : VX c tCont ρ S ⟨nx, rt, bk, ct⟩ := fun T σ H I D b => b.ct σ ρ S T H Mv.refl I q
theorem vx_seq {t u : TS} {nx bk ct : Rho → Sto → Prop} {rt : D → Sto → Prop} (h : VX c t ρ S ⟨fun ρ1 S1 => VX c u ρ1 S1 ⟨nx, rt, bk, ct⟩, rt, bk, ct⟩) : VX c (tSeq t u) ρ S ⟨nx, rt, bk, ct⟩ := fun T σ H I D b =>
  h T σ H I _ ⟨fun σ' ρ' S' T' H' m I' q => q T' σ' H' I' D (b.mv m), b.rt, b.bk, b.ct⟩
theorem VX.imp {t : TS} {P' : Po} (h : VX c t ρ S P) (n : ∀ ρ S, P.nx ρ S → P'.nx ρ S) (r : ∀ d S, P.rt d S → P'.rt d S) (bk : ∀ ρ S, P.bk ρ S → P'.bk ρ S) (ct : ∀ ρ S, P.ct ρ S → P'.ct ρ S) : VX c t ρ S P' := fun T σ H I D b =>
  h T σ H I D ⟨fun σ' ρ' S' T' H' m I' q => b.nx σ' ρ' S' T' H' m I' (n _ _ q), fun v d S' T' H' m cl rr q => b.rt v d S' T' H' m cl rr (r _ _ q), fun σ' ρ' S' T' H' m I' q => b.bk σ' ρ' S' T' H' m I' (bk _ _ q), fun σ' ρ' S' T' H' m I' q => b.ct σ' ρ' S' T' H' m I' (ct _ _ q)⟩
theorem vx_asg {te : TE} {g : TG} {nx bk ct : Rho → Sto → Prop} {rt : D → Sto → Prop} (h : VE c te ρ S fun x S1 => VG c g x ρ S1 nx) : VX c (tAsg te g) ρ S ⟨nx, rt, bk, ct⟩ := fun T σ H I D b =>
  h T σ H I _ fun v x S1 T1 H1 m1 c1 r1 h1 => h1 T1 v σ H1 (I.mv m1 c1) r1 _ fun σ' ρ' S' T' H' m' I' q => b.nx σ' ρ' S' T' H' (m1.trans m') I' q
theorem vx_drop {te : TE} {nx bk ct : Rho → Sto → Prop} {rt : D → Sto → Prop} (h : VE c te ρ S fun _ S1 => nx ρ S1) : VX c (tDrop te) ρ S ⟨nx, rt, bk, ct⟩ := fun T σ H I D b =>
  h T σ H I _ fun v x S1 T1 H1 m1 c1 r1 h1 => b.nx σ ρ S1 T1 H1 m1 (I.mv m1 c1) h1
theorem vx_ret {te : TE} {nx bk ct : Rho → Sto → Prop} {rt : D → Sto → Prop} (h : VE c te ρ S rt) : VX c (tRet te) ρ S ⟨nx, rt, bk, ct⟩ := fun T σ H I D b => h T σ H I _ fun v x S1 T1 H1 m1 c1 r1 h1 => b.rt v x S1 T1 H1 m1 c1 r1 h1
theorem vx_retN {nx bk ct : Rho → Sto → Prop} {rt : D → Sto → Prop} (h : rt .non S) : VX c tRetN ρ S ⟨nx, rt, bk, ct⟩ := fun T σ H I D b => b.rt _ _ S T H Mv.refl I.cells .non h
theorem vx_if {tc : TT} {t u : TS} (h : VT c tc ρ S fun b S1 => (b = true → VX c t ρ S1 P) ∧ (b = false → VX c u ρ S1 P)) : VX c (tIfS tc t u) ρ S P := fun T σ H I D bb =>
  h T σ H I _ fun b S1 T1 H1 m1 c1 ⟨h1, h2⟩ => by
    cases b with
    | true => exact iteT (h1 rfl T1 σ H1 (I.mv m1 c1) D (bb.mv m1))
    | false => exact iteF (h2 rfl T1 σ H1 (I.mv m1 c1) D (bb.mv m1))
theorem Cells.nohid {K : PySem.W.Frag} {H : Hp} {S T : Sto} {l : Addr} {d : D} (cl : Cells K H S T) (hl : S l = some d) (ne : ¬ NoF d) : T l ≠ some .hid := fun z => by
  rw [cl.at hl] at z
  cases z
  exact ne .hid
theorem ve_freeze {te : TE} (h : VE c te ρ S fun x S1 => ∃ l d, x = .ref l ∧ S1 l = some d ∧ ¬ NoF d ∧ F d (del S1 l)) : VE c te ρ S F := fun T σ H I Q k =>
  h T σ H I Q fun v x S1 T1 H1 m1 c1 r1 ⟨l, d, e1, hl, ne, q⟩ => by
    subst e1
    cases r1
    have nh := c1.nohid hl ne
    exact k _ d _ _ H1 (m1.trans (mv_del nh)) (c1.del nh) (c1.rep (c1.at hl) ne) q
theorem vg_name {i : Nat} {F : Rho → Sto → Prop} (q : F (ρ.set i (some d)) S) : VG c (gName i) d ρ S F := fun T v σ H I r Q k => k _ _ S T H Mv.refl (I.set i r) q
/-- several targets -/
def VGs (c : Ctx) (g : TGs) (ds : List D) (ρ : Rho) (S : Sto) (F : Rho → Sto → Prop) : Prop := ∀ T vs σ H, In c σ H ρ S T → RepL c.K H T vs ds → ∀ Q : St → Hp → Prop,
  (∀ σ' ρ' S' T' H', Mv T H T' H' → In c σ' H' ρ' S' T' → F ρ' S' → Q σ' H') → g vs σ H Q
theorem vgs_nil {F : Rho → Sto → Prop} (q : F ρ S) : VGs c gNil [] ρ S F := fun T vs σ H I r Q k => by
  cases r; exact ⟨rfl, k σ ρ S T H Mv.refl I q⟩
theorem vgs_cons {g : TG} {gs : TGs} {ds : List D} {F : Rho → Sto → Prop} (h : VG c g d ρ S fun ρ1 S1 => VGs c gs ds ρ1 S1 F) : VGs c (gCons g gs) (d :: ds) ρ S F := fun T vs σ H I r Q k => by
  cases r with
  | cons h1 t => exact ⟨_, _, rfl, h T _ σ H I h1 _ fun σ1 ρ1 S1 T1 H1 m1 I1 q => q T1 _ σ1 H1 I1 (t.mv m1) Q fun σ2 ρ2 S2 T2 H2 m2 => k σ2 ρ2 S2 T2 H2 (m1.trans m2)⟩
theorem vg_tup {n : Nat} {gs : TGs} {ds : List D} {F : Rho → Sto → Prop} (hn : ds.length = n) (h : VGs c gs ds ρ S F) : VG c (gTup c.K n gs) (.tup ds) ρ S F := fun T v σ H I r Q k => by
  obtain ⟨a, xs, rfl, s, r⟩ := r.seqT
  exact ⟨a, xs, rfl, s, by rw [r.length]; exact hn, h T xs σ H I r Q k⟩
/-- l[i] = e -/
theorem vg_subL {to ti : TE} {F : Rho → Sto → Prop} (h : VE c to ρ S fun x S1 => ∃ l, x = .ref l ∧ VE c ti ρ S1 fun y S2 => ∃ (i : Int) (j : Nat) (ds : List D), y = .int i ∧ S2 l = some (.lst ds) ∧ ixN ds.length i = some j ∧ F ρ (put S2 l (.lst (ds.set j d)))) : VG c (gSub to ti rSetL) d ρ S F := fun T v σ H I r Q k =>
  h T σ H I _ fun vx x S1 T1 H1 m1 c1 r1 ⟨l, e, h1⟩ => h1 T1 σ H1 (I.mv m1 c1) _ fun vy y S2 T2 H2 m2 c2 r2 ⟨i, j, ds, e2, hl, hj, q⟩ => by
    subst e e2
    cases r1
    cases r2
    obtain ⟨xs, hx, rr⟩ := c2.ok _ _ (c2.at hl)
    have rd : Rep c.K H2 T2 v d := r.mv (m1.trans m2)
    have w := mv_wr (H := H2) (d := .lst (ds.set j d)) (o := .lst (xs.set j v)) (c2.at hl)
    have cl' : Cells c.K (upd H2 l (.lst (xs.set j v))) (put S2 l (.lst (ds.set j d))) (put T2 l (.lst (ds.set j d))) := c2.wr (c2.at hl) (cell_l upd_same ((RepL.set rd j rr).mv w))
    exact ⟨l, xs, i, j, rfl, rfl, hx, by rw [rr.length]; exact hj, k σ ρ _ _ _ (m1.trans (m2.trans w)) (I.mv (m1.trans (m2.trans w)) cl') q⟩
end
end VS
namespace VS
open PySem L2 C8
section
variable {c : Ctx} {ρ : Rho} {S : Sto} {F : D → Sto → Prop} {d : D}
/-! ### what is walked -/
theorem yl_list {K : PySem.W.Frag} {T : Sto} {H : Hp} {a : Addr} {xs : List V} {ds : List D} (h : ∀ T1 H1, Mv T H T1 H1 → SqL K H1 a xs) (r : RepL K H T xs ds) : Yl K (Itl K a) ds T H := by
  refine ⟨fun H => SqL K H a xs, YAt xs, by rw [← r.length]; exact walk_list, fun T1 H1 m => h T1 H1 m, fun i d S1 T1 H1 H2 x e m cl y => ?_⟩
  obtain ⟨e1, e2⟩ := y
  subst e1
  obtain ⟨v, e3, r'⟩ := r.get e
  rw [e2] at e3
  cases e3
  exact ⟨Mv.refl, cl, r'.mv m⟩
theorem SqL.mv {K : PySem.W.Frag} {S S' : Sto} {H H' : Hp} {a : Addr} {xs : List V} (m : Mv S H S' H') (s : S a = none) (h : SqL K H a xs) : SqL K H' a xs := by
  rcases h with (h | ⟨o, h⟩) | h
  · exact .inl (.inl (m.keep _ _ s h))
  · exact .inl (.inr ⟨o, m.keep _ _ s h⟩)
  · exact .inr h
/-- a list by value -/
inductive IsW : D → List D → Prop
  | v {ds : List D} : IsW (.lst ds) ds
  | r {ds : List D} : IsW (.rol ds) ds
theorem IsW.rd {K : PySem.W.Frag} {H : Hp} {x : D} {ds : List D} {u : V} (h : IsW x ds) (r : Rep K H S u x) : ∃ a xs, u = .ref a ∧ (∀ S' H', Mv S H S' H' → SqL K H' a xs) ∧ RepL K H S xs ds := by
  cases h with
  | v => obtain ⟨a, xs, e, s, h, r⟩ := r.seqL; exact ⟨a, xs, e, fun S' H' m => SqL.mv m s (.of h), r⟩
  | r => exact r.seqR
theorem vi_list {te : TE} {W : List D → Sto → Prop} (h : VE c te ρ S fun x S1 => ∃ ds, IsW x ds ∧ W ds S1) : VI c (iList c.K te) ρ S W := fun T σ H I R k =>
  h T σ H I _ fun vx x S1 T1 H1 m1 c1 r1 ⟨ds, hx, q⟩ => by
    obtain ⟨a, xs, rfl, hq, r⟩ := hx.rd r1
    exact ⟨a, rfl, ⟨xs, hq _ _ Mv.refl⟩, k _ ds S1 T1 H1 m1 c1 (yl_list hq r) q⟩
theorem SqT.mv {K : PySem.W.Frag} {H H' : Hp} {a : Addr} {xs : List V} (k : ∀ o, H a = some o → H' a = some o) (h : SqT K H a xs) : SqT K H' a xs := by
  rcases h with (h | ⟨o, h⟩) | h
  · exact .inl (.inl (k _ h))
  · exact .inl (.inr ⟨o, k _ h⟩)
  · exact .inr h
theorem vi_tup {te : TE} {W : List D → Sto → Prop} (h : VE c te ρ S fun x S1 => ∃ ds, x = .tup ds ∧ W ds S1) : VI c (iTup c.K te) ρ S W := fun T σ H I R k =>
  h T σ H I _ fun vx x S1 T1 H1 m1 c1 r1 ⟨ds, hx, q⟩ => by
    subst hx
    have fin : ∀ a xs, vx = .ref a → (∀ T2 H2, Mv T1 H1 T2 H2 → SqT c.K H2 a xs) → RepL c.K H1 T1 xs ds → iTup c.K te = iTup c.K te → ∃ b, vx = .ref b ∧ (∃ xs, SqT c.K H1 b xs) ∧ R (Itt c.K b) H1 := fun a xs e hq r _ => by
      refine ⟨a, e, ⟨xs, hq T1 H1 Mv.refl⟩, k _ ds S1 T1 H1 m1 c1 ⟨fun H => SqT c.K H a xs, YAt xs, by rw [← r.length]; exact walk_tup, hq, fun i d S2 T2 H2 H3 x e m cl y => ?_⟩ q⟩
      obtain ⟨e1, e2⟩ := y
      subst e1
      obtain ⟨v, e3, r'⟩ := r.get e
      rw [e2] at e3
      cases e3
      exact ⟨Mv.refl, cl, r'.mv m⟩
    cases r1 with
    | tup s h r => exact fin _ _ rfl (fun T2 H2 m => .inl (.inl (m.keep _ _ s h))) r rfl
    | tupK h r => exact fin _ _ rfl (fun T2 H2 m => .inr h) r rfl
def rngD (lo : Int) (n : Nat) : List D := (List.range n).map fun i => .int (lo + (i : Nat))
theorem rngD_len {lo : Int} {n : Nat} : (rngD lo n).length = n := by simp [rngD]
theorem rngD_get {lo : Int} {n i : Nat} {d : D} (h : (rngD lo n)[i]? = some d) : i < n ∧ d = .int (lo + (i : Nat)) := by
  unfold rngD at h
  rw [List.getElem?_map] at h
  cases e : (List.range n)[i]? with
  | none => rw [e] at h; cases h
  | some j =>
    rw [e] at h
    obtain ⟨h1, h2⟩ := List.getElem?_eq_some_iff.mp e
    rw [List.getElem_range] at h2
    subst h2
    cases h
    rw [List.length_range] at h1
    exact ⟨h1, rfl⟩
theorem yl_rng {K : PySem.W.Frag} {T : Sto} {H : Hp} {lo : Int} {n : Nat} : Yl K (Itr lo n) (rngD lo n) T H := by
  refine ⟨fun _ => True, YFn fun i => .int (lo + (i : Nat)), by rw [rngD_len]; exact walk_range, fun _ _ _ => trivial, fun i d S1 T1 H1 H2 x e m cl y => ?_⟩
  obtain ⟨e1, e2⟩ := y
  subst e1 e2
  obtain ⟨_, e3⟩ := rngD_get e
  subst e3
  exact ⟨Mv.refl, cl, .int _⟩
theorem vi_rng1 {ta : TA} {W : List D → Sto → Prop} (h : VA c ta ρ S fun es S1 => ∃ j : Int, es = [.int j] ∧ (-(2 ^ 62) ≤ j ∧ j < 2 ^ 62) ∧ W (rngD 0 j.toNat) S1) : VI c (iRng1 ta) ρ S W := fun T σ H I R k =>
  h T σ H I _ fun vs es S1 T1 H1 m1 c1 r1 ⟨j, e, ⟨hl, hh⟩, q⟩ => by
    subst e
    cases r1 with
    | cons h1 t => cases t; cases h1; exact ⟨j, rfl, hl, hh, k _ _ S1 T1 H1 m1 c1 yl_rng q⟩
/-- a text's signs -/
def signsD (x : Str) : List D := x.cps.toList.map fun n => .str ⟨#[n]⟩
def enumD (ds : List D) : List D := ds.zipIdx.map fun p => .tup [.int (p.2 : Nat), p.1]
theorem enumD_len {ds : List D} : (enumD ds).length = ds.length := by simp [enumD]
theorem enumD_get {ds : List D} {i : Nat} {d : D} (h : (enumD ds)[i]? = some d) : ∃ e, ds[i]? = some e ∧ d = .tup [.int (i : Nat), e] := by
  unfold enumD at h
  rw [List.getElem?_map, List.getElem?_zipIdx] at h
  cases e : ds[i]? with
  | none => rw [e] at h; cases h
  | some x =>
    rw [e] at h
    simp at h
    exact ⟨x, rfl, h.symm⟩
theorem vi_enum {ta : TA} {W : List D → Sto → Prop} (h : VA c ta ρ S fun es S1 => ∃ x ds, es = [x] ∧ IsW x ds ∧ W (enumD ds) S1) : VI c (iEnum c.K ta) ρ S W := fun T σ H I R k =>
  h T σ H I _ fun vs es S1 T1 H1 m1 c1 r1 ⟨x, ds, e, hx, q⟩ => by
    subst e
    cases r1 with
    | cons h1 t =>
      cases t
      obtain ⟨a, xs, rfl, hq, r⟩ := hx.rd h1
      refine ⟨a, xs, rfl, hq _ _ Mv.refl, k _ (enumD ds) S1 T1 H1 m1 c1 ⟨fun H => SqL c.K H a xs, _, by rw [enumD_len, ← r.length]; exact walk_enum, hq, fun i d S2 T2 H2 H3 y e m cl yy => ?_⟩ q⟩
      obtain ⟨T, u, w, e1, hT, e2, e3, e4⟩ := yy
      obtain ⟨y', e5, e6⟩ := enumD_get e
      subst e1 e2 e6
      obtain ⟨v, e7, r'⟩ := r.get e5
      have e4' : xs[i]? = some w := e4
      rw [e4'] at e7
      cases e7
      cases e3
      exact ⟨mv_new hT, cl.new hT, .tup (cl.free hT) upd_same (.cons (.int _) (.cons ((r'.mv m).mv (mv_new hT)) .nil))⟩
def zipD (ds es : List D) : List D := (ds.zip es).map fun p => .tup [p.1, p.2]
theorem zipD_len {ds es : List D} : (zipD ds es).length = min ds.length es.length := by simp [zipD]
theorem zipD_get {ds es : List D} {i : Nat} {d : D} (h : (zipD ds es)[i]? = some d) : ∃ a b, ds[i]? = some a ∧ es[i]? = some b ∧ d = .tup [a, b] := by
  unfold zipD at h
  rw [List.getElem?_map] at h
  cases e : (ds.zip es)[i]? with
  | none => rw [e] at h; cases h
  | some p =>
    rw [e] at h
    cases h
    obtain ⟨h1, h2⟩ := List.getElem?_zip_eq_some.mp e
    exact ⟨_, _, h1, h2, rfl⟩
theorem vi_zip {ta : TA} {W : List D → Sto → Prop} (h : VA c ta ρ S fun xs S1 => ∃ x y ds es, xs = [x, y] ∧ IsW x ds ∧ IsW y es ∧ W (zipD ds es) S1) : VI c (iZip c.K ta) ρ S W := fun T σ H I R k =>
  h T σ H I _ fun vs es S1 T1 H1 m1 c1 r1 ⟨x, y, ds, es', e, hx, hy, q⟩ => by
    subst e
    cases r1 with
    | cons h1 t => cases t with
      | cons h2 t =>
        cases t
        obtain ⟨a, xs, rfl, hq, r⟩ := hx.rd h1
        obtain ⟨b, ys, rfl, hq', r2⟩ := hy.rd h2
        refine ⟨a, b, xs, ys, rfl, hq _ _ Mv.refl, hq' _ _ Mv.refl, k _ (zipD ds es') S1 T1 H1 m1 c1 ⟨fun H => SqL c.K H a xs ∧ SqL c.K H b ys, _, walk_zip (by rw [zipD_len, r.length, r2.length]), fun T2 H2 m => ⟨hq T2 H2 m, hq' T2 H2 m⟩, fun i d S2 T2 H2 H3 y e m cl yy => ?_⟩ q⟩
        obtain ⟨T, u, w, e1, hT, e2, e3, e4⟩ := yy
        obtain ⟨p, p', e5, e6, e7⟩ := zipD_get e
        subst e1 e2 e7
        obtain ⟨v, e8, q1⟩ := r.get e5
        obtain ⟨v', e9, q2⟩ := r2.get e6
        have e3' : xs[i]? = some u := e3
        have e4' : ys[i]? = some w := e4
        rw [e3'] at e8
        rw [e4'] at e9
        cases e8
        cases e9
        exact ⟨mv_new hT, cl.new hT, .tup (cl.free hT) upd_same (.cons ((q1.mv m).mv (mv_new hT)) (.cons ((q2.mv m).mv (mv_new hT)) .nil))⟩
/-! ### for -/
theorem vx_for {wi : TI} {g : TG} {tb : TS} {nx bk ct : Rho → Sto → Prop} {rt : D → Sto → Prop}
    (h : VI c wi ρ S fun ds S1 => ∃ W : Nat → Rho → Sto → Prop, W 0 ρ S1 ∧ (∀ (i : Nat) (d : D) ρ2 S2, ds[i]? = some d → W i ρ2 S2 → VG c g d ρ2 S2 fun ρ3 S3 => VX c tb ρ3 S3 ⟨W (i + 1), rt, nx, W (i + 1)⟩) ∧ (∀ ρ2 S2, W ds.length ρ2 S2 → nx ρ2 S2)) :
    VX c (tFor wi g tb) ρ S ⟨nx, rt, bk, ct⟩ := fun T σ H I D b =>
  h T σ H I _ fun J ds S1 T1 H1 m1 c1 ⟨G, Y, w, hG, hY⟩ ⟨W, h0, hs, hd⟩ => by
    refine for_it w (fun i σ' H' => ∃ ρ2 S2 T2, Mv T1 H1 T2 H' ∧ In c σ' H' ρ2 S2 T2 ∧ W i ρ2 S2) ⟨ρ, S1, T1, Mv.refl, I.mv m1 c1, h0⟩ (fun i σ' H' _ ⟨ρ2, S2, T2, m, _, _⟩ => hG T2 H' m) ?_ ?_
    · rintro i x σ' H' H'' hi ⟨ρ2, S2, T2, m, I2, hw⟩ y
      obtain ⟨d, e⟩ : ∃ d, ds[i]? = some d := ⟨ds[i], List.getElem?_eq_getElem hi⟩
      obtain ⟨m3, c3, r3⟩ := hY i d S2 T2 H' H'' x e m I2.cells y
      refine hs i d ρ2 S2 e hw T2 x σ' H'' (I2.mv m3 c3) r3 _ fun σ3 ρ3 S3 T3 H3 m4 I3 q => ?_
      have mm := m.trans (m3.trans m4)
      have mb := m1.trans mm
      exact q T3 σ3 H3 I3 _ ⟨fun σ4 ρ4 S4 T4 H4 m5 I4 q4 => ⟨ρ4, S4, T4, mm.trans m5, I4, q4⟩, fun v d S4 T4 H4 m5 => b.rt v d S4 T4 H4 (mb.trans m5), fun σ4 ρ4 S4 T4 H4 m5 => b.nx σ4 ρ4 S4 T4 H4 (mb.trans m5), fun σ4 ρ4 S4 T4 H4 m5 I4 q4 => ⟨ρ4, S4, T4, mm.trans m5, I4, q4⟩⟩
    · rintro σ' H' ⟨ρ2, S2, T2, m, I2, hw⟩
      exact b.nx σ' ρ2 S2 T2 H' (m1.trans m) I2 (hd ρ2 S2 hw)
/-! ### comprehensions -/
def wipeR (ρ : Rho) : List Nat → Rho
  | [] => ρ
  | v :: vs => (wipeR ρ vs).set v none
theorem In.wipe {T : Sto} {σ : St} {H : Hp} (I : In c σ H ρ S T) : ∀ vs : List Nat, In c (L2.wipe σ vs) H (wipeR ρ vs) S T
  | [] => I
  | v :: vs => by
    have J := In.wipe I vs
    refine ⟨J.cells, fun j e q => ?_, by simp [L2.wipe, wipeR, J.len], J.exc⟩
    unfold wipeR at q
    by_cases z : v = j
    · subst z
      by_cases hv : v < (wipeR ρ vs).length
      · rw [List.getElem?_set_self hv] at q; cases q
      · rw [List.getElem?_eq_none (by simpa using hv)] at q; cases q
    · rw [List.getElem?_set_ne z] at q
      obtain ⟨u, h1, h2⟩ := J.slots j e q
      exact ⟨u, by unfold L2.wipe; rw [List.getElem?_set_ne z]; exact h1, h2⟩
theorem wipe_set_out {σ : St} {i : Nat} {x : Option V} : ∀ us : List Nat, i ∉ us → L2.wipe (σ.set i x) us = (L2.wipe σ us).set i x
  | [], _ => rfl
  | u :: us, hu => by
    simp only [List.mem_cons, not_or] at hu
    unfold L2.wipe
    rw [wipe_set_out us hu.2, List.set_comm _ _ hu.1]
theorem wipe_set {σ : St} {i : Nat} {x : Option V} : ∀ {vs : List Nat}, i ∈ vs → L2.wipe (σ.set i x) vs = L2.wipe σ vs
  | v :: vs, h => by
    unfold L2.wipe
    by_cases hm : i ∈ vs
    · rw [wipe_set hm]
    · have z : i = v := by
        rcases List.mem_cons.mp h with q | q
        · exact q
        · exact absurd q hm
      subst z
      rw [wipe_set_out vs hm, List.set_set]
theorem wipe_wipe {σ : St} (vs : List Nat) : ∀ us : List Nat, (∀ v ∈ us, v ∈ vs) → L2.wipe (L2.wipe σ us) vs = L2.wipe σ vs
  | [], _ => rfl
  | u :: us, h => by
    show L2.wipe ((L2.wipe σ us).set u none) vs = _
    rw [wipe_set (h u List.mem_cons_self), wipe_wipe vs us fun v hv => h v (List.mem_cons_of_mem _ hv)]
/-- the targets of a comprehension: they store its own names alone -/
def VGw (c : Ctx) (vs : List Nat) (g : TG) (d : D) (ρ : Rho) (S : Sto) (F : Rho → Sto → Prop) : Prop := ∀ T v σ H, In c σ H ρ S T → Rep c.K H T v d → ∀ Q : St → Hp → Prop,
  (∀ σ' ρ' S' T' H', L2.wipe σ' vs = L2.wipe σ vs → Mv T H T' H' → In c σ' H' ρ' S' T' → F ρ' S' → Q σ' H') → g v σ H Q
theorem vgw_name {vs : List Nat} {i : Nat} {F : Rho → Sto → Prop} (hi : i ∈ vs) (q : F (ρ.set i (some d)) S) : VGw c vs (gName i) d ρ S F := fun T v σ H I r Q k => k _ _ S T H (wipe_set hi) Mv.refl (I.set i r) q
def VGws (c : Ctx) (vs : List Nat) (g : TGs) (ds : List D) (ρ : Rho) (S : Sto) (F : Rho → Sto → Prop) : Prop := ∀ T us σ H, In c σ H ρ S T → RepL c.K H T us ds → ∀ Q : St → Hp → Prop,
  (∀ σ' ρ' S' T' H', L2.wipe σ' vs = L2.wipe σ vs → Mv T H T' H' → In c σ' H' ρ' S' T' → F ρ' S' → Q σ' H') → g us σ H Q
theorem vgws_nil {vs : List Nat} {F : Rho → Sto → Prop} (q : F ρ S) : VGws c vs gNil [] ρ S F := fun T us σ H I r Q k => by
  cases r; exact ⟨rfl, k σ ρ S T H rfl Mv.refl I q⟩
theorem vgws_cons {vs : List Nat} {g : TG} {gs : TGs} {ds : List D} {F : Rho → Sto → Prop} (h : VGw c vs g d ρ S fun ρ1 S1 => VGws c vs gs ds ρ1 S1 F) : VGws c vs (gCons g gs) (d :: ds) ρ S F := fun T us σ H I r Q k => by
  cases r with
  | cons h1 t => exact ⟨_, _, rfl, h T _ σ H I h1 _ fun σ1 ρ1 S1 T1 H1 e1 m1 I1 q => q T1 _ σ1 H1 I1 (t.mv m1) Q fun σ2 ρ2 S2 T2 H2 e2 m2 => k σ2 ρ2 S2 T2 H2 (e2.trans e1) (m1.trans m2)⟩
theorem vgw_tup {vs : List Nat} {n : Nat} {gs : TGs} {ds : List D} {F : Rho → Sto → Prop} (hn : ds.length = n) (h : VGws c vs gs ds ρ S F) : VGw c vs (gTup c.K n gs) (.tup ds) ρ S F := fun T v σ H I r Q k => by
  obtain ⟨a, xs, rfl, s, r⟩ := r.seqT
  exact ⟨a, xs, rfl, s, by rw [r.length]; exact hn, h T xs σ H I r Q k⟩
/-- the heart -/
theorem lc_heart {wi : TI} {g : TG} {tt : TT} {te : TE} {vs : List Nat} {R : List D → Sto → Prop}
    (h : VI c wi ρ S fun ds S1 => ds.length ≤ 100000 ∧ ∃ W : Nat → List D → Sto → Prop, W 0 [] S1 ∧ (∀ (i : Nat) (d : D) acc S2, ds[i]? = some d → W i acc S2 → acc.length ≤ i → VGw c vs g d (wipeR ρ vs) S2 fun ρ3 S3 => VT c tt ρ3 S3 fun b S4 => (b = true → VE c te ρ3 S4 fun y S5 => W (i + 1) (acc ++ [y]) S5) ∧ (b = false → W (i + 1) acc S4)) ∧
      (∀ acc S2, W ds.length acc S2 → acc.length ≤ ds.length → R acc S2)) {T : Sto} {σ : St} {H : Hp} (I : In c σ H ρ S T) {Q : VK}
    (k : ∀ p xs acc S' T' H' T1 H1, Mv T H T1 H1 → Mv T1 H1 T' H' → Cells c.K H' S' T' → T' p = some .hid → H1 p = none → H' p = some (.lst xs) → RepL c.K H' T' xs acc → R acc S' → Q (.ref p) H') : tLc wi g tt te vs σ H Q :=
  h T σ H I _ fun J ds S1 T1 H1 m1 c1 ⟨G, Y, w, hG, hY⟩ ⟨hl, W, h0, hs, hd⟩ => fun p hp => by
    refine lc_it w (fun i H' => ∃ S2 T2 xs acc, Mv T1 H1 T2 H' ∧ Cells c.K H' S2 T2 ∧ T2 p = some .hid ∧ H' p = some (.lst xs) ∧ RepL c.K H' T2 xs acc ∧ acc.length ≤ i ∧ W i acc S2)
      ⟨S1, put T1 p .hid, [], [], mv_newc hp, c1.newh hp, put_same, upd_same, .nil, Nat.le_refl _, h0⟩ (fun i H' _ ⟨S2, T2, _, _, m, _⟩ => hG T2 H' m) ?_ ?_
    · rintro i x H' H'' hi ⟨S2, T2, xs, acc, m, c2, s2, hx, r2, hle, hw⟩ y
      obtain ⟨d, e⟩ : ∃ d, ds[i]? = some d := ⟨ds[i], List.getElem?_eq_getElem hi⟩
      obtain ⟨m3, c3, r3⟩ := hY i d S2 T2 H' H'' x e m c2 y
      have I2 : In c σ H'' ρ S2 T2 := I.mv (m1.trans (m.trans m3)) c3
      refine hs i d acc S2 e hw hle T2 x (L2.wipe σ vs) H'' (I2.wipe vs) r3 _ fun σ3 ρ3 S3 T3 H3 ew m4 I3 q => ⟨ew.trans (wipe_wipe vs vs fun _ h => h), ?_⟩
      refine q T3 σ3 H3 I3 _ fun b S4 T4 H4 m5 c4 ⟨q1, q2⟩ => ?_
      have mm := m3.trans (m4.trans m5)
      cases b with
      | true =>
        refine iteT (q1 rfl T4 σ3 H4 (I3.mv m5 c4) _ fun v y S5 T5 H5 m6 c5 r5 q5 => ?_)
        have m7 := mm.trans m6
        obtain ⟨hx5, s5⟩ := m7.hid _ _ s2 hx
        refine ⟨xs, hx5, ?_, S5, T5, xs ++ [v], acc ++ [y], (m.trans m7).hidw hp, c5.hidw s5, s5, upd_same, ((r2.mv m7).append (.cons r5 .nil)).mk (mk_hid s5), ?_, q5⟩
        · rw [r2.length]
          exact Nat.lt_of_lt_of_le (show acc.length < 100001 by omega) (by decide)
        · rw [List.length_append, List.length_singleton]
          omega
      | false =>
        obtain ⟨hx5, s5⟩ := mm.hid _ _ s2 hx
        exact iteF ⟨S4, T4, xs, acc, m.trans mm, c4, s5, hx5, r2.mv mm, by omega, q2 rfl⟩
    · rintro H' ⟨S2, T2, xs, acc, m, c2, s2, hx, r2, hle, hw⟩
      exact k p xs acc S2 T2 H' T1 H1 m1 m c2 s2 hp hx r2 (hd acc S2 hw hle)
theorem Mv.unhid {S S' : Sto} {H H' : Hp} {p : Addr} (m : Mv S H S' H') (h : H p = none) : Mv S H (del S' p) H' where
  keep := m.keep
  fresh := fun a s e => by
    unfold del
    split
    · rfl
    · exact m.fresh a s e
  hid := fun a o s e => by
    obtain ⟨e1, e2⟩ := m.hid a o s e
    refine ⟨e1, ?_⟩
    rw [del_ne (ne_of_none e h)]
    exact e2
theorem Mv.show {S S' : Sto} {H H' : Hp} {p : Addr} {d : D} (m : Mv S H S' H') (h : H p = none) : Mv S H (put S' p d) H' where
  keep := m.keep
  fresh := fun a s e => by
    rw [put_ne]
    · exact m.fresh a s e
    · intro z; subst z; exact e h
  hid := fun a o s e => by
    obtain ⟨e1, e2⟩ := m.hid a o s e
    refine ⟨e1, ?_⟩
    rw [put_ne (ne_of_none e h)]
    exact e2
theorem Cells.show {K : PySem.W.Frag} {S T : Sto} {H : Hp} {p : Addr} {xs : List V} {ds : List D} (cl : Cells K H S T) (s : T p = some .hid) (hx : H p = some (.lst xs)) (r : RepL K H T xs ds) : Cells K H (put S p (.lst ds)) (put T p (.lst ds)) := by
  have m : Mk T H (put T p (.lst ds)) H := by
    refine ⟨fun _ _ _ h => h, fun a q _ => ?_⟩
    rw [put_ne]
    · exact q
    · intro z; subst z; rw [s] at q; cases q
  refine ⟨ov_put cl.ov (by nofun), fun a e q => ?_⟩
  by_cases z : a = p
  · subst z; rw [put_same] at q; cases q; exact cell_l hx (r.mk m)
  · rw [put_ne z] at q
    exact CellOk.mk m rfl (cl.ok a e q)
/-- [e for x in xs if t], by value -/
theorem ve_lc {wi : TI} {g : TG} {tt : TT} {te : TE} {vs : List Nat}
    (h : VI c wi ρ S fun ds S1 => ds.length ≤ 100000 ∧ ∃ W : Nat → List D → Sto → Prop, W 0 [] S1 ∧ (∀ (i : Nat) (d : D) acc S2, ds[i]? = some d → W i acc S2 → acc.length ≤ i → VGw c vs g d (wipeR ρ vs) S2 fun ρ3 S3 => VT c tt ρ3 S3 fun b S4 => (b = true → VE c te ρ3 S4 fun y S5 => W (i + 1) (acc ++ [y]) S5) ∧ (b = false → W (i + 1) acc S4)) ∧
      (∀ acc S2, W ds.length acc S2 → acc.length ≤ ds.length → F (.lst acc) S2)) : VE c (tLc wi g tt te vs) ρ S F := fun T σ H I Q k =>
  lc_heart (R := fun acc S2 => F (.lst acc) S2) h I fun p xs acc S' T' H' T1 H1 m1 m cl s n hx r q => by
    exact k _ (.lst acc) S' (del T' p) H' (m1.trans (m.unhid n)) (cl.unhid s) (.lst del_same hx (r.mk (mk_show s))) q
end
end VS
namespace VS
open PySem L2 C8 PySem.Spec PyProof.Rows
/-! ### a def's promise where nothing is being shown around (repr asks that) -/
structure FnG (P : Program) (w : World) (K : PySem.W.Frag) (mg : Str → Option Value) (base : Heap) (CX : CXT) (k : Nat) (f : Addr) (fd : FuncData) (ps : List Str) (sp : Sp) : Prop where
  len : ∀ vs H Q E, sp vs H Q E → vs.length = ps.length
  run : ∀ (A : Around), A.guards = some [] → ∀ (outer : List Env) (s : Shared) (H : Hp) (args : Args) (us : List Value) (vs : List V) (Q : VK) (E : XK), Room k A →
    Env0 P w K mg base A outer s H → BindsTo s fd args (ps.zip us) → Vals vs us → sp vs H Q E → codeAny (model P w) A (.call (.ref f) args) (CR CX outer P w H s Q E) s
abbrev Fd (K : PySem.W.Frag) (x qual : Str) (st : Stmt) (dvs : List V) (f : Addr) (fd : FuncData) : Prop := FunD K x qual (defArgs st) (defBody st) (defScope st) dvs [] f fd
/-- what a callee lets out is taken, at the slots as they are -/
def PassS (CX : CXT) (X : Cx) (E : L2.St → XK) : Prop := ∀ (pins : List (Addr × Obj)) (σ : L2.St) (H : Hp) (s : Shared) (e : Value) (s' : Shared), Inv X pins σ H s → CX X.stack H s (E σ) e s' → X.xe e s'
theorem passS_of {X : Cx} {W : WX} (tk : Takes X W) : PassS (L2.CX X.prog X.w) X (fun σ cls d H => W cls d σ H) := fun _ σ _ _ e s' I c => tk e s' (XE.of_call I (fun _ _ _ h => h) c)
/-- nothing is let out -/
def noE : L2.St → XK := fun _ _ _ _ => False
theorem pass0 {X : Cx} : PassS (L2.CX X.prog X.w) X noE := fun _ _ _ _ _ _ _ h => by
  obtain ⟨_, _, _, _, _, _, _, _, _, _, _, _, z⟩ := h
  exact z.elim
section
variable {P : Program} {w : World} {K : PySem.W.Frag} {mg : Str → Option Value} {base : Heap} {CX : CXT}
/-- a def by its body -/
theorem fnG_of {x qual : Str} {st : Stmt} {dvs : List V} {f : Addr} {fd : FuncData} {N ps : List Str} {k : Nat} {sp : Sp} (F : Fd K x qual st dvs f fd) (Sc : FnScope N ps (defScope st)) (len : ∀ vs H Q E, sp vs H Q E → vs.length = ps.length)
    (body : ∀ (cdv : Value) (A : Around), A.guards = some [] → ∀ (outer : List Env) (s : Shared) (H : Hp) (vs : List V) (Q : VK) (E : XK), Room k (A.deeper (envOfC qual (defScope st) s.heap.objs.size f cdv)) → sp vs H Q E →
      ∃ t, PSs (cxOf CX P w K mg base N qual (defScope st) f cdv A outer s H E) (defBody st) t ∧ t ⟨fun _ H' => Q .non H', Q, fun _ _ => False, fun _ _ => False⟩ (L2.start N vs) H) : FnG P w K mg base CX (k + 1) f fd ps sp := by
  obtain ⟨oc, od, dV, kV, doc, pm, an, cdv, ct, osl, rfl, lk, hcd, _, _⟩ := F.ex
  refine ⟨len, fun A hgd outer s H args us vs Q E room en hb rv hsp => ?_⟩
  have heap_in : K.In s.heap := en.mod.kin.keeps fun b o e => (en.bs b o e).1
  have nolim : s.heap.NoLimit := en.mod.nolimit.keeps fun b o e => (en.bs b o e).1
  refine codeAny_call_function room.depth (heap_in _ _ lk) rfl Sc.co Sc.gen rfl (PySem.W.codeRec_of heap_in hcd) (hb _ _ _ _ ?_)
  have kinds : ∀ y ∈ ps.zip us, (defScope st).names.lookup y.1 = some .local ∨ ((defScope st).names.lookup y.1 = some .cell ∧ ((cellsFrom (s.heap.objs.size + 1) (defScope st).names []).lookup y.1).isSome = true) := by
    rintro ⟨n, v⟩ hy
    cases Sc.par n (List.of_mem_zip hy).1 with
    | inl q => exact .inl q
    | inr q => exact .inr ⟨q, PySem.W.cellsFrom_some _ _ _ (.inl q)⟩
  refine wpAny_newFunctionEnv_cells Sc.kind kinds fun env he s1 inc => ?_
  subst he
  obtain ⟨t, ht, hq⟩ := body cdv A hgd outer s H vs Q E (room.deeper _) hsp
  refine ⟨nolim.keeps inc.toInCall.keep, codeAny_func (wpAny_mono (ht.run [] s1 (L2.start N vs) H _ (inv_start Sc room.hd en (len _ _ _ _ hsp) rv inc) hq) (fun fl s2 hs => ?_) fun _ _ q => q)⟩
  cases fl with
  | next => obtain ⟨σ2, H2, J, q⟩ := hs; exact ⟨.non, H2, J.os, J.bare, J.base, J.hok, rfl, q⟩
  | ret u => obtain ⟨v, σ2, H2, J, r2, q⟩ := hs; exact ⟨v, H2, J.os, J.bare, J.base, J.hok, r2, q⟩
  | brk => obtain ⟨_, _, _, q⟩ := hs; exact q.elim
  | cont => obtain ⟨_, _, _, q⟩ := hs; exact q.elim
/-- .. by value -/
def startR (N : List Str) (ds : List D) : Rho := ds.map some ++ List.replicate (N.length - ds.length) none
theorem in_start {c : Ctx} {N : List Str} {vs : List V} {ds : List D} {S T : Sto} {H : Hp} (cl : Cells c.K H S T) (r : RepL c.K H T vs ds)
    (ex : ∀ (σ' : L2.St) (ρ' : Rho) (C : Addr) (d : Option Addr) (fs : List (Str × D)) (S' T' : Sto) (H' : Hp), Mv T H T' H' → Cells c.K H' S' T' → Sl c.K H' T' σ' ρ' → XRep c.K H' T' d fs → c.Y C fs ρ' S' → c.E σ' (.ref C) d H') : In c (L2.start N vs) H (startR N ds) S T := by
  refine ⟨cl, fun i d e => ?_, by simp [L2.start, startR, r.length], ex⟩
  unfold startR at e
  by_cases hi : i < ds.length
  · rw [List.getElem?_append_left (by simpa using hi), List.getElem?_map] at e
    cases q : ds[i]? with
    | none => rw [q] at e; cases e
    | some d' =>
      rw [q] at e
      cases e
      obtain ⟨v, h1, h2⟩ := r.get q
      refine ⟨v, ?_, h2⟩
      unfold L2.start
      rw [List.getElem?_append_left (by rw [List.length_map, r.length]; exact hi), List.getElem?_map, h1] <;> rfl
  · rw [List.getElem?_append_right (by simpa using Nat.le_of_not_lt hi), List.getElem?_replicate] at e
    split at e <;> cases e
theorem fn_val {x qual : Str} {st : Stmt} {dvs : List V} {f : Addr} {fd : FuncData} {N ps : List Str} {k : Nat} {p : Pt} (F : Fd K x qual st dvs f fd) (Sc : FnScope N ps (defScope st)) (len : ∀ ds S G Y, p ds S G Y → ds.length = ps.length)
    (body : ∀ (cdv : Value) (A : Around), A.guards = some [] → ∀ (outer : List Env) (s : Shared) (H : Hp) (E : XK), Room k (A.deeper (envOfC qual (defScope st) s.heap.objs.size f cdv)) →
      PassS (L2.CX P w) (cxOf (L2.CX P w) P w K mg base N qual (defScope st) f cdv A outer s H E) (fun _ => E) → Takes (cxOf (L2.CX P w) P w K mg base N qual (defScope st) f cdv A outer s H E) (fun cls d _ H' => E cls d H') →
      PassesOwn (model P w) (A.deeper (envOfC qual (defScope st) s.heap.objs.size f cdv)) (envOfC qual (defScope st) s.heap.objs.size f cdv) (cxOf (L2.CX P w) P w K mg base N qual (defScope st) f cdv A outer s H E).xe → ∀ ds S G Y, p ds S G Y →
      ∃ t, PSs (cxOf (L2.CX P w) P w K mg base N qual (defScope st) f cdv A outer s H E) (defBody st) t ∧ VX ⟨K, fun _ => E, fun C fs _ S' => Y C fs S'⟩ t (startR N ds) S ⟨fun _ S' => G .non S', G, fun _ _ => False, fun _ _ => False⟩) : FnG P w K mg base (L2.CX P w) (k + 1) f fd ps (spOf K p) := by
  refine fnG_of F Sc (fun vs H Q E h => ?_) fun cdv A hgd outer s H vs Q E room h => ?_
  · obtain ⟨ds, S, T, G, Y, r, _, hp, _⟩ := h
    rw [r.length]
    exact len _ _ _ _ hp
  · obtain ⟨ds, S, T, G, Y, r, cl, hp, hv, hx⟩ := h
    have tk : Takes (cxOf (L2.CX P w) P w K mg base N qual (defScope st) f cdv A outer s H E) (fun cls d _ H' => E cls d H') := takes_of rfl rfl rfl rfl
    obtain ⟨t, h1, h2⟩ := body cdv A hgd outer s H E room (passS_of tk) tk PassesOwn.leaving ds S G Y hp
    refine ⟨t, h1, h2 T _ H (in_start (c := ⟨K, fun _ => E, fun C fs _ S' => Y C fs S'⟩) cl r (fun _ _ C d fs S' T' H' m c2 _ x y => hx C d fs S' T' H' m c2 x y)) _ ⟨fun σ' ρ' S' T' H' m I' q => ?_, fun v d S' T' H' m c2 r2 q => hv v d S' T' H' m c2 r2 q, fun _ _ _ _ _ _ _ q => q.elim, fun _ _ _ _ _ _ _ q => q.elim⟩⟩
    exact hv .non .non S' T' H' m I'.cells .non q
end
/-! ### calls -/
def tCallE (sp : Sp) (dvs : List V) (E : L2.St → XK) (t : TA) : TE := fun σ H Q => t σ H fun vs H1 => sp (vs ++ dvs) H1 Q (E σ)
def tMethE (C : Addr) (m : Str) (sp : Sp) (dvs : List V) (E : L2.St → XK) (ta : TE) (t : TA) : TE := fun σ H Q => ta σ H fun y H1 => ∃ a dx fs, y = .ref a ∧ H1 a = some (.ins C dx fs) ∧ fs.lookup m = none ∧ t σ H1 fun vs H2 => sp (y :: (vs ++ dvs)) H2 Q (E σ)
def tMakeE (C : Addr) (sp : Sp) (dvs : List V) (E : L2.St → XK) (t : TA) : TE := fun σ H Q => t σ H fun vs H1 => ∀ y dx, H1 y = none → H1 dx = none → dx ≠ y →
  sp (.ref y :: (vs ++ dvs)) (upd (upd H1 dx (.own y)) y (.ins C dx [])) (fun v H2 => v = .non ∧ Q (.ref y) H2) (E σ)
section
variable {X : Cx} {CX : CXT} {k n : Nat} {f C : Addr} {fd : FuncData} {ps ks : List Str} {sp : Sp} {dvs : List V} {ds : List Value} {E : L2.St → XK} {x m : Str} {p pos apos : Pos} {e o : Expr} {es : List Expr} {kws : List Keyword} {ta : TE} {t tk : TA} {g : List Value → List Value → List Value} {gV : List V → List V → List V}
theorem call_end {pins : List (Addr × Obj)} {σ : L2.St} {H : Hp} {s s' : Shared} {Q : VK} {r : Result} (hx : PassS CX X E) (I : Inv X pins σ H s) (h : CR CX X.stack X.prog X.w H s Q (E σ) r s') :
    (match r with | .ok (.ret u) => EP X pins σ Q u s' | .ok _ => False | .error e => X.xe e s') := by
  cases r with
  | error e => exact hx pins σ H s e s' I h
  | ok fl =>
    cases fl with
    | ret u => exact I.after h
    | next => exact h
    | brk => exact h
    | cont => exact h
/-- the callee runs: us the values as handed, vs the values as bound -/
theorem callG {pins : List (Addr × Obj)} {σ : L2.St} {H : Hp} {s : Shared} {Q : VK} {us bs : List Value} {kw : List (Str × Value)} {vs : List V} (F : FnG X.prog X.w X.K X.mg X.base CX k f fd ps sp) (hgd : X.A.guards = some []) (hr : Room k X.A)
    (hb : BindsTo s fd ⟨us, kw⟩ (ps.zip bs)) (hx : PassS CX X E) (I : Inv X pins σ H s) (r : Vals vs bs) (h : sp vs H Q (E σ)) : wpAny (model X.prog X.w) X.A (call (.ref f) us kw) (EP X pins σ Q) X.xe s :=
  wpAny_call (codeAny_mono (F.run X.A hgd X.stack s H ⟨us, kw⟩ bs vs Q (E σ) hr I.env0 hb r h) fun r s' q => by
    have z := call_end hx I q
    cases r with
    | error e => exact z
    | ok fl => cases fl <;> exact z)
theorem bindsAt {fd : FuncData} {K : PySem.W.Frag} {s : Shared} {us : List Value} {vs : List V} (hb : Binds K fd ps ds) (hd : Vals dvs ds) (X : K.In s.heap) (r : Vals vs us) (hl : (vs ++ dvs).length = ps.length) : BindsTo s fd ⟨us, []⟩ (ps.zip (us ++ ds)) :=
  hb s us X ((r.append hd).length.symm.trans hl)
/-- f(e, ..) -/
theorem pe_cG (F : FnG X.prog X.w X.K X.mg X.base CX k f fd ps sp) (hgd : X.A.guards = some []) (hr : Room k X.A) (hg : Gl X x) (hm : X.mg x = some (.ref f)) (hk : PySem.W.keepIn X.K (.ref f) = true) (hb : Binds X.K fd ps ds) (hd : Vals dvs ds) (hx : PassS CX X E)
    (ha : PA X (e :: es) t) (hdb : (x == ("__debug__" : Str)) = false := by decide) (he : starEach (e :: es) X.env = (false, eval e X.env) :: starEach es X.env := by rfl) (hpl : (backTo pos (starEach es X.env)).any (·.1) = false := by rfl) :
    PE X (.Call (.Name x p) (e :: es) [] pos) (tCallE sp dvs E t) where
  run := fun pins s σ H Q I h => wpAny_Call_Name_kw (ld_glob I hg hm (PySem.W.callWith_K (h₀ := X.base) I.ok.mod.kin hk (thn (ha.run pos pins s σ H _ I h) fun us s1 ⟨vs, H1, I1, r, q⟩ =>
    ⟨I1.kIn, callG F hgd hr (bindsAt hb hd I1.kIn r (F.len _ _ _ _ q)) hx I1 (r.append hd) q⟩) he hpl) hdb)
/-- o.m(e, ..) -/
theorem pe_mG {pl : Sem Bool} (he : PE X o ta) (c : Cls X.K C) (hm : Meth X.K C m f) (F : FnG X.prog X.w X.K X.mg X.base CX k f fd ps sp) (hgd : X.A.guards = some []) (hr : Room k X.A) (hb : Binds X.K fd ps ds) (hd : Vals dvs ds) (hx : PassS CX X E) (ha : PA X (e :: es) t)
    (hst : starEach (e :: es) X.env = (false, eval e X.env) :: starEach es X.env := by rfl) (hpl : (backTo pos (starEach es X.env)).any (·.1) = false := by rfl)
    (ht : eval (.Call (.Attribute o m apos) (e :: es) [] pos) X.env = (do
      let recv ← eval o X.env
      standAt apos.atName
      let (fn, ahead) ← holding [recv] (getMethod recv m pl)
      callWith pos fn ahead (backTo pos (starEach (e :: es) X.env)) (backToKw pos (keywordEach [] X.env))) := by rfl) :
    PE X (.Call (.Attribute o m apos) (e :: es) [] pos) (tMethE C m sp dvs E ta t) where
  run := fun pins s σ H Q I h => by
    refine PySem.W.methodCall_KW (pl := pl) (thn (he.run pins s σ H _ I h) fun u s1 ⟨y, H1, I1, ry, a, dx, fs, ey, ea, l, q⟩ => ?_) ht
    subst ey
    cases ry
    refine getmeth_ok I1 ea c hm l (PySem.W.callWith_K (first := [.ref a]) (h₀ := X.base) I.ok.mod.kin hm.kp (thn (ha.run pos pins s1 σ H1 _ I1 q) fun us s2 ⟨vs, H2, I2, r, q2⟩ => ⟨I2.kIn, ?_⟩) hst hpl)
    exact callG F hgd hr (bindsAt (vs := .ref a :: vs) (us := .ref a :: us) hb hd I2.kIn (.cons rfl r) (F.len _ _ _ _ q2)) hx I2 (vs := .ref a :: (vs ++ dvs)) (.cons rfl (r.append hd)) q2
theorem pe_mG0 {pl : Sem Bool} (he : PE X o ta) (c : Cls X.K C) (hm : Meth X.K C m f) (F : FnG X.prog X.w X.K X.mg X.base CX k f fd ps sp) (hgd : X.A.guards = some []) (hr : Room k X.A) (hb : Binds X.K fd ps ds) (hd : Vals dvs ds) (hx : PassS CX X E)
    (ht : eval (.Call (.Attribute o m apos) [] [] pos) X.env = (do
      let recv ← eval o X.env
      standAt apos.atName
      let (fn, ahead) ← holding [recv] (getMethod recv m pl)
      callWith pos fn ahead (backTo pos (starEach [] X.env)) (backToKw pos (keywordEach [] X.env))) := by rfl) :
    PE X (.Call (.Attribute o m apos) [] [] pos) (tMethE C m sp dvs E ta tNil) where
  run := fun pins s σ H Q I h => by
    refine PySem.W.methodCall_KW (pl := pl) (thn (he.run pins s σ H _ I h) fun u s1 ⟨y, H1, I1, ry, a, dx, fs, ey, ea, l, q⟩ => ?_) ht
    subst ey
    cases ry
    refine getmeth_ok I1 ea c hm l ?_
    exact PySem.W.callWith_K0 (first := [.ref a]) I1.kIn hm.kp (callG F hgd hr (bindsAt (vs := [.ref a]) (us := [.ref a]) hb hd I1.kIn (.cons rfl .nil) (F.len _ _ _ _ q)) hx I1 (vs := .ref a :: dvs) (.cons rfl hd) q)
/-- C(e, ..): the instance is made, __init__ runs; bs: the values as bound -/
theorem made_guards {A : Around} {us : List Value} {kw : List (Str × Value)} (h : A.guards = some []) : (A.under (.builtin "type.__call__" ⟨.ref C :: us, kw⟩)).guards = some [] := by
  have e : (Code.builtin "type.__call__" ⟨.ref C :: us, kw⟩).guards = [] := rfl
  show pushGuards (Code.builtin "type.__call__" ⟨.ref C :: us, kw⟩).guards A.guards = some []
  rw [e, h] <;> rfl
theorem makeG {pins : List (Addr × Obj)} {σ : L2.St} {H : Hp} {s : Shared} {Q : VK} {us : List Value} {kw : List (Str × Value)} {bs : Value → List Value} {bv : V → List V} (M : L2.Mk X.K C f) (F : FnG X.prog X.w X.K X.mg X.base CX k f fd ps sp) (hgd : X.A.guards = some []) (hr : Room (k + 1) X.A)
    (hb : ∀ y s', X.K.In s'.heap → (bv (.ref y)).length = ps.length → BindsTo s' fd ⟨.ref y :: us, kw⟩ (ps.zip (bs (.ref y)))) (hx : PassS CX X E) (I : Inv X pins σ H s) (r : ∀ y, Vals (bv (.ref y)) (bs (.ref y)))
    (h : ∀ y dx, H y = none → H dx = none → dx ≠ y → sp (bv (.ref y)) (upd (upd H dx (.own y)) y (.ins C dx [])) (fun v H2 => v = .non ∧ Q (.ref y) H2) (E σ)) : wpAny (model X.prog X.w) X.A (call (.ref C) us kw) (EP X pins σ Q) X.xe s := by
  have hs := h (s.heap.objs.size + 1) s.heap.objs.size (I.hok.fresh (Nat.le_succ _)) (I.hok.fresh (Nat.le_refl _)) (Nat.ne_of_lt (Nat.lt_succ_self _))
  have J := Inv.made (C := C) I
  have bd := hb (s.heap.objs.size + 1) _ J.kIn (F.len _ _ _ _ hs)
  refine wpAny_call (make_map (f := f) I.kIn M.makes M.init (beq_iff_eq.mp M.fn) (codeAny_mono (F.run _ (made_guards hgd) X.stack _ _ ⟨Value.ref (s.heap.objs.size + 1) :: us, kw⟩ _ _ _ (E σ) (hr.make C us kw) (J.env0.make C us kw) bd (r _) hs) fun rr s' q => ?_))
  have z := call_end hx J q
  cases rr with
  | error e => exact z
  | ok fl =>
    cases fl with
    | ret u =>
      obtain ⟨v, H3, I3, rv, ev, q3⟩ := z
      subst ev
      exact ⟨rv, V.ref (s.heap.objs.size + 1), H3, I3, rfl, q3⟩
    | next => exact z
    | brk => exact z
    | cont => exact z
theorem pe_kG (M : L2.Mk X.K C f) (F : FnG X.prog X.w X.K X.mg X.base CX k f fd ps sp) (hgd : X.A.guards = some []) (hr : Room (k + 1) X.A) (hg : Gl X x) (hm : X.mg x = some (.ref C)) (hb : Binds X.K fd ps ds) (hd : Vals dvs ds) (hx : PassS CX X E)
    (ha : PA X (e :: es) t) (hdb : (x == ("__debug__" : Str)) = false := by decide) (he : starEach (e :: es) X.env = (false, eval e X.env) :: starEach es X.env := by rfl) (hpl : (backTo pos (starEach es X.env)).any (·.1) = false := by rfl) :
    PE X (.Call (.Name x p) (e :: es) [] pos) (tMakeE C sp dvs E t) where
  run := fun pins s σ H Q I h => wpAny_Call_Name_kw (ld_glob I hg hm (PySem.W.callWith_K (h₀ := X.base) I.ok.mod.kin M.kp (thn (ha.run pos pins s σ H _ I h) fun us s1 ⟨vs, H1, I1, r, q⟩ =>
    ⟨I1.kIn, makeG (bs := fun y => y :: (us ++ ds)) (bv := fun y => y :: (vs ++ dvs)) M F hgd hr (fun y s' ki hl => bindsAt (vs := .ref y :: vs) (us := .ref y :: us) hb hd ki (.cons rfl r) hl) hx I1 (fun y => .cons rfl (r.append hd)) q⟩) he hpl) hdb)
end
/-! ### calls by value -/
section
variable {c : Ctx} {ρ : Rho} {S : Sto} {F : D → Sto → Prop} {d : D}
/-- what is wanted of a callee's exception: what the caller wishes, or nothing is raised -/
inductive XOk (c : Ctx) (ρ : Rho) : (L2.St → XK) → (Addr → List (Str × D) → Sto → Prop) → Prop
  | same {Y : Addr → List (Str × D) → Sto → Prop} (h : ∀ C fs S, Y C fs S → c.Y C fs ρ S) : XOk c ρ c.E Y
  | none {E : L2.St → XK} : XOk c ρ E noY
theorem XOk.ok {c : Ctx} {E : L2.St → XK} {Y : Addr → List (Str × D) → Sto → Prop} {ρ : Rho} (x : XOk c ρ E Y) {σ : L2.St} {H : Hp} {S T : Sto} (I : In c σ H ρ S T) :
    ∀ (C : Addr) (y : Option Addr) (fs : List (Str × D)) (S' T' : Sto) (H' : Hp), Mv T H T' H' → Cells c.K H' S' T' → XRep c.K H' T' y fs → Y C fs S' → E σ (.ref C) y H' := by
  cases x with
  | same h => exact fun C y fs S' T' H' m cl x q => I.exc σ ρ C y fs S' T' H' m cl (I.mv m cl).sl x (h C fs S' q)
  | none => exact fun _ _ _ _ _ _ _ _ _ z => z.elim
theorem ve_f {p : Pt} {E : L2.St → XK} {Y} {t : TA} (x : XOk c ρ E Y) (h : VA c t ρ S fun ds S1 => p ds S1 F Y) : VE c (tCallE (spOf c.K p) [] E t) ρ S F := fun T σ H I Q k =>
  h T σ H I _ fun us ds S1 T1 H1 m1 c1 r1 h1 => ⟨ds, S1, T1, F, Y, by rw [List.append_nil]; exact r1, c1, h1, fun v d S2 T2 H2 m2 c2 r2 q => k v d S2 T2 H2 (m1.trans m2) c2 r2 q, x.ok (I.mv m1 c1)⟩
/-- an instance, by value or by reference -/
inductive IsI (S : Sto) : D → Addr → List (Str × D) → Prop
  | v {C : Addr} {fs : List (Str × D)} : IsI S (.ins C fs) C fs
  | c {l C : Addr} {fs : List (Str × D)} (h : S l = some (.ins C fs)) : IsI S (.ref l) C fs
theorem IsI.rd {K : PySem.W.Frag} {H : Hp} {T : Sto} {x : D} {C : Addr} {ds : List (Str × D)} {u : V} (h : IsI S x C ds) (cl : Cells K H S T) (r : Rep K H T u x) : ∃ a dx fs, u = .ref a ∧ H a = some (.ins C dx fs) ∧ RepF K H T fs ds := by
  cases h with
  | v => cases r with | ins s h r => exact ⟨_, _, _, rfl, h, r⟩
  | c h => cases r; obtain ⟨dx, fs, h1, r⟩ := cl.ok _ _ (cl.at h); exact ⟨_, dx, fs, rfl, h1, r⟩
theorem ve_fld {ta : TE} {f : Str} (h : VE c ta ρ S fun x S1 => ∃ C fs e, IsI S1 x C fs ∧ Cls c.K C ∧ NoAttr c.K C f ∧ fs.lookup f = some e ∧ F e S1) : VE c (tFld c.K ta f) ρ S F := fun T σ H I Q k =>
  h T σ H I _ fun vx x S1 T1 H1 m1 c1 r1 ⟨C, fs, e, hi, hc, hn, hl, q⟩ => by
    obtain ⟨a, dx, fv, rfl, ha, r⟩ := hi.rd c1 r1
    obtain ⟨v, h1, h2⟩ := r.lookup hl
    exact ⟨a, C, dx, fv, v, rfl, ha, hc, hn, h1, k v e S1 T1 H1 m1 c1 h2 q⟩
theorem vx_fld {ta tv : TE} {f : Str} {nx bk ct : Rho → Sto → Prop} {rt : D → Sto → Prop} (h : VE c tv ρ S fun y S1 => VE c ta ρ S1 fun x S2 => ∃ l C fs, x = .ref l ∧ S2 l = some (.ins C fs) ∧ Cls c.K C ∧ NoAttr c.K C f ∧ fs.length < 1000 ∧ nx ρ (put S2 l (.ins C (putD f y fs)))) :
    VX c (sFld c.K ta tv f) ρ S ⟨nx, rt, bk, ct⟩ := fun T σ H I D b =>
  h T σ H I _ fun vy y S1 T1 H1 m1 c1 r1 h1 => h1 T1 σ H1 (I.mv m1 c1) _ fun vx x S2 T2 H2 m2 c2 r2 ⟨l, C, fs, e, hl, hc, hn, hz, q⟩ => by
    subst e
    cases r2
    obtain ⟨dx, fv, hx, rf⟩ := c2.ok _ _ (c2.at hl)
    have w := mv_wr (H := H2) (d := .ins C (putD f y fs)) (o := .ins C dx (putF f vy fv)) (c2.at hl)
    have cl' : Cells c.K (upd H2 l (.ins C dx (putF f vy fv))) (put S2 l (.ins C (putD f y fs))) (put T2 l (.ins C (putD f y fs))) := c2.wr (c2.at hl) (cell_i upd_same ((RepF.put (r1.mv m2) rf).mv w))
    exact ⟨l, C, dx, fv, rfl, hx, hc, hn, by rw [rf.length]; exact hz, b.nx σ ρ _ _ _ (m1.trans (m2.trans w)) (I.mv (m1.trans (m2.trans w)) cl') q⟩
theorem ve_mt {p : Pt} {E : L2.St → XK} {Y} {ta : TE} {t : TA} {C : Addr} {m : Str} {dvs : List V} {dds : List D} (x : XOk c ρ E Y) (hd : ∀ H T, RepL c.K H T dvs dds)
    (h : VE c ta ρ S fun y S1 => ∃ fs, IsI S1 y C fs ∧ fs.lookup m = none ∧ VA c t ρ S1 fun ds S2 => p (y :: (ds ++ dds)) S2 F Y) : VE c (tMethE C m (spOf c.K p) dvs E ta t) ρ S F := fun T σ H I Q k =>
  h T σ H I _ fun vy y S1 T1 H1 m1 c1 r1 ⟨fs, hi, hl, h1⟩ => by
    obtain ⟨a, dx, fv, rfl, ha, r⟩ := hi.rd c1 r1
    exact ⟨a, dx, fv, rfl, ha, r.lookup_none hl, h1 T1 σ H1 (I.mv m1 c1) _ fun vs ds S2 T2 H2 m2 c2 r2 h2 => ⟨y :: (ds ++ dds), S2, T2, F, Y, .cons (r1.mv m2) (r2.append (hd _ _)), c2, h2, fun v d S3 T3 H3 m3 c3 r3 q => k v d S3 T3 H3 (m1.trans (m2.trans m3)) c3 r3 q, x.ok (I.mv (m1.trans m2) c2)⟩⟩
/-- a new instance: by reference -/
theorem ve_mk {p : Pt} {E : L2.St → XK} {Y} {t : TA} {C : Addr} {dvs : List V} {dds : List D} (x : XOk c ρ E Y) (hd : ∀ H T, RepL c.K H T dvs dds)
    (h : VA c t ρ S fun ds S1 => ∀ y, S1 y = none → p (.ref y :: (ds ++ dds)) (put S1 y (.ins C [])) (fun d S2 => d = .non ∧ F (.ref y) S2) Y) : VE c (tMakeE C (spOf c.K p) dvs E t) ρ S F := fun T σ H I Q k =>
  h T σ H I _ fun vs ds S1 T1 H1 m1 c1 r1 h1 => fun y dx hy hdx ne => by
    have hy2 : upd H1 dx (.own y) y = none := by rw [upd_ne (Ne.symm ne)]; exact hy
    have n1 : Mv T1 H1 T1 (upd H1 dx (.own y)) := mv_new hdx
    have n2 := mv_newc (S := T1) (d := .ins C []) (o := .ins C dx []) hy2
    have cl := (c1.new (o := .own y) hdx).newc (d := .ins C []) (o := .ins C dx []) hy2 (cell_i upd_same .nil)
    refine ⟨.ref y :: (ds ++ dds), put S1 y (.ins C []), put T1 y (.ins C []), _, Y, .cons (.ref y) ((r1.mv (n1.trans n2)).append (hd _ _)), cl, h1 y (c1.freeS hy), fun v d S3 T3 H3 m3 c3 r3 ⟨ed, q⟩ => ?_, x.ok (I.mv (m1.trans (n1.trans n2)) cl)⟩
    subst ed
    cases r3
    exact ⟨rfl, k _ _ S3 T3 H3 (m1.trans (n1.trans (n2.trans m3))) c3 (.ref y) q⟩
end
end VS
namespace VS
open PySem L2 C8 PySem.Spec PyProof.Rows
/-! ### what is shown: repr, == of data -/
mutual
def pd : D → PyData
  | .non => .none
  | .bl b => .bool b
  | .int i => .int i
  | .str x => .str x
  | .rol xs => .list (pdL xs)
  | .lst xs => .list (pdL xs)
  | .tup xs => .tuple (pdL xs)
  | .dK kvs => .dict (pdK kvs)
  | _ => .none
def pdL : List D → List PyData
  | [] => []
  | x :: xs => pd x :: pdL xs
def pdK : List (Key × D) → List (PyData × PyData)
  | [] => []
  | (k, x) :: xs => ((match k with | .inl i => .int i | .inr z => .str z), pd x) :: pdK xs
end
mutual
def isP : D → Bool
  | .non => true
  | .bl _ => true
  | .int _ => true
  | .str _ => true
  | .lst xs => isPL xs
  | .tup xs => isPL xs
  | .dK kvs => isPK kvs
  | _ => false
def isPL : List D → Bool
  | [] => true
  | x :: xs => isP x && isPL xs
def isPK : List (Key × D) → Bool
  | [] => true
  | (_, x) :: xs => isP x && isPK xs
end
/-- sys.modules is one of the base's objects -/
def SysOk (base : Heap) : Prop := ∃ o, base.get? sysModules = some o
section
variable {X : Cx} {pins : List (Addr × Obj)} {σ : L2.St} {H : Hp} {s : Shared} {T : Sto}
theorem SysOk.ne (hs : SysOk X.base) (I : Inv X pins σ H s) {a : Addr} {o : HO} (h : H a = some o) : sysModules ≠ a := fun e => by
  obtain ⟨ob, hb⟩ := hs
  have q := (I.bs _ _ hb).2
  rw [e, h] at q
  cases q
mutual
/-- told apart from what is known by reference -/
theorem Rep.any {K : PySem.W.Frag} {H : Hp} {S : Sto} : ∀ {v : V} {d : D}, Rep K H S v d → Rep K H (fun _ => none) v d
  | _, _, .non => .non
  | _, _, .bl b => .bl b
  | _, _, .int i => .int i
  | _, _, .str x => .str x
  | _, _, .ty n => .ty n
  | _, _, .ref a => .ref a
  | _, _, .rol s h r => .rol rfl h (RepL.any r)
  | _, _, .rolK h r => .rolK h (RepL.any r)
  | _, _, .lst s h r => .lst rfl h (RepL.any r)
  | _, _, .tup s h r => .tup rfl h (RepL.any r)
  | _, _, .tupK h r => .tupK h (RepL.any r)
  | _, _, .dK s h r => .dK rfl h (RepK.any r)
  | _, _, .ins s h r => .ins rfl h (RepF.any r)
  | _, _, .xcp s h r => .xcp rfl h (RepF.any r)
  | _, _, .xv s h s2 h2 r => .xv rfl h rfl h2 (RepF.any r)
  | _, _, .fn s h s2 h2 r => .fn rfl h rfl h2 (RepL.any r)
theorem RepL.any {K : PySem.W.Frag} {H : Hp} {S : Sto} : ∀ {vs : List V} {ds : List D}, RepL K H S vs ds → RepL K H (fun _ => none) vs ds
  | _, _, .nil => .nil
  | _, _, .cons h t => .cons (Rep.any h) (RepL.any t)
theorem RepK.any {K : PySem.W.Frag} {H : Hp} {S : Sto} : ∀ {vs : List (Key × V)} {ds : List (Key × D)}, RepK K H S vs ds → RepK K H (fun _ => none) vs ds
  | _, _, .nil => .nil
  | _, _, .cons h t => .cons (Rep.any h) (RepK.any t)
theorem RepF.any {K : PySem.W.Frag} {H : Hp} {S : Sto} : ∀ {vs : List (Str × V)} {ds : List (Str × D)}, RepF K H S vs ds → RepF K H (fun _ => none) vs ds
  | _, _, .nil => .nil
  | _, _, .cons h t => .cons (Rep.any h) (RepF.any t)
end
mutual
theorem Rep.reads (hs : SysOk X.base) (I : Inv X pins σ H s) : ∀ (d : D) (v : V) (u : Value), Rep X.K H T v d → isP d = true → L2.RelV v u → ∃ as, Reads s.heap u (pd d) as ∧ sysModules ∉ as
  | .non, _, _, h, _, r => by cases h; cases r; exact ⟨[], .none, by simp⟩
  | .bl b, _, _, h, _, r => by cases h; cases r; exact ⟨[], .bool b, by simp⟩
  | .int i, _, _, h, _, r => by cases h; obtain ⟨t, rfl⟩ := r; exact ⟨[], .int i t, by simp⟩
  | .str x, _, _, h, _, r => by cases h; obtain ⟨t, rfl⟩ := r; exact ⟨[], .str x t, by simp⟩
  | .lst ds, _, _, h, hp, r => by
    cases h with
    | lst st h rl =>
      cases r
      obtain ⟨its, rv, ⟨o, n, ho, hc, _, hd⟩, _⟩ := I.list (SqL.of h)
      obtain ⟨as, hr, hn⟩ := RepL.reads hs I ds _ its rl hp rv
      exact ⟨_, .list ho hc hd hr, by simp only [List.mem_cons, not_or]; exact ⟨hs.ne I h, hn⟩⟩
  | .tup ds, _, _, h, hp, r => by
    cases h with
    | tup st h rl =>
      cases r
      obtain ⟨its, rv, ⟨o, ho, hc, n, hd⟩, _⟩ := I.tuple (SqT.of h)
      obtain ⟨as, hr, hn⟩ := RepL.reads hs I ds _ its rl hp rv
      exact ⟨_, .tuple ho hc hd hr, hn⟩
    | tupK h rl =>
      cases r
      obtain ⟨its, rv, ⟨o, ho, hc, n, hd⟩, _⟩ := I.tuple (.inr h)
      obtain ⟨as, hr, hn⟩ := RepL.reads hs I ds _ its rl hp rv
      exact ⟨_, .tuple ho hc hd hr, hn⟩
  | .dK ds, _, _, h, hp, r => by
    cases h with
    | dK st h rk =>
      cases r
      obtain ⟨_, _, vs, kv, o, es, ep, ho, ex, hd, _, pr, _⟩ := h.ok I.hok
      obtain ⟨as, h1, h2, hn⟩ := RepK.reads hs I ds _ vs es.toList rk hp kv pr
      refine ⟨_, .dict ho ex.1 hd h1 h2, ?_⟩
      simp only [List.append_nil, List.mem_cons, List.mem_append, not_or]
      exact ⟨⟨h.elim (fun h => hs.ne I h) fun ⟨_, h⟩ => hs.ne I h, List.not_mem_nil⟩, hn⟩
  | .ty _, _, _, _, hp, _ => by cases hp
  | .ref _, _, _, _, hp, _ => by cases hp
  | .rol _, _, _, _, hp, _ => by cases hp
  | .hid, _, _, _, hp, _ => by cases hp
  | .ins _ _, _, _, _, hp, _ => by cases hp
  | .xcp _ _ _ _, _, _, _, hp, _ => by cases hp
  | .xv _ _, _, _, _, hp, _ => by cases hp
  | .fn _ _ _, _, _, _, hp, _ => by cases hp
theorem RepL.reads (hs : SysOk X.base) (I : Inv X pins σ H s) : ∀ (ds : List D) (vs : List V) (us : List Value), RepL X.K H T vs ds → isPL ds = true → L2.Vals vs us → ∃ as, ReadsAll s.heap us (pdL ds) as ∧ sysModules ∉ as
  | [], _, _, h, _, r => by cases h; cases r; exact ⟨[], .nil, by simp⟩
  | d :: ds, _, _, h, hp, r => by
    have hp' : (isP d && isPL ds) = true := hp
    rw [Bool.and_eq_true] at hp'
    cases h with
    | cons h t =>
      cases r with
      | cons r1 r2 =>
        obtain ⟨as, q1, n1⟩ := Rep.reads hs I d _ _ h hp'.1 r1
        obtain ⟨bs, q2, n2⟩ := RepL.reads hs I ds _ _ t hp'.2 r2
        exact ⟨_, .cons q1 q2, by simp only [List.mem_append, not_or]; exact ⟨n1, n2⟩⟩
theorem RepK.reads (hs : SysOk X.base) (I : Inv X pins σ H s) : ∀ (ds : List (Key × D)) (vs : List (Key × V)) (us : List (Key × Value)) (es : List DictEntry), RepK X.K H T vs ds → isPK ds = true → KV vs us → Pairs (mixKind X.prog X.w) es us →
    ∃ as, ReadsAll s.heap (es.map (·.key)) ((pdK ds).map (·.1)) [] ∧ ReadsAll s.heap (es.map (·.val)) ((pdK ds).map (·.2)) as ∧ sysModules ∉ as
  | [], _, _, _, h, _, r, p => by cases h; cases r; cases p; exact ⟨[], .nil, .nil, by simp⟩
  | (k, d) :: ds, _, _, _, h, hp, r, p => by
    have hp' : (isP d && isPK ds) = true := hp
    rw [Bool.and_eq_true] at hp'
    cases h with
    | cons h t =>
      cases r with
      | cons r1 r2 =>
        cases p with
        | @cons e kv es kvs p1 p2 p3 =>
          obtain ⟨ek, er⟩ := r1
          obtain ⟨as, q1, n1⟩ := Rep.reads hs I d _ _ h hp'.1 er
          obtain ⟨bs, q2, q3, n2⟩ := RepK.reads hs I ds _ _ _ t hp'.2 r2 p3
          have kk : keyIs k e.key = true := by
            have ek' := ek
            dsimp only at ek'
            rw [ek']
            exact p1
          refine ⟨as ++ bs, ?_, ?_, by simp only [List.mem_append, not_or]; exact ⟨n1, n2⟩⟩
          · rcases keyIs_shape kk with ⟨i, t, e1, e2⟩ | ⟨x, t, e1, e2⟩
            · subst e1
              rw [List.map_cons, e2]
              exact ReadsAll.cons (as := []) (bs := []) (.int i t) q2
            · subst e1
              rw [List.map_cons, e2]
              exact ReadsAll.cons (as := []) (bs := []) (.str x t) q2
          · rw [List.map_cons, p2]
            exact ReadsAll.cons q1 q3
end
end
def rRepr (K : PySem.W.Frag) : CR1 := fun xs H Q => ∃ (v : V) (d : D) (T : Sto), xs = [v] ∧ Rep K H T v d ∧ isP d = true ∧ (pd d).showable = true ∧ (pd d).shown.length ≤ sizeLine ∧ (pd d).depth ≤ 50 ∧ Q (.str (pd d).shown) H
def rNeP (K : PySem.W.Frag) : R2 := fun x y H Q => ∃ (d e : D) (T : Sto), Rep K H T x d ∧ Rep K H T y e ∧ isP d = true ∧ isP e = true ∧ SeqAt.shaped (pd d) = true ∧ SeqAt.shaped (pd e) = true ∧ Q (.bl (!PyData.eqv (pd d) (pd e))) H
section
variable {X : Cx} {k : Nat}
theorem repr_any {pins : List (Addr × Obj)} {σ : L2.St} {H : Hp} {s : Shared} {Q : VK} {u : Value} {d : PyData} {as : List Addr} (hgd : X.A.guards = some []) (hr : Room k X.A) (I : Inv X pins σ H s) (rd : Reads s.heap u d as) (hn : sysModules ∉ as)
    (sh : d.showable = true) (sz : d.shown.length ≤ sizeLine) (dp : d.depth ≤ 50) (q : Q (.str d.shown) H) : wpAny (model X.prog X.w) X.A (call (.builtin "repr") [u]) (EP X pins σ Q) X.xe s := by
  have hu : X.A.units + (d.depth + 1) < cLine := Nat.lt_of_le_of_lt (by omega) hr.units
  have whole : ∀ a, u = .ref a → wpAny (model X.prog X.w) X.A (call (.builtin "repr") [u]) (EP X pins σ Q) X.xe s := fun a e => by
    subst e
    exact repr_of_reads' rd sh (fun _ => hn) hgd hu (fun _ _ e => e) (fun h' u tk hk => ⟨.str d.shown, H, I.kept hk, ⟨_, rfl⟩, q⟩) sz
  cases rd with
  | none => exact PySem.P.repr_of_none ⟨.str (PyData.shown .none), H, I.tok _, ⟨_, rfl⟩, q⟩
  | bool b => exact PySem.P.repr_of_bool ⟨.str (PyData.shown (.bool b)), H, I.tok _, ⟨_, rfl⟩, q⟩
  | int i t => exact PySem.P.repr_of_int (of_decide_eq_true sh) ⟨.str (PyData.shown (.int i)), H, I.tok _, ⟨_, rfl⟩, q⟩
  | str x t => exact PySem.P.repr_of_str ⟨.str (PyData.shown (.str x)), H, I.tok _, ⟨_, rfl⟩, q⟩ sz
  | list h1 h2 h3 h4 => exact whole _ rfl
  | tuple h1 h2 h3 h4 => exact whole _ rfl
  | dict h1 h2 h3 h4 h5 => exact whole _ rfl
theorem c_repr (hgd : X.A.guards = some []) (hr : Room k X.A) (hs : SysOk X.base) : CallR X (.builtin "repr") (rRepr X.K) := by
  intro pins s σ H xs us Q I r h
  obtain ⟨v, d, T, rfl, rp, ip, sh, sz, dp, q⟩ := h
  obtain ⟨u, rfl, rv⟩ := vals1 r
  obtain ⟨as, rd, hn⟩ := Rep.reads hs I d v u rp ip rv
  exact repr_any hgd hr I rd hn sh sz dp q
theorem op_neP (hr : Room k X.A) (hs : SysOk X.base) : OpR X (compareOp .NotEq) (rNeP X.K) := by
  intro pins s σ H x y v u Q I rx ry h
  obtain ⟨d, e, T, r1, r2, i1, i2, s1, s2, q⟩ := h
  obtain ⟨as, h1, _⟩ := Rep.reads hs I d x v r1 i1 rx
  obtain ⟨bs, h2, _⟩ := Rep.reads hs I e y u r2 i2 ry
  exact SeqAt.compareNe_shaped h1 h2 s1 s2 hr.units ⟨.bl _, H, I, rfl, q⟩
end
section
variable {c : Ctx} {ρ : Rho} {S : Sto} {F : D → Sto → Prop}
/-- d, its cells read: what x is when all is known by value -/
inductive Vw (S : Sto) : D → D → Prop
  | v {d : D} : Vw S d d
  | c {l : Addr} {d : D} (h : S l = some d) (n : ¬ NoF d) : Vw S (.ref l) d
theorem Vw.rd {K : PySem.W.Frag} {H : Hp} {T : Sto} {x d : D} {u : V} (h : Vw S x d) (cl : Cells K H S T) (r : Rep K H T u x) : ∃ T', Mk T H T' H ∧ Rep K H T' u d := by
  cases h with
  | v => exact ⟨T, Mv.refl.toMk, r⟩
  | c h n => cases r; exact ⟨_, (mv_del (cl.nohid h n)).toMk, cl.rep (cl.at h) n⟩
theorem rc_repr {x d : D} (h : Vw S x d) (ip : isP d = true) (sh : (pd d).showable = true) (sz : (pd d).shown.length ≤ sizeLine) (dp : (pd d).depth ≤ 50) (q : F (.str (pd d).shown) S) : RC c (rRepr c.K) [x] S F := fun T us H cl r Q k => by
  cases r with
  | cons h1 t =>
    cases t
    obtain ⟨T', _, r'⟩ := h.rd cl h1
    exact ⟨_, d, T', rfl, r', ip, sh, sz, dp, k _ _ S T H Mv.refl cl (.str _) q⟩
theorem rv_neP {x y d e : D} (h1 : Vw S x d) (h2 : Vw S y e) (i1 : isP d = true) (i2 : isP e = true) (s1 : SeqAt.shaped (pd d) = true) (s2 : SeqAt.shaped (pd e) = true) (q : F (.bl (!PyData.eqv (pd d) (pd e))) S) : RV c (rNeP c.K) x y S F := fun T u w H cl r1 r2 Q k => by
  obtain ⟨T1, m1, q1⟩ := h1.rd cl r1
  obtain ⟨T2, m2, q2⟩ := h2.rd cl r2
  exact ⟨d, e, fun _ => none, q1.any, q2.any, i1, i2, s1, s2, k _ _ S T H Mv.refl cl (.bl _) q⟩
end
/-! ### the law's own call -/
end VS
namespace VS
open PySem L2 C8 PySem.Spec PyProof.Rows
/-! ### a def that may be called -/
structure Cf (P : Program) (w : World) (K : PySem.W.Frag) (mg : Str → Option Value) (base : Heap) (CX : CXT) (k : Nat) (x : Str) (st : Stmt) (dvs : List V) (ps : List Str) (p : Pt) (f : Addr) (fd : FuncData) : Prop where
  fn : FnG P w K mg base CX k f fd ps (spOf K p)
  df : Fd K x x st dvs f fd
  mg : mg x = some (.ref f)
  b : Binds K fd ps []
theorem Cf.kp {P : Program} {w : World} {K : PySem.W.Frag} {mg : Str → Option Value} {base : Heap} {CX : CXT} {k : Nat} {x : Str} {st : Stmt} {dvs : List V} {ps : List Str} {p : Pt} {f : Addr} {fd : FuncData} (c : Cf P w K mg base CX k x st dvs ps p f fd) : PySem.W.keepIn K (.ref f) = true := c.df.kp
theorem Cf.v {P : Program} {w : World} {K : PySem.W.Frag} {mg : Str → Option Value} {base : Heap} {CX : CXT} {k : Nat} {x : Str} {st : Stmt} {dvs : List V} {ps : List Str} {p : Pt} {f : Addr} {fd : FuncData} (_ : Cf P w K mg base CX k x st dvs ps p f fd) : Vals [] [] := .nil
/-- arguments by their places among the written ones -/
def pick {α : Type} (idx : List Nat) (us ws : List α) : List α := idx.filterMap fun i => (us ++ ws)[i]?
section
variable {c : Ctx} {ρ : Rho} {S : Sto} {F : D → Sto → Prop} {d : D}
/-! ### the branches of a test -/
theorem br {p A B : Prop} [Decidable p] (h1 : p → A) (h2 : ¬ p → B) : (decide p = true → A) ∧ (decide p = false → B) := ⟨fun h => h1 (of_decide_eq_true h), fun h => h2 (of_decide_eq_false h)⟩
theorem brN {p A B : Prop} [Decidable p] (h1 : ¬ p → A) (h2 : p → B) : ((!decide p) = true → A) ∧ ((!decide p) = false → B) := ⟨fun h => h1 (by simpa using h), fun h => h2 (by simpa using h)⟩
theorem brB {b : Bool} {A B : Prop} (h1 : b = false → A) (h2 : b = true → B) : ((!b) = true → A) ∧ ((!b) = false → B) := ⟨fun h => h1 (by simpa using h), fun h => h2 (by simpa using h)⟩
theorem brT {b : Bool} {A B : Prop} (h : b = true) (a : A) : (b = true → A) ∧ (b = false → B) := ⟨fun _ => a, fun z => (by rw [h] at z; cases z)⟩
theorem brF {b : Bool} {A B : Prop} (h : b = false) (a : B) : (b = true → A) ∧ (b = false → B) := ⟨fun z => (by rw [h] at z; cases z), fun _ => a⟩
/-- [e for x in xs], each by itself -/
theorem ve_lcM (f : D → D) {wi : TI} {g : TG} {tt : TT} {te : TE} {vs : List Nat}
    (h : VI c wi ρ S fun ds S1 => ds.length ≤ 100000 ∧ (∀ d ∈ ds, VGw c vs g d (wipeR ρ vs) S1 fun ρ3 S3 => VT c tt ρ3 S3 fun b S4 => b = true ∧ VE c te ρ3 S4 fun y S5 => y = f d ∧ S5 = S1) ∧ F (.lst (ds.map f)) S1) : VE c (tLc wi g tt te vs) ρ S F := by
  refine ve_lc (fun T σ H I R k => h T σ H I R fun J ds S1 T1 H1 m1 c1 w ⟨h1, h2, h3⟩ => k J ds S1 T1 H1 m1 c1 w ⟨h1, fun i acc S2 => acc = (ds.take i).map f ∧ S2 = S1, ⟨rfl, rfl⟩, ?_, ?_⟩)
  · rintro i d acc S2 hd ⟨e1, rfl⟩ hl T0 u0 σ0 H0 I0 r0 Q0 k0
    refine h2 d (List.mem_of_getElem? hd) T0 u0 σ0 H0 I0 r0 Q0 fun σ' ρ' S' T' H' hw m I' q => k0 σ' ρ' S' T' H' hw m I' ?_
    refine q.imp fun b S4 ⟨hb, hv⟩ => ?_
    subst hb
    refine ⟨fun _ => hv.imp fun y S5 ⟨e2, e3⟩ => ⟨?_, e3⟩, fun z => by cases z⟩
    rw [List.take_succ, hd, e1, e2, List.map_append] <;> rfl
  · rintro acc S2 ⟨e1, rfl⟩ _
    rw [List.take_length] at e1
    rw [e1]
    exact h3
theorem ex_bl {b : Bool} {G : Bool → Prop} (h : G b) : ∃ k, D.bl b = D.bl k ∧ G k := ⟨b, rfl, h⟩
theorem ex_ref {b : Addr} {G : Addr → Prop} (h : G b) : ∃ k, D.ref b = D.ref k ∧ G k := ⟨b, rfl, h⟩
theorem ex_str {b : Str} {G : Str → Prop} (h : G b) : ∃ k, D.str b = D.str k ∧ G k := ⟨b, rfl, h⟩
theorem ex_int {b : Int} {G : Int → Prop} (h : G b) : ∃ k, D.int b = D.int k ∧ G k := ⟨b, rfl, h⟩
theorem cpow {i j : Int} (h0 : 0 ≤ j) (h1 : j ≤ 1000000) (h2 : i.natAbs < 2 ^ 64) : CPow i j := ⟨h0, h1, h2⟩
theorem cmulW {i j : Int} (a : i.natAbs < 2 ^ 64) (b : j.natAbs < 2 ^ 64) : CMulW i j := wide_mul a b (by decide) (by decide) (by decide)
theorem cdivW {i j : Int} (a : 0 < j) (b : j < 2 ^ 128) : CDivW i j := wide_div (b := 128) a (by omega) (by decide) (by decide)
end
end VS
namespace VS
open PySem L2 C8 PySem.Spec PyProof.Rows
theorem szl : 1000000 ≤ sizeLine := by decide
/-! ### texts of plain signs -/
def Asc (n : Nat) (z : Str) : Prop := z.length ≤ n ∧ ∀ c ∈ z.cps.toList, c < 128
theorem str_len (z : Str) : z.cps.toList.length = z.length := Array.length_toList
theorem Asc.mono {n m : Nat} {z : Str} (h : Asc n z) (l : n ≤ m) : Asc m z := ⟨Nat.le_trans h.1 l, h.2⟩
theorem tl_add (x y : Str) : (x ++ y).cps.toList = x.cps.toList ++ y.cps.toList := TL.tl_append x y
theorem len_add (x y : Str) : (x ++ y).length = x.length + y.length := by
  rw [← str_len, ← str_len, ← str_len, tl_add, List.length_append]
theorem Asc.cut {n : Nat} {x : Str} (h : Asc n x) (lo hi : Option Int) : Asc n (cutS x lo hi) := by
  refine ⟨Nat.le_trans (cutS_length x lo hi) h.1, fun c hc => h.2 c ?_⟩
  have hc' : c ∈ (x.cps.toList.drop (HT.sIx x.length 0 lo)).take (HT.sIx x.length x.length hi - HT.sIx x.length 0 lo) := hc
  exact List.mem_of_mem_drop (List.mem_of_mem_take hc')
theorem tl_numT (n : Nat) : (Str.ofString (toString ((n : Nat) : Int))).cps.toList = TL.numL n := TL.tl_num n
/-- a written text -/
theorem Asc.lit {n : Nat} {z : Str} (h : (decide (z.length ≤ n) && z.cps.toList.all (· < 128)) = true) : Asc n z := by
  rw [Bool.and_eq_true, decide_eq_true_eq, List.all_eq_true] at h
  exact ⟨h.1, fun c hc => of_decide_eq_true (h.2 c hc)⟩
theorem Asc.at {n i : Nat} {z : Str} (h : Asc n z) (hi : i < z.length) : ∃ c, atI z.cps.toList (i : Int) = some c ∧ c < 128 := by
  rw [← str_len] at hi
  exact ⟨z.cps.toList[i], atI_nat (List.getElem?_eq_getElem hi), h.2 _ (List.getElem_mem hi)⟩
theorem log_lt {i : Int} {k : Nat} (h : i.natAbs < 2 ^ k) (hk : 0 < k) : i.natAbs.log2 < k := by
  by_cases z : i.natAbs = 0
  · rw [z]
    simpa using hk
  · exact (Nat.log2_lt z).mpr h
theorem rc_strI64 {c : Ctx} {S : Sto} {F : D → Sto → Prop} {i : Int} (h : i.natAbs < 2 ^ 64) (q : F (.str (Str.ofString (toString i))) S) : RC c rStrInt [.int i] S F := rc_strI (Nat.lt_trans (log_lt h (by decide)) (by decide)) q
end VS
namespace VS
open PySem L2 C8 PySem.Spec PyProof.Rows
/-! ### enumerate over a text -/
end VS
namespace VS
open PySem L2 C8 PySem.Spec PyProof.Rows PySem.W
/-! ### list(text) -/
def rListS : CR1 := fun xs H Q => ∃ x : Str, xs = [.str x] ∧ x.length ≤ sizeLine ∧ ∀ l, H l = none → Q (.ref l) (upd H l (.lst (x.cps.toList.map fun n => V.str ⟨#[n]⟩)))
theorem repL_signs {K : PySem.W.Frag} {H : Hp} {T : Sto} : ∀ L : List Nat, RepL K H T (L.map fun n => V.str ⟨#[n]⟩) (L.map fun n => D.str ⟨#[n]⟩)
  | [] => .nil
  | _ :: L => .cons (.str _) (repL_signs L)
section
variable {c : Ctx} {S : Sto} {F : D → Sto → Prop}
theorem rc_listS {x : Str} (hz : x.length ≤ sizeLine) (q : F (.lst (signsD x)) S) : RC c rListS [.str x] S F := fun T us H cl r Q k => by
  cases r with
  | cons h1 t =>
    cases t
    cases h1
    refine ⟨x, rfl, hz, fun l hl => ?_⟩
    have hx : Rep c.K (upd H l (.lst (x.cps.toList.map fun n => V.str ⟨#[n]⟩))) T (.ref l) (.lst (signsD x)) := by
      refine .lst (cl.free hl) upd_same ?_
      exact repL_signs _
    exact k _ _ S T _ (mv_new hl) (cl.new hl) hx q
end
end VS
namespace VS
open PySem L2 C8 PySem.Spec PyProof.Rows
def keyD : Key → D
  | .inl i => .int i
  | .inr x => .str x
theorem keyD_V {K : PySem.W.Frag} {H : Hp} {T : Sto} {k : Key} {v : V} (r : Rep K H T v (keyD k)) : v = kV k := by
  cases k with
  | inl i => cases r; rfl
  | inr x => cases r; rfl
theorem putK_fresh {kvs : List (Key × V)} {k : Key} {v : V} (h : k ∉ kvs.map Prod.fst) : putK kvs k v = kvs ++ [(k, v)] := by
  unfold putK
  rw [if_neg]
  intro z
  rw [List.any_eq_true] at z
  obtain ⟨p, hp, e⟩ := z
  exact h (List.mem_map.mpr ⟨p, hp, of_decide_eq_true e⟩)
theorem mergeK_new : ∀ {more kvs : List (Key × V)}, (kvs.map Prod.fst ++ more.map Prod.fst).Nodup → mergeK kvs more = kvs ++ more
  | [], kvs, _ => (List.append_nil kvs).symm
  | p :: more, kvs, h => by
    show mergeK (putK kvs p.1 p.2) more = _
    have h1 : p.1 ∉ kvs.map Prod.fst := fun z => by
      rw [List.map_cons, List.nodup_append] at h
      exact h.2.2 _ z _ (List.mem_cons_self ..) rfl
    rw [putK_fresh h1, mergeK_new, List.append_assoc]
    · rfl
    · rw [List.map_append, List.append_assoc]
      exact h
theorem repK_keys {K : PySem.W.Frag} {H : Hp} {T : Sto} : ∀ {vs : List (Key × V)} {ds : List (Key × D)}, RepK K H T vs ds → vs.map Prod.fst = ds.map Prod.fst
  | _, _, .nil => rfl
  | _, _, .cons _ t => by rw [List.map_cons, List.map_cons, repK_keys t]
def VPs (c : Ctx) (trs : List (TE × TE)) (ρ : Rho) (S : Sto) (F : List (Key × D) → Sto → Prop) : Prop := ∀ T σ H, In c σ H ρ S T → ∀ Q : List (V × V) → Hp → Prop,
  (∀ kvs es S' T' H', Mv T H T' H' → Cells c.K H' S' T' → RepK c.K H' T' kvs es → F es S' → Q (kvs.map fun kv => (kV kv.1, kv.2)) H') → tPairs trs σ H Q
section
variable {c : Ctx} {ρ : Rho} {S : Sto} {F : D → Sto → Prop} {d : D}
theorem vps_nil {G : List (Key × D) → Sto → Prop} (q : G [] S) : VPs c [] ρ S G := fun T σ H I Q k => k [] [] S T H Mv.refl I.cells .nil q
theorem vps_cons {tk tv : TE} {trs : List (TE × TE)} {G : List (Key × D) → Sto → Prop} (h : VE c tk ρ S fun x S1 => ∃ key, x = keyD key ∧ VE c tv ρ S1 fun y S2 => VPs c trs ρ S2 fun es S3 => G ((key, y) :: es) S3) : VPs c ((tk, tv) :: trs) ρ S G := fun T σ H I Q k =>
  h T σ H I _ fun vx x S1 T1 H1 m1 c1 r1 ⟨key, e, h1⟩ => h1 T1 σ H1 (I.mv m1 c1) _ fun vy y S2 T2 H2 m2 c2 r2 h2 => h2 T2 σ H2 (I.mv (m1.trans m2) c2) _ fun kvs es S3 T3 H3 m3 c3 r3 q => by
    subst e
    cases keyD_V r1
    exact k ((key, vy) :: kvs) ((key, y) :: es) S3 T3 H3 (m1.trans (m2.trans m3)) c3 (.cons (r2.mv m3) r3) q
/-- {k: v, ..}, by value -/
theorem ve_disp {trs : List (TE × TE)} (h : VPs c trs ρ S fun es S1 => es.length ≤ 15 ∧ (es.map Prod.fst).Nodup ∧ F (.dK es) S1) : VE c (tDisp trs) ρ S F := fun T σ H I Q k => fun p hp =>
  h (put T p .hid) σ (upd H p (.dK [])) (I.mv (mv_newc hp) (I.cells.newh hp)) _ fun kvs es S' T' H' m cl r ⟨h1, h2, q⟩ => by
    obtain ⟨hx, s⟩ := m.hid p _ put_same upd_same
    have hl : kvs.length = es.length := by
      have e := congrArg List.length (repK_keys r)
      simpa using e
    refine ⟨hx, kvs, rfl, by rw [hl]; exact h1, ?_⟩
    have em : mergeK [] kvs = kvs := by
      have e := mergeK_new (kvs := []) (more := kvs) (by rw [repK_keys r]; exact h2)
      exact e
    rw [em]
    have mm : Mv T H T' (upd H' p (.dK kvs)) := ((mv_newc (d := .hid) hp).trans m).hidw hp
    refine k _ (.dK es) S' (del T' p) _ (mm.unhid hp) ((cl.hidw s).unhid s) (.dK del_same (.inl upd_same) ((r.mk (mk_hid s)).mk (mk_show s))) q
end
end VS
namespace VS
open PySem L2 C8 PySem.Spec PyProof.Rows
/-! ### how long a shown thing is -/
structure Sh (d : D) (n k : Nat) : Prop where
  p : isP d = true
  s : (pd d).showable = true
  l : (pd d).shown.length ≤ n
  d : (pd d).depth ≤ k
structure ShL (xs : List D) (n k : Nat) : Prop where
  p : isPL xs = true
  s : PyData.showableAll (pdL xs) = true
  l : piled (PyData.shownAll (pdL xs)) ≤ n
  d : PyData.depthAll (pdL xs) ≤ k
theorem Sh.non : Sh .non 4 0 := ⟨rfl, rfl, (by decide +kernel), Nat.le_refl _⟩
theorem Sh.bl (b : Bool) : Sh (.bl b) 5 0 := ⟨rfl, rfl, (by cases b <;> decide +kernel), Nat.le_refl _⟩
theorem Sh.str {n : Nat} {z : Str} (h : Asc n z) : Sh (.str z) (10 * n + 2) 0 := ⟨rfl, rfl, (by
  have q := StrLaws.reprText_len z fun c hc => Nat.lt_of_lt_of_le (h.2 c hc) (by decide)
  have := h.1
  show (reprText z).length ≤ _
  omega), Nat.le_refl _⟩
theorem Sh.int {i : Int} {k : Nat} (h : i.natAbs < 2 ^ k) (hk : 0 < k) (hk2 : k ≤ 1920) : Sh (.int i) (k + 2) 0 := ⟨rfl, (by
  show decide (i.natAbs.log2 < 1920) = true
  exact decide_eq_true (Nat.lt_of_lt_of_le (log_lt h hk) hk2)), (by
  show (Str.ofString (toString i)).length ≤ k + 2
  have up : ∀ m : Nat, m < 2 ^ k → (TL.numL m).length ≤ k := fun m hm => TL.numL_len hk (Nat.lt_of_lt_of_le hm (Nat.pow_le_pow_left (by decide) k))
  cases i with
  | ofNat m =>
    rw [← str_len]
    have e : (Str.ofString (toString (Int.ofNat m))).cps.toList = TL.numL m := tl_numT m
    rw [e]
    have := up m h
    omega
  | negSucc m =>
    have e : toString (Int.negSucc m) = "-" ++ toString (m + 1) := rfl
    rw [e, ← str_len]
    have e2 : (Str.ofString ("-" ++ toString (m + 1))).cps.toList = 45 :: TL.numL (m + 1) := by
      have a : (Str.ofString ("-" ++ toString (m + 1))).cps.toList = ("-" ++ toString (m + 1)).toList.map Char.toNat := TL.tl_ofString _
      have b : TL.numL (m + 1) = (toString (m + 1)).toList.map Char.toNat := (tl_numT (m + 1)).symm.trans (TL.tl_ofString _)
      rw [a, b, String.toList_append, List.map_append]
      rfl
    rw [e2, List.length_cons]
    have := up (m + 1) h
    omega), Nat.le_refl _⟩
theorem ShL.nil : ShL [] 0 0 := ⟨rfl, rfl, Nat.le_refl _, Nat.le_refl _⟩
theorem ShL.cons {d : D} {ds : List D} {a b i j : Nat} (h : Sh d a i) (t : ShL ds b j) : ShL (d :: ds) (a + 2 + b) (max i j) := ⟨by
  show (isP d && isPL ds) = true
  rw [h.p, t.p]; rfl, by
  show ((pd d).showable && PyData.showableAll (pdL ds)) = true
  rw [h.s, t.s]; rfl, by
  show ((pd d).shown.length + 2) + piled (PyData.shownAll (pdL ds)) ≤ _
  have := h.l
  have := t.l
  omega, by
  show max (pd d).depth (PyData.depthAll (pdL ds)) ≤ _
  have := h.d
  have := t.d
  omega⟩
theorem Sh.mono {d : D} {n m k j : Nat} (h : Sh d n k) (a : n ≤ m) (b : k ≤ j) : Sh d m j := ⟨h.p, h.s, Nat.le_trans h.l a, Nat.le_trans h.d b⟩
theorem ShL.mono {d : List D} {n m k j : Nat} (h : ShL d n k) (a : n ≤ m) (b : k ≤ j) : ShL d m j := ⟨h.p, h.s, Nat.le_trans h.l a, Nat.le_trans h.d b⟩
theorem lit1 : ("[" : Str).length = 1 ∧ ("]" : Str).length = 1 ∧ ("(" : Str).length = 1 ∧ (")" : Str).length = 1 ∧ (",)" : Str).length = 2 ∧ ("{" : Str).length = 1 ∧ ("}" : Str).length = 1 ∧ (": " : Str).length = 2 := by decide +kernel
theorem listText_len : ∀ ts : List Str, (listText ts).length ≤ piled ts + 2
  | [] => by decide +kernel
  | t :: r => by
    have h := textFrom_length_pos r 1 (("[" : Str) ++ (if (0 : Nat) > 0 then ", " else "" : String) ++ t) (Nat.succ_pos 0)
    have e : ((("[" : Str) ++ (if (0 : Nat) > 0 then ", " else "" : String) ++ t)).length = 1 + t.length := by
      rw [len_add, len_add]; rfl
    have hX : (listText (t :: r)).length = (textFrom 0 "[" (t :: r)).length + 1 := by
      show (textFrom 0 "[" (t :: r) ++ "]").length = _
      rw [len_add]; rfl
    have hY : (textFrom 0 "[" (t :: r)).length = (textFrom 1 (("[" : Str) ++ (if (0 : Nat) > 0 then ", " else "" : String) ++ t) r).length := rfl
    rw [hX, hY, h, e, piled_cons]; omega
theorem join_len : ∀ ts : List Str, (Str.join ", " ts).length ≤ piled ts
  | [] => by decide +kernel
  | t :: r => by
    have := join_length_add (t :: r) (by simp)
    omega
theorem Sh.lst {xs : List D} {n k : Nat} (h : ShL xs n k) : Sh (.lst xs) (n + 2) (k + 1) := ⟨h.p, h.s, by
  show (listText (PyData.shownAll (pdL xs))).length ≤ _
  have := listText_len (PyData.shownAll (pdL xs))
  have := h.l
  omega, Nat.succ_le_succ h.d⟩
theorem Sh.tup {xs : List D} {n k : Nat} (h : ShL xs n k) : Sh (.tup xs) (n + 3) (k + 1) := ⟨h.p, h.s, by
  show (tupleText (PyData.shownAll (pdL xs))).length ≤ _
  have := join_len (PyData.shownAll (pdL xs))
  have := h.l
  have e := lit1
  unfold tupleText
  rw [len_add, len_add]
  split <;> omega, Nat.succ_le_succ h.d⟩
theorem rc_reprS {c : Ctx} {S : Sto} {F : D → Sto → Prop} {x d : D} {n k : Nat} (h : Vw S x d) (sh : Sh d n k) (hn : n ≤ 1000000) (hk : k ≤ 50) (q : F (.str (pd d).shown) S) : RC c (rRepr c.K) [x] S F :=
  rc_repr h sh.p sh.s (Nat.le_trans sh.l (Nat.le_trans hn szl)) (Nat.le_trans sh.d hk) q
end VS
namespace VS
open PySem L2 C8 PySem.Spec PyProof.Rows
theorem rngD_at {i : Nat} {d : D} {j : Int} (h : (rngD 0 j.toNat)[i]? = some d) : d = .int (i : Nat) ∧ (i : Int) < j := by
  have hi : i < j.toNat := by
    have := (List.getElem?_eq_some_iff.mp h).1
    unfold rngD at this
    simpa using this
  unfold rngD at h
  rw [List.getElem?_map, List.getElem?_range hi] at h
  cases h
  refine ⟨?_, by omega⟩
  show D.int (0 + (i : Int)) = D.int (i : Int)
  rw [Int.zero_add]
theorem mmB {a b l : Int} (h0 : 0 ≤ a) (h : a ≤ b) : 0 ≤ (if (if l < b then l else b) > a then (if l < b then l else b) else a) ∧ (if (if l < b then l else b) > a then (if l < b then l else b) else a) ≤ b := by
  split <;> (try split) <;> omega
/-- for k in range(max(a, min(b, len(script)))) : the cells of a law -/
theorem vi_cells {c : Ctx} {ρ : Rho} {S : Sto} {W : List D → Sto → Prop} {ns : List Int} {a b : Int} {i : Nat} (h0 : 0 ≤ a) (hab : a ≤ b) (hb : b < 1000) (hv : ρ[i]? = some (some (.rol (ns.map .int)))) (h : ∀ j : Int, 0 ≤ j → j ≤ b → W (rngD 0 j.toNat) S) :
    VI c (iRng1 (tCons (tCB rMax2 (tCons (tC (V.int a)) (tCons (tCB rMin2 (tCons (tC (V.int b)) (tCons (tCB (rLen c.K) (tCons (tVar i) tNil)) tNil))) tNil))) tNil)) ρ S W := by
  refine vi_rng1 (va_cons (ve_cb (va_cons (ve_int (va_cons (ve_cb (va_cons (ve_int (va_cons (ve_cb (va_cons (ve_var hv (va_nil (rc_lenQ (.l .r) (va_nil (rc_min2 (va_nil (rc_max2 (va_nil ?_)))))))))))))))))))
  have m := mmB (a := a) (b := b) (l := (((ns.map D.int).length : Nat) : Int)) h0 hab
  generalize (if (if (((ns.map D.int).length : Nat) : Int) < b then (((ns.map D.int).length : Nat) : Int) else b) > a then (if (((ns.map D.int).length : Nat) : Int) < b then (((ns.map D.int).length : Nat) : Int) else b) else a) = j at m ⊢
  exact ⟨j, rfl, by omega, h j m.1 m.2⟩
theorem ex_keyS {z : Str} {G : Key → Prop} (h : G (.inr z)) : ∃ k, D.str z = keyD k ∧ G k := ⟨.inr z, rfl, h⟩
theorem ex_keyI {z : Int} {G : Key → Prop} (h : G (.inl z)) : ∃ k, D.int z = keyD k ∧ G k := ⟨.inl z, rfl, h⟩
end VS
namespace VS
open PySem L2 C8 PySem.Spec PyProof.Rows
/-! ### words -/
def sp (w L : List Nat) : List (List Nat) := TL.spl [32] 0 w L
def W (z : Str) : List Str := Txt.split z " "
theorem joinL_mem (S : List Nat) (c : Nat) : ∀ ps : List (List Nat), c ∈ TL.joinL S ps → c ∈ S ∨ ∃ p ∈ ps, c ∈ p
  | [], h => by cases h
  | [p], h => .inr ⟨p, List.mem_cons_self .., h⟩
  | p :: q :: r, h => by
    have h' : c ∈ p ++ (S ++ TL.joinL S (q :: r)) := h
    rcases List.mem_append.mp h' with h1 | h1
    · exact .inr ⟨p, List.mem_cons_self .., h1⟩
    · rcases List.mem_append.mp h1 with h2 | h2
      · exact .inl h2
      · rcases joinL_mem S c (q :: r) h2 with h3 | ⟨p', h3, h4⟩
        · exact .inl h3
        · exact .inr ⟨p', List.mem_cons_of_mem _ h3, h4⟩
theorem joinL_len' (S : List Nat) {m : Nat} : ∀ ps : List (List Nat), (∀ p ∈ ps, p.length ≤ m) → (TL.joinL S ps).length ≤ ps.length * (m + S.length)
  | [], _ => by simp [TL.joinL]
  | [p], h => by
    have := h p (List.mem_cons_self ..)
    show p.length ≤ 1 * _
    omega
  | p :: q :: r, h => by
    have ih := joinL_len' S (q :: r) fun x hx => h x (List.mem_cons_of_mem _ hx)
    have := h p (List.mem_cons_self ..)
    show (p ++ (S ++ TL.joinL S (q :: r))).length ≤ _
    rw [List.length_append, List.length_append]
    have e : (p :: q :: r).length * (m + S.length) = (q :: r).length * (m + S.length) + (m + S.length) := by
      rw [List.length_cons, Nat.succ_mul]
    omega
theorem Asc.join {n m k : Nat} {x : Str} {ys : List Str} (hx : Asc k x) (h : ∀ y ∈ ys, Asc m y) (hl : ys.length ≤ n) : Asc (n * (m + k)) (Txt.join x ys) := by
  have e : (Txt.join x ys).cps.toList = TL.joinL (TL.tl x) (ys.map TL.tl) := (congrArg TL.tl (TL.join_eq x ys)).trans (TL.tl_join x ys)
  refine ⟨?_, fun c hc => ?_⟩
  · rw [← str_len, e]
    have q := joinL_len' (TL.tl x) (m := m) (ys.map TL.tl) fun p hp => by
      obtain ⟨y, hy, rfl⟩ := List.mem_map.mp hp
      exact Nat.le_trans (Nat.le_of_eq (str_len y)) (h y hy).1
    refine Nat.le_trans q ?_
    rw [List.length_map]
    have hk : (TL.tl x).length ≤ k := Nat.le_trans (Nat.le_of_eq (str_len x)) hx.1
    exact Nat.mul_le_mul hl (by omega)
  · rw [e] at hc
    rcases joinL_mem _ _ _ hc with q | ⟨p, hp, q⟩
    · exact hx.2 c q
    · obtain ⟨y, hy, rfl⟩ := List.mem_map.mp hp
      exact (h y hy).2 c q
/-! ### text * int, list * int, extend, split by value -/
section
variable {c : Ctx} {ρ : Rho} {S : Sto} {F : D → Sto → Prop} {d : D}
theorem RepL.rep {K : PySem.W.Frag} {H : Hp} {T : Sto} {xs : List V} {ds : List D} (r : RepL K H T xs ds) : ∀ n : Nat, RepL K H T (List.replicate n xs).flatten (List.replicate n ds).flatten
  | 0 => .nil
  | n + 1 => by
    rw [List.replicate_succ, List.replicate_succ, List.flatten_cons, List.flatten_cons]
    exact r.append (RepL.rep r n)
end
/-- all that was there is there -/
def Ext (S S' : Sto) : Prop := ∀ q d, S q = some d → S' q = some d
theorem Ext.refl {S : Sto} : Ext S S := fun _ _ h => h
theorem Ext.trans {S S' S'' : Sto} (a : Ext S S') (b : Ext S' S'') : Ext S S'' := fun q d h => b q d (a q d h)
theorem Ext.put {S : Sto} {p : Addr} {d : D} (h : S p = none) : Ext S (put S p d) := fun q e hq => by
  rw [put_ne]
  · exact hq
  · intro z; subst z; rw [h] at hq; cases hq
theorem Ext.wr {S S' : Sto} {p : Addr} {d : D} (h : S p = none) (x : Ext S S') : Ext S (VS.put S' p d) := fun q e hq => by
  rw [put_ne]
  · exact x q e hq
  · intro z; subst z; rw [h] at hq; cases hq
theorem atI_mem {α : Type} {xs : List α} {i : Int} (h0 : 0 ≤ i) (h1 : i < xs.length) : ∃ x ∈ xs, atI xs i = some x := by
  obtain ⟨k, rfl⟩ := Int.eq_ofNat_of_zero_le h0
  have hk : k < xs.length := Int.ofNat_lt.mp h1
  exact ⟨xs[k], List.getElem_mem hk, atI_nat (List.getElem?_eq_getElem hk)⟩
/-- all that was there, but for what lies at p, is there -/
def Ex1 (p : Addr) (S S' : Sto) : Prop := ∀ q d, q ≠ p → S q = some d → S' q = some d
theorem Ex1.refl {p : Addr} {S : Sto} : Ex1 p S S := fun _ _ _ h => h
theorem Ex1.trans {p : Addr} {S S' S'' : Sto} (a : Ex1 p S S') (b : Ex1 p S' S'') : Ex1 p S S'' := fun q d h e => b q d h (a q d h e)
theorem Ext.ex1 {p : Addr} {S S' : Sto} (a : Ext S S') : Ex1 p S S' := fun q d _ e => a q d e
theorem Ex1.wr {S S' : Sto} {p l : Addr} {d : D} (h : S l = none) (x : Ex1 p S S') : Ex1 p S (VS.put S' l d) := fun q e n hq => by
  rw [put_ne]
  · exact x q e n hq
  · intro z; subst z; rw [h] at hq; cases hq
/-- within a comprehension's block: K named -/
theorem kC {X : Cx} {K : PySem.W.Frag} {v : Value} {r : PySem.W.Frag → CR1} (c : CallR X v (r X.K)) (h : X.K = K := by rfl) : CallR X v (r K) := h ▸ c
theorem ShL.uncons {d : D} {ds : List D} {n k : Nat} (h : ShL (d :: ds) n k) : ∃ a b, Sh d a k ∧ ShL ds b k ∧ a + 2 + b ≤ n := by
  have hp : (isP d && isPL ds) = true := h.p
  have hs : ((pd d).showable && PyData.showableAll (pdL ds)) = true := h.s
  have hl : ((pd d).shown.length + 2) + piled (PyData.shownAll (pdL ds)) ≤ n := h.l
  have hd : max (pd d).depth (PyData.depthAll (pdL ds)) ≤ k := h.d
  rw [Bool.and_eq_true] at hp hs
  exact ⟨_, _, ⟨hp.1, hs.1, Nat.le_refl _, by omega⟩, ⟨hp.2, hs.2, Nat.le_refl _, by omega⟩, hl⟩
theorem ShL.append : ∀ {xs ys : List D} {a b k : Nat}, ShL xs a k → ShL ys b k → ShL (xs ++ ys) (a + b) k
  | [], ys, a, b, k, _, h => h.mono (by omega) (Nat.le_refl _)
  | x :: xs, ys, a, b, k, h, h2 => by
    obtain ⟨c, e, h3, h4, h5⟩ := h.uncons
    exact ((ShL.cons h3 (ShL.append h4 h2)).mono (by omega) (by omega))
end VS
namespace VS
open PySem L2 C8 PySem.Spec PyProof.Rows
/-! ### x in a tuple of data -/
section
variable {c : Ctx} {ρ : Rho} {S : Sto} {F : D → Sto → Prop}
theorem ve_dnew (q : F (.dK []) S) : VE c tDNewK ρ S F := fun T σ H I Q k => fun p hp =>
  k _ (.dK []) S T _ (mv_new hp) (I.cells.new hp) (.dK (I.cells.free hp) (.inl upd_same) .nil) q
end
theorem Sh.dic0 : Sh (.dK []) 2 1 := ⟨rfl, rfl, (by show (dictText []).length ≤ 2; decide +kernel), Nat.le_refl _⟩
end VS
namespace VS
open PySem L2 PySem.Spec PyProof.Rows
/-! ### own exception classes over any exception of the language -/
/-- what the written part's chain bm of classes (made by nid) must have -/
structure BmG (bm : List Value) (nid : String) : Prop where
  fact : ∃ B ini bmB, ExcBaseFacts B nid ini bmB ∧ bm.contains (.type B) = true
  noA : bm.contains (.type "AttributeError") = false
  noN : bm.contains (.type "NameError") = false
  obj : bm.contains (.type "object") = true
  pass : ∀ self, refuseLoop self "__setattr__" bm = pure ()
theorem BmG.ne {bm : List Value} {nid : String} (b : BmG bm nid) : bm.isEmpty = false := by
  cases bm with
  | nil => exact absurd b.obj (by decide)
  | cons _ _ => rfl
theorem BmG.up {bm : List Value} {nid : String} {c : Addr} (b : BmG bm nid) : BmG (.ref c :: bm) nid := by
  have k : ∀ X : String, (Value.ref c :: bm).contains (.type X) = bm.contains (.type X) := fun X => by rw [List.contains_cons]; rfl
  obtain ⟨B, ini, bmB, F, h⟩ := b.fact
  exact ⟨⟨B, ini, bmB, F, (k B).trans h⟩, (k _).trans b.noA, (k _).trans b.noN, (k _).trans b.obj, fun self => by rw [refuseLoop_ref]; exact b.pass self⟩
theorem bmG_VE : BmG [.type "ValueError", .type "Exception", .type "BaseException", .type "object"] "ValueError.__new__" := ⟨⟨_, _, _, F.excBase_ValueError, by decide +kernel⟩, by decide +kernel, by decide +kernel, by decide +kernel, fun self => by kernel_rfl⟩
theorem bmG_LE : BmG [.type "LookupError", .type "Exception", .type "BaseException", .type "object"] "LookupError.__new__" := ⟨⟨_, _, _, F.excBase_LookupError, by decide +kernel⟩, by decide +kernel, by decide +kernel, by decide +kernel, fun self => by kernel_rfl⟩
structure OexG (K : PySem.W.Frag) (C : Addr) : Prop where
  cls : ∃ nm q N bs bm sn sub ab col dd k0 k1 k2 k3 k5 nid, K.lookup C = some (excClassObj nm q C N bs bm true sn sub ab col dd k0 k1 k2 k3 k5 nid) ∧ BmG bm nid
  sa : PySem.W.findIn K (.ref C) "__setattr__" = some (some (.builtin "object.__setattr__"))
  exC : PySem.W.subIn K (.ref C) (.type "BaseException") = some true
  tyC : PySem.W.typeIn K (.ref C) = some (.type "type")
  kC : PySem.W.keepIn K (.ref C) = true
end VS
namespace PySem
namespace VSX
open VS HandSPX Builtin PySem.Calls
section
variable {M : Model} {prog : Program} {w : World} {A : Around} {E : Value → Shared → Prop} {R : Result → Shared → Prop} {h : Heap} {g : Array GenState} {d : Drawn} {t : Nat} {os : OsState}
variable {nm q : Str} {C N : Addr} {bs bm : List Value} {hdct : Bool} {sn : List Str} {sub : List Value} {ab : Bool} {col : Option Bool} {dd : Option Addr} {k0 k1 k2 k3 k5 : Option Value} {nid : String}
theorem upC {bm : List Value} {X : String} {v : Bool} {C : Addr} (e : bm.contains (.type X) = v) : (Value.ref C :: bm).contains (.type X) = v := by rw [List.contains_cons, e]; rfl
theorem new_ownG (b : BmG bm nid) {rest : List Value} (hC : h.get? C = some (excClassObj nm q C N bs bm hdct sn sub ab col dd k0 k1 k2 k3 k5 nid))
    (hq : R (.ok (.ret (.ref (h.objs.size + 1)))) ⟨(h.push (PySem.W.kdv_tup rest)).push (excO C h.objs.size), g, d, t, os⟩) (hrest : rest.length ≤ sizeLine) :
    codeAny (model prog w) A (.builtin nid ⟨.ref C :: rest, []⟩) R ⟨h, g, d, t, os⟩ := by
  obtain ⟨B, ini, bmB, F, hB⟩ := b.fact
  have hcB := upC (C := C) hB
  have hcA := upC (C := C) b.noA
  have hcN := upC (C := C) b.noN
  have hends := F.ends
  refine codeAny_builtinAt F.entry ?_
  unfold Builtin.«BaseException.__new__»
  refine wpAt_bind ?_
  show wpAt _ _ _ (stack >>= _) _ _ _
  refine wpAt_bind (wpAt_stack fun p below => wpAt_of_wpAny ?_)
  wp_walk
  refine wpAt_of_wpAny ?_
  rw [F.owner]
  repeat (first | with_reducible refine wpAny_madeHere_exc F.canon hC ?_ | with_reducible refine wpAny_loadPart_at hC ?_ | (with_reducible refine wpAny_isSubtype_exc hC ?_; first | rw [hcB] | rw [hcA] | rw [hcN]) | wp_step)
  show R _ _
  rw [Heap.size_push]
  exact hq
theorem type_callG (b : BmG bm nid) {rest : List Value} {fI : Addr} {Q : Fin → Shared → Prop}
    (hC : h.get? C = some (excClassObj nm q C N bs bm hdct sn sub ab col dd k0 k1 k2 k3 k5 nid))
    (hi : PySem.W.Looks (model prog w) h (typeLookup (.ref C) "__init__") (some (.ref fI))) (hb : ∀ self, PySem.W.Looks (model prog w) h (bindSpecial (.ref fI) self) (.ref fI, [self])) (hrest : rest.length ≤ sizeLine)
    (hq : codeAny (model prog w) A (.call (.ref fI) ⟨.ref (h.objs.size + 1) :: rest, []⟩)
      (fun r s' => match r with | .ok (.ret v) => v = .none ∧ Q (.done (.ret (.ref (h.objs.size + 1)))) s' | .ok _ => False | .error e => E e s')
      ⟨(h.push (PySem.W.kdv_tup rest)).push (excO C h.objs.size), g, d, t, os⟩) :
    wpAny (model prog w) A (Builtin.«type.__call__» ⟨.ref C :: rest, []⟩) Q E ⟨h, g, d, t, os⟩ := by
  obtain ⟨B, ini, bmB, F, hB⟩ := b.fact
  have hcB := upC (C := C) hB
  have hcA := upC (C := C) b.noA
  have hcN := upC (C := C) b.noN
  repeat (first | with_reducible refine wpAny_loadPart_at hC ?_ | with_reducible refine wpAny_madeBy_exc hC ?_ | wp_step)
  refine codeAny_call_builtin_code (Code.quiet_builtin _ F.quiet) ?_
  have hstar := F.noStar
  simp only [checkBuiltinCall, F.newKind, F.newSplit, F.newRow]
  repeat (first | refine wpAny_loadPart_at hC ?_ | (refine wpAny_isSubtype_exc hC ?_; rw [hcB]) | refine wpAny_staticBase_exc hC ?_ | refine wpAny_madeBy_exc hC ?_ | simp only [bne_self_eq_false, Bool.false_eq_true, if_false] | wp_step)
  refine new_ownG b hC ?_ hrest
  show wpAny _ _ _ _ _ _
  have k : ∀ b o, h.get? b = some o → ((h.push (PySem.W.kdv_tup rest)).push (excO C h.objs.size)).get? b = some o := fun b o e => Heap.get?_push_of_some _ (Heap.get?_push_of_some _ e)
  have hC₁ := k _ _ hC
  have hget : ((h.push (PySem.W.kdv_tup rest)).push (excO C h.objs.size)).get? (h.objs.size + 1) = some (excO C h.objs.size) := by heap_get
  have hcC : (Value.ref C :: bm).contains (.ref C) = true := by simp
  have i1 := hi.keeps k
  have b1 := (hb (.ref (h.objs.size + 1))).keeps k
  unfold isInstance
  repeat (first | with_reducible refine wpAny_loadPart_at hget ?_ | (with_reducible refine wpAny_isSubtype_exc hC₁ ?_; rw [hcC]) | wp_step)
  show wpAny _ _ (typeLookup (.ref C) _) _ _ _
  refine i1.at ?_
  refine wpAny_holding (wpAny_bind (b1.at ?_))
  refine wpAny_bind (wpAny_call (codeAny_mono hq fun r s' z => ?_))
  rcases r with e | (v | _ | _ | _) <;> first | exact z | exact z.elim | skip
  obtain ⟨rfl, z⟩ := z
  first
    | exact wpAny_pure (wpAny_pure z)
    | (wp_walk; exact z)
theorem call_ownG (b : BmG bm nid) {rest : List Value} {fI : Addr}
    (hC : h.get? C = some (excClassObj nm q C N bs bm hdct sn sub ab col dd k0 k1 k2 k3 k5 nid))
    (hi : PySem.W.Looks (model prog w) h (typeLookup (.ref C) "__init__") (some (.ref fI))) (hb : ∀ self, PySem.W.Looks (model prog w) h (bindSpecial (.ref fI) self) (.ref fI, [self])) (hrest : rest.length ≤ sizeLine)
    (hq : codeAny (model prog w) (A.under (.builtin "type.__call__" ⟨.ref C :: rest, []⟩)) (.call (.ref fI) ⟨.ref (h.objs.size + 1) :: rest, []⟩) (PySem.W.InitBack (h.objs.size + 1) R)
      ⟨(h.push (PySem.W.kdv_tup rest)).push (excO C h.objs.size), g, d, t, os⟩) :
    codeAny (model prog w) A (.call (.ref C) ⟨rest, []⟩) R ⟨h, g, d, t, os⟩ := by
  have f1 := tc_lookup
  have f2 := tc_bind (.ref C)
  have hTy : (⟨h, g, d, t, os⟩ : Shared).TypeIs (.ref C) "type" := ⟨_, hC, rfl⟩
  refine codeAny_of_tree ?_
  show wpAny _ _ (callAny (.ref C) _) _ _ _
  repeat (any_goals (first | assumption | with_reducible refine wpAny_loadPart_at hC ?_ | wp_step))
  refine ⟨rfl, ?_⟩
  refine codeAny_call_builtin_at (Code.quiet_builtin _ (by decide +kernel)) entry_typeCall (wpAny_check_type_call_sub hC (type_callG b hC hi hb hrest ?_))
  refine codeAny_mono hq fun r s' z => ?_
  rcases r with e | (v | _ | _ | _) <;> exact z
end
section
open Builtin.ObjectAttr
variable {prog : Program} {w : World} {A : Around} {E : Value → Shared → Prop} {R : Result → Shared → Prop} {hp : Heap} {g : Array GenState} {d : Drawn} {t : Nat} {os : OsState}
theorem exc_osaG {K : W.Frag} {name : Str} {tk : Tok} {v : Value} {x C : Addr} {fv : Array Value} {cd : ClassData} {nid : String} {bm : List Value}
    (X : K.In hp) (hx : hp.get? x = some { cls := .ref C, data := .fields fv }) (hcd : W.clsIn K C = some cd) (b : BmG bm nid) (hm : cd.mro = .ref C :: bm) (hh : cd.hasDict = true) (ha : W.findIn K (.ref C) name = some none)
    (hq : ∀ h' tk' dx, (∀ b o, b ≠ x → hp.get? b = some o → h'.get? b = some o) → hp.objs.size ≤ dx → dx ≠ x → h'.get? x = some { cls := .ref C, dict := some dx, data := .fields fv } →
      h'.Ns1 dx (fun y => if y = name then some v else none) → R (.ok (.ret .none)) ⟨h', g, d, tk', os⟩) :
    codeAny (model prog w) A (.call (.builtin "object.__setattr__") ⟨[.ref x, .str name tk, v], []⟩) R ⟨hp, g, d, t, os⟩ := by
  have I : W.InstAt hp x { cls := .ref C, data := .fields fv } C none := ⟨hx, rfl, rfl, trivial⟩
  have SF := F.store_object
  have ne : cd.mro.isEmpty = false := by rw [hm]; rfl
  have hob : cd.mro.contains (.type "object") = true := by rw [hm]; exact b.up.obj
  have hps : refuseLoop (.ref x) "__setattr__" cd.mro = pure () := by rw [hm]; exact b.up.pass _
  have hxs : x ≠ hp.objs.size := Nat.ne_of_lt (Heap.lt_size hx)
  have sub : W.Looks (model prog w) hp (isInstance (.ref x) (.type "object")) true := I.type.andThen (W.looks_mroIn X (by unfold W.mroIn; rw [hcd, Option.bind_some, if_neg (by rw [ne]; decide), hob]))
  refine codeAny_call_builtin SF.slot.plain SF.entry (@W.check_slot (model prog w) _ _ ⟨hp, g, d, t, os⟩ "object.__setattr__" "object" "__setattr__" (.ref x) [.str name tk, v] [] _ SF.kind SF.split sub (SF.args (.ref x) (.str name tk) v) ?_)
  have hmr : W.Looks (model prog w) hp (mroOf (.ref C)) cd.mro := (W.looks_clsIn X hcd).andThen .now
  have L3 : W.Looks (model prog w) hp (storeTaker? none) none := .now
  have hcls : W.Looks (model prog w) hp (classData C) cd := W.looks_clsIn X hcd
  rw [W.osa_eq, refuse_eq]
  refine wpAny_bind (wpAny_bind (I.type.at (wpAny_bind (hmr.at ?_))))
  rw [hps]
  refine wpAny_pure (wpAny_bind (I.type.at (wpAny_bind ((W.looks_findIn X ha).at (wpAny_bind (L3.at ?_))))))
  show wpAny _ _ (storeInOwnDict (.ref x) (.ref C) (.str name tk) name v false) _ _ _
  obtain ⟨nm, bs, mro, ns, qn, hd, sn, sb, ab, col, del⟩ := cd
  dsimp only at hh
  subst hh
  unfold storeInOwnDict ownDictForStores
  repeat (first | with_reducible refine store_in_new ?_ ?_ | with_reducible refine wpAny_loadPart_at hx ?_ | with_reducible refine hcls.at ?_ | wp_step)
  · exact ⟨_, #[], _, (Heap.get?_update_ne _ _ _ _ hxs.symm).trans (Heap.get?_push_at rfl rfl), rfl, fun e he => absurd he (by simp), fun _ => rfl⟩
  · intro h' tk' hn' hs
    have hx₁ : (hp.push { cls := .type "dict", data := .dict #[] }).get? x = some { cls := .ref C, data := .fields fv } := Heap.get?_push_of_some _ hx
    refine hq h' tk' hp.objs.size (fun b o hb ho => ?_) (Nat.le_refl _) hxs.symm ?_ hn'
    · exact (hs.2 b (Nat.ne_of_lt (Heap.lt_size ho))).trans ((Heap.get?_update_ne _ _ _ _ hb).trans (Heap.get?_push_of_some _ ho))
    · exact (hs.2 x hxs).trans (Heap.get?_update_self _ hx₁ rfl)
end
end VSX
end PySem
namespace VS
open PySem L2 PySem.Spec PyProof.Rows PySem.VSX
theorem ost_newG {X : Cx} {pins : List (Addr × Obj)} {σ : L2.St} {H : Hp} {s : Shared} {a C : Addr} {f : Str} {y : V} {u : Value} {Q : Unit → Shared → Prop} {E : Value → Shared → Prop} {A : Around} (T : OexG X.K C) (I : Inv X pins σ H s) (e : H a = some (exo a C none)) (hno : PySem.W.findIn X.K (.ref C) f = some none) (ry : RelV y u)
    (h : ∀ dx s', H dx = none → dx ≠ a → Inv X pins σ (upd (upd H dx (exd dx [(f, y)])) a (exo a C (some dx))) s' → Q () s') : wpAny (model X.prog X.w) A (setAttr (.ref a) f u) Q E s := by
  obtain ⟨nm, q, N, bs, bm, sn, sub, ab, col, dd, k0, k1, k2, k3, k5, nid, hC, hbm⟩ := T.cls
  have hcl : PySem.W.clsIn X.K C = some { name := nm, bases := bs, mro := .ref C :: bm, ns := N, qualname := q, hasDict := true, slotNames := sn, subclasses := sub, abstract := ab, collection := col, hasDel := false } := by unfold PySem.W.clsIn; rw [hC] <;> rfl
  obtain ⟨t1, ho⟩ := exo_at I.hok e
  obtain ⟨hp, g, d, t, os⟩ := s
  refine PySem.W.set_plain I.kIn (ox := { cls := .ref C, dict := none, data := .fields #[.ref t1, .none, .none, .none, .bool false, .none] }) (od := none) ⟨ho, rfl, rfl, trivial⟩ T.sa ?_
  refine exc_osaG I.kIn ho hcl hbm rfl rfl hno (fun h' tk' dx k dn dne hx hn => ?_)
  have hnd : H dx = none := I.hok.fresh dn
  have nd : ∀ {b : Addr} {o : Obj}, hp.get? b = some o → b ≠ dx := fun {b o} q => Nat.ne_of_lt (Nat.lt_of_lt_of_le (Heap.lt_size q) dn)
  have na : ∀ {b : Addr}, H b = none → b ≠ a := fun {b} n z => by
    rw [z, e] at n
    cases n
  have Un1 : Un X.fs [] H (upd (upd H dx (exd dx [(f, y)])) a (exo a C (some dx))) hp h' := {
    keep := fun b o q n _ _ => k b o (na n) q
    slot := fun b o q n _ _ => ⟨o.slots, k b o (na n) q⟩
    free := fun b o q n _ => by rw [upd_ne (na n), upd_ne (nd q)]; exact n
    there := fun b o q _ => by
      by_cases hb : b = a
      · exact ⟨_, by rw [hb]; exact hx⟩
      · exact ⟨o, k b o hb q⟩
    tups := fun b xs q => by rw [upd_ne (at_ne e q exo_tup), upd_ne (ne_of_none q hnd)]; exact q
    frzs := fun b o v q => by rw [upd_ne (at_ne e q exo_frz), upd_ne (ne_of_none q hnd)]; exact q
    tbls := fun b ps q => ⟨#[], by rw [upd_ne (at_ne e q exo_tbl), upd_ne (ne_of_none q hnd), q]; simp⟩ }
  refine h dx _ hnd dne (I.un (t' := tk') Un1 fun b o q => ?_)
  by_cases hb : b = a
  · subst hb
    rw [upd_same] at q
    cases q
    exact exo_ok hx
  · rw [upd_ne hb] at q
    by_cases hd : b = dx
    · subst hd
      rw [upd_same] at q
      cases q
      exact exd_ok hn (relO_put (fs := []) ry fun g => True.intro)
    · rw [upd_ne hd] at q
      exact (I.hok b o q).stay (fun c v hc z => k c v (by
          rcases hc with hc | hc
          · rw [hc]
            exact hb
          · exact at_ne e hc exo_own) z)
        (fun c hc => by rw [upd_ne (at_ne e hc exo_own), upd_ne (ne_of_none hc hnd)]; exact hc) (fun c xs hc => by rw [upd_ne (at_ne e hc exo_tup), upd_ne (ne_of_none hc hnd)]; exact hc)
/-- self.f = e, the only field -/
def tOstG (K : PySem.W.Frag) (f : Str) (to te : TE) : TS := fun D σ H => te σ H fun y H1 => to σ H1 fun x H2 => ∃ a C : Addr, x = .ref a ∧ OexG K C ∧ PySem.W.findIn K (.ref C) f = some none ∧
  H2 a = some (exo a C none) ∧ ∀ dx, H2 dx = none → dx ≠ a → D.nx σ (upd (upd H2 dx (exd dx [(f, y)])) a (exo a C (some dx)))
section
variable {X : Cx} {o e : Expr} {es : List Expr} {to te : TE} {ta : TA} {f : Str} {p p' p1 p2 pos : Pos}
theorem ps_ostG (ho : PE X o to) (he : PE X e te) (hs : swapsWith e (some (.Attribute o f p')) pos.line X.env = pure false := by rfl) : PS X (.Assign [.Attribute o f p'] e pos) (tOstG X.K f to te) := by
  refine ⟨fun pins s σ H D I h => ?_⟩
  refine plainObj_wpAny_Assign_Attribute (thn (he.run pins s σ H _ I h) fun v s1 ⟨y, H1, I1, r1, q1⟩ => thn (ho.run pins s1 σ H1 _ I1 q1) fun u s2 ⟨x, H2, I2, r2, a, C, ex, T, hno, ea, q⟩ => ?_) hs
  subst ex
  obtain rfl : u = Value.ref a := r2
  exact ost_newG T I2 ea hno r1 fun dx s' n ne J => ⟨σ, _, J, q dx n ne⟩
theorem pmk_oexG {CX : CXT} {x : Str} {C fI : Addr} {k : Nat} {fd : FuncData} {ps : List Str} {sp : Sp} {ds : List Value} {dvs : List V} (T : OexG X.K C) (iC : PySem.W.findIn X.K (.ref C) "__init__" = some (some (.ref fI))) (tI : PySem.W.typeIn X.K (.ref fI) = some (.type "function"))
    (F1 : FnOk X.prog X.w X.K X.mg X.base CX k fI fd ps sp) (hr : Room (k + 1) X.A) (hb : Binds X.K fd ps ds) (hd : Vals dvs ds) (hx : Passes CX X (fun _ _ _ => False)) (hg : Gl X x) (hm : X.mg x = some (.ref C)) (ha : PA X (e :: es) ta)
    (hdb : (x == ("__debug__" : Str)) = false := by decide) (he : starEach (e :: es) X.env = (false, eval e X.env) :: starEach es X.env := by rfl) (hpl : (backTo pos (starEach es X.env)).any (·.1) = false := by rfl) :
    PMk X (.Call (.Name x p) (e :: es) [] pos) (tMkO C sp dvs ta) := by
  intro pins s σ H Q I h
  obtain ⟨nm, q, N, bs, bm, sn, sub, ab, col, dd, k0, k1, k2, k3, k5, nid, hC, hbm⟩ := T.cls
  refine wpAny_Call_Name_kw (ld_glob I hg hm ?_ hdb)
  refine PySem.W.callWith_K (h₀ := X.base) I.ok.mod.kin T.kC (thn (ha.run pos pins s σ H _ I h) fun us s1 ⟨vs, H1, I1, r1, hz, q1⟩ => ⟨I1.kIn, ?_⟩) he hpl
  show wpAny _ _ (call (.ref C) us) _ _ _
  obtain ⟨hp, g, dr, tk, os⟩ := s1
  have hsz : hp.objs.size ≤ hp.objs.size + 1 := Nat.le_succ _
  have hn : H1 (hp.objs.size + 1) = none := I1.hok.fresh hsz
  have hq := q1 (hp.objs.size + 1) hn
  have kk : ∀ b o, hp.get? b = some o → ((hp.push (PySem.W.kdv_tup us)).push (PySem.HandSPX.excO C hp.objs.size)).get? b = some o := fun b o e => Heap.get?_push_of_some _ (Heap.get?_push_of_some _ e)
  have hget : ((hp.push (PySem.W.kdv_tup us)).push (PySem.HandSPX.excO C hp.objs.size)).get? (hp.objs.size + 1) = some (PySem.HandSPX.excO C hp.objs.size) := by heap_get
  have I2 : Inv X pins σ (upd H1 (hp.objs.size + 1) (exo (hp.objs.size + 1) C none)) ⟨(hp.push (PySem.W.kdv_tup us)).push (PySem.HandSPX.excO C hp.objs.size), g, dr, tk, os⟩ :=
    I1.laid (t' := tk) (a := hp.objs.size + 1) (o := exo (hp.objs.size + 1) C none) (h' := (hp.push (PySem.W.kdv_tup us)).push (PySem.HandSPX.excO C hp.objs.size)) kk hsz (exo_ok hget)
  have r2 : Vals (V.ref (hp.objs.size + 1) :: (vs ++ dvs)) (Value.ref (hp.objs.size + 1) :: (us ++ ds)) := .cons rfl (r1.append hd)
  have hl : (Value.ref (hp.objs.size + 1) :: us ++ ds).length = ps.length := by
    have e := r2.length
    rw [F1.len _ _ _ _ hq] at e
    exact e.symm
  have hus : us.length ≤ sizeLine := by
    rw [← Paired.length r1, sizeLine_eq]
    omega
  refine wpAny_call (call_ownG hbm (I1.kIn _ _ hC) (PySem.W.looks_findIn I1.kIn iC) (fun self => PySem.W.bind_fn I1.kIn self tI) hus
    (codeAny_mono (F1.run _ X.stack _ _ ⟨Value.ref (hp.objs.size + 1) :: us, []⟩ (Value.ref (hp.objs.size + 1) :: (us ++ ds)) _ _ (fun _ _ _ => False) (hr.make C us []) (I2.env0.make C us []) (hb _ (Value.ref (hp.objs.size + 1) :: us) I2.kIn hl) r2 hq) fun r s' hq' => ?_))
  cases r with
  | error er => exact hx pins σ _ _ er s' I2 hq'
  | ok fl =>
    cases fl with
    | ret u =>
      obtain ⟨v, H2, os2, bare2, un2, hok2, rv, ev, d, fs, ea, ed, hd1, q2⟩ := hq'
      subst ev
      obtain ⟨h2, g2, d2, t2, os'⟩ := s'
      exact ⟨rv, mk_end (raises_own T.exC T.tyC) I1 hsz kk un2 hok2 os2 bare2 ea ed hd1 q2⟩
    | next => exact False.elim hq'
    | brk => exact False.elim hq'
    | cont => exact False.elim hq'
end
end VS
namespace VS
open PySem L2 PySem.Spec PyProof.Rows PySem.VSX
/-! ### an own exception of one field: its class, its making, raise -/
/-- what __init__ keeps: self.f = v -/
def spXi (C : Addr) (f : Str) : Sp := fun vs H Q _ => ∃ (a : Addr) (v : V), vs = [.ref a, v] ∧ H a = some (exo a C none) ∧ ∀ dx, H dx = none → dx ≠ a → Q .non (upd (upd H dx (exd dx [(f, v)])) a (exo a C (some dx)))
/-- the class x, at C, of exceptions with the field f -/
structure Xc (P : Program) (w : World) (K : PySem.W.Frag) (mg : Str → Option Value) (base : Heap) (x : Str) (C : Addr) (f : Str) : Prop where
  ox : OexG K C
  xf : XfC K C
  no : PySem.W.findIn K (.ref C) f = some none
  at_ : mg x = some (.ref C)
  fn : ∃ (fI : Addr) (fd : FuncData) (ps : List Str), PySem.W.findIn K (.ref C) "__init__" = some (some (.ref fI)) ∧ PySem.W.typeIn K (.ref fI) = some (.type "function") ∧ FnOk P w K mg base C8.CX0 1 fI fd ps (spXi C f) ∧ Binds K fd ps []
section
variable {P : Program} {w : World} {K : PySem.W.Frag} {mg : Str → Option Value} {base : Heap}
theorem xinit_ok {qual : Str} {st : Stmt} {C fI : Addr} {fd : FuncData} {f : Str} {N ps : List Str} (F : Fd K "__init__" qual st [] fI fd) (Sc : FnScope N ps (defScope st)) (h2 : ps.length = 2) (ox : OexG K C) (no : PySem.W.findIn K (.ref C) f = some none)
    (body : ∀ (cdv : Value) (A : Around) (outer : List Env) (s : Shared) (H : Hp) (E : XK), PSs (cxOf C8.CX0 P w K mg base N qual (defScope st) fI cdv A outer s H E) (defBody st) (tOstG K f (tVar 0) (tVar 1))) :
    FnOk P w K mg base C8.CX0 1 fI fd ps (spXi C f) :=
  FunD.ok F Sc (fun vs H Q E h => by obtain ⟨a, v, rfl, _⟩ := h; exact h2.symm) fun cdv A outer s H vs Q E _ h => by
    obtain ⟨a, v, rfl, ha, q⟩ := h
    exact ⟨_, body cdv A outer s H E, v, rfl, .ref a, rfl, a, C, rfl, ox, no, ha, fun dx hn ne => q dx hn ne⟩
end
def tRz (C : Addr) (f : Str) (te : TE) (W : L2.St → XK) : TS := fun _ σ H => tMkO C (spXi C f) [] (tCons te tNil) σ H fun cls d H' => W σ cls d H'
theorem ps_rz {X : Cx} {x : Str} {C : Addr} {f : Str} {e : Expr} {te : TE} {W : L2.St → XK} {p pos pos' : Pos} (tk : Takes X (fun cls d σ H => W σ cls d H)) (xc : Xc X.prog X.w X.K X.mg X.base x C f) (hr : Room 2 X.A) (hg : Gl X x) (he : PE X e te)
    (hc : X.calm = true := by rfl) (hdb : (x == ("__debug__" : Str)) = false := by decide) (hst : starEach [e] X.env = (false, eval e X.env) :: starEach [] X.env := by rfl) : PS X (.Raise (some (.Call (.Name x p) [e] [] pos)) none pos') (tRz C f te W) := by
  obtain ⟨fI, fd, ps, iC, tI, F1, b⟩ := xc.fn
  exact ps_raise hc tk (pmk_oexG xc.ox iC tI F1 hr b .nil C8.pass0 hg xc.at_ (pa_cons he pa_nil hst) hdb hst)
section
variable {c : Ctx} {ρ : Rho} {S : Sto} {P : Po}
theorem xd_heap {H1 : Hp} {a C dx : Addr} {f : Str} {v : V} (ha : H1 a = none) : upd (L2.del (upd (upd (upd H1 a (exo a C none)) dx (exd dx [(f, v)])) a (exo a C (some dx))) a) dx (.xd [(f, v)]) = upd H1 dx (.xd [(f, v)]) := by
  funext b
  by_cases z : b = dx
  · subst z; rw [upd_same, upd_same]
  · rw [upd_ne z, upd_ne z]
    by_cases y : b = a
    · subst y; rw [L2.del_same, ha]
    · rw [L2.del_ne y, upd_ne y, upd_ne z, upd_ne y]
theorem vx_raise {C : Addr} {f : Str} {te : TE} (h : VE c te ρ S fun x S1 => c.Y C [(f, x)] ρ S1) : VX c (tRz C f te c.E) ρ S P := fun T σ H I D b =>
  h T σ H I _ fun v x S1 T1 H1 m1 c1 r1 q => by
    refine ⟨(by decide : 1 ≤ 1000), fun a na => ⟨a, v, rfl, upd_same, fun dx hdx ne => ⟨rfl, dx, [(f, v)], upd_same, ?_, ?_, ?_⟩⟩⟩
    · rw [upd_ne ne, upd_same]
    · rw [upd_ne ne] at hdx; exact hdx
    · have hd : H1 dx = none := by rw [upd_ne ne] at hdx; exact hdx
      rw [xd_heap na]
      have m2 := m1.trans (mv_new (o := .xd [(f, v)]) hd)
      have cl := c1.new (o := .xd [(f, v)]) hd
      exact I.exc σ ρ C (some dx) [(f, x)] S1 T1 _ m2 cl (I.mv m2 cl).sl ⟨dx, [(f, v)], rfl, c1.free hd, upd_same, .cons (r1.mv (mv_new hd)) .nil⟩ q
/-! ### e.f in an except suite -/
theorem ve_xf {a C : Addr} {d : Option Addr} {f : Str} {te : TE} {F : D → Sto → Prop} (h : VE c te ρ S fun x S1 => ∃ dd fs e, x = .xcp a dd C fs ∧ d = some dd ∧ fs.lookup f = some e ∧ F e S1) : VE c (tXf a (.ref C) d C f te) ρ S F := fun T σ H I Q k =>
  h T σ H I _ fun v x S1 T1 H1 m1 c1 r1 ⟨dd, fs, e, e1, e2, hl, q⟩ => by
    subst e1
    cases r1 with
    | xcp s hx r =>
      obtain ⟨v, h1, h2⟩ := r.lookup hl
      exact ⟨rfl, rfl, dd, _, v, e2, hx, h1, k v e S1 T1 H1 m1 c1 h2 q⟩
end
/-! ### try: several clauses, with names or without; what stands behind them is never looked at -/
structure Cla where
  c : Value
  i : Option Nat
  t : Addr → Value → Option Addr → TS
def inSl (i : Option Nat) (a : Addr) (σ : L2.St) : L2.St := match i with
  | none => σ
  | some i => σ.set i (some (.ref a))
def offSl (i : Option Nat) (σ : L2.St) : L2.St := match i with
  | none => σ
  | some i => σ.set i none
def offE (i : Option Nat) (D : Ends) : Ends := { nx := fun σ H => D.nx (offSl i σ) H, rt := D.rt, bk := fun σ H => D.bk (offSl i σ) H, ct := fun σ H => D.ct (offSl i σ) H }
def wCla (K : PySem.W.Frag) (D : Ends) : List Cla → WX
  | [] => fun _ _ _ _ => False
  | k :: r => fun cls d σ H => ∃ b, PySem.W.exmOne K cls k.c = some b ∧ (b = true → ∀ a, H a = none → k.t a cls d (offE k.i D) (inSl k.i a σ) H) ∧ (b = false → wCla K D r cls d σ H)
/-- the suite of a clause, whatever the exception -/
abbrev SuR (X : Cx) (ss : List Stmt) (t : Addr → Value → Option Addr → TS) : Prop :=
  ∀ (a : Addr) (oe : Obj) (cls : Value) (d : Option Addr) (pn : List (Addr × Obj)), Zc cls d oe → (∃ vs, oe.data = .fields vs) → PSs (X.suite a ((a, oe) :: pn)) ss (t a cls d)
inductive Clas (X : Cx) : List ExceptHandler → List Cla → Prop
  | rest {hds : List ExceptHandler} : Clas X hds []
  | plain {x : Str} {c : Value} {t : Addr → Value → Option Addr → TS} {b₀ : Stmt} {ss : List Stmt} {p1 p2 : Pos} {hds : List ExceptHandler} {l : List Cla} (hc : Names X x c) (su : SuR X (b₀ :: ss) t) (r : Clas X hds l) :
      Clas X (.ExceptHandler (some (.Name x p1)) none (b₀ :: ss) p2 :: hds) (⟨c, none, t⟩ :: l)
  | named {x n : Str} {c : Value} {i : Nat} {t : Addr → Value → Option Addr → TS} {b₀ : Stmt} {ss : List Stmt} {p1 p2 : Pos} {hds : List ExceptHandler} {l : List Cla} (hc : Names X x c) (hi : X.N[i]? = some n) (hl : X.env.kindOf n = some .local) (su : SuR X (b₀ :: ss) t) (r : Clas X hds l) :
      Clas X (.ExceptHandler (some (.Name x p1)) (some n) (b₀ :: ss) p2 :: hds) (⟨c, some i, t⟩ :: l)
section
variable {X : Cx} {pins : List (Addr × Obj)} {σ : L2.St} {H : Hp} {sI s' : Shared} {B h3 : Heap} {a : Addr} {cls : Value} {d : Option Addr} {D : Ends}
theorem clause_name {x : Str} {c : Value} {s : Shared} {pn : List (Addr × Obj)} {p : Pos} {Q E : Value → Shared → Prop} (hc : Names X x c) (I : Inv (X.suite a pn) [] σ H s) (q : Q c s) : wpAny (model X.prog X.w) (X.A.mark (some (.ref a))) (eval (.Name x p) X.env) Q E s := by
  rcases hc with ⟨hg, hdb, hm | ⟨hm, hv, hn⟩⟩
  · exact ld_glob (X := X.suite a pn) I hg hm q hdb
  · exact ld_blt (X := X.suite a pn) I hg hm hv q hn hdb
theorem clauses_run (hN : X.N.Nodup) (J : Inv X pins σ H sI) (nb : ∀ b o, sI.heap.get? b = some o → b ∉ frs X.stack → B.get? b = some o) (up : sI.heap.UpToSlots h3) (os : s'.os = sI.os) (ag : AllBare s'.gens)
    (fl : HandSPX.FlyingZ B (X.env :: X.outer) a (Zc cls d) h3) (na : H a = none) (nL : a ≠ X.env.locals) (nF : a ∉ X.fs) {hds : List ExceptHandler} {l : List Cla} (hk : Clas X hds l) :
    wCla X.K D l cls d σ H → wpAny (model X.prog X.w) X.A (handleBy (.ref a) X.env hds) (SP X pins D) X.xe { s' with heap := h3 } := by
  have ok := J.ok
  have J3 : Inv X pins σ H { s' with heap := h3 } := J.landed nb fl.1 up os ag
  obtain ⟨oe, vs, he, hz, hd⟩ := fl.there
  have S3 := J3.suite he hd na nL nF
  have LT : PySem.W.Looks (model X.prog X.w) h3 (typeOf (.ref a)) cls := fun A Q E s k q => wpAny_typeOf_ref (k _ _ he) (by rw [hz.1]; exact q)
  induction hk with
  | rest => exact fun w => w.elim
  | plain hc su r ih =>
    rintro ⟨b, e, yes, no⟩
    refine wpAny_handleBy_cons (codeAny_handlers_test (clause_name hc S3 ((PySem.W.exm_one J3.kIn LT e).here ?_))) nofun
    cases b with
    | false => exact ih (no rfl)
    | true =>
      refine codeAny_handlers_suite (HandSPX.lands_againZ fl fun h4 fl4 up4 => ?_)
      have J4 : Inv X pins σ H { s' with heap := h4 } := J.landed nb fl4.1 (up.trans up4) os ag
      obtain ⟨oe4, vs4, he4, hz4, hd4⟩ := fl4.there
      refine wpAny_mono ((su a oe4 cls d (X.pn ++ pins) hz4 ⟨_, hd4⟩).run [] _ _ H _ (J4.suite he4 hd4 na nL nF) (yes rfl a na)) (fun f s6 q => ?_) fun _ _ z => z.elim
      cases f with
      | ret u => obtain ⟨v6, σ6, H6, S6, r6, q6⟩ := q; exact ⟨_, _, _, S6.unsuite ok, r6, q6⟩
      | next => obtain ⟨σ6, H6, S6, q6⟩ := q; exact ⟨_, _, S6.unsuite ok, q6⟩
      | brk => obtain ⟨σ6, H6, S6, q6⟩ := q; exact ⟨_, _, S6.unsuite ok, q6⟩
      | cont => obtain ⟨σ6, H6, S6, q6⟩ := q; exact ⟨_, _, S6.unsuite ok, q6⟩
  | @named x n c i t b₀ ss p1 p2 hds l hc hi hl su r ih =>
    rintro ⟨b, e, yes, no⟩
    refine wpAny_handleBy_cons (codeAny_handlers_test (clause_name hc S3 ((PySem.W.exm_one J3.kIn LT e).here ?_))) nofun
    cases b with
    | false => exact ih (no rfl)
    | true =>
      refine codeAny_handlers_suite_as (HandSPX.lands_againZ fl fun h4 fl4 up4 => ?_)
      have J4 : Inv X pins σ H { s' with heap := h4 } := J.landed nb fl4.1 (up.trans up4) os ag
      obtain ⟨oe4, vs4, he4, hz4, hd4⟩ := fl4.there
      have S4 := J4.suite he4 hd4 na nL nF
      refine store_ok (X := X.suite a ((a, oe4) :: (X.pn ++ pins))) (v := .ref a) S4 hN hi (.inl hl) rfl (fun s5 S5 => ?_) (.inr hl)
      refine wpAny_mono ((su a oe4 cls d (X.pn ++ pins) hz4 ⟨_, hd4⟩).run [] s5 _ H _ S5 (yes rfl a na)) (fun f s6 q => ?_) fun _ _ z => z.elim
      have fin : ∀ {σ6 : L2.St} {H6 : Hp} {R : Shared → Prop}, Inv (X.suite a ((a, oe4) :: (X.pn ++ pins))) [] σ6 H6 s6 → (∀ s7, Inv X pins (σ6.set i none) H6 s7 → R s7) →
          wpAny (model X.prog X.w) X.A (do bindName X.env n .none; unbindBehindTheSuite X.env n p2) (fun _ => R) X.xe s6 := fun S6 q => gone_ok (S6.unsuite ok) hN hi hl q
      cases f with
      | ret u => obtain ⟨v6, σ6, H6, S6, r6, q6⟩ := q; exact fin S6 fun s7 J7 => ⟨_, _, _, J7, r6, q6⟩
      | next => obtain ⟨σ6, H6, S6, q6⟩ := q; exact fin S6 fun s7 J7 => ⟨_, _, J7, q6⟩
      | brk => obtain ⟨σ6, H6, S6, q6⟩ := q; exact fin S6 fun s7 J7 => ⟨_, _, J7, q6⟩
      | cont => obtain ⟨σ6, H6, S6, q6⟩ := q; exact fin S6 fun s7 J7 => ⟨_, _, J7, q6⟩
theorem ps_tryC {body : List Stmt} {h₀ : ExceptHandler} {hds : List ExceptHandler} {l : List Cla} {tb : WX → TS} {pos : Pos} (hs : X.stack = X.env :: X.outer) (hf : X.env.frame = some X.env.locals) (hN : X.N.Nodup)
    (hb : ∀ (W : WX) (pn : List (Addr × Obj)) (xe : Value → Shared → Prop), Takes (X.tr pn xe) W → PassesOwn (model X.prog X.w) X.A X.env xe → PSs (X.tr pn xe) body (tb W)) (hh : Clas X (h₀ :: hds) l) :
    PS X (.Try body (h₀ :: hds) [] [] pos) (fun D σ H => tb (wCla X.K D l) D σ H) := by
  refine ⟨fun pins s σ H D I h => ?_⟩
  have ok := I.ok
  have hfr : X.A.frames = some (X.env :: X.outer) := ok.frames.trans (congrArg some hs)
  refine wpAny_Try_except (wpAny_mono ((hb (wCla X.K D l) (X.pn ++ pins) (fun e s₁ => wpAny (model X.prog X.w) X.A (noteFrame e X.env) (fun _ s₂ => wpAny (model X.prog X.w) X.A (setFlight e none) (fun _ s₃ =>
    wpAny (model X.prog X.w) X.A (handleBy e X.env (h₀ :: hds)) (SP X pins D) X.xe s₃) X.xe s₂) X.xe s₁) (fun u s' xx => ?_) PassesOwn.looking).run [] s σ H D (I.toTry _) h) (fun f s1 q => ?_) fun _ _ z => z)
  · obtain ⟨a, B, sI, _, σ', H', cls, d, rfl, J', nb, up, sky, na, os, ag, w⟩ := xx
    rw [show (X.tr (X.pn ++ pins) _).stack = X.env :: X.outer from hs] at sky
    refine Sky.land Zc.steady hfr hf sky fun h3 fl3 up3 => ?_
    obtain ⟨oe, vs, he, _, hd⟩ := fl3.there
    have nfr : a ∉ frs (X.env :: X.outer) := fun hm => by
      obtain ⟨_, o', e', hnf⟩ := fl3.2.2.1.mem hm
      cases he.symm.trans e'
      exact hnf _ hd
    refine clauses_run hN (J'.ofTry ok) nb (up.trans up3) os ag fl3 na (fun z => nfr (List.mem_filterMap.mpr ⟨X.env, List.mem_cons_self, by rw [hf, z]⟩)) (fun hm => ?_) hh w
    obtain ⟨e, m, q⟩ := List.mem_filterMap.mp hm
    exact nfr (List.mem_filterMap.mpr ⟨e, List.mem_cons_of_mem _ m, q⟩)
  · cases f with
    | ret u => obtain ⟨v, σ', H', J', r, q⟩ := q; exact ⟨v, σ', H', J'.ofTry ok, r, q⟩
    | next => obtain ⟨σ', H', J', q⟩ := q; exact wpAny_execs_nil ⟨σ', H', J'.ofTry ok, q⟩
    | brk => obtain ⟨σ', H', J', q⟩ := q; exact ⟨σ', H', J'.ofTry ok, q⟩
    | cont => obtain ⟨σ', H', J', q⟩ := q; exact ⟨σ', H', J'.ofTry ok, q⟩
end
/-! ### .. by value -/
def inR (i : Option Nat) (d : D) (ρ : Rho) : Rho := match i with
  | none => ρ
  | some i => ρ.set i (some d)
def offR (i : Option Nat) (ρ : Rho) : Rho := match i with
  | none => ρ
  | some i => ρ.set i none
def offP (i : Option Nat) (P : Po) : Po := ⟨fun ρ S => P.nx (offR i ρ) S, P.rt, fun ρ S => P.bk (offR i ρ) S, fun ρ S => P.ct (offR i ρ) S⟩
def HdV (c : Ctx) (P : Po) : List Cla → Addr → List (Str × D) → Rho → Sto → Prop
  | [], _, _, _, _ => False
  | k :: r, C, fs, ρ, S => ∃ b, PySem.W.exmOne c.K (.ref C) k.c = some b ∧ (b = true → ∀ a dd, VX c (k.t a (.ref C) (some dd)) (inR k.i (.xcp a dd C fs) ρ) S (offP k.i P)) ∧ (b = false → HdV c P r C fs ρ S)
theorem In.off {c : Ctx} {σ : L2.St} {H : Hp} {ρ : Rho} {S T : Sto} (I : In c σ H ρ S T) (i : Option Nat) : In c (offSl i σ) H (offR i ρ) S T := by
  cases i with
  | none => exact I
  | some i =>
    refine ⟨I.cells, fun j e q => ?_, by show (σ.set i none).length = (ρ.set i none).length; simp [I.len], I.exc⟩
    have q' : (ρ.set i none)[j]? = some (some e) := q
    by_cases z : i = j
    · subst z
      by_cases hv : i < ρ.length
      · rw [List.getElem?_set_self hv] at q'; cases q'
      · rw [List.getElem?_eq_none (by simpa using hv)] at q'; cases q'
    · rw [List.getElem?_set_ne z] at q'
      obtain ⟨u, h1, h2⟩ := I.slots j e q'
      exact ⟨u, by show (σ.set i none)[j]? = _; rw [List.getElem?_set_ne z]; exact h1, h2⟩
theorem Bh.off {c : Ctx} {P : Po} {D : Ends} {T : Sto} {H : Hp} (b : Bh c P D T H) (i : Option Nat) : Bh c (offP i P) (offE i D) T H :=
  ⟨fun _ _ S' T' H' m I q => b.nx _ _ S' T' H' m (I.off i) q, b.rt, fun _ _ S' T' H' m I q => b.bk _ _ S' T' H' m (I.off i) q, fun _ _ S' T' H' m I q => b.ct _ _ S' T' H' m (I.off i) q⟩
theorem vx_try {c : Ctx} {ρ : Rho} {S : Sto} {P : Po} {tb : WX → TS} {l : List Cla} (h : ∀ E' : L2.St → XK, VX ⟨c.K, E', fun C fs ρ' S' => HdV c P l C fs ρ' S'⟩ (tb (fun cls d σ H => E' σ cls d H)) ρ S P) :
    VX c (fun D σ H => tb (wCla c.K D l) D σ H) ρ S P := fun T σ H I Dn b => by
  have key : ∀ (l : List Cla) (σ' : L2.St) (ρ' : Rho) (C : Addr) (d : Option Addr) (fs : List (Str × D)) (S' T' : Sto) (H' : Hp), Mv T H T' H' → Cells c.K H' S' T' → Sl c.K H' T' σ' ρ' → XRep c.K H' T' d fs → HdV c P l C fs ρ' S' → wCla c.K Dn l (.ref C) d σ' H' := by
    intro l
    induction l with
    | nil => exact fun _ _ _ _ _ _ _ _ _ _ _ _ y => y.elim
    | cons k r ih =>
      rintro σ' ρ' C d fs S' T' H' m cl sl ⟨dd, fv, rfl, sd, hd, rf⟩ ⟨bb, e, yes, no⟩
      refine ⟨bb, e, fun z a na => ?_, fun z => ih σ' ρ' C _ fs S' T' H' m cl sl ⟨dd, fv, rfl, sd, hd, rf⟩ (no z)⟩
      have I2 : In c σ' H' ρ' S' T' := ⟨cl, sl.slots, sl.len, (I.mv m cl).exc⟩
      have rx : Rep c.K H' T' (.ref a) (.xcp a dd C fs) := .xcp sd hd rf
      have I3 : In c (inSl k.i a σ') H' (inR k.i (.xcp a dd C fs) ρ') S' T' := by
        cases k.i with
        | none => exact I2
        | some i => exact I2.set i rx
      exact yes z a dd T' _ H' I3 _ ((b.mv m).off k.i)
  have I' : In ⟨c.K, fun σ cls d H => wCla c.K Dn l cls d σ H, fun C fs ρ' S' => HdV c P l C fs ρ' S'⟩ σ H ρ S T := ⟨I.cells, I.slots, I.len, fun σ' ρ' C d fs S' T' H' m cl sl x y => key l σ' ρ' C d fs S' T' H' m cl sl x y⟩
  have b' : Bh ⟨c.K, fun σ cls d H => wCla c.K Dn l cls d σ H, fun C fs ρ' S' => HdV c P l C fs ρ' S'⟩ P Dn T H :=
    ⟨fun σ' ρ' S' T' H' m J q => b.nx σ' ρ' S' T' H' m ⟨J.cells, J.slots, J.len, (I.mv m J.cells).exc⟩ q, fun v d S' T' H' m cl r q => b.rt v d S' T' H' m cl r q,
     fun σ' ρ' S' T' H' m J q => b.bk σ' ρ' S' T' H' m ⟨J.cells, J.slots, J.len, (I.mv m J.cells).exc⟩ q, fun σ' ρ' S' T' H' m J q => b.ct σ' ρ' S' T' H' m ⟨J.cells, J.slots, J.len, (I.mv m J.cells).exc⟩ q⟩
  exact h (fun σ cls d H => wCla c.K Dn l cls d σ H) T σ H I' Dn b'
end VS
namespace VS
open PySem L2 C8 PySem.Spec PyProof.Rows
/-! ### sorted of whole numbers, of a list or a tuple -/
section
variable {prog : Program} {w : World} {A : Around} {E : Value → Shared → Prop} {s : Shared}
theorem collect_tup {t : Addr} {vs : List Value} {Q : List Value → Shared → Prop} (hl : s.heap.IsTuple t vs.toArray) (hz : vs.length ≤ sizeLine)
    (h : Q vs { s with heap := (s.heap.push (seqObj "list" #[] 0)).update s.heap.objs.size (Obj.mapSeq (· ++ vs.toArray)) }) : wpAny (model prog w) A (collect (.ref t)) Q E s := by
  obtain ⟨o, ho, hc, n, hd⟩ := id hl
  have ho' : (s.heap.push (seqObj "list" #[] 0)).get? t = some o := Heap.get?_push_of_some _ ho
  have ne : t ≠ s.heap.objs.size := Nat.ne_of_lt (Heap.lt_size ho)
  unfold collect
  refine wpAny_bind (wpAny_runValue (codeAny_builtin entry_proto_collect' ?_))
  show wpAny _ _ (newList [] >>= fun l => again (.builtin "list.__iadd__" ⟨[l, .ref t], []⟩)) _ _ s
  refine wpAny_bind (wpAny_newList (wpAny_pure ⟨Code.quiet_builtin _ (by decide +kernel), codeAny_builtin entry_list_iadd' ?_⟩))
  show wpAny _ _ (Builtin.List.listExtendWith (.ref s.heap.objs.size) (.ref t) (.ref s.heap.objs.size)) _ _ { s with heap := s.heap.push (seqObj "list" #[] 0) }
  unfold Builtin.List.listExtendWith
  refine wpAny_bind (wpAny_typeOf (T := "tuple") ⟨o, ho', hc⟩ ?_)
  have h3 : (Value.type "tuple" == Value.type "tuple") = true := by decide +kernel
  rw [if_pos (by rw [h3]; simp)]
  refine wpAny_bind (listItems_at ho' hd ?_)
  refine wpAny_bind (listItems_at (xs := #[]) (n := 0) (Heap.get?_push_size _ rfl) rfl ?_)
  rw [if_neg (by simp)]
  refine wpAny_bind (listUpdate_at (xs := #[]) (n := 0) (Heap.get?_push_size _ rfl) rfl ?_ (Nat.zero_le _) (by show (#[] ++ vs.toArray).size ≤ sizeLine + 1; simp only [Array.size_append, List.size_toArray, List.length_nil]; omega))
  refine wpAny_pure ?_
  show wpAny (model prog w) A (load s.heap.objs.size >>= fun o => match o.data with
      | .seq xs _ => pure xs.toList
      | _ => unsupported "internal:collect") Q E { s with heap := (s.heap.push (seqObj "list" #[] 0)).update s.heap.objs.size (Obj.mapSeq (· ++ vs.toArray)) }
  refine wpAny_bind (wpAny_load (get?_update_seq (Heap.get?_push_size _ rfl) _) ?_)
  show wpAny _ _ (pure ((#[] : Array Value) ++ vs.toArray).toList) Q E _
  rw [show ((#[] : Array Value) ++ vs.toArray).toList = vs by simp]
  exact wpAny_pure h
/-- sorted(x, ..): whatever x is that is collected to vs -/
theorem sorted_of {x : Value} {vs : List Value} {b : Bool} {kw : List (Str × Value)} {ltv : Value → Value → Bool} {Q : Value → Shared → Prop} (hk : ∀ a, Builtin.«list.sort» ⟨[.ref a], kw⟩ = Builtin.«list.sort» ⟨[.ref a], [(Str.ofString "reverse", .bool b)]⟩)
    (ha1 : argsOk "sorted" ⟨[x], kw⟩) (ha2 : ∀ a, argsOk "list.sort" ⟨[a], kw⟩) (O : SrtO.Swo ltv) (hz : vs.length ≤ sizeLine)
    (col : ∀ {B : Around} {R : List Value → Shared → Prop} {E' : Value → Shared → Prop}, R vs { s with heap := (s.heap.push (seqObj "list" #[] 0)).update s.heap.objs.size (Obj.mapSeq (· ++ vs.toArray)) } → wpAny (model prog w) B (collect x) R E' s)
    (hS : 2 ≤ vs.length → ∀ (h₁ : Heap) (a : Addr), SrtO.SortableO prog w A.in1.in1 { s with heap := h₁ } a vs ltv)
    (h : ∀ out : List Value, SrtO.Srtd ltv out → SrtO.Stb ltv out (if b = true then vs.reverse else vs) → Q (.ref (s.heap.objs.size + 1)) { s with heap := sortedAll s.heap vs (if b = true then out.toArray.reverse else out.toArray) }) :
    wpAny (model prog w) A (call (.builtin "sorted") [x] kw) Q E s := by
  refine call_function_entry_kw kind_sorted plain_sorted entry_sorted ha1 ?_
  unfold Builtin.«sorted»
  refine wpAny_bind (m := checkCount "sorted" 1 1 _) (wpAny_pure ?_)
  refine wpAny_bind (col (wpAny_bind (wpAny_newList ?_ hz)))
  have sz : ((s.heap.push (seqObj "list" #[] 0)).update s.heap.objs.size (Obj.mapSeq (· ++ vs.toArray))).objs.size = s.heap.objs.size + 1 := by rw [Heap.size_update, size_push']
  have at1 : (((s.heap.push (seqObj "list" #[] 0)).update s.heap.objs.size (Obj.mapSeq (· ++ vs.toArray))).push (seqObj "list" vs.toArray 0)).get? (s.heap.objs.size + 1) = some (seqObj "list" vs.toArray 0) := by
    rw [← sz]; exact Heap.get?_push_size _ rfl
  show wpAny _ _ _ _ _ { s with heap := ((s.heap.push (seqObj "list" #[] 0)).update s.heap.objs.size (Obj.mapSeq (· ++ vs.toArray))).push (seqObj "list" vs.toArray 0) }
  rw [sz]
  refine wpAny_bind (wpAny_holding (wpAny_call_entry_kw slot_list_sort ⟨_, at1, rfl⟩ entry_list_sort ?_ (ha2 _)))
  rw [hk]
  exact SrtR.list_sort_ordR O at1 hz (fun h2 => hS h2 _ _) fun out h1 h2 => ⟨_, rfl, wpAny_pure ⟨_, rfl, h out h1 h2⟩⟩
end
/-- the numbers rising; falling -/
def up (ns : List Int) : List Int := ns.mergeSort (fun a b => decide (a ≤ b))
def dn (ns : List Int) : List Int := (up ns).reverse
theorem up_perm (ns : List Int) : (up ns).Perm ns := List.mergeSort_perm ..
theorem up_sorted (ns : List Int) : (up ns).Pairwise (· ≤ ·) := by
  have h := List.pairwise_mergeSort (le := fun a b : Int => decide (a ≤ b)) (fun a b c h1 h2 => decide_eq_true (Int.le_trans (of_decide_eq_true h1) (of_decide_eq_true h2))) (fun a b => by
    rcases Int.le_total a b with h | h
    · rw [decide_eq_true h]; rfl
    · rw [decide_eq_true h, Bool.or_true]) ns
  exact h.imp of_decide_eq_true
theorem up_eq {ns ms : List Int} (h : ms.Perm ns) (h2 : ms.Pairwise (· ≤ ·)) : ms = up ns :=
  List.Perm.eq_of_pairwise (le := (· ≤ ·)) (fun a b _ _ h1 h2 => Int.le_antisymm h1 h2) h2 (up_sorted ns) (h.trans (up_perm ns).symm)
theorem dn_eq {ns ms : List Int} (h : ms.Perm ns) (h2 : ms.Pairwise (· ≥ ·)) : ms = dn ns := by
  have e := up_eq (ns := ns) (ms := ms.reverse) ((List.reverse_perm ms).trans h) (by rw [List.pairwise_reverse]; exact h2)
  unfold dn
  rw [← e, List.reverse_reverse]
theorem up_len (ns : List Int) : (up ns).length = ns.length := (up_perm ns).length_eq
theorem dn_len (ns : List Int) : (dn ns).length = ns.length := by unfold dn; rw [List.length_reverse, up_len]
def srtB (b : Bool) (ns : List Int) : List Int := if b = true then dn ns else up ns
def rSortedR (K : PySem.W.Frag) (b : Bool) : List V → List V → Hp → VK → Prop := fun vs zs H Q => ∃ (a : Addr) (ns : List Int), vs = [V.ref a] ∧ zs = [.bl b] ∧ (SqL K H a (ns.map V.int) ∨ SqT K H a (ns.map V.int)) ∧ ∀ p, H p = none → Q (.ref p) (upd H p (.lst ((srtB b ns).map V.int)))
section
variable {X : Cx}
theorem sorted_any {b : Bool} {kw : List (Str × Value)} {pins : List (Addr × Obj)} {s : Shared} {σ : L2.St} {H : Hp} {a : Addr} {ns : List Int} {Q : VK} (I : Inv X pins σ H s) (hs : SqL X.K H a (ns.map V.int) ∨ SqT X.K H a (ns.map V.int))
    (hk : ∀ a, Builtin.«list.sort» ⟨[.ref a], kw⟩ = Builtin.«list.sort» ⟨[.ref a], [(Str.ofString "reverse", .bool b)]⟩) (ha1 : argsOk "sorted" ⟨[.ref a], kw⟩) (ha2 : ∀ a, argsOk "list.sort" ⟨[a], kw⟩)
    (q : ∀ p, H p = none → Q (.ref p) (upd H p (.lst ((srtB b ns).map V.int)))) : wpAny (model X.prog X.w) X.A (call (.builtin "sorted") [.ref a] kw) (EP X pins σ Q) X.xe s := by
  have fin : ∀ its : List Value, Vals (ns.map V.int) its → (ns.map V.int).length ≤ sizeLine →
      (∀ {B : Around} {R : List Value → Shared → Prop} {E' : Value → Shared → Prop}, R its { s with heap := (s.heap.push (seqObj "list" #[] 0)).update s.heap.objs.size (Obj.mapSeq (· ++ its.toArray)) } → wpAny (model X.prog X.w) B (collect (.ref a)) R E' s) →
      wpAny (model X.prog X.w) X.A (call (.builtin "sorted") [.ref a] kw) (EP X pins σ Q) X.xe s := fun its rv hz col => by
    have hi := rv.ints
    refine sorted_of hk ha1 ha2 SrtO.swo_int (by rw [← rv.length]; exact hz) col (fun h2 h₁ a' => SrtO.ints_sortable hi h2) fun out h1 h2 => ?_
    obtain ⟨ns', k1, k2, k3⟩ := SrtR.ints_outR hi h1 h2
    have e : ns' = srtB b ns := by
      cases b with
      | true => exact dn_eq k2 k3
      | false => exact up_eq k2 k3
    subst e
    obtain ⟨ep, he'⟩ := PyProof.Rows.sortedAll_at s.heap its (if b = true then out.toArray.reverse else out.toArray)
    have hlen : ((srtB b ns).map V.int).length ≤ sizeLine := by
      rw [List.length_map, k2.length_eq]
      rw [List.length_map] at hz
      exact hz
    have e0 : ((if b = true then out.toArray.reverse else out.toArray).toList).toArray = (if b = true then out.toArray.reverse else out.toArray) := by rw [Array.toArray_toList]
    exact ⟨.ref _, upd H (s.heap.objs.size + 1) (.lst ((srtB b ns).map V.int)), I.laid (t' := s.toks) (fun _ _ => PyProof.Rows.sortedAll_old) (Nat.le_succ _) ⟨hlen, _, ep, vals_of_ints k1, by rw [e0]; exact he'⟩, rfl, q _ (I.hok.fresh (Nat.le_succ _))⟩
  rcases hs with hs | hs
  · obtain ⟨its, rv, hl, hz⟩ := I.list hs
    exact fin its rv hz fun r => collect_list hl.isList r (by rw [← rv.length]; exact hz)
  · obtain ⟨its, rv, hl, hz⟩ := I.tuple hs
    exact fin its rv hz fun r => collect_tup hl (by rw [← rv.length]; exact hz) r
theorem c_sortedR {b : Bool} : CallRK X (.builtin "sorted") [Str.ofString "reverse"] (rSortedR X.K b) := by
  intro pins s σ H vs zs us ws Q I r rz h
  obtain ⟨a, ns, rfl, rfl, hs, q⟩ := h
  obtain rfl := Vals.ref1 r
  obtain ⟨w1, rfl, e1⟩ := vals1 rz
  obtain rfl : w1 = Value.bool b := e1
  exact sorted_any I hs (fun _ => rfl) (PyProof.Rows.args_sorted_rev _ _) (fun _ => PyProof.Rows.args_list_sort_rev _ _) q
end
section
variable {c : Ctx} {ρ : Rho} {S : Sto} {F : D → Sto → Prop}
def RCK (c : Ctx) (r : List V → List V → Hp → VK → Prop) (ds es : List D) (S : Sto) (F : D → Sto → Prop) : Prop := ∀ T us ws H, Cells c.K H S T → RepL c.K H T us ds → RepL c.K H T ws es → ∀ Q : VK,
  (∀ v d S' T' H', Mv T H T' H' → Cells c.K H' S' T' → Rep c.K H' T' v d → F d S' → Q v H') → r us ws H Q
theorem ve_ckw {r : List V → List V → Hp → VK → Prop} {t tk : TA} (h : VA c t ρ S fun ds S1 => VA c tk ρ S1 fun es S2 => RCK c r ds es S2 F) : VE c (tCKw r t tk) ρ S F := fun T σ H I Q k =>
  h T σ H I _ fun us ds S1 T1 H1 m1 c1 r1 h1 => h1 T1 σ H1 (I.mv m1 c1) _ fun ws es S2 T2 H2 m2 c2 r2 h2 => h2 T2 us ws H2 c2 (r1.mv m2) r2 Q fun v d S3 T3 H3 m3 => k v d S3 T3 H3 (m1.trans (m2.trans m3))
theorem rck_sortedR {x : D} {b : Bool} {ns : List Int} (h : IsQ S x (ns.map D.int)) (q : F (.lst ((srtB b ns).map D.int)) S) : RCK c (rSortedR c.K b) [x] [.bl b] S F := fun T us ws H cl r r' Q k => by
  cases r with
  | cons h1 t =>
    cases t
    cases r' with
    | cons h2 t =>
      cases t
      cases h2
      obtain ⟨a, xs, rfl, s, r⟩ := h.rd cl h1
      have e := r.ints
      subst e
      exact ⟨a, ns, rfl, rfl, s, fun p hp => k _ _ S T _ (mv_new hp) (cl.new hp) (.lst (cl.free hp) upd_same RepL.ofInts) q⟩
/-! ### a list taken apart; zip of tuples or lists -/
/-- a tuple by value stays -/
theorem tup_stays {K : PySem.W.Frag} {T : Sto} {H : Hp} {u : V} {ds : List D} (r : Rep K H T u (.tup ds)) : ∃ a xs, u = .ref a ∧ (∀ T' H', Mv T H T' H' → SqT K H' a xs) ∧ RepL K H T xs ds := by
  cases r with
  | tup s h r => exact ⟨_, _, rfl, fun T2 H2 m => .inl (.inl (m.keep _ _ s h)), r⟩
  | tupK h r => exact ⟨_, _, rfl, fun T2 H2 m => .inr h, r⟩
end
end VS
namespace VS
open PySem L2 C8 PySem.Spec PyProof.Rows
/-! ### enumerate over a tuple -/
end VS
namespace VS
open PySem L2 C8 PySem.Spec PyProof.Rows
/-! ### own classes: what is known of a thing's class, isinstance -/
inductive OfC (K : PySem.W.Frag) (S : Sto) : D → Value → Prop
  | p {x : D} {n : String} (h : TyS S x n) : OfC K S x (.type n)
  | i {x : D} {C : Addr} {fs : List (Str × D)} (h : IsI S x C fs) (c : InsC K C) : OfC K S x (.ref C)
  | e {C : Addr} {fs : List (Str × D)} (T : XcT K C) : OfC K S (.xv C fs) (.ref C)
theorem OfC.ok {K : PySem.W.Frag} {H : Hp} {S T : Sto} {x : D} {t : Value} {u : V} (o : OfC K S x t) (cl : Cells K H S T) (r : Rep K H T u x) : TyZ K H u t := by
  cases o with
  | e T => cases r with | xv s h s2 h2 r => exact .e h h2 T
  | p h => exact .x (h.ok cl r)
  | i h c =>
    obtain ⟨a, dx, fs, rfl, ha, _⟩ := h.rd cl r
    exact .x (.base (.ins ha c.cl c.ha c.hn c.htk c.hm))
def rIsiV (K : PySem.W.Frag) : CR1 := fun xs H Q => ∃ (x : V) (tp : Addr) (cs : List V) (t : Value) (us : List Value) (b : Bool), xs = [x, .ref tp] ∧ SqT K H tp cs ∧ Paired ClsV cs us ∧ TyZ K H x t ∧ PySem.W.kitAny K t us = some b ∧ Q (.bl b) H
theorem c_isiV {X : Cx} : CallR X (.builtin "isinstance") (rIsiV X.K) := by
  intro pins s σ H xs us Q I r h
  obtain ⟨x, tp, cs, t, ws, b, rfl, hT, k, ty, e, q⟩ := h
  obtain ⟨u1, u2, rfl, r1, r2⟩ := vals2 r
  cases (show u2 = Value.ref tp from r2)
  obtain ⟨P, Z, p, hx⟩ := kit_ofZ I r1 ty
  obtain ⟨its, rv, ⟨o, h1, h2, n, h3⟩, _⟩ := I.tuple hT
  have e3 := ClsV.all k rv
  subst e3
  obtain ⟨oc, od, dt, sl⟩ := o
  simp only at h2 h3
  subst h2 h3
  exact PySem.W.kia_tup Z I.kIn p h1 e hx fun tk => ⟨.bl b, H, I.tok tk, rfl, q⟩
section
variable {c : Ctx} {ρ : Rho} {S : Sto} {F : D → Sto → Prop}
theorem rc_isiO {x : D} {t : Value} {C : Addr} {b : Bool} (o : OfC c.K S x t) (h : PySem.W.kitOne c.K t (.ref C) = some b) (q : F (.bl b) S) : RC c (rIsiZ c.K) [x, .ref C] S F := fun T us H cl r Q k => by
  cases r with
  | cons h1 r => cases r with
    | cons h2 r =>
      cases r
      cases h2
      exact ⟨_, _, _, _, b, rfl, .own C, o.ok cl h1, h, k _ _ S T H Mv.refl cl (.bl _) q⟩
/-- an own class's name -/
theorem ve_cls {C : Addr} (q : F (.ref C) S) : VE c (tC (.ref C)) ρ S F := ve_ref q
/-- isinstance by several classes -/
inductive ClsD : D → Value → Prop
  | ty (n : String) : ClsD (.ty n) (.type n)
  | own (C : Addr) : ClsD (.ref C) (.ref C)
theorem clsD_all {K : PySem.W.Frag} {H : Hp} {T : Sto} : ∀ {cs : List V} {ds : List D} {us : List Value}, Paired ClsD ds us → RepL K H T cs ds → Paired ClsV cs us
  | _, _, _, .nil, .nil => .nil
  | _, _, _, .cons c t, .cons r rt => .cons (by
    cases c with
    | ty n => cases r; exact .ty n
    | own C => cases r; exact .own C) (clsD_all t rt)
theorem rc_isiV {x : D} {t : Value} {ds : List D} {us : List Value} {b : Bool} (o : OfC c.K S x t) (p : Paired ClsD ds us) (h : PySem.W.kitAny c.K t us = some b) (q : F (.bl b) S) : RC c (rIsiV c.K) [x, .tup ds] S F := fun T vs H cl r Q k => by
  cases r with
  | cons h1 r => cases r with
    | cons h2 r =>
      cases r
      obtain ⟨a, xs, rfl, s, rr⟩ := h2.seqT
      exact ⟨_, a, xs, t, us, b, rfl, s, clsD_all p rr, o.ok cl h1, h, k _ _ S T H Mv.refl cl (.bl _) q⟩
end
/-! ### == by an own __eq__ -/
def rEqO (K : PySem.W.Frag) (C : Addr) (sp : Sp) : R2 := fun x y H Q => ∃ a dx fs t, x = .ref a ∧ H a = some (.ins C dx fs) ∧ TyZ K H y t ∧ PySem.W.notFirst K C t = true ∧ sp [x, y] H (fun v H' => ∃ b, v = .bl b ∧ Q (.bl b) H') (fun _ _ _ => False)
section
variable {X : Cx} {k : Nat} {f C : Addr} {fd : FuncData} {ps : List Str} {sp : Sp}
theorem tyx_looks {pins : List (Addr × Obj)} {σ : L2.St} {H : Hp} {s : Shared} {y : V} {u t : Value} (I : Inv X pins σ H s) (r : RelV y u) (ty : TyZ X.K H y t) : PySem.W.Looks (model X.prog X.w) s.heap (typeOf u) t := by
  obtain ⟨P, Z, p, _⟩ := kit_ofZ I r ty
  exact Z.ty _ _ I.kIn p
theorem op_eqO (F : FnG X.prog X.w X.K X.mg X.base (L2.CX X.prog X.w) k f fd ps sp) (hgd : X.A.guards = some []) (hr : Room k X.A) (hs : PySem.W.findIn X.K (.ref C) "__eq__" = some (some (.ref f))) (hf : PySem.W.isFn X.K (.ref f) = true) (hb : Binds X.K fd ps []) :
    OpR X (compareOp .Eq) (rEqO X.K C sp) := by
  intro pins s σ H x y v u Q I rx ry h
  obtain ⟨a, dx, fs, t, rfl, ha, ty, hn, hp⟩ := h
  cases rx
  obtain ⟨mA, J, _⟩ := ins_get I.hok ha
  obtain ⟨od, J, _⟩ := J.look
  obtain ⟨m, hF⟩ := I.fr
  show wpAny _ _ (richCompare .Eq (.ref a) u) _ _ _
  refine PySem.W.cmp_K (op := .Eq) (tb := t) hr.units0 hF I.ok.mod.kin J (tyx_looks I ry ty) hn hs hf ?_
  have hl := F.len _ _ _ _ hp
  refine wpAny_mono (callG (E := fun _ _ _ _ => False) F hgd hr (bindsAt (vs := [.ref a, y]) (us := [.ref a, u]) hb .nil I.kIn (.cons rfl (.cons ry .nil)) hl) pass0 I (vs := [.ref a, y]) (.cons rfl (.cons ry .nil)) hp) (fun r s' q => ?_) fun _ _ z => z
  obtain ⟨w, H', I', rw', b, ew, q'⟩ := q
  subst ew
  cases rw'
  exact ⟨.bl b, H', I', rfl, q'⟩
end
section
variable {c : Ctx} {ρ : Rho} {S : Sto} {F : D → Sto → Prop}
theorem rv_eqO {x y : D} {t : Value} {C : Addr} {fs : List (Str × D)} {p : Pt} (i : IsI S x C fs) (o : OfC c.K S y t) (hn : PySem.W.notFirst c.K C t = true) (h : p [x, y] S (fun d S' => ∃ b, d = .bl b ∧ F (.bl b) S') noY) : RV c (rEqO c.K C (spOf c.K p)) x y S F := fun T u w H cl r1 r2 Q k => by
  have ty := o.ok cl r2
  obtain ⟨a, dx, fv, rfl, ha, rf⟩ := i.rd cl r1
  refine ⟨a, dx, fv, t, rfl, ha, ty, hn, ⟨[x, y], S, T, _, noY, .cons r1 (.cons r2 .nil), cl, h, ?_, fun _ _ _ _ _ _ _ _ _ z => z.elim⟩⟩
  rintro v d S' T' H' m cl' r' ⟨b, rfl, q⟩
  cases r'
  exact ⟨b, rfl, k _ _ S' T' H' m cl' (.bl b) q⟩
/-! ### a new instance by value -/
theorem VA.imp {G G' : List D → Sto → Prop} {ta : TA} (h : VA c ta ρ S G) (i : ∀ d S, G d S → G' d S) : VA c ta ρ S G' := fun T σ H I Q k => h T σ H I Q fun v d S' T' H' m cl r q => k v d S' T' H' m cl r (i _ _ q)
theorem del_put {S : Sto} {p : Addr} {d : D} (h : S p = none) : del (put S p d) p = S := by
  funext b
  by_cases z : b = p
  · subst z; rw [del_same, h]
  · rw [del_ne z, put_ne z]
theorem del_put2 {S : Sto} {p : Addr} {d e : D} (h : S p = none) : del (put (put S p d) p e) p = S := by
  rw [put_put, del_put h]
/-- C(e, ..), known by value from then on -/
theorem ve_mkV {p : Pt} {E : L2.St → XK} {Y} {t : TA} {C : Addr} {dvs : List V} {dds : List D} (x : XOk c ρ E Y) (hd : ∀ H T, RepL c.K H T dvs dds)
    (h : VA c t ρ S fun ds S1 => ∀ y, S1 y = none → p (.ref y :: (ds ++ dds)) (put S1 y (.ins C [])) (fun d S2 => d = .non ∧ ∃ l d', D.ref y = .ref l ∧ S2 l = some d' ∧ ¬ NoF d' ∧ F d' (VS.del S2 l)) Y) : VE c (tMakeE C (spOf c.K p) dvs E t) ρ S F :=
  ve_freeze (ve_mk x hd h)
end
end VS
namespace VS
open PySem L2 C8 PySem.Spec PyProof.Rows
/-! ### what is known of a method, of a maker -/
structure Mf (P : Program) (w : World) (K : PySem.W.Frag) (mg : Str → Option Value) (base : Heap) (k : Nat) (C : Addr) (m qual : Str) (st : Stmt) (dvs : List V) (ps : List Str) (p : Pt) (f : Addr) (fd : FuncData) : Prop where
  fn : FnG P w K mg base (L2.CX P w) k f fd ps (spOf K p)
  df : Fd K m qual st dvs f fd
  cl : Cls K C
  me : Meth K C m f
  b : Binds K fd ps []
structure Kf (P : Program) (w : World) (K : PySem.W.Frag) (mg : Str → Option Value) (base : Heap) (k : Nat) (x : Str) (C : Addr) (qual : Str) (st : Stmt) (dvs : List V) (ps : List Str) (p : Pt) (f : Addr) (fd : FuncData) : Prop where
  mk_ : L2.Mk K C f
  fn : FnG P w K mg base (L2.CX P w) k f fd ps (spOf K p)
  df : Fd K "__init__" qual st dvs f fd
  mg : mg x = some (.ref C)
  b : Binds K fd ps []
/-- isinstance by an own class, from what the written part says -/
theorem kit_self {K : PySem.W.Frag} {C : Addr} : PySem.W.kitOne K (.ref C) (.ref C) = some true := by
  unfold PySem.W.kitOne
  rw [if_pos (beq_self_eq_true _)]
theorem kit_own {K : PySem.W.Frag} {v : Value} {C : Addr} {b : Bool} (n : (v == Value.ref C) = false) (h1 : PySem.W.isClsIn K C = true) (h2 : PySem.W.typeIn K (.ref C) = some (.type "type")) (h3 : PySem.W.subIn K v (.ref C) = some b) : PySem.W.kitOne K v (.ref C) = some b := by
  have h1' : (PySem.W.clsIn K C).isSome = true := h1
  unfold PySem.W.kitOne
  rw [if_neg (by rw [n]; decide)]
  show (if ((PySem.W.clsIn K C).isSome && PySem.W.typeIn K (.ref C) == some (.type "type")) = true then PySem.W.subIn K v (.ref C) else none) = some b
  rw [if_pos (by rw [h1', h2]; rfl)]
  exact h3
section
variable {c : Ctx} {ρ : Rho} {S : Sto} {F : D → Sto → Prop}
/-- o.m(), o.m(e, ..) -/
theorem ve_mt0 {p : Pt} {E : L2.St → XK} {Y} {ta : TE} {t : TA} {C : Addr} {m : Str} (x : XOk c ρ E Y) (h : VE c ta ρ S fun y S1 => ∃ fs, IsI S1 y C fs ∧ fs.lookup m = none ∧ VA c t ρ S1 fun ds S2 => p (y :: ds) S2 F Y) : VE c (tMethE C m (spOf c.K p) [] E ta t) ρ S F :=
  ve_mt (dds := []) x (fun _ _ => .nil) (h.imp fun y S1 ⟨fs, a, b, g⟩ => ⟨fs, a, b, g.imp fun ds S2 q => by rw [List.append_nil]; exact q⟩)
theorem ve_mk0 {p : Pt} {E : L2.St → XK} {Y} {t : TA} {C : Addr} (x : XOk c ρ E Y) (h : VA c t ρ S fun ds S1 => ∀ y, S1 y = none → p (.ref y :: ds) (put S1 y (.ins C [])) (fun d S2 => d = .non ∧ ∃ l d', D.ref y = .ref l ∧ S2 l = some d' ∧ ¬ NoF d' ∧ F d' (VS.del S2 l)) Y) : VE c (tMakeE C (spOf c.K p) [] E t) ρ S F :=
  ve_mkV (dds := []) x (fun _ _ => .nil) (h.imp fun ds S1 g y hy => by rw [List.append_nil]; exact g y hy)
end
end VS
namespace VS
open PySem L2 C8 PySem.Spec PyProof.Rows
/-! ### a list or a tuple walked -/
def iSeqA (K : PySem.W.Frag) (tl : TE) : TI := fun σ H R => tl σ H fun x H1 => ∃ a, x = .ref a ∧ (((∃ xs, SqL K H1 a xs) ∧ R (Itl K a) H1) ∨ ((∃ xs, SqT K H1 a xs) ∧ R (Itt K a) H1))
theorem pi_seq {X : Cx} {tg l : Expr} {tl : TE} (hl : PE X l tl) : PI X tg l (iSeqA X.K tl) := by
  refine ⟨fun pins s σ H R I h => thn (hl.run pins s σ H _ I h) fun v s1 ⟨x, H1, I1, r1, a, e, q⟩ => ?_⟩
  subst e
  cases r1
  have new : ∀ b, b ∈ [s1.heap.objs.size] → FpOk X pins H1 b := fun b hb => by
    have e : b = s1.heap.objs.size := by simpa using hb
    subst e
    exact I1.fpOk (Nat.le_refl _) (I1.hok.fresh (Nat.le_refl _))
  rcases q with ⟨⟨xs, hq⟩, q⟩ | ⟨⟨xs, hq⟩, q⟩
  · obtain ⟨its, rv, p, hz⟩ := I1.list hq
    exact wpAny_pyIter_list p.isList ⟨s1.heap.objs.size, [s1.heap.objs.size], _, _, H1, rfl, I1.kept (t' := s1.toks) fun b o e => Heap.get?_push_of_some _ e, turn_list a _, ⟨_, Heap.get?_push_size _ rfl, rfl, rfl⟩, new, q⟩
  · obtain ⟨its, rv, p, hz⟩ := I1.tuple hq
    exact wpAny_pyIter_tuple (show s1.heap.IsTuple a its.toArray from p) ⟨s1.heap.objs.size, [s1.heap.objs.size], _, _, H1, rfl, I1.kept (t' := s1.toks) fun b o e => Heap.get?_push_of_some _ e, turn_tuple a _, ⟨_, Heap.get?_push_size _ rfl, rfl, rfl⟩, new, q⟩
theorem yl_tup {K : PySem.W.Frag} {T : Sto} {H : Hp} {a : Addr} {xs : List V} {ds : List D} (hq : ∀ T1 H1, Mv T H T1 H1 → SqT K H1 a xs) (r : RepL K H T xs ds) : Yl K (Itt K a) ds T H := by
  refine ⟨fun H => SqT K H a xs, YAt xs, by rw [← r.length]; exact walk_tup, hq, fun i d S2 T2 H2 H3 x e m cl y => ?_⟩
  obtain ⟨e1, e2⟩ := y
  subst e1
  obtain ⟨v, e3, r'⟩ := r.get e
  rw [e2] at e3
  cases e3
  exact ⟨Mv.refl, cl, r'.mv m⟩
/-- a list or a tuple, by value -/
inductive IsS : D → List D → Prop
  | l {x : D} {ds : List D} (h : IsW x ds) : IsS x ds
  | t {ds : List D} : IsS (.tup ds) ds
section
variable {c : Ctx} {ρ : Rho} {S : Sto} {F : D → Sto → Prop}
theorem vi_seq {te : TE} {W : List D → Sto → Prop} (h : VE c te ρ S fun x S1 => ∃ ds, IsS x ds ∧ W ds S1) : VI c (iSeqA c.K te) ρ S W := fun T σ H I R k =>
  h T σ H I _ fun vx x S1 T1 H1 m1 c1 r1 ⟨ds, hx, q⟩ => by
    cases hx with
    | l hx =>
      obtain ⟨a, xs, rfl, hq, r⟩ := hx.rd r1
      exact ⟨a, rfl, .inl ⟨⟨xs, hq _ _ Mv.refl⟩, k _ ds S1 T1 H1 m1 c1 (yl_list hq r) q⟩⟩
    | t =>
      obtain ⟨a, xs, rfl, hq, r⟩ := tup_stays r1
      exact ⟨a, rfl, .inr ⟨⟨xs, hq _ _ Mv.refl⟩, k _ ds S1 T1 H1 m1 c1 (yl_tup hq r) q⟩⟩
/-- isinstance by a built-in class, whatever is known of the thing's own class -/
theorem rc_isiP {x : D} {t : Value} {N : String} {b : Bool} (o : OfC c.K S x t) (h : PySem.W.kitOne c.K t (.type N) = some b) (q : F (.bl b) S) : RC c (rIsiZ c.K) [x, .ty N] S F := fun T us H cl r Q k => by
  cases r with
  | cons h1 r => cases r with
    | cons h2 r =>
      cases r
      cases h2
      exact ⟨_, _, _, _, b, rfl, .ty N, o.ok cl h1, h, k _ _ S T H Mv.refl cl (.bl _) q⟩
end
/-! ### a, b = e1, e2 -/
section
variable {c : Ctx} {ρ : Rho} {S : Sto}
theorem vx_par {i j : Nat} {ta : TA} {nx bk ct : Rho → Sto → Prop} {rt : D → Sto → Prop} (h : VA c ta ρ S fun ds S1 => ∃ x y, ds = [x, y] ∧ nx ((ρ.set i (some x)).set j (some y)) S1) : VX c (tPar i j ta) ρ S ⟨nx, rt, bk, ct⟩ := fun T σ H I D b =>
  h T σ H I _ fun vs ds S1 T1 H1 m1 c1 r1 ⟨x, y, e, q⟩ => by
    subst e
    cases r1 with
    | cons r t => cases t with
      | cons r' t =>
        cases t
        exact ⟨_, _, rfl, b.nx _ _ S1 T1 H1 m1 (((I.mv m1 c1).set i r).set j r') q⟩
end
/-! ### a is not b of truths -/
/-! ### == of lists of whole numbers -/
end VS
namespace VS
open PySem L2 C8 PySem.Spec PyProof.Rows
/-! ### slices of tuples, the place of a flat thing in a list -/
section
variable {c : Ctx} {ρ : Rho} {S : Sto} {F : D → Sto → Prop}
theorem rs_tupA {ds : List D} {lo hi : Option Int} (n : ¬ (HT.sIx ds.length 0 lo = 0 ∧ HT.sIx ds.length ds.length hi = ds.length)) (q : F (.tup (cutD ds lo hi)) S) : RS c (rSlA c.K) (.tup ds) lo hi S F := fun T u H cl r Q k => by
  obtain ⟨a, xs, rfl, s, rr⟩ := r.seqT
  exact ⟨a, xs, rfl, s, fun z => absurd z (by rw [rr.length]; exact n), fun _ p hp => k _ _ S T _ (mv_new hp) (cl.new hp) (.tup (cl.free hp) upd_same ((rr.cut lo hi).mv (mv_new hp))) q⟩
end
theorem exm_own {K : PySem.W.Frag} {v : Value} {C : Addr} {b : Bool} (h1 : PySem.W.isClsIn K C = true) (h2 : PySem.W.typeIn K (.ref C) = some (.type "type")) (h3 : PySem.W.subIn K v (.ref C) = some b) (h4 : PySem.W.subIn K (.ref C) (.type "BaseException") = some true) : PySem.W.exmOne K v (.ref C) = some b := by
  have h1' : (PySem.W.clsIn K C).isSome = true := h1
  unfold PySem.W.exmOne PySem.W.kitCls
  rw [h4, if_pos (by decide)]
  show (if ((PySem.W.clsIn K C).isSome && PySem.W.typeIn K (.ref C) == some (.type "type")) = true then PySem.W.subIn K v (.ref C) else none) = some b
  rw [if_pos (by rw [h1', h2]; decide)]
  exact h3
end VS
namespace VS
open PySem L2 C8 PySem.Spec PyProof.Rows
/-! ### repr and str by an own def -/
end VS
namespace VS
open PySem L2 C8 PySem.Spec PyProof.Rows
/-! ### f-strings of texts and ints -/
end VS
namespace VS
open PySem L2 C8 PySem.Spec PyProof.Rows
/-! ### a comprehension over a list known by reference: it is hidden meanwhile -/
end VS
namespace VS
open PySem L2 C8 PySem.Spec PyProof.Rows
/-! ### x in, not in a list of data -/
end VS
namespace VS
open PySem L2 C8 PySem.Spec PyProof.Rows
/-! ### an own class beside a built-in one -/
end VS
namespace VS
open PySem L2
/-! ### further words of the walk -/
section
variable {c : Ctx} {ρ : Rho} {S : Sto} {F : D → Sto → Prop}
theorem ex_ins {x : D} {C : Addr} {fs : List (Str × D)} {m : Str} {G : Prop} (i : IsI S x C fs) (h : fs.lookup m = none) (g : G) : ∃ fs, IsI S x C fs ∧ fs.lookup m = none ∧ G := ⟨fs, i, h, g⟩
theorem ex_fldI {K : PySem.W.Frag} {x : D} {C : Addr} {fs : List (Str × D)} {f : Str} {e : D} {G : D → Prop} (i : IsI S x C fs) (k : Cls K C) (n : NoAttr K C f) (h : fs.lookup f = some e) (g : G e) :
    ∃ C fs e, IsI S x C fs ∧ Cls K C ∧ NoAttr K C f ∧ fs.lookup f = some e ∧ G e := ⟨C, fs, e, i, k, n, h, g⟩
theorem ex_cell {l : Addr} {ds : List D} {G : Addr → Prop} (h : S l = some (.lst ds)) (g : G l) : ∃ l' ds, D.ref l = .ref l' ∧ S l' = some (.lst ds) ∧ G l' := ⟨l, ds, rfl, h, g⟩
end
end VS
namespace VS
end VS
namespace VS
open PySem L2
/-! ### data, by value or as a list or dict known by reference -/
inductive Da (S : Sto) : D → D → Prop
  | v {d : D} (p : isP d = true) : Da S d d
  | c {l : Addr} {ds : List D} (h : S l = some (.lst ds)) (p : isP (.lst ds) = true) : Da S (.ref l) (.lst ds)
  | k {l : Addr} {ds : List (Key × D)} (h : S l = some (.dK ds)) (p : isP (.dK ds) = true) : Da S (.ref l) (.dK ds)
def tyN : D → String
  | .non => "NoneType"
  | .bl _ => "bool"
  | .int _ => "int"
  | .str _ => "str"
  | .lst _ => "list"
  | .tup _ => "tuple"
  | .dK _ => "dict"
  | _ => ""
theorem tyN_all {P : String → Prop} (h1 : P "NoneType") (h2 : P "bool") (h3 : P "int") (h4 : P "str") (h5 : P "list") (h6 : P "tuple") (h7 : P "dict") : ∀ {d : D}, isP d = true → P (tyN d)
  | .non, _ => h1
  | .bl _, _ => h2
  | .int _, _ => h3
  | .str _, _ => h4
  | .lst _, _ => h5
  | .tup _, _ => h6
  | .dK _, _ => h7
  | .ty _, h => by cases h
  | .ref _, h => by cases h
  | .rol _, h => by cases h
  | .hid, h => by cases h
  | .ins _ _, h => by cases h
  | .xcp _ _ _ _, h => by cases h
  | .xv _ _, h => by cases h
  | .fn _ _ _, h => by cases h
section
variable {S S' : Sto} {d d' : D}
theorem Da.p (h : Da S d d') : isP d' = true := by cases h <;> assumption
theorem Da.vw (h : Da S d d') : Vw S d d' := by
  cases h with
  | v p => exact .v
  | c h p => exact .c h nofun
  | k h p => exact .c h nofun
theorem Da.ty (h : Da S d d') : TyS S d (tyN d') := by
  cases h with
  | v p =>
    cases d with
    | non => exact .non
    | bl b => exact .bl b
    | int i => exact .int i
    | str z => exact .str z
    | lst xs => exact .lst xs
    | tup xs => exact .tup xs
    | dK xs => exact .dK xs
    | _ => cases p
  | c h p => exact .cl h
  | k h p => exact .cd h
theorem Da.of {K : PySem.W.Frag} (h : Da S d d') : OfC K S d (.type (tyN d')) := .p h.ty
/-- of a built-in class -/
def isK (N : String) (d : D) : Bool := (kitB (tyN d) N).getD false
theorem isK_all {N : String} (h1 : (kitB "NoneType" N).isSome = true) (h2 : (kitB "bool" N).isSome = true) (h3 : (kitB "int" N).isSome = true) (h4 : (kitB "str" N).isSome = true) (h5 : (kitB "list" N).isSome = true) (h6 : (kitB "tuple" N).isSome = true) (h7 : (kitB "dict" N).isSome = true)
    (h : isP d = true) : kitB (tyN d) N = some (isK N d) := by
  have e := tyN_all (P := fun n => (kitB n N).isSome = true) h1 h2 h3 h4 h5 h6 h7 h
  unfold isK
  cases q : kitB (tyN d) N with
  | none => rw [q] at e; cases e
  | some b => rfl
theorem rc_isiD {c : Ctx} {F : D → Sto → Prop} {N : String} (h : Da S d d') (e : kitB (tyN d') N = some (isK N d')) (q : F (.bl (isK N d')) S) : RC c (rIsiZ c.K) [d, .ty N] S F := rc_isi h.ty e q
theorem isK_list (h : isP d = true) : kitB (tyN d) "list" = some (isK "list" d) := isK_all rfl rfl rfl rfl rfl rfl rfl h
theorem isK_tuple (h : isP d = true) : kitB (tyN d) "tuple" = some (isK "tuple" d) := isK_all rfl rfl rfl rfl rfl rfl rfl h
theorem isPL_mem : ∀ {xs : List D}, isPL xs = true → ∀ x ∈ xs, isP x = true
  | y :: ys, h, x, hx => by
    have h' : (isP y && isPL ys) = true := h
    rw [Bool.and_eq_true] at h'
    rcases List.mem_cons.mp hx with rfl | hx
    · exact h'.1
    · exact isPL_mem h'.2 x hx
/-- all items of a list are data, one to one -/
inductive DaL (S : Sto) : List D → List D → Prop
  | nil : DaL S [] []
  | cons {d d' : D} {ds ds' : List D} (h : Da S d d') (t : DaL S ds ds') : DaL S (d :: ds) (d' :: ds')
theorem DaL.at : ∀ {xs ys : List D} {i : Nat} {d : D}, DaL S xs ys → xs[i]? = some d → ∃ d', ys[i]? = some d' ∧ Da S d d'
  | _, _, _, _, .nil, e => by simp at e
  | _, _, 0, _, .cons h _, e => by simp at e; subst e; exact ⟨_, rfl, h⟩
  | _, _, i + 1, d, .cons _ t, e => by
    obtain ⟨d', h1, h2⟩ := DaL.at (i := i) (d := d) t (by simpa using e)
    exact ⟨d', by simpa using h1, h2⟩
theorem DaL.length : ∀ {xs ys : List D}, DaL S xs ys → xs.length = ys.length
  | _, _, .nil => rfl
  | _, _, .cons _ t => congrArg Nat.succ t.length
theorem DaL.append : ∀ {xs ys us vs : List D}, DaL S xs ys → DaL S us vs → DaL S (xs ++ us) (ys ++ vs)
  | _, _, _, _, .nil, k => k
  | _, _, _, _, .cons h t, k => .cons h (t.append k)
end
end VS
namespace VS
open L2
theorem atI_zero {α : Type} {x : α} {xs : List α} : atI (x :: xs) 0 = some x := atI_nat (j := 0) rfl
end VS
namespace VS
open PySem L2 C8
section
variable {c : Ctx} {S : Sto} {F : D → Sto → Prop}
theorem rv_catA {xs ys : List D} (hl : xs.length + ys.length ≤ sizeLine) (q : F (.tup (xs ++ ys)) S) : RV c (rCatA c.K) (.tup xs) (.tup ys) S F := fun T u w H cl r1 r2 Q k => by
  obtain ⟨a, us, rfl, s1, rr1⟩ := r1.seqT
  obtain ⟨b, ws, rfl, s2, rr2⟩ := r2.seqT
  refine ⟨a, b, us, ws, rfl, rfl, s1, s2, by rw [rr1.length, rr2.length]; exact hl, fun e => ?_, fun _ e => ?_, fun _ _ p hp => ?_⟩
  · subst e
    cases rr1
    exact k _ _ S T H Mv.refl cl r2 q
  · subst e
    cases rr2
    rw [List.append_nil] at q
    exact k _ _ S T H Mv.refl cl r1 q
  · exact k _ _ S T _ (mv_new hp) (cl.new hp) (.tup (cl.free hp) upd_same ((rr1.append rr2).mv (mv_new hp))) q
theorem rs_tupG {ds : List D} {lo hi : Option Int} (q : F (.tup (cutD ds lo hi)) S) : RS c (rSlA c.K) (.tup ds) lo hi S F := by
  by_cases n : HT.sIx ds.length 0 lo = 0 ∧ HT.sIx ds.length ds.length hi = ds.length
  · have e : cutD ds lo hi = ds := by
      unfold cutD
      rw [n.1, n.2, List.drop_zero, Nat.sub_zero, List.take_length]
    rw [e] at q
    exact fun T u H cl r Q k => by
      obtain ⟨a, xs, rfl, s, rr⟩ := r.seqT
      exact ⟨a, xs, rfl, s, fun _ => k _ _ S T H Mv.refl cl r q, fun z => absurd (by rw [rr.length]; exact n) z⟩
  · exact rs_tupA n q
end
end VS
namespace VS
theorem ex_two {x y : D} {G : D → D → Prop} (g : G x y) : ∃ x' y', ([x, y] : List D) = [x', y'] ∧ G x' y' := ⟨x, y, rfl, g⟩
end VS
namespace VS
open L2
end VS
namespace VS
open PySem L2
theorem keepc {S : Sto} {p a : Addr} {d x : D} (h : S a = some x) (hp : S p = none) : put S p d a = some x := (put_ne (ne_at h hp)).trans h
end VS
namespace VS
open PySem L2
theorem Da.put {S : Sto} {y : Addr} {x d d' : D} (h : Da S d d') (hy : S y = none) : Da (VS.put S y x) d d' := by
  cases h with
  | v p => exact .v p
  | c h p => exact .c (keepc h hy) p
  | k h p => exact .k (keepc h hy) p
end VS
namespace VS
theorem joinD {A Q : D → Sto → Prop} {B : Prop} (h : (∀ d S, A d S → Q d S) → B) (k : ∀ d S, A d S → Q d S) : B := h k
end VS
namespace VS
open PySem L2 C8
/-! ### try by name -/
def tTry (K : PySem.W.Frag) (tb : WX → TS) (l : List Cla) : TS := fun D σ H => tb (wCla K D l) D σ H
section
variable {X : Cx}
theorem ps_tryD {body : List Stmt} {h₀ : ExceptHandler} {hds : List ExceptHandler} {l : List Cla} {tb : WX → TS} {pos : Pos} (hs : X.stack = X.env :: X.outer) (hf : X.env.frame = some X.env.locals) (hN : X.N.Nodup)
    (hb : ∀ (W : WX) (pn : List (Addr × Obj)) (xe : Value → Shared → Prop), Takes (X.tr pn xe) W → PassesOwn (model X.prog X.w) X.A X.env xe → PSs (X.tr pn xe) body (tb W)) (hh : Clas X (h₀ :: hds) l) :
    PS X (.Try body (h₀ :: hds) [] [] pos) (tTry X.K tb l) := ps_tryC hs hf hN hb hh
end
theorem vx_tryD {c : Ctx} {ρ : Rho} {S : Sto} {P : Po} {tb : WX → TS} {l : List Cla} (h : ∀ E' : L2.St → XK, VX ⟨c.K, E', fun C fs ρ' S' => HdV c P l C fs ρ' S'⟩ (tb (fun cls d σ H => E' σ cls d H)) ρ S P) :
    VX c (tTry c.K tb l) ρ S P := vx_try h
theorem hd_hit {c : Ctx} {ρ : Rho} {S : Sto} {P : Po} {k : Cla} {r : List Cla} {C : Addr} {fs : List (Str × D)} (e : PySem.W.exmOne c.K (.ref C) k.c = some true) (h : ∀ a dd, VX c (k.t a (.ref C) (some dd)) (inR k.i (.xcp a dd C fs) ρ) S (offP k.i P)) :
    HdV c P (k :: r) C fs ρ S := ⟨true, e, fun _ => h, nofun⟩
theorem hd_skip {c : Ctx} {ρ : Rho} {S : Sto} {P : Po} {k : Cla} {r : List Cla} {C : Addr} {fs : List (Str × D)} (e : PySem.W.exmOne c.K (.ref C) k.c = some false) (h : HdV c P r C fs ρ S) :
    HdV c P (k :: r) C fs ρ S := ⟨false, e, nofun, fun _ => h⟩
end VS
namespace VS
open PySem L2 C8
theorem ex_xf {a dd C : Addr} {fs : List (Str × D)} {f : Str} {e : D} {G : D → Prop} (h : fs.lookup f = some e) (g : G e) : ∃ dd' fs' e', D.xcp a dd C fs = .xcp a dd' C fs' ∧ some dd = some dd' ∧ fs'.lookup f = some e' ∧ G e' := ⟨dd, fs, e, rfl, rfl, h, g⟩
end VS
namespace VS
open PySem L2 C8
/-! ### within a clause's suite -/
end VS
namespace VS
open PySem L2
/-! ### what is known by reference read as by value meanwhile -/
section
variable {c : Ctx} {ρ ρ' : Rho} {S : Sto} {F : D → Sto → Prop} {G : Bool → Sto → Prop}
open Classical in
/-- the cells of V by value, all others hidden -/
noncomputable def viewT (V : Addr → Prop) (T : Sto) : Sto := fun b => if V b then none else (T b).map fun _ => .hid
abbrev noS : Sto := fun _ => none
theorem viewT_none {V : Addr → Prop} {T : Sto} {a : Addr} (h : T a = none) : viewT V T a = none := by
  unfold viewT
  split
  · rfl
  · rw [h]; rfl
theorem viewT_in {V : Addr → Prop} {T : Sto} {a : Addr} (h : V a) : viewT V T a = none := by
  unfold viewT
  rw [if_pos h]
theorem viewT_out {V : Addr → Prop} {T : Sto} {a : Addr} {d : D} (h : ¬ V a) (e : T a = some d) : viewT V T a = some .hid := by
  unfold viewT
  rw [if_neg h, e]; rfl
theorem viewT_some {V : Addr → Prop} {T : Sto} {a : Addr} {d : D} (e : viewT V T a = some d) : d = .hid ∧ ∃ d', T a = some d' := by
  unfold viewT at e
  split at e
  · cases e
  · cases q : T a with
    | none => rw [q] at e; cases e
    | some d' => rw [q] at e; cases e; exact ⟨rfl, d', rfl⟩
theorem mv_view {V : Addr → Prop} {T : Sto} {H : Hp} (hV : ∀ l, V l → T l ≠ some .hid) : Mv T H (viewT V T) H where
  keep := fun _ _ _ h => h
  fresh := fun _ s _ => viewT_none s
  hid := fun a o s e => ⟨e, viewT_out (fun z => hV a z s) s⟩
theorem cells_view {K : PySem.W.Frag} {V : Addr → Prop} {T : Sto} {H : Hp} (cl : Cells K H S T) : Cells K H noS (viewT V T) where
  ov := fun a => by
    cases q : viewT V T a with
    | none => exact .inl ⟨rfl, by simp⟩
    | some d => obtain ⟨rfl, _⟩ := viewT_some q; exact .inr ⟨rfl, rfl⟩
  ok := fun a d e => by
    obtain ⟨rfl, d', h⟩ := viewT_some e
    have h' := cl.ok a d' h
    cases q : H a with
    | none => exact absurd q h'.there
    | some o => exact ⟨o, q⟩
/-- behind it all is as it was -/
theorem view_back {K : PySem.W.Frag} {V : Addr → Prop} {T T' : Sto} {H H' : Hp} {S' : Sto} (hV : ∀ l, V l → T l ≠ some .hid) (cl : Cells K H S T) (m : Mv (viewT V T) H T' H') (_ : Cells K H' S' T') : Mv T H T H' ∧ Cells K H' S T := by
  have same : ∀ a d, T a = some d → H' a = H a := fun a d e => by
    have th := (cl.ok a d e).there
    cases q : H a with
    | none => exact absurd q th
    | some o =>
      by_cases hv : V a
      · exact m.keep a o (viewT_in hv) q
      · exact (m.hid a o (viewT_out hv e) q).1
  have mm : Mv T H T H' := ⟨⟨fun a o s e => m.keep a o (viewT_none s) e, fun _ s _ => s⟩, fun a o s e => ⟨by rw [same a _ s]; exact e, s⟩⟩
  exact ⟨mm, cl.ov, fun a d e => CellOk.mv mm (same a d e) (cl.ok a d e)⟩
/-- the slots, some of them read -/
structure Views (V : Addr → Prop) (S : Sto) (ρ ρ' : Rho) : Prop where
  len : ρ'.length = ρ.length
  at_ : ∀ (i : Nat) (d' : D), ρ'[i]? = some (some d') → ρ[i]? = some (some d') ∨ ∃ l, ρ[i]? = some (some (.ref l)) ∧ S l = some d' ∧ ¬ NoF d' ∧ V l
  ok : ∀ l, V l → ∃ d, S l = some d ∧ ¬ NoF d
theorem Views.in {V : Addr → Prop} {T : Sto} {σ : St} {H : Hp} (w : Views V S ρ ρ') (I : In c σ H ρ S T) : (∀ l, V l → T l ≠ some .hid) ∧ In c σ H ρ' noS (viewT V T) := by
  have hV : ∀ l, V l → T l ≠ some .hid := fun l h => by
    obtain ⟨d, e, n⟩ := w.ok l h
    exact I.cells.nohid e n
  have m := mv_view (H := H) hV
  have cl := cells_view (V := V) I.cells
  refine ⟨hV, cl, fun i d' e => ?_, by rw [w.len]; exact I.len, (I.mv m cl).exc⟩
  rcases w.at_ i d' e with h | ⟨l, h, hs, n, hv⟩
  · obtain ⟨v, h1, h2⟩ := I.slots i d' h
    exact ⟨v, h1, h2.mv m⟩
  · obtain ⟨v, h1, h2⟩ := I.slots i _ h
    cases h2
    refine ⟨_, h1, ?_⟩
    have ht := I.cells.at hs
    have r := I.cells.ok l d' ht
    cases d' with
    | lst ds => obtain ⟨xs, hx, rr⟩ := r; exact .lst (viewT_in hv) hx (rr.mv m)
    | dK ds => obtain ⟨xs, hx, rr⟩ := r; exact .dK (viewT_in hv) (.inl hx) (rr.mv m)
    | ins C ds => obtain ⟨dx, fs, hx, rr⟩ := r; exact .ins (viewT_in hv) hx (rr.mv m)
    | hid => exact absurd NoF.hid n
    | str x => exact absurd (NoF.str x) n
    | _ => exact r.elim
theorem vt_pure {V : Addr → Prop} {tt : TT} (w : Views V S ρ ρ') (h : VT c tt ρ' noS fun b _ => G b S) : VT c tt ρ S G := fun T σ H I Q k => by
  obtain ⟨hV, I'⟩ := w.in I
  refine h _ σ H I' Q fun b S' T' H' m cl q => ?_
  obtain ⟨m', cl'⟩ := view_back hV I.cells m cl
  exact k b S T H' m' cl' q
theorem views1 {i : Nat} {l : Addr} {d : D} (h : ρ[i]? = some (some (.ref l))) (hl : S l = some d) (n : ¬ NoF d) : Views (· = l) S ρ (ρ.set i (some d)) where
  len := by simp
  at_ := fun j d' e => by
    by_cases z : i = j
    · subst z
      have hi := (List.getElem?_eq_some_iff.mp h).1
      rw [List.getElem?_set_self hi] at e
      cases e
      exact .inr ⟨l, h, hl, n, rfl⟩
    · rw [List.getElem?_set_ne z] at e
      exact .inl e
  ok := fun a e => by subst e; exact ⟨d, hl, n⟩
theorem views0 : Views (fun _ => False) S ρ ρ := ⟨rfl, fun _ _ e => .inl e, fun _ h => h.elim⟩
end
end VS
namespace VS
open PySem L2
section
variable {c : Ctx} {ρ ρ' : Rho} {S : Sto} {F : D → Sto → Prop} {G : Bool → Sto → Prop}
theorem set_self {i : Nat} {d : D} (h : ρ[i]? = some (some d)) : ρ.set i (some d) = ρ := by
  apply List.ext_getElem?
  intro j
  by_cases z : i = j
  · subst z
    rw [List.getElem?_set_self (List.getElem?_eq_some_iff.mp h).1, h]
  · rw [List.getElem?_set_ne z]
theorem vt_pureD {tt : TT} (i : Nat) {d d' : D} (h : ρ[i]? = some (some d)) (hd : Da S d d') (k : VT c tt (ρ.set i (some d')) noS fun b _ => G b S) : VT c tt ρ S G := by
  cases hd with
  | v p => rw [set_self h] at k; exact vt_pure views0 k
  | c hl p => exact vt_pure (views1 h hl nofun) k
  | k hl p => exact vt_pure (views1 h hl nofun) k
/-- the items of a list or a tuple -/
def rowsOf : D → List D
  | .lst xs => xs
  | .tup xs => xs
  | _ => []
def isLT : D → Bool
  | .lst _ => true
  | .tup _ => true
  | _ => false
theorem Da.isQ {d d' : D} (hd : Da S d d') (h : isLT d' = true) : IsQ S d (rowsOf d') := by
  cases hd with
  | v p =>
    cases d with
    | lst xs => exact .l .v
    | tup xs => exact .t
    | _ => cases h
  | c hl p => exact .l (.c hl)
  | k hl p => cases h
theorem isS_of {d : D} (h : isLT d = true) : IsS d (rowsOf d) := by
  cases d with
  | lst xs => exact .l .v
  | tup xs => exact .t
  | _ => cases h
theorem rc_isiLT {d d' : D} (hd : Da S d d') (q : F (.bl (isLT d')) S) : RC c (rIsiV c.K) [d, .tup [.ty "list", .ty "tuple"]] S F := by
  have e : PySem.W.kitAny c.K (.type (tyN d')) [.type "list", .type "tuple"] = some (isLT d') := by
    have p := hd.p
    cases d' with
    | non => rfl
    | bl b => rfl
    | int i => rfl
    | str z => rfl
    | lst xs => rfl
    | tup xs => rfl
    | dK xs => rfl
    | _ => cases p
  exact rc_isiV hd.of (.cons (.ty _) (.cons (.ty _) .nil)) e q
theorem ex_self {K : PySem.W.Frag} {l C : Addr} {fs : List (Str × D)} {f : Str} {G : Addr → Addr → List (Str × D) → Prop} (h : S l = some (.ins C fs)) (k : Cls K C) (n : NoAttr K C f) (hl : fs.length < 1000) (g : G l C fs) :
    ∃ l' C' fs', D.ref l = .ref l' ∧ S l' = some (.ins C' fs') ∧ Cls K C' ∧ NoAttr K C' f ∧ fs'.length < 1000 ∧ G l' C' fs' := ⟨l, C, fs, rfl, h, k, n, hl, g⟩
end
end VS
namespace VS
open PySem L2 C8 PySem.Spec PyProof.Rows
/-! ### len and != by an own def -/
end VS
namespace VS
open PySem L2 C8
end VS
namespace VS
open PySem L2 C8 PySem.Spec PyProof.Rows
/-! ### == with an empty list, an empty tuple -/
def rEqE (K : PySem.W.Frag) : R2 := fun x y H Q => ∃ a b xs, x = .ref a ∧ y = .ref b ∧ ((SqL K H a xs ∧ SqL K H b []) ∨ (SqT K H a xs ∧ SqT K H b [])) ∧ Q (.bl xs.isEmpty) H
section
variable {c : Ctx} {S : Sto} {F : D → Sto → Prop}
theorem rv_eqEL {x : D} {xs : List D} (h : IsL S x xs) (q : F (.bl xs.isEmpty) S) : RV c (rEqE c.K) x (.lst []) S F := fun T u w H cl r1 r2 Q k => by
  obtain ⟨a, us, rfl, s1, rr⟩ := h.rd cl r1
  obtain ⟨b, ws, rfl, s2, rr2⟩ := (IsL.v (S := S) (ds := [])).rd cl r2
  cases rr2
  refine ⟨a, b, us, rfl, rfl, .inl ⟨s1, s2⟩, ?_⟩
  have e : us.isEmpty = xs.isEmpty := by cases rr <;> rfl
  rw [e]
  exact k _ _ S T H Mv.refl cl (.bl _) q
theorem rv_eqET {xs : List D} (q : F (.bl xs.isEmpty) S) : RV c (rEqE c.K) (.tup xs) (.tup []) S F := fun T u w H cl r1 r2 Q k => by
  obtain ⟨a, us, rfl, s1, rr⟩ := r1.seqT
  obtain ⟨b, ws, rfl, s2, rr2⟩ := r2.seqT
  cases rr2
  refine ⟨a, b, us, rfl, rfl, .inr ⟨s1, s2⟩, ?_⟩
  have e : us.isEmpty = xs.isEmpty := by cases rr <;> rfl
  rw [e]
  exact k _ _ S T H Mv.refl cl (.bl _) q
end
end VS
namespace VS
open PySem L2 C8 PySem.Spec PyProof.Rows
def rNeE (K : PySem.W.Frag) : R2 := fun x y H Q => ∃ a b xs, x = .ref a ∧ y = .ref b ∧ ((SqL K H a xs ∧ SqL K H b []) ∨ (SqT K H a xs ∧ SqT K H b [])) ∧ Q (.bl (!xs.isEmpty)) H
section
variable {c : Ctx} {S : Sto} {F : D → Sto → Prop}
theorem rv_neEL {x : D} {xs : List D} (h : IsL S x xs) (q : F (.bl (!xs.isEmpty)) S) : RV c (rNeE c.K) x (.lst []) S F := fun T u w H cl r1 r2 Q k => by
  obtain ⟨a, us, rfl, s1, rr⟩ := h.rd cl r1
  obtain ⟨b, ws, rfl, s2, rr2⟩ := (IsL.v (S := S) (ds := [])).rd cl r2
  cases rr2
  refine ⟨a, b, us, rfl, rfl, .inl ⟨s1, s2⟩, ?_⟩
  have e : us.isEmpty = xs.isEmpty := by cases rr <;> rfl
  rw [e]
  exact k _ _ S T H Mv.refl cl (.bl _) q
theorem rv_neET {xs : List D} (q : F (.bl (!xs.isEmpty)) S) : RV c (rNeE c.K) (.tup xs) (.tup []) S F := fun T u w H cl r1 r2 Q k => by
  obtain ⟨a, us, rfl, s1, rr⟩ := r1.seqT
  obtain ⟨b, ws, rfl, s2, rr2⟩ := r2.seqT
  cases rr2
  refine ⟨a, b, us, rfl, rfl, .inr ⟨s1, s2⟩, ?_⟩
  have e : us.isEmpty = xs.isEmpty := by cases rr <;> rfl
  rw [e]
  exact k _ _ S T H Mv.refl cl (.bl _) q
end
end VS
namespace VS
open PySem L2 C8 PySem.Spec PyProof.Rows
/-! ### == with an own instance on the right -/
section
variable {prog : Program} {w : World} {A : Around} {E : Value → Shared → Prop} {s : Shared} {K : PySem.W.Frag} {x C dx f : Addr} {u : Value} {T : String}
/-- the kinds that decline -/
inductive LKd : Value → String → Prop
  | non : LKd .none "NoneType" | bl (b : Bool) : LKd (.bool b) "bool" | int (i : Int) (t : Tok) : LKd (.int i t) "int" | str (x : Str) (t : Tok) : LKd (.str x t) "str"
  | lst (a : Addr) : LKd (.ref a) "list" | tup (a : Addr) : LKd (.ref a) "tuple" | dct (a : Addr) : LKd (.ref a) "dict"
end
section
variable {X : Cx} {k : Nat} {f C : Addr} {fd : FuncData} {ps : List Str} {sp : Sp}
inductive KdV : V → String → Prop
  | non : KdV .non "NoneType" | bl (b : Bool) : KdV (.bl b) "bool" | int (i : Int) : KdV (.int i) "int" | str (x : Str) : KdV (.str x) "str"
  | lst (a : Addr) : KdV (.ref a) "list" | tup (a : Addr) : KdV (.ref a) "tuple" | dct (a : Addr) : KdV (.ref a) "dict"
theorem KdV.ok {x : V} {u : Value} {T : String} (k : KdV x T) (r : RelV x u) : LKd u T := by
  cases k with
  | non => cases (show u = Value.none from r); exact .non
  | bl b => cases (show u = Value.bool b from r); exact .bl b
  | int i => obtain ⟨t, q⟩ := (show ∃ t, u = Value.int i t from r); cases q; exact .int i t
  | str y => obtain ⟨t, q⟩ := (show ∃ t, u = Value.str y t from r); cases q; exact .str y t
  | lst a => cases (show u = Value.ref a from r); exact .lst a
  | tup a => cases (show u = Value.ref a from r); exact .tup a
  | dct a => cases (show u = Value.ref a from r); exact .dct a
end
end VS
namespace VS
open PySem L2 PySem.Spec PyProof.Rows
/-! ### C(e) as a value, C an own exception class of one field -/
end VS
namespace VS
open PySem L2 C8 PySem.Spec PyProof.Rows
/-! ### reversed(a list by value) -/
end VS
namespace VS
open PySem L2 PySem.Spec PyProof.Rows
/-! ### len(set(texts)) -/
/-- how many unlike ones stand among the first i -/
def unl (xs : List Str) : Nat → Nat
  | 0 => 0
  | i + 1 => bif (xs.take i).any (· == xs.getD i Str.empty) then unl xs i else unl xs i + 1
def inI (xs : List Str) (i : Nat) (k : Str) : Bool := (xs.take i).any (· == k)
section
variable {prog : Program} {w : World} {A : Around} {E : Value → Shared → Prop} {s : Shared}
abbrev HasT (prog : Program) (w : World) (h : Heap) (a : Addr) (xs : List Str) (i : Nat) : Prop := h.SetOf (PySem.strKind prog w) a (inI xs i) (unl xs i)
theorem HasT.keep {h h' : Heap} {a : Addr} {xs : List Str} {i : Nat} (t : HasT prog w h a xs i) (k : ∀ o, h.get? a = some o → h'.get? a = some o) : HasT prog w h' a xs i := by
  obtain ⟨o, es, ep, t, g, r⟩ := t
  exact ⟨o, es, ep, t, k _ g, r⟩
abbrev set0 (led : Bool) : Obj := { cls := .type "set", dict := none, data := .set #[] 0 (.fresh 0 0 led) }
end
end VS
namespace VS
open PySem L2 PySem.Spec PyProof.Rows
/-! ### min of three, min of a list, list.insert, what is never reached -/
end VS
namespace VS
open PySem L2 C8 PySem.Spec PyProof.Rows
/-! ### a module's constant that lies in the heap -/
def tKd (a : Addr) : TE := tC (.ref a)
theorem pe_kd {X : Cx} {x : Str} {pos : Pos} {a : Addr} (hg : Gl X x) (h : ∃ u, X.mg x = some u ∧ RelV (.ref a) u) (hd : (x == ("__debug__" : Str)) = false := by decide) : PE X (.Name x pos) (tKd a) := pe_gc hg h hd
theorem ve_kd {c : Ctx} {ρ : Rho} {S : Sto} {F : D → Sto → Prop} {a : Addr} {d : D} (r : ∀ H S, Rep c.K H S (.ref a) d) (q : F d S) : VE c (tKd a) ρ S F := ve_wr (r · ·) q
end VS
namespace VS
open PySem L2 PySem.Spec PyProof.Rows
section
variable {c : Ctx} {ρ : Rho} {S : Sto} {F : D → Sto → Prop}
/-- [e for x in xs if t], each by itself -/
theorem ve_lcF (p : D → Bool) (f : D → D) {wi : TI} {g : TG} {tt : TT} {te : TE} {vs : List Nat}
    (h : VI c wi ρ S fun ds S1 => ds.length ≤ 100000 ∧ (∀ d ∈ ds, VGw c vs g d (wipeR ρ vs) S1 fun ρ3 S3 => VT c tt ρ3 S3 fun b S4 => b = p d ∧ (p d = false → S4 = S1) ∧ (p d = true → VE c te ρ3 S4 fun y S5 => y = f d ∧ S5 = S1)) ∧ F (.lst ((ds.filter p).map f)) S1) : VE c (tLc wi g tt te vs) ρ S F := by
  refine ve_lc (fun T σ H I R k => h T σ H I R fun J ds S1 T1 H1 m1 c1 w ⟨h1, h2, h3⟩ => k J ds S1 T1 H1 m1 c1 w ⟨h1, fun i acc S2 => acc = ((ds.take i).filter p).map f ∧ S2 = S1, ⟨rfl, rfl⟩, ?_, ?_⟩)
  · rintro i d acc S2 hd ⟨e1, rfl⟩ hl T0 u0 σ0 H0 I0 r0 Q0 k0
    refine h2 d (List.mem_of_getElem? hd) T0 u0 σ0 H0 I0 r0 Q0 fun σ' ρ' S' T' H' hw m I' q => k0 σ' ρ' S' T' H' hw m I' ?_
    have tk : ds.take (i + 1) = ds.take i ++ [d] := by rw [List.take_succ, hd]; rfl
    refine q.imp fun b S4 ⟨hb, hf, hv⟩ => ?_
    subst hb
    refine ⟨fun z => (hv z).imp fun y S5 ⟨e2, e3⟩ => ⟨?_, e3⟩, fun z => ⟨?_, hf z⟩⟩
    · rw [tk, e1, e2, List.filter_append, List.map_append, List.filter_cons, if_pos z]
      rfl
    · rw [tk, e1, List.filter_append, List.map_append, List.filter_cons, if_neg (by rw [z]; decide)]
      simp
  · rintro acc S2 ⟨e1, rfl⟩ _
    rw [List.take_length] at e1
    rw [e1]
    exact h3
end
end VS
namespace VS
open PySem L2 PySem.Spec PyProof.Rows
end VS
namespace VS
open PySem L2 PySem.Spec PyProof.Rows
section
variable {c : Ctx} {ρ : Rho} {S : Sto} {F : D → Sto → Prop}
/-- [e for x in xs]: Q holds of each element, J of the store -/
theorem ve_lcJ (Q : D → Prop) (J : Nat → Sto → Prop) {wi : TI} {g : TG} {tt : TT} {te : TE} {vs : List Nat}
    (h : VI c wi ρ S fun ds S1 => ds.length ≤ 100000 ∧ J 0 S1 ∧ (∀ (i : Nat) (d : D) S2, ds[i]? = some d → J i S2 → VGw c vs g d (wipeR ρ vs) S2 fun ρ3 S3 => VT c tt ρ3 S3 fun b S4 => b = true ∧ VE c te ρ3 S4 fun y S5 => Q y ∧ J (i + 1) S5) ∧
      ∀ acc S2, acc.length = ds.length → (∀ y ∈ acc, Q y) → J ds.length S2 → F (.lst acc) S2) : VE c (tLc wi g tt te vs) ρ S F := by
  refine ve_lc (fun T σ H I R k => h T σ H I R fun J1 ds S1 T1 H1 m1 c1 w ⟨h1, h0, h2, h3⟩ => k J1 ds S1 T1 H1 m1 c1 w ⟨h1, fun i acc S2 => acc.length = i ∧ (∀ y ∈ acc, Q y) ∧ J i S2, ⟨rfl, nofun, h0⟩, ?_, ?_⟩)
  · rintro i d acc S2 hd ⟨e1, e2, e3⟩ hl T0 u0 σ0 H0 I0 r0 Q0 k0
    refine h2 i d S2 hd e3 T0 u0 σ0 H0 I0 r0 Q0 fun σ' ρ' S' T' H' hw m I' q => k0 σ' ρ' S' T' H' hw m I' ?_
    refine q.imp fun b S4 ⟨hb, hv⟩ => ?_
    subst hb
    refine ⟨fun _ => hv.imp fun y S5 ⟨f2, f3⟩ => ⟨by rw [List.length_append, e1]; rfl, fun y' hy => (List.mem_append.mp hy).elim (e2 y') fun z => by rw [List.mem_singleton.mp z]; exact f2, f3⟩, fun z => by cases z⟩
  · rintro acc S2 ⟨e1, e2, e3⟩ _
    exact h3 acc S2 e1 e2 e3
end
end VS
namespace VS
open PySem L2 PySem.Spec PyProof.Rows
/-- two own classes, told apart by a method -/
theorem own_ne {K : PySem.W.Frag} {C D f : Addr} {m : Str} (h1 : PySem.W.findIn K (.ref C) m = some (some (.ref f))) (h2 : PySem.W.findIn K (.ref D) m = some none) : (Value.ref C == Value.ref D) = false := by
  rw [beq_eq_false_iff_ne]
  intro z
  rw [z, h2] at h1
  cases h1
end VS
namespace VS
open PySem L2 C8 PySem.Spec PyProof.Rows
/-! ### x in [..] with own == -/
inductive FlK : D → String → Prop
  | non : FlK .non "NoneType" | bl (b : Bool) : FlK (.bl b) "bool" | int (i : Int) : FlK (.int i) "int" | str (z : Str) : FlK (.str z) "str"
theorem FlK.ty {S : Sto} {d : D} {n : String} (h : FlK d n) : TyS S d n := by
  cases h with
  | non => exact .non
  | bl b => exact .bl b
  | int i => exact .int i
  | str z => exact .str z
end VS
namespace VS
open PySem L2 C8 PySem.Spec PyProof.Rows
/-! ### bool of a truth; one operator, two readings -/
def rBoolB : List V → Hp → VK → Prop := fun xs H Q => ∃ k, xs = [.bl k] ∧ Q (.bl k) H
theorem c_boolB {X : Cx} : CallR X (.type "bool") rBoolB := fun pins s σ H xs us Q I r h => call_bool1 pins s σ H xs us Q I r (.inr h)
def orR (r1 r2 : R2) : R2 := fun x y H Q => r1 x y H Q ∨ r2 x y H Q
section
variable {c : Ctx} {S : Sto} {F : D → Sto → Prop}
theorem rc_boolB {b : Bool} (q : F (.bl b) S) : RC c rBoolB [.bl b] S F := fun T us H cl r Q k => by
  cases r with
  | cons h1 t => cases t; cases h1; exact ⟨b, rfl, k _ _ S T H Mv.refl cl (.bl b) q⟩
theorem rv_or1 {r1 r2 : R2} {x y : D} (h : RV c r1 x y S F) : RV c (orR r1 r2) x y S F := fun T u w H cl ru rw Q k => .inl (h T u w H cl ru rw Q k)
theorem rv_or2 {r1 r2 : R2} {x y : D} (h : RV c r2 x y S F) : RV c (orR r1 r2) x y S F := fun T u w H cl ru rw Q k => .inr (h T u w H cl ru rw Q k)
end
end VS
namespace VS
open PySem L2 PySem.Spec PyProof.Rows
/-! ### .. the list told by an expression -/
end VS
namespace VS
open PySem L2 PySem.Spec PyProof.Rows
/-! ### xs[::-1] -/
theorem RepL.rev {K : PySem.W.Frag} {H : Hp} {S : Sto} : ∀ {xs : List V} {ds : List D}, RepL K H S xs ds → RepL K H S xs.reverse ds.reverse
  | _, _, .nil => .nil
  | _, _, .cons h t => by
    rw [List.reverse_cons, List.reverse_cons]
    exact t.rev.append (.cons h .nil)
end VS
namespace VS
open PySem L2 PySem.Spec PyProof.Rows
end VS
namespace VS
open PySem L2
/-! ### what was known stays known where nothing is lost -/
section
variable {S S' : Sto}
theorem TyS.ext {d : D} {n : String} (h : TyS S d n) (x : Ext S S') : TyS S' d n := by
  cases h with
  | cl h => exact .cl (x _ _ h)
  | cd h => exact .cd (x _ _ h)
  | non => exact .non
  | bl b => exact .bl b
  | int i => exact .int i
  | str z => exact .str z
  | rol ds => exact .rol ds
  | lst ds => exact .lst ds
  | tup ds => exact .tup ds
  | dK ds => exact .dK ds
theorem IsI.ext {d : D} {C : Addr} {fs : List (Str × D)} (h : IsI S d C fs) (x : Ext S S') : IsI S' d C fs := by
  cases h with
  | v => exact .v
  | c h => exact .c (x _ _ h)
theorem OfC.ext {K : PySem.W.Frag} {d : D} {t : Value} (h : OfC K S d t) (x : Ext S S') : OfC K S' d t := by
  cases h with
  | p h => exact .p (h.ext x)
  | i h c => exact .i (h.ext x) c
  | e T => exact .e T
theorem Da.ext {d d' : D} (h : Da S d d') (x : Ext S S') : Da S' d d' := by
  cases h with
  | v p => exact .v p
  | c h p => exact .c (x _ _ h) p
  | k h p => exact .k (x _ _ h) p
theorem DaL.ext (x : Ext S S') : ∀ {ds es : List D}, DaL S ds es → DaL S' ds es
  | _, _, .nil => .nil
  | _, _, .cons h r => .cons (h.ext x) (r.ext x)
theorem Vw.ext {d d' : D} (h : Vw S d d') (x : Ext S S') : Vw S' d d' := by
  cases h with
  | v => exact .v
  | c h n => exact .c (x _ _ h) n
end
section
variable {c : Ctx} {ρ : Rho} {S : Sto} {F : D → Sto → Prop}
/-- a text and itself -/
theorem rv_neSame {z : Str} (q : F (.bl false) S) : RV c rNe (.str z) (.str z) S F := rv_ne (b := true) (by show some (decide (z = z)) = some true; rw [decide_eq_true rfl]) q
theorem rv_eqSame {z : Str} (q : F (.bl true) S) : RV c rEq (.str z) (.str z) S F := rv_eq (b := true) (by show some (decide (z = z)) = some true; rw [decide_eq_true rfl]) q
end
end VS
namespace VS
open PySem L2 C8 PySem.Spec PyProof.Rows
/-! ### a walk over a list known by reference: it is hidden meanwhile -/
section
variable {c : Ctx} {ρ : Rho} {S : Sto}
/-- no exception leaves -/
abbrev Ctx.calm (c : Ctx) : Ctx := ⟨c.K, c.E, fun _ _ _ _ => False⟩
end
end VS
namespace VS
open PySem L2 C8 PySem.Spec PyProof.Rows
section
variable {c : Ctx} {ρ : Rho} {S : Sto}
/-- a statement, what is known behind it, and the rest: where ways meet -/
theorem vx_join {a b : TS} {nx bk ct : Rho → Sto → Prop} {rt : D → Sto → Prop} (W : Rho → Sto → Prop) (h1 : VX c a ρ S ⟨W, rt, bk, ct⟩) (h2 : ∀ ρ' S', W ρ' S' → VX c b ρ' S' ⟨nx, rt, bk, ct⟩) : VX c (tSeq a b) ρ S ⟨nx, rt, bk, ct⟩ :=
  vx_seq (fun T σ H I D k => h1 T σ H I D ⟨fun σ' ρ' S' T' H' m I' q => k.nx σ' ρ' S' T' H' m I' (h2 ρ' S' q), k.rt, k.bk, k.ct⟩)
/-- an if: the test's ways meet -/
theorem vx_ifJ {tc : TT} {t u : TS} {P : Po} (J : Bool → Sto → Prop) (hc : VT c tc ρ S J) (h1 : ∀ S1, J true S1 → VX c t ρ S1 P) (h2 : ∀ S1, J false S1 → VX c u ρ S1 P) : VX c (tIfS tc t u) ρ S P :=
  vx_if (hc.imp fun b S1 j => ⟨fun e => h1 _ (by rw [← e]; exact j), fun e => h2 _ (by rw [← e]; exact j)⟩)
end
end VS
namespace VS
open PySem L2 C8 PySem.Spec PyProof.Rows
/-! ### min and max of a tuple of whole numbers -/
end VS
namespace VS
open PySem L2 C8 PySem.Spec PyProof.Rows
/-! ### dicts whose keys are numbers and texts: d[k], d[k] = v, {} by reference -/
def valD (ds : List (Key × D)) (k : Key) : Option D := (ds.find? fun kv => decide (kv.1 = k)).map (·.2)
def dkPut (ds : List (Key × D)) (k : Key) (d : D) : List (Key × D) :=
  if (ds.any fun kv => decide (kv.1 = k)) = true then ds.map (fun kv => if kv.1 = k then (kv.1, d) else kv) else ds ++ [(k, d)]
def kD : Key → D
  | .inl i => .int i
  | .inr x => .str x
theorem kD_rep {K : PySem.W.Frag} {H : Hp} {S : Sto} {k : Key} {v : V} (r : Rep K H S v (kD k)) : v = kV k := by
  cases k with
  | inl i => cases r; rfl
  | inr x => cases r; rfl
theorem valD_pos {p : Key × D} {r : List (Key × D)} {k : Key} (e : p.1 = k) : valD (p :: r) k = some p.2 := by simp [valD, List.find?_cons, e]
theorem valD_neg {p : Key × D} {r : List (Key × D)} {k : Key} (e : ¬ p.1 = k) : valD (p :: r) k = valD r k := by simp [valD, List.find?_cons, e]
section
variable {K : PySem.W.Frag} {H : Hp} {S : Sto}
theorem RepK.val {k : Key} : ∀ {vs : List (Key × V)} {ds : List (Key × D)}, RepK K H S vs ds → (valV vs k = none ∧ valD ds k = none) ∨ ∃ v d, valV vs k = some v ∧ valD ds k = some d ∧ Rep K H S v d
  | _, _, .nil => .inl ⟨rfl, rfl⟩
  | _, _, .cons (k := k') h t => by
    by_cases e : k' = k
    · exact .inr ⟨_, _, valV_pos e, valD_pos e, h⟩
    · rw [valV_neg e, valD_neg e]
      exact RepK.val t
theorem RepK.anyK {k : Key} : ∀ {vs : List (Key × V)} {ds : List (Key × D)}, RepK K H S vs ds → (vs.any fun kv => decide (kv.1 = k)) = ds.any fun kv => decide (kv.1 = k)
  | _, _, .nil => rfl
  | _, _, .cons h t => by rw [List.any_cons, List.any_cons, RepK.anyK t]
theorem RepK.rep {k : Key} {v : V} {d : D} (r : Rep K H S v d) : ∀ {vs : List (Key × V)} {ds : List (Key × D)}, RepK K H S vs ds → RepK K H S (vs.map fun kv => if kv.1 = k then (kv.1, v) else kv) (ds.map fun kv => if kv.1 = k then (kv.1, d) else kv)
  | _, _, .nil => .nil
  | _, _, .cons (k := k') h t => by
    rw [List.map_cons, List.map_cons]
    by_cases e : k' = k
    · rw [if_pos e, if_pos e]; exact .cons r (RepK.rep r t)
    · rw [if_neg e, if_neg e]; exact .cons h (RepK.rep r t)
theorem RepK.app {k : Key} {v : V} {d : D} (r : Rep K H S v d) : ∀ {vs : List (Key × V)} {ds : List (Key × D)}, RepK K H S vs ds → RepK K H S (vs ++ [(k, v)]) (ds ++ [(k, d)])
  | _, _, .nil => .cons r .nil
  | _, _, .cons h t => .cons h (RepK.app r t)
theorem RepK.put {k : Key} {v : V} {d : D} {vs : List (Key × V)} {ds : List (Key × D)} (r : Rep K H S v d) (h : RepK K H S vs ds) : RepK K H S (putK vs k v) (dkPut ds k d) := by
  unfold putK dkPut
  rw [h.anyK]
  by_cases e : (ds.any fun kv => decide (kv.1 = k)) = true
  · rw [if_pos e, if_pos e]; exact RepK.rep r h
  · rw [if_neg e, if_neg e]; exact RepK.app r h
theorem RepK.length : ∀ {vs : List (Key × V)} {ds : List (Key × D)}, RepK K H S vs ds → vs.length = ds.length
  | _, _, .nil => rfl
  | _, _, .cons h t => congrArg (· + 1) (RepK.length t)
end
inductive IsDk (S : Sto) : D → List (Key × D) → Prop
  | v {ds : List (Key × D)} : IsDk S (.dK ds) ds
  | c {l : Addr} {ds : List (Key × D)} (h : S l = some (.dK ds)) : IsDk S (.ref l) ds
theorem IsDk.rd {K : PySem.W.Frag} {H : Hp} {S T : Sto} {x : D} {ds : List (Key × D)} {u : V} (h : IsDk S x ds) (cl : Cells K H S T) (r : Rep K H T u x) : ∃ a vs, u = .ref a ∧ Rd H a (.dK vs) ∧ RepK K H T vs ds := by
  cases h with
  | v => cases r with
    | dK s h r => exact ⟨_, _, rfl, h, r⟩
  | c h => cases r; obtain ⟨xs, h1, r⟩ := cl.ok _ _ (cl.at h); exact ⟨_, xs, rfl, .inl h1, r⟩
theorem DGet.r {H : Hp} {a : Addr} {kvs : List (Key × V)} {k : Key} (e : Rd H a (.dK kvs)) : DGet H a (kV k) (valV kvs k) := .inl ⟨kvs, k, e, rfl, rfl⟩
section
variable {c : Ctx} {ρ : Rho} {S : Sto} {F : D → Sto → Prop}
/-- d[k] = v -/
theorem vx_dput {td ty tv : TE} {nx bk ct : Rho → Sto → Prop} {rt : D → Sto → Prop} (h : VE c tv ρ S fun d S1 => VE c td ρ S1 fun x S2 => ∃ l, x = .ref l ∧ VE c ty ρ S2 fun y S3 => ∃ (ds : List (Key × D)) (k : Key), S3 l = some (.dK ds) ∧ y = kD k ∧ ds.length < sizeLine ∧ nx ρ (put S3 l (.dK (dkPut ds k d)))) : VX c (sDPut td ty tv) ρ S ⟨nx, rt, bk, ct⟩ := fun T σ H I D b =>
  h T σ H I _ fun v d S1 T1 H1 m1 c1 r1 h1 => h1 T1 σ H1 (I.mv m1 c1) _ fun vx x S2 T2 H2 m2 c2 r2 ⟨l, ex, h2⟩ => h2 T2 σ H2 ((I.mv m1 c1).mv m2 c2) _ fun vy y S3 T3 H3 m3 c3 r3 ⟨ds, k, hl, ey, hs, q⟩ => by
    subst ex ey
    obtain rfl := kD_rep r3
    cases r2
    obtain ⟨vs, hx, rr⟩ := c3.ok _ _ (c3.at hl)
    have rd : Rep c.K H3 T3 v d := r1.mv (m2.trans m3)
    have w := mv_wr (H := H3) (d := .dK (dkPut ds k d)) (o := .dK (putK vs k v)) (c3.at hl)
    have cl' : Cells c.K (upd H3 l (.dK (putK vs k v))) (put S3 l (.dK (dkPut ds k d))) (put T3 l (.dK (dkPut ds k d))) := c3.wr (c3.at hl) (cell_d upd_same ((RepK.put rd rr).mv w))
    exact ⟨l, _, rfl, DPut.k hx (by rw [rr.length]; exact hs), b.nx σ ρ _ _ _ (m1.trans (m2.trans (m3.trans w))) (I.mv (m1.trans (m2.trans (m3.trans w))) cl') q⟩
end
/-! ### lists or tuples: s[i], s[i:j] -/
theorem ix_or {X : Cx} {r1 r2 : R2} (h1 : IxR X r1) (h2 : IxR X r2) : IxR X (orR r1 r2) := IxR.or h1 h2
section
variable {c : Ctx} {ρ : Rho} {S : Sto} {F : D → Sto → Prop} {d : D}
theorem rv_ixSq {x : D} {ds : List D} {i : Int} (h : IsQ S x ds) (e : atI ds i = some d) (q : F d S) : RV c (orR (rIxL c.K) (rIxT c.K)) x (.int i) S F := by
  cases h with
  | l h => exact rv_or1 (rv_ixL h e q)
  | t => exact rv_or2 (rv_ixT e q)
end
end VS
namespace VS
open PySem L2 PySem.Spec PyProof.Rows
/-! ### comprehensions over a list known by reference, once more: the result by reference; each element by itself -/
end VS
namespace VS
open PySem L2 C8 PySem.Spec PyProof.Rows
/-! ### sorted(xs, key=f, reverse=b), f an own def -/
section
variable {c : Ctx} {ρ : Rho} {S : Sto} {F : D → Sto → Prop}
theorem RepL.pairs {K : PySem.W.Frag} {H : Hp} {T : Sto} : ∀ {vs : List V} {ds : List D}, RepL K H T vs ds → ∃ qs : List (V × D), qs.map Prod.fst = vs ∧ qs.map Prod.snd = ds ∧ ∀ q ∈ qs, Rep K H T q.1 q.2
  | _, _, .nil => ⟨[], rfl, rfl, nofun⟩
  | _, _, .cons (v := v) (d := d) h t => by
    obtain ⟨qs, e1, e2, hq⟩ := RepL.pairs t
    exact ⟨(v, d) :: qs, by rw [List.map_cons, e1], by rw [List.map_cons, e2], fun q m => (List.mem_cons.mp m).elim (fun e => by rw [e]; exact h) (hq q)⟩
end
end VS
namespace VS
open PySem L2 PySem.Spec PyProof.Rows
/-! ### things seen whole: what is known by reference within them, too -/
mutual
inductive Vd (S : Sto) : D → D → Prop
  | v {d : D} : Vd S d d
  | c {l : Addr} {d d' : D} (h : S l = some d) (n : ¬ NoF d) (k : Vd S d d') : Vd S (.ref l) d'
  | lst {xs ys : List D} (h : VdL S xs ys) : Vd S (.lst xs) (.lst ys)
  | tup {xs ys : List D} (h : VdL S xs ys) : Vd S (.tup xs) (.tup ys)
  | dK {xs ys : List (Key × D)} (h : VdK S xs ys) : Vd S (.dK xs) (.dK ys)
  | ins {C : Addr} {fs gs : List (Str × D)} (h : VdF S fs gs) : Vd S (.ins C fs) (.ins C gs)
inductive VdL (S : Sto) : List D → List D → Prop
  | nil : VdL S [] []
  | cons {x y : D} {xs ys : List D} (h : Vd S x y) (t : VdL S xs ys) : VdL S (x :: xs) (y :: ys)
inductive VdK (S : Sto) : List (Key × D) → List (Key × D) → Prop
  | nil : VdK S [] []
  | cons {k : Key} {x y : D} {xs ys : List (Key × D)} (h : Vd S x y) (t : VdK S xs ys) : VdK S ((k, x) :: xs) ((k, y) :: ys)
inductive VdF (S : Sto) : List (Str × D) → List (Str × D) → Prop
  | nil : VdF S [] []
  | cons {k : Str} {x y : D} {xs ys : List (Str × D)} (h : Vd S x y) (t : VdF S xs ys) : VdF S ((k, x) :: xs) ((k, y) :: ys)
end
section
variable {K : PySem.W.Frag} {H : Hp} {S T : Sto}
mutual
theorem Vd.rd (cl : Cells K H S T) : ∀ {x d : D} {u : V} {T' : Sto}, Vd S x d → Rep K H T' u x → Rep K H (fun _ => none) u d
  | _, _, _, _, .v, r => r.any
  | _, _, _, _, .c h n k, r => by
    cases r
    exact Vd.rd cl k (cl.rep (cl.at h) n)
  | _, _, _, _, .lst h, r => by
    cases r with
    | lst s e r => exact .lst rfl e (VdL.rd cl h r)
  | _, _, _, _, .tup h, r => by
    cases r with
    | tup s e r => exact .tup rfl e (VdL.rd cl h r)
    | tupK e r => exact .tupK e (VdL.rd cl h r)
  | _, _, _, _, .dK h, r => by
    cases r with
    | dK s e r => exact .dK rfl e (VdK.rd cl h r)
  | _, _, _, _, .ins h, r => by
    cases r with
    | ins s e r => exact .ins rfl e (VdF.rd cl h r)
theorem VdL.rd (cl : Cells K H S T) : ∀ {xs ds : List D} {us : List V} {T' : Sto}, VdL S xs ds → RepL K H T' us xs → RepL K H (fun _ => none) us ds
  | _, _, _, _, .nil, r => by cases r; exact .nil
  | _, _, _, _, .cons h t, r => by
    cases r with
    | cons r1 r2 => exact .cons (Vd.rd cl h r1) (VdL.rd cl t r2)
theorem VdK.rd (cl : Cells K H S T) : ∀ {xs ds : List (Key × D)} {us : List (Key × V)} {T' : Sto}, VdK S xs ds → RepK K H T' us xs → RepK K H (fun _ => none) us ds
  | _, _, _, _, .nil, r => by cases r; exact .nil
  | _, _, _, _, .cons h t, r => by
    cases r with
    | cons r1 r2 => exact .cons (Vd.rd cl h r1) (VdK.rd cl t r2)
theorem VdF.rd (cl : Cells K H S T) : ∀ {xs ds : List (Str × D)} {us : List (Str × V)} {T' : Sto}, VdF S xs ds → RepF K H T' us xs → RepF K H (fun _ => none) us ds
  | _, _, _, _, .nil, r => by cases r; exact .nil
  | _, _, _, _, .cons h t, r => by
    cases r with
    | cons r1 r2 => exact .cons (Vd.rd cl h r1) (VdF.rd cl t r2)
end
end
section
variable {c : Ctx} {ρ : Rho} {S : Sto} {F : D → Sto → Prop}
theorem rc_reprD2 {x d : D} (h : Vd S x d) (ip : isP d = true) (sh : (pd d).showable = true) (sz : (pd d).shown.length ≤ sizeLine) (dp : (pd d).depth ≤ 50) (q : F (.str (pd d).shown) S) : RC c (rRepr c.K) [x] S F := fun T us H cl r Q k => by
  cases r with
  | cons h1 t =>
    cases t
    exact ⟨_, d, _, rfl, h.rd cl h1, ip, sh, sz, dp, k _ _ S T H Mv.refl cl (.str _) q⟩
theorem rc_reprV {x d : D} {n k : Nat} (h : Vd S x d) (sh : Sh d n k) (hn : n ≤ 1000000) (hk : k ≤ 50) (q : F (.str (pd d).shown) S) : RC c (rRepr c.K) [x] S F :=
  rc_reprD2 h sh.p sh.s (Nat.le_trans sh.l (Nat.le_trans hn szl)) (Nat.le_trans sh.d hk) q
end
end VS
namespace VS
open PySem L2
/-! ### a pure test or expression, all cells read as by value meanwhile -/
section
variable {K : PySem.W.Frag} {H : Hp} {S T : Sto}
/-- the cells that are known -/
def Kn (S : Sto) : Addr → Prop := fun a => ∃ d, S a = some d ∧ ¬ NoF d
theorem kn_hid (cl : Cells K H S T) : ∀ l, Kn S l → T l ≠ some .hid := fun l ⟨_, e, n⟩ => cl.nohid e n
mutual
theorem Vd.rdV (cl : Cells K H S T) : ∀ {x d : D} {u : V} {T' : Sto}, (∀ a, T' a = none → viewT (Kn S) T a = none) → Vd S x d → Rep K H T' u x → Rep K H (viewT (Kn S) T) u d
  | _, _, _, _, hT, .v, r => r.mk ⟨fun _ _ _ h => h, fun a s _ => hT a s⟩
  | _, _, _, _, hT, .c (l := l) h n k, r => by
    cases r
    refine Vd.rdV cl (T' := VS.del T l) (fun a e => ?_) k (cl.rep (cl.at h) n)
    by_cases z : a = l
    · subst z; exact viewT_in ⟨_, h, n⟩
    · rw [VS.del_ne z] at e; exact viewT_none e
  | _, _, _, _, hT, .lst h, r => by
    cases r with
    | lst s e r => exact .lst (hT _ s) e (VdL.rdV cl hT h r)
  | _, _, _, _, hT, .tup h, r => by
    cases r with
    | tup s e r => exact .tup (hT _ s) e (VdL.rdV cl hT h r)
    | tupK e r => exact .tupK e (VdL.rdV cl hT h r)
  | _, _, _, _, hT, .dK h, r => by
    cases r with
    | dK s e r => exact .dK (hT _ s) e (VdK.rdV cl hT h r)
  | _, _, _, _, hT, .ins h, r => by
    cases r with
    | ins s e r => exact .ins (hT _ s) e (VdF.rdV cl hT h r)
theorem VdL.rdV (cl : Cells K H S T) : ∀ {xs ds : List D} {us : List V} {T' : Sto}, (∀ a, T' a = none → viewT (Kn S) T a = none) → VdL S xs ds → RepL K H T' us xs → RepL K H (viewT (Kn S) T) us ds
  | _, _, _, _, _, .nil, r => by cases r; exact .nil
  | _, _, _, _, hT, .cons h t, r => by
    cases r with
    | cons r1 r2 => exact .cons (Vd.rdV cl hT h r1) (VdL.rdV cl hT t r2)
theorem VdK.rdV (cl : Cells K H S T) : ∀ {xs ds : List (Key × D)} {us : List (Key × V)} {T' : Sto}, (∀ a, T' a = none → viewT (Kn S) T a = none) → VdK S xs ds → RepK K H T' us xs → RepK K H (viewT (Kn S) T) us ds
  | _, _, _, _, _, .nil, r => by cases r; exact .nil
  | _, _, _, _, hT, .cons h t, r => by
    cases r with
    | cons r1 r2 => exact .cons (Vd.rdV cl hT h r1) (VdK.rdV cl hT t r2)
theorem VdF.rdV (cl : Cells K H S T) : ∀ {xs ds : List (Str × D)} {us : List (Str × V)} {T' : Sto}, (∀ a, T' a = none → viewT (Kn S) T a = none) → VdF S xs ds → RepF K H T' us xs → RepF K H (viewT (Kn S) T) us ds
  | _, _, _, _, _, .nil, r => by cases r; exact .nil
  | _, _, _, _, hT, .cons h t, r => by
    cases r with
    | cons r1 r2 => exact .cons (Vd.rdV cl hT h r1) (VdF.rdV cl hT t r2)
end
end
section
variable {c : Ctx} {ρ ρ' : Rho} {S : Sto} {F : D → Sto → Prop} {G : Bool → Sto → Prop}
structure VdR (S : Sto) (ρ ρ' : Rho) : Prop where
  len : ρ'.length = ρ.length
  at_ : ∀ (i : Nat) (d' : D), ρ'[i]? = some (some d') → ∃ d, ρ[i]? = some (some d) ∧ Vd S d d'
theorem VdR.refl : VdR S ρ ρ := ⟨rfl, fun _ d h => ⟨d, h, .v⟩⟩
theorem VdR.set (w : VdR S ρ ρ') (i : Nat) {d d' : D} (h : ρ[i]? = some (some d)) (hd : Vd S d d') : VdR S ρ (ρ'.set i (some d')) := ⟨by rw [List.length_set]; exact w.len, fun j e q => by
  by_cases z : i = j
  · subst z
    rw [List.getElem?_set_self (by rw [w.len]; exact (List.getElem?_eq_some_iff.mp h).1)] at q
    cases q
    exact ⟨d, h, hd⟩
  · rw [List.getElem?_set_ne z] at q
    exact w.at_ j e q⟩
theorem VdR.in {T : Sto} {σ : St} {H : Hp} (w : VdR S ρ ρ') (I : In c σ H ρ S T) : In c σ H ρ' noS (viewT (Kn S) T) := by
  have m := mv_view (H := H) (kn_hid I.cells)
  have cl := cells_view (V := Kn S) I.cells
  refine ⟨cl, fun i d' e => ?_, by rw [w.len]; exact I.len, (I.mv m cl).exc⟩
  obtain ⟨d, h, hv⟩ := w.at_ i d' e
  obtain ⟨v, h1, h2⟩ := I.slots i d h
  exact ⟨v, h1, hv.rdV I.cells (fun a e => viewT_none e) h2⟩
end
end VS
namespace VS
open PySem L2 C8 PySem.Spec PyProof.Rows
/-! ### xs.index(x) of a list by value -/
end VS
namespace VS
open PySem L2 C8 PySem.Spec PyProof.Rows
/-! ### list(d), the keys texts -/
/-! ### a comprehension in a comprehension -/
end VS
namespace VS
open PySem L2 C8 PySem.Spec PyProof.Rows
/-! ### a module's dict of own defs, by texts -/
structure KDct (P : Program) (w : World) (K : PySem.W.Frag) (a : Addr) (kvs : List (Str × Addr)) : Prop where
  sys : (a == sysModules) = false
  nd : (kvs.map Prod.fst).Nodup
  ob : ∃ o es ep, K.lookup a = some o ∧ o.ExactDict ∧ o.data = .dict es ep ∧ KeysOf (PySem.strKind P w) es ∧ Pairs (PySem.strKind P w) es.toList (kvs.map fun x => (x.1, Value.ref x.2))
theorem KDct.map {P : Program} {w : World} {K : PySem.W.Frag} {a : Addr} {kvs : List (Str × Addr)} (h : KDct P w K a kvs) {hp : Heap} (i : K.In hp) : Heap.MapOf (PySem.strKind P w) hp a (valueAt (kvs.map fun x => (x.1, Value.ref x.2))) := by
  obtain ⟨o, es, ep, h1, h2, h3, h4, h5⟩ := h.ob
  refine Heap.DictOf.mapOf ⟨o, es, ep, i _ _ h1, h2, h3, h4, h5, ?_⟩
  rw [List.map_map]
  exact h.nd
def entK (w : World) (x : Str × Addr × Tok) : DictEntry := ⟨hashStr w x.1, .str x.1 x.2.2, .ref x.2.1⟩
theorem pairs_ents {P : Program} {w : World} : ∀ ents : List (Str × Addr × Tok), Pairs (PySem.strKind P w) (ents.map (entK w)) ((ents.map fun x => (x.1, x.2.1)).map fun x => (x.1, Value.ref x.2))
  | [] => .nil
  | (z, f, t) :: es => .cons (show Value.isStrOf z (Value.str z t) = true by simp [Value.isStrOf]) rfl (pairs_ents es)
theorem KDct.of {P : Program} {w : World} {K : PySem.W.Frag} {a : Addr} {ep : Nat} (ents : List (Str × Addr × Tok)) (h : K.lookup a = some ⟨.type "dict", none, .dict (ents.map (entK w)).toArray ep, #[]⟩) (nd : (ents.map Prod.fst).Nodup) (sy : (a == sysModules) = false) : KDct P w K a (ents.map fun x => (x.1, x.2.1)) := by
  refine ⟨sy, by rw [List.map_map]; exact nd, _, _, _, h, ⟨rfl, rfl, rfl⟩, rfl, fun e he => ?_, by rw [List.toList_toArray]; exact pairs_ents ents⟩
  have he : e ∈ ents.map (entK w) := by simpa using he
  obtain ⟨x, hx, rfl⟩ := List.mem_map.mp he
  exact ⟨x.1, (show Value.isStrOf x.1 (Value.str x.1 x.2.2) = true by simp [Value.isStrOf]), rfl⟩
/-! ### sorted(xs, key=f): one of several f -/
end VS
namespace VS
open PySem L2 PySem.Spec PyProof.Rows
/-! ### max of three -/
end VS
namespace VS
open PySem L2 C8 PySem.Spec PyProof.Rows
/-! ### sorted of a list of texts -/
end VS
namespace VS
open PySem L2 C8 PySem.Spec PyProof.Rows
/-! ### sorted of a list of pairs of whole numbers -/
end VS
namespace VS
/-! ### pairs (number, place) sorted: the things sorted by the number, alike ones as they stood -/
end VS
namespace VS
open PySem L2 C8 PySem.Spec PyProof.Rows
/-! ### several lists known by reference, hidden for the time of a walk -/
theorem Mk.trans {S S1 S2 : Sto} {H H1 H2 : Hp} (a : Mk S H S1 H1) (b : Mk S1 H1 S2 H2) : Mk S H S2 H2 :=
  ⟨fun x o h1 h2 => b.keep x o (a.fresh x h1 (by rw [h2]; nofun)) (a.keep x o h1 h2), fun x h1 h2 => by
    cases e : H x with
    | none => exact absurd e h2
    | some o => exact b.fresh x (a.fresh x h1 h2) (by rw [a.keep x o h1 e]; nofun)⟩
end VS
namespace VS
open PySem L2 C8 PySem.Spec PyProof.Rows
/-! ### list.reverse; texts sorted, as the mergeSort of things by a text -/
def leS (a b : Str) : Prop := a.cps.toList ≤ b.cps.toList
end VS
namespace VS
open PySem L2 C8 PySem.Spec PyProof.Rows
/-! ### max(xs, default=d); list(d.values()) -/
end VS
namespace VS
open PySem L2 C8 PySem.Spec PyProof.Rows
/-! ### for k in d, d a dict by value: it is locked meanwhile, where it is not locked as yet -/
theorem CellOk.ml {K : PySem.W.Frag} {S S' : Sto} {H H' : Hp} {a : Addr} (m : Ml S H S' H') (e : H' a = H a) : ∀ {d : D}, CellOk K H S a d → CellOk K H' S' a d
  | .lst _, ⟨xs, h, r⟩ => ⟨xs, by rw [e]; exact h, r.ml m⟩
  | .dK _, ⟨xs, h, r⟩ => ⟨xs, by rw [e]; exact h, r.ml m⟩
  | .ins _ _, ⟨dx, fs, h, r⟩ => ⟨dx, fs, by rw [e]; exact h, r.ml m⟩
  | .hid, ⟨o, h⟩ => ⟨o, by rw [e]; exact h⟩
  | .str _, ⟨ps, h, t, w⟩ => ⟨ps, by rw [e]; exact h, t, fun pos cv hc =>
    let ⟨c, e1, e2, e3⟩ := w pos cv hc
    ⟨c, e1, m.fresh c e2 (by rw [e3]; simp), m.keep c _ e2 e3⟩⟩
theorem Cells.ml {K : PySem.W.Frag} {S T : Sto} {H H' : Hp} {a : Addr} (c : Cells K H S T) (s : T a = none) (m : Ml T H T H') (e : ∀ b, b ≠ a → H' b = H b) : Cells K H' S T :=
  ⟨c.ov, fun b d q => CellOk.ml m (e b (fun z => by subst z; rw [s] at q; cases q)) (c.ok b d q)⟩
theorem RepK.key {K : PySem.W.Frag} {H : Hp} {S : Sto} {k : Key} {v : V} : ∀ {vs : List (Key × V)} {ds : List (Key × D)} {i : Nat}, RepK K H S vs ds → vs[i]? = some (k, v) → ∃ d, ds[i]? = some (k, d)
  | _, _, _, .nil, e => by simp at e
  | _, _, 0, .cons _ _, e => by simp at e; obtain ⟨rfl, _⟩ := e; exact ⟨_, rfl⟩
  | _, _, i + 1, .cons _ t, e => by simpa using RepK.key (i := i) t (by simpa using e)
end VS
namespace VS
open PySem L2 C8 PySem.Spec PyProof.Rows
/-! ### [e for k in d if t], d a dict by value -/
end VS
namespace VS
open PySem L2
/-! ### some cells are known by value from now on -/
section
variable {K : PySem.W.Frag} {H : Hp} {S T : Sto} {A : Addr → Prop}
open Classical in
noncomputable def cutA (A : Addr → Prop) (T : Sto) : Sto := fun b => if A b then none else T b
theorem cutA_in {a : Addr} (h : A a) : cutA A T a = none := if_pos h
theorem cutA_out {a : Addr} (h : ¬ A a) : cutA A T a = T a := if_neg h
theorem cutA_none {a : Addr} (h : T a = none) : cutA A T a = none := by
  unfold cutA
  split
  · rfl
  · exact h
theorem cutA_some {a : Addr} {d : D} (e : cutA A T a = some d) : ¬ A a ∧ T a = some d := by
  unfold cutA at e
  split at e
  · cases e
  · rename_i h; exact ⟨h, e⟩
theorem mv_cut (hA : ∀ a, A a → T a ≠ some .hid) : Mv T H (cutA A T) H :=
  ⟨⟨fun _ _ _ h => h, fun _ s _ => cutA_none s⟩, fun a o s e => ⟨e, by rw [cutA_out (fun z => hA a z s)]; exact s⟩⟩
theorem Cells.cut (cl : Cells K H S T) (hA : ∀ a, A a → T a ≠ some .hid) : Cells K H (cutA A S) (cutA A T) := by
  refine ⟨fun a => ?_, fun a d e => ?_⟩
  · by_cases z : A a
    · exact .inl ⟨by rw [cutA_in z, cutA_in z], by rw [cutA_in z]; nofun⟩
    · rw [cutA_out z, cutA_out z]; exact cl.ov a
  · exact CellOk.mk (mv_cut hA).toMk rfl (cl.ok a d (cutA_some e).2)
end
end VS
namespace VS
open PySem L2 C8 PySem.Spec PyProof.Rows
/-! ### d != {}, d == {} -/
end VS
namespace VS
open PySem L2 C8 PySem.Spec PyProof.Rows
/-! ### k not in d, len(d) -/
end VS
namespace VS
open PySem L2 C8 PySem.Spec PyProof.Rows
/-! ### how long a shown dict is -/
structure ShK (xs : List (Key × D)) (n k : Nat) : Prop where
  p : isPK xs = true
  s : PyData.showableKv (pdK xs) = true
  l : piled (PyData.shownKv (pdK xs)) ≤ n
  d : PyData.depthKv (pdK xs) ≤ k
theorem ShK.nil : ShK [] 0 0 := ⟨rfl, rfl, Nat.le_refl _, Nat.le_refl _⟩
theorem ShK.cons {z : Str} {d : D} {ds : List (Key × D)} {n a b i j : Nat} (hz : Asc n z) (h : Sh d a i) (t : ShK ds b j) : ShK ((.inr z, d) :: ds) (10 * n + a + 6 + b) (max i j) := ⟨by
  show (isP d && isPK ds) = true
  rw [h.p, t.p]; rfl, by
  show (true && (pd d).showable && PyData.showableKv (pdK ds)) = true
  rw [h.s, t.s]; rfl, by
  show ((reprText z ++ ": " ++ (pd d).shown).length + 2) + piled (PyData.shownKv (pdK ds)) ≤ _
  have := h.l
  have := t.l
  have e := lit1
  have q : (reprText z).length ≤ 10 * n + 2 := (Sh.str hz).l
  rw [len_add, len_add]
  omega, by
  show max (max 0 (pd d).depth) (PyData.depthKv (pdK ds)) ≤ _
  have := h.d
  have := t.d
  omega⟩
end VS
namespace VS
open PySem L2 C8 PySem.Spec PyProof.Rows
/-! ### defs that call themselves; a local name that holds one of some defs -/
end VS
namespace VS
open PySem L2 C8 PySem.Spec PyProof.Rows
/-! ### xs.remove(x), flat items -/
end VS
namespace VS
open PySem L2 C8 PySem.Spec PyProof.Rows
/-! ### a dict's keys as a list known by reference; lists of lists seen by value -/
/-- lists known by reference, one by one -/
structure Rws (S : Sto) (as : List Addr) (yss : List (List D)) : Prop where
  l : as.length = yss.length
  at_ : ∀ (j : Nat) (a : Addr) (ys : List D), as[j]? = some a → yss[j]? = some ys → S a = some (.lst ys)
theorem Rws.nil {S : Sto} : Rws S [] [] := ⟨rfl, nofun⟩
theorem Rws.ge {S : Sto} {as : List Addr} {yss : List (List D)} (h : Rws S as yss) {j : Nat} (hj : j < yss.length) : ∃ a ys, as[j]? = some a ∧ yss[j]? = some ys ∧ S a = some (.lst ys) := by
  have e1 : as[j]? = some (as[j]'(by rw [h.l]; exact hj)) := List.getElem?_eq_getElem _
  have e2 : yss[j]? = some (yss[j]'hj) := List.getElem?_eq_getElem _
  exact ⟨_, _, e1, e2, h.at_ j _ _ e1 e2⟩
theorem Rws.mem {S : Sto} {as : List Addr} {yss : List (List D)} (h : Rws S as yss) {a : Addr} (ha : a ∈ as) : ∃ ys ∈ yss, S a = some (.lst ys) := by
  obtain ⟨j, hj⟩ := List.getElem?_of_mem ha
  obtain ⟨b, ys, e1, e2, e3⟩ := h.ge (j := j) (by rw [← h.l]; exact (List.getElem?_eq_some_iff.mp hj).1)
  rw [hj] at e1
  cases e1
  exact ⟨ys, List.mem_of_getElem? e2, e3⟩
theorem Rws.ext {S S' : Sto} {as : List Addr} {yss : List (List D)} (h : Rws S as yss) (x : Ext S S') : Rws S' as yss := ⟨h.l, fun j a ys e1 e2 => x _ _ (h.at_ j a ys e1 e2)⟩
theorem Rws.free {S : Sto} {as : List Addr} {yss : List (List D)} (h : Rws S as yss) {a : Addr} (ha : S a = none) : a ∉ as := fun z => by
  obtain ⟨ys, _, e⟩ := h.mem z
  rw [e] at ha
  cases ha
theorem Rws.new {S : Sto} {as : List Addr} {yss : List (List D)} (h : Rws S as yss) {a : Addr} {ys : List D} (ha : S a = none) : Rws (put S a (.lst ys)) (as ++ [a]) (yss ++ [ys]) := by
  refine ⟨by rw [List.length_append, List.length_append, h.l]; rfl, fun j b zs e1 e2 => ?_⟩
  by_cases hj : j < as.length
  · rw [List.getElem?_append_left hj] at e1
    rw [List.getElem?_append_left (by rw [← h.l]; exact hj)] at e2
    rw [put_ne (fun z => h.free ha (by rw [← z]; exact List.mem_of_getElem? e1))]
    exact h.at_ j b zs e1 e2
  · rw [List.getElem?_append_right (by omega)] at e1
    rw [List.getElem?_append_right (by rw [← h.l]; omega)] at e2
    obtain ⟨d, hd⟩ : ∃ d, d = j - as.length := ⟨_, rfl⟩
    rw [← hd] at e1
    rw [← h.l, ← hd] at e2
    cases d with
    | zero => cases e1; cases e2; exact put_same
    | succ d => cases e1
theorem Rws.wr {S : Sto} {as : List Addr} {yss : List (List D)} (h : Rws S as yss) (nd : as.Nodup) {i : Nat} {a : Addr} {ys : List D} (e : as[i]? = some a) : Rws (put S a (.lst ys)) as (yss.set i ys) := by
  have hi := (List.getElem?_eq_some_iff.mp e).1
  refine ⟨by rw [List.length_set]; exact h.l, fun j b zs e1 e2 => ?_⟩
  by_cases z : j = i
  · subst z
    rw [List.getElem?_set_self (by rw [← h.l]; exact hi)] at e2
    rw [e] at e1
    cases e1; cases e2
    exact put_same
  · rw [List.getElem?_set_ne (Ne.symm z)] at e2
    rw [put_ne (fun w => z ((List.getElem?_inj (List.getElem?_eq_some_iff.mp e1).1 nd).mp (by rw [e1, w, e])))]
    exact h.at_ j b zs e1 e2
end VS
namespace VS
open PySem L2 C8 PySem.Spec PyProof.Rows
/-! ### range(i, j, -1); list(range(n)) -/
end VS
namespace VS
open PySem L2 C8 PySem.Spec PyProof.Rows
end VS
namespace VS
open PySem L2 PySem.Spec PyProof.Rows PySem.VSX
/-! ### an own exception of two fields: its class, its making, raise -/
/-- what __init__ keeps: self.f = v; self.g = u -/
def spXi2 (C : Addr) (f g : Str) : Sp := fun vs H Q _ => ∃ (a : Addr) (v u : V), vs = [.ref a, v, u] ∧ H a = some (exo a C none) ∧ ∀ dx, H dx = none → dx ≠ a → Q .non (upd (upd H dx (exd dx [(g, u), (f, v)])) a (exo a C (some dx)))
def tRz2 (C : Addr) (f g : Str) (te tu : TE) (W : L2.St → XK) : TS := fun _ σ H => tMkO C (spXi2 C f g) [] (tCons te (tCons tu tNil)) σ H fun cls d H' => W σ cls d H'
section
variable {c : Ctx} {ρ : Rho} {S : Sto} {P : Po}
theorem xd_heap2 {H1 : Hp} {a C dx : Addr} {fs : List (Str × V)} (ha : H1 a = none) : upd (L2.del (upd (upd (upd H1 a (exo a C none)) dx (exd dx fs)) a (exo a C (some dx))) a) dx (.xd fs) = upd H1 dx (.xd fs) := by
  funext b
  by_cases z : b = dx
  · subst z; rw [upd_same, upd_same]
  · rw [upd_ne z, upd_ne z]
    by_cases y : b = a
    · subst y; rw [L2.del_same, ha]
    · rw [L2.del_ne y, upd_ne y, upd_ne z, upd_ne y]
theorem vx_raise2 {C : Addr} {f g : Str} {te tu : TE} (h : VE c te ρ S fun x S1 => VE c tu ρ S1 fun y S2 => c.Y C [(g, y), (f, x)] ρ S2) : VX c (tRz2 C f g te tu c.E) ρ S P := fun T σ H I D b =>
  h T σ H I _ fun v x S1 T1 H1 m1 c1 r1 h2 => h2 T1 σ H1 (I.mv m1 c1) _ fun u y S2 T2 H2 m2 c2 r2 q => by
    refine ⟨(by decide : 2 ≤ 1000), fun a na => ⟨a, v, u, rfl, upd_same, fun dx hdx ne => ⟨rfl, dx, [(g, u), (f, v)], upd_same, ?_, ?_, ?_⟩⟩⟩
    · rw [upd_ne ne, upd_same]
    · rw [upd_ne ne] at hdx; exact hdx
    · have hd : H2 dx = none := by rw [upd_ne ne] at hdx; exact hdx
      rw [xd_heap2 na]
      have mm := m1.trans m2
      have m3 := mm.trans (mv_new (o := .xd [(g, u), (f, v)]) hd)
      have cl := c2.new (o := .xd [(g, u), (f, v)]) hd
      exact I.exc σ ρ C (some dx) [(g, y), (f, x)] S2 T2 _ m3 cl (I.mv m3 cl).sl ⟨dx, [(g, u), (f, v)], rfl, c2.free hd, upd_same, .cons (r2.mv (mv_new hd)) (.cons ((r1.mv m2).mv (mv_new hd)) .nil)⟩ q
end
end VS
namespace VS
open PySem L2 PySem.Spec PyProof.Rows
/-! ### a comprehension over a list or a tuple that is a list known by reference -/
end VS
namespace VS
open PySem L2 C8 PySem.Spec PyProof.Rows
end VS
namespace VS
open PySem L2 C8 PySem.Spec PyProof.Rows
/-! ### zip of two or three, each a list or a tuple -/
/-- a list (true) or a tuple (false) -/
def SqB (b : Bool) (K : PySem.W.Frag) (H : Hp) (a : Addr) (xs : List V) : Prop := match b with
  | true => SqL K H a xs
  | false => SqT K H a xs
def TrB (b : Bool) (h : Heap) (i a : Addr) (k : Nat) : Prop := match b with
  | true => h.IsListIter i a k
  | false => h.IsTupleIter i a k
def ArB (b : Bool) (h : Heap) (a : Addr) (its : Array Value) : Prop := match b with
  | true => h.IsList a its
  | false => h.IsTuple a its
def obB (b : Bool) (a : Addr) : Obj := match b with
  | true => { cls := .type "list_iterator", data := .fields #[.ref a, .int 0 0] }
  | false => { cls := .type "tuple_iterator", data := .fields #[.ref a, .int 0 0] }
theorem drawsB {pr : Program} {wd : World} {Ar : Around} (hh : Ar.handled = none) (b : Bool) (it a : Addr) (hne : a ≠ it) (its : Array Value) :
    Draws pr wd Ar it [it, a] its.size (fun i v => its[i]? = some v) (fun i h => TrB b h it a i ∧ ArB b h a its) := match b with
  | true => Draws.list hh it a hne its
  | false => Draws.tuple hh it a hne its
theorem beginsB (b : Bool) (a : Addr) (its : Array Value) : Begins (.ref a) (obB b a) fun h => ArB b h a its := match b with
  | true => begins_list a its
  | false => begins_tuple a its
theorem obB_tr {b : Bool} {h : Heap} {i a : Addr} (e : h.get? i = some (obB b a)) : TrB b h i a 0 := match b, e with
  | true, e => ⟨_, e, rfl, rfl⟩
  | false, e => ⟨_, e, rfl, rfl⟩
theorem TrB.at {b : Bool} {h h' : Heap} {i a : Addr} {k : Nat} (t : TrB b h i a k) (e : ∀ o, h.get? i = some o → h'.get? i = some o) : TrB b h' i a k := match b, t with
  | true, t => Heap.IsListIter.at t e
  | false, t => Heap.IsTupleIter.at t e
theorem TrB.live {b : Bool} {h : Heap} {i a : Addr} {k : Nat} (t : TrB b h i a k) : ∃ o, h.get? i = some o ∧ ∀ v, o.data ≠ .cell v := by
  cases b with
  | true =>
    obtain ⟨o, e, _, d⟩ := t
    exact ⟨o, e, fun v q => by rw [d] at q; cases q⟩
  | false =>
    obtain ⟨o, e, _, d⟩ := t
    exact ⟨o, e, fun v q => by rw [d] at q; cases q⟩
section
variable {X : Cx} {pins : List (Addr × Obj)} {σ : L2.St} {H : Hp} {s : Shared} {a : Addr} {xs ys : List V}
theorem seqB (b : Bool) (I : Inv X pins σ H s) (h : SqB b X.K H a xs) : ∃ its : List Value, Vals xs its ∧ ArB b s.heap a its.toArray ∧ a < s.heap.objs.size := by
  cases b with
  | true =>
    obtain ⟨its, r, p, _⟩ := I.list h
    exact ⟨its, r, p.isList, p.lt⟩
  | false =>
    obtain ⟨its, r, p, _⟩ := I.tuple h
    obtain ⟨o, e, _⟩ := id p
    exact ⟨its, r, p, Heap.lt_size e⟩
theorem seqB_inj {b : Bool} (I : Inv X pins σ H s) (h : SqB b X.K H a xs) (h' : SqB b X.K H a ys) : xs = ys := by
  cases b with
  | true => exact I.list_inj h h'
  | false => exact I.tuple_inj h h'
end
theorem sep3 {a b c : Nat} {n : Nat} (la : a < n) (lb : b < n) (lc : c < n) : ZipSep3 (n + 5) (n + 3) (n + 4) n (n + 1) (n + 2) [n, a] [n + 1, b] [n + 2, c] := by
  constructor <;> (simp only [List.mem_cons, List.not_mem_nil, or_false, not_or, ne_eq]) <;> (try trivial) <;> (repeat' apply And.intro) <;> (try trivial) <;> (first | exact Or.inl trivial | exact fun z : (_ : Nat) = _ => by omega)
theorem fresh_in {X : Cx} {pins : List (Addr × Obj)} {σ : L2.St} {H : Hp} {s : Shared} (I : Inv X pins σ H s) {ks : List Nat} : ∀ c, c ∈ ks.map (fun k => s.heap.objs.size + k) → FpOk X pins H c := fun c hc => by
  obtain ⟨k, _, rfl⟩ := List.mem_map.mp hc
  have hle := Nat.le_add_right s.heap.objs.size k
  exact I.fpOk hle (I.hok.fresh hle)
def ItzB3 (K : PySem.W.Frag) (p q r : Bool) (a b c : Addr) : It :=
  ⟨fun i H => ∃ (xs ys zs : List V) (x y z : V), SqB p K H a xs ∧ SqB q K H b ys ∧ SqB r K H c zs ∧ xs[i]? = some x ∧ ys[i]? = some y ∧ zs[i]? = some z,
    fun i H v H' => ∃ T x y z, v = .ref T ∧ H T = none ∧ H' = upd H T (.tup [x, y, z]) ∧ (∀ xs, SqB p K H a xs → xs[i]? = some x) ∧ (∀ ys, SqB q K H b ys → ys[i]? = some y) ∧ ∀ zs, SqB r K H c zs → zs[i]? = some z,
    fun i H => ∃ xs ys zs : List V, SqB p K H a xs ∧ SqB q K H b ys ∧ SqB r K H c zs ∧ i = min (min xs.length ys.length) zs.length⟩
theorem turn_zipB3 {P : Program} {w : World} {K : PySem.W.Frag} {elts : List Expr} {kk : Nat} {tpos : Pos} {p q r : Bool} {a b c z TI TO i1 i2 i3 : Addr} (D : ZipSep3 z TI TO i1 i2 i3 [i1, a] [i2, b] [i3, c]) (n1 : a ≠ i1) (n2 : b ≠ i2) (n3 : c ≠ i3) :
    Turn P w K (.Tuple elts kk tpos) (ItzB3 K p q r a b c) [z, TI, TO, i1, i2, i3] z (fun i h => IsZip h z TI TO .none ∧ IsTupOf3 h TI (.ref i1) (.ref i2) (.ref i3) ∧ (∃ x y z, IsTupOf3 h TO x y z) ∧ TrB p h i1 a i ∧ TrB q h i2 b i ∧ TrB r h i3 c i) where
  mem := by simp
  obj := fun i h st c hc => by
    obtain ⟨hz, hTI, ⟨x, y, w, hTO⟩, t1, t2, t3⟩ := st
    have e' : c = z ∨ c = TI ∨ c = TO ∨ c = i1 ∨ c = i2 ∨ c = i3 := by simpa using hc
    rcases e' with q | q | q | q | q | q
    · rw [q]; exact ⟨_, hz, fun v q => nomatch q⟩
    · rw [q]; exact ⟨_, hTI, fun v q => nomatch q⟩
    · rw [q]; exact ⟨_, hTO, fun v q => nomatch q⟩
    · rw [q]; exact t1.live
    · rw [q]; exact t2.live
    · rw [q]; exact t3.live
  keep := fun i h h' st k => by
    obtain ⟨hz, hTI, ⟨x, y, w, hTO⟩, h1, h2, h3⟩ := st
    exact ⟨k z (by simp) _ hz, k TI (by simp) _ hTI, ⟨x, y, w, k TO (by simp) _ hTO⟩, h1.at fun o q => k i1 (by simp) o q, h2.at fun o q => k i2 (by simp) o q, h3.at fun o q => k i3 (by simp) o q⟩
  item := by
    intro X hP hw hK hc i pins s σ H E I hf st hg
    subst hP hw hK
    obtain ⟨hz, hTI, ⟨x0, y0, w0, hTO⟩, h1, h2, h3⟩ := st
    obtain ⟨xs, ys, zs, x, y, w, hqx, hqy, hqz, hx, hy, hw⟩ := hg
    obtain ⟨its, rv, p1, _⟩ := seqB p I hqx
    obtain ⟨its2, rv2, p2, _⟩ := seqB q I hqy
    obtain ⟨its3, rv3, p3, _⟩ := seqB r I hqz
    have hh : X.A.in1.handled = none := I.ok.hd hc
    have D1 := drawsB (pr := X.prog) (wd := X.w) hh p i1 a n1 its.toArray
    have D2 := drawsB (pr := X.prog) (wd := X.w) hh q i2 b n2 its2.toArray
    have D3 := drawsB (pr := X.prog) (wd := X.w) hh r i3 c n3 its3.toArray
    have hzl : z < s.heap.objs.size := Heap.lt_size hz
    have l1 : i < xs.length := (List.getElem?_eq_some_iff.mp hx).1
    have l2 : i < ys.length := (List.getElem?_eq_some_iff.mp hy).1
    have l3 : i < zs.length := (List.getElem?_eq_some_iff.mp hw).1
    have r1 := rv.length
    have r2 := rv2.length
    have r3 := rv3.length
    refine wpAny_pyNext_zipD3_item (i := i) D D1 D2 D3 hz hTI hTO ⟨h1, p1⟩ ⟨h2, p2⟩ ⟨h3, p3⟩ (by simp; omega) (by simp; omega) (by simp; omega) fun u u2 u3 h' tk pu pu2 pu3 z' TO' s1' s2' s3' hT hsz hk => ?_
    have pu' : its[i]? = some u := by simpa using pu
    have pu2' : its2[i]? = some u2 := by simpa using pu2
    have pu3' : its3[i]? = some u3 := by simpa using pu3
    obtain ⟨u', hu, ru⟩ := rv.get hx
    obtain ⟨u2', hu2, ru2⟩ := rv2.get hy
    obtain ⟨u3', hu3, ru3⟩ := rv3.get hw
    rw [pu'] at hu
    rw [pu2'] at hu2
    rw [pu3'] at hu3
    cases hu
    cases hu2
    cases hu3
    refine ⟨_, rfl, wpAny_letOwnedTupleGo_zip (s := { s with heap := h', toks := tk }) z' fun h'' z'' sb => ?_⟩
    have hT2 : h''.get? s.heap.objs.size = some { cls := .type "tuple", data := .seq #[u, u2, u3] } := (sb.2 _ (Nat.ne_of_gt hzl)).trans hT
    have new : ObjOk X.prog X.w (upd H s.heap.objs.size (.tup [x, y, w])) h'' s.heap.objs.size (.tup [x, y, w]) :=
      ⟨by show 3 ≤ sizeLine; decide, [u, u2, u3], .cons ru (.cons ru2 (.cons ru3 .nil)), ⟨_, hT2, rfl, _, rfl⟩⟩
    have I1 : Inv X pins σ (upd H s.heap.objs.size (.tup [x, y, w])) { s with heap := h'', toks := tk } :=
      I.turnedNew (t' := tk) (ch := [z, TI, TO, i1, i2, i3]) (fun c o hb q => (sb.2 c (fun q' => hb (by simp [q']))).trans (hk c o (fun q' => hb (by simp [q'])) (fun q' => hb (by simp [q'])) (fun q' => hb (by simp [q'])) (fun q' => hb (by simp [q'])) (fun q' => hb (by simp [q'])) q)) hf (Nat.le_refl _) new
    refine ⟨.ref s.heap.objs.size, _, I1, rfl, ⟨_, x, y, w, rfl, I.hok.fresh (Nat.le_refl _), rfl, fun l hl => by rw [seqB_inj I hl hqx]; exact hx, fun l hl => by rw [seqB_inj I hl hqy]; exact hy, fun l hl => by rw [seqB_inj I hl hqz]; exact hw⟩, ⟨z'', ?_, ⟨u, u2, u3, ?_⟩, ?_, ?_, ?_⟩, fun c hcm => ?_⟩
    · exact (sb.2 _ D.TIz).trans (hk _ _ D.TIz D.TITO D.TIi1 D.TIi2 D.TIi3 hTI)
    · exact (sb.2 _ D.TOz).trans TO'
    · exact s1'.1.at fun o q => (sb.2 _ (Ne.symm D.zi1)).trans q
    · exact s2'.1.at fun o q => (sb.2 _ (Ne.symm D.zi2)).trans q
    · exact s3'.1.at fun o q => (sb.2 _ (Ne.symm D.zi3)).trans q
    · have hlt : c < s.heap.objs.size := by
        have e' : c = z ∨ c = TI ∨ c = TO ∨ c = i1 ∨ c = i2 ∨ c = i3 := by simpa using hcm
        rcases e' with q | q | q | q | q | q
        · rw [q]; exact hzl
        · rw [q]; exact Heap.lt_size hTI
        · rw [q]; exact Heap.lt_size hTO
        · rw [q]; obtain ⟨_, e1, _⟩ := h1.live; exact Heap.lt_size e1
        · rw [q]; obtain ⟨_, e2, _⟩ := h2.live; exact Heap.lt_size e2
        · rw [q]; obtain ⟨_, e3, _⟩ := h3.live; exact Heap.lt_size e3
      rw [upd_ne (Nat.ne_of_lt hlt)]
      exact (hf c hcm).1
  done := by
    intro X hP hw hK hc i pins s σ H E I hf st hg
    subst hP hw hK
    obtain ⟨hz, hTI, ⟨x0, y0, w0, hTO⟩, h1, h2, h3⟩ := st
    obtain ⟨xs, ys, zs, hqx, hqy, hqz, hend⟩ := hg
    obtain ⟨its, rv, p1, _⟩ := seqB p I hqx
    obtain ⟨its2, rv2, p2, _⟩ := seqB q I hqy
    obtain ⟨its3, rv3, p3, _⟩ := seqB r I hqz
    have hh : X.A.in1.handled = none := I.ok.hd hc
    have D1 := drawsB (pr := X.prog) (wd := X.w) hh p i1 a n1 its.toArray
    have D2 := drawsB (pr := X.prog) (wd := X.w) hh q i2 b n2 its2.toArray
    have D3 := drawsB (pr := X.prog) (wd := X.w) hh r i3 c n3 its3.toArray
    have r1 := rv.length
    have r2 := rv2.length
    have r3 := rv3.length
    refine wpAny_pyNext_zipD3_end (i := i) D D1 D2 D3 hz hTI hTO ⟨h1, p1⟩ ⟨h2, p2⟩ ⟨h3, p3⟩ (by simp; omega) (by simp; omega) (by simp; omega) (by simp; omega) fun h' tk hk => ⟨rfl, I.turnedL (t' := tk) (ch := [z, TI, TO, i1, i2, i3]) (fun c o hb q =>
      hk c o (fun q' => hb (by simp [q'])) (fun q' => hb (by simp [q'])) (fun q' => hb (by simp [q'])) (fun q' => hb (by simp [q'])) (fun q' => hb (by simp [q'])) q) hf⟩
  self := fun A i s Q E st h => wpAny_pyIter_zip st.1 h
def iZipB3 (K : PySem.W.Frag) (ta : TA) : TI := fun σ H R => ta σ H fun vs H1 => ∃ p q r a b c xs ys zs, vs = [.ref a, .ref b, .ref c] ∧ SqB p K H1 a xs ∧ SqB q K H1 b ys ∧ SqB r K H1 c zs ∧ R (ItzB3 K p q r a b c) H1
theorem pi_zipB3 {X : Cx} {e e2 e3 : Expr} {ta : TA} {p pos tpos : Pos} {elts : List Expr} {kk : Nat} (hg : Gl X "zip") (hm : X.mg "zip" = none) (ha : PA X [e, e2, e3] ta)
    (hs : starEach [e, e2, e3] X.env = (false, eval e X.env) :: starEach [e2, e3] X.env := by rfl) (hpl : (backTo pos (starEach [e2, e3] X.env)).any (·.1) = false := by rfl) :
    PI X (.Tuple elts kk tpos) (.Call (.Name "zip" p) [e, e2, e3] [] pos) (iZipB3 X.K ta) := by
  refine ⟨fun pins s σ H R I h => ?_⟩
  refine Call_ (ld_blt I hg hm PyProof.Rows.boot_zip (PyProof.Rows.callWith_type1 (thn (ha.run pos pins s σ H _ I h) fun us s1 ⟨vs, H1, I1, r1, q1⟩ => ?_) hs hpl))
  obtain ⟨u, v, w, a, b, c, xs, ys, zs, ex, hqx, hqy, hqz, q⟩ := q1
  subst ex
  cases r1 with
  | cons r rr =>
    cases rr with
    | cons r' rr =>
      cases rr with
      | cons r'' rr =>
        cases rr
        cases r
        cases r'
        cases r''
        obtain ⟨its, rv, p1, la⟩ := seqB u I1 hqx
        obtain ⟨its2, rv2, p2, lb⟩ := seqB v I1 hqy
        obtain ⟨its3, rv3, p3, lc⟩ := seqB w I1 hqz
        refine zip_begins3 (beginsB u a its.toArray) (beginsB v b its2.toArray) (beginsB w c its3.toArray) p1 p2 p3 fun h' hz hTI hTO h1 h2 h3 hsz hk => wpAny_pyIter_zip hz ?_
        have I2 : Inv X pins σ H1 { s1 with heap := h' } := I1.kept (t' := s1.toks) hk
        refine ⟨s1.heap.objs.size + 5, [s1.heap.objs.size + 5, s1.heap.objs.size + 3, s1.heap.objs.size + 4, s1.heap.objs.size, s1.heap.objs.size + 1, s1.heap.objs.size + 2], _, _, H1, rfl, I2, turn_zipB3 (p := u) (q := v) (r := w) (a := a) (b := b) (c := c) (sep3 la lb lc) (Nat.ne_of_lt la) (Nat.ne_of_lt (Nat.lt_succ_of_lt lb)) (Nat.ne_of_lt (Nat.lt_succ_of_lt (Nat.lt_succ_of_lt lc))), ⟨hz, hTI, ⟨_, _, _, hTO⟩, obB_tr h1, obB_tr h2, obB_tr h3⟩, fresh_in I1 (ks := [5, 3, 4, 0, 1, 2]), q⟩
/-! ### by value -/
/-- a list or a tuple by value -/
inductive IsZ : D → List D → Bool → Prop
  | w {d : D} {ds : List D} (h : IsW d ds) : IsZ d ds true
  | t {ds : List D} : IsZ (.tup ds) ds false
theorem IsZ.rd {K : PySem.W.Frag} {T : Sto} {H : Hp} {x : D} {ds : List D} {b : Bool} {u : V} (h : IsZ x ds b) (r : Rep K H T u x) : ∃ a xs, u = .ref a ∧ (∀ T' H', Mv T H T' H' → SqB b K H' a xs) ∧ RepL K H T xs ds := by
  cases h with
  | w h => exact h.rd r
  | t => exact tup_stays r
def YTri (xs ys zs : Nat → Option V) : Nat → Hp → V → Hp → Prop := fun i H v H' => ∃ T x y z, v = .ref T ∧ H T = none ∧ H' = upd H T (.tup [x, y, z]) ∧ xs i = some x ∧ ys i = some y ∧ zs i = some z
theorem walk_zipB3 {K : PySem.W.Frag} {p q r : Bool} {a b c : Addr} {xs ys zs : List V} {n : Nat} (hn : n = min (min xs.length ys.length) zs.length) : Walk (ItzB3 K p q r a b c) n (fun H => SqB p K H a xs ∧ SqB q K H b ys ∧ SqB r K H c zs) (YTri (fun i => xs[i]?) (fun i => ys[i]?) (fun i => zs[i]?)) := by
  subst hn
  refine ⟨fun i H hi g => ?_, fun H g => ⟨xs, ys, zs, g.1, g.2.1, g.2.2, rfl⟩, fun i H v H' hi g y => ?_⟩
  · exact ⟨xs, ys, zs, xs[i]'(by omega), ys[i]'(by omega), zs[i]'(by omega), g.1, g.2.1, g.2.2, List.getElem?_eq_getElem (by omega), List.getElem?_eq_getElem (by omega), List.getElem?_eq_getElem (by omega)⟩
  · obtain ⟨T, u, w, v', h1, h2, h3, h4, h5, h6⟩ := y
    exact ⟨T, u, w, v', h1, h2, h3, h4 xs g.1, h5 ys g.2.1, h6 zs g.2.2⟩
def zip3D (ds es fs : List D) : List D := (ds.zip (es.zip fs)).map fun p => .tup [p.1, p.2.1, p.2.2]
theorem zip3D_len {ds es fs : List D} : (zip3D ds es fs).length = min (min ds.length es.length) fs.length := by
  simp [zip3D]
  try omega
theorem zip3D_get {ds es fs : List D} {i : Nat} {d : D} (h : (zip3D ds es fs)[i]? = some d) : ∃ a b c, ds[i]? = some a ∧ es[i]? = some b ∧ fs[i]? = some c ∧ d = .tup [a, b, c] := by
  unfold zip3D at h
  rw [List.getElem?_map] at h
  cases e : (ds.zip (es.zip fs))[i]? with
  | none => rw [e] at h; cases h
  | some p =>
    rw [e] at h
    cases h
    obtain ⟨h1, h2⟩ := List.getElem?_zip_eq_some.mp e
    obtain ⟨h3, h4⟩ := List.getElem?_zip_eq_some.mp h2
    exact ⟨_, _, _, h1, h3, h4, rfl⟩
section
variable {c : Ctx} {ρ : Rho} {S : Sto}
theorem vi_zipB3 {ta : TA} {W : List D → Sto → Prop} (h : VA c ta ρ S fun xs S1 => ∃ x y z ds es fs p q r, xs = [x, y, z] ∧ IsZ x ds p ∧ IsZ y es q ∧ IsZ z fs r ∧ W (zip3D ds es fs) S1) : VI c (iZipB3 c.K ta) ρ S W := fun T σ H I R k =>
  h T σ H I _ fun vs es S1 T1 H1 m1 c1 r1 ⟨x, y, z, ds, es', fs, p, q, rr, e, hx, hy, hz, g⟩ => by
    subst e
    cases r1 with
    | cons h1 t => cases t with
      | cons h2 t => cases t with
        | cons h3 t =>
          cases t
          obtain ⟨a, xs, rfl, hq, r⟩ := hx.rd h1
          obtain ⟨b, ys, rfl, hq', r2⟩ := hy.rd h2
          obtain ⟨b3, zs, rfl, hq3, r3⟩ := hz.rd h3
          refine ⟨p, q, rr, a, b, b3, xs, ys, zs, rfl, hq _ _ Mv.refl, hq' _ _ Mv.refl, hq3 _ _ Mv.refl, k _ (zip3D ds es' fs) S1 T1 H1 m1 c1 ⟨fun H => SqB p c.K H a xs ∧ SqB q c.K H b ys ∧ SqB rr c.K H b3 zs, _, walk_zipB3 (by rw [zip3D_len, r.length, r2.length, r3.length]), fun T2 H2 m => ⟨hq T2 H2 m, hq' T2 H2 m, hq3 T2 H2 m⟩, fun i d S2 T2 H2 H3 y e m cl yy => ?_⟩ g⟩
          obtain ⟨T, u, w, t, e1, hT, e2, e3, e4, e10⟩ := yy
          obtain ⟨p, p', p'', e5, e6, e11, e7⟩ := zip3D_get e
          subst e1 e2 e7
          obtain ⟨v, e8, q1⟩ := r.get e5
          obtain ⟨v', e9, q2⟩ := r2.get e6
          obtain ⟨v'', e12, q3⟩ := r3.get e11
          have e3' : xs[i]? = some u := e3
          have e4' : ys[i]? = some w := e4
          have e10' : zs[i]? = some t := e10
          rw [e3'] at e8
          rw [e4'] at e9
          rw [e10'] at e12
          cases e8
          cases e9
          cases e12
          exact ⟨mv_new hT, cl.new hT, .tup (cl.free hT) upd_same (.cons ((q1.mv m).mv (mv_new hT)) (.cons ((q2.mv m).mv (mv_new hT)) (.cons ((q3.mv m).mv (mv_new hT)) .nil)))⟩
end
end VS
namespace VS
open PySem L2 C8 PySem.Spec PyProof.Rows
/-! ### x or y, x a list: by its truth -/
theorem ve_orL {c : Ctx} {ρ : Rho} {S : Sto} {F : D → Sto → Prop} {ta tb : TE} (h : VE c ta ρ S fun x S1 => ∃ ds, IsL S1 x ds ∧ (ds ≠ [] → F x S1) ∧ (ds = [] → VE c tb ρ S1 F)) : VE c (tOrT c.K ta tb) ρ S F := fun T σ H I Q k =>
  h T σ H I _ fun vx x S1 T1 H1 m1 c1 r1 ⟨ds, hx, h1, h2⟩ => by
    obtain ⟨a, xs, rfl, s, r⟩ := hx.rd c1 r1
    refine ⟨!xs.isEmpty, .inl ⟨xs, s, rfl⟩, ?_⟩
    cases ds with
    | nil =>
      cases r
      exact iteF (h2 rfl T1 σ H1 (I.mv m1 c1) Q fun v d S3 T3 H3 m3 => k v d S3 T3 H3 (m1.trans m3))
    | cons d ds =>
      cases r
      exact iteT (k _ _ S1 T1 H1 m1 c1 r1 (h1 nofun))
end VS
namespace VS
open PySem L2 C8 PySem.Spec PyProof.Rows LamX NdefX
/-! ### a lambda of parameters, handed to sorted as its key -/
/-! ### its call -/
/-! ### sorted(xs, key=lambda x: ..) -/
/-! ### by value -/
def startFR (N : List Str) (ds : List D) (ws : List (Option D)) : Rho := ds.map some ++ (ws ++ List.replicate (N.length - ds.length - ws.length) none)
section
variable {c : Ctx} {ρ : Rho} {S : Sto} {F : D → Sto → Prop}
theorem slots_app {K : PySem.W.Frag} {H : Hp} {T : Sto} {a1 a2 : L2.St} {b1 b2 : Rho} (hl : a1.length = b1.length) (h1 : ∀ (i : Nat) (d : D), b1[i]? = some (some d) → ∃ v, a1[i]? = some (some v) ∧ Rep K H T v d) (h2 : ∀ (i : Nat) (d : D), b2[i]? = some (some d) → ∃ v, a2[i]? = some (some v) ∧ Rep K H T v d) :
    ∀ (i : Nat) (d : D), (b1 ++ b2)[i]? = some (some d) → ∃ v, (a1 ++ a2)[i]? = some (some v) ∧ Rep K H T v d := fun i d e => by
  by_cases hi : i < b1.length
  · rw [List.getElem?_append_left hi] at e
    rw [List.getElem?_append_left (by omega)]
    exact h1 i d e
  · rw [List.getElem?_append_right (by omega)] at e
    rw [List.getElem?_append_right (by omega), hl]
    exact h2 _ d e
end
/-! ### a def that makes lambdas: its code object is known -/
def CodeOf (K : PySem.W.Frag) (f : Addr) (cdv : Value) : Prop := ∃ (o : Obj) (fd : FuncData), K.lookup f = some o ∧ o.data = .func fd ∧ fd.code = cdv
theorem CodeOf.eq {K : PySem.W.Frag} {f : Addr} {u v : Value} (a : CodeOf K f u) (b : CodeOf K f v) : u = v := by
  obtain ⟨o, fd, h1, h2, h3⟩ := a
  obtain ⟨o', fd', g1, g2, g3⟩ := b
  rw [h1] at g1
  cases g1
  rw [h2] at g2
  cases g2
  rw [← h3, ← g3]
/-- the def at f, its table at P -/
structure TabF (K : PySem.W.Frag) (mg : Str → Option Value) (base : Heap) (f c P : Addr) : Prop where
  code : CodeOf K f (.ref c)
  tab : TabB base mg c P
section
variable {P : Program} {w : World} {K : PySem.W.Frag} {mg : Str → Option Value} {base : Heap} {CX : CXT}
/-- a def by its body -/
theorem fnG_ofC {x qual : Str} {st : Stmt} {dvs : List V} {f : Addr} {fd : FuncData} {N ps : List Str} {k : Nat} {sp : Sp} (F : Fd K x qual st dvs f fd) (Sc : FnScope N ps (defScope st)) (len : ∀ vs H Q E, sp vs H Q E → vs.length = ps.length)
    (body : ∀ (cdv : Value) (A : Around), CodeOf K f cdv → A.guards = some [] → ∀ (outer : List Env) (s : Shared) (H : Hp) (vs : List V) (Q : VK) (E : XK), Room k (A.deeper (envOfC qual (defScope st) s.heap.objs.size f cdv)) → sp vs H Q E →
      ∃ t, PSs (cxOf CX P w K mg base N qual (defScope st) f cdv A outer s H E) (defBody st) t ∧ t ⟨fun _ H' => Q .non H', Q, fun _ _ => False, fun _ _ => False⟩ (L2.start N vs) H) : FnG P w K mg base CX (k + 1) f fd ps sp := by
  obtain ⟨oc, od, dV, kV, doc, pm, an, cdv, ct, osl, rfl, lk, hcd, _, _⟩ := F.ex
  refine ⟨len, fun A hgd outer s H args us vs Q E room en hb rv hsp => ?_⟩
  have heap_in : K.In s.heap := en.mod.kin.keeps fun b o e => (en.bs b o e).1
  have nolim : s.heap.NoLimit := en.mod.nolimit.keeps fun b o e => (en.bs b o e).1
  refine codeAny_call_function room.depth (heap_in _ _ lk) rfl Sc.co Sc.gen rfl (PySem.W.codeRec_of heap_in hcd) (hb _ _ _ _ ?_)
  have kinds : ∀ y ∈ ps.zip us, (defScope st).names.lookup y.1 = some .local ∨ ((defScope st).names.lookup y.1 = some .cell ∧ ((cellsFrom (s.heap.objs.size + 1) (defScope st).names []).lookup y.1).isSome = true) := by
    rintro ⟨n, v⟩ hy
    cases Sc.par n (List.of_mem_zip hy).1 with
    | inl q => exact .inl q
    | inr q => exact .inr ⟨q, PySem.W.cellsFrom_some _ _ _ (.inl q)⟩
  refine wpAny_newFunctionEnv_cells Sc.kind kinds fun env he s1 inc => ?_
  subst he
  obtain ⟨t, ht, hq⟩ := body cdv A ⟨_, _, lk, rfl, rfl⟩ hgd outer s H vs Q E (room.deeper _) hsp
  refine ⟨nolim.keeps inc.toInCall.keep, codeAny_func (wpAny_mono (ht.run [] s1 (L2.start N vs) H _ (inv_start Sc room.hd en (len _ _ _ _ hsp) rv inc) hq) (fun fl s2 hs => ?_) fun _ _ q => q)⟩
  cases fl with
  | next => obtain ⟨σ2, H2, J, q⟩ := hs; exact ⟨.non, H2, J.os, J.bare, J.base, J.hok, rfl, q⟩
  | ret u => obtain ⟨v, σ2, H2, J, r2, q⟩ := hs; exact ⟨v, H2, J.os, J.bare, J.base, J.hok, r2, q⟩
  | brk => obtain ⟨_, _, _, q⟩ := hs; exact q.elim
  | cont => obtain ⟨_, _, _, q⟩ := hs; exact q.elim
theorem fn_valC {x qual : Str} {st : Stmt} {dvs : List V} {f : Addr} {fd : FuncData} {N ps : List Str} {k : Nat} {p : Pt} (F : Fd K x qual st dvs f fd) (Sc : FnScope N ps (defScope st)) (len : ∀ ds S G Y, p ds S G Y → ds.length = ps.length)
    (body : ∀ (cdv : Value) (A : Around), CodeOf K f cdv → A.guards = some [] → ∀ (outer : List Env) (s : Shared) (H : Hp) (E : XK), Room k (A.deeper (envOfC qual (defScope st) s.heap.objs.size f cdv)) →
      PassS (L2.CX P w) (cxOf (L2.CX P w) P w K mg base N qual (defScope st) f cdv A outer s H E) (fun _ => E) → Takes (cxOf (L2.CX P w) P w K mg base N qual (defScope st) f cdv A outer s H E) (fun cls d _ H' => E cls d H') →
      PassesOwn (model P w) (A.deeper (envOfC qual (defScope st) s.heap.objs.size f cdv)) (envOfC qual (defScope st) s.heap.objs.size f cdv) (cxOf (L2.CX P w) P w K mg base N qual (defScope st) f cdv A outer s H E).xe → ∀ ds S G Y, p ds S G Y →
      ∃ t, PSs (cxOf (L2.CX P w) P w K mg base N qual (defScope st) f cdv A outer s H E) (defBody st) t ∧ VX ⟨K, fun _ => E, fun C fs _ S' => Y C fs S'⟩ t (startR N ds) S ⟨fun _ S' => G .non S', G, fun _ _ => False, fun _ _ => False⟩) : FnG P w K mg base (L2.CX P w) (k + 1) f fd ps (spOf K p) := by
  refine fnG_ofC F Sc (fun vs H Q E h => ?_) fun cdv A hcf hgd outer s H vs Q E room h => ?_
  · obtain ⟨ds, S, T, G, Y, r, _, hp, _⟩ := h
    rw [r.length]
    exact len _ _ _ _ hp
  · obtain ⟨ds, S, T, G, Y, r, cl, hp, hv, hx⟩ := h
    have tk : Takes (cxOf (L2.CX P w) P w K mg base N qual (defScope st) f cdv A outer s H E) (fun cls d _ H' => E cls d H') := takes_of rfl rfl rfl rfl
    obtain ⟨t, h1, h2⟩ := body cdv A hcf hgd outer s H E room (passS_of tk) tk PassesOwn.leaving ds S G Y hp
    refine ⟨t, h1, h2 T _ H (in_start (c := ⟨K, fun _ => E, fun C fs _ S' => Y C fs S'⟩) cl r (fun _ _ C d fs S' T' H' m c2 _ x y => hx C d fs S' T' H' m c2 x y)) _ ⟨fun σ' ρ' S' T' H' m I' q => ?_, fun v d S' T' H' m c2 r2 q => hv v d S' T' H' m c2 r2 q, fun _ _ _ _ _ _ _ q => q.elim, fun _ _ _ _ _ _ _ q => q.elim⟩⟩
    exact hv .non .non S' T' H' m I'.cells .non q
theorem fn_valT {x qual : Str} {st : Stmt} {dvs : List V} {f c : Addr} {fd : FuncData} {N ps : List Str} {k : Nat} {p : Pt} (tc : CodeOf K f (.ref c)) (F : Fd K x qual st dvs f fd) (Sc : FnScope N ps (defScope st)) (len : ∀ ds S G Y, p ds S G Y → ds.length = ps.length)
    (body : ∀ (A : Around), A.guards = some [] → ∀ (outer : List Env) (s : Shared) (H : Hp) (E : XK), Room k (A.deeper (envOfC qual (defScope st) s.heap.objs.size f (.ref c))) →
      PassS (L2.CX P w) (cxOf (L2.CX P w) P w K mg base N qual (defScope st) f (.ref c) A outer s H E) (fun _ => E) → Takes (cxOf (L2.CX P w) P w K mg base N qual (defScope st) f (.ref c) A outer s H E) (fun cls d _ H' => E cls d H') →
      PassesOwn (model P w) (A.deeper (envOfC qual (defScope st) s.heap.objs.size f (.ref c))) (envOfC qual (defScope st) s.heap.objs.size f (.ref c)) (cxOf (L2.CX P w) P w K mg base N qual (defScope st) f (.ref c) A outer s H E).xe → ∀ ds S G Y, p ds S G Y →
      ∃ t, PSs (cxOf (L2.CX P w) P w K mg base N qual (defScope st) f (.ref c) A outer s H E) (defBody st) t ∧ VX ⟨K, fun _ => E, fun C fs _ S' => Y C fs S'⟩ t (startR N ds) S ⟨fun _ S' => G .non S', G, fun _ _ => False, fun _ _ => False⟩) : FnG P w K mg base (L2.CX P w) (k + 1) f fd ps (spOf K p) :=
  fn_valC F Sc len fun cdv A hcf => by
    have e := hcf.eq tc
    subst e
    exact body A
end
/-! ### the law's own call, tables of code objects among what it starts with -/
abbrev TabsL := List (Addr × Addr × Str)
/-- the store at the start: the tables -/
structure TabS0 (cs : TabsL) (S0 : Sto) : Prop where
  at_ : ∀ p ∈ cs, S0 p.2.1 = some (.str p.2.2)
  only : ∀ b d, S0 b = some d → ∃ p ∈ cs, b = p.2.1 ∧ d = .str p.2.2
theorem TabS0.one {c P : Addr} {q : Str} : TabS0 [(c, P, q)] fun b => if b = P then some (.str q) else none where
  at_ := fun p hp => by
    cases List.mem_singleton.mp hp
    exact if_pos rfl
  only := fun b d e => by
    by_cases z : b = P
    · have e' := (if_pos z).symm.trans e
      cases e'
      exact ⟨_, List.mem_singleton.mpr rfl, z, rfl⟩
    · have e' := (if_neg z).symm.trans e
      cases e'
theorem law_valT {P : Program} {w : World} {K : PySem.W.Frag} {mg mb : Str → Option Value} {CX : CXT} {k : Nat} {fa a : Addr} {cs : TabsL} {S0 : Sto} {fd : FuncData} {x : Str} {p : Pt} {s₁ : Shared} {vs : List Value} {ns : List Int}
    (KX : K.In s₁.heap) (hns : s₁.heap.Ns mainGlobals mg) (hb : s₁.heap.Ns builtinsNs mb) (hbb : ∀ x : Str, x ≠ "__name__" → mb x = bootBuiltins x) (hlim : s₁.heap.NoLimit) (sys : ∃ mm, s₁.heap.Ns sysModules mm) (hg : s₁.gens = #[])
    (hT : ∀ p ∈ cs, s₁.heap.get? p.2.1 = some { cls := .none, data := .fields #[] }) (nT : ∀ p ∈ cs, K.lookup p.2.1 = none) (C : ∀ p ∈ cs, PySem.W.CodeHd s₁.heap p.1 p.2.1) (s0 : TabS0 cs S0)
    (hbm : ∃ (bm : Addr) (ob : Obj), mg "__builtins__" = some (.ref bm) ∧ bm ≠ builtinsNs ∧ s₁.heap.get? bm = some ob ∧ ob.cls = .type "module" ∧ ob.dict = some builtinsNs ∧ ob.data = .plain)
    (ha : s₁.heap.get? a = some { cls := .type "list", data := .seq vs.toArray }) (hi : IntsAre vs ns) (hl : ns.length ≤ sizeLine) (hr : Room k callerA)
    (F : ∀ base : Heap, K.In base → base.Ns mainGlobals mg → SysOk base → (∀ p ∈ cs, TabB base mg p.1 p.2.1) → FnG P w K mg base CX k fa fd [x] (spOf K p)) (bd : ∀ (s : Shared) (u : Value), BindsTo s fd ⟨[u], []⟩ [(x, u)])
    (hp : p [.rol (ns.map .int)] S0 (fun d _ => d = .bl true) noY) (noexc : ∀ H e s', CX [] H s₁ (fun _ _ _ => False) e s' → False) :
    codeAny (model P w) callerA (.call (.ref fa) ⟨[.ref a], []⟩) (fun r s' => r = .ok (.ret (.bool true)) ∧ OldK s₁.heap s'.heap ∧ s'.os = s₁.os ∧ AllBare s'.gens) s₁ := by
  have rv := vals_ints hi
  have lenV := hi.length
  have isT : ∀ b : Addr, b ∈ cs.map (·.2.1) → s₁.heap.get? b = some { cls := .none, data := .fields #[] } := fun b hb => by
    obtain ⟨p, hp, e⟩ := List.mem_map.mp hb
    rw [← e]
    exact hT p hp
  have aT : a ∉ cs.map (·.2.1) := fun z => by
    have q := isT a z
    rw [ha] at q
    have z' : Data.seq vs.toArray _ = Data.fields #[] := congrArg Obj.data (Option.some.inj q)
    cases z'
  have memT : ∀ p ∈ cs, p.2.1 ∈ cs.map (·.2.1) := fun p hp => List.mem_map.mpr ⟨p, hp, rfl⟩
  have core : ∀ H : Hp, (∀ p ∈ cs, H p.2.1 = some (.tbl #[])) → (∀ b u, H b = some u → (b ∈ cs.map (·.2.1) ∧ u = .tbl #[]) ∨ (b = a ∧ u = .frz { cls := .type "list", data := .seq vs.toArray } (.lst (ns.map V.int)))) → Rep K H S0 (.ref a) (.rol (ns.map .int)) → (H a ≠ none → K.lookup a = none) →
      codeAny (model P w) callerA (.call (.ref fa) ⟨[.ref a], []⟩) (fun r s' => r = .ok (.ret (.bool true)) ∧ OldK s₁.heap s'.heap ∧ s'.os = s₁.os ∧ AllBare s'.gens) s₁ := by
    intro H hH hO rep hK
    have hA : ∀ b, H b ≠ none → b = a ∨ b ∈ cs.map (·.2.1) := fun b n => by
      cases q : H b with
      | none => exact absurd q n
      | some u => exact (hO b u q).elim (fun z => .inr z.1) fun z => .inl z.1
    have hok : HOk P w H s₁.heap := fun b u z => by
      rcases hO b u z with ⟨e1, e2⟩ | ⟨e1, e2⟩
      · subst e2
        exact isT b e1
      · subst e1 e2
        exact ⟨ha, by rw [List.length_map]; exact hl, vs, _, rv, ha⟩
    have base_of : ∀ {b : Addr} {o : Obj}, s₁.heap.get? b = some o → H b = none → (hidT s₁.heap H).get? b = some o := fun e n => hidT_get e n
    have noD : ∀ {b : Addr} {o : Obj}, s₁.heap.get? b = some o → (∀ vs n, o.data ≠ .seq vs n) → o.data ≠ .fields #[] → H b = none := fun {b o} e h1 h2 => by
      cases q : H b with
      | none => rfl
      | some u =>
        rcases hA b (by rw [q]; simp) with e' | e'
        · rw [e', ha] at e
          cases e
          exact (h1 _ _ rfl).elim
        · rw [isT b e'] at e
          cases e
          exact (h2 rfl).elim
    have noA : ∀ {b : Addr} {o : Obj} {es : Array DictEntry} {ep : Nat}, s₁.heap.get? b = some o → o.data = .dict es ep → H b = none := fun {b o es ep} e d => by
      refine noD e (fun vs n z => ?_) fun z => ?_
      · rw [d] at z
        cases z
      · rw [d] at z
        cases z
    have nsK : ∀ {b : Addr} {m : Str → Option Value}, s₁.heap.Ns b m → (hidT s₁.heap H).Ns b m := fun {b m} ⟨o, es, ep, e, d, r⟩ => ⟨o, es, ep, base_of e (noA e d), d, r⟩
    have hKb : K.In (hidT s₁.heap H) := fun b o e => base_of (KX b o e) (by
      cases q : H b with
      | none => rfl
      | some u =>
        rcases hA b (by rw [q]; simp) with e' | e'
        · rw [e'] at e q
          rw [hK (by rw [q]; simp)] at e
          cases e
        · obtain ⟨p, hp, ep⟩ := List.mem_map.mp e'
          rw [← ep, nT p hp] at e
          cases e)
    have sysB : SysOk (hidT s₁.heap H) := by
      obtain ⟨mm, h⟩ := sys
      obtain ⟨o, _, _, e, _⟩ := nsK h
      exact ⟨o, e⟩
    have hM : L2.Mod K mg (hidT s₁.heap H) := ⟨hKb, nsK hns, ⟨mb, nsK hb, hbb⟩, let ⟨mc, h1, h2⟩ := hlim; ⟨mc, nsK h1, h2⟩⟩
    have TB : ∀ p ∈ cs, TabB (hidT s₁.heap H) mg p.1 p.2.1 := fun p hp => by
      have hTp := hT p hp
      refine ⟨?_, ?_, fun z => ?_⟩
      · obtain ⟨o, us, file, tf, flags, tg, inF, text, tt, e1, r1, r2, r3, r4, r5, r6, r7, r8, hne⟩ := C p hp
        refine ⟨o, us, file, tf, flags, tg, inF, text, tt, base_of e1 (noD e1 (fun vs n z => ?_) fun z => ?_), r1, r2, r3, r4, r5, r6, r7, r8, hne⟩
        · rw [r2] at z
          cases z
        · rw [r2] at z
          cases z
          simp at r3
      · obtain ⟨bm, ob, b1, b2, b3, b4, b5, b6⟩ := hbm
        have nG : bm ≠ mainGlobals := fun q => by
          obtain ⟨o, es, ep, e, hd, _⟩ := hns
          rw [q, e] at b3
          cases b3
          rw [hd] at b6
          cases b6
        have nP : bm ≠ p.2.1 := fun q => by
          rw [q, hTp] at b3
          cases b3
          cases b6
        refine ⟨bm, ob, b1, b2, nG, nP, base_of b3 (noD b3 (fun vs n z => ?_) fun z => ?_), b4, b5, b6⟩
        · rw [b6] at z
          cases z
        · rw [b6] at z
          cases z
      · obtain ⟨o, es, ep, e, hd, _⟩ := hns
        rw [z, hTp] at e
        cases e
        cases hd
    have e0 : Env0 P w K mg (hidT s₁.heap H) callerA [] s₁ H := ⟨rfl, hM, fun b o e => of_hidT e, Nat.le_of_eq (hidT_size _ _), trivial, fun b hb => absurd (show b ∈ ([] : List Addr) from hb) (by simp), hok, .of_eq hg⟩
    have cells : Cells K H S0 S0 := ⟨fun b => .inl ⟨rfl, fun z => by
      obtain ⟨p, _, _, e⟩ := s0.only b _ z
      cases e⟩, fun b d z => by
      obtain ⟨p, hp, e1, e2⟩ := s0.only b d z
      subst e1 e2
      exact ⟨#[], hH p hp, True.intro, fun pos cv hc => by
        have z : codeAmong pos [] = some cv := hc
        simp [codeAmong] at z⟩⟩
    have told : spOf K p [.ref a] H (fun v _ => v = .bl true) (fun _ _ _ => False) := ⟨_, _, _, _, _, .cons rep .nil, cells, hp, fun v d S' T' H' _ _ r e => by subst e; cases r; rfl, fun _ _ _ _ _ _ _ _ _ z => z.elim⟩
    refine codeAny_mono ((F _ hKb (nsK hns) sysB TB).run callerA rfl [] s₁ H ⟨[.ref a], []⟩ [.ref a] [.ref a] _ _ hr e0 (bd s₁ (.ref a)) (.cons rfl .nil) told) fun r s' h => ?_
    cases r with
    | error e => exact (noexc H e s' h).elim
    | ok fl =>
      cases fl with
      | next => exact False.elim h
      | brk => exact False.elim h
      | cont => exact False.elim h
      | ret u =>
        obtain ⟨v, H', os, bare, un, hok', r', q⟩ := h
        have q' : v = .bl true := q
        subst q'
        obtain rfl : u = Value.bool true := r'
        have key : ∀ b o, b ∉ cs.map (·.2.1) → s₁.heap.get? b = some o → s'.heap.get? b = some o := fun b o nb e => by
          cases q : H b with
          | none => exact un.keep b o e q (by intro z; exact absurd (show b ∈ ([] : List Addr) from z) (by simp)) (by simp)
          | some u =>
            rcases hO b u q with z | ⟨z, z1⟩
            · exact absurd z.1 nb
            · subst z1
              have z2 := un.frzs b _ _ q
              obtain ⟨e1, _⟩ := hok b _ q
              obtain ⟨e2, _⟩ := hok' b _ z2
              rw [e] at e1; cases e1
              exact e2
        have grown : ∀ p ∈ cs, ∃ more : Array Value, s'.heap.get? p.2.1 = some { cls := .none, data := .fields more } := fun p hp => by
          obtain ⟨more, z⟩ := un.tbls p.2.1 #[] (hH p hp)
          exact ⟨_, hok' p.2.1 _ z⟩
        refine ⟨rfl, ⟨fun b o e => ?_, fun b o e => ?_⟩, os, bare⟩
        · by_cases hb : b ∈ cs.map (·.2.1)
          · obtain ⟨p, hp, ep⟩ := List.mem_map.mp hb
            obtain ⟨more, hm⟩ := grown p hp
            rw [← ep] at e ⊢
            rw [hT p hp] at e
            cases e
            exact .inr (.inl ⟨((C p hp).tab (hT p hp)).isCodeTable, rfl, #[], more, rfl, by rw [Array.empty_append]; exact hm⟩)
          · exact .inl (key b o hb e)
        · by_cases hb : b ∈ cs.map (·.2.1)
          · obtain ⟨p, hp, ep⟩ := List.mem_map.mp hb
            obtain ⟨more, hm⟩ := grown p hp
            rw [← ep]
            exact ⟨_, hm⟩
          · exact ⟨o, key b o hb e⟩
  have noS : S0 a = none := by
    cases q : S0 a with
    | none => rfl
    | some d =>
      obtain ⟨p, hp, e, _⟩ := s0.only a d q
      exact absurd (by rw [e]; exact memT p hp) aT
  cases hk : K.lookup a with
  | some o =>
    have e := KX a o hk
    rw [ha] at e
    cases e
    refine core (fun b => if b ∈ cs.map (·.2.1) then some (.tbl #[]) else none) (fun p hp => if_pos (memT p hp)) (fun b u z => ?_) (.rolK ⟨_, vs.toArray, _, hk, rfl, rfl, rfl, by rw [List.size_toArray, lenV]; exact hl, by simpa using rv⟩ RepL.ofInts) fun z => absurd (show (if a ∈ cs.map (·.2.1) then some (HO.tbl #[]) else none) = none from if_neg aT) z
    by_cases hb : b ∈ cs.map (·.2.1)
    · have z' := (if_pos hb).symm.trans z
      cases z'
      exact .inl ⟨hb, rfl⟩
    · have z' := (if_neg hb).symm.trans z
      cases z'
  | none =>
    refine core (fun b => if b = a then some (.frz { cls := .type "list", data := .seq vs.toArray } (.lst (ns.map V.int))) else if b ∈ cs.map (·.2.1) then some (.tbl #[]) else none) (fun p hp => (if_neg (show ¬ p.2.1 = a from fun z => aT (by rw [← z]; exact memT p hp))).trans (if_pos (memT p hp))) (fun b u z => ?_)
      (.rol noS (if_pos rfl) RepL.ofInts) fun _ => hk
    by_cases hb : b = a
    · have z' := (if_pos hb).symm.trans z
      cases z'
      exact .inr ⟨hb, rfl⟩
    · have z1 := (if_neg hb).symm.trans z
      by_cases hb2 : b ∈ cs.map (·.2.1)
      · have z' := (if_pos hb2).symm.trans z1
        cases z'
        exact .inl ⟨hb2, rfl⟩
      · have z' := (if_neg hb2).symm.trans z1
        cases z'
/-- the goal that k_head leaves where the program makes functions -/
theorem walk_valT {l : PySem.W.OpenLaw} {n k : Nat} {q : Program} {loose : List Str} {XP : (Str → Option Value) → Heap → Prop} {YP : World → Heap → Prop} {d : DefRec} {K : Params → PySem.W.Frag} {CX : World → CXT} {ts : List Addr} {x : Str}
    (hn : l.most = some n) (hn2 : n ≤ sizeLine) (hdf : d.params.defaults = []) (room : Room k callerA) (noimp : importsNone q = true) (hY : ∀ (w : World) (h : Heap), YP w h → (K w.params).In h ∧ ∀ P ∈ ts, h.get? P = some { cls := .none, data := .fields #[] })
    (F : ∀ (w : World) (mg : Str → Option Value) (fa : Addr) (h : Heap), (K w.params).In h → h.Ns mainGlobals mg → mg d.name = some (.ref fa) →
      ∃ (fd : FuncData) (cs : TabsL) (S0 : Sto) (p : Pt), TabS0 cs S0 ∧ (∀ p ∈ cs, (K w.params).lookup p.2.1 = none ∧ PySem.W.codeHdIn (K w.params) p.1 p.2.1 = true ∧ p.2.1 ∈ ts) ∧ (∀ (s : Shared) (u : Value), BindsTo s fd ⟨[u], []⟩ [(x, u)]) ∧
        (∀ ns : List Int, ns.length ≤ n → p [.rol (ns.map .int)] S0 (fun d _ => d = .bl true) noY) ∧ ∀ base : Heap, (K w.params).In base → base.Ns mainGlobals mg → SysOk base → (∀ p ∈ cs, TabB base mg p.1 p.2.1) → FnG l.prog w (K w.params) mg base (CX w) k fa fd [x] (spOf (K w.params) p))
    (noexc : ∀ (w : World) (H : Hp) (s : Shared) (e : Value) (s' : Shared), CX w [] H s (fun _ _ _ => False) e s' → False) :
    PySem.W.WalkO q loose XP YP l.row.toRowW d [] (fun f vs => PySem.call f vs) :=
  Att.attach_call hn hdf fun w s₀ s₁ mg mb fa o pm cd doc a vs ns G Y ho hd hcd hmg hobj hints hlen hg => by
    have KX := (hY w _ Y).1
    obtain ⟨fd, cs, S0, p, s0, hc, hb, hp, hF⟩ := F w mg fa _ KX G.T.g hmg
    exact law_valT KX G.T.g G.T.b G.T.builtins G.T.nolimit (let ⟨mm, h, _⟩ := (G.T.seer noimp).mods; ⟨mm, h⟩) hg (fun p m => (hY w _ Y).2 _ (hc p m).2.2) (fun p m => (hc p m).1) (fun p m => PySem.W.codeHd_of_K KX (hc p m).2.1) s0 G.T.bmain hobj hints (Nat.le_trans hlen hn2) room hF hb (hp ns hlen) fun H e s' => noexc w H s₁ e s'
end VS
namespace VS
open PySem L2 C8 PySem.Spec PyProof.Rows
/-! ### sorted(set(a list of whole numbers)) -/
section
variable {prog : Program} {w : World} {A : Around} {E : Value → Shared → Prop} {s : Shared}
theorem iter_fillI {l a : Addr} {its : Array Value} {ns : List Int} {Q : Value → Shared → Prop} (hh : A.handled = none) (src : s.heap.IsList l its) (ts : IntsAre its.toList ns) (sm : ns.length + 1 < scanBound)
    (ga : s.heap.get? a = some (set0 (!w.params.followText "set-order"))) (q : ∀ h' tk c, SetR w h' a (fun j => decide (j ∈ ns)) c → c ≤ ns.length → (∀ b o, b ≠ a → s.heap.get? b = some o → h'.get? b = some o) → Q .none { s with heap := h', toks := tk }) :
    wpAny (model prog w) A (pyIter (.ref l)) (fun it s1 => wpAny (model prog w) A (runValue (.builtin "set.update.loop" ⟨[.ref a, it], []⟩)) Q E s1) E s := by
  have len : its.size = ns.length := by rw [← IntsAre.length ts, Array.length_toList]
  have la : a < s.heap.objs.size := Heap.lt_size ga
  have ll : l < s.heap.objs.size := by obtain ⟨o, g, _⟩ := src; exact Heap.lt_size g
  have nl : a ≠ l := fun z => by
    subst z
    obtain ⟨o, g, c, _⟩ := src
    rw [ga] at g
    cases g
    exact absurd (Value.type.inj c) (by decide)
  have nw : a ≠ s.heap.objs.size := Nat.ne_of_lt la
  have na : a ∉ [s.heap.objs.size, l] := fun z => by
    rcases List.mem_cons.mp z with z | z
    · exact nw z
    · exact nl (by simpa using z)
  have h1 : A.in1.handled = none := by simpa using hh
  have vl : ∀ (i : Nat) (v : Value), its[i]? = some v → ∃ k t, ns[i]? = some k ∧ v = .int k t := fun i v hv => by
    have hi : i < ns.length := by rw [← len]; exact (Array.getElem?_eq_some_iff.mp hv).1
    obtain ⟨t, e⟩ := IntsAre.int_at ts i v (by rw [Array.getElem?_toList]; exact hv)
    refine ⟨ns[i], t, List.getElem?_eq_getElem hi, ?_⟩
    rw [e, List.getD_eq_getElem?_getD, List.getElem?_eq_getElem hi] <;> rfl
  refine wpAny_pyIter_list src ?_
  refine wpAny_runValue (set_update_ints (Walks.list h1 _ l (Nat.ne_of_lt ll) its).toS a na ns len sm vl its.size 0 _ (by omega) (Nat.zero_le _) ⟨⟨_, Heap.get?_push_size _ rfl, rfl, rfl⟩, src.push _⟩ ⟨0, Nat.le_refl 0, setR_new_at (Heap.get?_push_of_some _ ga)⟩ fun s' c m hc R => ?_)
  obtain ⟨h', g', d', tk', os'⟩ := s'
  have e1 : g' = s.gens := m.gens
  have e2 : d' = s.drawn := m.drawn
  have e3 : os' = s.os := m.os
  subst e1; subst e2; subst e3
  refine q h' tk' c R (by omega) fun b o' nb z => m.heap b o' (fun y => ?_) (Heap.get?_push_of_some _ z)
  rcases List.mem_cons.mp y with y | y
  · exact nb y
  · have : b < s.heap.objs.size := Heap.lt_size z
    have e : b = s.heap.objs.size := by simpa using y
    exact absurd e (Nat.ne_of_lt this)
theorem set_madeI {l : Addr} {its : Array Value} {ns : List Int} {Q : Value → Shared → Prop} (hh : A.handled = none) (src : s.heap.IsList l its) (ts : IntsAre its.toList ns) (sm : ns.length + 1 < scanBound)
    (q : ∀ h' tk c, SetR w h' s.heap.objs.size (fun j => decide (j ∈ ns)) c → c ≤ ns.length → (∀ b o, s.heap.get? b = some o → h'.get? b = some o) → Q (.ref s.heap.objs.size) { s with heap := h', toks := tk }) : wpAny (model prog w) A (call (.type "set") [.ref l]) Q E s := by
  obtain ⟨c, tl, mro⟩ := PySem.F.called_set.mro
  have f1 := PySem.F.called_set.made
  have f2 := PySem.F.called_set.sub
  have f3 := PySem.F.called_set.notType
  have f4 := PySem.F.called_set.canCreate
  have f5 := PySem.F.typeCall_set_1 (.ref l)
  refine wpAny_call (codeAny_of_tree ?_)
  show wpAny _ _ (callAny (.type "set") _) _ _ _
  refine wpAny_pure ⟨Code.quiet_builtin _ (by decide +kernel), codeAny_builtin PySem.F.entry_type_call ?_⟩
  rw [Around.under_plain (weight_type_call_type "set" [.ref l] []) rfl]
  repeat (any_goals (first | assumption | wp_step))
  refine codeAny_mono (code_set_led1 (.ref l) (E := E) (Q₁ := fun v s1 => v = .ref s.heap.objs.size ∧ s1 = { s with heap := s.heap.push (set0 (!w.params.followText "set-order")) }) ⟨rfl, rfl⟩) fun r s1 hr => ?_
  rcases r with e | fl
  · exact hr
  cases fl <;> first | exact hr.elim | skip
  obtain ⟨rfl, rfl⟩ := hr
  generalize hled : (!w.params.followText "set-order") = led at *
  have g0 : (s.heap.push (set0 led)).get? s.heap.objs.size = some (set0 led) := Heap.get?_push_size _ rfl
  have ty : Shared.TypeIs { s with heap := s.heap.push (set0 led) } (.ref s.heap.objs.size) "set" := ⟨_, g0, rfl⟩
  have i1 := PySem.F.called_set.init.lookup
  have i2 := PySem.F.called_set.init.bind (.ref s.heap.objs.size)
  have la : ∀ b o, s.heap.get? b = some o → b ≠ s.heap.objs.size := fun b o z => Nat.ne_of_lt (Heap.lt_size z)
  have src2 : (s.heap.push (set0 led)).IsList l its := src.push _
  repeat (any_goals (first | assumption | wp_step))
  refine codeAny_mono (codeAny_call_builtin (R := wants (fun v s2 => v = .none ∧ ∃ h' tk c, s2 = { s with heap := h', toks := tk } ∧ SetR w h' s.heap.objs.size (fun j => decide (j ∈ ns)) c ∧ c ≤ ns.length ∧ ∀ b o, s.heap.get? b = some o → h'.get? b = some o) E)
    PySem.F.called_set.init.plain PySem.F.entry_set_init (check_set_init_1 ty ?_)) fun r2 s2 hr2 => ?_
  · unfold Builtin.«set.__init__» noKeywords Builtin.Frozenset.updateFrom
    generalize hz : pyIter = Z
    have h2 : A.in1.in1.handled = none := by simpa using hh
    have fin : wpAny (model prog w) A.in1.in1 (pyIter (.ref l)) (fun it s1 => wpAny (model prog w) A.in1.in1 (runValue (.builtin "set.update.loop" ⟨[.ref s.heap.objs.size, it], []⟩)) (fun v s2 => v = .none ∧ ∃ h' tk c, s2 = { s with heap := h', toks := tk } ∧ SetR w h' s.heap.objs.size (fun j => decide (j ∈ ns)) c ∧ c ≤ ns.length ∧ ∀ b o, s.heap.get? b = some o → h'.get? b = some o) E s1) E { s with heap := s.heap.push (set0 led) } :=
      iter_fillI h2 src2 ts sm (by rw [hled]; exact g0) fun h' tk c t hc k => ⟨rfl, h', tk, c, rfl, t, hc, fun b o z => k b o (la b o z) (Heap.get?_push_of_some _ z)⟩
    rw [hz] at fin
    obtain ⟨⟨oc, od, ot, oz⟩, g, c0, n, e⟩ := src2
    simp only at c0 e
    subst c0
    subst e
    have b1 := PySem.F.sub_list_set
    have b2 := PySem.F.sub_list_frozenset
    have b3 : (Value.type "list" == Value.type "dict") = false := by decide
    clear src
    wp_walk
    refine wpAny_mono fin (fun it s1 k => wpAny_bind (wpAny_mono k (fun v s2 z => ?_) fun _ _ z => z)) fun _ _ z => z
    obtain ⟨rfl, z⟩ := z
    exact wpAny_pure (wpAny_pure ⟨rfl, z⟩)
  · rcases r2 with e | fl
    · exact hr2
    cases fl <;> first | exact hr2.elim | skip
    obtain ⟨rfl, h', tk, c, rfl, t, hc, k⟩ := hr2
    repeat (any_goals (first | assumption | wp_step))
    exact q _ _ c t hc k
end
def rSetI (K : PySem.W.Frag) (w : World) : CR1 := fun xs H Q => ∃ (l : Addr) (ns : List Int), xs = [V.ref l] ∧ SqL K H l (ns.map V.int) ∧ ns.length < 64 ∧ ∀ (p : Addr) (n : Nat), H p = none → n ≤ ns.length → Q (.ref p) (upd H p (SetO w p (fun k => decide (k ∈ ns)) n))
theorem c_setI {X : Cx} (hc : X.calm = true) : CallR X (.type "set") (rSetI X.K X.w) := by
  intro pins s σ H xs us Q I r h
  obtain ⟨l, ns, rfl, hs, h64, q⟩ := h
  rw [Vals.ref1 r]
  obtain ⟨its, rv, pl, hz⟩ := I.list hs
  refine set_madeI (I.ok.hd hc) pl.isList (by simpa using RZ.intsAre_vals rv) (by unfold scanBound; omega) fun h' tk n R hn k => ?_
  exact ⟨.ref _, upd H s.heap.objs.size (SetO X.w s.heap.objs.size (fun k => decide (k ∈ ns)) n), I.laid (t' := tk) k (Nat.le_refl _) (setO_new R), rfl, q _ n (I.hok.fresh (Nat.le_refl _)) hn⟩
end VS
namespace VS
open PySem L2 C8 PySem.Spec PyProof.Rows
/-! ### dict(d), d[k] += z -/
end VS
namespace VS
open PySem L2 C8 PySem.Spec PyProof.Rows
/-! ### d != e, two dicts that tell the same flat things of the same keys -/
end VS
namespace VS
open PySem L2 C8 PySem.Spec PyProof.Rows
/-! ### list(zip(xs, reversed(ys))): the iterator from behind, within a zip -/
section
variable {pr : Program} {wd : World} {Ar : Around} {Er : Value → Shared → Prop} {sh : Shared} {z TI TO T i1 i2 : Addr} {fa fb : List Addr} {na nb i : Nat} {Pa Pb : Nat → Value → Prop} {Sa Sb : Nat → Heap → Prop} {held : Bool} {oT : Obj}
theorem Draws.un {it : Addr} (D : Draws pr wd Ar it fa na Pa Sa) {j : Nat} {g g' : Heap} {c : Addr} (st : Sa j g) (k : Heap.SameBut c g g') (hc : c ∉ fa) : Sa j g' := D.frame j g g' st fun b hb o e => k.extBut b o (fun q => hc (q ▸ hb)) e
end
/-! ### a list made of a zip -/
/-- the pairs that were drawn -/
structure ZpG (Pa Pb : Nat → Value → Prop) (lo : Addr) (h : Heap) (as : List Addr) : Prop where
  rise : as.Pairwise (· < ·)
  above : ∀ a ∈ as, lo ≤ a
  pairs : ∀ (j : Nat) (a : Addr), as[j]? = some a → ∃ x y, Pa j x ∧ Pb j y ∧ IsTupOf2 h a x y
theorem ZpG.there {Pa Pb : Nat → Value → Prop} {lo : Addr} {h : Heap} {as : List Addr} (g : ZpG Pa Pb lo h as) {a : Addr} (ha : a ∈ as) : a < h.objs.size := by
  obtain ⟨j, hj⟩ := List.mem_iff_getElem?.mp ha
  obtain ⟨_, _, _, _, e⟩ := g.pairs j a hj
  exact Heap.lt_size e
/-! ### zip(xs, i), i an iterator from behind -/
/-! ### the list of pairs, tracked -/
/-! ### the expression list(zip(xs, reversed(ys))) -/
/-! ### by value -/
end VS
namespace VS
open PySem L2 C8 PySem.Spec PyProof.Rows
/-! ### dict(a list of pairs), divmod, upper -/
end VS
namespace VS
open PySem L2 C8 PySem.Spec PyProof.Rows L2H
/-! ### own defs called where an exception is handled (they let nothing out, and walk over nothing) -/
theorem _root_.L2H.RoomH.units {k : Nat} {A : Around} (r : RoomH k A) : A.units + 64 < cLine := by have := r.un; omega
theorem _root_.L2H.RoomH.units0 {k : Nat} {A : Around} (r : RoomH k A) : A.units < cLine := by have := r.un; omega
end VS
namespace VS
open PySem L2 C8 PySem.Spec PyProof.Rows
/-! ### partition, index of a sign, list(reversed(a list)) -/
section
variable {prog : Program} {w : World} {A : Around} {E : Value → Shared → Prop} {s : Shared}
theorem lr_extend {R : Result → Shared → Prop} {it l : Addr} {items : Array Value} (hh : A.handled = none) (hit : s.heap.IsRevIter it l ((items.size : Int) - 1)) (hl : s.heap.IsList l items) (hne : l ≠ it) (hn : items.size ≤ sizeLine)
    (S : Addr) (hSi : S ≠ it) (hSl : S ≠ l) (res : Value) (c₀ : Nat) (hS : s.heap.get? S = some { cls := .type "list", data := .seq #[] c₀ })
    (hR : ∀ h' tk acc' c', (∀ b o, b ≠ S → b ≠ it → s.heap.get? b = some o → h'.get? b = some o) → h'.get? S = some { cls := .type "list", dict := none, data := .seq acc' c', slots := #[] } → ItemsOf (fun i v => items[items.size - 1 - i]? = some v) acc' items.size → R (.ok (.ret res)) { s with heap := h', toks := tk }) :
    wpAny (model prog w) A.in1 (Builtin.List.listExtendWith (.ref S) (.ref it) res)
      (fun fin s' => match fin with | .done f => R (.ok f) s' | .again c' => c'.quiet = true ∧ codeAny (model prog w) A c' R s') (fun e s' => R (.error e) s') s := by
  have W := (Walks.listRev (prog := prog) (w := w) (A := A.in1) hh it l hne items).toS
  have hSf : S ∉ [it, l] := by simp only [List.mem_cons, List.not_mem_nil, or_false, not_or]; exact ⟨hSi, hSl⟩
  have hT : s.TypeIs (.ref it) "list_reverseiterator" := hit.typeIs
  have h1 : Builtin.List.listSameRef (.ref S) (.ref it) = false := by simp [Builtin.List.listSameRef, hSi]
  unfold Builtin.List.listExtendWith
  refine wpAny_bind (wpAny_typeOf hT ?_)
  rw [if_neg (by rw [h1]; decide)]
  refine wpAny_bind (wpAny_pyIter_revIter hit ?_)
  refine wpAny_bind (wpAny_holding ?_)
  unfold Builtin.List.listLengthHint
  refine wpAny_bind (wpAny_specialOf hT RT.nolen_lri ?_)
  show wpAny _ A.in1 (specialOf (Value.ref it) (Str.ofString "__length_hint__") >>= _) _ _ _
  refine wpAny_bind (wpAny_specialOf hT RT.hint_lri ?_)
  generalize hid : ("list_reverseiterator.__length_hint__" : String) = id0
  wp_delta
  rw [show splitId id0 = some ("list_reverseiterator", "__length_hint__") from by subst hid; decide +kernel]
  subst hid
  refine wpAny_bind (wpAny_isInstance (b := true) hT (by rw [isSubtype_type]; kernel_rfl) ?_)
  refine wpAny_pure ?_
  rw [if_neg (by decide)]
  have e0 : ((items.size : Nat) : Int) - 1 - ((0 : Nat) : Int) = (items.size : Int) - 1 := by omega
  refine wpAny_pure ⟨plainId_quiet F.plain_extend_loop _, codeAny_extend_loopS W hn _ hSf _ items.size 0 _ _ _ rfl (Nat.zero_le _) ⟨Nat.zero_le _, by rw [e0]; exact hit, hl⟩ hS (ItemsOf.nil _) fun s' acc' c' hm hS' hacc => ?_⟩
  rw [Moved.eq_with hm]
  refine hR s'.heap s'.toks acc' c' (fun b o hb hb2 e => hm.heap b o (fun hmem => ?_) e) hS' hacc
  rcases List.mem_cons.mp hmem with e' | hmem
  · exact hb e'
  · exact hb2 (List.mem_singleton.mp hmem)
theorem lr_call {Q : Value → Shared → Prop} {it l : Addr} {items : Array Value} (hh : A.handled = none) (hit : s.heap.IsRevIter it l ((items.size : Int) - 1)) (hl : s.heap.IsList l items) (hne : l ≠ it) (hn : items.size ≤ sizeLine)
    (hQ : ∀ h' tk acc' c', (∀ b o, b ≠ it → s.heap.get? b = some o → h'.get? b = some o) → h'.get? s.heap.objs.size = some { cls := .type "list", dict := none, data := .seq acc' c', slots := #[] } → ItemsOf (fun i v => items[items.size - 1 - i]? = some v) acc' items.size → Q (.ref s.heap.objs.size) { s with heap := h', toks := tk }) :
    wpAny (model prog w) A (call (.type "list") [.ref it]) Q E s := by
  refine callType_codes (Q₁ := fun obj s₁ => obj = .ref s.heap.objs.size ∧ s₁ = { s with heap := s.heap.push { cls := .type "list", data := .seq #[] } }) PySem.F.called_list (PySem.F.typeCall_list_1 _) PySem.F.entry_list_init
    (code_list_new _ ⟨rfl, rfl⟩) fun obj s₁ h₁ => ?_
  obtain ⟨rfl, rfl⟩ := h₁
  obtain ⟨oi, hoi, _⟩ := id hit
  obtain ⟨ol, hol, _⟩ := id hl
  have hSi : s.heap.objs.size ≠ it := Nat.ne_of_gt (Heap.lt_size hoi)
  have hSl : s.heap.objs.size ≠ l := Nat.ne_of_gt (Heap.lt_size hol)
  have hS : (s.heap.push { cls := .type "list", data := .seq #[] }).get? s.heap.objs.size = some { cls := .type "list", data := .seq #[] } := Heap.get?_push_size _ rfl
  have hit1 : (s.heap.push { cls := .type "list", data := .seq #[] }).IsRevIter it l ((items.size : Int) - 1) := hit.at fun o e => Heap.get?_push_of_some _ e
  have hl1 : (s.heap.push { cls := .type "list", data := .seq #[] }).IsList l items := hl.push _
  refine ⟨⟨_, hS, rfl⟩, PySem.F.args_list_init_2 _ _, ?_⟩
  show wpAny _ A.in1.in1 (do let old ← Builtin.List.listItems (.ref s.heap.objs.size); Builtin.List.listUpdate (.ref s.heap.objs.size) (fun _ => #[]); letGo old.toList.reverse; Builtin.List.listExtendWith (.ref s.heap.objs.size) (.ref it) .none) _ _ _
  refine wpAny_bind ?_
  unfold Builtin.List.listItems
  refine wpAny_bind (wpAny_seqItems hS rfl (wpAny_pure ?_))
  show wpAny _ _ (updateSeq s.heap.objs.size (fun _ => #[]) >>= fun _ => letGo (#[] : Array Value).toList.reverse >>= fun _ => Builtin.List.listExtendWith (.ref s.heap.objs.size) (.ref it) .none) _ _ _
  refine wpAny_bind (wpAny_updateSeq hS rfl ?_)
  have hS₂ := Heap.get?_update_self (Obj.mapSeq (fun _ => (#[] : Array Value))) hS rfl
  have oth : ∀ b o, b ≠ s.heap.objs.size → (s.heap.push { cls := .type "list", data := .seq #[] }).get? b = some o → ((s.heap.push { cls := .type "list", data := .seq #[] }).update s.heap.objs.size (Obj.mapSeq (fun _ => (#[] : Array Value)))).get? b = some o :=
    fun b o hb e => (Heap.get?_update_other _ _ (Ne.symm hb)).trans e
  refine wpAny_bind (wpAny_letGo ?_)
  refine lr_extend (A := A.in1) hh (hit1.at fun o e => oth it o hSi.symm e) (hl1.at fun o e => oth l o hSl.symm e) hne hn _ hSi hSl .none _ hS₂ fun h' tk acc' c' hk hS' hacc => ?_
  exact ⟨rfl, hQ h' tk acc' c' (fun b o hb e => hk b o (Nat.ne_of_lt (Heap.lt_size e)) hb (oth b o (Nat.ne_of_lt (Heap.lt_size e)) (Heap.get?_push_of_some _ e))) hS' hacc⟩
end
/-- list(reversed(x)), x a list: a new list -/
def tLstRev (K : PySem.W.Frag) (te : TE) : TE := fun σ H Q => te σ H fun v H1 => ∃ (a : Addr) (xs : List V), v = .ref a ∧ SqL K H1 a xs ∧ ∀ q, H1 q = none → Q (.ref q) (upd H1 q (.lst xs.reverse))
section
variable {X : Cx}
theorem pe_lstRev {e : Expr} {te : TE} {p p2 pos pos2 : Pos} (hc : X.calm = true) (hg : Gl X "list") (hm : X.mg "list" = none) (hg2 : Gl X "reversed") (hm2 : X.mg "reversed" = none) (he : PE X e te)
    (hs : starEach [e] X.env = (false, eval e X.env) :: starEach [] X.env := by rfl)
    (hs2 : starEach [.Call (.Name "reversed" p2) [e] [] pos2] X.env = (false, eval (.Call (.Name "reversed" p2) [e] [] pos2) X.env) :: starEach [] X.env := by rfl) :
    PE X (.Call (.Name "list" p) [.Call (.Name "reversed" p2) [e] [] pos2] [] pos) (tLstRev X.K te) := by
  refine ⟨fun pins s σ H Q I h => ?_⟩
  refine Call_ (ld_blt I hg hm (u := .type "list") (by first | rfl | decide +kernel) (PyProof.Rows.callWith_type1 (args_cons (Call_ (ld_blt I hg2 hm2 PyProof.Rows.boot_reversed (PyProof.Rows.callWith_type1 (args_cons (thn (he.run pins s σ H _ I h) fun u s1 ⟨v, H1, I1, r1, q1⟩ => args_nil ?_) hs) hs rfl))) hs2) hs2 rfl))
  obtain ⟨a, xs, ev, hq, q⟩ := q1
  subst ev
  obtain rfl : u = Value.ref a := r1
  obtain ⟨its, rv, p', hz⟩ := I1.list hq
  refine call_reversed_list p'.isList (args_nil ?_)
  have k0 : ∀ b o, s1.heap.get? b = some o → (s1.heap.push (revObj a ((its.toArray.size : Int) - 1))).get? b = some o := fun b o e => Heap.get?_push_of_some _ e
  have I2 : Inv X pins σ H1 { s1 with heap := s1.heap.push (revObj a ((its.toArray.size : Int) - 1)) } := I1.kept (t' := s1.toks) k0
  have hl := p'.isList
  obtain ⟨ol, hol, _⟩ := id hl
  have hne : a ≠ s1.heap.objs.size := Nat.ne_of_lt (Heap.lt_size hol)
  have hn : its.toArray.size ≤ sizeLine := by rw [List.size_toArray, ← rv.length]; exact hz
  have hsz : (s1.heap.push (revObj a ((its.toArray.size : Int) - 1))).objs.size = s1.heap.objs.size + 1 := Heap.size_push _ _
  refine lr_call (s := { s1 with heap := s1.heap.push (revObj a ((its.toArray.size : Int) - 1)) }) (I1.ok.hd hc) ⟨_, Heap.get?_push_size _ rfl, rfl, rfl⟩ (hl.push _) hne hn fun h' tk acc c' hk hS hi => ?_
  exact ⟨.ref _, _, I1.laid (t' := tk) (fun b u x => hk b u (Nat.ne_of_lt (Heap.lt_size x)) (k0 b u x)) (by rw [hsz]; exact Nat.le_succ _) (show ObjOk X.prog X.w _ h' _ (.lst xs.reverse) from ⟨by rw [List.length_reverse]; exact hz, acc.toList, c', RT.vals_rev rv hi, by rw [Array.toArray_toList]; exact hS⟩), rfl, q _ (I1.hok.fresh (by rw [hsz]; exact Nat.le_succ _))⟩
end
section
variable {c : Ctx} {ρ : Rho} {S : Sto} {F : D → Sto → Prop}
theorem ve_lstRev {te : TE} (h : VE c te ρ S fun x S1 => ∃ xs, IsL S1 x xs ∧ F (.lst xs.reverse) S1) : VE c (tLstRev c.K te) ρ S F := fun T σ H I Q k =>
  h T σ H I _ fun v x S1 T1 H1 m1 c1 r1 ⟨xs, hl, f⟩ => by
    obtain ⟨a, vs, rfl, hs, r⟩ := hl.rd c1 r1
    exact ⟨a, vs, rfl, hs, fun q hq => k _ _ S1 T1 _ (m1.trans (mv_new hq)) (c1.new hq) (.lst (c1.free hq) upd_same (r.rev.mv (mv_new hq))) f⟩
end
end VS
namespace VS
open PySem L2 C8 PySem.Spec PyProof.Rows L2H
/-! ### != by an own def, where an exception is handled -/
section
variable {X : Cx} {k : Nat} {f C : Addr} {fd : FuncData} {ps : List Str} {sp : Sp} {A : Around}
theorem _root_.L2H.RoomH.in1 {k : Nat} {A : Around} (r : RoomH (k + 1) A) : RoomH k A.in1 :=
  ⟨by have := r.dp; show A.depth + 3 * k + 5 < _; omega, by have := r.un; show A.units + 1 + 16 * k + 200 < _; omega⟩
end
/-! ### try .. except .. else -/
def tTryE (K : PySem.W.Frag) (tb : WX → TS) (l : List Cla) (u : TS) : TS := fun D σ H => tb (wCla K D l) { D with nx := u D } σ H
theorem vx_tryE {c : Ctx} {ρ : Rho} {S : Sto} {P : Po} {tb : WX → TS} {l : List Cla} {u : TS} (h : ∀ E' : L2.St → XK, VX ⟨c.K, E', fun C fs ρ' S' => HdV c P l C fs ρ' S'⟩ (tb (fun cls d σ H => E' σ cls d H)) ρ S { P with nx := fun ρ' S' => VX c u ρ' S' P }) :
    VX c (tTryE c.K tb l u) ρ S P := fun T σ H I Dn b => by
  have key : ∀ (l : List Cla) (σ' : L2.St) (ρ' : Rho) (C : Addr) (d : Option Addr) (fs : List (Str × D)) (S' T' : Sto) (H' : Hp), Mv T H T' H' → Cells c.K H' S' T' → Sl c.K H' T' σ' ρ' → XRep c.K H' T' d fs → HdV c P l C fs ρ' S' → wCla c.K Dn l (.ref C) d σ' H' := by
    intro l
    induction l with
    | nil => exact fun _ _ _ _ _ _ _ _ _ _ _ _ y => y.elim
    | cons k r ih =>
      rintro σ' ρ' C d fs S' T' H' m cl sl ⟨dd, fv, rfl, sd, hd, rf⟩ ⟨bb, e, yes, no⟩
      refine ⟨bb, e, fun z a na => ?_, fun z => ih σ' ρ' C _ fs S' T' H' m cl sl ⟨dd, fv, rfl, sd, hd, rf⟩ (no z)⟩
      have I2 : In c σ' H' ρ' S' T' := ⟨cl, sl.slots, sl.len, (I.mv m cl).exc⟩
      have rx : Rep c.K H' T' (.ref a) (.xcp a dd C fs) := .xcp sd hd rf
      have I3 : In c (inSl k.i a σ') H' (inR k.i (.xcp a dd C fs) ρ') S' T' := by
        cases k.i with
        | none => exact I2
        | some i => exact I2.set i rx
      exact yes z a dd T' _ H' I3 _ ((b.mv m).off k.i)
  have I' : In ⟨c.K, fun σ cls d H => wCla c.K Dn l cls d σ H, fun C fs ρ' S' => HdV c P l C fs ρ' S'⟩ σ H ρ S T := ⟨I.cells, I.slots, I.len, fun σ' ρ' C d fs S' T' H' m cl sl x y => key l σ' ρ' C d fs S' T' H' m cl sl x y⟩
  have b' : Bh ⟨c.K, fun σ cls d H => wCla c.K Dn l cls d σ H, fun C fs ρ' S' => HdV c P l C fs ρ' S'⟩ { P with nx := fun ρ' S' => VX c u ρ' S' P } { Dn with nx := u Dn } T H :=
    ⟨fun σ' ρ' S' T' H' m J q => q T' σ' H' ⟨J.cells, J.slots, J.len, (I.mv m J.cells).exc⟩ Dn (b.mv m), fun v d S' T' H' m cl r q => b.rt v d S' T' H' m cl r q,
     fun σ' ρ' S' T' H' m J q => b.bk σ' ρ' S' T' H' m ⟨J.cells, J.slots, J.len, (I.mv m J.cells).exc⟩ q, fun σ' ρ' S' T' H' m J q => b.ct σ' ρ' S' T' H' m ⟨J.cells, J.slots, J.len, (I.mv m J.cells).exc⟩ q⟩
  exact h (fun σ cls d H => wCla c.K Dn l cls d σ H) T σ H I' _ b'
end VS
namespace VS
open PySem L2 C8 PySem.Spec PyProof.Rows
/-! ### range(0, j, 2) -/
end VS
namespace VS
open PySem L2 C8 PySem.Spec PyProof.Rows
/-! ### a dict != a text -/
end VS
namespace VS
open PySem L2 C8 PySem.Spec PyProof.Rows
/-! ### xs[k::2] -/
end VS
namespace VS
open PySem L2 C8 PySem.Spec PyProof.Rows
/-! ### a list of instances == another one, by their own __eq__ -/
end VS
namespace VS
open PySem L2 C8 PySem.Spec PyProof.Rows LamX NdefX
/-! ### functions handed over: a def within a def, called by another def -/
/-- the promise of the function F, where nothing is being shown: sp ws, ws what its cells hold at the call -/
structure NOkG (P : Program) (w : World) (K : PySem.W.Frag) (mg : Str → Option Value) (base : Heap) (CX : CXT) (k : Nat) (F : NF) (ps fr : List Str) (sp : List (Option V) → Sp) : Prop where
  len : ∀ ws vs H Q E, sp ws vs H Q E → vs.length = ps.length
  run : ∀ (f : Addr) (A : Around), A.guards = some [] → ∀ (outer : List Env) (s : Shared) (H : Hp) (us : List Value) (vs : List V) (ws : List (Option V)) (Q : VK) (E : XK), Room k A → Env0 P w K mg base A outer s H → H f = some (FnO f F) → H F.c = some (CodeO F.c F.qual) →
    CellsAt F.cl fr ws s.heap H → Vals vs us → sp ws vs H Q E → codeAny (model P w) A (.call (.ref f) ⟨us, []⟩) (CR CX outer P w H s Q E) s
section
variable {CX : CXT} {P : Program} {w : World} {K : PySem.W.Frag} {mg : Str → Option Value} {base : Heap} {N ps fr : List Str} {F : NF} {k j : Nat} {sp : List (Option V) → Sp}
theorem NOkG.mono (o : NOkG P w K mg base CX j F ps fr sp) (h : j ≤ k) : NOkG P w K mg base CX k F ps fr sp := ⟨o.len, fun f A hg outer s H us vs ws Q E hr => o.run f A hg outer s H us vs ws Q E (hr.mono h)⟩
theorem nokG_of (S : NScope N ps fr F.scope) (hb : ∀ (doc pm ctv : Value) (us : List Value), us.length = ps.length → bindArgs (F.fd doc pm ctv) ⟨us, []⟩ = pure (ps.zip us)) (len : ∀ ws vs H Q E, sp ws vs H Q E → vs.length = ps.length)
    (hbody : ∀ (f : Addr) (A : Around), A.guards = some [] → ∀ (outer : List Env) (s : Shared) (H : Hp) (vs : List V) (ws : List (Option V)) (Q : VK) (E : XK), Room k (A.deeper (envF F f s.heap.objs.size)) → ws.length = fr.length → sp ws vs H Q E →
      ∃ t, PSs (ncx CX P w K mg base N F f A outer s H E) F.body t ∧ t ⟨fun _ H' => Q .non H', Q, fun _ _ => False, fun _ _ => False⟩ (startF N vs ws) H) :
    NOkG P w K mg base CX (k + 1) F ps fr sp := by
  refine ⟨len, fun f A hgd outer s H us vs ws Q E hr e0 hf hc C r hsp => ?_⟩
  have hl := len _ _ _ _ _ hsp
  have lim : s.heap.NoLimit := e0.mod.nolimit.keeps fun b o e => (e0.bs b o e).1
  obtain ⟨od, sl, doc, pm, ctv, ho⟩ := fnO_at e0.hok hf
  refine codeAny_call_function hr.depth ho rfl S.co S.gen rfl (codeO_at e0.hok hc) ?_
  rw [hb doc pm ctv us (by rw [← r.length]; exact hl)]
  refine wpAny_pure (wpAny_newFunctionEnv S.nocell (fun ⟨n, _⟩ hy => S.par n (List.of_mem_zip hy).1) (fun h₁ hns hsb => ⟨lim.fresh _ hsb, ?_⟩) S.kind)
  show codeAny _ _ (.func F.body (envF F f s.heap.objs.size)) _ _
  refine codeAny_func ?_
  have kp : ∀ b o, s.heap.get? b = some o → h₁.get? b = some o := fun b o e => hsb.extBut b o (Nat.ne_of_lt (Heap.lt_size e)) (Heap.get?_push_of_some _ e)
  obtain ⟨t, ht, hq⟩ := hbody f A hgd outer s H vs ws Q E (hr.deeper _) C.len hsp
  have I : Inv (ncx CX P w K mg base N F f A outer s H E) [] (startF N vs ws) H { s with heap := h₁, toks := s.toks + (ps.zip us).length } := inv_startN S hr.hd e0 hl r C hns kp
  refine wpAny_mono (ht.run [] _ (startF N vs ws) H _ I hq) (fun fl s' hs => ?_) fun e s' hs => hs
  have fin : ∀ {σ' : L2.St} {H' : Hp} {v : V} {u : Value}, Inv (ncx CX P w K mg base N F f A outer s H E) [] σ' H' s' → L2.RelV v u → Q v H' → CE outer P w H s Q u s' :=
    fun {σ' H' v u} J rv q => ⟨v, H', J.os, J.bare, J.base, J.hok, rv, q⟩
  cases fl with
  | ret u =>
    obtain ⟨v, σ', H', J, rv, q⟩ := hs
    exact fin J rv q
  | next =>
    obtain ⟨σ', H', J, q⟩ := hs
    exact fin (v := V.non) (u := Value.none) J rfl q
  | brk =>
    obtain ⟨_, _, _, q⟩ := hs
    exact q.elim
  | cont =>
    obtain ⟨_, _, _, q⟩ := hs
    exact q.elim
end
/-! ### its promise by value -/
def spN (K : PySem.W.Frag) (p : List D → Pt) : List (Option V) → Sp := fun ws vs H Q E => ∃ (vw : List V) (cs ds : List D) (S T : Sto) (F : D → Sto → Prop) (Y : Addr → List (Str × D) → Sto → Prop), ws = vw.map some ∧ RepL K H T vw cs ∧ RepL K H T vs ds ∧ Cells K H S T ∧ p cs ds S F Y ∧
  (∀ v d S' T' H', Mv T H T' H' → Cells K H' S' T' → Rep K H' T' v d → F d S' → Q v H') ∧
  (∀ (C : Addr) (x : Option Addr) (fs : List (Str × D)) (S' T' : Sto) (H' : Hp), Mv T H T' H' → Cells K H' S' T' → XRep K H' T' x fs → Y C fs S' → E (.ref C) x H')
section
variable {P : Program} {w : World} {K : PySem.W.Frag} {mg : Str → Option Value} {base : Heap}
theorem slots_rep {H : Hp} {T : Sto} : ∀ {vs : List V} {ds : List D}, RepL K H T vs ds → ∀ (i : Nat) (d : D), (ds.map some)[i]? = some (some d) → ∃ v, (vs.map some)[i]? = some (some v) ∧ Rep K H T v d := fun {vs ds} r i d e => by
  rw [List.getElem?_map] at e
  cases q : ds[i]? with
  | none => rw [q] at e; cases e
  | some d' =>
    rw [q] at e
    cases e
    obtain ⟨v, h1, h2⟩ := r.get q
    exact ⟨v, by rw [List.getElem?_map, h1] <;> rfl, h2⟩
theorem slots_none {H : Hp} {T : Sto} {σ : L2.St} {n : Nat} : ∀ (i : Nat) (d : D), (List.replicate n (none : Option D))[i]? = some (some d) → ∃ v, σ[i]? = some (some v) ∧ Rep K H T v d := fun i d e => by
  rw [List.getElem?_replicate] at e
  split at e <;> cases e
theorem in_startF {c : Ctx} {N : List Str} {vs ws : List V} {ds cs : List D} {S T : Sto} {H : Hp} (cl : Cells c.K H S T) (r : RepL c.K H T vs ds) (rw' : RepL c.K H T ws cs)
    (ex : ∀ (σ' : L2.St) (ρ' : Rho) (C : Addr) (d : Option Addr) (fs : List (Str × D)) (S' T' : Sto) (H' : Hp), Mv T H T' H' → Cells c.K H' S' T' → Sl c.K H' T' σ' ρ' → XRep c.K H' T' d fs → c.Y C fs ρ' S' → c.E σ' (.ref C) d H') : In c (startF N vs (ws.map some)) H (startFR N ds (cs.map some)) S T := by
  refine ⟨cl, ?_, ?_, ex⟩
  · unfold startF startFR
    refine slots_app (by rw [List.length_map, List.length_map, r.length]) (slots_rep r) ?_
    refine slots_app (by rw [List.length_map, List.length_map, rw'.length]) (slots_rep rw') ?_
    exact slots_none
  · unfold startF startFR
    simp only [List.length_append, List.length_map, List.length_replicate, r.length, rw'.length]
theorem nfn_val {F : NF} {N ps fr : List Str} {k : Nat} {p : List D → Pt} (Sc : NScope N ps fr F.scope) (hb : ∀ (doc pm ctv : Value) (us : List Value), us.length = ps.length → bindArgs (F.fd doc pm ctv) ⟨us, []⟩ = pure (ps.zip us)) (len : ∀ cs ds S G Y, p cs ds S G Y → ds.length = ps.length)
    (body : ∀ (f : Addr) (A : Around), A.guards = some [] → ∀ (outer : List Env) (s : Shared) (H : Hp) (E : XK), Room k (A.deeper (envF F f s.heap.objs.size)) →
      PassS (L2.CX P w) (ncx (L2.CX P w) P w K mg base N F f A outer s H E) (fun _ => E) → Takes (ncx (L2.CX P w) P w K mg base N F f A outer s H E) (fun cls d _ H' => E cls d H') →
      PassesOwn (model P w) (A.deeper (envF F f s.heap.objs.size)) (envF F f s.heap.objs.size) (ncx (L2.CX P w) P w K mg base N F f A outer s H E).xe → ∀ cs ds S G Y, p cs ds S G Y →
      ∃ t, PSs (ncx (L2.CX P w) P w K mg base N F f A outer s H E) F.body t ∧ VX ⟨K, fun _ => E, fun C fs _ S' => Y C fs S'⟩ t (startFR N ds (cs.map some)) S ⟨fun _ S' => G .non S', G, fun _ _ => False, fun _ _ => False⟩) : NOkG P w K mg base (L2.CX P w) (k + 1) F ps fr (spN K p) := by
  refine nokG_of Sc hb (fun ws vs H Q E h => ?_) fun f A hgd outer s H vs ws Q E room _ h => ?_
  · obtain ⟨vw, cs, ds, S, T, G, Y, _, _, r, _, hp, _⟩ := h
    rw [r.length]
    exact len _ _ _ _ _ hp
  · obtain ⟨vw, cs, ds, S, T, G, Y, rfl, rc, r, cl, hp, hv, hx⟩ := h
    have tk : Takes (ncx (L2.CX P w) P w K mg base N F f A outer s H E) (fun cls d _ H' => E cls d H') := takes_of rfl rfl rfl rfl
    obtain ⟨t, h1, h2⟩ := body f A hgd outer s H E room (passS_of tk) tk PassesOwn.leaving cs ds S G Y hp
    refine ⟨t, h1, h2 T _ H (in_startF (c := ⟨K, fun _ => E, fun C fs _ S' => Y C fs S'⟩) cl r rc (fun _ _ C d fs S' T' H' m c2 _ x y => hx C d fs S' T' H' m c2 x y)) _ ⟨fun σ' ρ' S' T' H' m I' q => ?_, fun v d S' T' H' m c2 r2 q => hv v d S' T' H' m c2 r2 q, fun _ _ _ _ _ _ _ q => q.elim, fun _ _ _ _ _ _ _ q => q.elim⟩⟩
    exact hv .non .non S' T' H' m I'.cells .non q
end
/-! ### a def that gets a function -/
/-- its promise tells the function, the names of its cells, and what they hold at the call -/
structure FnC (P : Program) (w : World) (K : PySem.W.Frag) (mg : Str → Option Value) (base : Heap) (CX : CXT) (k : Nat) (f : Addr) (fd : FuncData) (ps : List Str) (sp : NF → List Str → List (Option V) → Sp) : Prop where
  len : ∀ F fr ws vs H Q E, sp F fr ws vs H Q E → vs.length = ps.length
  run : ∀ (F : NF) (fr : List Str) (ws : List (Option V)) (A : Around), A.guards = some [] → ∀ (outer : List Env) (s : Shared) (H : Hp) (args : Args) (us : List Value) (vs : List V) (Q : VK) (E : XK), Room k A →
    Env0 P w K mg base A outer s H → BindsTo s fd args (ps.zip us) → Vals vs us → CellsAt F.cl fr ws s.heap H → (∀ y c, F.cl.lookup y = some c → c ∉ frs outer) → sp F fr ws vs H Q E → codeAny (model P w) A (.call (.ref f) args) (CR CX outer P w H s Q E) s
section
variable {P : Program} {w : World} {K : PySem.W.Frag} {mg : Str → Option Value} {base : Heap} {CX : CXT}
/-- for one heap it is a def as others are -/
theorem fnC_of {x qual : Str} {st : Stmt} {dvs : List V} {f : Addr} {fd : FuncData} {N ps : List Str} {k : Nat} {sp : NF → List Str → List (Option V) → Sp} (Fd0 : Fd K x qual st dvs f fd) (Sc : FnScope N ps (defScope st)) (len : ∀ F fr ws vs H Q E, sp F fr ws vs H Q E → vs.length = ps.length)
    (body : ∀ (F : NF) (fr : List Str) (ws : List (Option V)) (cdv : Value) (A : Around), A.guards = some [] → ∀ (outer : List Env) (s : Shared) (H : Hp) (vs : List V) (Q : VK) (E : XK), Room k (A.deeper (envOfC qual (defScope st) s.heap.objs.size f cdv)) → CellsAt F.cl fr ws s.heap H → (∀ y c, F.cl.lookup y = some c → c ∉ frs outer) → sp F fr ws vs H Q E →
      ∃ t, PSs (cxOf CX P w K mg base N qual (defScope st) f cdv A outer s H E) (defBody st) t ∧ t ⟨fun _ H' => Q .non H', Q, fun _ _ => False, fun _ _ => False⟩ (L2.start N vs) H) : FnC P w K mg base CX (k + 1) f fd ps sp := by
  obtain ⟨oc, od, dV, kV, doc, pm, an, cdv, ct, osl, rfl, lk, hcd, _, _⟩ := Fd0.ex
  refine ⟨len, fun F fr ws A hgd outer s H args us vs Q E room en hb rv hC hnf hsp => ?_⟩
  have heap_in : K.In s.heap := en.mod.kin.keeps fun b o e => (en.bs b o e).1
  have nolim : s.heap.NoLimit := en.mod.nolimit.keeps fun b o e => (en.bs b o e).1
  refine codeAny_call_function room.depth (heap_in _ _ lk) rfl Sc.co Sc.gen rfl (PySem.W.codeRec_of heap_in hcd) (hb _ _ _ _ ?_)
  have kinds : ∀ y ∈ ps.zip us, (defScope st).names.lookup y.1 = some .local ∨ ((defScope st).names.lookup y.1 = some .cell ∧ ((cellsFrom (s.heap.objs.size + 1) (defScope st).names []).lookup y.1).isSome = true) := by
    rintro ⟨n, v⟩ hy
    cases Sc.par n (List.of_mem_zip hy).1 with
    | inl q => exact .inl q
    | inr q => exact .inr ⟨q, PySem.W.cellsFrom_some _ _ _ (.inl q)⟩
  refine wpAny_newFunctionEnv_cells Sc.kind kinds fun env he s1 inc => ?_
  subst he
  obtain ⟨t, ht, hq⟩ := body F fr ws cdv A hgd outer s H vs Q E (room.deeper _) hC hnf hsp
  refine ⟨nolim.keeps inc.toInCall.keep, codeAny_func (wpAny_mono (ht.run [] s1 (L2.start N vs) H _ (inv_start Sc room.hd en (len _ _ _ _ _ _ _ hsp) rv inc) hq) (fun fl s2 hs => ?_) fun _ _ q => q)⟩
  cases fl with
  | next => obtain ⟨σ2, H2, J, q⟩ := hs; exact ⟨.non, H2, J.os, J.bare, J.base, J.hok, rfl, q⟩
  | ret u => obtain ⟨v, σ2, H2, J, r2, q⟩ := hs; exact ⟨v, H2, J.os, J.bare, J.base, J.hok, r2, q⟩
  | brk => obtain ⟨_, _, _, q⟩ := hs; exact q.elim
  | cont => obtain ⟨_, _, _, q⟩ := hs; exact q.elim
/-- by value -/
def spC (K : PySem.W.Frag) (p : NF → List Str → List V → Pt) : NF → List Str → List (Option V) → Sp := fun F fr ws vs H Q E => ∃ vw : List V, ws = vw.map some ∧ spOf K (p F fr vw) vs H Q E
theorem fnC_val {x qual : Str} {st : Stmt} {dvs : List V} {f : Addr} {fd : FuncData} {N ps : List Str} {k : Nat} {p : NF → List Str → List V → Pt} (F0 : Fd K x qual st dvs f fd) (Sc : FnScope N ps (defScope st)) (len : ∀ F fr ws ds S G Y, p F fr ws ds S G Y → ds.length = ps.length)
    (body : ∀ (F : NF) (fr : List Str) (ws : List V) (cdv : Value) (A : Around), A.guards = some [] → ∀ (outer : List Env) (s : Shared) (H : Hp) (E : XK), Room k (A.deeper (envOfC qual (defScope st) s.heap.objs.size f cdv)) →
      PassS (L2.CX P w) (cxOf (L2.CX P w) P w K mg base N qual (defScope st) f cdv A outer s H E) (fun _ => E) → Takes (cxOf (L2.CX P w) P w K mg base N qual (defScope st) f cdv A outer s H E) (fun cls d _ H' => E cls d H') →
      PassesOwn (model P w) (A.deeper (envOfC qual (defScope st) s.heap.objs.size f cdv)) (envOfC qual (defScope st) s.heap.objs.size f cdv) (cxOf (L2.CX P w) P w K mg base N qual (defScope st) f cdv A outer s H E).xe → CellsAt F.cl fr (ws.map some) s.heap H → (∀ y c, F.cl.lookup y = some c → c ∉ frs outer) → ∀ ds S G Y, p F fr ws ds S G Y →
      ∃ t, PSs (cxOf (L2.CX P w) P w K mg base N qual (defScope st) f cdv A outer s H E) (defBody st) t ∧ VX ⟨K, fun _ => E, fun C fs _ S' => Y C fs S'⟩ t (startR N ds) S ⟨fun _ S' => G .non S', G, fun _ _ => False, fun _ _ => False⟩) : FnC P w K mg base (L2.CX P w) (k + 1) f fd ps (spC K p) := by
  refine fnC_of F0 Sc (fun F fr ws vs H Q E h => ?_) fun F fr ws cdv A hgd outer s H vs Q E room hC hnf h => ?_
  · obtain ⟨vw, _, ds, S, T, G, Y, r, _, hp, _⟩ := h
    rw [r.length]
    exact len _ _ _ _ _ _ _ hp
  · obtain ⟨vw, rfl, ds, S, T, G, Y, r, cl, hp, hv, hx⟩ := h
    have tk : Takes (cxOf (L2.CX P w) P w K mg base N qual (defScope st) f cdv A outer s H E) (fun cls d _ H' => E cls d H') := takes_of rfl rfl rfl rfl
    obtain ⟨t, h1, h2⟩ := body F fr vw cdv A hgd outer s H E room (passS_of tk) tk PassesOwn.leaving hC hnf ds S G Y hp
    refine ⟨t, h1, h2 T _ H (in_start (c := ⟨K, fun _ => E, fun C fs _ S' => Y C fs S'⟩) cl r (fun _ _ C d fs S' T' H' m c2 _ x y => hx C d fs S' T' H' m c2 x y)) _ ⟨fun σ' ρ' S' T' H' m I' q => ?_, fun v d S' T' H' m c2 r2 q => hv v d S' T' H' m c2 r2 q, fun _ _ _ _ _ _ _ q => q.elim, fun _ _ _ _ _ _ _ q => q.elim⟩⟩
    exact hv .non .non S' T' H' m I'.cells .non q
end
/-! ### the handed function is called -/
def tCallV (F : NF) (i : Nat) (sp : Sp) (E : L2.St → XK) (t : TA) : TE := fun σ H Q => ∃ f, σ[i]? = some (some (.ref f)) ∧ H f = some (FnO f F) ∧
  t σ H fun vs H1 => H1 f = some (FnO f F) ∧ H1 F.c = some (CodeO F.c F.qual) ∧ sp vs H1 Q (E σ)
section
variable {X : Cx} {F : NF} {ps fr : List Str} {ws : List (Option V)} {i j k : Nat} {x : Str} {sp : List (Option V) → Sp} {E : L2.St → XK} {t : TA} {e : Expr} {es : List Expr} {p pos : Pos}
theorem pe_callV (Fn : NOkG X.prog X.w X.K X.mg X.base (L2.CX X.prog X.w) k F ps fr sp) (hgd : X.A.guards = some []) (hr : Room j X.A) (hk : k ≤ j) (hx : PassS (L2.CX X.prog X.w) X E) (C : CellsAt F.cl fr ws X.s_0.heap X.H_0) (nf : ∀ y c, F.cl.lookup y = some c → c ∉ X.fs) (hex : X.ex = [])
    (hN : X.N[i]? = some x) (hv : Vis X.env.scope x) (ha : PA X (e :: es) t)
    (hd : (x == ("__debug__" : Str)) = false := by decide) (hcd : (x == ("__classdict__" : Str)) = false := by decide)
    (he : starEach (e :: es) X.env = (false, eval e X.env) :: starEach es X.env := by rfl) (hpl : (backTo pos (starEach es X.env)).any (·.1) = false := by rfl) :
    PE X (.Call (.Name x p) (e :: es) [] pos) (tCallV F i (sp ws) E t) := by
  refine ⟨fun pins s σ H Q I h => ?_⟩
  obtain ⟨f, hs, hf, ht⟩ := h
  have nx : ∀ y c, F.cl.lookup y = some c → c ∉ X.ex := fun y c _ => by rw [hex]; exact List.not_mem_nil
  refine wpAny_Call_Name_kw (thn ((pe_var (pos := p) hN hv hd hcd).run pins s σ H (fun v H1 => v = .ref f ∧ H1 = H) I ⟨.ref f, hs, rfl, rfl⟩) fun u s1 ⟨v, H1, I1, r1, q1⟩ => ?_)
  obtain ⟨ev, eH⟩ := q1
  subst ev
  rw [eH] at I1
  obtain rfl : u = Value.ref f := r1
  refine PySem.W.callWith_F (first := []) (fnAt_of I1 hf) (thn (ha.run pos pins s1 σ H _ I1 ht) fun us s2 ⟨vs, H2, I2, r, h1, h2, q⟩ => ⟨fnAt_of I2 h1, ?_⟩) he hpl
  show wpAny _ _ (call (.ref f) us) _ _ _
  refine wpAny_call (codeAny_mono (Fn.run f X.A hgd X.stack s2 H2 us vs _ Q (E σ) (hr.mono hk) I2.env0 h1 h2 (C.later nf nx I2) r q) fun r s' hq => ?_)
  have z := call_end hx I2 hq
  cases r with
  | error e => exact z
  | ok fl => cases fl <;> exact z
end
section
variable {c : Ctx} {ρ : Rho} {S : Sto} {G : D → Sto → Prop}
theorem ve_callV {F : NF} {i : Nat} {ws : List V} {cs : List D} {p : List D → Pt} {E : L2.St → XK} {Y} {t : TA} (hi : ρ[i]? = some (some (.fn F ws cs))) (x : XOk c ρ E Y)
    (h : VA c t ρ S fun ds S1 => p cs ds S1 G Y) : VE c (tCallV F i (spN c.K p (ws.map some)) E t) ρ S G := fun T σ H I Q k => by
  obtain ⟨v, hs, r⟩ := I.slots i _ hi
  cases r with
  | @fn f _ _ _ s hf s2 h2 r =>
    refine ⟨f, hs, hf, h T σ H I _ fun vs ds S1 T1 H1 m1 c1 r1 hp => ⟨m1.keep _ _ s hf, m1.keep _ _ s2 h2, ws, cs, ds, S1, T1, G, Y, rfl, r.mv m1, r1, c1, hp, fun v d S3 T3 H3 m3 c3 r3 q => k v d S3 T3 H3 (m1.trans m3) c3 r3 q, x.ok (I.mv m1 c1)⟩⟩
end
end VS
namespace VS
open PySem L2 C8 PySem.Spec PyProof.Rows LamX NdefX
/-! ### a def's call that hands a function over -/
def tCallC (js : List Nat) (fr : List Str) (mk : Addr → NF) (sp : NF → List Str → List (Option V) → Sp) (E : L2.St → XK) (t : TA) : TE := fun σ H Q => t σ H fun vs H1 => ∃ c', sp (mk c') fr (js.map (slotAt σ)) vs H1 Q (E σ)
section
variable {X : Cx} {mk : Addr → NF} {cl : List (Str × Addr)} {k : Nat} {f : Addr} {fd : FuncData} {ps fr : List Str} {js : List Nat} {sp : NF → List Str → List (Option V) → Sp} {E : L2.St → XK} {x : Str} {p pos : Pos} {e : Expr} {es : List Expr} {t : TA}
theorem pe_cC (F : FnC X.prog X.w X.K X.mg X.base (L2.CX X.prog X.w) k f fd ps sp) (hcl : ∀ c', (mk c').cl = cl) (cp : X.Ok → Caps X cl fr js) (hfn : ∀ y, X.fn y = true) (hgd : X.A.guards = some []) (hr : Room k X.A) (hg : Gl X x) (hm : X.mg x = some (.ref f)) (hk : PySem.W.keepIn X.K (.ref f) = true) (hb : Binds X.K fd ps []) (hx : PassS (L2.CX X.prog X.w) X E)
    (ha : PA X (e :: es) t) (hdb : (x == ("__debug__" : Str)) = false := by decide) (he : starEach (e :: es) X.env = (false, eval e X.env) :: starEach es X.env := by rfl) (hpl : (backTo pos (starEach es X.env)).any (·.1) = false := by rfl) :
    PE X (.Call (.Name x p) (e :: es) [] pos) (tCallC js fr mk sp E t) where
  run := fun pins s σ H Q I h => wpAny_Call_Name_kw (ld_glob I hg hm (PySem.W.callWith_K (h₀ := X.base) I.ok.mod.kin hk (thn (ha.run pos pins s σ H _ I h) fun us s1 ⟨vs, H1, I1, r, c', q⟩ =>
    ⟨I1.kIn, by
      have C : CellsAt (mk c').cl fr (js.map (slotAt σ)) s1.heap H1 := by rw [hcl c']; exact cells_of I1 (cp I1.ok)
      have hl := F.len _ _ _ _ _ _ _ q
      have nf : ∀ y c, (mk c').cl.lookup y = some c → c ∉ frs X.stack := fun y c e hb => by
        rw [hcl c'] at e
        have e2 := (cp I1.ok).sub y c e
        have ge := I1.ok.cab y c (hfn y) e2
        have nfs : c ∉ X.fs := fun hb => by
          obtain ⟨_, o, ho, _⟩ := I1.ok.funs.mem hb
          exact absurd (Nat.lt_of_lt_of_le (Heap.lt_size ho) ge) (Nat.lt_irrefl _)
        rcases I1.ok.stk with z | ⟨z, zf⟩
        · rw [z] at hb; exact nfs hb
        · rw [z] at hb
          unfold frs at hb
          rw [List.filterMap_cons, zf] at hb
          rcases List.mem_cons.mp hb with hb | hb
          · exact I1.cne y c e2 hb
          · exact nfs hb
      refine wpAny_call (codeAny_mono (F.run (mk c') fr _ X.A hgd X.stack s1 H1 ⟨us, []⟩ us vs Q (E σ) hr I1.env0 (by
        have := hb s1 us I1.kIn (by rw [List.append_nil, ← r.length]; exact hl)
        simpa using this) r C nf q) fun rr s' hq => ?_)
      have z := call_end hx I1 hq
      cases rr with
      | error e => exact z
      | ok fl => cases fl <;> exact z⟩) he hpl) hdb)
end
section
variable {c : Ctx} {ρ : Rho} {S : Sto} {G : D → Sto → Prop}
theorem slotAt_all {σ : L2.St} {H : Hp} {T : Sto} (I : In c σ H ρ S T) : ∀ {js : List Nat} {cs : List D}, js.map (fun j => ρ[j]?) = cs.map (fun d => some (some d)) → ∃ vw : List V, js.map (slotAt σ) = vw.map some ∧ RepL c.K H T vw cs
  | [], [], _ => ⟨[], rfl, .nil⟩
  | j :: js, d :: cs, e => by
    rw [List.map_cons, List.map_cons, List.cons.injEq] at e
    obtain ⟨vw, h1, h2⟩ := slotAt_all I e.2
    obtain ⟨v, hv, r⟩ := I.slots j d e.1
    exact ⟨v :: vw, by rw [List.map_cons, List.map_cons, h1, slotAt_of hv], .cons r h2⟩
  | [], _ :: _, e => by cases e
  | _ :: _, [], e => by cases e
/-- the function, as it is handed over, tells what its cells hold -/
theorem ve_cC {p : NF → List Str → List V → Pt} {js : List Nat} {fr : List Str} {mk : Addr → NF} {cs : List D} {E : L2.St → XK} {Y} {t : TA} (hjs : js.map (fun j => ρ[j]?) = cs.map (fun d => some (some d))) (x : XOk c ρ E Y)
    (h : VA c t ρ S fun ds S1 => ∃ d1 c', ds = [d1, .fn (mk c') [] []] ∧ ∀ ws, p (mk c') fr ws [d1, .fn (mk c') ws cs] S1 G Y) : VE c (tCallC js fr mk (spC c.K p) E t) ρ S G := fun T σ H I Q k =>
  h T σ H I _ fun vs ds S1 T1 H1 m1 c1 r1 ⟨d1, c', e, hp⟩ => by
    subst e
    obtain ⟨vw, e1, r2⟩ := slotAt_all (I.mv m1 c1) hjs
    cases r1 with
    | cons h1 r1 => cases r1 with
      | cons h2 r1 =>
        cases r1
        cases h2 with
        | fn s hf s2 hc _ =>
          exact ⟨c', vw, e1, [d1, .fn (mk c') vw cs], S1, T1, G, Y, .cons h1 (.cons (.fn s hf s2 hc r2) .nil), c1, hp vw, fun v d S3 T3 H3 m3 c3 r3 q => k v d S3 T3 H3 (m1.trans m3) c3 r3 q, x.ok (I.mv m1 c1)⟩
end
/-! ### the statement -/
/-- what stands behind a def statement: f the function, c' its code, ps' the table at P then -/
structure MadeF (H : Hp) (P : Addr) (q : Str) (ps : Array Value) (F : NF) (f : Addr) (H1 : Hp) (ps' : Array Value) : Prop where
  keep : ∀ a o, a ≠ P → H a = some o → H1 a = some o
  new : H f = none
  at_ : H1 f = some (FnO f F)
  code : H1 F.c = some (CodeO F.c q)
  codeN : H F.c = none ∨ ∃ p, codeAmong p ps.toList = some (.ref F.c)
  tab : H1 P = some (.tbl ps')
  ok : TriplesOk ps'.toList
  all : ∀ (pos : Pos) (cv : Value), codeAmong pos ps'.toList = some cv → ∃ c, cv = .ref c ∧ H1 c = some (CodeO c q) ∧ (H c = none ∨ ∃ p, codeAmong p ps.toList = some (.ref c))
section
variable {X : Cx} {pins : List (Addr × Obj)} {σ : L2.St} {H : Hp} {s : Shared}
theorem ndef_make3 {c P : Addr} {q name : Str} {params : Arguments} {body : List Stmt} {scope : Scope} {pos : Pos} {ps : Array Value} {E : Value → Shared → Prop} {Q : Value → Shared → Prop} (I : Inv X pins σ H s) (TB : TabB X.base X.mg c P) (hcode : X.env.code = .ref c)
    (hP : H P = some (.tbl ps)) (ht : TriplesOk ps.toList) (ha : ∀ (pos : Pos) (cv : Value), codeAmong pos ps.toList = some cv → ∃ c, cv = .ref c ∧ H c = some (CodeO c q)) (hq : X.env.qual ++ name = q)
    (hfree : ∀ y ∈ scope.names, y.2 = .free → ∃ c, X.env.cells.lookup y.1 = some c)
    (h : ∀ (f c' : Addr) (H1 : Hp) (ps' : Array Value) (s' : Shared), Inv X pins σ H1 s' → MadeF H P q ps ⟨name, q, params, body, scope, cloFrom X.env.cells scope.names [], c'⟩ f H1 ps' → Q (.ref f) s') :
    wpAny (model X.prog X.w) X.A (makeFunction name (X.env.qual ++ name) params (.stmts body) scope X.env [] [] [] pos pos.line) Q E s := by
  subst hq
  have bP : s.heap.BuiltinsAt X.mg P := TB.bm.keeps I.bk
  have hP' : s.heap.get? P = some { cls := .none, data := .fields ps } := I.hok P _ hP
  cases hc : codeAmong pos ps.toList with
  | none =>
    refine PySem.W.makeFunction_K (mg := X.mg) (c := c) (P := P) (ps := ps) (closure_ok hfree) I.ok.glob (I.mod.glob.keeps I.bk) hcode (TB.code.keeps I.bk) hP' ht hc TB.gP bP fun c' ctv doc h' tk hx hge hlt hrec htb => ?_
    obtain ⟨c2, oc, vs, t, e2, hoc, hd, hv⟩ := hrec
    cases e2
    have nC : H c' = none := I.hok.fresh hge
    have I1 := inv_table (t' := tk) (more := #[rawInt pos.line, rawInt pos.col, .ref c']) (h' := h') I hP (fun b o hb e => hx b o hb e) htb hge ⟨oc, vs, t, hoc, hd, hv⟩
    have nF := I1.hok.fresh (Nat.le_refl _)
    have I2 := inv_fn (F := ⟨name, X.env.qual ++ name, params, body, scope, cloFrom X.env.cells scope.names [], c'⟩) (t' := tk) (doc := doc) (pm := (X.mg "__name__").getD .none) (ctv := ctv) I1 rfl
    have eL : (ps ++ #[rawInt pos.line, rawInt pos.col, .ref c']).toList = ps.toList ++ [rawInt pos.line, rawInt pos.col, .ref c'] := by simp
    have k1 : ∀ a o, a ≠ P → H a = some o → upd (upd H P (.tbl (ps ++ #[rawInt pos.line, rawInt pos.col, .ref c']))) c' (CodeO c' (X.env.qual ++ name)) a = some o := fun a o n e => by
      rw [upd_ne (ne_of_none e nC), upd_ne n]
      exact e
    have nP : h'.objs.size ≠ P := fun z => by
      have := Heap.lt_size htb
      rw [← z] at this
      exact Nat.lt_irrefl _ this
    have nc : h'.objs.size ≠ c' := Nat.ne_of_gt hlt
    have nPc : P ≠ c' := ne_of_none hP nC
    refine h h'.objs.size c' _ (ps ++ #[rawInt pos.line, rawInt pos.col, .ref c']) _ I2 ⟨fun a o n e => (upd_ne (ne_of_none (k1 a o n e) nF)).trans (k1 a o n e), upd_none (upd_none nF), upd_same, (upd_ne (Ne.symm nc)).trans upd_same, .inl nC, ?_, ?_, fun p' cv hcv => ?_⟩
    · rw [upd_ne (Ne.symm nP), upd_ne nPc, upd_same]
    · rw [eL]
      exact PySem.TriplesOk_snoc _ _ _ _ ht
    · rw [eL] at hcv
      rcases among_app _ ht hcv with z | z
      · obtain ⟨c0, e1, e2⟩ := ha p' cv z
        have n0 : c0 ≠ P := fun y => by
          rw [y, hP] at e2
          exact codeO_ne ps (Option.some.inj e2).symm
        refine ⟨c0, e1, (upd_ne (ne_of_none (k1 _ _ n0 e2) nF)).trans (k1 _ _ n0 e2), .inr ⟨p', ?_⟩⟩
        rw [← e1]
        exact z
      · exact ⟨c', z, (upd_ne (Ne.symm nc)).trans upd_same, .inl nC⟩
  | some cv =>
    obtain ⟨c', e, hco⟩ := ha pos cv hc
    subst e
    refine PySem.W.makeFunction_hit (mg := X.mg) (c := c) (P := P) (ps := ps) (closure_ok hfree) I.ok.glob (I.mod.glob.keeps I.bk) hcode (TB.code.keeps I.bk) hP' ht hc bP fun ctv doc h' tk hx hsz => ?_
    have I1 : Inv X pins σ H { s with heap := h', toks := tk } := I.kept hx
    have nF : H h'.objs.size = none := I1.hok.fresh (Nat.le_refl _)
    have I2 := inv_fn (F := ⟨name, X.env.qual ++ name, params, body, scope, cloFrom X.env.cells scope.names [], c'⟩) (t' := tk) (doc := doc) (pm := (X.mg "__name__").getD .none) (ctv := ctv) I1 rfl
    refine h h'.objs.size c' _ ps _ I2 ⟨fun a o _ e => (upd_ne (ne_of_none e nF)).trans e, nF, upd_same, (upd_ne (ne_of_none hco nF)).trans hco, .inr ⟨pos, hc⟩, (upd_ne (ne_of_none hP nF)).trans hP, ht, fun p' cv hcv => ?_⟩
    obtain ⟨c0, e1, e2⟩ := ha p' cv hcv
    refine ⟨c0, e1, (upd_ne (ne_of_none e2 nF)).trans e2, .inr ⟨p', ?_⟩⟩
    rw [← e1]
    exact hcv
end
def tDef (P : Addr) (q : Str) (i : Nat) (mk : Addr → NF) : TS := fun D σ H => ∃ ps : Array Value, H P = some (.tbl ps) ∧ TriplesOk ps.toList ∧ (∀ (pos : Pos) (cv : Value), codeAmong pos ps.toList = some cv → ∃ c, cv = .ref c ∧ H c = some (CodeO c q)) ∧
  ∀ (f c' : Addr) (H1 : Hp) (ps' : Array Value), MadeF H P q ps (mk c') f H1 ps' → D.nx (σ.set i (some (.ref f))) H1
theorem ps_def {X : Cx} {st : Stmt} {c P : Addr} {q name : Str} {pos : Pos} {i : Nat} (hst : st = .FunctionDef name (C8.fnArgs st) (C8.fnBody st) [] none [] (C8.fnScope st) none name pos) (TB : TabB X.base X.mg c P) (hcode : X.env.code = .ref c) (hq' : X.env.qual ++ name = q)
    (hfree : ∀ y ∈ (C8.fnScope st).names, y.2 = .free → X.env.scope.names.lookup y.1 = some .cell ∨ X.env.scope.names.lookup y.1 = some .free) (hd0 : (C8.fnArgs st).defaults = []) (hk0 : (C8.fnArgs st).kw_defaults = []) (ha : annTrees (C8.fnArgs st) none X.env = [])
    (hN : X.N.Nodup) (hi : X.N[i]? = some name) (hx : Loc X.env.scope name) (hf : X.fn name = true ∨ X.env.scope.names.lookup name = some .local) :
    PS X st (tDef P q i (NF.of st name q (cloFrom X.env.cells (C8.fnScope st).names []))) := by
  have key : PS X (.FunctionDef name (C8.fnArgs st) (C8.fnBody st) [] none [] (C8.fnScope st) none name pos) (tDef P q i (NF.of st name q (cloFrom X.env.cells (C8.fnScope st).names []))) := by
    refine ⟨fun pins s σ H D I h => ?_⟩
    obtain ⟨ps, hP, ht, hall, h⟩ := h
    have hq : qualnameIn X.env name name = X.env.qual ++ name := by
      have hk : X.env.kindOf name = some .local ∨ X.env.kindOf name = some .cell := hx
      unfold qualnameIn
      rcases hk with k | k <;> rw [k] <;> first | rfl | exact if_neg (by decide)
    refine PySem.W.nestDef_K hd0 hk0 ha ?_
    rw [hq]
    have hfr : ∀ y ∈ (C8.fnScope st).names, y.2 = .free → ∃ c, X.env.cells.lookup y.1 = some c := fun y hy e => (hfree y hy e).elim (fun z => I.ok.has _ (.inl z)) fun z => I.ok.has _ (.inr z)
    refine ndef_make3 I TB hcode hP ht hall hq' hfr fun f c' H1 ps' s' I1 M => ?_
    exact store_ok I1 hN hi hx (v := .ref f) rfl (fun s'' J => ⟨_, H1, J, h f c' H1 ps' M⟩) hf
  rw [← hst] at key
  exact key
section
variable {c : Ctx} {ρ : Rho} {S : Sto}
theorem vx_def {P : Addr} {q : Str} {i : Nat} {mk : Addr → NF} {nx bk ct : Rho → Sto → Prop} {rt : D → Sto → Prop} (hmk : ∀ c', (mk c').c = c' ∧ (mk c').qual = q) (hP : S P = some (.str q))
    (h : ∀ c', nx (ρ.set i (some (.fn (mk c') [] []))) S) : VX c (tDef P q i mk) ρ S ⟨nx, rt, bk, ct⟩ := fun T1 σ H1 I D b => by
  have c1 := I.cells
  have tP := c1.at hP
  obtain ⟨ps, hp, ht, ha⟩ := c1.ok P _ tP
  refine ⟨ps, hp, ht, fun pos cv hc => let ⟨c0, e1, _, e2⟩ := ha pos cv hc; ⟨c0, e1, e2⟩, fun f c' H2 ps' M => ?_⟩
  have nP : ∀ a, T1 a = none → a ≠ P := fun a z y => by rw [y, tP] at z; cases z
  have m2 : Mv T1 H1 T1 H2 := ⟨⟨fun a o z e => M.keep a o (nP a z) e, fun _ z _ => z⟩, fun a o z e => ⟨M.keep a o (fun y => by rw [y, tP] at z; cases z) e, z⟩⟩
  have inT : ∀ c0 : Addr, (H1 c0 = none ∨ ∃ p, codeAmong p ps.toList = some (.ref c0)) → T1 c0 = none := fun c0 z => z.elim (fun n => c1.free n) fun ⟨p, hp'⟩ => by
    obtain ⟨c9, e9, n9, _⟩ := ha p _ hp'
    cases e9
    exact n9
  have c2 : Cells c.K H2 S T1 := ⟨c1.ov, fun a d e => by
    by_cases z : a = P
    · subst z
      rw [tP] at e
      cases e
      exact ⟨ps', M.tab, M.ok, fun pos cv hc => let ⟨c0, e1, e2, e3⟩ := M.all pos cv hc; ⟨c0, e1, inT c0 e3, e2⟩⟩
    · have w := c1.ok a d e
      refine CellOk.mv m2 ?_ w
      cases ho : H1 a with
      | none => exact absurd ho w.there
      | some o => exact M.keep a o z ho⟩
  have q2 := (hmk c').2
  have hcd : H2 (mk c').c = some (CodeO (mk c').c (mk c').qual) := by rw [q2]; exact M.code
  exact b.nx _ _ S T1 H2 m2 ((I.mv m2 c2).set i (.fn (c1.free M.new) M.at_ (inT _ M.codeN) hcd .nil)) (h c')
end
end VS
namespace VS
open PySem L2 C8 PySem.Spec PyProof.Rows
/-! ### a set's table laid anew: there is always room -/
namespace SetL
def G : Nat → Nat → Nat
  | 0, x => x
  | c + 1, x => 5 * G c x + 1
theorem G_add (a b x : Nat) : G (a + b) x = G a (G b x) := by
  induction a with
  | zero => rw [Nat.zero_add]; rfl
  | succ a ih => rw [Nat.succ_add]; show 5 * G (a + b) x + 1 = 5 * G a (G b x) + 1; rw [ih]
theorem G_eq : ∀ n : Nat, ∃ s, 4 * s + 1 = 5 ^ n ∧ ∀ x, G n x = 5 ^ n * x + s
  | 0 => ⟨0, rfl, fun x => by show x = 1 * x + 0; omega⟩
  | n + 1 => by
    obtain ⟨s, e, h⟩ := G_eq n
    refine ⟨5 * s + 1, by rw [Nat.pow_succ]; omega, fun x => ?_⟩
    show 5 * G n x + 1 = _
    rw [h x, Nat.pow_succ, Nat.mul_comm (5 ^ n) 5, Nat.mul_assoc]
    omega
theorem pow5 : ∀ k : Nat, ∃ q, 5 ^ (2 ^ k) = 1 + 2 ^ k * 4 * (2 * q + 1)
  | 0 => ⟨0, rfl⟩
  | k + 1 => by
    obtain ⟨q, e⟩ := pow5 k
    refine ⟨q + 2 ^ k * (2 * q + 1) * (2 * q + 1), ?_⟩
    rw [Nat.pow_succ 2 k, Nat.pow_mul, e]
    generalize 2 ^ k = M
    grind
theorem G_pow (k x : Nat) : G (2 ^ k) x % (2 ^ k * 2) = (x + 2 ^ k) % (2 ^ k * 2) := by
  obtain ⟨q, e⟩ := pow5 k
  obtain ⟨s, e2, h⟩ := G_eq (2 ^ k)
  rw [h x]
  rw [e] at e2 ⊢
  generalize 2 ^ k = M at *
  have hs : s = M * (2 * q + 1) := by
    have : 4 * s = 4 * (M * (2 * q + 1)) := by grind
    omega
  rw [hs]
  have : (1 + M * 4 * (2 * q + 1)) * x + M * (2 * q + 1) = (x + M) + (M * 2) * (2 * (2 * q + 1) * x + q) := by grind
  rw [this, Nat.add_mul_mod_self_left]
theorem G_onto : ∀ (k x y : Nat), ∃ c, c < 2 ^ k ∧ G c x % 2 ^ k = y % 2 ^ k
  | 0, x, y => ⟨0, by decide, by rw [Nat.pow_zero, Nat.mod_one, Nat.mod_one]⟩
  | k + 1, x, y => by
    obtain ⟨c, hc, e⟩ := G_onto k x y
    have p : 2 ^ (k + 1) = 2 ^ k * 2 := Nat.pow_succ ..
    have pos : 0 < 2 ^ k := Nat.pos_of_ne_zero (by simp)
    by_cases z : G c x / 2 ^ k % 2 = y / 2 ^ k % 2
    · refine ⟨c, by omega, ?_⟩
      rw [p, Nat.mod_mul, Nat.mod_mul, e, z]
    · refine ⟨2 ^ k + c, by omega, ?_⟩
      rw [p, G_add, G_pow, Nat.mod_mul, Nat.mod_mul, Nat.add_mod_right, Nat.add_div_right _ pos, e]
      have : (G c x / 2 ^ k).succ % 2 = y / 2 ^ k % 2 := by omega
      rw [this]
/-- the search's leaps -/
def it (mask : Nat) : Nat → Nat × Nat → Nat × Nat
  | 0, x => x
  | c + 1, x => it mask c (SetTable.leap mask x.1 x.2)
theorem it_add (mask : Nat) : ∀ (a b : Nat) (x : Nat × Nat), it mask (a + b) x = it mask b (it mask a x)
  | 0, b, x => by rw [Nat.zero_add]; rfl
  | a + 1, b, x => by rw [Nat.succ_add]; exact it_add mask a b _
theorem it_snd (mask : Nat) : ∀ (c i p : Nat), (it mask c (i, p)).2 = p / 32 ^ c
  | 0, i, p => by show p = p / 1; rw [Nat.div_one]
  | c + 1, i, p => by
    show (it mask c ((i * 5 + 1 + p / 32) % (mask + 1), p / 32)).2 = _
    rw [it_snd mask c _ (p / 32), Nat.div_div_eq_div_mul, Nat.pow_succ, Nat.mul_comm]
theorem it_lt (mask : Nat) : ∀ (c : Nat) (x : Nat × Nat), x.1 < mask + 1 → (it mask c x).1 < mask + 1
  | 0, x, h => h
  | c + 1, x, _ => it_lt mask c _ (Nat.mod_lt _ (Nat.succ_pos _))
theorem it_zero (mask : Nat) : ∀ (c i y : Nat), i = y % (mask + 1) → it mask c (i, 0) = (G c y % (mask + 1), 0)
  | 0, i, y, e => by rw [e]; rfl
  | c + 1, i, y, e => by
    show it mask c ((i * 5 + 1 + 0 / 32) % (mask + 1), 0 / 32) = _
    rw [Nat.zero_div, Nat.add_zero]
    rw [it_zero mask c ((i * 5 + 1) % (mask + 1)) (5 * y + 1) (by
      rw [e, Nat.add_mod, Nat.mul_mod, Nat.mod_mod, ← Nat.mul_mod, ← Nat.add_mod, Nat.mul_comm])]
    have q : G (c + 1) y = G c (5 * y + 1) := G_add c 1 y
    rw [q]
theorem it_onto {mask k : Nat} (hm : mask + 1 = 2 ^ k) {i p y : Nat} (hi : i < mask + 1) (hp : p < 2 ^ 64) (hy : y < mask + 1) : ∃ c, c < SetTable.turns mask ∧ (it mask c (i, p)).1 = y := by
  have z : (it mask 13 (i, p)).2 = 0 := by
    rw [it_snd]
    exact Nat.div_eq_of_lt (Nat.lt_of_lt_of_le hp (by decide))
  have l := it_lt mask 13 (i, p) hi
  obtain ⟨c, hc, e⟩ := G_onto k (it mask 13 (i, p)).1 y
  refine ⟨13 + c, by unfold SetTable.turns; omega, ?_⟩
  rw [it_add]
  generalize it mask 13 (i, p) = X at *
  obtain ⟨a, b⟩ := X
  subst z
  rw [it_zero mask c a a (Nat.mod_eq_of_lt l).symm]
  show G c a % (mask + 1) = y
  rw [hm, e, ← hm, Nat.mod_eq_of_lt hy]
theorem free_ok {mask : Nat} {owner : Array (Option Nat)} : ∀ (f i p : Nat), i < mask + 1 → (∃ c, c < f ∧ owner[(it mask c (i, p)).1]? = some none) →
    ∃ j, SetTable.layClean.free mask owner f i p = some j ∧ owner[j]? = some none
  | 0, _, _, _, ⟨_, h, _⟩ => absurd h (Nat.not_lt_zero _)
  | f + 1, i, p, hi, ⟨c, hc, ho⟩ => by
    unfold SetTable.layClean.free
    cases hq : (List.range (SetTable.runEnd mask i + 1 - i)).find? fun k => (owner.getD (i + k) (some 0)).isNone with
    | some k =>
      refine ⟨i + k, rfl, ?_⟩
      have q := List.find?_some hq
      simp only [Array.getD_eq_getD_getElem?, Option.isNone_iff_eq_none] at q
      cases z : owner[i + k]? with
      | none => rw [z] at q; cases q
      | some v => rw [z] at q; simp only [Option.getD_some] at q; rw [q]
    | none =>
      dsimp only
      cases c with
      | zero =>
        have r := List.find?_eq_none.mp hq 0 (List.mem_range.mpr (by unfold SetTable.runEnd; split <;> omega))
        have ho' : owner[i]? = some none := ho
        simp only [Nat.add_zero, Array.getD_eq_getD_getElem?, ho', Option.getD_some, Option.isNone_none, not_true_eq_false] at r
      | succ c => exact free_ok f _ _ (Nat.mod_lt _ (Nat.succ_pos _)) ⟨c, by omega, ho⟩
def stp (mask : Nat) (acc : Option (Array (Option Nat) × Nat)) (h : Int) : Option (Array (Option Nat) × Nat) := do
  let (owner, k) ← acc
  let j ← SetTable.layClean.free mask owner (SetTable.turns mask) (SetTable.bits h % (mask + 1)) (SetTable.bits h)
  pure (owner.setIfInBounds j (some k), k + 1)
theorem fm_some {y : Nat} {l : List (Option Nat)} : List.filterMap id (some y :: l) = y :: List.filterMap id l := List.filterMap_cons_some (f := id) rfl
theorem fm_none {l : List (Option Nat)} : List.filterMap id (none :: l) = List.filterMap id l := List.filterMap_cons_none (f := id) rfl
theorem some_perm : ∀ (l : List (Option Nat)) (j k : Nat), l[j]? = some none → ((l.set j (some k)).filterMap id).Perm (k :: l.filterMap id)
  | [], j, k, h => by simp at h
  | x :: l, 0, k, h => by
    have : x = none := by simpa using h
    subst this
    rw [List.set_cons_zero, fm_some, fm_none]
  | x :: l, j + 1, k, h => by
    have ih := some_perm l j k (by simpa using h)
    rw [List.set_cons_succ]
    cases x with
    | none => rw [fm_none, fm_none]; exact ih
    | some y => rw [fm_some, fm_some]; exact (ih.cons y).trans (List.Perm.swap ..)
theorem has_none : ∀ (l : List (Option Nat)), (l.filterMap id).length < l.length → ∃ j, j < l.length ∧ l[j]? = some none
  | [], h => absurd h (Nat.not_lt_zero _)
  | none :: l, _ => ⟨0, Nat.succ_pos _, rfl⟩
  | some y :: l, h => by
    rw [fm_some] at h
    obtain ⟨j, hj, e⟩ := has_none l (by simpa using h)
    exact ⟨j + 1, Nat.succ_lt_succ hj, by simpa using e⟩
theorem bits_lt (h : Int) : SetTable.bits h < 2 ^ 64 := by
  unfold SetTable.bits
  have a := Int.emod_nonneg h (b := 2 ^ 64) (by decide)
  have b := Int.emod_lt_of_pos h (b := 2 ^ 64) (by decide)
  omega
theorem fold_ok {mask k : Nat} (hm : mask + 1 = 2 ^ k) : ∀ (hs : List Int) (owner : Array (Option Nat)) (n : Nat), owner.size = mask + 1 → (owner.toList.filterMap id).Perm (List.range n) → n + hs.length ≤ mask →
    ∃ o', hs.foldl (stp mask) (some (owner, n)) = some (o', n + hs.length) ∧ o'.size = mask + 1 ∧ (o'.toList.filterMap id).Perm (List.range (n + hs.length))
  | [], owner, n, hz, hp, _ => ⟨owner, rfl, hz, hp⟩
  | h :: hs, owner, n, hz, hp, hl => by
    rw [List.length_cons] at hl
    obtain ⟨y, hy, e⟩ := has_none owner.toList (by rw [hp.length_eq, List.length_range, Array.length_toList]; omega)
    rw [Array.length_toList] at hy
    rw [Array.getElem?_toList] at e
    have hi : SetTable.bits h % (mask + 1) < mask + 1 := Nat.mod_lt _ (Nat.succ_pos _)
    obtain ⟨c, hc, q⟩ := it_onto hm hi (bits_lt h) (by rw [← hz]; exact hy)
    obtain ⟨j, e1, e2⟩ := free_ok (owner := owner) _ _ _ hi ⟨c, hc, by rw [q]; exact e⟩
    have st : stp mask (some (owner, n)) h = some (owner.setIfInBounds j (some n), n + 1) := by
      show (SetTable.layClean.free mask owner (SetTable.turns mask) (SetTable.bits h % (mask + 1)) (SetTable.bits h) >>= fun j => pure (owner.setIfInBounds j (some n), n + 1)) = _
      rw [e1] <;> rfl
    rw [List.foldl_cons, st]
    obtain ⟨o', f1, f2, f3⟩ := fold_ok hm hs (owner.setIfInBounds j (some n)) (n + 1) (by rw [Array.size_setIfInBounds]; exact hz) (by
      rw [Array.toList_setIfInBounds]
      refine (some_perm _ _ _ (by rw [Array.getElem?_toList]; exact e2)).trans ((hp.cons n).trans ?_)
      rw [List.range_succ]
      exact (List.perm_append_singleton _ _).symm) (by omega)
    have a : n + 1 + hs.length = n + (hs.length + 1) := by omega
    rw [a] at f1 f3
    exact ⟨o', f1, f2, f3⟩
theorem live_snd (a : Array (Option Nat)) (n : Nat) (hn : a.size = n) : ((List.range n).filterMap fun j => (a.getD j none).map (j, ·)).map (·.2) = a.toList.filterMap id := by
  rw [List.map_filterMap]
  have e : a.toList = (List.range n).map fun j => a.getD j none := by
    refine List.ext_getElem? fun i => ?_
    rw [Array.getElem?_toList, List.getElem?_map]
    by_cases h : i < n
    · rw [List.getElem?_range h]
      simp only [Option.map_some, Array.getD_eq_getD_getElem?]
      rw [Array.getElem?_eq_getElem (by omega)] <;> rfl
    · rw [Array.getElem?_eq_none (by omega), List.getElem?_eq_none (by rw [List.length_range]; omega)] <;> rfl
  rw [e, List.filterMap_map]
  congr 1
  funext j
  simp only [Function.comp, id, Option.map_map]
  cases a.getD j none <;> rfl
theorem laid_ok {mask k : Nat} (hm : mask + 1 = 2 ^ k) (finger moves : Nat) (led plain : Bool) (hs : Array Int) (hl : hs.size ≤ mask) :
    ∃ t order, SetTable.laid mask finger moves led plain hs = some (t, order) ∧ order.toList.Perm (List.range hs.size) ∧ t.place.size = hs.size ∧ t.dummies = #[] ∧ t.mask = mask ∧ t.led = led ∧ Ris t.place.toList := by
  obtain ⟨o', f1, f2, f3⟩ := fold_ok hm hs.toList (Array.replicate (mask + 1) none) 0 (by simp) (by
    have : (Array.replicate (mask + 1) (none : Option Nat)).toList.filterMap id = [] := by
      rw [Array.toList_replicate]
      exact List.filterMap_eq_nil_iff.mpr fun x hx => List.eq_of_mem_replicate hx
    rw [this]; exact List.Perm.refl _) (by rw [Array.length_toList]; omega)
  rw [Nat.zero_add, Array.length_toList] at f1 f3
  have lc : SetTable.layClean mask hs = some o' := by
    show (hs.foldl (stp mask) (some (Array.replicate (mask + 1) none, 0))).map (·.1) = some o'
    rw [← Array.foldl_toList, f1] <;> rfl
  have sn := live_snd o' (mask + 1) f2
  generalize hL : ((List.range (mask + 1)).filterMap fun j => (o'.getD j none).map (j, ·)) = L at sn
  refine ⟨{ mask, place := (L.map (·.1)).toArray, dummies := #[], finger, led, moves, plain }, (L.map (·.2)).toArray, ?_, ?_, ?_, rfl, rfl, rfl, ?_⟩
  · unfold SetTable.laid
    rw [lc, ← hL] <;> rfl
  · show (L.map (·.2)).Perm _
    rw [sn]; exact f3
  · show (L.map (·.1)).toArray.size = hs.size
    have z := f3.length_eq
    rw [← sn, List.length_map, List.length_range] at z
    rw [List.size_toArray, List.length_map, z]
  · show Ris (L.map (·.1))
    rw [← hL]
    refine (ris_live (fun j => o'.getD j none) (List.range (mask + 1)) ?_).1
    unfold Ris
    first | exact List.pairwise_lt_range | exact List.pairwise_lt_range _
end SetL
end VS
namespace VS
open PySem L2 C8 PySem.Spec PyProof.Rows
/-! ### a set of whole numbers | another one -/
namespace SetL
theorem entry_set_or : entryFor table "set.__or__" = some Builtin.«frozenset.__or__» :=
  entryFor_alias (id' := "frozenset.__or__") (by kernel_rfl) rfl (by decide +kernel) (by kernel_rfl)
structure Gd (w : World) (es : Array (Int × Value)) (t : SetTable) (S : Int → Bool) (n : Nat) : Prop where
  g : ∀ e ∈ es.toList, GoodE e
  nd : (es.toList.map keyOf).Nodup
  m : ∀ k, S k = true ↔ k ∈ es.toList.map keyOf
  b : es.size < scanBound
  f : t.fits es.size = true
  n : es.size = n
  r : Ris t.place.toList
  l : w.params.followText "set-order" = true ∨ t.led = true
theorem Gd.to {w : World} {es : Array (Int × Value)} {t : SetTable} {S : Int → Bool} {n ep : Nat} {h : Heap} {a : Addr} {o : Obj} (G : Gd w es t S n) (ho : h.get? a = some o) (hx : o.ExactSet) (hd : o.data = .set es ep t) : SetR w h a S n :=
  ⟨o, es, ep, t, ho, hx, hd, G.g, G.nd, G.m, G.b, G.f, G.n, G.r, G.l⟩
theorem of_R {w : World} {S : Int → Bool} {n : Nat} {h : Heap} {a : Addr} (R : SetR w h a S n) : ∃ o es ep t, h.get? a = some o ∧ o.ExactSet ∧ o.data = .set es ep t ∧ Gd w es t S n := by
  obtain ⟨o, es, ep, t, ho, hx, hd, g, nd, m, b, f, n, r, l⟩ := R
  exact ⟨o, es, ep, t, ho, hx, hd, g, nd, m, b, f, n, r, l⟩
theorem Gd.perm {w : World} {es es' : Array (Int × Value)} {t t' : SetTable} {S : Int → Bool} {n : Nat} (G : Gd w es t S n) (p : es'.toList.Perm es.toList) (f : t'.fits es'.size = true) (r : Ris t'.place.toList) (l : t'.led = t.led) : Gd w es' t' S n := by
  have sz : es'.size = es.size := by rw [← Array.length_toList, p.length_eq, Array.length_toList]
  exact ⟨fun e he => G.g e (p.mem_iff.mp he), (p.map keyOf).nodup_iff.mpr G.nd, fun k => (G.m k).trans (p.map keyOf).mem_iff.symm, by rw [sz]; exact G.b, f, by rw [sz]; exact G.n, r, by rw [l]; exact G.l⟩
set_option maxRecDepth 100000 in
theorem above_ok : ∀ w, w < 1024 → (SetTable.sizeAbove w = 2 ^ 3 ∨ SetTable.sizeAbove w = 2 ^ 4 ∨ SetTable.sizeAbove w = 2 ^ 5 ∨ SetTable.sizeAbove w = 2 ^ 6 ∨ SetTable.sizeAbove w = 2 ^ 7 ∨ SetTable.sizeAbove w = 2 ^ 8 ∨ SetTable.sizeAbove w = 2 ^ 9 ∨ SetTable.sizeAbove w = 2 ^ 10) ∧ w < SetTable.sizeAbove w := by decide +kernel
theorem above {w : Nat} (h : w < 1024) : ∃ k, SetTable.sizeAbove w = 2 ^ k ∧ w < SetTable.sizeAbove w ∧ SetTable.sizeAbove w ≤ 1024 ∧ 8 ≤ SetTable.sizeAbove w := by
  obtain ⟨a, b⟩ := above_ok w h
  rcases a with a | a | a | a | a | a | a | a <;> exact ⟨_, a, b, by rw [a]; decide, by rw [a]; decide⟩
theorem order_perm {es : Array (Int × Value)} {order : Array Nat} (p : order.toList.Perm (List.range es.size)) : (order.filterMap (es[·]?)).toList.Perm es.toList := by
  rw [Array.toList_filterMap]
  exact (p.filterMap _).trans (by rw [filterMap_getElem?_range])
section
variable {P : Program} {w : World} {A : Around} {E : Value → Shared → Prop} {s : Shared} {a b : Addr} {o o2 : Obj} {es es2 : Array (Int × Value)} {ep ep2 : Nat} {t t2 : SetTable} {S S2 : Int → Bool} {n n2 : Nat}
theorem relay_at {wanted : Nat} {Q : Unit → Shared → Prop} (ho : s.heap.get? a = some o) (hd : o.data = .set es ep t) (G : Gd w es t S n) (hw : wanted < 1024) (hn : n ≤ wanted)
    (hQ : ∀ es' t', Gd w es' t' S n → t'.mask + 1 = SetTable.sizeAbove wanted → t'.dummies = #[] → Q () { s with heap := s.heap.update a (Obj.putSet es' t') }) : wpAny (model P w) A (setRelay a wanted) Q E s := by
  obtain ⟨k, e1, e2, e3, e4⟩ := above hw
  unfold setRelay
  refine wpAny_bind (wpAny_setState_of ho hd G.f ?_)
  dsimp only
  refine wp_if_neg (by rw [sizeLine_eq]; omega) ?_
  obtain ⟨t', order, e, pm, sz, dm, mk, ld, ri⟩ := laid_ok (mask := SetTable.sizeAbove wanted - 1) (k := k) (by rw [← e1]; omega) t.finger (t.movedTo (SetTable.sizeAbove wanted - 1)) t.led t.plain (es.map (·.1)) (by rw [Array.size_map, G.n]; omega)
  have e5 : t.relaid (es.map (·.1)) wanted = some (t', order) := e
  rw [e5]
  rw [Array.size_map] at pm sz
  have op := order_perm pm
  have os : (order.filterMap (es[·]?)).size = es.size := by rw [← Array.length_toList, op.length_eq, Array.length_toList]
  refine wpAny_bind (wpAny_of_eq (a := (order.filterMap (es[·]?), t')) ?_ ?_)
  · show (if ((order.filterMap (es[·]?)).size != es.size) = true then _ else _) = _
    rw [os, bne_self_eq_false, if_neg Bool.false_ne_true]
  dsimp only
  have G' : Gd w (order.filterMap (es[·]?)) t' S n := G.perm op (by
    rw [os]
    simp only [SetTable.fits, SetTable.fill, dm, sz, Bool.and_eq_true, beq_iff_eq, decide_eq_true_eq, Array.size_empty, true_and]
    rw [mk, G.n]; omega) ri ld
  refine wpAny_storeSet_of ho hd ?_ (fits_of_scanBound G'.b)
  exact hQ _ _ G' (by rw [mk]; omega) dm
theorem fits_iff {t : SetTable} {n : Nat} : t.fits n = true ↔ t.place.size = n ∧ t.fill ≤ t.mask := by
  simp only [SetTable.fits, Bool.and_eq_true, beq_iff_eq, decide_eq_true_eq]
theorem room_at {more : Nat} {Q : Unit → Shared → Prop} (ho : s.heap.get? a = some o) (hx : o.ExactSet) (hd : o.data = .set es ep t) (G : Gd w es t S n) (hb : n + more < 256)
    (hQ : ∀ h' o' es' ep' t', Heap.SameBut a s.heap h' → h'.get? a = some o' → o'.ExactSet → o'.data = .set es' ep' t' → Gd w es' t' S n → ((t.fill = 0 → ∃ k, t.mask + 1 = 2 ^ k) → t'.fill = 0 → ∃ k, t'.mask + 1 = 2 ^ k) → t'.fill + more ≤ t'.mask → Q () { s with heap := h' }) :
    wpAny (model P w) A (setRoomFor a more) Q E s := by
  unfold setRoomFor
  refine wpAny_bind (wpAny_setState_of ho hd G.f ?_)
  dsimp only
  obtain ⟨f1, f2⟩ := fits_iff.mp G.f
  cases hr : t.roomFor more with
  | none =>
    unfold SetTable.roomFor at hr
    split at hr
    · cases hr
    · exact wpAny_pure (hQ s.heap o es ep t (Heap.SameBut.refl _ _) ho hx hd G id (by omega))
  | some wanted =>
    unfold SetTable.roomFor at hr
    split at hr
    · cases hr
      have nn := G.n
      have hw : (t.place.size + more) * 2 < 1024 := by rw [f1, nn]; omega
      obtain ⟨k, e1, e2, e3, e4⟩ := above hw
      refine relay_at ho hd G hw (by rw [f1, nn]; omega) fun es' t' G' mk dm => ?_
      have z := store_at (es' := es') (t' := t') ho hd
      obtain ⟨p1, p2⟩ := fits_iff.mp G'.f
      have fl : t'.fill = n := by
        unfold SetTable.fill
        rw [dm, p1, G'.n] <;> rfl
      refine hQ _ _ es' (ep + 1) t' (Heap.SameBut.update _ _ _) z hx rfl G' (fun _ _ => ⟨k, by rw [mk, e1]⟩) (by rw [fl]; rw [f1, nn] at e2 mk; omega)
    · cases hr
theorem quiet_at {Q : Bool → Shared → Prop} (l : List Addr) (hl : ∀ x ∈ l, ∃ o es ep t, s.heap.get? x = some o ∧ o.data = .set es ep t ∧ t.fits es.size = true ∧ ∀ e ∈ es.toList, GoodE e) (hQ : Q true s) : wpAny (model P w) A (setsQuiet l) Q E s := by
  unfold setsQuiet
  refine wpAny_bind (wpAny_forIn_list _ (fun rest b s' => s' = s ∧ b = (none, ()) ∧ ∀ x ∈ rest, x ∈ l) _ ?_ ?_ l _ ⟨rfl, rfl, fun x h => h⟩)
  · rintro x rest b s' ⟨rfl, rfl, hm⟩
    obtain ⟨o, es, ep, t, ho, hd, hf, hg⟩ := hl x (hm x List.mem_cons_self)
    refine wpAny_bind ?_
    unfold setEntries
    refine wpAny_bind (wpAny_setState_of ho hd hf (wpAny_pure ?_))
    refine wpAny_bind (PySem.MeetsSeq2.wpAny_forIn_array _ (fun rest b s1 => s1 = s' ∧ b = (none, ()) ∧ ∀ e ∈ rest, GoodE e) _ ?_ ?_ _ _ ⟨rfl, rfl, hg⟩)
    · rintro e rest b s1 ⟨rfl, rfl, hm2⟩
      obtain ⟨k, tk, e1, _⟩ := hm2 e List.mem_cons_self
      obtain ⟨h0, y⟩ := e
      dsimp only at e1
      subst e1
      exact wpAny_pure ⟨rfl, rfl, fun e he => hm2 e (List.mem_cons_of_mem _ he)⟩
    · rintro b s1 ⟨rfl, rfl, _⟩
      exact wpAny_pure ⟨rfl, rfl, fun y hy => hm y (List.mem_cons_of_mem _ hy)⟩
  · rintro b s' ⟨rfl, rfl, _⟩
    exact wpAny_pure hQ
theorem walkU_at {Q : Array (Int × Value) → Shared → Prop} (ho : s.heap.get? a = some o) (hx : o.ExactSet) (hd : o.data = .set es ep t) (G : Gd w es t S n) (ho2 : s.heap.get? b = some o2) (hd2 : o2.data = .set es2 ep2 t2) (G2 : Gd w es2 t2 S2 n2)
    (hQ : ∀ h' o' es' ep' t' es2', Heap.SameBut a s.heap h' → h'.get? a = some o' → o'.ExactSet → o'.data = .set es' ep' t' → Gd w es' t' S n → es2'.toList.Perm es2.toList → Q es2' { s with heap := h' }) : wpAny (model P w) A (setWalkUnseen b [a] (some a)) Q E s := by
  have same : ∀ es2' : Array (Int × Value), es2'.toList.Perm es2.toList → Q es2' s := fun es2' p => hQ s.heap o es ep t es2' (Heap.SameBut.refl _ _) ho hx hd G p
  unfold setWalkUnseen
  refine wpAny_bind (wpAny_setState_of ho2 hd2 G2.f ?_)
  dsimp only
  refine wpAny_bind (wpAny_byText ?_)
  cases hbt : w.params.followText "set-order" with
  | true =>
    refine wp_if_pos (by simp) ?_
    unfold setWalk
    refine wpAny_bind (wpAny_setState_of ho2 hd2 G2.f ?_)
    dsimp only
    refine wpAny_bind (wpAny_byText ?_)
    refine wp_if_pos hbt ?_
    exact wpAny_bind (wpAny_askSetting (wpAny_pure (same _ (pick_perm _ _))))
  | false =>
    have ld : t2.led = true := G2.l.resolve_left (by rw [hbt]; exact Bool.false_ne_true)
    by_cases hp : t2.plain = true ∨ es2.size ≤ 1
    · refine wp_if_pos (by rcases hp with z | z <;> simp [ld, z]) ?_
      unfold setWalk
      refine wpAny_bind (wpAny_setState_of ho2 hd2 G2.f ?_)
      dsimp only
      refine wpAny_bind (wpAny_byText ?_)
      refine wp_if_neg (by rw [hbt]; exact Bool.false_ne_true) ?_
      refine wp_if_neg (by
        show ¬ ((!t2.plain && decide (es2.size > 1)) = true)
        rcases hp with z | z
        · simp [z]
        · have : ¬ es2.size > 1 := by omega
          simp [this]) ?_
      refine wpAny_bind (wpAny_of_eq (a := ()) ?_ (wpAny_pure (same _ (List.Perm.refl _))))
      show (if (!t2.led && decide (es2.size > 1)) = true then unsupported "set:maker-not-led" else pure ()) = pure ()
      rw [ld] <;> rfl
    · have q1 : t2.plain = false := by cases z : t2.plain with
        | false => rfl
        | true => exact absurd (.inl z) hp
      have q2 : ¬ es2.size ≤ 1 := fun z => hp (.inr z)
      refine wp_if_neg (by simp [q1, q2]) ?_
      refine wpAny_bind (quiet_at [b, a] (fun x hx => ?_) ?_)
      · rcases List.mem_cons.mp hx with z | z
        · subst z; exact ⟨o2, es2, ep2, t2, ho2, hd2, G2.f, G2.g⟩
        · have : x = a := by simpa using z
          subst this; exact ⟨o, es, ep, t, ho, hd, G.f, G.g⟩
      refine wp_if_neg (by simp) ?_
      refine wpAny_bind (wpAny_rule ?_)
      refine wpAny_bind (wpAny_setState_of ho hd G.f ?_)
      dsimp only
      refine wpAny_ite ?_
      have tl : t.led = true := G.l.resolve_left (by rw [hbt]; exact Bool.false_ne_true)
      split
      · refine wpAny_bind (wpAny_storeSet_of ho hd ?_ (fits_of_scanBound G.b))
        refine wpAny_pure (hQ _ _ es (ep + 1) _ es2 (Heap.SameBut.update _ _ _) (store_at ho hd) hx rfl (G.perm (List.Perm.refl _) G.f G.r ?_) (List.Perm.refl _))
        show (t.led && t2.led) = t.led
        rw [ld, Bool.and_true]
      · exact wpAny_pure (same _ (List.Perm.refl _))
theorem merge_at {each : Sem Unit} {Q : Unit → Shared → Prop} (hab : a ≠ b) (ho : s.heap.get? a = some o) (hx : o.ExactSet) (hd : o.data = .set es ep t) (G : Gd w es t S n) (ho2 : s.heap.get? b = some o2) (hd2 : o2.data = .set es2 ep2 t2) (G2 : Gd w es2 t2 S2 n2)
    (hk : t.fill = 0 → ∃ k, t.mask + 1 = 2 ^ k) (hb : n + n2 < 256) (he : ∀ (s1 : Shared) (Q1 : Unit → Shared → Prop), s1.heap.get? b = some o2 → Q1 () s1 → wpAny (model P w) A each Q1 E s1)
    (hQ : ∀ h' n', Heap.SameBut a s.heap h' → SetR w h' a (fun k => S k || S2 k) n' → n' ≤ n + n2 → (h' = s.heap ∨ ∃ k, S2 k = true) → Q () { s with heap := h' }) : wpAny (model P w) A (setMerge a b each) Q E s := by
  unfold setMerge
  refine wp_if_neg (by simpa using hab) ?_
  refine wpAny_bind (wpAny_setState_of ho2 hd2 G2.f ?_)
  dsimp only
  have len2 : es2.toList.length = n2 := by rw [Array.length_toList, G2.n]
  by_cases h0 : es2.isEmpty = true
  · refine wp_if_pos h0 ?_
    have z : es2.toList = [] := by simpa using h0
    refine wpAny_pure (hQ s.heap n (Heap.SameBut.refl _ _) ((G.to ho hx hd).congr fun k => ?_) (Nat.le_add_right _ _) (.inl rfl))
    have : S2 k = false := by
      cases q : S2 k with
      | false => rfl
      | true => have c := (G2.m k).mp q; rw [z] at c; cases c
    rw [this, Bool.or_false]
  have some2 : ∃ k, S2 k = true := by
    cases q : es2.toList with
    | nil => exact absurd (by simpa using q) h0
    | cons e l => exact ⟨keyOf e, (G2.m _).mpr (by rw [q]; simp)⟩
  refine wp_if_neg h0 ?_
  rw [G2.n]
  refine wpAny_bind (room_at ho hx hd G hb fun h1 o1 es1 ep1 t1 sb1 ho1 hx1 hd1 G1 mk1 fl1 => ?_)
  have ho2' : h1.get? b = some o2 := (sb1.2 b (Ne.symm hab)).trans ho2
  refine wpAny_bind (wpAny_setState_of (s := { s with heap := h1 }) ho1 hd1 G1.f ?_)
  dsimp only
  have led : w.params.followText "set-order" = true ∨ (t1.led && t2.led) = true := by
    rcases G1.l with z | z
    · exact .inl z
    · rcases G2.l with y | y
      · exact .inl y
      · exact .inr (by rw [z, y] <;> rfl)
  have none1 : t1.fill = 0 → ∀ k, S k = false := fun z k => by
    have p := (fits_iff.mp G1.f).1
    unfold SetTable.fill at z
    have e : es1.toList = [] := List.length_eq_zero_iff.mp (by rw [Array.length_toList]; omega)
    cases q : S k with
    | false => rfl
    | true => have c := (G1.m k).mp q; rw [e] at c; cases c
  unfold SetTable.road
  by_cases f0 : t1.fill = 0
  · rw [if_neg (by simp [f0])]
    have S1 := none1 f0
    by_cases hc : (t1.mask == t2.mask && t2.dummies.isEmpty) = true
    · rw [if_pos hc]
      dsimp only
      refine wpAny_storeSet_of (s := { s with heap := h1 }) ho1 hd1 ?_ (fits_of_scanBound G2.b)
      refine hQ _ n2 (sb1.trans (Heap.SameBut.update _ _ _)) (SetR.congr (S := S2) ⟨_, es2, _, _, store_at ho1 hd1, hx1, rfl, G2.g, G2.nd, G2.m, G2.b, ?_, G2.n, G2.r, led⟩ fun k => by rw [S1 k, Bool.false_or]) (Nat.le_add_left _ _) (.inr some2)
      exact G2.f
    · rw [if_neg hc]
      dsimp only
      obtain ⟨k, e1⟩ := mk1 hk f0
      obtain ⟨t', order, e, pm, sz, dm, mk, ld, ri⟩ := laid_ok e1 t1.finger t1.moves (t1.led && t2.led) (t1.plain && t2.plain) (es2.map (·.1)) (by rw [Array.size_map, G2.n]; omega)
      rw [e]
      rw [Array.size_map] at pm sz
      have op := order_perm pm
      have os : (order.filterMap (es2[·]?)).size = es2.size := by rw [← Array.length_toList, op.length_eq, Array.length_toList]
      refine wpAny_bind (wpAny_of_eq (a := (order.filterMap (es2[·]?), t')) ?_ ?_)
      · show (if ((order.filterMap (es2[·]?)).size != es2.size) = true then _ else _) = _
        rw [os, bne_self_eq_false, if_neg Bool.false_ne_true]
      dsimp only
      have ff : t'.fits (order.filterMap (es2[·]?)).size = true := by
        rw [os]
        refine fits_iff.mpr ⟨sz, ?_⟩
        have : t'.fill = es2.size := by
          unfold SetTable.fill
          rw [dm, sz] <;> rfl
        rw [this, mk, G2.n]; omega
      refine wpAny_storeSet_of (s := { s with heap := h1 }) ho1 hd1 ?_ (fits_of_scanBound (by rw [os]; exact G2.b))
      exact hQ _ n2 (sb1.trans (Heap.SameBut.update _ _ _)) (SetR.congr (S := S2) ⟨_, _, _, _, store_at ho1 hd1, hx1, rfl, fun e he => G2.g e (op.mem_iff.mp he), (op.map keyOf).nodup_iff.mpr G2.nd, fun k => (G2.m k).trans (op.map keyOf).mem_iff.symm, by rw [os]; exact G2.b, ff, by rw [os]; exact G2.n, ri, by rw [ld]; exact led⟩ fun k => by rw [S1 k, Bool.false_or]) (Nat.le_add_left _ _) (.inr some2)
  · rw [if_pos (by simp [f0])]
    dsimp only
    refine wpAny_bind (walkU_at (s := { s with heap := h1 }) ho1 hx1 hd1 G1 ho2' hd2 G2 fun h2 o3 es3 ep3 t3 L sb2 ho3 hx3 hd3 G3 pm => ?_)
    refine wpAny_bind (PySem.MeetsSeq2.wpAny_forIn_array _ (fun rest _ s' => ∃ dn h' n', dn ++ rest = L.toList ∧ Heap.SameBut a s.heap h' ∧ s' = { s with heap := h' } ∧ SetR w h' a (fun k => S k || decide (k ∈ dn.map keyOf)) n' ∧ n' ≤ n + dn.length) _ ?_ ?_ _ _ ?_)
    · rintro x rest _ s' ⟨dn, h', n', el, sb, rfl, R, hn'⟩
      have hx : x ∈ L.toList := by rw [← el]; simp
      obtain ⟨k, tk, e1, e2⟩ := G2.g x (pm.mem_iff.mp hx)
      obtain ⟨h0, y⟩ := x
      dsimp only at e1 e2
      subst e1; subst e2
      have ll : dn.length + (rest.length + 1) = n2 := by
        have := congrArg List.length el
        rw [List.length_append, List.length_cons, pm.length_eq, len2] at this
        exact this
      refine wpAny_bind (wpAny_holding (setR_add_hashed (P := P) (s := { s with heap := h' }) R (by unfold scanBound; omega) fun h3 sb3 R3 => ?_))
      have g3 : h3.get? b = some o2 := (sb3.2 b (Ne.symm hab)).trans ((sb.2 b (Ne.symm hab)).trans ho2)
      refine wpAny_bind (he _ _ g3 ?_)
      refine wpAny_bind (wpAny_setState_of (s := { s with heap := h3 }) g3 hd2 G2.f ?_)
      dsimp only
      refine wp_if_neg (by simp) ?_
      refine wpAny_pure ⟨dn ++ [(hashInt k, Value.int k tk)], h3, _, by rw [List.append_assoc]; exact el, sb.trans sb3, rfl, R3.congr fun j => ?_, ?_⟩
      · rw [List.map_append, Bool.or_assoc]
        congr 1
        rw [← Bool.decide_or]
        congr 1
        simp [keyOf]
      · rw [List.length_append, List.length_singleton]
        split <;> omega
    · rintro _ s' ⟨dn, h', n', el, sb, rfl, R, hn'⟩
      rw [List.append_nil] at el
      subst el
      refine wpAny_pure (hQ h' n' sb (R.congr fun k => ?_) (by rw [pm.length_eq, len2] at hn'; exact hn') (.inr some2))
      congr 1
      have := (G2.m k).trans (pm.map keyOf).mem_iff.symm
      cases q : S2 k with
      | true => exact (decide_eq_true (this.mp q)).symm
      | false => exact (decide_eq_false fun z => by rw [this.mpr z] at q; cases q).symm
    · exact ⟨[], h2, n, rfl, sb1.trans sb2, rfl, (G3.to ho3 hx3 hd3).congr fun k => by simp, Nat.le_refl _⟩
theorem isSet {T : Bool → Shared → Prop} (hT : s.TypeIs (.ref a) "set") (h : T true s) : wpAny (model P w) A (Builtin.Frozenset.isAnySet (.ref a)) T E s := by
  unfold Builtin.Frozenset.isAnySet orM
  refine wpAny_bind (wpAny_isInstance hT sub_set_self ?_)
  exact wpAny_pure h
theorem or_at {Q : Value → Shared → Prop} (hab : a ≠ b) (R : SetR w s.heap a S n) (R2 : SetR w s.heap b S2 n2) (hb : n + n2 < 128)
    (hQ : ∀ h' n', (∀ c oc, s.heap.get? c = some oc → h'.get? c = some oc) → SetR w h' s.heap.objs.size (fun k => S k || S2 k) n' → n' ≤ n + n2 → Q (.ref s.heap.objs.size) { s with heap := h' }) : wpAny (model P w) A (binaryOp .BitOr (.ref a) (.ref b)) Q E s := by
  obtain ⟨o, es, ep, t, ho, hx, hd, G⟩ := of_R R
  obtain ⟨o2, es2, ep2, t2, ho2, hx2, hd2, G2⟩ := of_R R2
  have ta : s.TypeIs (.ref a) "set" := ⟨o, ho, hx.1⟩
  have tb : s.TypeIs (.ref b) "set" := ⟨o2, ho2, hx2.1⟩
  refine wpAny_binaryOp_same (op := .BitOr) (T := "set") ta tb PySem.F.fills_set_or PySem.F.slot_set_or ?_
  refine wpAny_call_entry PySem.F.slot_set_or ta entry_set_or ?_ (PySem.F.args_set_or_2 _ _)
  unfold Builtin.«frozenset.__or__»
  refine wpAny_bind (m := Builtin.Frozenset.slot1 "__or__" _) (wpAny_of_eq (a := (Value.ref a, Value.ref b)) (by rfl) ?_)
  dsimp only
  simp only [Bool.false_eq_true, ↓reduceIte]
  refine wpAny_bind ?_
  unfold andM
  refine wpAny_bind (isSet ta ?_)
  show wpAny _ _ (Builtin.Frozenset.isAnySet (.ref b)) _ _ _
  refine isSet tb ?_
  refine wp_if_neg (by simp) ?_
  refine wpAny_bind (m := Builtin.Frozenset.addrOf _) (wpAny_pure ?_)
  refine wpAny_bind ?_
  refine wpAny_bind (m := Builtin.Frozenset.copyOf a) ?_
  unfold Builtin.Frozenset.copyOf
  refine wpAny_bind (m := Builtin.Frozenset.baseOf a) ?_
  unfold Builtin.Frozenset.baseOf
  refine wpAny_bind (wpAny_isInstance ta sub_set_self (wpAny_pure ?_))
  refine wpAny_bind (m := newSet _) ?_
  unfold newSet
  refine wpAny_bind (wpAny_byText ?_)
  show wpAny _ _ (newObj (.type "set") _) _ _ _
  simp only [newObj]
  refine wpAny_bind (wpAny_alloc (wpAny_pure ?_))
  refine wpAny_bind (m := Builtin.Frozenset.addrOf _) (wpAny_pure ?_)
  generalize hld : (!w.params.followText "set-order") = ld
  have lt1 : a < s.heap.objs.size := Heap.lt_size ho
  have lt2 : b < s.heap.objs.size := Heap.lt_size ho2
  have g0 : (s.heap.push { cls := Value.type "set", data := Data.set #[] 0 (SetTable.fresh 0 0 ld) }).get? s.heap.objs.size = some { cls := Value.type "set", data := Data.set #[] 0 (SetTable.fresh 0 0 ld) } := Heap.get?_push_size _ rfl
  have G0 : Gd w #[] (SetTable.fresh 0 0 ld) (fun _ => false) 0 := ⟨fun e he => by simp at he, by simp, fun k => by simp, by decide, rfl, rfl, List.Pairwise.nil, by
    rw [← hld]
    show _ ∨ (!w.params.followText "set-order") = true
    cases w.params.followText "set-order"
    · exact .inr rfl
    · exact .inl rfl⟩
  refine wpAny_bind (merge_at (P := P) (each := pure ()) (Nat.ne_of_gt lt1) g0 ⟨rfl, rfl, rfl⟩ rfl G0 (Heap.get?_push_of_some _ ho) hd G (fun _ => ⟨3, rfl⟩) (by omega) (fun s1 Q1 _ q => wpAny_pure q) fun h1 n1 sb1 R1 hn1 or1 => ?_)
  refine wpAny_pure ?_
  refine wp_if_pos (by simpa using Ne.symm hab) ?_
  refine wpAny_bind (m := Builtin.Frozenset.addrOf _) (wpAny_pure ?_)
  refine wpAny_bind (wpAny_holding ?_)
  have gb : h1.get? b = some o2 := (sb1.2 b (Nat.ne_of_lt lt2)).trans (Heap.get?_push_of_some _ ho2)
  have tb1 : Shared.TypeIs { s with heap := h1 } (.ref b) "set" := ⟨o2, gb, hx2.1⟩
  have R1' : SetR w h1 s.heap.objs.size S n1 := R1.congr fun k => by rw [Bool.false_or]
  obtain ⟨o3, es3, ep3, t3, ho3, hx3, hd3, G3⟩ := of_R R1'
  unfold Builtin.Frozenset.updateFrom
  refine wpAny_bind (isSet tb1 ?_)
  refine wp_if_pos rfl ?_
  refine wpAny_bind (m := Builtin.Frozenset.addrOf _) (wpAny_pure ?_)
  unfold Builtin.Frozenset.merge
  refine wpAny_bind (m := setEpoch b) (wpAny_setEpoch_of (s := { s with heap := h1 }) gb hd2 G2.f ?_)
  refine merge_at (P := P) (s := { s with heap := h1 }) (Nat.ne_of_gt lt2) ho3 hx3 hd3 G3 gb hd2 G2 (fun z => ?_) (by omega) (fun s1 Q1 g q => ?_) fun h2 n2' sb2 R2' hn2 _ => ?_
  · rcases or1 with e | ⟨k, hk⟩
    · rw [e, g0] at ho3
      cases ho3
      cases hd3
      exact ⟨3, rfl⟩
    · exfalso
      have p := (fits_iff.mp G3.f).1
      unfold SetTable.fill at z
      have e : es3.toList = [] := List.length_eq_zero_iff.mp (by rw [Array.length_toList]; omega)
      have c := (G3.m k).mp hk
      rw [e] at c
      cases c
  · unfold Builtin.Frozenset.unchanged
    refine wpAny_bind (wpAny_setEpoch_of g hd2 G2.f ?_)
    refine wp_if_neg (by simp) ?_
    exact wpAny_pure q
  · refine wpAny_pure (wpAny_pure ⟨_, rfl, by simp, hQ h2 n2' (fun c oc z => ?_) R2' (by omega)⟩)
    have lc : c < s.heap.objs.size := Heap.lt_size z
    exact (sb2.2 c (Nat.ne_of_lt lc)).trans ((sb1.2 c (Nat.ne_of_lt lc)).trans (Heap.get?_push_of_some _ z))
end
end SetL
end VS
namespace VS
open PySem L2 C8 PySem.Spec PyProof.Rows
/-! ### sorted(set(..) | set(..)) of lists of whole numbers -/
def rOrI (w : World) : R2 := fun x y H Q => ∃ (a b : Addr) (S S2 : Int → Bool) (n n2 : Nat), x = .ref a ∧ y = .ref b ∧ a ≠ b ∧ H a = some (SetO w a S n) ∧ H b = some (SetO w b S2 n2) ∧ n + n2 < 128 ∧
  ∀ (p : Addr) (m : Nat), H p = none → m ≤ n + n2 → Q (.ref p) (upd H p (SetO w p (fun k => S k || S2 k) m))
theorem op_orI {X : Cx} : OpR X (binaryOp .BitOr) (rOrI X.w) := by
  intro pins s σ H x y v u Q I rx ry h
  obtain ⟨a, b, S, S2, n, n2, rfl, rfl, hab, ha, hb, hz, q⟩ := h
  cases rx
  cases ry
  refine SetL.or_at hab (setO_get I ha) (setO_get I hb) hz fun h' m k R hm => ?_
  exact ⟨.ref _, upd H s.heap.objs.size (SetO X.w s.heap.objs.size (fun k => S k || S2 k) m), I.laid (t' := s.toks) k (Nat.le_refl _) (setO_new R), rfl, q _ m (I.hok.fresh (Nat.le_refl _)) hm⟩
section
variable {c : Ctx} {ρ : Rho} {S : Sto} {F : D → Sto → Prop}
theorem ve_sortOr {w : World} {t1 t2 : TA} (h : VA c t1 ρ S fun ds S1 => ∃ x, ∃ ns : List Int, ds = [x] ∧ IsL S1 x (ns.map D.int) ∧ ns.length < 64 ∧
      VA c t2 ρ S1 fun es S2 => ∃ y, ∃ ms : List Int, es = [y] ∧ IsL S2 y (ms.map D.int) ∧ ns.length + ms.length < 64 ∧ ∀ l : List Int, l.Pairwise (· < ·) → (∀ k, k ∈ l ↔ k ∈ ns ∨ k ∈ ms) → l.length ≤ ns.length + ms.length → F (.lst (l.map D.int)) S2) :
    VE c (tCB (rSortedSet w) (tCons (tOp (rOrI w) (tCB (rSetI c.K w) t1) (tCB (rSetI c.K w) t2)) tNil)) ρ S F := fun T σ H I Q k =>
  h T σ H I _ fun us ds S1 T1 H1 m1 c1 r1 ⟨x, ns, e1, hx, h64, g⟩ => by
    subst e1
    cases r1 with
    | cons h1 z1 =>
      cases z1
      obtain ⟨a, xs, rfl, s, r⟩ := hx.rd c1 h1
      refine ⟨a, ns, rfl, by rw [← r.ints]; exact s, h64, fun p n hp hn => ?_⟩
      refine g T1 σ _ ((I.mv m1 c1).mv (mv_new hp) (c1.new hp)) _ fun us2 ds2 S2 T2 H2 m2 c2 r2 ⟨y, ms, e2, hy, h64b, q⟩ => ?_
      subst e2
      cases r2 with
      | cons h2 z2 =>
        cases z2
        obtain ⟨b, ys, rfl, sb, rb⟩ := hy.rd c2 h2
        refine ⟨b, ms, rfl, by rw [← rb.ints]; exact sb, by omega, fun p2 n2 hp2 hn2 => ?_⟩
        have gp := m2.keep p _ (c1.free hp) upd_same
        have np : p ≠ p2 := fun z => by rw [z, hp2] at gp; cases gp
        refine ⟨p, p2, _, _, n, n2, rfl, rfl, np, by rw [upd_ne np]; exact gp, upd_same, by omega, fun p3 m hp3 hm => ?_⟩
        refine ⟨p3, _, m, rfl, upd_same, by omega, fun l pp hl hml hlen hpp => ?_⟩
        refine k _ _ S2 T2 _ (m1.trans ((mv_new hp).trans (m2.trans ((mv_new hp2).trans ((mv_new hp3).trans (mv_new hpp)))))) (((c2.new hp2).new hp3).new hpp) (.lst (((c2.new hp2).new hp3).free hpp) upd_same RepL.ofInts) (q l hl (fun j => ?_) (by omega))
        rw [hml j, Bool.or_eq_true, decide_eq_true_eq, decide_eq_true_eq]
end
end VS
namespace VS
open PySem L2 C8 PySem.Spec PyProof.Rows LamX NdefX
/-! ### sorted(d) of a dict of whole numbers; {k: v} by reference; a def that gets a function, as an item -/
def rSortDI : CR1 := fun xs H Q => ∃ (a : Addr) (kvs : List (Key × V)) (ks : List Int), xs = [.ref a] ∧ Rd H a (.dK kvs) ∧ kvs.map (·.1) = ks.map Sum.inl ∧ ks.length < 64 ∧
    ∀ (ys : List Int) (p : Addr), ys.Perm ks → ys.Pairwise (· ≤ ·) → H p = none → Q (.ref p) (upd H p (.lst (ys.map V.int)))
theorem c_sortDI {X : Cx} (hc : X.calm = true) : CallR X (.builtin "sorted") rSortDI := call_sortedDI hc
section
variable {c : Ctx} {ρ : Rho} {S : Sto} {F : D → Sto → Prop}
theorem rc_sortDI {x : D} {ds : List (Key × D)} {ks : List Int} (h : IsDk S x ds) (hk : ds.map Prod.fst = ks.map Sum.inl) (h64 : ks.length < 64) (q : ∀ ys : List Int, ys.Perm ks → ys.Pairwise (· ≤ ·) → F (.lst (ys.map D.int)) S) : RC c rSortDI [x] S F := fun T us H cl r Q k => by
  cases r with
  | cons h1 t =>
    cases t
    obtain ⟨a, vs, rfl, ha, rk⟩ := h.rd cl h1
    exact ⟨a, vs, ks, rfl, ha, (repK_keys rk).trans hk, h64, fun ys p h1 h2 hp => k _ _ S T _ (mv_new hp) (cl.new hp) (.lst (cl.free hp) upd_same RepL.ofInts) (q ys h1 h2)⟩
theorem Cells.showD {K : PySem.W.Frag} {S T : Sto} {H : Hp} {p : Addr} {xs : List (Key × V)} {ds : List (Key × D)} (cl : Cells K H S T) (s : T p = some .hid) (hx : H p = some (.dK xs)) (r : RepK K H T xs ds) : Cells K H (put S p (.dK ds)) (put T p (.dK ds)) := by
  have m : Mk T H (put T p (.dK ds)) H := by
    refine ⟨fun _ _ _ h => h, fun a q _ => ?_⟩
    rw [put_ne]
    · exact q
    · intro z; subst z; rw [s] at q; cases q
  refine ⟨ov_put cl.ov (by nofun), fun a e q => ?_⟩
  by_cases z : a = p
  · subst z; rw [put_same] at q; cases q; exact cell_d hx (r.mk m)
  · rw [put_ne z] at q
    exact CellOk.mk m rfl (cl.ok a e q)
/-- {k: v, ..}, by reference -/
theorem ve_dispc {trs : List (TE × TE)} (h : VPs c trs ρ S fun es S1 => es.length ≤ 15 ∧ (es.map Prod.fst).Nodup ∧ ∀ p, S1 p = none → F (.ref p) (put S1 p (.dK es))) : VE c (tDisp trs) ρ S F := fun T σ H I Q k => fun p hp =>
  h (put T p .hid) σ (upd H p (.dK [])) (I.mv (mv_newc hp) (I.cells.newh hp)) _ fun kvs es S' T' H' m cl r ⟨h1, h2, q⟩ => by
    obtain ⟨hx, s⟩ := m.hid p _ put_same upd_same
    have hl : kvs.length = es.length := by
      have e := congrArg List.length (repK_keys r)
      simpa using e
    refine ⟨hx, kvs, rfl, by rw [hl]; exact h1, ?_⟩
    have em : mergeK [] kvs = kvs := by
      have e := mergeK_new (kvs := []) (more := kvs) (by rw [repK_keys r]; exact h2)
      exact e
    rw [em]
    have mm : Mv T H T' (upd H' p (.dK kvs)) := ((mv_newc (d := .hid) hp).trans m).hidw hp
    have sp : S' p = none := by
      rcases cl.ov p with ⟨_, e⟩ | ⟨e, _⟩
      · exact absurd s e
      · exact e
    refine k _ (.ref p) _ (put T' p (.dK es)) _ (mm.show hp) ((cl.hidw s).showD s upd_same (r.mk (mk_hid s))) (.ref p) (q p sp)
end
structure CfC (P : Program) (w : World) (K : PySem.W.Frag) (mg : Str → Option Value) (base : Heap) (k : Nat) (x : Str) (st : Stmt) (ps : List Str) (p : NF → List Str → List V → Pt) (f : Addr) (fd : FuncData) : Prop where
  fn : FnC P w K mg base (L2.CX P w) k f fd ps (spC K p)
  df : Fd K x x st [] f fd
  mg : mg x = some (.ref f)
  b : Binds K fd ps []
theorem CfC.kp {P : Program} {w : World} {K : PySem.W.Frag} {mg : Str → Option Value} {base : Heap} {k : Nat} {x : Str} {st : Stmt} {ps : List Str} {p : NF → List Str → List V → Pt} {f : Addr} {fd : FuncData} (c : CfC P w K mg base k x st ps p f fd) : PySem.W.keepIn K (.ref f) = true := c.df.kp
/-- the words of a def within the frame of X -/
def nfOf (X : Cx) (st : Stmt) (name q : Str) : Addr → NF := NF.of st name q (cloFrom X.env.cells (C8.fnScope st).names [])
section
variable {X : Cx} {st : Stmt} {q name : Str} {fr : List Str}
theorem ps_defB {c P : Addr} {pos : Pos} {i : Nat} (hst : st = .FunctionDef name (C8.fnArgs st) (C8.fnBody st) [] none [] (C8.fnScope st) none name pos) (TB : TabB X.base X.mg c P) (hcode : X.env.code = .ref c) (hq : X.env.qual ++ name = q)
    (hfree : ndefB X.env.scope (C8.fnScope st) fr = true) (hd0 : (C8.fnArgs st).defaults = []) (hk0 : (C8.fnArgs st).kw_defaults = []) (ha : annTrees (C8.fnArgs st) none X.env = [])
    (hN : X.N.Nodup) (hi : X.N[i]? = some name) (hx : Loc X.env.scope name) (hf : X.fn name = true ∨ X.env.scope.names.lookup name = some .local) : PS X st (tDef P q i (nfOf X st name q)) :=
  ps_def hst TB hcode hq (ndef_free hfree) hd0 hk0 ha hN hi hx hf
theorem pe_cCB {k : Nat} {f : Addr} {fd : FuncData} {ps : List Str} {js : List Nat} {p : NF → List Str → List V → Pt} {x : Str} {st2 : Stmt} {E : L2.St → XK} {pp pos : Pos} {e : Expr} {es : List Expr} {t : TA} (c : CfC X.prog X.w X.K X.mg X.base k x st2 ps p f fd) (hfree : ndefB X.env.scope (C8.fnScope st) fr = true) (hjs : js.map (fun j => X.N[j]?) = fr.map some)
    (hfn : ∀ y, X.fn y = true) (hgd : X.A.guards = some []) (hr : Room k X.A) (hg : Gl X x) (hx : PassS (L2.CX X.prog X.w) X E) (ha : PA X (e :: es) t) (hdb : (x == ("__debug__" : Str)) = false := by decide)
    (he : starEach (e :: es) X.env = (false, eval e X.env) :: starEach es X.env := by rfl) (hpl : (backTo pos (starEach es X.env)).any (·.1) = false := by rfl) :
    PE X (.Call (.Name x pp) (e :: es) [] pos) (tCallC js fr (nfOf X st name q) (spC X.K p) E t) :=
  pe_cC c.fn (fun _ => rfl) (fun ok => Caps.made ok (ndef_free hfree) (ndef_fr hfree) hjs) hfn hgd hr hg c.mg c.kp c.b hx ha hdb he hpl
end
end VS
namespace VS
open PySem L2 C8 PySem.Spec PyProof.Rows
/-! ### several tables of code objects at the start -/
theorem TabS0.cons {c P : Addr} {q : Str} {cs : TabsL} {S0 : Sto} (h : TabS0 cs S0) (n : ∀ p ∈ cs, p.2.1 ≠ P) : TabS0 ((c, P, q) :: cs) fun b => if b = P then some (.str q) else S0 b where
  at_ := fun p hp => by
    rcases List.mem_cons.mp hp with rfl | hp
    · exact if_pos rfl
    · exact (if_neg (n p hp)).trans (h.at_ p hp)
  only := fun b d e => by
    by_cases z : b = P
    · have e' := (if_pos z).symm.trans e
      cases e'
      exact ⟨_, List.mem_cons_self, z, rfl⟩
    · have e' := (if_neg z).symm.trans e
      obtain ⟨p, hp, h1, h2⟩ := h.only b d e'
      exact ⟨p, List.mem_cons_of_mem _ hp, h1, h2⟩
end VS
namespace VS
open PySem L2 C8 PySem.Spec PyProof.Rows
/-! ### < of two tuples of whole numbers -/
end VS
open PySem L2 C8 PySem.Spec PyProof.Rows VS
local macro_rules | `(tactic| walk_at "g1") => `(tactic| with_reducible first
  | refine vx_seq ?_ | refine vx_next ?_ | refine vx_asg ?_ | refine vx_drop ?_ | refine vx_ret ?_ | refine vx_retN ?_ | refine vx_if ?_ | refine vx_break ?_ | refine vx_cont ?_ | refine vx_fld ?_
  | refine ve_int ?_ | refine ve_bl ?_ | refine ve_str ?_ | refine ve_non ?_ | refine ve_ty ?_ | refine ve_op ?_ | refine ve_un ?_ | refine ve_cb ?_ | refine ve_tup ?_
  | refine ve_if ?_ | refine ve_andV ?_ | refine ve_orV ?_ | refine ve_notV ?_ | refine ve_chain ?_ | refine ve_m1 ?_ | refine ve_m0 ?_ | refine ve_bm ?_ | refine ve_bm0 ?_ | refine ve_sl ?_ | refine ve_fld ?_
  | refine va_nil ?_ | refine va_cons ?_ | refine vo_none ?_ | refine vo_some ?_
  | refine vt_test ?_ | refine vt_B ?_ | refine vt_and ?_ | refine vt_or ?_ | refine vt_not ?_ | refine vt_yes ?_
  | refine vg_name ?_ | refine vg_subL ?_ | refine ex_ref ?_ | refine vgw_name (by simp) ?_ | refine vgs_nil ?_ | refine vgs_cons ?_ | refine vgws_nil ?_ | refine vgws_cons ?_
  | refine rv_II ?_ | refine rv_IB ?_ | refine rv_isNo ?_ | refine rv_notNo ?_ | refine rv_inS ?_ | refine rv_notInS ?_ | refine rv_ltS ?_ | refine rv_leS ?_
  | refine rc_max2 ?_ | refine rc_min2 ?_ | refine rc_int ?_ | refine rc_intB ?_ | refine rc_ord ?_ | refine rc_abs ?_ | refine ru_I ?_
  | refine ex_bl ?_ | refine ex_str ?_ | refine ex_int ?_)
local macro_rules | `(tactic| walk_at "g2") => `(tactic| first
  | ((with_reducible apply ve_var); · rfl)
  | ((with_reducible refine brT ?_ ?_); · rfl)
  | ((with_reducible refine brF ?_ ?_); · rfl)
  | ((with_reducible apply rv_eq); · rfl)
  | ((with_reducible apply rv_ne); · rfl)
  | ((with_reducible refine rc_lenS ?_ ?_); (· first | assumption | (have q := szl; omega)))
  | ((with_reducible refine rv_IC ?_ ?_); · (first | decide | (show (0 : Int) < _; omega) | (refine cpow ?_ ?_ ?_ <;> first | decide | omega) | (refine cmulW ?_ ?_ <;> first | omega | decide) | (refine cdivW ?_ ?_ <;> first | omega | decide)))
  | ((with_reducible apply rv_ixL); (· first | exact .c (by assumption) | exact .c put_same | exact .v | exact .r); (· rfl))
  | ((with_reducible apply rc_strI64); (· omega))
  | ((with_reducible refine rs_str ?_ ?_); (· first | assumption | (have q := szl; omega)))
  | ((with_reducible refine rv_addS ?_ ?_); (· first | assumption | (have q := szl; omega)))
  | ((with_reducible apply rc_isi); (· first | assumption | constructor | exact .cl (by assumption)); (· first | assumption | rfl))
  | (with_reducible refine ve_f (XOk.none (E := noE)) ?_)
  | (with_reducible refine vg_tup rfl ?_) | (with_reducible refine vgw_tup rfl ?_))
local macro_rules | `(tactic| walk_at "go") => `(tactic| repeat (first | walk_at "g1" | walk_at "g2"))
local macro_rules | `(tactic| walk_at "g7") => `(tactic| first
  | ((with_reducible refine ve_lst ?_); refine va_cons ?_)
  | with_reducible refine ve_lst ?_)
local macro_rules | `(tactic| walk_at "g3") => `(tactic| first
  | with_reducible refine ve_disp ?_
  | with_reducible refine ve_dnew ?_
  | with_reducible refine vps_cons ?_
  | with_reducible refine vps_nil ?_
  | with_reducible refine ex_keyS ?_
  | with_reducible refine ex_keyI ?_
  | ((with_reducible refine rc_listS ?_ ?_); (· first | assumption | (have q := szl; omega)))
  | ((with_reducible refine ⟨?_, ?_, ?_⟩); (· (show _ ≤ 15; simp; done)); (· (show List.Nodup _; simp; done)))
  | ((with_reducible refine ⟨?_, ?_⟩); (· (show _ ≤ sizeLine; have q := szl; simp only [List.length_append, List.length_map, List.length_cons, List.length_nil]; omega))))
local macro_rules | `(tactic| walk_at "g5") => `(tactic| first
  | ((with_reducible apply rv_cat); (· first | exact .v | exact .c put_same | exact .c (by assumption)); (· first | exact .v | exact .c put_same | exact .c (by assumption)); (· (have q := szl; simp only [List.length_append, List.length_map, List.length_cons, List.length_nil]; omega))))
local macro_rules | `(tactic| walk_at "gv") => `(tactic| repeat (first | walk_at "g1" | walk_at "g2" | walk_at "g3" | walk_at "g7" | walk_at "g5"))
local macro_rules | `(tactic| walk_at "ii") => `(tactic| first | exact .v | exact .c put_same | exact .c (by assumption))
local macro_rules | `(tactic| walk_at "g4") => `(tactic| first
  | ((with_reducible apply ex_ins); (· walk_at "ii"); (· rfl))
  | ((with_reducible apply ex_fldI); (· walk_at "ii"); (· assumption); (· assumption); (· rfl))
  | ((with_reducible apply ex_cell); (· first | exact put_same | assumption))
  | ((with_reducible apply ex_self); (· first | exact put_same | assumption); (· assumption); (· assumption); (· decide))
  | with_reducible refine ve_cls ?_
  | with_reducible refine ve_orL ?_
  | with_reducible refine vx_par ?_
  | with_reducible refine ex_two ?_
  | with_reducible refine ve_mt0 (XOk.none (E := noE)) ?_
  | ((with_reducible apply rv_ixT); (· first | rfl | exact atI_zero))
  | with_reducible refine ve_mk0 (XOk.none (E := noE)) ?_
  | with_reducible refine ve_mk0 (XOk.same fun _ _ _ h => h) ?_
  | with_reducible refine ve_f (XOk.same fun _ _ _ h => h) ?_
  | with_reducible refine ve_mt0 (XOk.same fun _ _ _ h => h) ?_
  | with_reducible refine vx_raise ?_
  | with_reducible refine vx_raise2 ?_
  | with_reducible refine ve_xf ?_
  | ((with_reducible apply ex_xf); (· rfl))
  | with_reducible refine vx_tryD fun E' => ?_
  | with_reducible refine vx_tryE fun E' => ?_
  | with_reducible refine rv_eqET ?_
  | with_reducible refine rv_neET ?_
  | ((with_reducible apply rv_eqEL); (· first | exact .v | exact .r | exact .c put_same | exact .c (by assumption)))
  | ((with_reducible apply rv_neEL); (· first | exact .v | exact .r | exact .c put_same | exact .c (by assumption)))
  | with_reducible refine rs_tupG ?_
  | ((with_reducible refine rv_catA ?_ ?_); (· (have q := szl; simp only [List.length_append, List.length_map, List.length_cons, List.length_nil]; omega)))
  | ((with_reducible apply rc_tupleL); (· first | exact .v | exact .r | exact .c put_same | exact .c (by assumption)))
  | ((with_reducible apply rc_lenQ); (· first | exact .t | exact .l .v | exact .l .r | exact .l (.c put_same) | exact .l (.c (by assumption)))))
local macro_rules | `(tactic| walk_at "g8") => `(tactic| first
  | ((with_reducible apply rs_list); (· first | exact .v | exact .r | exact .c put_same | exact .c (by assumption)))
  | ((with_reducible apply rc_list); (· first | exact .t | exact .l .v | exact .l .r | exact .l (.c put_same) | exact .l (.c (by assumption)))))
local macro_rules | `(tactic| walk_at "gr") => `(tactic| repeat (first | walk_at "g1" | walk_at "gp" | walk_at "g2" | walk_at "g4" | walk_at "g3"))
local macro_rules | `(tactic| walk_at "ga") => `(tactic| repeat (first | walk_at "g1" | walk_at "gp" | walk_at "g2" | walk_at "g4" | walk_at "g8" | walk_at "g3" | walk_at "g7" | walk_at "g5"))
local macro_rules | `(tactic| walk_at "gn") => `(tactic| repeat (first | walk_at "g1" | walk_at "gp" | walk_at "g2" | walk_at "g4" | walk_at "g8" | walk_at "g3" | walk_at "g7"))
local macro_rules | `(tactic| walk_at "gl") => `(tactic| repeat (first | walk_at "g1" | walk_at "gp" | walk_at "g2" | walk_at "g4" | walk_at "g8" | walk_at "g3" | walk_at "g5"))
local macro_rules | `(tactic| walk_at "gp") => `(tactic| ((with_reducible apply ve_kd); · assumption))
namespace LW
open PySem L2 C8 PySem.Spec PyProof.Rows VS
def top (i : Nat) : Stmt := PySem.Challenge.pw_boxinbox_k52_rows_and_reasons.main.body.getD i (.Pass ⟨0, 0, 0, 0⟩)
def inClass (st : Stmt) (j : Nat) : Stmt := match st with
  | .ClassDef (body := b) .. => b.getD j (.Pass ⟨0, 0, 0, 0⟩)
  | _ => .Pass ⟨0, 0, 0, 0⟩
abbrev s_is_whole : Stmt := top 22
abbrev n_is_whole : List Str := ["thing", "low", "high"]
abbrev a_is_whole : List Str := ["thing", "low", "high"]
theorem sc_is_whole : FnScope n_is_whole a_is_whole (defScope s_is_whole) := ⟨rfl, rfl, rfl, by decide +kernel, rfl, by decide +kernel, by decide +kernel⟩
abbrev s_Sides___init__ : Stmt := inClass (top 25) 0
abbrev n_Sides___init__ : List Str := ["self", "one", "other", "third", "side"]
abbrev a_Sides___init__ : List Str := ["self", "one", "other", "third"]
theorem sc_Sides___init__ : FnScope n_Sides___init__ a_Sides___init__ (defScope s_Sides___init__) := ⟨rfl, rfl, rfl, by decide +kernel, rfl, by decide +kernel, by decide +kernel⟩
abbrev s_Sides_told : Stmt := inClass (top 25) 1
abbrev n_Sides_told : List Str := ["self"]
abbrev a_Sides_told : List Str := ["self"]
theorem sc_Sides_told : FnScope n_Sides_told a_Sides_told (defScope s_Sides_told) := ⟨rfl, rfl, rfl, by decide +kernel, rfl, by decide +kernel, by decide +kernel⟩
abbrev s_Sides_ranked : Stmt := inClass (top 25) 2
abbrev n_Sides_ranked : List Str := ["self"]
abbrev a_Sides_ranked : List Str := ["self"]
theorem sc_Sides_ranked : FnScope n_Sides_ranked a_Sides_ranked (defScope s_Sides_ranked) := ⟨rfl, rfl, rfl, by decide +kernel, rfl, by decide +kernel, by decide +kernel⟩
abbrev s_is_limit : Stmt := top 29
abbrev n_is_limit : List Str := ["thing", "low", "high"]
abbrev a_is_limit : List Str := ["thing", "low", "high"]
theorem sc_is_limit : FnScope n_is_limit a_is_limit (defScope s_is_limit) := ⟨rfl, rfl, rfl, by decide +kernel, rfl, by decide +kernel, by decide +kernel⟩
abbrev s_is_row : Stmt := top 30
abbrev n_is_row : List Str := ["thing", "limit"]
abbrev a_is_row : List Str := ["thing"]
theorem sc_is_row : FnScope n_is_row a_is_row (defScope s_is_row) := ⟨rfl, rfl, rfl, by decide +kernel, rfl, by decide +kernel, by decide +kernel⟩
abbrev s_passed : Stmt := top 14
abbrev n_passed : List Str := ["row", "place", "word", "limit", "number"]
abbrev a_passed : List Str := ["row", "place"]
theorem sc_passed : FnScope n_passed a_passed (defScope s_passed) := ⟨rfl, rfl, rfl, by decide +kernel, rfl, by decide +kernel, by decide +kernel⟩
abbrev s_row_at : Stmt := top 15
abbrev n_row_at : List Str := ["rows", "place", "number", "row"]
abbrev a_row_at : List Str := ["rows", "place"]
theorem sc_row_at : FnScope n_row_at a_row_at (defScope s_row_at) := ⟨rfl, rfl, rfl, by decide +kernel, rfl, by decide +kernel, by decide +kernel⟩
abbrev s_price_at : Stmt := top 16
abbrev n_price_at : List Str := ["rows", "place", "number"]
abbrev a_price_at : List Str := ["rows", "place"]
theorem sc_price_at : FnScope n_price_at a_price_at (defScope s_price_at) := ⟨rfl, rfl, rfl, by decide +kernel, rfl, by decide +kernel, by decide +kernel⟩
abbrev s_values_of : Stmt := top 17
abbrev n_values_of : List Str := ["rows", "at", "first", "most", "found", "row"]
abbrev a_values_of : List Str := ["rows", "at", "first", "most"]
theorem sc_values_of : FnScope n_values_of a_values_of (defScope s_values_of) := ⟨rfl, rfl, rfl, by decide +kernel, rfl, by decide +kernel, by decide +kernel⟩
abbrev s_merged : Stmt := top 18
abbrev n_merged : List Str := ["one", "other"]
abbrev a_merged : List Str := ["one", "other"]
theorem sc_merged : FnScope n_merged a_merged (defScope s_merged) := ⟨rfl, rfl, rfl, by decide +kernel, rfl, by decide +kernel, by decide +kernel⟩
abbrev s_parts_at : Stmt := top 20
abbrev n_parts_at : List Str := ["one", "other", "unlike"]
abbrev a_parts_at : List Str := ["one", "other"]
theorem sc_parts_at : FnScope n_parts_at a_parts_at (defScope s_parts_at) := ⟨rfl, rfl, rfl, by decide +kernel, rfl, by decide +kernel, by decide +kernel⟩
abbrev s_parts_at_unlike : Stmt := (defBody s_parts_at).getD 0 (.Pass ⟨0, 0, 0, 0⟩)
abbrev n_parts_at_unlike : List Str := ["place", "one", "other"]
abbrev a_parts_at_unlike : List Str := ["place"]
abbrev fr_parts_at_unlike : List Str := ["one", "other"]
theorem sc_parts_at_unlike : NdefX.NScope n_parts_at_unlike a_parts_at_unlike fr_parts_at_unlike (C8.fnScope s_parts_at_unlike) := NdefX.nscope_by (by decide +kernel)
abbrev s_least_place : Stmt := top 19
abbrev n_least_place : List Str := ["rows", "holds", "shorts", "middles", "longs", "weights", "long", "middle", "short", "weight", "value"]
abbrev a_least_place : List Str := ["rows", "holds"]
theorem sc_least_place : FnScope n_least_place a_least_place (defScope s_least_place) := ⟨rfl, rfl, rfl, by decide +kernel, rfl, by decide +kernel, by decide +kernel⟩
abbrev s_PriceTable___init__ : Stmt := inClass (top 31) 0
abbrev n_PriceTable___init__ : List Str := ["self", "rows", "row"]
abbrev a_PriceTable___init__ : List Str := ["self", "rows"]
theorem sc_PriceTable___init__ : FnScope n_PriceTable___init__ a_PriceTable___init__ (defScope s_PriceTable___init__) := ⟨rfl, rfl, rfl, by decide +kernel, rfl, by decide +kernel, by decide +kernel⟩
abbrev s_PriceTable_rows : Stmt := inClass (top 31) 1
abbrev n_PriceTable_rows : List Str := ["self"]
abbrev a_PriceTable_rows : List Str := ["self"]
theorem sc_PriceTable_rows : FnScope n_PriceTable_rows a_PriceTable_rows (defScope s_PriceTable_rows) := ⟨rfl, rfl, rfl, by decide +kernel, rfl, by decide +kernel, by decide +kernel⟩
abbrev s_PriceTable___eq__ : Stmt := inClass (top 31) 3
abbrev n_PriceTable___eq__ : List Str := ["self", "other"]
abbrev a_PriceTable___eq__ : List Str := ["self", "other"]
theorem sc_PriceTable___eq__ : FnScope n_PriceTable___eq__ a_PriceTable___eq__ (defScope s_PriceTable___eq__) := ⟨rfl, rfl, rfl, by decide +kernel, rfl, by decide +kernel, by decide +kernel⟩
abbrev s_PriceTable_row_of : Stmt := inClass (top 31) 4
abbrev n_PriceTable_row_of : List Str := ["self", "sides", "weight", "place", "reasons", "number", "row", "reason"]
abbrev a_PriceTable_row_of : List Str := ["self", "sides", "weight"]
theorem sc_PriceTable_row_of : FnScope n_PriceTable_row_of a_PriceTable_row_of (defScope s_PriceTable_row_of) := ⟨rfl, rfl, rfl, by decide +kernel, rfl, by decide +kernel, by decide +kernel⟩
abbrev s__law_cell : Stmt := top 33
abbrev n__law_cell : List Str := ["_law_script", "_law_k"]
abbrev a__law_cell : List Str := ["_law_script", "_law_k"]
theorem sc__law_cell : FnScope n__law_cell a__law_cell (defScope s__law_cell) := ⟨rfl, rfl, rfl, by decide +kernel, rfl, by decide +kernel, by decide +kernel⟩
abbrev s__law_purse : Stmt := top 34
abbrev n__law_purse : List Str := ["_law_cell_here"]
abbrev a__law_purse : List Str := ["_law_cell_here"]
theorem sc__law_purse : FnScope n__law_purse a__law_purse (defScope s__law_purse) := ⟨rfl, rfl, rfl, by decide +kernel, rfl, by decide +kernel, by decide +kernel⟩
abbrev s__law_take : Stmt := top 35
abbrev n__law_take : List Str := ["_law_purse_here", "_law_many", "_law_digit", "_law_one", "_law_other"]
abbrev a__law_take : List Str := ["_law_purse_here", "_law_many"]
theorem sc__law_take : FnScope n__law_take a__law_take (defScope s__law_take) := ⟨rfl, rfl, rfl, by decide +kernel, rfl, by decide +kernel, by decide +kernel⟩
abbrev s__law_limit : Stmt := top 36
abbrev n__law_limit : List Str := ["_law_purse_here", "_law_low", "_law_most", "_law_small"]
abbrev a__law_limit : List Str := ["_law_purse_here", "_law_low", "_law_most", "_law_small"]
theorem sc__law_limit : FnScope n__law_limit a__law_limit (defScope s__law_limit) := ⟨rfl, rfl, rfl, by decide +kernel, rfl, by decide +kernel, by decide +kernel⟩
abbrev s__law_rows : Stmt := top 37
abbrev n__law_rows : List Str := ["_law_purse_here", "_law_many", "_law_small", "_law_found", "_law_k", "_law_sides", "_law_weight", "_law_price", "_law_turn"]
abbrev a__law_rows : List Str := ["_law_purse_here", "_law_many", "_law_small"]
theorem sc__law_rows : FnScope n__law_rows a__law_rows (defScope s__law_rows) := ⟨rfl, rfl, rfl, by decide +kernel, rfl, by decide +kernel, by decide +kernel⟩
abbrev s__law_place : Stmt := top 38
abbrev n__law_place : List Str := ["_law_purse_here", "_law_rows_here", "_law_row", "_law_numbers", "_law_spot", "_law_low", "_law_most", "_law_limit_here", "_law_more", "_law_turn", "_law_sides"]
abbrev a__law_place : List Str := ["_law_purse_here", "_law_rows_here"]
theorem sc__law_place : FnScope n__law_place a__law_place (defScope s__law_place) := ⟨rfl, rfl, rfl, by decide +kernel, rfl, by decide +kernel, by decide +kernel⟩
abbrev s__law_due : Stmt := top 39
abbrev n__law_due : List Str := ["_law_rows_here", "_law_sides", "_law_weight", "_law_place_here", "_law_reasons", "_law_number", "_law_row", "_law_first", "_law_word", "_law_limit_here", "_law_asked_here"]
abbrev a__law_due : List Str := ["_law_rows_here", "_law_sides", "_law_weight"]
theorem sc__law_due : FnScope n__law_due a__law_due (defScope s__law_due) := ⟨rfl, rfl, rfl, by decide +kernel, rfl, by decide +kernel, by decide +kernel⟩
abbrev s__law_asked : Stmt := top 40
abbrev n__law_asked : List Str := ["_law_table", "_law_sides", "_law_weight", "e"]
abbrev a__law_asked : List Str := ["_law_table", "_law_sides", "_law_weight"]
theorem sc__law_asked : FnScope n__law_asked a__law_asked (defScope s__law_asked) := ⟨rfl, rfl, rfl, by decide +kernel, rfl, by decide +kernel, by decide +kernel⟩
abbrev s__law_refused_right : Stmt := top 41
abbrev n__law_refused_right : List Str := ["_law_purse_here", "_law_table", "_law_odd", "_law_sides", "_law_weight", "_law_word", "_law_found"]
abbrev a__law_refused_right : List Str := ["_law_purse_here", "_law_table"]
theorem sc__law_refused_right : FnScope n__law_refused_right a__law_refused_right (defScope s__law_refused_right) := ⟨rfl, rfl, rfl, by decide +kernel, rfl, by decide +kernel, by decide +kernel⟩
abbrev s_law : Stmt := top 42
abbrev n_law : List Str := ["_law_script", "_law_k", "_law_purse_here", "_law_both", "_law_tables", "_law_turn", "_law_lying", "_law_weight", "_law_sides", "_law_weights", "_law_rows_here", "_law_table", "_law_word", "_law_found"]
abbrev a_law : List Str := ["_law_script"]
theorem sc_law : FnScope n_law a_law (defScope s_law) := ⟨rfl, rfl, rfl, by decide +kernel, rfl, by decide +kernel, by decide +kernel⟩
abbrev s_NoRows___init__ : Stmt := inClass (top 8) 0
abbrev n_NoRows___init__ : List Str := ["self", "found"]
abbrev a_NoRows___init__ : List Str := ["self", "found"]
theorem sc_NoRows___init__ : FnScope n_NoRows___init__ a_NoRows___init__ (defScope s_NoRows___init__) := ⟨rfl, rfl, rfl, by decide +kernel, rfl, by decide +kernel, by decide +kernel⟩
abbrev s_NoSide___init__ : Stmt := inClass (top 6) 0
abbrev n_NoSide___init__ : List Str := ["self", "found"]
abbrev a_NoSide___init__ : List Str := ["self", "found"]
theorem sc_NoSide___init__ : FnScope n_NoSide___init__ a_NoSide___init__ (defScope s_NoSide___init__) := ⟨rfl, rfl, rfl, by decide +kernel, rfl, by decide +kernel, by decide +kernel⟩
abbrev s_NoSides___init__ : Stmt := inClass (top 7) 0
abbrev n_NoSides___init__ : List Str := ["self", "found"]
abbrev a_NoSides___init__ : List Str := ["self", "found"]
theorem sc_NoSides___init__ : FnScope n_NoSides___init__ a_NoSides___init__ (defScope s_NoSides___init__) := ⟨rfl, rfl, rfl, by decide +kernel, rfl, by decide +kernel, by decide +kernel⟩
abbrev s_NoNumber___init__ : Stmt := inClass (top 5) 0
abbrev n_NoNumber___init__ : List Str := ["self", "found"]
abbrev a_NoNumber___init__ : List Str := ["self", "found"]
theorem sc_NoNumber___init__ : FnScope n_NoNumber___init__ a_NoNumber___init__ (defScope s_NoNumber___init__) := ⟨rfl, rfl, rfl, by decide +kernel, rfl, by decide +kernel, by decide +kernel⟩
abbrev s_NoRow___init__ : Stmt := inClass (top 9) 0
abbrev n_NoRow___init__ : List Str := ["self", "reasons"]
abbrev a_NoRow___init__ : List Str := ["self", "reasons"]
theorem sc_NoRow___init__ : FnScope n_NoRow___init__ a_NoRow___init__ (defScope s_NoRow___init__) := ⟨rfl, rfl, rfl, by decide +kernel, rfl, by decide +kernel, by decide +kernel⟩
def perms : List (List Int) := [[0, 1, 2], [0, 2, 1], [1, 0, 2], [1, 2, 0], [2, 0, 1], [2, 1, 0]]
structure Tx (K : PySem.W.Frag) (mg : Str → Option Value) : Prop where
  b_all : mg "all" = none
  b_bool : mg "bool" = none
  b_enumerate : mg "enumerate" = none
  b_int : mg "int" = none
  b_isinstance : mg "isinstance" = none
  b_len : mg "len" = none
  b_list : mg "list" = none
  b_max : mg "max" = none
  b_min : mg "min" = none
  b_range : mg "range" = none
  b_repr : mg "repr" = none
  b_reversed : mg "reversed" = none
  b_set : mg "set" = none
  b_sorted : mg "sorted" = none
  b_tuple : mg "tuple" = none
  b_zip : mg "zip" = none
  c_MOST_PRICE : ∃ u, mg "MOST_PRICE" = some u ∧ RelV (.int 1000000) u
  c_MOST_ROWS : ∃ u, mg "MOST_ROWS" = some u ∧ RelV (.int 4) u
  c_MOST_SIDE_grids : ∃ u, mg "MOST_SIDE_grids" = some u ∧ RelV (.int 100000) u
  c_MOST_SIDE_sides : ∃ u, mg "MOST_SIDE_sides" = some u ∧ RelV (.int 100000) u
  c_MOST_WEIGHT : ∃ u, mg "MOST_WEIGHT" = some u ∧ RelV (.int 2000000) u
  c_WORDS : ∃ a : Addr, (∃ u, mg "WORDS" = some u ∧ RelV (.ref a) u) ∧ ∀ H S, Rep K H S (.ref a) (.tup [.str "long", .str "middle", .str "short", .str "weight"])
  e_NoRows_NoRows : ∀ A B : Addr, mg "NoRows" = some (.ref A) → mg "NoRows" = some (.ref B) → PySem.W.exmOne K (.ref A) (.ref B) = some true
  e_NoRows_NoSide : ∀ A B : Addr, mg "NoRows" = some (.ref A) → mg "NoSide" = some (.ref B) → PySem.W.exmOne K (.ref A) (.ref B) = some false
  e_NoRows_NoSides : ∀ A B : Addr, mg "NoRows" = some (.ref A) → mg "NoSides" = some (.ref B) → PySem.W.exmOne K (.ref A) (.ref B) = some false
  e_NoRows_NoNumber : ∀ A B : Addr, mg "NoRows" = some (.ref A) → mg "NoNumber" = some (.ref B) → PySem.W.exmOne K (.ref A) (.ref B) = some false
  e_NoRows_NoRow : ∀ A B : Addr, mg "NoRows" = some (.ref A) → mg "NoRow" = some (.ref B) → PySem.W.exmOne K (.ref A) (.ref B) = some false
  e_NoSide_NoRows : ∀ A B : Addr, mg "NoSide" = some (.ref A) → mg "NoRows" = some (.ref B) → PySem.W.exmOne K (.ref A) (.ref B) = some false
  e_NoSide_NoSide : ∀ A B : Addr, mg "NoSide" = some (.ref A) → mg "NoSide" = some (.ref B) → PySem.W.exmOne K (.ref A) (.ref B) = some true
  e_NoSide_NoSides : ∀ A B : Addr, mg "NoSide" = some (.ref A) → mg "NoSides" = some (.ref B) → PySem.W.exmOne K (.ref A) (.ref B) = some false
  e_NoSide_NoNumber : ∀ A B : Addr, mg "NoSide" = some (.ref A) → mg "NoNumber" = some (.ref B) → PySem.W.exmOne K (.ref A) (.ref B) = some false
  e_NoSide_NoRow : ∀ A B : Addr, mg "NoSide" = some (.ref A) → mg "NoRow" = some (.ref B) → PySem.W.exmOne K (.ref A) (.ref B) = some false
  e_NoSides_NoRows : ∀ A B : Addr, mg "NoSides" = some (.ref A) → mg "NoRows" = some (.ref B) → PySem.W.exmOne K (.ref A) (.ref B) = some false
  e_NoSides_NoSide : ∀ A B : Addr, mg "NoSides" = some (.ref A) → mg "NoSide" = some (.ref B) → PySem.W.exmOne K (.ref A) (.ref B) = some false
  e_NoSides_NoSides : ∀ A B : Addr, mg "NoSides" = some (.ref A) → mg "NoSides" = some (.ref B) → PySem.W.exmOne K (.ref A) (.ref B) = some true
  e_NoSides_NoNumber : ∀ A B : Addr, mg "NoSides" = some (.ref A) → mg "NoNumber" = some (.ref B) → PySem.W.exmOne K (.ref A) (.ref B) = some false
  e_NoSides_NoRow : ∀ A B : Addr, mg "NoSides" = some (.ref A) → mg "NoRow" = some (.ref B) → PySem.W.exmOne K (.ref A) (.ref B) = some false
  e_NoNumber_NoRows : ∀ A B : Addr, mg "NoNumber" = some (.ref A) → mg "NoRows" = some (.ref B) → PySem.W.exmOne K (.ref A) (.ref B) = some false
  e_NoNumber_NoSide : ∀ A B : Addr, mg "NoNumber" = some (.ref A) → mg "NoSide" = some (.ref B) → PySem.W.exmOne K (.ref A) (.ref B) = some false
  e_NoNumber_NoSides : ∀ A B : Addr, mg "NoNumber" = some (.ref A) → mg "NoSides" = some (.ref B) → PySem.W.exmOne K (.ref A) (.ref B) = some false
  e_NoNumber_NoNumber : ∀ A B : Addr, mg "NoNumber" = some (.ref A) → mg "NoNumber" = some (.ref B) → PySem.W.exmOne K (.ref A) (.ref B) = some true
  e_NoNumber_NoRow : ∀ A B : Addr, mg "NoNumber" = some (.ref A) → mg "NoRow" = some (.ref B) → PySem.W.exmOne K (.ref A) (.ref B) = some false
  e_NoRow_NoRows : ∀ A B : Addr, mg "NoRow" = some (.ref A) → mg "NoRows" = some (.ref B) → PySem.W.exmOne K (.ref A) (.ref B) = some false
  e_NoRow_NoSide : ∀ A B : Addr, mg "NoRow" = some (.ref A) → mg "NoSide" = some (.ref B) → PySem.W.exmOne K (.ref A) (.ref B) = some false
  e_NoRow_NoSides : ∀ A B : Addr, mg "NoRow" = some (.ref A) → mg "NoSides" = some (.ref B) → PySem.W.exmOne K (.ref A) (.ref B) = some false
  e_NoRow_NoNumber : ∀ A B : Addr, mg "NoRow" = some (.ref A) → mg "NoNumber" = some (.ref B) → PySem.W.exmOne K (.ref A) (.ref B) = some false
  e_NoRow_NoRow : ∀ A B : Addr, mg "NoRow" = some (.ref A) → mg "NoRow" = some (.ref B) → PySem.W.exmOne K (.ref A) (.ref B) = some true
structure Kl_PriceTable (K : PySem.W.Frag) (mg : Str → Option Value) (C : Addr) : Prop where
  at_ : mg "PriceTable" = some (.ref C)
  ins : C8.InsC K C
  a_kept : NoAttr K C "kept"
  t_int : PySem.W.kitOne K (.type "int") (.ref C) = some false
  t_bool : PySem.W.kitOne K (.type "bool") (.ref C) = some false
  t_str : PySem.W.kitOne K (.type "str") (.ref C) = some false
  t_NoneType : PySem.W.kitOne K (.type "NoneType") (.ref C) = some false
  t_list : PySem.W.kitOne K (.type "list") (.ref C) = some false
  t_tuple : PySem.W.kitOne K (.type "tuple") (.ref C) = some false
  t_dict : PySem.W.kitOne K (.type "dict") (.ref C) = some false
  s_int : PySem.W.subIn K (.type "int") (.ref C) = some false
  s_bool : PySem.W.subIn K (.type "bool") (.ref C) = some false
  s_str : PySem.W.subIn K (.type "str") (.ref C) = some false
  s_NoneType : PySem.W.subIn K (.type "NoneType") (.ref C) = some false
  s_list : PySem.W.subIn K (.type "list") (.ref C) = some false
  s_tuple : PySem.W.subIn K (.type "tuple") (.ref C) = some false
  s_dict : PySem.W.subIn K (.type "dict") (.ref C) = some false
  l_obj : PySem.W.mroIn K C (.type "object") = some true
  l_ne : PySem.W.findIn K (.ref C) "__ne__" = some (some (.builtin "object.__ne__"))
  l_int : PySem.W.subIn K (.ref C) (.type "int") = some false
  l_bool : PySem.W.subIn K (.ref C) (.type "bool") = some false
  l_str : PySem.W.subIn K (.ref C) (.type "str") = some false
  l_NoneType : PySem.W.subIn K (.ref C) (.type "NoneType") = some false
  l_list : PySem.W.subIn K (.ref C) (.type "list") = some false
  l_tuple : PySem.W.subIn K (.ref C) (.type "tuple") = some false
  l_dict : PySem.W.subIn K (.ref C) (.type "dict") = some false
  o_Sides : ∀ X, mg "Sides" = some (.ref X) → PySem.W.kitOne K (.ref C) (.ref X) = some false
theorem Kl_PriceTable.no {K : PySem.W.Frag} {mg : Str → Option Value} {C : Addr} (k : Kl_PriceTable K mg C) {d : D} (h : isP d = true) : PySem.W.kitOne K (.type (tyN d)) (.ref C) = some false :=
  tyN_all (P := fun n => PySem.W.kitOne K (.type n) (.ref C) = some false) k.t_NoneType k.t_bool k.t_int k.t_str k.t_list k.t_tuple k.t_dict h
structure Kl_Sides (K : PySem.W.Frag) (mg : Str → Option Value) (C : Addr) : Prop where
  at_ : mg "Sides" = some (.ref C)
  ins : C8.InsC K C
  a_three : NoAttr K C "three"
  a_rows : NoAttr K C "rows"
  t_int : PySem.W.kitOne K (.type "int") (.ref C) = some false
  t_bool : PySem.W.kitOne K (.type "bool") (.ref C) = some false
  t_str : PySem.W.kitOne K (.type "str") (.ref C) = some false
  t_NoneType : PySem.W.kitOne K (.type "NoneType") (.ref C) = some false
  t_list : PySem.W.kitOne K (.type "list") (.ref C) = some false
  t_tuple : PySem.W.kitOne K (.type "tuple") (.ref C) = some false
  t_dict : PySem.W.kitOne K (.type "dict") (.ref C) = some false
theorem Kl_Sides.no {K : PySem.W.Frag} {mg : Str → Option Value} {C : Addr} (k : Kl_Sides K mg C) {d : D} (h : isP d = true) : PySem.W.kitOne K (.type (tyN d)) (.ref C) = some false :=
  tyN_all (P := fun n => PySem.W.kitOne K (.type n) (.ref C) = some false) k.t_NoneType k.t_bool k.t_int k.t_str k.t_list k.t_tuple k.t_dict h
end LW
namespace LW
open PySem L2 C8 PySem.Spec PyProof.Rows VS
/-- what a thing is, as far as whole numbers go -/
inductive Wh (K : PySem.W.Frag) (S : Sto) : D → Option Int → Prop
  | i (i : Int) : Wh K S (.int i) (some i)
  | b (b : Bool) : Wh K S (.bl b) none
  | o {d : D} {t : Value} (h : OfC K S d t) (k : PySem.W.kitOne K t (.type "int") = some false) (n : ∀ i, d ≠ .int i) : Wh K S d none
def whB (o : Option Int) (lo hi : Int) : Bool := match o with
  | some i => decide (lo ≤ i) && decide (i ≤ hi)
  | none => false
theorem whB_of {i lo hi : Int} (h : lo ≤ i ∧ i ≤ hi) : whB (some i) lo hi = true := by
  show (decide (lo ≤ i) && decide (i ≤ hi)) = true
  rw [decide_eq_true h.1, decide_eq_true h.2]; rfl
theorem Wh.some {K : PySem.W.Frag} {S : Sto} {d : D} {i : Int} (h : Wh K S d (some i)) : d = .int i := by cases h; rfl
def p_is_whole (K : PySem.W.Frag) : Pt := fun ds S G _ => ∃ d o lo hi, ds = [d, .int lo, .int hi] ∧ Wh K S d o ∧ G (.bl (whB o lo hi)) S
section
variable {P : Program} {w : World} {K : PySem.W.Frag} {mg : Str → Option Value} {base : Heap}
theorem ok_is_whole {f : Addr} {fd : FuncData} {C_PriceTable C_Sides C_NoRows C_NoSide C_NoSides C_NoNumber C_NoRow Pl : Addr}
    (F : Fd K "is_whole" "is_whole" s_is_whole [] f fd) (T : Tx K mg) (hsys : SysOk base) :
    FnG P w K mg base (L2.CX P w) 1 f fd a_is_whole (spOf K (p_is_whole K)) := by
  refine VS.unbox ?_
  simp (disch := with_unfolding_all
    refine fn_val F sc_is_whole (fun ds S G Y h => ?_) (fun cdv A hgd outer s H E hr px tk po ds S G Y h => ?_)
    · obtain ⟨d, o, lo, hi, rfl, _⟩ := h
      rfl
    · obtain ⟨d, o, lo, hi, rfl, h, q⟩ := h
      refine ⟨_, (pss_one (ps_ret (pe_and (pe_callB c_isiZ (by rfl) T.b_isinstance (by decide +kernel) (pa_cons (pv 0) (pa_cons (pe_bltn (v := .ty "int") (by rfl) T.b_int (by decide +kernel) rfl) pa_nil))) (pe_and (pe_not (pe_callB c_isiZ (by rfl) T.b_isinstance (by decide +kernel) (pa_cons (pv 0) (pa_cons (pe_bltn (v := .ty "bool") (by rfl) T.b_bool (by decide +kernel) rfl) pa_nil)))) (pe_one (pe_chain op_le op_le (pv 1) (pv 0) (pv 2))))))), ?_⟩
      dsimp only [cxOf, List.map]
      show VX _ _ [_, _, _] _ _
      cases h with
      | i i =>
        walk_at "go"
        refine br (fun h1 => ?_) (fun h1 => ?_)
        · walk_at "go"
          have e : whB (some i) lo hi = decide (i ≤ hi) := by show (decide (lo ≤ i) && decide (i ≤ hi)) = _; rw [decide_eq_true h1]; rfl
          rw [← e]
          exact q
        · have e : whB (some i) lo hi = false := by show (decide (lo ≤ i) && decide (i ≤ hi)) = _; rw [decide_eq_false h1]; rfl
          rw [← e]
          exact q
      | b b =>
        walk_at "go"
        exact q
      | o ht hk hn =>
        walk_at "go"
        refine rc_isiP ht hk ?_
        walk_at "go"
        exact q) only [↓VS.box]
end
/-! ### orders -/
def ordB : List D → Bool
  | [.int a, .int b, .int c] => perms.contains [a, b, c]
  | _ => false
theorem ordB_of {p : List Int} (h : p ∈ perms) : ordB (p.map D.int) = true := by
  simp only [perms, List.mem_cons, List.not_mem_nil, or_false] at h
  rcases h with rfl | rfl | rfl | rfl | rfl | rfl <;> rfl
/-- what a thing is, as far as orders go -/
inductive Od (K : PySem.W.Frag) (S : Sto) : D → Bool → Prop
  | t {xs : List D} (hl : xs.length ≤ 1000) (h : ∀ x ∈ xs, ∃ o, Wh K S x o) : Od K S (.tup xs) (ordB xs)
  | o {d : D} {t : Value} (h : OfC K S d t) (k : PySem.W.kitOne K t (.type "tuple") = some false) : Od K S d false
theorem Od.perm {K : PySem.W.Frag} {S : Sto} {p : List Int} (h : p ∈ perms) : Od K S (.tup (p.map D.int)) true := by
  rw [← ordB_of h]
  refine .t ?_ fun x hx => ?_
  · simp only [perms, List.mem_cons, List.not_mem_nil, or_false] at h
    rcases h with rfl | rfl | rfl | rfl | rfl | rfl <;> decide
  · obtain ⟨i, _, rfl⟩ := List.mem_map.mp hx
    exact ⟨_, .i i⟩
end LW
namespace LW
open PySem L2 C8 PySem.Spec PyProof.Rows VS
/-! ### Sides by value -/
def fD (t : D) : List (Str × D) := [("three", t)]
def sd (C : Addr) (a b c : Int) : D := .ins C (fD (.tup [.int a, .int b, .int c]))
def In1 (a : Int) : Prop := 1 ≤ a ∧ a ≤ 100000
/-- the first thing that is no side -/
def bad : List (D × Option Int) → Option D
  | [] => none
  | (d, o) :: r => if whB o 1 100000 = true then bad r else some d
def p_Sides_init (K : PySem.W.Frag) (CS CX : Addr) : Pt := fun ds S G Y => ∃ y d1 d2 d3 o1 o2 o3, ds = [.ref y, d1, d2, d3] ∧ S y = some (.ins CS []) ∧ Wh K S d1 o1 ∧ Wh K S d2 o2 ∧ Wh K S d3 o3 ∧
  (bad [(d1, o1), (d2, o2), (d3, o3)] = none → G .non (put S y (.ins CS (fD (.tup [d1, d2, d3]))))) ∧ ∀ d, bad [(d1, o1), (d2, o2), (d3, o3)] = some d → Y CX [("found", d)] S
theorem bad_of {a b c : Int} {d1 d2 d3 : D} (ha : In1 a) (hb : In1 b) (hc : In1 c) : bad [(d1, some a), (d2, some b), (d3, some c)] = none := by
  unfold bad
  rw [if_pos (whB_of ha)]
  unfold bad
  rw [if_pos (whB_of hb)]
  unfold bad
  rw [if_pos (whB_of hc)]
  rfl
/-- the call of the maker where all is good -/
theorem init_ok {K : PySem.W.Frag} {CS CX : Addr} {a b c : Int} (ha : In1 a) (hb : In1 b) (hc : In1 c) {y : Addr} {S : Sto} (hy : S y = none) {G : D → Sto → Prop} {Y : Addr → List (Str × D) → Sto → Prop} (q : G .non (put (put S y (.ins CS [])) y (sd CS a b c))) :
    p_Sides_init K CS CX [.ref y, .int a, .int b, .int c] (put S y (.ins CS [])) G Y :=
  ⟨y, _, _, _, _, _, _, rfl, put_same, .i a, .i b, .i c, fun _ => q, fun d h => by rw [bad_of ha hb hc] at h; cases h⟩
def p_told (CS : Addr) : Pt := fun ds S G _ => ∃ a b c, ds = [sd CS a b c] ∧ G (.tup [.int a, .int b, .int c]) S
def p_ranked (CS : Addr) : Pt := fun ds S G _ => ∃ a b c, ds = [sd CS a b c] ∧ G (.tup ((dn [a, b, c]).map D.int)) S
/-- the side of a number -/
def tn (a b c i : Int) : Int := if i = 0 then a else if i = 1 then b else c
section
variable {P : Program} {w : World} {K : PySem.W.Frag} {mg : Str → Option Value} {base : Heap}
theorem ok_Sides___init__ {f : Addr} {fd : FuncData} {C_PriceTable C_Sides C_NoRows C_NoSide C_NoSides C_NoNumber C_NoRow Pl : Addr} {f_is_whole : Addr} {g_is_whole : FuncData}
    (F : Fd K "__init__" "Sides.__init__" s_Sides___init__ [] f fd) (T : Tx K mg) (hsys : SysOk base)
    (c_is_whole : Cf P w K mg base (L2.CX P w) 1 "is_whole" s_is_whole [] a_is_whole (p_is_whole K) f_is_whole g_is_whole)
    (x_NoSide : Xc P w K mg base "NoSide" C_NoSide "found")
    (k_Sides : Kl_Sides K mg C_Sides) :
    FnG P w K mg base (L2.CX P w) 3 f fd a_Sides___init__ (spOf K (p_Sides_init K C_Sides C_NoSide)) := by
  refine VS.unbox ?_
  simp (disch := with_unfolding_all
    have kc_Sides := k_Sides.ins.cl
    have ka_Sides_three := k_Sides.a_three
    have ka_Sides_rows := k_Sides.a_rows
    refine fn_val F sc_Sides___init__ (fun ds S G Y h => ?_) (fun cdv A hgd outer s H E hr px tk po ds S G Y h => ?_)
    · obtain ⟨y, d1, d2, d3, o1, o2, o3, rfl, _⟩ := h
      rfl
    · obtain ⟨y, d1, d2, d3, o1, o2, o3, rfl, hy, w1, w2, w3, q, qx⟩ := h
      refine ⟨_, (pss_cons (ps_for po rfl (pi_tup (pe_tup (pa_cons (pv 1) (pa_cons (pv 2) (pa_cons (pv 3) pa_nil))))) (pg_name (i := 4) sc_Sides___init__.nd rfl (Or.inl rfl))
        (pss_one (ps_if (pt_not (pt_val (pe_cG c_is_whole.fn hgd (hr.mono (by decide)) (by rfl) c_is_whole.mg c_is_whole.kp c_is_whole.b .nil VS.pass0 (pa_cons (pv 4) (pa_cons pe_int (pa_cons (pe_gc (by rfl) T.c_MOST_SIDE_sides) pa_nil)))))) (pss_one (ps_rz tk x_NoSide (hr.mono (by decide)) (by rfl) (pv 4)))
        pss_nil)))
        (pss_one (ps_fld (pv 0) (pe_tup (pa_cons (pv 1) (pa_cons (pv 2) (pa_cons (pv 3) pa_nil)))) rfl))), ?_⟩
      dsimp only [cxOf, List.map]
      show VX _ _ [_, _, _, _, _] _ _
      walk_at "go"
      refine vx_for (vi_tup ?_)
      walk_at "go"
      refine ⟨by show 3 ≤ sizeLine; decide, ?_⟩
      have step : ∀ (d : D) (o : Option Int) (ρ4 : Option D) (W : Nat → Rho → Sto → Prop) (i : Nat), Wh K S d o → (whB o 1 100000 = true → ∀ x, W (i + 1) [some (.ref y), some d1, some d2, some d3, x] S) → (whB o 1 100000 = false → Y C_NoSide [("found", d)] S) → True := fun _ _ _ _ _ _ _ _ => trivial
      refine ⟨_, rfl, fun i ρ2 S2 => S2 = S ∧ ∃ x, ρ2 = [some (.ref y), some d1, some d2, some d3, x] ∧ bad (([(d1, o1), (d2, o2), (d3, o3)]).drop i) = bad [(d1, o1), (d2, o2), (d3, o3)], ⟨rfl, _, rfl, rfl⟩, ?_, ?_⟩
      · rintro i d ρ2 S2 hd ⟨rfl, x, rfl, hb⟩
        walk_at "go"
        have hk : ∃ o, Wh K S2 d o ∧ ([(d1, o1), (d2, o2), (d3, o3)] : List (D × Option Int)).drop i = (d, o) :: ([(d1, o1), (d2, o2), (d3, o3)]).drop (i + 1) := by
          have hi := (List.getElem?_eq_some_iff.mp hd).1
          match i, hi, hd with
          | 0, _, hd => cases hd; exact ⟨o1, w1, rfl⟩
          | 1, _, hd => cases hd; exact ⟨o2, w2, rfl⟩
          | 2, _, hd => cases hd; exact ⟨o3, w3, rfl⟩
        obtain ⟨o, wo, ed⟩ := hk
        rw [ed] at hb
        refine ⟨d, o, 1, 100000, rfl, wo, ?_⟩
        walk_at "go"
        refine brB (fun h1 => ?_) (fun h1 => ?_)
        · walk_at "go"
          refine vx_raise ?_
          walk_at "go"
          refine qx d ?_
          rw [← hb]
          unfold bad
          rw [if_neg (by rw [h1]; decide)]
        · walk_at "go"
          refine ⟨rfl, _, rfl, ?_⟩
          rw [← hb]
          conv => rhs; unfold bad
          rw [if_pos h1]
      · rintro ρ2 S2 ⟨rfl, x, rfl, hb⟩
        walk_at "go"
        refine ⟨by show 3 ≤ sizeLine; decide, ?_⟩
        walk_at "go"
        refine ⟨_, _, _, rfl, hy, k_Sides.ins.cl, k_Sides.a_three, by decide, ?_⟩
        walk_at "go"
        exact q hb.symm) only [↓VS.box]
theorem ok_Sides_told {f : Addr} {fd : FuncData} {C_PriceTable C_Sides C_NoRows C_NoSide C_NoSides C_NoNumber C_NoRow Pl : Addr}
    (F : Fd K "told" "Sides.told" s_Sides_told [] f fd) (T : Tx K mg) (hsys : SysOk base)
    (k_Sides : Kl_Sides K mg C_Sides) :
    FnG P w K mg base (L2.CX P w) 1 f fd a_Sides_told (spOf K (p_told C_Sides)) := by
  refine VS.unbox ?_
  simp (disch := with_unfolding_all
    have kc_Sides := k_Sides.ins.cl
    have ka_Sides_three := k_Sides.a_three
    have ka_Sides_rows := k_Sides.a_rows
    refine fn_val F sc_Sides_told (fun ds S G Y h => ?_) (fun cdv A hgd outer s H E hr px tk po ds S G Y h => ?_)
    · obtain ⟨a, b, c, rfl, _⟩ := h
      rfl
    · obtain ⟨a, b, c, rfl, q⟩ := h
      refine ⟨_, (pss_one (ps_ret (pe_fld (pv 0) rfl))), ?_⟩
      dsimp only [cxOf, List.map]
      show VX _ _ [_] _ _
      walk_at "go"
      exact ⟨_, _, _, .v, k_Sides.ins.cl, k_Sides.a_three, rfl, q⟩) only [↓VS.box]
theorem ok_Sides_ranked {f : Addr} {fd : FuncData} {C_PriceTable C_Sides C_NoRows C_NoSide C_NoSides C_NoNumber C_NoRow Pl : Addr}
    (F : Fd K "ranked" "Sides.ranked" s_Sides_ranked [] f fd) (T : Tx K mg) (hsys : SysOk base)
    (k_Sides : Kl_Sides K mg C_Sides) :
    FnG P w K mg base (L2.CX P w) 1 f fd a_Sides_ranked (spOf K (p_ranked C_Sides)) := by
  refine VS.unbox ?_
  simp (disch := with_unfolding_all
    have kc_Sides := k_Sides.ins.cl
    have ka_Sides_three := k_Sides.a_three
    have ka_Sides_rows := k_Sides.a_rows
    refine fn_val F sc_Sides_ranked (fun ds S G Y h => ?_) (fun cdv A hgd outer s H E hr px tk po ds S G Y h => ?_)
    · obtain ⟨a, b, c, rfl, _⟩ := h
      rfl
    · obtain ⟨a, b, c, rfl, q⟩ := h
      refine ⟨_, (pss_one (ps_ret (pe_callTy c_tuple (by rfl) T.b_tuple (by decide +kernel) (pa_cons (pe_callBK (c_sortedR (b := true)) (by rfl) T.b_sorted (by decide +kernel) (pa_cons (pe_fld (pv 0) rfl) pa_nil) (pk_cons pe_bl pk_nil)) pa_nil)))), ?_⟩
      dsimp only [cxOf, List.map]
      show VX _ _ [_] _ _
      walk_at "go"
      refine ve_ckw ?_
      walk_at "go"
      refine ⟨_, _, _, .v, k_Sides.ins.cl, k_Sides.a_three, rfl, ?_⟩
      walk_at "go"
      refine rck_sortedR (ns := [a, b, c]) .t ?_
      walk_at "go"
      exact rc_tupleL .v q) only [↓VS.box]
end
end LW
namespace LW
open PySem L2 C8 PySem.Spec PyProof.Rows VS
/-! ### data as whole numbers, orders, Sides -/
def whO : D → Option Int
  | .int i => some i
  | _ => none
theorem _root_.VS.Da.wh {K : PySem.W.Frag} {S : Sto} {d d' : D} (h : Da S d d') : Wh K S d (whO d') := by
  cases h with
  | v p =>
    cases d with
    | int i => exact .i i
    | bl b => exact .b b
    | non => exact .o (.p .non) rfl nofun
    | str z => exact .o (.p (.str z)) rfl nofun
    | lst xs => exact .o (.p (.lst xs)) rfl nofun
    | tup xs => exact .o (.p (.tup xs)) rfl nofun
    | dK xs => exact .o (.p (.dK xs)) rfl nofun
    | _ => cases p
  | c h p => exact .o (.p (.cl h)) rfl nofun
  | k h p => exact .o (.p (.cd h)) rfl nofun
end LW
namespace LW
open PySem L2 C8 PySem.Spec PyProof.Rows VS
/-! ### rows of prices -/
def limB (d : D) (lo hi : Int) : Bool := isNoD d || whB (whO d) lo hi
def rowB : D → Bool
  | .tup [a, b, c, w, p] => (limB a 1 100000 && (limB b 1 100000 && (limB c 1 100000 && true))) && (limB w 0 2000000 && whB (whO p) 0 1000000)
  | _ => false
def rowsL (xs : List D) : Bool := (decide (1 ≤ (xs.length : Int)) && decide ((xs.length : Int) ≤ 4)) && xs.all rowB
def rowsB : D → Bool
  | .lst xs => rowsL xs
  | .tup xs => rowsL xs
  | _ => false
theorem rowB_no {d : D} (h : ∀ xs, d ≠ .tup xs) : rowB d = false := by
  cases d with
  | tup xs => exact absurd rfl (h xs)
  | _ => rfl
theorem rowB_len {xs : List D} (h : xs.length ≠ 5) : rowB (.tup xs) = false := by
  match xs with
  | [] => rfl
  | [_] => rfl
  | [_, _] => rfl
  | [_, _, _] => rfl
  | [_, _, _, _] => rfl
  | [_, _, _, _, _] => exact absurd rfl h
  | _ :: _ :: _ :: _ :: _ :: _ :: _ => rfl
def p_is_limit : Pt := fun ds S G _ => ∃ d d' lo hi, ds = [d, .int lo, .int hi] ∧ Da S d d' ∧ G (.bl (limB d' lo hi)) S
/-- a thing whose tuples are not too long -/
def Shr (d : D) : Prop := ∀ xs, d = .tup xs → xs.length ≤ 100000
def p_is_row : Pt := fun ds S G _ => ∃ d, ds = [d] ∧ isP d = true ∧ Shr d ∧ G (.bl (rowB d)) S
structure OkR (d : D) : Prop where
  p : isP d = true
  l : (rowsOf d).length ≤ 100000
  e : ∀ x ∈ rowsOf d, isP x = true ∧ Shr x
def p_PT_init (CS CX : Addr) : Pt := fun ds S G Y => ∃ y d d', ds = [.ref y, d] ∧ S y = some (.ins CS []) ∧ Da S d d' ∧ OkR d' ∧
  (rowsB d' = true → G .non (put S y (.ins CS [("kept", .lst (rowsOf d'))]))) ∧ (rowsB d' = false → Y CX [("found", d)] S)
def ptD (C : Addr) (xs : List D) : D := .ins C [("kept", .lst xs)]
theorem no_isT {d : D} (h : isP d = true) : isK "tuple" d = false → ∀ xs, d ≠ .tup xs := fun e xs z => by
  subst z
  cases e
theorem yes_isT {d : D} (h : isP d = true) : isK "tuple" d = true → ∃ xs, d = .tup xs := fun e => by
  cases d with
  | tup xs => exact ⟨xs, rfl⟩
  | non => cases e
  | bl b => cases e
  | int i => cases e
  | str y => cases e
  | lst i => cases e
  | dK i => cases e
  | _ => cases h
section
variable {P : Program} {w : World} {K : PySem.W.Frag} {mg : Str → Option Value} {base : Heap}
theorem ok_is_limit {f : Addr} {fd : FuncData} {C_PriceTable C_Sides C_NoRows C_NoSide C_NoSides C_NoNumber C_NoRow Pl : Addr} {f_is_whole : Addr} {g_is_whole : FuncData}
    (F : Fd K "is_limit" "is_limit" s_is_limit [] f fd) (T : Tx K mg) (hsys : SysOk base)
    (c_is_whole : Cf P w K mg base (L2.CX P w) 1 "is_whole" s_is_whole [] a_is_whole (p_is_whole K) f_is_whole g_is_whole) :
    FnG P w K mg base (L2.CX P w) 2 f fd a_is_limit (spOf K p_is_limit) := by
  refine VS.unbox ?_
  simp (disch := with_unfolding_all
    refine fn_val F sc_is_limit (fun ds S G Y h => ?_) (fun cdv A hgd outer s H E hr px tk po ds S G Y h => ?_)
    · obtain ⟨d, d', lo, hi, rfl, _⟩ := h
      rfl
    · obtain ⟨d, d', lo, hi, rfl, hd, q⟩ := h
      refine ⟨_, (pss_one (ps_ret (pe_or (pe_cmpR op_isNo (pv 0) pe_non (nomark _)) (pe_one (pe_cG c_is_whole.fn hgd (hr.mono (by decide)) (by rfl) c_is_whole.mg c_is_whole.kp c_is_whole.b .nil VS.pass0 (pa_cons (pv 0) (pa_cons (pv 1) (pa_cons (pv 2) pa_nil)))))))), ?_⟩
      (try dsimp only [cxOf, List.map])
      show VX _ _ [_, _, _] _ _
      walk_at "ga"
      have e : isNoD d = isNoD d' := by cases hd <;> rfl
      refine ⟨fun h1 => ?_, fun h1 => ?_⟩
      · walk_at "ga"
        refine ⟨d, whO d', lo, hi, rfl, hd.wh, ?_⟩
        have q : G (.bl (isNoD d' || whB (whO d') lo hi)) S := q
        rw [← e, h1, Bool.false_or] at q
        exact q
      · have q : G (.bl (isNoD d' || whB (whO d') lo hi)) S := q
        rw [← e, h1, Bool.true_or] at q
        exact q) only [↓VS.box]
theorem ok_is_row {f : Addr} {fd : FuncData} {C_PriceTable C_Sides C_NoRows C_NoSide C_NoSides C_NoNumber C_NoRow Pl : Addr} {f_is_whole f_is_limit : Addr} {g_is_whole g_is_limit : FuncData}
    (F : Fd K "is_row" "is_row" s_is_row [] f fd) (T : Tx K mg) (hsys : SysOk base)
    (c_is_whole : Cf P w K mg base (L2.CX P w) 1 "is_whole" s_is_whole [] a_is_whole (p_is_whole K) f_is_whole g_is_whole)
    (c_is_limit : Cf P w K mg base (L2.CX P w) 2 "is_limit" s_is_limit [] a_is_limit p_is_limit f_is_limit g_is_limit) :
    FnG P w K mg base (L2.CX P w) 3 f fd a_is_row (spOf K p_is_row) := by
  refine VS.unbox ?_
  simp (disch := with_unfolding_all
    refine fn_val F sc_is_row (fun ds S G Y h => ?_) (fun cdv A hgd outer s H E hr px tk po ds S G Y h => ?_)
    · obtain ⟨d, rfl, _⟩ := h
      rfl
    · obtain ⟨d, rfl, hp, hs, q⟩ := h
      refine ⟨_, (pss_cons (ps_if (PW.pt (pw_or (pt_not (pt_val (pe_callB c_isiZ (by rfl) T.b_isinstance (by decide +kernel) (pa_cons (pv 0) (pa_cons (pe_bltn (v := .ty "tuple") (by rfl) T.b_tuple (by decide +kernel) rfl) pa_nil))))) (pw_or1 (pt_cmpR op_ne (pe_callB c_len (by rfl) T.b_len (by decide +kernel) (pa_cons (pv 0) pa_nil)) pe_int (nomark _))))) (pss_one (ps_ret pe_bl))
        pss_nil)
        (pss_cons (ps_if (pt_not (pt_val (pe_callB (cr_all rfl) (by rfl) T.b_all (by decide +kernel) (pa_cons (pe_lc (own := [("limit", 1)]) rfl sc_is_row.nd (pi_tup (pe_slice sl_tupA (pv 0) po_none (po_some pe_int))) (blkOk_by (own := [("limit", 1)]) (N := n_is_row) (sc := defScope s_is_row) (by decide +kernel)) (fun _ _ _ _ _ => (pg_name (i := 1) sc_is_row.nd rfl (Or.inl rfl))) (fun _ _ _ _ _ => pts_nil) (fun _ _ _ _ _ => (pe_cG c_is_limit.fn hgd (hr.mono (by decide)) (by rfl) c_is_limit.mg c_is_limit.kp c_is_limit.b .nil VS.pass0 (pa_cons (pv 1) (pa_cons pe_int (pa_cons (pe_gc (by rfl) T.c_MOST_SIDE_grids) pa_nil)))))) pa_nil)))) (pss_one (ps_ret pe_bl))
        pss_nil)
        (pss_one (ps_ret (pe_and (pe_cG c_is_limit.fn hgd (hr.mono (by decide)) (by rfl) c_is_limit.mg c_is_limit.kp c_is_limit.b .nil VS.pass0 (pa_cons (pe_ix ix_tup (pv 0) pe_int (fun _ _ => rfl)) (pa_cons pe_int (pa_cons (pe_gc (by rfl) T.c_MOST_WEIGHT) pa_nil)))) (pe_one (pe_cG c_is_whole.fn hgd (hr.mono (by decide)) (by rfl) c_is_whole.mg c_is_whole.kp c_is_whole.b .nil VS.pass0 (pa_cons (pe_ix ix_tup (pv 0) pe_int (fun _ _ => rfl)) (pa_cons pe_int (pa_cons (pe_gc (by rfl) T.c_MOST_PRICE) pa_nil)))))))))), ?_⟩
      (try dsimp only [cxOf, List.map])
      show VX _ _ [_, _] _ _
      walk_at "ga"
      refine rc_isiD (.v hp) (isK_tuple hp) ?_
      walk_at "ga"
      refine brB (fun h1 => ?_) (fun h1 => ?_)
      · walk_at "ga"
        rw [rowB_no (no_isT hp h1)] at q
        exact q
      obtain ⟨xs, rfl⟩ := yes_isT hp h1
      walk_at "ga"
      refine brN (fun h2 => ?_) (fun h2 => ?_)
      · walk_at "ga"
        rw [rowB_len (fun e => h2 (by rw [e]; rfl))] at q
        exact q
      obtain ⟨a, b, c, x, p, rfl⟩ : ∃ a b c x p, xs = [a, b, c, x, p] := by
        have h2' : xs.length = 5 := by exact_mod_cast h2
        match xs, h2' with
        | [a, b, c, x, p], _ => exact ⟨a, b, c, x, p, rfl⟩
      have hm := isPL_mem (xs := [a, b, c, x, p]) hp
      clear h1 h2
      walk_at "ga"
      refine ve_lcM (fun d => .bl (limB d 1 100000)) (vi_tup ?_)
      walk_at "ga"
      refine ⟨[a, b, c], rfl, by show 3 ≤ 100000; decide, fun d hd => ?_, ?_⟩
      · have hd' : isP d = true := hm d (by
          simp only [List.mem_cons, List.not_mem_nil, or_false] at hd ⊢
          rcases hd with rfl | rfl | rfl <;> simp)
        walk_at "ga"
        refine ⟨rfl, ?_⟩
        walk_at "ga"
        exact ⟨d, d, 1, 100000, rfl, .v hd', rfl, rfl⟩
      walk_at "ga"
      refine rc_all (bs := [limB a 1 100000, limB b 1 100000, limB c 1 100000]) .v ?_
      have q : G (.bl (([limB a 1 100000, limB b 1 100000, limB c 1 100000] : List Bool).all id && (limB x 0 2000000 && whB (whO p) 0 1000000))) S := q
      walk_at "ga"
      refine brB (fun h1 => ?_) (fun h1 => ?_)
      · walk_at "ga"
        rw [h1] at q
        exact q
      · rw [h1, Bool.true_and] at q
        walk_at "ga"
        refine ⟨x, x, 0, 2000000, rfl, .v (hm x (by simp)), ?_⟩
        walk_at "ga"
        refine ⟨fun e => ?_, fun e => ?_⟩
        · rw [e, Bool.true_and] at q
          walk_at "ga"
          exact ⟨p, whO p, 0, 1000000, rfl, (Da.v (hm p (by simp))).wh, q⟩
        · rw [e, Bool.false_and] at q
          exact q) only [↓VS.box]
theorem ok_PriceTable___init__ {f : Addr} {fd : FuncData} {C_PriceTable C_Sides C_NoRows C_NoSide C_NoSides C_NoNumber C_NoRow Pl : Addr} {f_is_row : Addr} {g_is_row : FuncData}
    (F : Fd K "__init__" "PriceTable.__init__" s_PriceTable___init__ [] f fd) (T : Tx K mg) (hsys : SysOk base)
    (c_is_row : Cf P w K mg base (L2.CX P w) 3 "is_row" s_is_row [] a_is_row p_is_row f_is_row g_is_row)
    (x_NoRows : Xc P w K mg base "NoRows" C_NoRows "found")
    (k_PriceTable : Kl_PriceTable K mg C_PriceTable) :
    FnG P w K mg base (L2.CX P w) 4 f fd a_PriceTable___init__ (spOf K (p_PT_init C_PriceTable C_NoRows)) := by
  refine VS.unbox ?_
  simp (disch := with_unfolding_all
    have kc_PriceTable := k_PriceTable.ins.cl
    have ka_PriceTable_kept := k_PriceTable.a_kept
    refine fn_val F sc_PriceTable___init__ (fun ds S G Y h => ?_) (fun cdv A hgd outer s H E hr px tk po ds S G Y h => ?_)
    · obtain ⟨y, d, d', rfl, _⟩ := h
      rfl
    · obtain ⟨y, d, d', rfl, hy, hd, hok, q, qx⟩ := h
      refine ⟨_, (pss_cons (ps_if (PW.pt (pw_or (pt_not (pt_val (pe_callB c_isiV (by rfl) T.b_isinstance (by decide +kernel) (pa_cons (pv 1) (pa_cons (pe_tup (pa_cons (pe_bltn (v := .ty "list") (by rfl) T.b_list (by decide +kernel) rfl) (pa_cons (pe_bltn (v := .ty "tuple") (by rfl) T.b_tuple (by decide +kernel) rfl) pa_nil))) pa_nil))))) (pw_or1 (pt_not (pt_chain op_le op_le pe_int (pe_callB c_len (by rfl) T.b_len (by decide +kernel) (pa_cons (pv 1) pa_nil)) (pe_gc (by rfl) T.c_MOST_ROWS)))))) (pss_one (ps_rz tk x_NoRows (hr.mono (by decide)) (by rfl) (pv 1)))
        pss_nil)
        (pss_cons (ps_if (pt_not (pt_val (pe_callB (cr_all rfl) (by rfl) T.b_all (by decide +kernel) (pa_cons (pe_lc (own := [("row", 2)]) rfl sc_PriceTable___init__.nd (pi_seq (pv 1)) (blkOk_by (own := [("row", 2)]) (N := n_PriceTable___init__) (sc := defScope s_PriceTable___init__) (by decide +kernel)) (fun _ _ _ _ _ => (pg_name (i := 2) sc_PriceTable___init__.nd rfl (Or.inl rfl))) (fun _ _ _ _ _ => pts_nil) (fun _ _ _ _ _ => (pe_cG c_is_row.fn hgd (hr.mono (by decide)) (by rfl) c_is_row.mg c_is_row.kp c_is_row.b .nil VS.pass0 (pa_cons (pv 2) pa_nil)))) pa_nil)))) (pss_one (ps_rz tk x_NoRows (hr.mono (by decide)) (by rfl) (pv 1)))
        pss_nil)
        (pss_one (ps_fld (pv 0) (pe_callTy c_list (by rfl) T.b_list (by decide +kernel) (pa_cons (pv 1) pa_nil)) rfl)))), ?_⟩
      (try dsimp only [cxOf, List.map])
      show VX _ _ [_, _, _] _ _
      walk_at "ga"
      refine rc_isiLT hd ?_
      walk_at "ga"
      have no : isLT d' = false → rowsB d' = false := fun e => by
        cases d' with
        | lst xs => cases e
        | tup xs => cases e
        | _ => rfl
      have yes : isLT d' = true → rowsB d' = rowsL (rowsOf d') := fun e => by
        cases d' with
        | lst xs => rfl
        | tup xs => rfl
        | _ => cases e
      refine brB (fun h1 => ?_) (fun h1 => ?_)
      · walk_at "ga"
        exact qx (no h1)
      rw [yes h1] at q qx
      clear yes no
      have hq := hd.isQ h1
      walk_at "ga"
      refine rc_lenQ hq ?_
      walk_at "ga"
      have q : (((decide (1 ≤ ((rowsOf d').length : Int)) && decide (((rowsOf d').length : Int) ≤ 4)) && (rowsOf d').all rowB) = true → G .non (put S y (.ins C_PriceTable [("kept", .lst (rowsOf d'))]))) := q
      have qx : (((decide (1 ≤ ((rowsOf d').length : Int)) && decide (((rowsOf d').length : Int) ≤ 4)) && (rowsOf d').all rowB) = false → Y C_NoRows [("found", d)] S) := qx
      refine br (fun h2 => ?_) (fun h2 => ?_)
      rotate_left
      · walk_at "ga"
        exact qx (by rw [decide_eq_false h2]; rfl)
      walk_at "ga"
      refine brN (fun h3 => ?_) (fun h3 => ?_)
      · walk_at "ga"
        exact qx (by rw [decide_eq_false h3, Bool.and_false]; rfl)
      rw [decide_eq_true h2, decide_eq_true h3, Bool.true_and, Bool.true_and] at q qx
      refine vx_next ?_
      refine vx_seq (vx_if ?_)
      refine vt_pureD 1 rfl hd ?_
      walk_at "ga"
      refine ve_lcM (fun d => .bl (rowB d)) (vi_seq ?_)
      walk_at "ga"
      refine ⟨_, isS_of h1, hok.l, fun x hx => ?_, ?_⟩
      · walk_at "ga"
        refine ⟨rfl, ?_⟩
        walk_at "ga"
        exact ⟨x, rfl, (hok.e x hx).1, (hok.e x hx).2, rfl, rfl⟩
      walk_at "ga"
      refine rc_all (bs := (rowsOf d').map rowB) (by rw [List.map_map]; exact .v) ?_
      rw [List.all_map, show (rowsOf d').all (id ∘ rowB) = (rowsOf d').all rowB from rfl]
      walk_at "ga"
      refine brB (fun h4 => ?_) (fun h4 => ?_)
      · walk_at "ga"
        exact qx h4
      · walk_at "ga"
        refine rc_list hq ?_
        walk_at "ga"
        exact q h4) only [↓VS.box]
end
end LW
namespace LW
open PySem L2 C8 PySem.Spec PyProof.Rows VS
/-! ### data that may be shown and compared -/
structure Ok (d : D) (n k : Nat) : Prop where
  sh : Sh d n k
  s : SeqAt.shaped (pd d) = true
  l : ∀ zs, d = .tup zs → zs.length ≤ 1000
theorem Ok.mono {d : D} {n m k j : Nat} (h : Ok d n k) (a : n ≤ m) (b : k ≤ j) : Ok d m j := ⟨h.sh.mono a b, h.s, h.l⟩
theorem ok_all {n k : Nat} : ∀ {ys : List D}, (∀ y ∈ ys, Ok y n k) → ShL ys (ys.length * (n + 2)) k ∧ PyData.canLayAll0 (pdL ys) = true ∧ PyData.depthAll (pdL ys) ≤ k
  | [], _ => ⟨ShL.nil.mono (Nat.zero_le _) (Nat.zero_le _), rfl, Nat.zero_le _⟩
  | y :: ys, h => by
    obtain ⟨a, b, c⟩ := ok_all (ys := ys) fun z hz => h z (List.mem_cons_of_mem _ hz)
    have hy := h y (List.mem_cons_self ..)
    have s' : ((pd y).canLay0 && decide ((pd y).depth ≤ 64)) = true := hy.s
    rw [Bool.and_eq_true] at s'
    refine ⟨(ShL.cons hy.sh a).mono (by rw [List.length_cons, Nat.succ_mul]; omega) (Nat.max_le.mpr ⟨Nat.le_refl _, Nat.le_refl _⟩), ?_, Nat.max_le.mpr ⟨hy.sh.d, c⟩⟩
    show ((pd y).canLay0 && PyData.canLayAll0 (pdL ys)) = true
    rw [s'.1, b]; rfl
theorem Ok.tup {ys : List D} {n k : Nat} (m : Nat) (h : ∀ y ∈ ys, Ok y n k) (hl : ys.length ≤ m) (hm : m ≤ 1000) (hk : k + 1 ≤ 64) : Ok (.tup ys) (m * (n + 2) + 3) (k + 1) := by
  obtain ⟨a, b, c⟩ := ok_all h
  refine ⟨Sh.tup (a.mono (Nat.mul_le_mul_right _ hl) (Nat.le_refl _)), ?_, fun zs e => by injection e with e; rw [← e]; omega⟩
  show (PyData.canLayAll0 (pdL ys) && decide (PyData.depthAll (pdL ys) + 1 ≤ 64)) = true
  rw [b, decide_eq_true (by omega)]; rfl
theorem Ok.lst {ys : List D} {n k : Nat} (m : Nat) (h : ∀ y ∈ ys, Ok y n k) (hl : ys.length ≤ m) (hk : k + 1 ≤ 64) : Ok (.lst ys) (m * (n + 2) + 2) (k + 1) := by
  obtain ⟨a, b, c⟩ := ok_all h
  refine ⟨Sh.lst (a.mono (Nat.mul_le_mul_right _ hl) (Nat.le_refl _)), ?_, nofun⟩
  show (PyData.canLayAll0 (pdL ys) && decide (PyData.depthAll (pdL ys) + 1 ≤ 64)) = true
  rw [b, decide_eq_true (by omega)]; rfl
theorem ok_int {i : Int} (h : -(2 ^ 60) ≤ i ∧ i ≤ 2 ^ 60) : Ok (.int i) 200 2 := ⟨(Sh.int (k := 64) (by omega) (by decide) (by decide)).mono (by decide) (by decide), rfl, nofun⟩
theorem ok_bl (b : Bool) : Ok (.bl b) 200 2 := ⟨(Sh.bl b).mono (by decide) (by decide), rfl, nofun⟩
theorem ok_non : Ok .non 200 2 := ⟨Sh.non.mono (by decide) (by decide), rfl, nofun⟩
theorem all3 {Q : D → Prop} {a b c : D} (h1 : Q a) (h2 : Q b) (h3 : Q c) : ∀ y ∈ [a, b, c], Q y := fun y hy => by
  simp only [List.mem_cons, List.not_mem_nil, or_false] at hy
  rcases hy with rfl | rfl | rfl <;> assumption
end LW
namespace LW
open PySem L2 C8 PySem.Spec PyProof.Rows VS
/-- a purse: after n draws at most -/
def Pu (S : Sto) (p : Addr) (n : Int) : Prop := ∃ a b c : Int, S p = some (.lst [.int a, .int b, .int c]) ∧ 0 ≤ b ∧ b < 2147483648 ∧ 0 ≤ c ∧ c ≤ n
def Off (p : Addr) (S S' : Sto) : Prop := ∀ q, q ≠ p → S' q = S q
theorem Off.refl {p : Addr} {S : Sto} : Off p S S := fun _ _ => rfl
theorem Off.trans {p : Addr} {S S' S'' : Sto} (a : Off p S S') (b : Off p S' S'') : Off p S S'' := fun q h => (b q h).trans (a q h)
theorem Off.put {p : Addr} {S : Sto} {d : D} : Off p S (put S p d) := fun _ h => put_ne h
theorem Off.ex1 {p : Addr} {S S' : Sto} (o : Off p S S') : Ex1 p S S' := fun q d n h => (o q n).trans h
theorem Pu.mono {S : Sto} {p : Addr} {n m : Int} (h : Pu S p n) (l : n ≤ m) : Pu S p m := by
  obtain ⟨a, b, c, h1, h2, h3, h4, h5⟩ := h
  exact ⟨a, b, c, h1, h2, h3, h4, by omega⟩
theorem Pu.off {S S' : Sto} {p q : Addr} {n : Int} (h : Pu S p n) (o : Off q S S') (ne : p ≠ q) : Pu S' p n := by
  obtain ⟨a, b, c, h1, h2⟩ := h
  exact ⟨a, b, c, (o p ne).trans h1, h2⟩
def p__law_take : Pt := fun ds S G _ => ∃ (p : Addr) (n m : Int), ds = [.ref p, .int m] ∧ Pu S p n ∧ n < 1000000 ∧ 0 < m ∧ m < 2 ^ 64 ∧ ∀ (d : Int) (S' : Sto), 0 ≤ d → d < m → Pu S' p (n + 1) → Off p S S' → G (.int d) S'
def p__law_cell : Pt := fun ds S G _ => ∃ (ns : List Int) (k : Nat), ds = [.rol (ns.map .int), .int k] ∧ k < 1000 ∧ ∀ z : Int, G (.int z) S
def p__law_purse : Pt := fun ds S G _ => ∃ z : Int, ds = [.int z] ∧ ∀ (p : Addr) (S' : Sto), S p = none → Pu S' p 0 → Off p S S' → G (.ref p) S'
section
variable {P : Program} {w : World} {K : PySem.W.Frag} {mg : Str → Option Value} {base : Heap}
theorem ok__law_cell {f : Addr} {fd : FuncData} {C_PriceTable C_Sides C_NoRows C_NoSide C_NoSides C_NoNumber C_NoRow Pl : Addr}
    (F : Fd K "_law_cell" "_law_cell" s__law_cell [] f fd) (T : Tx K mg) (hsys : SysOk base) :
    FnG P w K mg base (L2.CX P w) 1 f fd a__law_cell (spOf K p__law_cell) := by
  refine VS.unbox ?_
  simp (disch := with_unfolding_all
    refine fn_val F sc__law_cell (fun ds S G Y h => ?_) (fun cdv A hgd outer s H E hr px tk po ds S G Y h => ?_)
    · obtain ⟨ns, k, rfl, _⟩ := h
      rfl
    · obtain ⟨ns, k, rfl, hk, q⟩ := h
      refine ⟨_, (pss_cons (ps_if (pt_cmpR op_lt (pv 1) (pe_callB c_len (by rfl) T.b_len (by decide +kernel) (pa_cons (pv 0) pa_nil)) (nomark _)) (pss_one (ps_ret (pe_ix ix_list (pv 0) (pv 1) (fun _ _ => rfl))))
        pss_nil)
        (pss_one (ps_ret (pe_op op_add (pe_op op_mulW pe_int (pv 1)) pe_int)))), ?_⟩
      (try dsimp only [cxOf, List.map])
      show VX _ _ [_, _] _ _
      walk_at "go"
      refine rc_lenQ (.l .r) ?_
      walk_at "go"
      refine br (fun h1 => ?_) (fun h1 => ?_)
      · walk_at "go"
        have hl : k < ns.length := by
          rw [List.length_map] at h1
          omega
        refine rv_ixL .r (atI_nat (j := k) (by rw [List.getElem?_map, List.getElem?_eq_getElem hl]; rfl)) ?_
        exact q _
      · walk_at "go"
        exact q _) only [↓VS.box]
theorem ok__law_purse {f : Addr} {fd : FuncData} {C_PriceTable C_Sides C_NoRows C_NoSide C_NoSides C_NoNumber C_NoRow Pl : Addr}
    (F : Fd K "_law_purse" "_law_purse" s__law_purse [] f fd) (T : Tx K mg) (hsys : SysOk base) :
    FnG P w K mg base (L2.CX P w) 1 f fd a__law_purse (spOf K p__law_purse) := by
  refine VS.unbox ?_
  simp (disch := with_unfolding_all
    refine fn_val F sc__law_purse (fun ds S G Y h => ?_) (fun cdv A hgd outer s H E hr px tk po ds S G Y h => ?_)
    · obtain ⟨z, rfl, _⟩ := h
      rfl
    · obtain ⟨z, rfl, q⟩ := h
      refine ⟨_, (pss_one (ps_ret (pe_lst (pa_cons (pe_callB (c_max2 rfl) (by rfl) T.b_max (by decide +kernel) (pa_cons pe_int (pa_cons (pe_op op_sub (pv 0) (pe_op op_pow pe_int pe_int)) pa_nil))) (pa_cons (pe_op op_mod (pv 0) pe_int) (pa_cons pe_int pa_nil)))))), ?_⟩
      show VX _ _ [_] _ _
      walk_at "go"
      refine ve_lstc ?_
      walk_at "go"
      refine ⟨(by show 3 ≤ sizeLine; decide), fun p hp => q p _ hp ⟨_, _, _, put_same, Int.emod_nonneg _ (by decide), ?_, Int.le_refl _, Int.le_refl _⟩ .put⟩
      exact Int.lt_trans (Int.emod_lt_of_pos _ (by decide)) (by decide)) only [↓VS.box]
theorem ok__law_take {f : Addr} {fd : FuncData} {C_PriceTable C_Sides C_NoRows C_NoSide C_NoSides C_NoNumber C_NoRow Pl : Addr}
    (F : Fd K "_law_take" "_law_take" s__law_take [] f fd) (T : Tx K mg) (hsys : SysOk base) :
    FnG P w K mg base (L2.CX P w) 1 f fd a__law_take (spOf K p__law_take) := by
  refine VS.unbox ?_
  simp (disch := with_unfolding_all
    refine fn_val F sc__law_take (fun ds S G Y h => ?_) (fun cdv A hgd outer s H E hr px tk po ds S G Y h => ?_)
    · obtain ⟨p, n, m, rfl, _⟩ := h
      rfl
    · obtain ⟨p, n, m, rfl, ⟨a, b, c, hp, b0, b1, c0, c1⟩, hn, m0, m1, q⟩ := h
      refine ⟨_, (pss_cons (ps_if (pt_cmpR op_gt (pe_ix ix_list (pv 0) pe_int (fun _ _ => rfl)) pe_int (nomark _)) (pss_cons (ps_set (i := 2) sc__law_take.nd rfl (Or.inl rfl) (pe_op op_mod (pe_ix ix_list (pv 0) pe_int (fun _ _ => rfl)) (pv 1)))
        (pss_cons (ps_asg (pe_op op_fdivW (pe_ix ix_list (pv 0) pe_int (fun _ _ => rfl)) (pv 1)) (pg_sub (pv 0) pe_int set_list))
        (pss_one (ps_ret (pv 2)))))
        pss_nil)
        (pss_cons (ps_asg (pe_op op_add (pe_ix ix_list (pv 0) pe_int (fun _ _ => rfl)) pe_int) (pg_sub (pv 0) pe_int set_list))
        (pss_cons (ps_set (i := 3) sc__law_take.nd rfl (Or.inl rfl) (pe_op op_mod (pe_op op_pow (pe_op op_add (pe_op op_add (pe_ix ix_list (pv 0) pe_int (fun _ _ => rfl)) (pe_op op_mulW pe_int (pe_ix ix_list (pv 0) pe_int (fun _ _ => rfl)))) pe_int) pe_int) pe_int))
        (pss_cons (ps_set (i := 4) sc__law_take.nd rfl (Or.inl rfl) (pe_op op_mod (pe_op op_pow (pe_op op_add (pe_op op_mulW (pe_ix ix_list (pv 0) pe_int (fun _ _ => rfl)) (pe_ix ix_list (pv 0) pe_int (fun _ _ => rfl))) pe_int) pe_int) pe_int))
        (pss_one (ps_ret (pe_op op_mod (pe_op op_fdivW (pe_op op_add (pe_op op_mulW (pv 3) pe_int) (pv 4)) pe_int) (pv 1)))))))), ?_⟩
      (try dsimp only [cxOf, List.map])
      show VX _ _ [_, _, _, _, _] _ _
      walk_at "go"
      refine br (fun h1 => ?_) (fun h1 => ?_)
      · walk_at "go"
        refine ⟨_, 0, _, rfl, hp, rfl, ?_⟩
        walk_at "go"
        exact q _ _ (Int.emod_nonneg _ (by omega)) (Int.emod_lt_of_pos _ m0) ⟨_, _, _, put_same, b0, b1, c0, by omega⟩ .put
      · walk_at "go"
        refine ⟨_, 2, _, rfl, hp, rfl, ?_⟩
        have g1 : 0 ≤ b * (c + 1) := Int.mul_nonneg b0 (by omega)
        have g2 : b * (c + 1) ≤ 2147483648 * 1000001 := Int.mul_le_mul (by omega) (by omega) (by omega) (by decide)
        walk_at "go"
        exact q _ _ (Int.emod_nonneg _ (by omega)) (Int.emod_lt_of_pos _ m0) ⟨_, _, _, put_same, b0, b1, by omega, by omega⟩ .put) only [↓VS.box]
end
end LW
namespace LW
open PySem L2 C8 PySem.Spec PyProof.Rows VS
/-! ### the purse, further -/
theorem Pu.ne {S : Sto} {p l : Addr} {n : Int} (h : Pu S p n) (hl : S l = none) : p ≠ l := by
  obtain ⟨a, b, c, e, _⟩ := h
  exact ne_at e hl
theorem Pu.put {S : Sto} {p l : Addr} {n : Int} {d : D} (h : Pu S p n) (hl : S l = none) : Pu (put S l d) p n := by
  have ne := h.ne hl
  obtain ⟨a, b, c, e, r⟩ := h
  exact ⟨a, b, c, by rw [put_ne ne]; exact e, r⟩
theorem Pu.wr {S : Sto} {p l : Addr} {n : Int} {d : D} (h : Pu S p n) (ne : p ≠ l) : Pu (VS.put S l d) p n := by
  obtain ⟨a, b, c, e, r⟩ := h
  exact ⟨a, b, c, by rw [put_ne ne]; exact e, r⟩
theorem _root_.VS.Ex1.new {p l : Addr} {S S' : Sto} {d : D} (x : Ex1 p S S') (hl : S' l = none) : Ex1 p S (put S' l d) := fun q e n h => by
  have h' := x q e n h
  rw [put_ne]
  · exact h'
  · intro z; subst z; rw [hl] at h'; cases h'
theorem _root_.VS.Ex1.wr2 {p l : Addr} {S S' : Sto} {d : D} (x : Ex1 p S S') (hl : S l = none) : Ex1 p S (VS.put S' l d) := fun q e n h => by
  rw [put_ne]
  · exact x q e n h
  · intro z; subst z; rw [hl] at h; cases h
theorem _root_.VS.Ex1.dl {p l : Addr} {S S' : Sto} (x : Ex1 p S S') (hl : S l = none) : Ex1 p S (VS.del S' l) := fun q e n h => by
  rw [VS.del_ne]
  · exact x q e n h
  · intro z; subst z; rw [hl] at h; cases h
theorem list3 {α : Type} {xs : List α} (h : xs.length = 3) : ∃ a b c, xs = [a, b, c] := by
  match xs, h with
  | [a, b, c], _ => exact ⟨a, b, c, rfl⟩
theorem take_ok {S : Sto} {p : Addr} {n m : Int} {G : D → Sto → Prop} {Y : Addr → List (Str × D) → Sto → Prop} (h : Pu S p n) (hn : n < 1000000) (h0 : 0 < m) (h1 : m < 2 ^ 64)
    (q : ∀ (d : Int) (S' : Sto), 0 ≤ d → d < m → Pu S' p (n + 1) → Off p S S' → G (.int d) S') : p__law_take [.ref p, .int m] S G Y := ⟨p, n, m, rfl, h, hn, h0, h1, q⟩
theorem cell_ok {ns : List Int} {k : Nat} {S : Sto} {G : D → Sto → Prop} {Y : Addr → List (Str × D) → Sto → Prop} (hk : k < 1000) (q : ∀ z : Int, G (.int z) S) : p__law_cell [.rol (ns.map .int), .int k] S G Y := ⟨ns, k, rfl, hk, q⟩
theorem purse_ok {z : Int} {S : Sto} {G : D → Sto → Prop} {Y : Addr → List (Str × D) → Sto → Prop} (q : ∀ (p : Addr) (S' : Sto), S p = none → Pu S' p 0 → Off p S S' → G (.ref p) S') : p__law_purse [.int z] S G Y := ⟨z, rfl, q⟩
end LW
open LW
local macro_rules | `(tactic| walk_at "gp") => `(tactic| ((with_reducible apply take_ok); (· assumption); (· first | decide | omega); (· first | decide | omega); (· first | decide | omega)))
local macro_rules | `(tactic| walk_at "gp") => `(tactic| ((with_reducible apply cell_ok); (· omega); intro cell))
local macro_rules | `(tactic| walk_at "gp") => `(tactic| with_reducible refine purse_ok ?_)
namespace LW
open PySem L2 C8 PySem.Spec PyProof.Rows VS
/-! ### where a row stops a place; a place's price; the least place at which two tables part -/
structure RwP where
  a : Option Int
  b : Option Int
  c : Option Int
  w : Option Int
  p : Int
def liD : Option Int → D
  | none => .non
  | some k => .int k
def RwP.ls (r : RwP) : List (Option Int) := [r.a, r.b, r.c, r.w]
def rwpD (r : RwP) : D := .tup [liD r.a, liD r.b, liD r.c, liD r.w, .int r.p]
def wds4 : List Str := ["long", "middle", "short", "weight"]
def stop1 : List Str → List (Option Int) → List Int → Option (Str × Int)
  | w :: ws, l :: ls, n :: ns => match l with
    | some k => if k < n then some (w, n - k) else stop1 ws ls ns
    | none => stop1 ws ls ns
  | _, _, _ => none
def pasD : Option (Str × Int) → D
  | none => .non
  | some (w, k) => .tup [.str w, .int k]
def stopK (r : RwP) (pl : List Int) (i : Nat) : Option (Str × Int) := stop1 (wds4.drop i) (r.ls.drop i) (pl.drop i)
def pasP (r : RwP) (pl : List Int) : Option (Str × Int) := stopK r pl 0
theorem stop_at {r : RwP} {x y z t : Int} {i : Nat} {d : D} (h : (zip3D [.str "long", .str "middle", .str "short", .str "weight"] [liD r.a, liD r.b, liD r.c, liD r.w, .int r.p] [.int x, .int y, .int z, .int t])[i]? = some d) :
    i < 4 ∧ ∃ w l n, d = .tup [.str w, liD l, .int n] ∧ stopK r [x, y, z, t] i = (match l with | some k => if k < n then some (w, n - k) else stopK r [x, y, z, t] (i + 1) | none => stopK r [x, y, z, t] (i + 1)) := by
  match i, h with
  | 0, h => cases h; exact ⟨by decide, _, r.a, x, rfl, rfl⟩
  | 1, h => cases h; exact ⟨by decide, _, r.b, y, rfl, rfl⟩
  | 2, h => cases h; exact ⟨by decide, _, r.c, z, rfl, rfl⟩
  | 3, h => cases h; exact ⟨by decide, _, r.w, t, rfl, rfl⟩
  | i + 4, h => simp [zip3D] at h
def p_passed : Pt := fun ds S G _ => ∃ (r : RwP) (x y z t : Int), ds = [rwpD r, .tup [.int x, .int y, .int z, .int t]] ∧ G (pasD (pasP r [x, y, z, t])) S
def fallI (rs : List RwP) (pl : List Int) : Option Nat := rs.findIdx? fun r => (pasP r pl).isNone
def natD : Option Nat → D
  | none => .non
  | some i => .int (i : Nat)
def p_row_at : Pt := fun ds S G _ => ∃ (rs : List RwP) (x y z t : Int), ds = [.lst (rs.map rwpD), .tup [.int x, .int y, .int z, .int t]] ∧ G (natD (fallI rs [x, y, z, t])) S
def prc (rs : List RwP) (pl : List Int) : Option Int := (fallI rs pl).bind fun i => (rs[i]?).map RwP.p
def p_price_at : Pt := fun ds S G _ => ∃ (rs : List RwP) (x y z t : Int), ds = [.lst (rs.map rwpD), .tup [.int x, .int y, .int z, .int t]] ∧ G (liD (prc rs [x, y, z, t])) S
def unlB (xs ys : List RwP) (pl : List Int) : Bool := !decide (prc xs pl = prc ys pl)
def p_unlike : List D → Pt := fun cs ds S G _ => ∃ (xs ys : List RwP) (x y z t : Int), cs = [.lst (xs.map rwpD), .lst (ys.map rwpD)] ∧ ds = [.tup [.int x, .int y, .int z, .int t]] ∧ G (.bl (unlB xs ys [x, y, z, t])) S
/-- the values at which something may change -/
structure ValP (rs : List RwP) (at_ : Nat) (fi mo : Int) (l : List Int) : Prop where
  up : l.Pairwise (· < ·)
  mem : ∀ k, k ∈ l ↔ k = fi ∨ ∃ r ∈ rs, ∃ v, r.ls[at_]? = some (some v) ∧ v < mo ∧ k = v + 1
  len : l.length ≤ rs.length + 1
def p_values_of : Pt := fun ds S G _ => ∃ (rs : List RwP) (a : Nat) (fi mo : Int), ds = [.lst (rs.map rwpD), .int (a : Nat), .int fi, .int mo] ∧ a < 4 ∧ rs.length ≤ 40 ∧ ∀ l S', ValP rs a fi mo l → Ext S S' → G (.lst (l.map .int)) S'
def p_merged : Pt := fun ds S G _ => ∃ xs ys : List Int, ds = [.lst (xs.map .int), .lst (ys.map .int)] ∧ xs.length + ys.length < 64 ∧ ∀ l : List Int, l.Pairwise (· < ·) → (∀ k, k ∈ l ↔ k ∈ xs ∨ k ∈ ys) → l.length ≤ xs.length + ys.length → G (.lst (l.map .int)) S
structure Cand (rs : List RwP) (lo mi sh we : List Int) : Prop where
  shV : ValP rs 2 1 100000 sh
  miU : mi.Pairwise (· < ·)
  miM : ∃ m0, ValP rs 1 1 100000 m0 ∧ ∀ k, k ∈ mi ↔ k ∈ m0 ∨ k ∈ sh
  loU : lo.Pairwise (· < ·)
  loM : ∃ l0, ValP rs 0 1 100000 l0 ∧ ∀ k, k ∈ lo ↔ k ∈ l0 ∨ k ∈ mi
  weV : ValP rs 3 0 2000000 we
def leW (hold : List Int → Bool) (l m s w : Int) : Option (List Int) := if hold [l, m, s, w] = true then some [l, m, s, w] else none
def leS (hold : List Int → Bool) (we : List Int) (l m s : Int) : Option (List Int) := we.findSome? (leW hold l m s)
def leqD (b : Int) : D → Bool
  | .int i => decide (i ≤ b)
  | _ => false
theorem leqD_flt {b : Int} {l : List Int} : ((l.map D.int).filter (leqD b)).map id = (l.filter fun m => decide (m ≤ b)).map D.int := by
  rw [List.map_id, List.filter_map]
  rfl
def leM (hold : List Int → Bool) (sh we : List Int) (l m : Int) : Option (List Int) := (sh.filter fun s => decide (s ≤ m)).findSome? (leS hold we l m)
def leL (hold : List Int → Bool) (mi sh we : List Int) (l : Int) : Option (List Int) := (mi.filter fun m => decide (m ≤ l)).findSome? (leM hold sh we l)
def leastO (hold : List Int → Bool) (lo mi sh we : List Int) : Option (List Int) := lo.findSome? (leL hold mi sh we)
def leD : Option (List Int) → D
  | none => .non
  | some pl => .tup (pl.map .int)
/-- a loop that ends with its first answer -/
theorem some_first {α β : Type} {f : α → Option β} : ∀ {l : List α} {i : Nat} {x : α} {y : β}, (l.take i).findSome? f = none → l[i]? = some x → f x = some y → l.findSome? f = some y
  | [], _, _, _, _, h, _ => by simp at h
  | a :: l, 0, x, y, _, h, e => by
    obtain rfl : a = x := by simpa using h
    rw [List.findSome?_cons, e]
  | a :: l, i + 1, x, y, h0, h, e => by
    rw [List.take_succ_cons, List.findSome?_cons] at h0
    cases q : f a with
    | some z => rw [q] at h0; cases h0
    | none =>
      rw [q] at h0
      rw [List.findSome?_cons, q]
      exact some_first h0 (by simpa using h) e
theorem none_next {α β : Type} {f : α → Option β} {l : List α} {i : Nat} {x : α} (h0 : (l.take i).findSome? f = none) (h : l[i]? = some x) (e : f x = none) : (l.take (i + 1)).findSome? f = none := by
  rw [List.take_succ, h, List.findSome?_append, h0]
  show (List.findSome? f [x]) = none
  rw [List.findSome?_cons, e] <;> rfl
def p_least (P : Program) (w : World) (K : PySem.W.Frag) (mg : Str → Option Value) (base : Heap) : NdefX.NF → List Str → List V → Pt := fun F fr ws ds S G _ => ∃ (rs : List RwP) (cs : List D) (hold : List Int → Bool) (pN : List D → Pt), ds = [.lst (rs.map rwpD), .fn F ws cs] ∧ rs.length ≤ 20 ∧
  NOkG P w K mg base (L2.CX P w) 4 F ["place"] fr (spN K pN) ∧ (∀ (x y z t : Int) (S1 : Sto) (G1 : D → Sto → Prop), Ext S S1 → G1 (.bl (hold [x, y, z, t])) S1 → pN cs [.tup [.int x, .int y, .int z, .int t]] S1 G1 noY) ∧
  ∀ lo mi sh we S1, Cand rs lo mi sh we → Ext S S1 → G (leD (leastO hold lo mi sh we)) S1
def p_parts_at (Pl : Addr) : Pt := fun ds S G _ => ∃ xs ys : List RwP, ds = [.lst (xs.map rwpD), .lst (ys.map rwpD)] ∧ S Pl = some (.str "parts_at.<locals>.unlike") ∧ xs.length ≤ 10 ∧ ys.length ≤ 10 ∧
  ∀ lo mi sh we S1, Cand (xs ++ ys) lo mi sh we → Ext S S1 → G (leD (leastO (unlB xs ys) lo mi sh we)) S1
theorem li_ls {r : RwP} {a : Nat} (h : a < 4) : ∃ l, r.ls[a]? = some l ∧ atI [liD r.a, liD r.b, liD r.c, liD r.w, .int r.p] ((a : Nat) : Int) = some (liD l) := by
  match a, h with
  | 0, _ => exact ⟨_, rfl, rfl⟩
  | 1, _ => exact ⟨_, rfl, rfl⟩
  | 2, _ => exact ⟨_, rfl, rfl⟩
  | 3, _ => exact ⟨_, rfl, rfl⟩
def trueK (ks : List Int) : List (Key × D) := ks.map fun k => (.inl k, .bl true)
theorem trueK_put {ks : List Int} {k : Int} : dkPut (trueK ks) (.inl k) (.bl true) = trueK (if k ∈ ks then ks else ks ++ [k]) := by
  unfold dkPut
  by_cases h : k ∈ ks
  · rw [if_pos h, if_pos]
    · unfold trueK
      rw [List.map_map]
      refine List.map_congr_left fun j _ => ?_
      show (if (Sum.inl j : Key) = .inl k then ((.inl j : Key), D.bl true) else (.inl j, .bl true)) = _
      split <;> rfl
    · refine List.any_eq_true.mpr ⟨(.inl k, .bl true), List.mem_map.mpr ⟨k, h, rfl⟩, decide_eq_true rfl⟩
  · rw [if_neg h, if_neg]
    · unfold trueK
      rw [List.map_append] <;> rfl
    · intro z
      obtain ⟨x, hx, e⟩ := List.any_eq_true.mp z
      obtain ⟨j, hj, rfl⟩ := List.mem_map.mp hx
      have e2 : (Sum.inl j : Key) = .inl k := of_decide_eq_true e
      cases e2
      exact h hj
section
variable {P : Program} {w : World} {K : PySem.W.Frag} {mg : Str → Option Value} {base : Heap}
theorem ok_passed {f : Addr} {fd : FuncData} {C_PriceTable C_Sides C_NoRows C_NoSide C_NoSides C_NoNumber C_NoRow Pl : Addr}
    (F : Fd K "passed" "passed" s_passed [] f fd) (T : Tx K mg) (hsys : SysOk base) :
    FnG P w K mg base (L2.CX P w) 1 f fd a_passed (spOf K p_passed) := by
  refine VS.unbox ?_
  simp (disch := with_unfolding_all
    refine fn_val F sc_passed (fun ds S G Y h => ?_) (fun cdv A hgd outer s H E hr px tk po ds S G Y h => ?_)
    · obtain ⟨r, x, y, z, t, rfl, _⟩ := h
      rfl
    · obtain ⟨r, x, y, z, t, rfl, q⟩ := h
      obtain ⟨aR, hR, rR⟩ := T.c_WORDS
      refine ⟨_, (pss_cons (ps_for po rfl (VS.pi_zipB3 (by rfl) T.b_zip (pa_cons (pe_kd (by rfl) hR) (pa_cons (pv 0) (pa_cons (pv 1) pa_nil)))) (pg_tup (n := 3) rfl (pgs_cons (pg_name (i := 2) sc_passed.nd rfl (Or.inl rfl)) (pgs_cons (pg_name (i := 3) sc_passed.nd rfl (Or.inl rfl)) (pgs_cons (pg_name (i := 4) sc_passed.nd rfl (Or.inl rfl)) pgs_nil))))
        (pss_one (ps_if (PW.pt (pw_and (pt_cmpR op_notNo (pv 3) pe_non (nomark _)) (pw_and1 (pt_cmpR op_gt (pv 4) (pv 3) (nomark _))))) (pss_one (ps_ret (pe_tup (pa_cons (pv 2) (pa_cons (pe_op op_sub (pv 4) (pv 3)) pa_nil)))))
        pss_nil)))
        (pss_one (ps_ret pe_non))), ?_⟩
      (try dsimp only [cxOf, List.map])
      show VX _ _ [_, _, _, _, _] _ _
      walk_at "gr"
      refine vx_for (vi_zipB3 ?_)
      walk_at "gr"
      refine ⟨_, _, _, _, _, _, _, _, _, rfl, .t, .t, .t, fun i ρ2 S2 => S2 = S ∧ stopK r [x, y, z, t] i = pasP r [x, y, z, t] ∧ ∃ x2 x3 x4, ρ2 = [some (rwpD r), some (.tup [.int x, .int y, .int z, .int t]), x2, x3, x4], ⟨rfl, rfl, _, _, _, rfl⟩, ?_, ?_⟩
      · rintro i d _ S2 hd ⟨rfl, hk, x2, x3, x4, rfl⟩
        obtain ⟨hi, wd, l, n, rfl, hs⟩ := stop_at hd
        cases l with
        | none =>
          walk_at "gr"
          exact ⟨rfl, hs.symm.trans hk, _, _, _, rfl⟩
        | some k =>
          dsimp only at hs
          dsimp only [liD]
          walk_at "gr"
          refine br (fun e => ?_) (fun e => ?_)
          · rw [if_pos (by omega), hk] at hs
            walk_at "gr"
            rw [hs] at q
            exact q
          · rw [if_neg (by omega), hk] at hs
            walk_at "gr"
            exact ⟨rfl, hs.symm, _, _, _, rfl⟩
      · rintro ρ2 S2 ⟨rfl, hk, x2, x3, x4, rfl⟩
        walk_at "gr"
        have e : pasP r [x, y, z, t] = none := hk.symm
        rw [e] at q
        exact q) only [↓VS.box]
theorem ok_row_at {f : Addr} {fd : FuncData} {C_PriceTable C_Sides C_NoRows C_NoSide C_NoSides C_NoNumber C_NoRow Pl : Addr} {f_passed : Addr} {g_passed : FuncData}
    (F : Fd K "row_at" "row_at" s_row_at [] f fd) (T : Tx K mg) (hsys : SysOk base)
    (c_passed : Cf P w K mg base (L2.CX P w) 1 "passed" s_passed [] a_passed p_passed f_passed g_passed) :
    FnG P w K mg base (L2.CX P w) 2 f fd a_row_at (spOf K p_row_at) := by
  refine VS.unbox ?_
  simp (disch := with_unfolding_all
    refine fn_val F sc_row_at (fun ds S G Y h => ?_) (fun cdv A hgd outer s H E hr px tk po ds S G Y h => ?_)
    · obtain ⟨rs, x, y, z, t, rfl, _⟩ := h
      rfl
    · obtain ⟨rs, x, y, z, t, rfl, q⟩ := h
      refine ⟨_, (pss_cons (ps_for po rfl (pi_enum (by rfl) T.b_enumerate (pa_cons (pv 0) pa_nil)) (pg_tup (n := 2) rfl (pgs_cons (pg_name (i := 2) sc_row_at.nd rfl (Or.inl rfl)) (pgs_cons (pg_name (i := 3) sc_row_at.nd rfl (Or.inl rfl)) pgs_nil)))
        (pss_one (ps_if (pt_cmpR op_isNo (pe_cG c_passed.fn hgd (hr.mono (by decide)) (by rfl) c_passed.mg c_passed.kp c_passed.b .nil VS.pass0 (pa_cons (pv 3) (pa_cons (pv 1) pa_nil))) pe_non (nomark _)) (pss_one (ps_ret (pv 2)))
        pss_nil)))
        (pss_one (ps_ret pe_non))), ?_⟩
      (try dsimp only [cxOf, List.map])
      show VX _ _ [_, _, _, _] _ _
      walk_at "gr"
      refine vx_for (vi_enum ?_)
      walk_at "gr"
      refine ⟨_, _, rfl, .v, fun i ρ2 S2 => S2 = S ∧ (∀ j r, j < i → rs[j]? = some r → pasP r [x, y, z, t] ≠ none) ∧ ∃ x2 x3, ρ2 = [some (.lst (rs.map rwpD)), some (.tup [.int x, .int y, .int z, .int t]), x2, x3], ⟨rfl, fun j r h => absurd h (Nat.not_lt_zero _), _, _, rfl⟩, ?_, ?_⟩
      · rintro i d _ S2 hd ⟨rfl, hw, x2, x3, rfl⟩
        obtain ⟨e, he, rfl⟩ := enumD_get hd
        rw [List.getElem?_map] at he
        obtain ⟨r, hr2, rfl⟩ := Option.map_eq_some_iff.mp he
        walk_at "gr"
        refine ⟨r, x, y, z, t, rfl, ?_⟩
        cases ep : pasP r [x, y, z, t] with
        | none =>
          walk_at "gr"
          have hl : i < rs.length := (List.getElem?_eq_some_iff.mp hr2).1
          have f : fallI rs [x, y, z, t] = some i := List.findIdx?_eq_some_iff_getElem.mpr ⟨hl, by
            have e9 : rs[i] = r := (List.getElem?_eq_some_iff.mp hr2).2
            rw [e9, ep] <;> rfl, fun j hj => by
            have := hw j rs[j] hj (List.getElem?_eq_getElem (Nat.lt_trans hj hl))
            cases e8 : pasP rs[j] [x, y, z, t] with
            | none => exact absurd e8 this
            | some v => simp⟩
          rw [f] at q
          exact q
        | some v =>
          walk_at "gr"
          refine ⟨rfl, fun j r' hj hr3 => ?_, _, _, rfl⟩
          by_cases hji : j < i
          · exact hw j r' hji hr3
          · obtain rfl : j = i := by omega
            rw [hr2] at hr3
            cases hr3
            rw [ep]
            simp
      · rintro ρ2 S2 ⟨rfl, hw, x2, x3, rfl⟩
        walk_at "gr"
        have f : fallI rs [x, y, z, t] = none := List.findIdx?_eq_none_iff.mpr fun r hr2 => by
          obtain ⟨j, hj⟩ := List.getElem?_of_mem hr2
          have hl : j < rs.length := (List.getElem?_eq_some_iff.mp hj).1
          have := hw j r (by rw [enumD_len, List.length_map]; exact hl) hj
          cases e8 : pasP r [x, y, z, t] with
          | none => exact absurd e8 this
          | some v => rfl
        rw [f] at q
        exact q) only [↓VS.box]
theorem ok_price_at {f : Addr} {fd : FuncData} {C_PriceTable C_Sides C_NoRows C_NoSide C_NoSides C_NoNumber C_NoRow Pl : Addr} {f_row_at : Addr} {g_row_at : FuncData}
    (F : Fd K "price_at" "price_at" s_price_at [] f fd) (T : Tx K mg) (hsys : SysOk base)
    (c_row_at : Cf P w K mg base (L2.CX P w) 2 "row_at" s_row_at [] a_row_at p_row_at f_row_at g_row_at) :
    FnG P w K mg base (L2.CX P w) 3 f fd a_price_at (spOf K p_price_at) := by
  refine VS.unbox ?_
  simp (disch := with_unfolding_all
    refine fn_val F sc_price_at (fun ds S G Y h => ?_) (fun cdv A hgd outer s H E hr px tk po ds S G Y h => ?_)
    · obtain ⟨rs, x, y, z, t, rfl, _⟩ := h
      rfl
    · obtain ⟨rs, x, y, z, t, rfl, q⟩ := h
      refine ⟨_, (pss_cons (ps_set (i := 2) sc_price_at.nd rfl (Or.inl rfl) (pe_cG c_row_at.fn hgd (hr.mono (by decide)) (by rfl) c_row_at.mg c_row_at.kp c_row_at.b .nil VS.pass0 (pa_cons (pv 0) (pa_cons (pv 1) pa_nil))))
        (pss_cons (ps_if (pt_cmpR op_isNo (pv 2) pe_non (nomark _)) (pss_one (ps_ret pe_non))
        pss_nil)
        (pss_one (ps_ret (pe_ix ix_tup (pe_ix ix_list (pv 0) (pv 2) (fun _ _ => rfl)) pe_int (fun _ _ => rfl)))))), ?_⟩
      (try dsimp only [cxOf, List.map])
      show VX _ _ [_, _, _] _ _
      walk_at "gr"
      refine ⟨rs, x, y, z, t, rfl, ?_⟩
      unfold prc at q
      cases e : fallI rs [x, y, z, t] with
      | none =>
        rw [e] at q
        walk_at "gr"
        exact q
      | some i =>
        obtain ⟨hl, _⟩ := List.findIdx?_eq_some_iff_getElem.mp e
        have hi : rs[i]? = some rs[i] := List.getElem?_eq_getElem hl
        rw [e] at q
        have q : G (liD ((rs[i]?).map RwP.p)) S := q
        rw [hi] at q
        walk_at "gr"
        refine rv_ixL .v (d := rwpD rs[i]) (atI_nat (j := i) (by rw [List.getElem?_map, hi] <;> rfl)) ?_
        walk_at "gr"
        exact rv_ixT (d := .int rs[i].p) rfl q) only [↓VS.box]
theorem ok_values_of {f : Addr} {fd : FuncData} {C_PriceTable C_Sides C_NoRows C_NoSide C_NoSides C_NoNumber C_NoRow Pl : Addr}
    (F : Fd K "values_of" "values_of" s_values_of [] f fd) (T : Tx K mg) (hsys : SysOk base) :
    FnG P w K mg base (L2.CX P w) 1 f fd a_values_of (spOf K p_values_of) := by
  refine VS.unbox ?_
  simp (disch := with_unfolding_all
    refine fn_val F sc_values_of (fun ds S G Y h => ?_) (fun cdv A hgd outer s H E hr px tk po ds S G Y h => ?_)
    · obtain ⟨rs, a, fi, mo, rfl, _⟩ := h
      rfl
    · obtain ⟨rs, a, fi, mo, rfl, ha, hz, q⟩ := h
      refine ⟨_, (pss_cons (ps_set (i := 4) sc_values_of.nd rfl (Or.inl rfl) (pe_disp (pps_cons (pv 2) pe_bl pps_nil) (by rfl) (by rfl) (fun z => by cases z) (by decide)))
        (pss_cons (ps_for po rfl (pi_list (pv 0)) (pg_name (i := 5) sc_values_of.nd rfl (Or.inl rfl))
        (pss_one (ps_if (PW.pt (pw_and (pt_cmpR op_notNo (pe_ix ix_tup (pv 5) (pv 1) (fun _ _ => rfl)) pe_non (nomark _)) (pw_and1 (pt_cmpR op_lt (pe_ix ix_tup (pv 5) (pv 1) (fun _ _ => rfl)) (pv 3) (nomark _))))) (pss_one (ps_dput (hu_of hr) (pv 4) (pe_op op_add (pe_ix ix_tup (pv 5) (pv 1) (fun _ _ => rfl)) pe_int) pe_bl (by rfl)))
        pss_nil)))
        (pss_one (ps_ret (pe_callB (VS.c_sortDI rfl) (by rfl) T.b_sorted (by decide +kernel) (pa_cons (pv 4) pa_nil)))))), ?_⟩
      (try dsimp only [cxOf, List.map])
      show VX _ _ [_, _, _, _, _, _] _ _
      refine vx_seq (vx_asg ?_)
      refine ve_dispc ?_
      refine vps_cons ?_
      walk_at "gr"
      intro p hp
      have x1 : Ext S (VS.put S p (.dK (trueK [fi]))) := Ext.put hp
      have c1 : (VS.put S p (.dK (trueK [fi]))) p = some (.dK (trueK [fi])) := put_same
      show VG _ _ _ _ (VS.put S p (.dK (trueK [fi]))) _
      generalize VS.put S p (.dK (trueK [fi])) = S1 at x1 c1 ⊢
      walk_at "gr"
      refine vx_for (vi_list ?_)
      walk_at "gr"
      refine ⟨_, .v, fun i ρ2 S2 => ∃ ks : List Int, S2 p = some (.dK (trueK ks)) ∧ ks.Nodup ∧ Ext S S2 ∧ (∀ k, k ∈ ks ↔ k = fi ∨ ∃ j r v, j < i ∧ rs[j]? = some r ∧ r.ls[a]? = some (some v) ∧ v < mo ∧ k = v + 1) ∧ ks.length ≤ i + 1 ∧ ∃ x5, ρ2 = [some (.lst (rs.map rwpD)), some (.int (a : Nat)), some (.int fi), some (.int mo), some (.ref p), x5], ⟨[fi], c1, by simp, x1, fun k => ⟨fun h => .inl (by simpa using h), fun h => h.elim (fun e => by simp [e]) fun ⟨j, _, _, h, _⟩ => absurd h (Nat.not_lt_zero _)⟩, by simp, _, rfl⟩, ?_, ?_⟩
      · rintro i d _ S2 hd ⟨ks, h1, h2, h3, h4, h5, x5, rfl⟩
        rw [List.getElem?_map] at hd
        obtain ⟨r, hr2, rfl⟩ := Option.map_eq_some_iff.mp hd
        have hl : i < rs.length := (List.getElem?_eq_some_iff.mp hr2).1
        obtain ⟨l, e1, e2⟩ := li_ls (r := r) ha
        have stay : (∀ v, l = some v → ¬ v < mo) → ∀ k, k ∈ ks ↔ k = fi ∨ ∃ j r v, j < i + 1 ∧ rs[j]? = some r ∧ r.ls[a]? = some (some v) ∧ v < mo ∧ k = v + 1 := fun no k => (h4 k).trans ⟨fun h => h.imp id fun ⟨j, r, v, hj, z⟩ => ⟨j, r, v, by omega, z⟩, fun h => h.imp id fun ⟨j, r', v, hj, z1, z2, z3, z4⟩ => by
          by_cases hji : j < i
          · exact ⟨j, r', v, hji, z1, z2, z3, z4⟩
          · obtain rfl : j = i := by omega
            rw [hr2] at z1
            cases z1
            rw [e1] at z2
            exact absurd z3 (no v (Option.some.inj z2))⟩
        walk_at "gr"
        refine rv_ixT (d := liD l) e2 ?_
        cases l with
        | none =>
          walk_at "gr"
          exact ⟨ks, h1, h2, h3, stay (fun v z => nomatch z), by omega, _, rfl⟩
        | some v =>
          walk_at "gr"
          refine rv_ixT (d := .int v) e2 ?_
          walk_at "gr"
          refine br (fun e => ?_) (fun e => ?_)
          · walk_at "gr"
            refine vx_dput ?_
            walk_at "gr"
            refine rv_ixT (d := .int v) e2 ?_
            walk_at "gr"
            refine ⟨trueK ks, .inl (v + 1), h1, rfl, by unfold trueK; rw [List.length_map]; have := szl; omega, ?_⟩
            rw [trueK_put]
            refine ⟨_, put_same, ?_, fun y dy hy => ?_, fun k => ?_, ?_, _, rfl⟩
            · split
              · exact h2
              · rename_i nk
                exact List.nodup_append.mpr ⟨h2, by simp, fun x hx y hy => by
                  obtain rfl : y = v + 1 := by simpa using hy
                  exact fun z => nk (z ▸ hx)⟩
            · have : y ≠ p := fun z => by rw [z, hp] at hy; cases hy
              rw [put_ne this]
              exact h3 y dy hy
            · have mm : k ∈ (if v + 1 ∈ ks then ks else ks ++ [v + 1]) ↔ k ∈ ks ∨ k = v + 1 := by
                split
                · rename_i ik
                  exact ⟨.inl, fun h => h.elim id fun z => z ▸ ik⟩
                · simp
              rw [mm, h4 k]
              constructor
              · rintro ((h | ⟨j, r', v', hj, z⟩) | h)
                · exact .inl h
                · exact .inr ⟨j, r', v', by omega, z⟩
                · exact .inr ⟨i, r, v, by omega, hr2, e1, e, h⟩
              · rintro (h | ⟨j, r', v', hj, z1, z2, z3, z4⟩)
                · exact .inl (.inl h)
                · by_cases hji : j < i
                  · exact .inl (.inr ⟨j, r', v', hji, z1, z2, z3, z4⟩)
                  · obtain rfl : j = i := by omega
                    rw [hr2] at z1
                    cases z1
                    rw [e1] at z2
                    cases z2
                    exact .inr z4
            · split
              · omega
              · rw [List.length_append, List.length_singleton]; omega
          · walk_at "gr"
            exact ⟨ks, h1, h2, h3, stay (fun v' z => by cases z; exact e), by omega, _, rfl⟩
      · rintro ρ2 S2 ⟨ks, h1, h2, h3, h4, h5, x5, rfl⟩
        rw [List.length_map] at h4 h5
        walk_at "gr"
        refine rc_sortDI (ks := ks) (.c h1) (by unfold trueK; rw [List.map_map] <;> rfl) (by omega) fun ys pm up => ?_
        refine q ys _ ⟨lt_of_le_nodup ys up (pm.nodup_iff.mpr h2), fun k => ?_, by rw [pm.length_eq]; exact h5⟩ h3
        rw [pm.mem_iff, h4 k]
        refine or_congr Iff.rfl ⟨fun ⟨j, r, v, _, z1, z⟩ => ⟨r, List.mem_of_getElem? z1, v, z⟩, fun ⟨r, hr2, v, z⟩ => ?_⟩
        obtain ⟨j, hj⟩ := List.getElem?_of_mem hr2
        exact ⟨j, r, v, (List.getElem?_eq_some_iff.mp hj).1, hj, z⟩) only [↓VS.box]
theorem ok_merged {f : Addr} {fd : FuncData} {C_PriceTable C_Sides C_NoRows C_NoSide C_NoSides C_NoNumber C_NoRow Pl : Addr}
    (F : Fd K "merged" "merged" s_merged [] f fd) (T : Tx K mg) (hsys : SysOk base) :
    FnG P w K mg base (L2.CX P w) 1 f fd a_merged (spOf K p_merged) := by
  refine VS.unbox ?_
  simp (disch := with_unfolding_all
    refine fn_val F sc_merged (fun ds S G Y h => ?_) (fun cdv A hgd outer s H E hr px tk po ds S G Y h => ?_)
    · obtain ⟨xs, ys, rfl, _⟩ := h
      rfl
    · obtain ⟨xs, ys, rfl, hl, q⟩ := h
      refine ⟨_, (pss_one (ps_ret (pe_callB (cr_sortedSet rfl) (by rfl) T.b_sorted (by decide +kernel) (pa_cons (pe_op VS.op_orI (pe_callTy (VS.c_setI rfl) (by rfl) T.b_set (by decide +kernel) (pa_cons (pv 0) pa_nil)) (pe_callTy (VS.c_setI rfl) (by rfl) T.b_set (by decide +kernel) (pa_cons (pv 1) pa_nil))) pa_nil)))), ?_⟩
      (try dsimp only [cxOf, List.map])
      show VX _ _ [_, _] _ _
      refine vx_ret ?_
      refine ve_sortOr ?_
      walk_at "gr"
      refine ⟨_, xs, rfl, .v, by omega, ?_⟩
      walk_at "gr"
      exact ⟨_, ys, rfl, .v, hl, q⟩) only [↓VS.box]
theorem ok_parts_at_unlike {C_PriceTable C_Sides C_NoRows C_NoSide C_NoSides C_NoNumber C_NoRow Pl : Addr} {f_price_at : Addr} {g_price_at : FuncData}
    (T : Tx K mg) (hsys : SysOk base)
    (c_price_at : Cf P w K mg base (L2.CX P w) 3 "price_at" s_price_at [] a_price_at p_price_at f_price_at g_price_at) (cl : List (Str × Addr)) (c' : Addr) :
    VS.NOkG P w K mg base (L2.CX P w) 4 (NdefX.NF.of s_parts_at_unlike "unlike" "parts_at.<locals>.unlike" cl c') a_parts_at_unlike fr_parts_at_unlike (VS.spN K p_unlike) := by
  refine VS.unbox ?_
  simp (disch := with_unfolding_all
    refine nfn_val (N := n_parts_at_unlike) sc_parts_at_unlike (fun _ _ _ us hl => match us, hl with | [_], _ => rfl) (fun cs ds S G Y h => ?_) (fun f A hgd outer s H E hr px tk po cs ds S G Y h => ?_)
    · obtain ⟨xs, ys, x, y, z, t, rfl, rfl, _⟩ := h
      rfl
    · obtain ⟨xs, ys, x, y, z, t, rfl, rfl, q⟩ := h
      refine ⟨_, (pss_one (ps_ret (pe_cmpR op_ne (pe_cG c_price_at.fn hgd (hr.mono (by decide)) (by rfl) c_price_at.mg c_price_at.kp c_price_at.b .nil VS.pass0 (pa_cons (pv 1) (pa_cons (pv 0) pa_nil))) (pe_cG c_price_at.fn hgd (hr.mono (by decide)) (by rfl) c_price_at.mg c_price_at.kp c_price_at.b .nil VS.pass0 (pa_cons (pv 2) (pa_cons (pv 0) pa_nil))) (nomark _)))), ?_⟩
      (try dsimp only [cxOf, List.map])
      show VX _ _ [_, _, _] _ _
      walk_at "gr"
      refine ⟨xs, x, y, z, t, rfl, ?_⟩
      walk_at "gr"
      refine ⟨ys, x, y, z, t, rfl, ?_⟩
      unfold unlB at q
      cases e1 : prc xs [x, y, z, t] <;> cases e2 : prc ys [x, y, z, t] <;> (rw [e1, e2] at q; walk_at "gr"; first | exact q | (refine rv_ne rfl ?_; first | exact q | (simp only [reduceCtorEq, decide_false, Bool.not_false] at q; exact q) | (simp only [Option.some.injEq] at q; exact q)) | (simp only [Option.some.injEq] at q; exact q))) only [↓VS.box]
theorem ok_least_place {f : Addr} {fd : FuncData} {C_PriceTable C_Sides C_NoRows C_NoSide C_NoSides C_NoNumber C_NoRow Pl : Addr} {f_values_of f_merged : Addr} {g_values_of g_merged : FuncData}
    (F : Fd K "least_place" "least_place" s_least_place [] f fd) (T : Tx K mg) (hsys : SysOk base)
    (c_values_of : Cf P w K mg base (L2.CX P w) 1 "values_of" s_values_of [] a_values_of p_values_of f_values_of g_values_of)
    (c_merged : Cf P w K mg base (L2.CX P w) 1 "merged" s_merged [] a_merged p_merged f_merged g_merged) :
    VS.FnC P w K mg base (L2.CX P w) 6 f fd a_least_place (VS.spC K (p_least P w K mg base)) := by
  refine VS.unbox ?_
  simp (disch := with_unfolding_all
    refine fnC_val F sc_least_place (fun Fh fr ws ds S G Y h => ?_) (fun Fh fr ws cdv A hgd outer s H E hr px tk po hC hnf ds S G Y h => ?_)
    · obtain ⟨rs, cs, hold, pN, rfl, _⟩ := h
      rfl
    · obtain ⟨rs, cs, hold, pN, rfl, hl, hN, hp, q⟩ := h
      refine ⟨_, (pss_cons (ps_set (i := 2) sc_least_place.nd rfl (Or.inl rfl) (pe_cG c_values_of.fn hgd (hr.mono (by decide)) (by rfl) c_values_of.mg c_values_of.kp c_values_of.b .nil VS.pass0 (pa_cons (pv 0) (pa_cons pe_int (pa_cons pe_int (pa_cons (pe_gc (by rfl) T.c_MOST_SIDE_grids) pa_nil))))))
        (pss_cons (ps_set (i := 3) sc_least_place.nd rfl (Or.inl rfl) (pe_cG c_merged.fn hgd (hr.mono (by decide)) (by rfl) c_merged.mg c_merged.kp c_merged.b .nil VS.pass0 (pa_cons (pe_cG c_values_of.fn hgd (hr.mono (by decide)) (by rfl) c_values_of.mg c_values_of.kp c_values_of.b .nil VS.pass0 (pa_cons (pv 0) (pa_cons pe_int (pa_cons pe_int (pa_cons (pe_gc (by rfl) T.c_MOST_SIDE_grids) pa_nil))))) (pa_cons (pv 2) pa_nil))))
        (pss_cons (ps_set (i := 4) sc_least_place.nd rfl (Or.inl rfl) (pe_cG c_merged.fn hgd (hr.mono (by decide)) (by rfl) c_merged.mg c_merged.kp c_merged.b .nil VS.pass0 (pa_cons (pe_cG c_values_of.fn hgd (hr.mono (by decide)) (by rfl) c_values_of.mg c_values_of.kp c_values_of.b .nil VS.pass0 (pa_cons (pv 0) (pa_cons pe_int (pa_cons pe_int (pa_cons (pe_gc (by rfl) T.c_MOST_SIDE_grids) pa_nil))))) (pa_cons (pv 3) pa_nil))))
        (pss_cons (ps_set (i := 5) sc_least_place.nd rfl (Or.inl rfl) (pe_cG c_values_of.fn hgd (hr.mono (by decide)) (by rfl) c_values_of.mg c_values_of.kp c_values_of.b .nil VS.pass0 (pa_cons (pv 0) (pa_cons pe_int (pa_cons pe_int (pa_cons (pe_gc (by rfl) T.c_MOST_WEIGHT) pa_nil))))))
        (pss_cons (ps_for po rfl (pi_list (pv 4)) (pg_name (i := 6) sc_least_place.nd rfl (Or.inr rfl))
        (pss_one (ps_for po rfl (pi_list (pe_lc (own := [("value", 10)]) rfl sc_least_place.nd (pi_list (pv 3)) (blkOk_by (own := [("value", 10)]) (N := n_least_place) (sc := defScope s_least_place) (by decide +kernel)) (fun _ _ _ _ _ => (pg_name (i := 10) sc_least_place.nd rfl (Or.inl rfl))) (fun _ _ _ _ _ => (pts_one (pt_cmpR op_le (pv 10) (pv 6) (nomark _)))) (fun _ _ _ _ _ => (pv 10)))) (pg_name (i := 7) sc_least_place.nd rfl (Or.inr rfl))
        (pss_one (ps_for po rfl (pi_list (pe_lc (own := [("value", 10)]) rfl sc_least_place.nd (pi_list (pv 2)) (blkOk_by (own := [("value", 10)]) (N := n_least_place) (sc := defScope s_least_place) (by decide +kernel)) (fun _ _ _ _ _ => (pg_name (i := 10) sc_least_place.nd rfl (Or.inl rfl))) (fun _ _ _ _ _ => (pts_one (pt_cmpR op_le (pv 10) (pv 7) (nomark _)))) (fun _ _ _ _ _ => (pv 10)))) (pg_name (i := 8) sc_least_place.nd rfl (Or.inl rfl))
        (pss_one (ps_for po rfl (pi_list (pv 5)) (pg_name (i := 9) sc_least_place.nd rfl (Or.inl rfl))
        (pss_one (ps_if (pt_val (VS.pe_callV hN hgd hr (by decide) VS.pass0 hC hnf rfl (i := 1) rfl (by first | exact Or.inl rfl | exact Or.inr (Or.inl rfl) | exact Or.inr (Or.inr rfl)) (pa_cons (pe_tup (pa_cons (pv 6) (pa_cons (pv 7) (pa_cons (pv 8) (pa_cons (pv 9) pa_nil))))) pa_nil))) (pss_one (ps_ret (pe_tup (pa_cons (pv 6) (pa_cons (pv 7) (pa_cons (pv 8) (pa_cons (pv 9) pa_nil)))))))
        pss_nil)))))))))
        (pss_one (ps_ret pe_non))))))), ?_⟩
      (try dsimp only [cxOf, List.map])
      show VX _ _ [_, _, _, _, _, _, _, _, _, _, _] _ _
      walk_at "gr"
      refine ⟨rs, 2, 1, 100000, rfl, by decide, by omega, fun sh S1 v1 x1 => ?_⟩
      walk_at "gr"
      refine ⟨rs, 1, 1, 100000, rfl, by decide, by omega, fun m0 S2 v2 x2 => ?_⟩
      walk_at "gr"
      refine ⟨m0, sh, rfl, by have := v1.len; have := v2.len; omega, fun mi up3 me3 le3 => ?_⟩
      walk_at "gr"
      refine ⟨rs, 0, 1, 100000, rfl, by decide, by omega, fun l0 S3 v4 x4 => ?_⟩
      walk_at "gr"
      refine ⟨l0, mi, rfl, by have := v1.len; have := v2.len; have := v4.len; omega, fun lo up5 me5 le5 => ?_⟩
      walk_at "gr"
      refine ⟨rs, 3, 0, 2000000, rfl, by decide, by omega, fun we S4 v6 x6 => ?_⟩
      have xx : Ext S S4 := ((x1.trans x2).trans x4).trans x6
      have q := q lo mi sh we S4 ⟨v1, up3, ⟨m0, v2, me3⟩, up5, ⟨l0, v4, me5⟩, v6⟩ xx
      have lmi : mi.length ≤ 1000 := by have := v1.len; have := v2.len; omega
      have lsh : sh.length ≤ 1000 := by have := v1.len; omega
      clear v1 v2 v4 v6 me3 me5 up3 up5 x1 x2 x4 x6
      walk_at "gr"
      refine vx_for (vi_list ?_)
      walk_at "gr"
      refine ⟨_, .v, fun i ρ2 S5 => S5 = S4 ∧ (lo.take i).findSome? (leL hold mi sh we) = none ∧ ∃ y6 y7 y8 y9 y10, ρ2 = [some (.lst (rs.map rwpD)), some (.fn Fh ws cs), some (.lst (sh.map .int)), some (.lst (mi.map .int)), some (.lst (lo.map .int)), some (.lst (we.map .int)), y6, y7, y8, y9, y10], ⟨rfl, rfl, _, _, _, _, _, rfl⟩, ?_, ?_⟩
      · rintro i d _ S5 hd ⟨rfl, hw, y6, y7, y8, y9, y10, rfl⟩
        rw [List.getElem?_map] at hd
        obtain ⟨l, hl2, rfl⟩ := Option.map_eq_some_iff.mp hd
        walk_at "gr"
        refine vx_for (vi_list ?_)
        refine ve_lcF (leqD l) id (vi_list ?_)
        walk_at "gr"
        refine ⟨_, .v, by rw [List.length_map]; omega, fun d hd => ?_, ?_⟩
        · obtain ⟨v, _, rfl⟩ := List.mem_map.mp hd
          walk_at "gr"
          refine ⟨rfl, fun _ => rfl, fun _ => ?_⟩
          walk_at "gr"
          exact ⟨rfl, rfl⟩
        rw [leqD_flt]
        refine ⟨_, .v, fun i3 ρ3 S6 => S6 = S5 ∧ ((mi.filter fun m => decide (m ≤ l)).take i3).findSome? (leM hold sh we l) = none ∧ ∃ z7 z8 z9 z10, ρ3 = [some (.lst (rs.map rwpD)), some (.fn Fh ws cs), some (.lst (sh.map .int)), some (.lst (mi.map .int)), some (.lst (lo.map .int)), some (.lst (we.map .int)), some (.int l), z7, z8, z9, z10], ⟨rfl, rfl, _, _, _, _, rfl⟩, ?_, ?_⟩
        · rintro i3 d _ S6 hd ⟨rfl, hw3, z7, z8, z9, z10, rfl⟩
          rw [List.getElem?_map] at hd
          obtain ⟨m, hm2, rfl⟩ := Option.map_eq_some_iff.mp hd
          walk_at "gr"
          refine vx_for (vi_list ?_)
          refine ve_lcF (leqD m) id (vi_list ?_)
          walk_at "gr"
          refine ⟨_, .v, by rw [List.length_map]; omega, fun d hd => ?_, ?_⟩
          · obtain ⟨v, _, rfl⟩ := List.mem_map.mp hd
            walk_at "gr"
            refine ⟨rfl, fun _ => rfl, fun _ => ?_⟩
            walk_at "gr"
            exact ⟨rfl, rfl⟩
          rw [leqD_flt]
          refine ⟨_, .v, fun i4 ρ4 S7 => S7 = S6 ∧ ((sh.filter fun s => decide (s ≤ m)).take i4).findSome? (leS hold we l m) = none ∧ ∃ u8 u9 u10, ρ4 = [some (.lst (rs.map rwpD)), some (.fn Fh ws cs), some (.lst (sh.map .int)), some (.lst (mi.map .int)), some (.lst (lo.map .int)), some (.lst (we.map .int)), some (.int l), some (.int m), u8, u9, u10], ⟨rfl, rfl, _, _, _, rfl⟩, ?_, ?_⟩
          · rintro i4 d _ S7 hd ⟨rfl, hw4, u8, u9, u10, rfl⟩
            rw [List.getElem?_map] at hd
            obtain ⟨sv, hs2, rfl⟩ := Option.map_eq_some_iff.mp hd
            walk_at "gr"
            refine vx_for (vi_list ?_)
            walk_at "gr"
            refine ⟨_, .v, fun i5 ρ5 S8 => S8 = S7 ∧ (we.take i5).findSome? (leW hold l m sv) = none ∧ ∃ t9 t10, ρ5 = [some (.lst (rs.map rwpD)), some (.fn Fh ws cs), some (.lst (sh.map .int)), some (.lst (mi.map .int)), some (.lst (lo.map .int)), some (.lst (we.map .int)), some (.int l), some (.int m), some (.int sv), t9, t10], ⟨rfl, rfl, _, _, rfl⟩, ?_, ?_⟩
            · rintro i5 d _ S8 hd ⟨rfl, hw5, t9, t10, rfl⟩
              rw [List.getElem?_map] at hd
              obtain ⟨wv, hw2, rfl⟩ := Option.map_eq_some_iff.mp hd
              walk_at "gr"
              refine ve_callV rfl (XOk.none (E := noE)) ?_
              walk_at "gr"
              refine hp l m sv wv _ _ xx ⟨_, rfl, fun e => ?_, fun e => ?_⟩
              · have f5 : leW hold l m sv wv = some [l, m, sv, wv] := if_pos e
                have f4 : leS hold we l m sv = some [l, m, sv, wv] := some_first hw5 hw2 f5
                have f3 : leM hold sh we l m = some [l, m, sv, wv] := some_first hw4 hs2 f4
                have f2 : leL hold mi sh we l = some [l, m, sv, wv] := some_first hw3 hm2 f3
                have f1 : leastO hold lo mi sh we = some [l, m, sv, wv] := some_first hw hl2 f2
                rw [f1] at q
                walk_at "gr"
                exact q
              · walk_at "gr"
                exact ⟨rfl, none_next hw5 hw2 (if_neg (by rw [e]; exact Bool.false_ne_true)), _, _, rfl⟩
            · rintro ρ5 S8 ⟨rfl, hw5, t9, t10, rfl⟩
              rw [List.length_map, List.take_length] at hw5
              exact ⟨rfl, none_next hw4 hs2 hw5, _, _, _, rfl⟩
          · rintro ρ4 S7 ⟨rfl, hw4, u8, u9, u10, rfl⟩
            rw [List.length_map, List.take_length] at hw4
            exact ⟨rfl, none_next hw3 hm2 hw4, _, _, _, _, rfl⟩
        · rintro ρ3 S6 ⟨rfl, hw3, z7, z8, z9, z10, rfl⟩
          rw [List.length_map, List.take_length] at hw3
          exact ⟨rfl, none_next hw hl2 hw3, _, _, _, _, _, rfl⟩
      · rintro ρ2 S5 ⟨rfl, hw, y6, y7, y8, y9, y10, rfl⟩
        rw [List.length_map, List.take_length] at hw
        have f1 : leastO hold lo mi sh we = none := hw
        rw [f1] at q
        walk_at "gr"
        exact q) only [↓VS.box]
theorem ok_parts_at {f : Addr} {fd : FuncData} {C_PriceTable C_Sides C_NoRows C_NoSide C_NoSides C_NoNumber C_NoRow Pl c_Pl : Addr} {f_least_place : Addr} {g_least_place : FuncData}
    (F : Fd K "parts_at" "parts_at" s_parts_at [] f fd) (T : Tx K mg) (hsys : SysOk base)
    (tab : TabF K mg base f c_Pl Pl)
    (c_parts_at_unlike : ∀ (cl : List (Str × Addr)) (c' : Addr), VS.NOkG P w K mg base (L2.CX P w) 4 (NdefX.NF.of s_parts_at_unlike "unlike" "parts_at.<locals>.unlike" cl c') a_parts_at_unlike fr_parts_at_unlike (VS.spN K p_unlike))
    (c_least_place : VS.CfC P w K mg base 6 "least_place" s_least_place a_least_place (p_least P w K mg base) f_least_place g_least_place) :
    FnG P w K mg base (L2.CX P w) 8 f fd a_parts_at (spOf K (p_parts_at Pl)) := by
  refine VS.unbox ?_
  simp (disch := with_unfolding_all
    refine fn_valT tab.code F sc_parts_at (fun ds S G Y h => ?_) (fun A hgd outer s H E hr px tk po ds S G Y h => ?_)
    · obtain ⟨xs, ys, rfl, _⟩ := h
      rfl
    · obtain ⟨xs, ys, rfl, hP, hx, hy, q⟩ := h
      refine ⟨_, (pss_cons (VS.ps_defB (st := s_parts_at_unlike) (fr := ["one", "other"]) (i := 2) (q := "parts_at.<locals>.unlike") rfl tab.tab rfl (by rfl) (by rfl) rfl rfl (by rfl) sc_parts_at.nd rfl (Or.inl rfl) (Or.inl rfl))
        (pss_one (ps_ret (VS.pe_cCB (st := s_parts_at_unlike) (name := "unlike") (q := "parts_at.<locals>.unlike") (fr := ["one", "other"]) (js := [0, 1]) c_least_place (by rfl) rfl (fun _ => rfl) hgd (hr.mono (by decide)) (by rfl) VS.pass0 (pa_cons (pe_op op_cat (pv 0) (pv 1)) (pa_cons (pv 2) pa_nil)))))), ?_⟩
      (try dsimp only [cxOf, List.map])
      show VX _ _ [_, _, _] _ _
      refine vx_seq (vx_def (fun _ => ⟨rfl, rfl⟩) hP fun c' => ?_)
      refine vx_ret (ve_cC (cs := [.lst (xs.map rwpD), .lst (ys.map rwpD)]) rfl (XOk.none (E := noE)) ?_)
      walk_at "ga"
      refine ⟨_, c', rfl, fun ws => ?_⟩
      exact ⟨xs ++ ys, _, unlB xs ys, p_unlike, by rw [List.map_append], by rw [List.length_append]; omega, c_parts_at_unlike _ _, fun x y z t S1 G1 x1 g => ⟨xs, ys, x, y, z, t, rfl, rfl, g⟩, q⟩) only [↓VS.box]
end
end LW
namespace LW
open PySem L2 C8 PySem.Spec PyProof.Rows VS
/-! ### price tables: their rows by value, ==, parting -/
def tabD (C : Addr) (xs : List RwP) : D := ptD C (xs.map rwpD)
def p_PT_rowsV (CS : Addr) : Pt := fun ds S G _ => ∃ xs, ds = [ptD CS xs] ∧ G (.lst xs) S
def p_PT_eq (Pl : Addr) (K : PySem.W.Frag) (C : Addr) : Pt := fun ds S G _ => ∃ (xs : List RwP) (d : D), ds = [tabD C xs, d] ∧ S Pl = some (.str "parts_at.<locals>.unlike") ∧ xs.length ≤ 10 ∧
  ((∃ ys : List RwP, d = tabD C ys ∧ ys.length ≤ 10 ∧ ∀ lo mi sh we S1, Cand (xs ++ ys) lo mi sh we → Ext S S1 → G (.bl (leastO (unlB xs ys) lo mi sh we).isNone) S1) ∨
    ∃ t, OfC K S d t ∧ PySem.W.kitOne K t (.ref C) = some false ∧ G (.bl false) S)
section
variable {P : Program} {w : World} {K : PySem.W.Frag} {mg : Str → Option Value} {base : Heap}
theorem ok_PriceTable_rows {f : Addr} {fd : FuncData} {C_PriceTable C_Sides C_NoRows C_NoSide C_NoSides C_NoNumber C_NoRow Pl : Addr}
    (F : Fd K "rows" "PriceTable.rows" s_PriceTable_rows [] f fd) (T : Tx K mg) (hsys : SysOk base)
    (k_PriceTable : Kl_PriceTable K mg C_PriceTable) :
    FnG P w K mg base (L2.CX P w) 1 f fd a_PriceTable_rows (spOf K (p_PT_rowsV C_PriceTable)) := by
  refine VS.unbox ?_
  simp (disch := with_unfolding_all
    have kc_PriceTable := k_PriceTable.ins.cl
    have ka_PriceTable_kept := k_PriceTable.a_kept
    refine fn_val F sc_PriceTable_rows (fun ds S G Y h => ?_) (fun cdv A hgd outer s H E hr px tk po ds S G Y h => ?_)
    · obtain ⟨xs, rfl, _⟩ := h
      rfl
    · obtain ⟨xs, rfl, q⟩ := h
      refine ⟨_, (pss_one (ps_ret (pe_callTy c_list (by rfl) T.b_list (by decide +kernel) (pa_cons (pe_fld (pv 0) rfl) pa_nil)))), ?_⟩
      (try dsimp only [cxOf, List.map])
      show VX _ _ [_] _ _
      walk_at "go"
      refine ⟨_, _, _, .v, kc_PriceTable, ka_PriceTable_kept, rfl, ?_⟩
      walk_at "go"
      exact rc_list (.l .v) q) only [↓VS.box]
theorem ok_PriceTable___eq__ {f : Addr} {fd : FuncData} {C_PriceTable C_Sides C_NoRows C_NoSide C_NoSides C_NoNumber C_NoRow Pl : Addr} {f_parts_at : Addr} {g_parts_at : FuncData}
    (F : Fd K "__eq__" "PriceTable.__eq__" s_PriceTable___eq__ [] f fd) (T : Tx K mg) (hsys : SysOk base)
    (c_parts_at : Cf P w K mg base (L2.CX P w) 8 "parts_at" s_parts_at [] a_parts_at (p_parts_at Pl) f_parts_at g_parts_at)
    (k_PriceTable : Kl_PriceTable K mg C_PriceTable) :
    FnG P w K mg base (L2.CX P w) 9 f fd a_PriceTable___eq__ (spOf K (p_PT_eq Pl K C_PriceTable)) := by
  refine VS.unbox ?_
  simp (disch := with_unfolding_all
    have kc_PriceTable := k_PriceTable.ins.cl
    have ka_PriceTable_kept := k_PriceTable.a_kept
    refine fn_val F sc_PriceTable___eq__ (fun ds S G Y h => ?_) (fun cdv A hgd outer s H E hr px tk po ds S G Y h => ?_)
    · obtain ⟨xs, d, rfl, _⟩ := h
      rfl
    · obtain ⟨xs, d, rfl, hP, hx, h⟩ := h
      refine ⟨_, (pss_one (ps_ret (pe_and (pe_callB c_isiZ (by rfl) T.b_isinstance (by decide +kernel) (pa_cons (pv 1) (pa_cons (pe_gc (v := .ref C_PriceTable) (by rfl) ⟨_, k_PriceTable.at_, rfl⟩) pa_nil))) (pe_one (pe_cmpR op_isNo (pe_cG c_parts_at.fn hgd (hr.mono (by decide)) (by rfl) c_parts_at.mg c_parts_at.kp c_parts_at.b .nil VS.pass0 (pa_cons (pe_fld (pv 0) rfl) (pa_cons (pe_fld (pv 1) rfl) pa_nil))) pe_non (nomark _)))))), ?_⟩
      (try dsimp only [cxOf, List.map])
      show VX _ _ [_, _] _ _
      walk_at "go"
      refine ve_cls ?_
      walk_at "go"
      rcases h with ⟨ys, rfl, hy, q⟩ | ⟨t, ot, kt, q⟩
      · refine rc_isiO (.i .v k_PriceTable.ins) k_PriceTable.ins.me ?_
        walk_at "go"
        refine ⟨_, _, _, .v, k_PriceTable.ins.cl, k_PriceTable.a_kept, rfl, ?_⟩
        walk_at "go"
        refine ⟨_, _, _, .v, k_PriceTable.ins.cl, k_PriceTable.a_kept, rfl, ?_⟩
        walk_at "go"
        refine ⟨xs, ys, rfl, hP, hx, hy, fun lo mi sh we S1 cd x1 => ?_⟩
        walk_at "go"
        have q := q lo mi sh we S1 cd x1
        cases e : leastO (unlB xs ys) lo mi sh we with
        | none => rw [e] at q; exact q
        | some v => rw [e] at q; exact q
      · refine rc_isiO ot kt ?_
        walk_at "go"
        exact q) only [↓VS.box]
end
end LW
namespace LW
open PySem L2 C8 PySem.Spec PyProof.Rows VS
/-! ### the law's rows of prices, small and great -/
def Lim (lo mo : Int) (d : D) : Prop := d = .non ∨ ∃ v, d = .int v ∧ lo ≤ v ∧ v ≤ mo
theorem Lim.up {lo mo m : Int} {d : D} (h : Lim lo mo d) (le : mo ≤ m) : Lim lo m d := h.imp id fun ⟨v, e, a, b⟩ => ⟨v, e, a, Int.le_trans b le⟩
theorem Lim.limB {lo mo : Int} {d : D} (h : Lim lo mo d) : limB d lo mo = true := by
  rcases h with rfl | ⟨v, rfl, h⟩
  · rfl
  · show (false || whB (some v) lo mo) = true
    rw [whB_of h]; rfl
theorem Lim.ok {lo mo : Int} {d : D} (h : Lim lo mo d) (h0 : 0 ≤ lo) (h1 : mo ≤ 10000000) : Ok d 200 2 := by
  rcases h with rfl | ⟨v, rfl, h⟩
  · exact ok_non
  · exact ok_int (by omega)
theorem all5 {Q : D → Prop} {a b c d e : D} (h1 : Q a) (h2 : Q b) (h3 : Q c) (h4 : Q d) (h5 : Q e) : ∀ y ∈ [a, b, c, d, e], Q y := fun y hy => by
  simp only [List.mem_cons, List.not_mem_nil, or_false] at hy
  rcases hy with rfl | rfl | rfl | rfl | rfl <;> assumption
theorem Lim.li {lo mo : Int} {d : D} (h : Lim lo mo d) : ∃ o : Option Int, d = liD o ∧ ∀ k, o = some k → lo ≤ k ∧ k ≤ mo := by
  rcases h with rfl | ⟨v, rfl, h⟩
  · exact ⟨none, rfl, nofun⟩
  · exact ⟨some v, rfl, fun k e => by cases e; exact h⟩
/-- limits within so much -/
structure BdG (u v : Int) (r : RwP) : Prop where
  a : ∀ k, r.a = some k → 1 ≤ k ∧ k ≤ u
  b : ∀ k, r.b = some k → 1 ≤ k ∧ k ≤ u
  c : ∀ k, r.c = some k → 1 ≤ k ∧ k ≤ u
  w : ∀ k, r.w = some k → 0 ≤ k ∧ k ≤ v
  p0 : 0 ≤ r.p
  p1 : r.p ≤ 1000000
abbrev BdW (r : RwP) : Prop := BdG 100000 2000000 r
def bu (sm : Bool) (m : Int) : Int := if sm = true then m else 100000
def bv (sm : Bool) (m : Int) : Int := if sm = true then m - 1 else 2000000
abbrev BdQ (sm : Bool) (m : Int) (r : RwP) : Prop := BdG (bu sm m) (bv sm m) r
theorem BdG.mono {u v u' v' : Int} {r : RwP} (h : BdG u v r) (a : u ≤ u') (b : v ≤ v') : BdG u' v' r := ⟨fun k e => by have := h.a k e; omega, fun k e => by have := h.b k e; omega, fun k e => by have := h.c k e; omega, fun k e => by have := h.w k e; omega, h.p0, h.p1⟩
theorem bu_le (sm : Bool) {m n : Int} (h : m ≤ n) : bu sm m ≤ bu sm n ∧ bv sm m ≤ bv sm n := by
  cases sm
  · exact ⟨Int.le_refl _, Int.le_refl _⟩
  · exact ⟨h, by show m - 1 ≤ n - 1; omega⟩
theorem bu_wide (sm : Bool) {m : Int} (h : m ≤ 100) : bu sm m ≤ 100000 ∧ bv sm m ≤ 2000000 := by
  cases sm
  · exact ⟨Int.le_refl _, Int.le_refl _⟩
  · exact ⟨by show m ≤ _; omega, by show m - 1 ≤ _; omega⟩
theorem BdG.wide {sm : Bool} {m : Int} {r : RwP} (h : BdQ sm m r) (hm : m ≤ 100) : BdW r := h.mono (bu_wide sm hm).1 (bu_wide sm hm).2
theorem BdG.up {sm : Bool} {m n : Int} {r : RwP} (h : BdQ sm m r) (hm : m ≤ n) : BdQ sm n r := h.mono (bu_le sm hm).1 (bu_le sm hm).2
theorem li_lim {lo hi : Int} {o : Option Int} (h : ∀ k, o = some k → lo ≤ k ∧ k ≤ hi) : Lim lo hi (liD o) := by
  cases o with
  | none => exact .inl rfl
  | some k => exact .inr ⟨k, rfl, h k rfl⟩
theorem BdG.ok {r : RwP} (h : BdW r) : Ok (rwpD r) 1100 3 := by
  have f : ∀ {o : Option Int} {lo hi : Int}, 0 ≤ lo → hi ≤ 2000000 → (∀ k, o = some k → lo ≤ k ∧ k ≤ hi) → Ok (liD o) 200 2 := fun a b h => (li_lim h).ok a (by omega)
  exact (Ok.tup 5 (all5 (f (by decide) (by decide) h.a) (f (by decide) (by decide) h.b) (f (by decide) (by decide) h.c) (f (Int.le_refl 0) (by decide) h.w) (ok_int (by have := h.p0; have := h.p1; omega))) (Nat.le_refl _) (by decide) (by decide)).mono (by decide) (by decide)
theorem rows_ok {xs : List RwP} (h4 : xs.length ≤ 8) (h : ∀ r ∈ xs, BdW r) : Ok (.lst (xs.map rwpD)) 9000 4 :=
  (Ok.lst 8 (n := 1100) (k := 3) (fun y hy => by
    obtain ⟨r, hr, rfl⟩ := List.mem_map.mp hy
    exact (h r hr).ok) (by rw [List.length_map]; exact h4) (by decide)).mono (by decide) (by decide)
theorem BdG.row {r : RwP} (h : BdW r) : rowB (rwpD r) = true := by
  show ((LW.limB (liD r.a) 1 100000 && (LW.limB (liD r.b) 1 100000 && (LW.limB (liD r.c) 1 100000 && true))) && (LW.limB (liD r.w) 0 2000000 && whB (some r.p) 0 1000000)) = true
  rw [((li_lim h.a).up (by omega)).limB, ((li_lim h.b).up (by omega)).limB, ((li_lim h.c).up (by omega)).limB, ((li_lim h.w).up (by omega)).limB, whB_of ⟨h.p0, h.p1⟩]; rfl
def p__law_limit : Pt := fun ds S G _ => ∃ (p : Addr) (n lo mo : Int) (sm : Bool), ds = [.ref p, .int lo, .int mo, .bl sm] ∧ Pu S p n ∧ n < 900000 ∧ 0 ≤ lo ∧ lo + 200 ≤ mo ∧ mo ≤ 10000000 ∧ ∀ d S', Lim lo (if sm = true then lo + 4 else mo) d → Pu S' p (n + 5) → Off p S S' → G d S'
def p__law_rows : Pt := fun ds S G _ => ∃ (p : Addr) (n m : Int) (sm : Bool), ds = [.ref p, .int m, .bl sm] ∧ Pu S p n ∧ n < 800000 ∧ 0 ≤ m ∧ m ≤ 20 ∧ ∀ (rs : List RwP) l S', S l = none → (∀ r ∈ rs, BdQ sm 5 r) → (rs.length : Int) = m → S' l = some (.lst (rs.map rwpD)) → Pu S' p (n + 30 * m) → Ex1 p S S' → G (.ref l) S'
theorem Pu.off' {S S' : Sto} {p l : Addr} {d : D} (o : Off p S S') (ne : p ≠ l) (h : S l = some d) : S' l = some d := by rw [o l (Ne.symm ne)]; exact h
section
variable {P : Program} {w : World} {K : PySem.W.Frag} {mg : Str → Option Value} {base : Heap}
theorem ok__law_limit {f : Addr} {fd : FuncData} {C_PriceTable C_Sides C_NoRows C_NoSide C_NoSides C_NoNumber C_NoRow Pl : Addr} {f__law_take : Addr} {g__law_take : FuncData}
    (F : Fd K "_law_limit" "_law_limit" s__law_limit [] f fd) (T : Tx K mg) (hsys : SysOk base)
    (c__law_take : Cf P w K mg base (L2.CX P w) 1 "_law_take" s__law_take [] a__law_take p__law_take f__law_take g__law_take) :
    FnG P w K mg base (L2.CX P w) 2 f fd a__law_limit (spOf K p__law_limit) := by
  refine VS.unbox ?_
  simp (disch := with_unfolding_all
    refine fn_val F sc__law_limit (fun ds S G Y h => ?_) (fun cdv A hgd outer s H E hr px tk po ds S G Y h => ?_)
    · obtain ⟨p, n, lo, mo, sm, rfl, _⟩ := h
      rfl
    · obtain ⟨p, n, lo, mo, sm, rfl, hp, hn, h0, h1, h2, q⟩ := h
      refine ⟨_, (pss_cons (ps_if (pt_cmpR op_eq (pe_cG c__law_take.fn hgd (hr.mono (by decide)) (by rfl) c__law_take.mg c__law_take.kp c__law_take.b .nil VS.pass0 (pa_cons (pv 0) (pa_cons pe_int pa_nil))) pe_int (nomark _)) (pss_one (ps_ret pe_non))
        pss_nil)
        (pss_cons (ps_if (pt_val (pv 3)) (pss_one (ps_ret (pe_op op_add (pv 1) (pe_cG c__law_take.fn hgd (hr.mono (by decide)) (by rfl) c__law_take.mg c__law_take.kp c__law_take.b .nil VS.pass0 (pa_cons (pv 0) (pa_cons pe_int pa_nil))))))
        pss_nil)
        (pss_one (ps_ret (pe_ix ix_list (pe_lst (pa_cons (pv 1) (pa_cons (pv 2) (pa_cons (pe_op op_add (pv 1) (pe_cG c__law_take.fn hgd (hr.mono (by decide)) (by rfl) c__law_take.mg c__law_take.kp c__law_take.b .nil VS.pass0 (pa_cons (pv 0) (pa_cons (pe_op op_add (pe_op op_sub (pv 2) (pv 1)) pe_int) pa_nil)))) (pa_cons (pe_op op_add (pv 1) (pe_cG c__law_take.fn hgd (hr.mono (by decide)) (by rfl) c__law_take.mg c__law_take.kp c__law_take.b .nil VS.pass0 (pa_cons (pv 0) (pa_cons pe_int pa_nil)))) pa_nil))))) (pe_cG c__law_take.fn hgd (hr.mono (by decide)) (by rfl) c__law_take.mg c__law_take.kp c__law_take.b .nil VS.pass0 (pa_cons (pv 0) (pa_cons pe_int pa_nil))) (fun _ _ => rfl)))))), ?_⟩
      (try dsimp only [cxOf, List.map])
      show VX _ _ [_, _, _, _] _ _
      walk_at "ga"
      intro t S1 t0 t1 p1 o1
      walk_at "ga"
      refine br (fun e1 => ?_) (fun e1 => ?_)
      · walk_at "ga"
        exact q _ _ (.inl rfl) (p1.mono (by omega)) o1
      cases sm with
      | true =>
        walk_at "ga"
        intro t2 S2 t20 t21 p2 o2
        walk_at "ga"
        exact q _ _ (.inr ⟨_, rfl, by omega, by show lo + t2 ≤ lo + 4; omega⟩) (p2.mono (by omega)) (o1.trans o2)
      | false =>
        walk_at "ga"
        intro t2 S2 t20 t21 p2 o2
        walk_at "ga"
        intro t3 S3 t30 t31 p3 o3
        walk_at "ga"
        intro t4 S4 t40 t41 p4 o4
        obtain ⟨dt, hdt, hat⟩ := atI_mem (xs := ([.int lo, .int mo, .int (lo + t2), .int (lo + t3)] : List D)) t40 t41
        refine rv_ixL .v hat ?_
        obtain ⟨v, rfl, v0, v1⟩ : ∃ v, dt = .int v ∧ lo ≤ v ∧ v ≤ mo := by
          simp only [List.mem_cons, List.not_mem_nil, or_false] at hdt
          rcases hdt with rfl | rfl | rfl | rfl <;> exact ⟨_, rfl, by omega, by omega⟩
        clear hat hdt
        walk_at "ga"
        exact q _ _ (.inr ⟨_, rfl, v0, v1⟩) (p4.mono (by omega)) (((o1.trans o2).trans o3).trans o4)) only [↓VS.box]
theorem ok__law_rows {f : Addr} {fd : FuncData} {C_PriceTable C_Sides C_NoRows C_NoSide C_NoSides C_NoNumber C_NoRow Pl : Addr} {f__law_take f__law_limit : Addr} {g__law_take g__law_limit : FuncData}
    (F : Fd K "_law_rows" "_law_rows" s__law_rows [] f fd) (T : Tx K mg) (hsys : SysOk base)
    (c__law_take : Cf P w K mg base (L2.CX P w) 1 "_law_take" s__law_take [] a__law_take p__law_take f__law_take g__law_take)
    (c__law_limit : Cf P w K mg base (L2.CX P w) 2 "_law_limit" s__law_limit [] a__law_limit p__law_limit f__law_limit g__law_limit) :
    FnG P w K mg base (L2.CX P w) 3 f fd a__law_rows (spOf K p__law_rows) := by
  refine VS.unbox ?_
  simp (disch := with_unfolding_all
    refine fn_val F sc__law_rows (fun ds S G Y h => ?_) (fun cdv A hgd outer s H E hr px tk po ds S G Y h => ?_)
    · obtain ⟨p, n, m, sm, rfl, _⟩ := h
      rfl
    · obtain ⟨p, n, m, sm, rfl, hp, hn, m0, m1, q⟩ := h
      refine ⟨_, (pss_cons (ps_set (i := 3) sc__law_rows.nd rfl (Or.inl rfl) (pe_lst pa_nil))
        (pss_cons (ps_for po rfl (pi_range1 (by rfl) T.b_range (pa_cons (pv 1) pa_nil)) (pg_name (i := 4) sc__law_rows.nd rfl (Or.inl rfl))
        (pss_cons (ps_setLc (i := 5) (own := [("_law_turn", 8)]) rfl sc__law_rows.nd rfl rfl (sw_true rfl rfl rfl (by decide +kernel)) (pi_range1 (by rfl) T.b_range (pa_cons pe_int pa_nil)) (blkOk_by (own := [("_law_turn", 8)]) (N := n__law_rows) (sc := defScope s__law_rows) (by decide +kernel)) (fun _ _ _ _ _ => (pg_name (i := 8) sc__law_rows.nd rfl (Or.inl rfl))) (fun _ _ _ _ _ => pts_nil) (fun _ _ _ _ _ => (pe_cG c__law_limit.fn hgd (hr.mono (by decide)) (by rfl) c__law_limit.mg c__law_limit.kp c__law_limit.b .nil VS.pass0 (pa_cons (pv 0) (pa_cons pe_int (pa_cons pe_int (pa_cons (pv 2) pa_nil)))))))
        (pss_cons (ps_set (i := 6) sc__law_rows.nd rfl (Or.inl rfl) (pe_cG c__law_limit.fn hgd (hr.mono (by decide)) (by rfl) c__law_limit.mg c__law_limit.kp c__law_limit.b .nil VS.pass0 (pa_cons (pv 0) (pa_cons pe_int (pa_cons pe_int (pa_cons (pv 2) pa_nil))))))
        (pss_cons (ps_set (i := 7) sc__law_rows.nd rfl (Or.inl rfl) (pe_ix ix_list (pe_lst (pa_cons pe_int (pa_cons pe_int (pa_cons (pe_cG c__law_take.fn hgd (hr.mono (by decide)) (by rfl) c__law_take.mg c__law_take.kp c__law_take.b .nil VS.pass0 (pa_cons (pv 0) (pa_cons pe_int pa_nil))) (pa_cons (pe_cG c__law_take.fn hgd (hr.mono (by decide)) (by rfl) c__law_take.mg c__law_take.kp c__law_take.b .nil VS.pass0 (pa_cons (pv 0) (pa_cons pe_int pa_nil))) pa_nil))))) (pe_cG c__law_take.fn hgd (hr.mono (by decide)) (by rfl) c__law_take.mg c__law_take.kp c__law_take.b .nil VS.pass0 (pa_cons (pv 0) (pa_cons pe_int pa_nil))) (fun _ _ => rfl)))
        (pss_one (ps_expr (pe_bm PySem.F.plainAttrs_list PySem.F.slot_list_append PySem.F.type_list_append mt_append (pv 3) (pa_cons (pe_tup (pa_cons (pe_ix ix_list (pv 5) pe_int (fun _ _ => rfl)) (pa_cons (pe_ix ix_list (pv 5) pe_int (fun _ _ => rfl)) (pa_cons (pe_ix ix_list (pv 5) pe_int (fun _ _ => rfl)) (pa_cons (pv 6) (pa_cons (pv 7) pa_nil)))))) pa_nil))))))))
        (pss_one (ps_ret (pv 3))))), ?_⟩
      (try dsimp only [cxOf, List.map])
      show VX _ _ [_, _, _, _, _, _, _, _, _] _ _
      walk_at "gl"
      refine ve_lstc ?_
      walk_at "ga"
      intro l hl
      have ne := hp.ne hl
      have h1 : Pu (put S l (.lst [])) p n := hp.put hl
      have c1 : (put S l (.lst [])) l = some (.lst []) := put_same
      have o1 : Ex1 p S (put S l (.lst [])) := Ex1.refl.new hl
      generalize put S l (.lst []) = S1 at h1 c1 o1 ⊢
      walk_at "ga"
      refine vx_for (vi_rng1 ?_)
      walk_at "ga"
      refine ⟨m, rfl, by omega, fun i ρ2 S2 => ∃ (rs : List RwP) (x4 x5 x6 x7 : Option D), ρ2 = [some (.ref p), some (.int m), some (.bl sm), some (.ref l), x4, x5, x6, x7, none] ∧ S2 l = some (.lst (rs.map rwpD)) ∧ rs.length = i ∧ (∀ r ∈ rs, BdQ sm 5 r) ∧ Pu S2 p (n + 30 * (i : Int)) ∧ Ex1 p S S2, ⟨[], _, _, _, _, rfl, c1, rfl, nofun, h1.mono (by omega), o1⟩, ?_, ?_⟩
      · clear h1 c1 o1
        rintro i d _ S2 hd ⟨rs, x4, x5, x6, x7, rfl, c2, hlen, hrs, h2, o2⟩
        obtain ⟨rfl, hi⟩ := rngD_at hd
        walk_at "ga"
        refine ve_lc (vi_rng1 ?_)
        walk_at "ga"
        refine ⟨3, rfl, by decide, by rw [rngD_len]; decide, fun j acc S3 => acc.length = j ∧ (∀ d ∈ acc, Lim 1 (bu sm 5) d) ∧ S3 l = some (.lst (rs.map rwpD)) ∧ Pu S3 p (n + 30 * (i : Int) + 5 * (j : Int)) ∧ Ex1 p S S3, ⟨rfl, nofun, c2, h2.mono (by omega), o2⟩, ?_, ?_⟩
        · rintro j d acc S3 hd ⟨hal, hac, c3, h3, o3⟩ _
          have hj : j < 3 := by
            have := (List.getElem?_eq_some_iff.mp hd).1
            rw [rngD_len] at this
            exact this
          walk_at "ga"
          refine ⟨p, _, 1, 100000, sm, rfl, h3, by omega, by decide, by decide, by decide, fun d S4 hd4 h4 o4 => ?_⟩
          refine ⟨by rw [List.length_append, hal]; rfl, fun x hx => (List.mem_append.mp hx).elim (hac x) (fun e => by rw [List.mem_singleton.mp e]; exact hd4), Pu.off' o4 ne c3, h4.mono (by omega), o3.trans o4.ex1⟩
        clear h2 c2 o2
        rintro acc S3 ⟨hal, hac, c3, h3, o3⟩ _
        rw [rngD_len] at hal h3
        obtain ⟨a, b, c, rfl⟩ := list3 (xs := acc) hal
        have h3 : Pu S3 p (n + 30 * (i : Int) + 15) := h3.mono (by show n + 30 * (i : Int) + 5 * ((3 : Nat) : Int) ≤ _; omega)
        walk_at "ga"
        refine ⟨p, _, 0, 2000000, sm, rfl, h3, by omega, by decide, by decide, by decide, fun wt S4 hwt h4 o4 => ?_⟩
        walk_at "ga"
        intro t5 S5 t50 t51 h5 o5
        walk_at "ga"
        intro t6 S6 t60 t61 h6 o6
        walk_at "ga"
        intro t7 S7 t70 t71 h7 o7
        obtain ⟨dt, hdt, hat⟩ := atI_mem (xs := ([.int 0, .int 1000000, .int t5, .int t6] : List D)) t70 t71
        refine rv_ixL .v hat ?_
        obtain ⟨v, rfl, v0, v1⟩ : ∃ v, dt = .int v ∧ 0 ≤ v ∧ v ≤ 1000000 := by
          simp only [List.mem_cons, List.not_mem_nil, or_false] at hdt
          rcases hdt with rfl | rfl | rfl | rfl <;> exact ⟨_, rfl, by omega, by omega⟩
        have c7 : S7 l = some (.lst (rs.map rwpD)) := Pu.off' o7 ne (Pu.off' o6 ne (Pu.off' o5 ne (Pu.off' o4 ne c3)))
        have o7' := o3.trans (((o4.trans o5).trans o6).trans o7).ex1
        clear hat hdt o4 o5 o6 o7 c3 o3
        walk_at "ga"
        refine rm_append c7 (by rw [List.length_map]; have := szl; omega) ?_
        walk_at "ga"
        obtain ⟨a', rfl, ka⟩ := (hac a (by simp)).li
        obtain ⟨b', rfl, kb⟩ := (hac b (by simp)).li
        obtain ⟨c', rfl, kc⟩ := (hac c (by simp)).li
        obtain ⟨w', rfl, kw⟩ := hwt.li
        have row : BdQ sm 5 ⟨a', b', c', w', v⟩ := ⟨ka, kb, kc, kw, v0, v1⟩
        refine ⟨rs ++ [⟨a', b', c', w', v⟩], _, _, _, _, rfl, (by rw [List.map_append]; exact put_same), by rw [List.length_append, hlen]; rfl, fun r hr => (List.mem_append.mp hr).elim (hrs r) (fun e => by rw [List.mem_singleton.mp e]; exact row), (h7.mono (by omega)).wr ne, o7'.wr2 hl⟩
      · rintro _ S2 ⟨rs, x4, x5, x6, x7, rfl, c2, hlen, hrs, h2, o2⟩
        rw [rngD_len] at hlen h2
        walk_at "ga"
        exact q rs l S2 hl hrs (by omega) c2 (h2.mono (by omega)) o2) only [↓VS.box]
end
end LW
namespace LW
open PySem L2 C8 PySem.Spec PyProof.Rows VS
/-! ### plain: the least place among the values at which something changes, found on any grid that has them -/
theorem fs_some {β : Type} {f : Int → Option β} {x : Int} {y : β} : ∀ {L : List Int}, L.Pairwise (· < ·) → x ∈ L → f x = some y → (∀ z ∈ L, z < x → f z = none) → L.findSome? f = some y
  | [], _, h, _, _ => by cases h
  | a :: L, s, h, e, lt => by
    obtain ⟨s1, s2⟩ := List.pairwise_cons.mp s
    rw [List.findSome?_cons]
    rcases List.mem_cons.mp h with rfl | h
    · rw [e]
    · rw [lt a List.mem_cons_self (s1 x h)]
      exact fs_some s2 h e fun z hz => lt z (List.mem_cons_of_mem _ hz)
theorem fs_first {β : Type} {f : Int → Option β} {y : β} : ∀ {L : List Int}, L.Pairwise (· < ·) → L.findSome? f = some y → ∃ x ∈ L, f x = some y ∧ ∀ z ∈ L, z < x → f z = none
  | [], _, h => by cases h
  | a :: L, s, h => by
    obtain ⟨s1, s2⟩ := List.pairwise_cons.mp s
    rw [List.findSome?_cons] at h
    cases q : f a with
    | some z =>
      rw [q] at h
      exact ⟨a, List.mem_cons_self, by rw [q]; exact h, fun z hz lt => by
        rcases List.mem_cons.mp hz with rfl | hz
        · omega
        · have := s1 z hz; omega⟩
    | none =>
      rw [q] at h
      obtain ⟨x, hx, e, lt⟩ := fs_first s2 h
      exact ⟨x, List.mem_cons_of_mem _ hx, e, fun z hz l => by
        rcases List.mem_cons.mp hz with rfl | hz
        · exact q
        · exact lt z hz l⟩
theorem lev {β : Type} {f g : Int → Option β} {A B : List Int} (sA : A.Pairwise (· < ·)) (sB : B.Pairwise (· < ·)) (ha : ∀ x ∈ A, f x ≠ none → x ∈ B) (hb : ∀ x ∈ B, g x ≠ none → ∃ x' ∈ A, x' ≤ x ∧ f x' ≠ none) (hc : ∀ x ∈ A, f x = g x) : A.findSome? f = B.findSome? g := by
  cases q : A.findSome? f with
  | none =>
    have n := List.findSome?_eq_none_iff.mp q
    refine (List.findSome?_eq_none_iff.mpr fun x hx => ?_).symm
    cases z : g x with
    | none => rfl
    | some v =>
      obtain ⟨x', h1, _, h2⟩ := hb x hx (by rw [z]; simp)
      exact absurd (n x' h1) h2
  | some y =>
    obtain ⟨x, hx, e, lt⟩ := fs_first sA q
    refine (fs_some sB (ha x hx (by rw [e]; simp)) (by rw [← hc x hx]; exact e) fun z hz l => ?_).symm
    cases w : g z with
    | none => rfl
    | some v =>
      obtain ⟨x', h1, h2, h3⟩ := hb z hz (by rw [w]; simp)
      exact absurd (lt x' h1 (by omega)) h3
theorem leW_ne {hold : List Int → Bool} {l m s w : Int} : leW hold l m s w ≠ none ↔ hold [l, m, s, w] = true := by
  unfold leW
  split
  · rename_i h; simp [h]
  · rename_i h; simp [h]
theorem fs_ne {β : Type} {f : Int → Option β} {L : List Int} : L.findSome? f ≠ none ↔ ∃ x ∈ L, f x ≠ none := by
  constructor
  · intro h
    cases q : L.findSome? f with
    | none => exact absurd q h
    | some y =>
      obtain ⟨x, hx, e⟩ := List.exists_of_findSome?_eq_some q
      exact ⟨x, hx, by rw [e]; simp⟩
  · rintro ⟨x, hx, e⟩ q
    exact e (List.findSome?_eq_none_iff.mp q x hx)
theorem flt_mem {L : List Int} {b x : Int} : x ∈ L.filter (fun m => decide (m ≤ b)) ↔ x ∈ L ∧ x ≤ b := by
  rw [List.mem_filter, decide_eq_true_eq]
theorem flt_up {L : List Int} {b : Int} (s : L.Pairwise (· < ·)) : (L.filter (fun m => decide (m ≤ b))).Pairwise (· < ·) := s.filter _
/-! ### prices change at these values alone -/
def okL (o : Option Int) (n : Int) : Bool := match o with
  | some k => !decide (k < n)
  | none => true
theorem pasP_none (r : RwP) (l m s w : Int) : (pasP r [l, m, s, w]).isNone = (okL r.a l && (okL r.b m && (okL r.c s && okL r.w w))) := by
  obtain ⟨a, b, c, d, p⟩ := r
  show (stop1 wds4 [a, b, c, d] [l, m, s, w]).isNone = _
  unfold wds4
  simp only [stop1, okL]
  cases a <;> cases b <;> cases c <;> cases d <;> simp only [Bool.true_and, Bool.and_true] <;> (repeat' split) <;> simp_all
theorem fall_congr {p q : List Int} : ∀ {rs : List RwP}, (∀ r ∈ rs, (pasP r p).isNone = (pasP r q).isNone) → fallI rs p = fallI rs q
  | [], _ => rfl
  | r :: rs, h => by
    have ih := fall_congr (p := p) (q := q) (rs := rs) fun x hx => h x (List.mem_cons_of_mem _ hx)
    unfold fallI at ih ⊢
    rw [List.findIdx?_cons, List.findIdx?_cons, h r List.mem_cons_self, ih]
theorem unl_congr {xs ys : List RwP} {p q : List Int} (h : ∀ r ∈ xs ++ ys, (pasP r p).isNone = (pasP r q).isNone) : unlB xs ys p = unlB xs ys q := by
  unfold unlB prc
  rw [fall_congr (rs := xs) fun r hr => h r (List.mem_append_left _ hr), fall_congr (rs := ys) fun r hr => h r (List.mem_append_right _ hr)]
theorem floor_of : ∀ (L : List Int) (w : Int), (∃ x ∈ L, x ≤ w) → ∃ x ∈ L, x ≤ w ∧ ∀ z ∈ L, z ≤ w → z ≤ x
  | [], _, ⟨_, h, _⟩ => by cases h
  | a :: L, w, ⟨x, hx, hw⟩ => by
    by_cases q : ∃ x ∈ L, x ≤ w
    · obtain ⟨y, h1, h2, h3⟩ := floor_of L w q
      by_cases z : a ≤ w ∧ y ≤ a
      · exact ⟨a, List.mem_cons_self, z.1, fun t ht hw => by
          rcases List.mem_cons.mp ht with rfl | ht
          · omega
          · have := h3 t ht hw; omega⟩
      · exact ⟨y, List.mem_cons_of_mem _ h1, h2, fun t ht hw => by
          rcases List.mem_cons.mp ht with rfl | ht
          · omega
          · exact h3 t ht hw⟩
    · have e : x = a := (List.mem_cons.mp hx).elim id fun h => absurd ⟨x, h, hw⟩ q
      subst e
      exact ⟨x, List.mem_cons_self, hw, fun t ht h2 => by
        rcases List.mem_cons.mp ht with rfl | ht
        · omega
        · exact absurd ⟨t, ht, h2⟩ q⟩
theorem okL_fl {o : Option Int} {L : List Int} {n n' b : Int} (hb : ∀ k, o = some k → k ≤ b) (nb : n ≤ b) (hin : ∀ k, o = some k → k < b → k + 1 ∈ L) (le : n' ≤ n) (mx : ∀ z ∈ L, z ≤ n → z ≤ n') : okL o n' = okL o n := by
  cases o with
  | none => rfl
  | some k =>
    show (!decide (k < n')) = (!decide (k < n))
    by_cases h : k < n
    · have := mx (k + 1) (hin k rfl (by omega))
      rw [decide_eq_true h, decide_eq_true (by have := this (by omega); omega)]
    · rw [decide_eq_false h, decide_eq_false (by omega)]
theorem grid_core {hold : List Int → Bool} {V W lo mi sh we : List Int} (uV : V.Pairwise (· < ·)) (uW : W.Pairwise (· < ·)) (ulo : lo.Pairwise (· < ·)) (umi : mi.Pairwise (· < ·)) (ush : sh.Pairwise (· < ·)) (uwe : we.Pairwise (· < ·))
    (blo : ∀ x ∈ lo, x ∈ V) (bmi : ∀ x ∈ mi, x ∈ V) (bsh : ∀ x ∈ sh, x ∈ V) (bwe : ∀ x ∈ we, x ∈ W)
    (f1 : ∀ w ∈ W, ∃ w' ∈ we, w' ≤ w ∧ ∀ l m s, hold [l, m, s, w'] = hold [l, m, s, w])
    (f2 : ∀ s ∈ V, ∃ s' ∈ sh, s' ≤ s ∧ ∀ l m w, hold [l, m, s', w] = hold [l, m, s, w])
    (f3 : ∀ m ∈ V, ∃ m' ∈ mi, m' ≤ m ∧ (∀ s ∈ sh, s ≤ m → s ≤ m') ∧ ∀ l s w, hold [l, m', s, w] = hold [l, m, s, w])
    (f4 : ∀ l ∈ V, ∃ l' ∈ lo, l' ≤ l ∧ (∀ m ∈ mi, m ≤ l → m ≤ l') ∧ ∀ m s w, hold [l', m, s, w] = hold [l, m, s, w]) : leastO hold lo mi sh we = leastO hold V V V W := by
  have L1 : ∀ l m s, leS hold we l m s = leS hold W l m s := fun l m s => lev uwe uW (fun x hx _ => bwe x hx) (fun x hx e => by
    obtain ⟨x', h1, h2, h3⟩ := f1 x hx
    exact ⟨x', h1, h2, leW_ne.mpr (by rw [h3]; exact leW_ne.mp e)⟩) fun _ _ => rfl
  have L2 : ∀ l m, leM hold sh we l m = leM hold V W l m := fun l m => lev (flt_up ush) (flt_up uV) (fun x hx _ => by
      obtain ⟨a, b⟩ := flt_mem.mp hx
      exact flt_mem.mpr ⟨bsh x a, b⟩) (fun x hx e => by
      obtain ⟨b1, b2⟩ := flt_mem.mp hx
      obtain ⟨w, hw, e⟩ := fs_ne.mp e
      obtain ⟨x', h1, h2, h3⟩ := f2 x b1
      refine ⟨x', flt_mem.mpr ⟨h1, by omega⟩, h2, ?_⟩
      rw [L1]
      exact fs_ne.mpr ⟨w, hw, leW_ne.mpr (by rw [h3]; exact leW_ne.mp e)⟩) fun x _ => L1 l m x
  have L3 : ∀ l, leL hold mi sh we l = leL hold V V W l := fun l => lev (flt_up umi) (flt_up uV) (fun x hx _ => by
      obtain ⟨a, b⟩ := flt_mem.mp hx
      exact flt_mem.mpr ⟨bmi x a, b⟩) (fun x hx e => by
      obtain ⟨b1, b2⟩ := flt_mem.mp hx
      obtain ⟨x', h1, h2, h4, h3⟩ := f3 x b1
      rw [← L2] at e
      obtain ⟨s, hs, e⟩ := fs_ne.mp e
      obtain ⟨s1, s2⟩ := flt_mem.mp hs
      obtain ⟨w, hw, e⟩ := fs_ne.mp e
      exact ⟨x', flt_mem.mpr ⟨h1, by omega⟩, h2, fs_ne.mpr ⟨s, flt_mem.mpr ⟨s1, h4 s s1 s2⟩, fs_ne.mpr ⟨w, hw, leW_ne.mpr (by rw [h3]; exact leW_ne.mp e)⟩⟩⟩) fun x _ => L2 l x
  exact lev ulo uV (fun x hx _ => blo x hx) (fun x hx e => by
      obtain ⟨x', h1, h2, h4, h3⟩ := f4 x hx
      rw [← L3] at e
      obtain ⟨m, hm, e⟩ := fs_ne.mp e
      obtain ⟨m1, m2⟩ := flt_mem.mp hm
      obtain ⟨s, hs, e⟩ := fs_ne.mp e
      obtain ⟨w, hw, e⟩ := fs_ne.mp e
      exact ⟨x', h1, h2, fs_ne.mpr ⟨m, flt_mem.mpr ⟨m1, h4 m m1 m2⟩, fs_ne.mpr ⟨s, hs, fs_ne.mpr ⟨w, hw, leW_ne.mpr (by rw [h3]; exact leW_ne.mp e)⟩⟩⟩⟩) fun x _ => L3 x
/-- a grid that has all values at which something changes -/
structure Gr (rs : List RwP) (lo mi sh we : List Int) : Prop where
  ulo : lo.Pairwise (· < ·)
  umi : mi.Pairwise (· < ·)
  ush : sh.Pairwise (· < ·)
  uwe : we.Pairwise (· < ·)
  s1 : 1 ∈ sh
  w0 : 0 ∈ we
  sm : ∀ x ∈ sh, x ∈ mi
  ml : ∀ x ∈ mi, x ∈ lo
  va : ∀ r ∈ rs, ∀ k, r.a = some k → k < 100000 → k + 1 ∈ lo
  vb : ∀ r ∈ rs, ∀ k, r.b = some k → k < 100000 → k + 1 ∈ mi
  vc : ∀ r ∈ rs, ∀ k, r.c = some k → k < 100000 → k + 1 ∈ sh
  vw : ∀ r ∈ rs, ∀ k, r.w = some k → k < 2000000 → k + 1 ∈ we
  bl : ∀ x ∈ lo, 1 ≤ x ∧ x ≤ 100000
  bw : ∀ x ∈ we, 0 ≤ x ∧ x ≤ 2000000
/-- what depends on the rows' limits alone -/
def ByRows (rs : List RwP) (hold : List Int → Bool) : Prop := ∀ p q : List Int, (∀ r ∈ rs, (pasP r p).isNone = (pasP r q).isNone) → hold p = hold q
theorem gr_eq {rs : List RwP} {hold : List Int → Bool} {V W lo mi sh we : List Int} (g : Gr rs lo mi sh we) (G : Gr rs V V V W) (hb : ∀ r ∈ rs, BdW r) (hh : ByRows rs hold) (lV : ∀ x ∈ lo, x ∈ V) (wW : ∀ x ∈ we, x ∈ W) : leastO hold lo mi sh we = leastO hold V V V W := by
  refine grid_core G.ulo G.uwe g.ulo g.umi g.ush g.uwe lV (fun x hx => lV x (g.ml x hx)) (fun x hx => lV x (g.ml x (g.sm x hx))) wW (fun w hw => ?_) (fun s hs => ?_) (fun m hm => ?_) (fun l hl => ?_)
  · obtain ⟨w', h1, h2, h3⟩ := floor_of we w ⟨0, g.w0, (G.bw w hw).1⟩
    refine ⟨w', h1, h2, fun l m s => hh _ _ fun r hr => ?_⟩
    rw [pasP_none, pasP_none, okL_fl (o := r.w) (fun k e => ((hb r hr).w k e).2) (G.bw w hw).2 (fun k e lt => g.vw r hr k e lt) h2 h3]
  · obtain ⟨s', h1, h2, h3⟩ := floor_of sh s ⟨1, g.s1, (G.bl s hs).1⟩
    refine ⟨s', h1, h2, fun l m w => hh _ _ fun r hr => ?_⟩
    rw [pasP_none, pasP_none, okL_fl (o := r.c) (fun k e => ((hb r hr).c k e).2) (G.bl s hs).2 (fun k e lt => g.vc r hr k e lt) h2 h3]
  · obtain ⟨m', h1, h2, h3⟩ := floor_of mi m ⟨1, g.sm 1 g.s1, (G.bl m hm).1⟩
    refine ⟨m', h1, h2, fun s hs le => h3 s (g.sm s hs) le, fun l s w => hh _ _ fun r hr => ?_⟩
    rw [pasP_none, pasP_none, okL_fl (o := r.b) (fun k e => ((hb r hr).b k e).2) (G.bl m hm).2 (fun k e lt => g.vb r hr k e lt) h2 h3]
  · obtain ⟨l', h1, h2, h3⟩ := floor_of lo l ⟨1, g.ml 1 (g.sm 1 g.s1), (G.bl l hl).1⟩
    refine ⟨l', h1, h2, fun m hm le => h3 m (g.ml m hm) le, fun m s w => hh _ _ fun r hr => ?_⟩
    rw [pasP_none, pasP_none, okL_fl (o := r.a) (fun k e => ((hb r hr).a k e).2) (G.bl l hl).2 (fun k e lt => g.va r hr k e lt) h2 h3]
/-! the values of the rows, rising -/
def insI (x : Int) : List Int → List Int
  | [] => [x]
  | y :: ys => if x < y then x :: y :: ys else if x = y then y :: ys else y :: insI x ys
theorem mem_insI {x k : Int} : ∀ {l : List Int}, k ∈ insI x l ↔ k = x ∨ k ∈ l
  | [] => by simp [insI]
  | y :: ys => by
    unfold insI
    split
    · simp
    · split
      · rename_i e
        subst e
        simp
      · rw [List.mem_cons, mem_insI (l := ys), List.mem_cons]
        constructor
        · rintro (h | h | h)
          · exact .inr (.inl h)
          · exact .inl h
          · exact .inr (.inr h)
        · rintro (h | h | h)
          · exact .inr (.inl h)
          · exact .inl h
          · exact .inr (.inr h)
theorem insI_up {x : Int} : ∀ {l : List Int}, l.Pairwise (· < ·) → (insI x l).Pairwise (· < ·)
  | [], _ => List.pairwise_singleton _ _
  | y :: ys, h => by
    obtain ⟨h1, h2⟩ := List.pairwise_cons.mp h
    unfold insI
    split
    · rename_i lt
      refine List.pairwise_cons.mpr ⟨fun z hz => ?_, h⟩
      rcases List.mem_cons.mp hz with rfl | hz
      · exact lt
      · have := h1 z hz; omega
    · split
      · exact h
      · refine List.pairwise_cons.mpr ⟨fun z hz => ?_, insI_up h2⟩
        rcases mem_insI.mp hz with rfl | hz
        · omega
        · exact h1 z hz
def valsI (fi : Int) (ks : List Int) : List Int := ks.foldr insI [fi]
theorem mem_valsI {fi k : Int} : ∀ {ks : List Int}, k ∈ valsI fi ks ↔ k = fi ∨ k ∈ ks
  | [] => by simp [valsI]
  | x :: xs => by
    show k ∈ insI x (valsI fi xs) ↔ _
    rw [mem_insI, mem_valsI (ks := xs), List.mem_cons]
    constructor
    · rintro (h | h | h)
      · exact .inr (.inl h)
      · exact .inl h
      · exact .inr (.inr h)
    · rintro (h | h | h)
      · exact .inr (.inl h)
      · exact .inl h
      · exact .inr (.inr h)
theorem valsI_up {fi : Int} : ∀ {ks : List Int}, (valsI fi ks).Pairwise (· < ·)
  | [] => List.pairwise_singleton _ _
  | x :: xs => insI_up (valsI_up (ks := xs))
/-- the limits at a place, of all rows, plus one -/
def limsA (rs : List RwP) (at_ : Nat) (mo : Int) : List Int := rs.filterMap fun r => match r.ls[at_]? with
  | some (some k) => if k < mo then some (k + 1) else none
  | _ => none
theorem mem_limsA {rs : List RwP} {a : Nat} {mo k : Int} : k ∈ limsA rs a mo ↔ ∃ r ∈ rs, ∃ v, r.ls[a]? = some (some v) ∧ v < mo ∧ k = v + 1 := by
  unfold limsA
  rw [List.mem_filterMap]
  constructor
  · rintro ⟨r, hr, e⟩
    split at e
    · rename_i v ev
      split at e
      · rename_i lt
        exact ⟨r, hr, v, ev, lt, (Option.some.inj e).symm⟩
      · cases e
    · cases e
  · rintro ⟨r, hr, v, e, lt, rfl⟩
    refine ⟨r, hr, ?_⟩
    rw [e]
    exact if_pos lt
def valsS (rs : List RwP) : List Int := valsI 1 (limsA rs 0 100000 ++ (limsA rs 1 100000 ++ limsA rs 2 100000))
def valsW (rs : List RwP) : List Int := valsI 0 (limsA rs 3 2000000)
theorem mem_valsS {rs : List RwP} {k : Int} : k ∈ valsS rs ↔ k = 1 ∨ ∃ a : Nat, a < 3 ∧ ∃ r ∈ rs, ∃ v, r.ls[a]? = some (some v) ∧ v < 100000 ∧ k = v + 1 := by
  unfold valsS
  rw [mem_valsI, List.mem_append, List.mem_append, mem_limsA, mem_limsA, mem_limsA]
  constructor
  · rintro (h | h | h | h)
    · exact .inl h
    · exact .inr ⟨0, by decide, h⟩
    · exact .inr ⟨1, by decide, h⟩
    · exact .inr ⟨2, by decide, h⟩
  · rintro (h | ⟨a, ha, h⟩)
    · exact .inl h
    · have : a = 0 ∨ a = 1 ∨ a = 2 := by omega
      rcases this with rfl | rfl | rfl
      · exact .inr (.inl h)
      · exact .inr (.inr (.inl h))
      · exact .inr (.inr (.inr h))
theorem mem_valsW {rs : List RwP} {k : Int} : k ∈ valsW rs ↔ k = 0 ∨ ∃ r ∈ rs, ∃ v, r.ls[3]? = some (some v) ∧ v < 2000000 ∧ k = v + 1 := by
  unfold valsW
  rw [mem_valsI, mem_limsA]
theorem valsS_bd {rs : List RwP} (hb : ∀ r ∈ rs, BdW r) : ∀ x ∈ valsS rs, 1 ≤ x ∧ x ≤ 100000 := fun x hx => by
  rcases mem_valsS.mp hx with rfl | ⟨a, ha, r, hr, v, e, lt, rfl⟩
  · decide
  · have h := hb r hr
    have : a = 0 ∨ a = 1 ∨ a = 2 := by omega
    rcases this with rfl | rfl | rfl
    · have := h.a v (Option.some.inj e); omega
    · have := h.b v (Option.some.inj e); omega
    · have := h.c v (Option.some.inj e); omega
theorem valsW_bd {rs : List RwP} (hb : ∀ r ∈ rs, BdW r) : ∀ x ∈ valsW rs, 0 ≤ x ∧ x ≤ 2000000 := fun x hx => by
  rcases mem_valsW.mp hx with rfl | ⟨r, hr, v, e, lt, rfl⟩
  · decide
  · have := (hb r hr).w v (Option.some.inj e); omega
theorem gr_can {rs : List RwP} (hb : ∀ r ∈ rs, BdW r) : Gr rs (valsS rs) (valsS rs) (valsS rs) (valsW rs) where
  ulo := valsI_up
  umi := valsI_up
  ush := valsI_up
  uwe := valsI_up
  s1 := mem_valsS.mpr (.inl rfl)
  w0 := mem_valsW.mpr (.inl rfl)
  sm := fun _ h => h
  ml := fun _ h => h
  va := fun r hr k e lt => mem_valsS.mpr (.inr ⟨0, by decide, r, hr, k, congrArg some e, lt, rfl⟩)
  vb := fun r hr k e lt => mem_valsS.mpr (.inr ⟨1, by decide, r, hr, k, congrArg some e, lt, rfl⟩)
  vc := fun r hr k e lt => mem_valsS.mpr (.inr ⟨2, by decide, r, hr, k, congrArg some e, lt, rfl⟩)
  vw := fun r hr k e lt => mem_valsW.mpr (.inr ⟨r, hr, k, congrArg some e, lt, rfl⟩)
  bl := valsS_bd hb
  bw := valsW_bd hb
def gridO (hold : List Int → Bool) (rs : List RwP) : Option (List Int) := leastO hold (valsS rs) (valsS rs) (valsS rs) (valsW rs)
theorem cand_sub {rs : List RwP} {lo mi sh we : List Int} (cd : Cand rs lo mi sh we) : (∀ x ∈ sh, x ∈ valsS rs) ∧ (∀ x ∈ mi, x ∈ valsS rs) ∧ (∀ x ∈ lo, x ∈ valsS rs) ∧ ∀ x ∈ we, x ∈ valsW rs := by
  obtain ⟨m0, vm, mm⟩ := cd.miM
  obtain ⟨l0, vl, ml⟩ := cd.loM
  have s : ∀ x ∈ sh, x ∈ valsS rs := fun x hx => mem_valsS.mpr (((cd.shV.mem x).mp hx).imp id fun h => ⟨2, by decide, h⟩)
  have m : ∀ x ∈ mi, x ∈ valsS rs := fun x hx => ((mm x).mp hx).elim (fun h => mem_valsS.mpr (((vm.mem x).mp h).imp id fun h => ⟨1, by decide, h⟩)) (s x)
  exact ⟨s, m, fun x hx => ((ml x).mp hx).elim (fun h => mem_valsS.mpr (((vl.mem x).mp h).imp id fun h => ⟨0, by decide, h⟩)) (m x), fun x hx => mem_valsW.mpr ((cd.weV.mem x).mp hx)⟩
theorem gr_cand {rs : List RwP} {lo mi sh we : List Int} (cd : Cand rs lo mi sh we) (hb : ∀ r ∈ rs, BdW r) : Gr rs lo mi sh we := by
  obtain ⟨b1, b2, b3, b4⟩ := cand_sub cd
  obtain ⟨m0, vm, mm⟩ := cd.miM
  obtain ⟨l0, vl, ml⟩ := cd.loM
  exact ⟨cd.loU, cd.miU, cd.shV.up, cd.weV.up, (cd.shV.mem 1).mpr (.inl rfl), (cd.weV.mem 0).mpr (.inl rfl), fun x hx => (mm x).mpr (.inr hx), fun x hx => (ml x).mpr (.inr hx),
    fun r hr k e lt => (ml _).mpr (.inl ((vl.mem _).mpr (.inr ⟨r, hr, k, congrArg some e, lt, rfl⟩))),
    fun r hr k e lt => (mm _).mpr (.inl ((vm.mem _).mpr (.inr ⟨r, hr, k, congrArg some e, lt, rfl⟩))),
    fun r hr k e lt => (cd.shV.mem _).mpr (.inr ⟨r, hr, k, congrArg some e, lt, rfl⟩),
    fun r hr k e lt => (cd.weV.mem _).mpr (.inr ⟨r, hr, k, congrArg some e, lt, rfl⟩),
    fun x hx => valsS_bd hb x (b3 x hx), fun x hx => valsW_bd hb x (b4 x hx)⟩
theorem least_can {rs : List RwP} {hold : List Int → Bool} {lo mi sh we : List Int} (cd : Cand rs lo mi sh we) (hb : ∀ r ∈ rs, BdW r) (hh : ByRows rs hold) : leastO hold lo mi sh we = gridO hold rs :=
  gr_eq (gr_cand cd hb) (gr_can hb) hb hh (cand_sub cd).2.2.1 (cand_sub cd).2.2.2
theorem grid_none (rs : List RwP) : gridO (fun _ => false) rs = none := by
  cases e : gridO (fun _ => false) rs with
  | none => rfl
  | some pl =>
    obtain ⟨l, hl, e⟩ := List.exists_of_findSome?_eq_some e
    obtain ⟨m, hm, e⟩ := List.exists_of_findSome?_eq_some e
    obtain ⟨s, hs, e⟩ := List.exists_of_findSome?_eq_some e
    obtain ⟨w, hw, e⟩ := List.exists_of_findSome?_eq_some e
    cases e
end LW
namespace LW
open PySem L2 C8 PySem.Spec PyProof.Rows VS
/-! ### a thing of a list; all of a list -/
theorem pick (Q : D → Prop) {xs : List D} {i : Int} (h0 : 0 ≤ i) (h1 : i < xs.length) (all : ∀ x ∈ xs, Q x) : ∃ x, atI xs i = some x ∧ Q x := by
  obtain ⟨x, hx, e⟩ := atI_mem h0 h1
  exact ⟨x, e, all x hx⟩
theorem ac {Q : D → Prop} {a : D} {l : List D} (h : Q a) (t : ∀ x ∈ l, Q x) : ∀ x ∈ a :: l, Q x := fun x hx => by
  rcases List.mem_cons.mp hx with rfl | hx
  · exact h
  · exact t x hx
theorem an {Q : D → Prop} : ∀ x ∈ ([] : List D), Q x := nofun
theorem Pu.ext {S S' : Sto} {p : Addr} {n : Int} (h : Pu S p n) (x : Ext S S') : Pu S' p n := by
  obtain ⟨a, b, c, e, r⟩ := h
  exact ⟨a, b, c, x _ _ e, r⟩
end LW
namespace LW
open PySem L2 C8 PySem.Spec PyProof.Rows VS
/-! ### a law's world: its purse, and what it keeps by reference -/
structure Wd (S : Sto) (p : Addr) (n : Int) (L : List (Addr × D)) : Prop where
  pu : Pu S p n
  at_ : ∀ x ∈ L, S x.1 = some x.2
  ne : ∀ x ∈ L, x.1 ≠ p
  nd : (L.map Prod.fst).Nodup
theorem Wd.of {S : Sto} {p : Addr} {n : Int} (h : Pu S p n) : Wd S p n [] := ⟨h, nofun, nofun, .nil⟩
theorem Wd.mono {S : Sto} {p : Addr} {n m : Int} {L : List (Addr × D)} (w : Wd S p n L) (h : n ≤ m) : Wd S p m L := ⟨w.pu.mono h, w.at_, w.ne, w.nd⟩
theorem Wd.ex1 {S S' : Sto} {p : Addr} {n m : Int} {L : List (Addr × D)} (w : Wd S p n L) (h : Pu S' p m) (o : Ex1 p S S') : Wd S' p m L := ⟨h, fun x hx => o _ _ (w.ne x hx) (w.at_ x hx), w.ne, w.nd⟩
theorem Wd.off {S S' : Sto} {p : Addr} {n m : Int} {L : List (Addr × D)} (w : Wd S p n L) (h : Pu S' p m) (o : Off p S S') : Wd S' p m L := w.ex1 h o.ex1
theorem Wd.ext {S S' : Sto} {p : Addr} {n : Int} {L : List (Addr × D)} (w : Wd S p n L) (x : Ext S S') : Wd S' p n L := ⟨w.pu.ext x, fun y hy => x _ _ (w.at_ y hy), w.ne, w.nd⟩
theorem Wd.get {S : Sto} {p : Addr} {n : Int} {L : List (Addr × D)} (w : Wd S p n L) (i : Nat) {a : Addr} {d : D} (e : L[i]? = some (a, d)) : S a = some d := w.at_ _ (List.mem_of_getElem? e)
theorem Wd.nep {S : Sto} {p : Addr} {n : Int} {L : List (Addr × D)} (w : Wd S p n L) (i : Nat) {a : Addr} {d : D} (e : L[i]? = some (a, d)) : p ≠ a := Ne.symm (w.ne _ (List.mem_of_getElem? e))
theorem Wd.nij {S : Sto} {p : Addr} {n : Int} {L : List (Addr × D)} (w : Wd S p n L) (i j : Nat) {a b : Addr} {d d' : D} (e : L[i]? = some (a, d)) (e' : L[j]? = some (b, d')) (h : i ≠ j) : a ≠ b := fun z => by
  subst z
  have h1 : (L.map Prod.fst)[i]? = some a := by rw [List.getElem?_map, e]; rfl
  have h2 : (L.map Prod.fst)[j]? = some a := by rw [List.getElem?_map, e']; rfl
  exact h ((List.getElem?_inj (by rw [List.length_map]; exact (List.getElem?_eq_some_iff.mp e).1) w.nd).mp (h1.trans h2.symm))
theorem Wd.free {S : Sto} {p : Addr} {n : Int} {L : List (Addr × D)} {l : Addr} (w : Wd S p n L) (hl : S l = none) : l ∉ L.map Prod.fst := fun z => by
  obtain ⟨x, hx, rfl⟩ := List.mem_map.mp z
  rw [w.at_ x hx] at hl
  cases hl
theorem Wd.new {S : Sto} {p l : Addr} {n : Int} {L : List (Addr × D)} {d : D} (w : Wd S p n L) (hl : S l = none) : Wd (put S l d) p n ((l, d) :: L) := by
  have hf := w.free hl
  refine ⟨w.pu.put hl, fun x hx => ?_, fun x hx => ?_, List.nodup_cons.mpr ⟨hf, w.nd⟩⟩
  · rcases List.mem_cons.mp hx with e | hx
    · rw [e]; exact put_same
    · rw [put_ne]
      · exact w.at_ x hx
      · exact fun z => hf (List.mem_map.mpr ⟨x, hx, z⟩)
  · rcases List.mem_cons.mp hx with e | hx
    · rw [e]; exact Ne.symm (w.pu.ne hl)
    · exact w.ne x hx
/-- a new thing, laid somewhere on the way to S' -/
theorem Wd.newE {S S' : Sto} {p l : Addr} {n : Int} {L : List (Addr × D)} {d : D} (w : Wd S p n L) (hl : S l = none) (x : Ext S S') (h : S' l = some d) : Wd S' p n ((l, d) :: L) := by
  have v := w.ext x
  refine ⟨v.pu, fun y hy => ?_, fun y hy => ?_, List.nodup_cons.mpr ⟨w.free hl, w.nd⟩⟩
  · rcases List.mem_cons.mp hy with e | hy
    · rw [e]; exact h
    · exact v.at_ y hy
  · rcases List.mem_cons.mp hy with e | hy
    · rw [e]; exact Ne.symm (w.pu.ne hl)
    · exact w.ne y hy
theorem Wd.new1 {S S' : Sto} {p l : Addr} {n m : Int} {L : List (Addr × D)} {d : D} (w : Wd S p n L) (hl : S l = none) (hp : Pu S' p m) (o : Ex1 p S S') (h : S' l = some d) : Wd S' p m ((l, d) :: L) := by
  have v := w.ex1 hp o
  refine ⟨v.pu, fun y hy => ?_, fun y hy => ?_, List.nodup_cons.mpr ⟨w.free hl, w.nd⟩⟩
  · rcases List.mem_cons.mp hy with e | hy
    · rw [e]; exact h
    · exact v.at_ y hy
  · rcases List.mem_cons.mp hy with e | hy
    · rw [e]; exact Ne.symm (w.pu.ne hl)
    · exact w.ne y hy
theorem Wd.wr {S : Sto} {p a : Addr} {n : Int} {L : List (Addr × D)} {d d' : D} (w : Wd S p n L) (i : Nat) (e : L[i]? = some (a, d)) : Wd (VS.put S a d') p n (L.set i (a, d')) := by
  refine ⟨w.pu.wr (w.nep i e), fun x hx => ?_, fun x hx => ?_, ?_⟩
  · obtain ⟨j, hj⟩ := List.getElem?_of_mem hx
    by_cases z : j = i
    · subst z
      rw [List.getElem?_set_self (List.getElem?_eq_some_iff.mp e).1] at hj
      cases hj
      exact put_same
    · rw [List.getElem?_set_ne (Ne.symm z)] at hj
      have hj' : L[j]? = some (x.1, x.2) := hj
      rw [put_ne (w.nij j i hj' e z)]
      exact w.get j hj'
  · rcases List.mem_or_eq_of_mem_set hx with hx | hx
    · exact w.ne x hx
    · rw [hx]; exact Ne.symm (w.nep i e)
  · have : (L.set i (a, d')).map Prod.fst = L.map Prod.fst := by
      refine List.ext_getElem? fun j => ?_
      rw [List.getElem?_map, List.getElem?_map]
      by_cases z : j = i
      · subst z
        rw [List.getElem?_set_self (List.getElem?_eq_some_iff.mp e).1, e]
        rfl
      · rw [List.getElem?_set_ne (Ne.symm z)]
    rw [this]
    exact w.nd
theorem Wd.sub {S : Sto} {p : Addr} {n : Int} {L M : List (Addr × D)} (w : Wd S p n L) (h : M.Sublist L) : Wd S p n M := ⟨w.pu, fun x hx => w.at_ x (h.subset hx), fun x hx => w.ne x (h.subset hx), w.nd.sublist (h.map _)⟩
theorem Wd.tl {S : Sto} {p : Addr} {n : Int} {x : Addr × D} {L : List (Addr × D)} (w : Wd S p n (x :: L)) : Wd S p n L := w.sub (List.sublist_cons_self ..)
theorem Pu.dl' {S : Sto} {p l : Addr} {n : Int} (h : Pu S p n) (ne : p ≠ l) : Pu (VS.del S l) p n := by
  obtain ⟨x, y, z, e, r⟩ := h
  exact ⟨x, y, z, (VS.del_ne ne).trans e, r⟩
theorem Wd.dl {S : Sto} {p a : Addr} {n : Int} {L : List (Addr × D)} {d : D} (w : Wd S p n L) (i : Nat) (e : L[i]? = some (a, d)) : Wd (VS.del S a) p n (L.eraseIdx i) := by
  refine ⟨w.pu.dl' (w.nep i e), fun x hx => ?_, fun x hx => w.ne x (List.mem_of_mem_eraseIdx hx), w.nd.sublist ((List.eraseIdx_sublist ..).map _)⟩
  obtain ⟨j, ne, hj⟩ := List.mem_eraseIdx_iff_getElem?.mp hx
  have hj' : L[j]? = some (x.1, x.2) := hj
  rw [VS.del_ne (w.nij j i hj' e ne)]
  exact w.get j hj'
theorem Wd.g0 {S : Sto} {p a : Addr} {n : Int} {d : D} {L : List (Addr × D)} (w : Wd S p n ((a, d) :: L)) : S a = some d := w.get 0 rfl
theorem Wd.g1 {S : Sto} {p a : Addr} {n : Int} {d : D} {x0 : Addr × D} {L : List (Addr × D)} (w : Wd S p n (x0 :: (a, d) :: L)) : S a = some d := w.get 1 rfl
theorem Wd.g2 {S : Sto} {p a : Addr} {n : Int} {d : D} {x0 x1 : Addr × D} {L : List (Addr × D)} (w : Wd S p n (x0 :: x1 :: (a, d) :: L)) : S a = some d := w.get 2 rfl
theorem Wd.g3 {S : Sto} {p a : Addr} {n : Int} {d : D} {x0 x1 x2 : Addr × D} {L : List (Addr × D)} (w : Wd S p n (x0 :: x1 :: x2 :: (a, d) :: L)) : S a = some d := w.get 3 rfl
theorem Wd.g4 {S : Sto} {p a : Addr} {n : Int} {d : D} {x0 x1 x2 x3 : Addr × D} {L : List (Addr × D)} (w : Wd S p n (x0 :: x1 :: x2 :: x3 :: (a, d) :: L)) : S a = some d := w.get 4 rfl
theorem Wd.g5 {S : Sto} {p a : Addr} {n : Int} {d : D} {x0 x1 x2 x3 x4 : Addr × D} {L : List (Addr × D)} (w : Wd S p n (x0 :: x1 :: x2 :: x3 :: x4 :: (a, d) :: L)) : S a = some d := w.get 5 rfl
theorem Wd.g6 {S : Sto} {p a : Addr} {n : Int} {d : D} {x0 x1 x2 x3 x4 x5 : Addr × D} {L : List (Addr × D)} (w : Wd S p n (x0 :: x1 :: x2 :: x3 :: x4 :: x5 :: (a, d) :: L)) : S a = some d := w.get 6 rfl
theorem Wd.g7 {S : Sto} {p a : Addr} {n : Int} {d : D} {x0 x1 x2 x3 x4 x5 x6 : Addr × D} {L : List (Addr × D)} (w : Wd S p n (x0 :: x1 :: x2 :: x3 :: x4 :: x5 :: x6 :: (a, d) :: L)) : S a = some d := w.get 7 rfl
theorem take_w {S : Sto} {p : Addr} {n m : Int} {L : List (Addr × D)} {G : D → Sto → Prop} {Y : Addr → List (Str × D) → Sto → Prop} (w : Wd S p n L) (hn : n < 1000000) (h0 : 0 < m) (h1 : m < 2 ^ 64)
    (q : ∀ (d : Int) (S' : Sto), 0 ≤ d → d < m → Wd S' p (n + 1) L → G (.int d) S') : p__law_take [.ref p, .int m] S G Y := take_ok w.pu hn h0 h1 fun d S' d0 d1 h o => q d S' d0 d1 (w.off h o)
end LW
open LW
local macro_rules | `(tactic| walk_at "wd") => `(tactic| first | (apply Wd.g0; assumption) | (apply Wd.g1; assumption) | (apply Wd.g2; assumption) | (apply Wd.g3; assumption) | (apply Wd.g4; assumption) | (apply Wd.g5; assumption) | (apply Wd.g6; assumption) | (apply Wd.g7; assumption))
local macro_rules | `(tactic| walk_at "ii") => `(tactic| first | exact .v | exact .c put_same | exact .c (by assumption) | (apply IsL.c; walk_at "wd") | (apply IsA.c; walk_at "wd") | (refine .c ?_; walk_at "wd"))
local macro_rules | `(tactic| walk_at "gp") => `(tactic| ((with_reducible apply ex_cell); (· walk_at "wd")))
local macro_rules | `(tactic| walk_at "gp") => `(tactic| ((with_reducible apply take_w); (· assumption); (· first | decide | omega); (· first | decide | (simp only [List.length_map]; omega) | omega); (· first | decide | (simp only [List.length_map]; omega) | omega)))
local macro_rules | `(tactic| walk_at "gp") => `(tactic| ((with_reducible apply rv_ixL); (· (apply IsL.c; walk_at "wd")); (· rfl)))
local macro_rules | `(tactic| walk_at "gp") => `(tactic| ((with_reducible apply rc_lenQ); (· (apply IsQ.l; apply IsL.c; walk_at "wd"))))
namespace LW
open PySem L2 C8 PySem.Spec PyProof.Rows VS
/-- one law's table -/
structure Rg (xs : List RwP) : Prop where
  l1 : 1 ≤ xs.length
  l4 : xs.length ≤ 4
  b : ∀ r ∈ xs, BdW r
theorem rowsB_of {xs : List RwP} (g : Rg xs) : rowsL (xs.map rwpD) = true := by
  unfold rowsL
  rw [List.length_map, decide_eq_true (by have := g.l1; omega : (1 : Int) ≤ (xs.length : Int)), decide_eq_true (by have := g.l4; omega : (xs.length : Int) ≤ 4)]
  refine List.all_eq_true.mpr fun y hy => ?_
  obtain ⟨r, hr, rfl⟩ := List.mem_map.mp hy
  exact (g.b r hr).row
theorem Rg.ok {xs : List RwP} (g : Rg xs) : Ok (.lst (xs.map rwpD)) 9000 4 := rows_ok (by have := g.l4; omega) g.b
theorem okR_of {xs : List RwP} (g : Rg xs) : OkR (.lst (xs.map rwpD)) :=
  ⟨g.ok.sh.p, by show (xs.map rwpD).length ≤ _; rw [List.length_map]; have := g.l4; omega, fun x hx => by
    have hx : x ∈ xs.map rwpD := hx
    obtain ⟨r, hr, rfl⟩ := List.mem_map.mp hx
    exact ⟨(g.b r hr).ok.sh.p, fun ys e => by injection e with e; rw [← e]; exact (by decide : 5 ≤ 100000)⟩⟩
theorem Rg.mk_ {C CX : Addr} {xs : List RwP} (g : Rg xs) {S : Sto} {Q : D → Sto → Prop} {Y : Addr → List (Str × D) → Sto → Prop} {d : D} (hd : d = .lst (xs.map rwpD) ∨ d = .tup (xs.map rwpD)) {y : Addr}
    (q : Q .non (put (put S y (.ins C [])) y (.ins C [("kept", .lst (xs.map rwpD))]))) : p_PT_init C CX [.ref y, d] (put S y (.ins C [])) Q Y := by
  have r := rowsB_of g
  have o := okR_of g
  rcases hd with rfl | rfl
  · exact ⟨y, _, _, rfl, put_same, .v o.p, o, fun _ => q, fun e => by rw [show rowsB (.lst (xs.map rwpD)) = rowsL (xs.map rwpD) from rfl, r] at e; cases e⟩
  · exact ⟨y, _, .tup (xs.map rwpD), rfl, put_same, .v o.p, ⟨o.p, o.l, o.e⟩, fun _ => q, fun e => by rw [show rowsB (.tup (xs.map rwpD)) = rowsL (xs.map rwpD) from rfl, r] at e; cases e⟩
theorem Rg.app {xs ys : List RwP} (g : Rg xs) (h : Rg ys) : ∀ r ∈ xs ++ ys, BdW r := fun r hr => (List.mem_append.mp hr).elim (g.b r) (h.b r)
end LW
namespace LW
open PySem L2 C8 PySem.Spec PyProof.Rows VS
/-! ### the row in which something falls, its price, and why not in those ahead -/
def rsnL (rs : List RwP) (pl : List Int) : List D := rs.map fun r => pasD (pasP r pl)
def p_row_of (K : PySem.W.Frag) (CT CS XS XN XR : Addr) : Pt := fun ds S G Y => ∃ (rs : List RwP) (d e : D), ds = [tabD CT rs, d, e] ∧ rs.length ≤ 8 ∧
  ((∃ t, OfC K S d t ∧ PySem.W.kitOne K t (.ref CS) = some false ∧ Y XS [("found", d)] S) ∨
   (∃ (a b c : Int) (o : Option Int), d = sd CS a b c ∧ Wh K S e o ∧ whB o 0 2000000 = false ∧ Y XN [("found", e)] S) ∨
   (∃ a b c x y z w : Int, d = sd CS a b c ∧ dn [a, b, c] = [x, y, z] ∧ e = .int w ∧ 0 ≤ w ∧ w ≤ 2000000 ∧ ∀ l S', S l = none → Ext S S' →
      (∀ i : Nat, fallI rs [x, y, z, w] = some i → S' l = some (.lst (rsnL (rs.take i) [x, y, z, w])) → G (.tup [.int (i : Nat), liD ((rs[i]?).map RwP.p), .ref l]) S') ∧
      (fallI rs [x, y, z, w] = none → S' l = some (.lst (rsnL rs [x, y, z, w])) → Y XR [("reasons", .ref l)] S')))
section
variable {P : Program} {w : World} {K : PySem.W.Frag} {mg : Str → Option Value} {base : Heap}
theorem ok_PriceTable_row_of {f : Addr} {fd : FuncData} {C_PriceTable C_Sides C_NoRows C_NoSide C_NoSides C_NoNumber C_NoRow Pl : Addr} {f_is_whole f_passed f_Sides_ranked : Addr} {g_is_whole g_passed g_Sides_ranked : FuncData}
    (F : Fd K "row_of" "PriceTable.row_of" s_PriceTable_row_of [] f fd) (T : Tx K mg) (hsys : SysOk base)
    (c_is_whole : Cf P w K mg base (L2.CX P w) 1 "is_whole" s_is_whole [] a_is_whole (p_is_whole K) f_is_whole g_is_whole)
    (c_passed : Cf P w K mg base (L2.CX P w) 1 "passed" s_passed [] a_passed p_passed f_passed g_passed)
    (c_Sides_ranked : Mf P w K mg base 1 C_Sides "ranked" "Sides.ranked" s_Sides_ranked [] a_Sides_ranked (p_ranked C_Sides) f_Sides_ranked g_Sides_ranked)
    (x_NoSides : Xc P w K mg base "NoSides" C_NoSides "found")
    (x_NoNumber : Xc P w K mg base "NoNumber" C_NoNumber "found")
    (x_NoRow : Xc P w K mg base "NoRow" C_NoRow "reasons")
    (k_Sides : Kl_Sides K mg C_Sides)
    (k_PriceTable : Kl_PriceTable K mg C_PriceTable) :
    FnG P w K mg base (L2.CX P w) 3 f fd a_PriceTable_row_of (spOf K (p_row_of K C_PriceTable C_Sides C_NoSides C_NoNumber C_NoRow)) := by
  refine VS.unbox ?_
  simp (disch := with_unfolding_all
    have kc_Sides := k_Sides.ins.cl
    have ka_Sides_three := k_Sides.a_three
    have ka_Sides_rows := k_Sides.a_rows
    have kc_PriceTable := k_PriceTable.ins.cl
    have ka_PriceTable_kept := k_PriceTable.a_kept
    refine fn_val F sc_PriceTable_row_of (fun ds S G Y h => ?_) (fun cdv A hgd outer s H E hr px tk po ds S G Y h => ?_)
    · obtain ⟨rs, d, e, rfl, _⟩ := h
      rfl
    · obtain ⟨rs, d, e, rfl, h8, h⟩ := h
      refine ⟨_, (pss_cons (ps_if (pt_not (pt_val (pe_callB c_isiZ (by rfl) T.b_isinstance (by decide +kernel) (pa_cons (pv 1) (pa_cons (pe_gc (v := .ref C_Sides) (by rfl) ⟨_, k_Sides.at_, rfl⟩) pa_nil))))) (pss_one (ps_rz tk x_NoSides (hr.mono (by decide)) (by rfl) (pv 1)))
        pss_nil)
        (pss_cons (ps_if (pt_not (pt_val (pe_cG c_is_whole.fn hgd (hr.mono (by decide)) (by rfl) c_is_whole.mg c_is_whole.kp c_is_whole.b .nil VS.pass0 (pa_cons (pv 2) (pa_cons pe_int (pa_cons (pe_gc (by rfl) T.c_MOST_WEIGHT) pa_nil)))))) (pss_one (ps_rz tk x_NoNumber (hr.mono (by decide)) (by rfl) (pv 2)))
        pss_nil)
        (pss_cons (ps_set (i := 3) sc_PriceTable_row_of.nd rfl (Or.inl rfl) (pe_op op_catA (pe_mG0 (pv 1) c_Sides_ranked.cl c_Sides_ranked.me c_Sides_ranked.fn hgd (hr.mono (by decide)) c_Sides_ranked.b .nil VS.pass0) (pe_tup (pa_cons (pv 2) pa_nil))))
        (pss_cons (ps_set (i := 4) sc_PriceTable_row_of.nd rfl (Or.inl rfl) (pe_lst pa_nil))
        (pss_cons (ps_for po rfl (pi_enum (by rfl) T.b_enumerate (pa_cons (pe_fld (pv 0) rfl) pa_nil)) (pg_tup (n := 2) rfl (pgs_cons (pg_name (i := 5) sc_PriceTable_row_of.nd rfl (Or.inl rfl)) (pgs_cons (pg_name (i := 6) sc_PriceTable_row_of.nd rfl (Or.inl rfl)) pgs_nil)))
        (pss_cons (ps_set (i := 7) sc_PriceTable_row_of.nd rfl (Or.inl rfl) (pe_cG c_passed.fn hgd (hr.mono (by decide)) (by rfl) c_passed.mg c_passed.kp c_passed.b .nil VS.pass0 (pa_cons (pv 6) (pa_cons (pv 3) pa_nil))))
        (pss_cons (ps_if (pt_cmpR op_isNo (pv 7) pe_non (nomark _)) (pss_one (ps_ret (pe_tup (pa_cons (pv 5) (pa_cons (pe_ix ix_tup (pv 6) pe_int (fun _ _ => rfl)) (pa_cons (pv 4) pa_nil))))))
        pss_nil)
        (pss_one (ps_expr (pe_bm PySem.F.plainAttrs_list PySem.F.slot_list_append PySem.F.type_list_append mt_append (pv 4) (pa_cons (pv 7) pa_nil)))))))
        (pss_one (ps_rz tk x_NoRow (hr.mono (by decide)) (by rfl) (pv 4)))))))), ?_⟩
      (try dsimp only [cxOf, List.map])
      show VX _ _ [_, _, _, _, _, _, _, _] _ _
      have sz := szl
      walk_at "gr"
      rcases h with ⟨t, ot, kt, q⟩ | ⟨a, b, c, o, rfl, wh, nw, q⟩ | ⟨a, b, c, x, y, z, w, rfl, hdn, rfl, w0, w1, q⟩
      · refine rc_isiO ot kt ?_
        walk_at "gr"
        exact q
      · refine rc_isiO (.i .v k_Sides.ins) k_Sides.ins.me ?_
        walk_at "gr"
        refine ⟨_, o, 0, 2000000, rfl, wh, ?_⟩
        rw [nw]
        walk_at "gr"
        exact q
      · refine rc_isiO (.i .v k_Sides.ins) k_Sides.ins.me ?_
        walk_at "gr"
        refine ⟨_, some w, 0, 2000000, rfl, .i w, ?_⟩
        rw [whB_of ⟨w0, w1⟩]
        walk_at "gr"
        refine ⟨a, b, c, rfl, ?_⟩
        rw [hdn]
        walk_at "gr"
        refine ve_lstc ?_
        walk_at "gr"
        intro l hl
        have x1 : Ext S (put S l (.lst [])) := Ext.put hl
        have c1 : (put S l (.lst [])) l = some (.lst []) := put_same
        generalize put S l (.lst []) = S1 at x1 c1 ⊢
        walk_at "gr"
        refine vx_for (vi_enum ?_)
        walk_at "gr"
        refine ⟨_, _, rfl, .v, fun i ρ2 S2 => ∃ x5 x6 x7, ρ2 = [some (tabD C_PriceTable rs), some (sd C_Sides a b c), some (.int w), some (.tup [.int x, .int y, .int z, .int w]), some (.ref l), x5, x6, x7] ∧ Ext S S2 ∧ S2 l = some (.lst (rsnL (rs.take i) [x, y, z, w])) ∧ (∀ j r, j < i → rs[j]? = some r → pasP r [x, y, z, w] ≠ none), ⟨_, _, _, rfl, x1, c1, fun j r h => absurd h (Nat.not_lt_zero _)⟩, ?_, ?_⟩
        · clear x1 c1
          rintro i d _ S2 hd ⟨x5, x6, x7, rfl, x2, c2, hw⟩
          obtain ⟨e, he, rfl⟩ := enumD_get hd
          rw [List.getElem?_map] at he
          obtain ⟨r, hr2, rfl⟩ := Option.map_eq_some_iff.mp he
          have hli : i < rs.length := (List.getElem?_eq_some_iff.mp hr2).1
          walk_at "gr"
          refine ⟨r, x, y, z, w, rfl, ?_⟩
          cases ep : pasP r [x, y, z, w] with
          | none =>
            walk_at "gr"
            have f : fallI rs [x, y, z, w] = some i := List.findIdx?_eq_some_iff_getElem.mpr ⟨hli, by
              have e9 : rs[i] = r := (List.getElem?_eq_some_iff.mp hr2).2
              rw [e9, ep] <;> rfl, fun j hj => by
              have := hw j rs[j] hj (List.getElem?_eq_getElem (Nat.lt_trans hj hli))
              cases e8 : pasP rs[j] [x, y, z, w] with
              | none => exact absurd e8 this
              | some v => simp⟩
            refine rv_ixT (d := .int r.p) rfl ?_
            walk_at "gr"
            have q := (q l S2 hl x2).1 i f c2
            rw [hr2] at q
            exact q
          | some v =>
            walk_at "gr"
            refine rm_append c2 (by unfold rsnL; rw [List.length_map, List.length_take]; omega) ?_
            walk_at "gr"
            refine ⟨_, _, _, rfl, fun b d' h => ?_, ?_, fun j r' hj hr3 => ?_⟩
            · rw [put_ne (fun z => ?_)]
              · exact x2 b d' h
              · rw [z, hl] at h; cases h
            · rw [put_same]
              have tk : rs.take (i + 1) = rs.take i ++ [r] := by rw [List.take_succ, hr2]; rfl
              rw [tk]
              unfold rsnL
              rw [List.map_append]
              show _ = some (D.lst (_ ++ [pasD (pasP r [x, y, z, w])]))
              rw [ep]
            · by_cases hji : j < i
              · exact hw j r' hji hr3
              · obtain rfl : j = i := by omega
                rw [hr2] at hr3
                cases hr3
                rw [ep]
                simp
        · clear x1 c1
          rintro ρ2 S2 ⟨x5, x6, x7, rfl, x2, c2, hw⟩
          rw [enumD_len, List.length_map, List.take_length] at c2
          walk_at "gr"
          have f : fallI rs [x, y, z, w] = none := List.findIdx?_eq_none_iff.mpr fun r hr2 => by
            obtain ⟨j, hj⟩ := List.getElem?_of_mem hr2
            have hl : j < rs.length := (List.getElem?_eq_some_iff.mp hj).1
            have := hw j r (by rw [enumD_len, List.length_map]; exact hl) hj
            cases e8 : pasP r [x, y, z, w] with
            | none => exact absurd e8 this
            | some v => rfl
          exact (q l S2 hl x2).2 f c2) only [↓VS.box]
end
end LW
namespace LW
open PySem L2 C8 PySem.Spec PyProof.Rows VS
/-! ### a table asked of a row -/
def p_asked52 (K : PySem.W.Frag) (CT CS : Addr) : Pt := fun ds S G _ => ∃ (rs : List RwP) (d e : D), ds = [tabD CT rs, d, e] ∧ rs.length ≤ 8 ∧
  ((∃ t, OfC K S d t ∧ PySem.W.kitOne K t (.ref CS) = some false ∧ G (.tup [.str "sides", d]) S) ∨
   (∃ (a b c : Int) (o : Option Int), d = sd CS a b c ∧ Wh K S e o ∧ whB o 0 2000000 = false ∧ G (.tup [.str "number", e]) S) ∨
   (∃ a b c x y z w : Int, d = sd CS a b c ∧ dn [a, b, c] = [x, y, z] ∧ e = .int w ∧ 0 ≤ w ∧ w ≤ 2000000 ∧ ∀ l S', S l = none → Ext S S' →
      (∀ i : Nat, fallI rs [x, y, z, w] = some i → S' l = some (.lst (rsnL (rs.take i) [x, y, z, w])) → G (.tup [.str "told", .tup [.int (i : Nat), liD ((rs[i]?).map RwP.p), .ref l]]) S') ∧
      (fallI rs [x, y, z, w] = none → S' l = some (.lst (rsnL rs [x, y, z, w])) → G (.tup [.str "row", .ref l]) S')))
section
variable {P : Program} {w : World} {K : PySem.W.Frag} {mg : Str → Option Value} {base : Heap}
theorem ok__law_asked {f : Addr} {fd : FuncData} {C_PriceTable C_Sides C_NoRows C_NoSide C_NoSides C_NoNumber C_NoRow Pl : Addr} {f_PriceTable_row_of : Addr} {g_PriceTable_row_of : FuncData}
    (F : Fd K "_law_asked" "_law_asked" s__law_asked [] f fd) (T : Tx K mg) (hsys : SysOk base)
    (c_PriceTable_row_of : Mf P w K mg base 3 C_PriceTable "row_of" "PriceTable.row_of" s_PriceTable_row_of [] a_PriceTable_row_of (p_row_of K C_PriceTable C_Sides C_NoSides C_NoNumber C_NoRow) f_PriceTable_row_of g_PriceTable_row_of)
    (x_NoSides : Xc P w K mg base "NoSides" C_NoSides "found")
    (x_NoNumber : Xc P w K mg base "NoNumber" C_NoNumber "found")
    (x_NoRow : Xc P w K mg base "NoRow" C_NoRow "reasons")
    (k_PriceTable : Kl_PriceTable K mg C_PriceTable)
    (k_Sides : Kl_Sides K mg C_Sides) :
    FnG P w K mg base (L2.CX P w) 5 f fd a__law_asked (spOf K (p_asked52 K C_PriceTable C_Sides)) := by
  refine VS.unbox ?_
  simp (disch := with_unfolding_all
    have kc_PriceTable := k_PriceTable.ins.cl
    have ka_PriceTable_kept := k_PriceTable.a_kept
    have kc_Sides := k_Sides.ins.cl
    have ka_Sides_three := k_Sides.a_three
    have ka_Sides_rows := k_Sides.a_rows
    have e_NoSides_NoSides := T.e_NoSides_NoSides _ _ x_NoSides.at_ x_NoSides.at_
    have e_NoSides_NoNumber := T.e_NoSides_NoNumber _ _ x_NoSides.at_ x_NoNumber.at_
    have e_NoSides_NoRow := T.e_NoSides_NoRow _ _ x_NoSides.at_ x_NoRow.at_
    have e_NoNumber_NoSides := T.e_NoNumber_NoSides _ _ x_NoNumber.at_ x_NoSides.at_
    have e_NoNumber_NoNumber := T.e_NoNumber_NoNumber _ _ x_NoNumber.at_ x_NoNumber.at_
    have e_NoNumber_NoRow := T.e_NoNumber_NoRow _ _ x_NoNumber.at_ x_NoRow.at_
    have e_NoRow_NoSides := T.e_NoRow_NoSides _ _ x_NoRow.at_ x_NoSides.at_
    have e_NoRow_NoNumber := T.e_NoRow_NoNumber _ _ x_NoRow.at_ x_NoNumber.at_
    have e_NoRow_NoRow := T.e_NoRow_NoRow _ _ x_NoRow.at_ x_NoRow.at_
    refine fn_val F sc__law_asked (fun ds S G Y h => ?_) (fun cdv A hgd outer s H E hr px tk po ds S G Y h => ?_)
    · obtain ⟨rs, d, e, rfl, _⟩ := h
      rfl
    · obtain ⟨rs, d, e, rfl, h8, h⟩ := h
      refine ⟨_, (pss_one (ps_tryD rfl rfl sc__law_asked.nd (fun W pn xe tk po => have px := passS_of tk; (pss_one (ps_ret (pe_tup (pa_cons pe_str (pa_cons (pe_mG (pv 0) c_PriceTable_row_of.cl c_PriceTable_row_of.me c_PriceTable_row_of.fn hgd (hr.mono (by decide)) c_PriceTable_row_of.b .nil px (pa_cons (pv 1) (pa_cons (pv 2) pa_nil))) pa_nil)))))) (.named (i := 3) ⟨by rfl, by decide, .inl x_NoSides.at_⟩ rfl rfl (fun a oe cls d pn hz hf => (pss_one (ps_ret (pe_tup (pa_cons pe_str (pa_cons (pe_xf x_NoSides.xf x_NoSides.no hz hf (pv 3)) pa_nil)))))) (.named (i := 3) ⟨by rfl, by decide, .inl x_NoNumber.at_⟩ rfl rfl (fun a oe cls d pn hz hf => (pss_one (ps_ret (pe_tup (pa_cons pe_str (pa_cons (pe_xf x_NoNumber.xf x_NoNumber.no hz hf (pv 3)) pa_nil)))))) (.named (i := 3) ⟨by rfl, by decide, .inl x_NoRow.at_⟩ rfl rfl (fun a oe cls d pn hz hf => (pss_one (ps_ret (pe_tup (pa_cons pe_str (pa_cons (pe_xf x_NoRow.xf x_NoRow.no hz hf (pv 3)) pa_nil)))))) .rest))))), ?_⟩
      (try dsimp only [cxOf, List.map])
      show VX _ _ [_, _, _, _] _ _
      have sz := szl
      walk_at "gr"
      rcases h with ⟨t, ot, kt, q⟩ | ⟨a, b, c, o, rfl, wh, nw, q⟩ | ⟨a, b, c, x, y, z, w, rfl, hdn, rfl, w0, w1, q⟩
      · refine ⟨rs, _, _, rfl, h8, .inl ⟨t, ot, kt, ?_⟩⟩
        refine hd_hit e_NoSides_NoSides fun ax dd => ?_
        walk_at "gr"
        exact q
      · refine ⟨rs, _, _, rfl, h8, .inr (.inl ⟨a, b, c, o, rfl, wh, nw, ?_⟩)⟩
        refine hd_skip e_NoNumber_NoSides (hd_hit e_NoNumber_NoNumber fun ax dd => ?_)
        walk_at "gr"
        exact q
      · refine ⟨rs, _, _, rfl, h8, .inr (.inr ⟨a, b, c, x, y, z, w, rfl, hdn, rfl, w0, w1, fun l S' hl x' => ⟨fun i hf c' => ?_, fun hf c' => ?_⟩⟩)⟩
        · have q := (q l S' hl x').1 i hf c'
          walk_at "gr"
          exact q
        · refine hd_skip e_NoRow_NoSides (hd_skip e_NoRow_NoNumber (hd_hit e_NoRow_NoRow fun ax dd => ?_))
          have q := (q l S' hl x').2 hf c'
          walk_at "gr"
          exact q) only [↓VS.box]
end
end LW
namespace LW
open PySem L2 C8 PySem.Spec PyProof.Rows VS
/-! ### sides as they lie, and a weight -/
def p__law_place : Pt := fun ds S G _ => ∃ (p : Addr) (n : Int) (rs : List RwP) (L : List (Addr × D)), ds = [.ref p, .lst (rs.map rwpD)] ∧ Wd S p n L ∧ n < 700000 ∧ 1 ≤ rs.length ∧ rs.length ≤ 8 ∧ (∀ r ∈ rs, BdW r) ∧
  ∀ (a b c t : Int) S', In1 a → In1 b → In1 c → 0 ≤ t → t ≤ 2000000 → Wd S' p (n + 30) L → G (.tup [.lst [.int a, .int b, .int c], .int t]) S'
section
variable {P : Program} {w : World} {K : PySem.W.Frag} {mg : Str → Option Value} {base : Heap}
theorem ok__law_place {f : Addr} {fd : FuncData} {C_PriceTable C_Sides C_NoRows C_NoSide C_NoSides C_NoNumber C_NoRow Pl : Addr} {f__law_take : Addr} {g__law_take : FuncData}
    (F : Fd K "_law_place" "_law_place" s__law_place [] f fd) (T : Tx K mg) (hsys : SysOk base)
    (c__law_take : Cf P w K mg base (L2.CX P w) 1 "_law_take" s__law_take [] a__law_take p__law_take f__law_take g__law_take) :
    FnG P w K mg base (L2.CX P w) 2 f fd a__law_place (spOf K p__law_place) := by
  refine VS.unbox ?_
  simp (disch := with_unfolding_all
    refine fn_val F sc__law_place (fun ds S G Y h => ?_) (fun cdv A hgd outer s H E hr px tk po ds S G Y h => ?_)
    · obtain ⟨p, n, rs, L, rfl, _⟩ := h
      rfl
    · obtain ⟨p, n, rs, L, rfl, hw, hn, r1, r8, hb, q⟩ := h
      refine ⟨_, (pss_cons (ps_set (i := 2) sc__law_place.nd rfl (Or.inl rfl) (pe_ix ix_list (pv 1) (pe_cG c__law_take.fn hgd (hr.mono (by decide)) (by rfl) c__law_take.mg c__law_take.kp c__law_take.b .nil VS.pass0 (pa_cons (pv 0) (pa_cons (pe_callB c_len (by rfl) T.b_len (by decide +kernel) (pa_cons (pv 1) pa_nil)) pa_nil))) (fun _ _ => rfl)))
        (pss_cons (ps_set (i := 3) sc__law_place.nd rfl (Or.inl rfl) (pe_lst pa_nil))
        (pss_cons (ps_for po rfl (pi_range1 (by rfl) T.b_range (pa_cons pe_int pa_nil)) (pg_name (i := 4) sc__law_place.nd rfl (Or.inl rfl))
        (pss_cons (ps_par (i := 5) (j := 6) (by rfl) sc__law_place.nd rfl rfl (by decide) rfl rfl (pa_cons (pe_ix ix_list (pe_lst (pa_cons pe_int (pa_cons pe_int pa_nil))) (pe_callTy c_int1 (by rfl) T.b_int (by decide +kernel) (pa_cons (pe_cmpR op_eq (pv 4) pe_int (nomark _)) pa_nil)) (fun _ _ => rfl)) (pa_cons (pe_ix ix_list (pe_lst (pa_cons pe_int (pa_cons pe_int pa_nil))) (pe_callTy c_int1 (by rfl) T.b_int (by decide +kernel) (pa_cons (pe_cmpR op_eq (pv 4) pe_int (nomark _)) pa_nil)) (fun _ _ => rfl)) pa_nil)) (by rfl))
        (pss_cons (ps_set (i := 7) sc__law_place.nd rfl (Or.inl rfl) (pe_ifExp (pt_cmpR op_notNo (pe_ix ix_tup (pv 2) (pv 4) (fun _ _ => rfl)) pe_non (nomark _)) (pe_ix ix_tup (pv 2) (pv 4) (fun _ _ => rfl)) (pe_op op_add (pv 5) (pe_cG c__law_take.fn hgd (hr.mono (by decide)) (by rfl) c__law_take.mg c__law_take.kp c__law_take.b .nil VS.pass0 (pa_cons (pv 0) (pa_cons (pv 6) pa_nil))))))
        (pss_cons (ps_set (i := 8) sc__law_place.nd rfl (Or.inl rfl) (pe_ix ix_list (pe_lst (pa_cons (pv 7) (pa_cons (pe_op op_add (pv 7) pe_int) (pa_cons (pe_op op_sub (pv 7) pe_int) (pa_cons (pv 5) (pa_cons (pv 6) (pa_cons (pe_op op_add (pv 5) (pe_cG c__law_take.fn hgd (hr.mono (by decide)) (by rfl) c__law_take.mg c__law_take.kp c__law_take.b .nil VS.pass0 (pa_cons (pv 0) (pa_cons pe_int pa_nil)))) pa_nil))))))) (pe_cG c__law_take.fn hgd (hr.mono (by decide)) (by rfl) c__law_take.mg c__law_take.kp c__law_take.b .nil VS.pass0 (pa_cons (pv 0) (pa_cons pe_int pa_nil))) (fun _ _ => rfl)))
        (pss_one (ps_expr (pe_bm PySem.F.plainAttrs_list PySem.F.slot_list_append PySem.F.type_list_append mt_append (pv 3) (pa_cons (pe_callB (c_max2 rfl) (by rfl) T.b_max (by decide +kernel) (pa_cons (pv 5) (pa_cons (pe_callB (c_min2 rfl) (by rfl) T.b_min (by decide +kernel) (pa_cons (pv 6) (pa_cons (pv 8) pa_nil))) pa_nil))) pa_nil))))))))
        (pss_cons (ps_set (i := 9) sc__law_place.nd rfl (Or.inl rfl) (pe_cG c__law_take.fn hgd (hr.mono (by decide)) (by rfl) c__law_take.mg c__law_take.kp c__law_take.b .nil VS.pass0 (pa_cons (pv 0) (pa_cons pe_int pa_nil))))
        (pss_cons (ps_set (i := 10) sc__law_place.nd rfl (Or.inl rfl) (pe_slice sl_list (pv 3) po_none (po_some pe_int)))
        (pss_cons (ps_if (pt_cmpR op_eq (pe_cG c__law_take.fn hgd (hr.mono (by decide)) (by rfl) c__law_take.mg c__law_take.kp c__law_take.b .nil VS.pass0 (pa_cons (pv 0) (pa_cons pe_int pa_nil))) pe_int (nomark _)) (pss_one (ps_set (i := 10) sc__law_place.nd rfl (Or.inl rfl) (VS.pe_lstRev rfl (by rfl) T.b_list (by rfl) T.b_reversed (pv 10))))
        pss_nil)
        (pss_one (ps_ret (pe_tup (pa_cons (pe_op op_cat (pe_slice sl_list (pv 10) (po_some (pv 9)) po_none) (pe_slice sl_list (pv 10) po_none (po_some (pv 9)))) (pa_cons (pe_ix ix_list (pv 3) pe_int (fun _ _ => rfl)) pa_nil))))))))))), ?_⟩
      (try dsimp only [cxOf, List.map])
      show VX _ _ [_, _, _, _, _, _, _, _, _, _, _] _ _
      have sz := szl
      walk_at "gr"
      rw [List.length_map]
      intro t S1 t0 t1 w1
      clear hw
      obtain ⟨j, rfl⟩ := Int.eq_ofNat_of_zero_le t0
      have hj : j < rs.length := by omega
      obtain ⟨r, hr2⟩ : ∃ r, rs[j]? = some r := ⟨_, List.getElem?_eq_getElem hj⟩
      refine rv_ixL .v (d := rwpD r) (atI_nat (j := j) (by rw [List.getElem?_map, hr2] <;> rfl)) ?_
      walk_at "gr"
      refine ve_lstc ?_
      walk_at "gr"
      intro l hl
      have w2 := w1.new (d := .lst []) hl
      generalize put S1 l (.lst []) = S2 at w2 ⊢
      clear w1 hl t0 t1
      walk_at "gr"
      refine vx_for (vi_rng1 ?_)
      walk_at "gr"
      refine ⟨4, rfl, by decide, fun i ρ2 S3 => ∃ (vs : List Int) (x4 x5 x6 x7 x8 : Option D), ρ2 = [some (.ref p), some (.lst (rs.map rwpD)), some (rwpD r), some (.ref l), x4, x5, x6, x7, x8, none, none] ∧ Wd S3 p (n + 1 + 4 * (i : Nat)) ((l, .lst (vs.map D.int)) :: L) ∧ vs.length = i ∧ ∀ j v, vs[j]? = some v → (j < 3 → In1 v) ∧ (j = 3 → 0 ≤ v ∧ v ≤ 2000000), ⟨[], _, _, _, _, _, rfl, w2.mono (by omega), rfl, fun j v e => by cases j <;> cases e⟩, ?_, ?_⟩
      · clear w2
        rintro i d _ S3 hd ⟨vs, x4, x5, x6, x7, x8, rfl, w3, hvl, hvs⟩
        obtain ⟨rfl, hi⟩ := rngD_at hd
        have hi4 : i < 4 := by omega
        refine vg_name ?_
        obtain ⟨lo, mo, e3, n3⟩ : ∃ lo mo : Int, (i = 3 → lo = 0 ∧ mo = 2000000) ∧ (i ≠ 3 → lo = 1 ∧ mo = 100000) := by
          by_cases e : i = 3
          · exact ⟨0, 2000000, fun _ => ⟨rfl, rfl⟩, fun h => absurd e h⟩
          · exact ⟨1, 100000, fun h => absurd h e, fun _ => ⟨rfl, rfl⟩⟩
        have hmo : 0 < mo ∧ mo ≤ 2000000 ∧ 0 ≤ lo ∧ lo ≤ 1 := by
          by_cases e : i = 3
          · obtain ⟨rfl, rfl⟩ := e3 e; decide
          · obtain ⟨rfl, rfl⟩ := n3 e; decide
        refine vx_join (fun ρ2 S6 => S6 = S3 ∧ ρ2 = [some (.ref p), some (.lst (rs.map rwpD)), some (rwpD r), some (.ref l), some (.int (i : Nat)), some (.int lo), some (.int mo), x7, x8, none, none]) ?_ ?_
        · by_cases e : i = 3
          · obtain ⟨rfl, rfl⟩ := e3 e
            subst e
            walk_at "gr"
            refine ve_lst ?_
            walk_at "gr"
            refine ve_lst ?_
            walk_at "gr"
            exact ⟨rfl, rfl⟩
          · obtain ⟨rfl, rfl⟩ := n3 e
            have ne : ¬ ((i : Nat) : Int) = 3 := by omega
            walk_at "gr"
            refine ve_lst ?_
            walk_at "gr"
            rw [decide_eq_false ne]
            refine rv_ixL .v (d := .int 1) rfl ?_
            walk_at "gr"
            refine ve_lst ?_
            walk_at "gr"
            rw [decide_eq_false ne]
            refine rv_ixL .v (d := .int 100000) rfl ?_
            walk_at "gr"
            exact ⟨rfl, rfl⟩
        rintro _ S6 ⟨rfl, rfl⟩
        obtain ⟨o, o1, o2⟩ := li_ls (r := r) hi4
        refine vx_join (fun ρ2 S8 => ∃ v : Int, ρ2 = [some (.ref p), some (.lst (rs.map rwpD)), some (rwpD r), some (.ref l), some (.int (i : Nat)), some (.int lo), some (.int mo), some (.int v), x8, none, none] ∧ Wd S8 p (n + 1 + 4 * (i : Nat) + 1) ((l, .lst (vs.map D.int)) :: L)) ?_ ?_
        · walk_at "gr"
          refine rv_ixT (d := liD o) o2 ?_
          cases o with
          | none =>
            walk_at "gr"
            intro t2 S8 t20 t21 w8
            walk_at "gr"
            exact ⟨_, rfl, w8.mono (by omega)⟩
          | some v =>
            walk_at "gr"
            refine rv_ixT (d := .int v) o2 ?_
            walk_at "gr"
            exact ⟨_, rfl, w3.mono (by omega)⟩
        clear w3
        rintro _ S8 ⟨v, rfl, w8⟩
        walk_at "gr"
        refine ve_lst ?_
        walk_at "gr"
        intro t3 S9 t30 t31 w9
        clear w8
        walk_at "gr"
        intro t4 S10 t40 t41 w10
        clear w9
        obtain ⟨dt, hdt, hat⟩ := atI_mem (xs := ([.int v, .int (v + 1), .int (v - 1), .int lo, .int mo, .int (lo + t3)] : List D)) t40 t41
        refine rv_ixL .v hat ?_
        obtain ⟨u, rfl⟩ : ∃ u : Int, dt = .int u := by
          simp only [List.mem_cons, List.not_mem_nil, or_false] at hdt
          rcases hdt with rfl | rfl | rfl | rfl | rfl | rfl <;> exact ⟨_, rfl⟩
        clear hat hdt
        walk_at "gr"
        obtain ⟨v9, e9, l9, m9⟩ : ∃ v9 : Int, (if (if u < mo then u else mo) > lo then if u < mo then u else mo else lo) = v9 ∧ lo ≤ v9 ∧ v9 ≤ mo := ⟨_, rfl, by (repeat' split) <;> omega, by (repeat' split) <;> omega⟩
        rw [e9]
        refine rm_append (w10.get 0 rfl) (by rw [List.length_map]; omega) ?_
        refine ⟨vs ++ [v9], _, _, _, _, _, rfl, (by rw [List.map_append]; exact (w10.wr 0 rfl).mono (by omega)), by rw [List.length_append, hvl]; rfl, fun j2 v2 h2 => ?_⟩
        by_cases e : j2 < i
        · rw [List.getElem?_append_left (by omega)] at h2
          exact hvs j2 v2 h2
        · have hj2 : j2 < (vs ++ [v9]).length := (List.getElem?_eq_some_iff.mp h2).1
          rw [List.length_append] at hj2
          have hj2 : j2 < vs.length + 1 := hj2
          obtain rfl : j2 = i := by omega
          rw [List.getElem?_append_right (by omega), hvl, Nat.sub_self] at h2
          cases h2
          refine ⟨fun z => ?_, fun z => ?_⟩
          · obtain ⟨rfl, rfl⟩ := n3 (by omega)
            exact ⟨l9, m9⟩
          · obtain ⟨rfl, rfl⟩ := e3 z
            exact ⟨l9, m9⟩
      · clear w2
        rintro _ S3 ⟨vs, x4, x5, x6, x7, x8, rfl, w3, hvl, hvs⟩
        rw [rngD_len] at w3 hvl
        obtain ⟨a, b, c, d, rfl⟩ : ∃ a b c d, vs = [a, b, c, d] := by
          have hvl : vs.length = 4 := hvl
          match vs, hvl with
          | [a, b, c, d], _ => exact ⟨a, b, c, d, rfl⟩
        have ha := (hvs 0 a rfl).1 (by decide)
        have hb2 := (hvs 1 b rfl).1 (by decide)
        have hc := (hvs 2 c rfl).1 (by decide)
        have hd := (hvs 3 d rfl).2 rfl
        have w3 := w3.mono (m := n + 20) (by show n + 1 + 4 * ((4 : Nat) : Int) ≤ n + 20; omega)
        walk_at "gr"
        intro tn S4 tn0 tn1 w4
        clear w3
        have c4 : S4 l = some (.lst [.int a, .int b, .int c, .int d]) := w4.get 0 rfl
        walk_at "gr"
        refine rs_list (.c c4) ?_
        refine vg_name ?_
        refine vx_join (fun ρ2 S5 => ∃ x y z : Int, ρ2 = [some (.ref p), some (.lst (rs.map rwpD)), some (rwpD r), some (.ref l), x4, x5, x6, x7, x8, some (.int tn), some (.lst [.int x, .int y, .int z])] ∧ In1 x ∧ In1 y ∧ In1 z ∧ Wd S5 p (n + 25) ((l, .lst [.int a, .int b, .int c, .int d]) :: L)) ?_ ?_
        · walk_at "gr"
          intro t5 S5 t50 t51 w5
          walk_at "gr"
          refine br (fun e => ?_) (fun e => ?_)
          · walk_at "gr"
            refine ve_lstRev ?_
            walk_at "gr"
            refine ⟨_, .v, ?_⟩
            walk_at "gr"
            exact ⟨c, b, a, rfl, hc, hb2, ha, w5.mono (by omega)⟩
          · walk_at "gr"
            exact ⟨a, b, c, rfl, ha, hb2, hc, w5.mono (by omega)⟩
        clear w4 c4
        rintro _ S5 ⟨x, y, z, rfl, hx, hy, hz, w5⟩
        have c5 : S5 l = some (.lst [.int a, .int b, .int c, .int d]) := w5.get 0 rfl
        have fin : ∀ u v k : Int, In1 u → In1 v → In1 k → G (.tup [.lst [.int u, .int v, .int k], .int d]) S5 := fun u v k hu hv hk => q u v k d S5 hu hv hk hd.1 hd.2 ((w5.mono (by omega)).tl)
        have : tn = 0 ∨ tn = 1 ∨ tn = 2 := by omega
        rcases this with rfl | rfl | rfl
        · walk_at "gr"
          refine rs_list .v ?_
          walk_at "gr"
          refine rs_list .v ?_
          refine rv_cat .v .v (by show 3 + 0 ≤ sizeLine; omega) ?_
          walk_at "gr"
          exact fin x y z hx hy hz
        · walk_at "gr"
          refine rs_list .v ?_
          walk_at "gr"
          refine rs_list .v ?_
          refine rv_cat .v .v (by show 2 + 1 ≤ sizeLine; omega) ?_
          walk_at "gr"
          exact fin y z x hy hz hx
        · walk_at "gr"
          refine rs_list .v ?_
          walk_at "gr"
          refine rs_list .v ?_
          refine rv_cat .v .v (by show 1 + 2 ≤ sizeLine; omega) ?_
          walk_at "gr"
          exact fin z x y hz hx hy) only [↓VS.box]
end
end LW
namespace LW
open PySem L2 C8 PySem.Spec PyProof.Rows VS
/-! ### what is due, by the law's own walk -/
def p__law_due : Pt := fun ds S G _ => ∃ (rs : List RwP) (a b c x y z w : Int), ds = [.lst (rs.map rwpD), .lst [.int a, .int b, .int c], .int w] ∧ dn [a, b, c] = [x, y, z] ∧ rs.length ≤ 8 ∧ ∀ l S', S l = none → Ext S S' →
      (∀ i : Nat, fallI rs [x, y, z, w] = some i → S' l = some (.lst (rsnL (rs.take i) [x, y, z, w])) → G (.tup [.str "told", .tup [.int (i : Nat), liD ((rs[i]?).map RwP.p), .ref l]]) S') ∧
      (fallI rs [x, y, z, w] = none → S' l = some (.lst (rsnL rs [x, y, z, w])) → G (.tup [.str "row", .ref l]) S')
section
variable {P : Program} {w : World} {K : PySem.W.Frag} {mg : Str → Option Value} {base : Heap}
theorem ok__law_due {f : Addr} {fd : FuncData} {C_PriceTable C_Sides C_NoRows C_NoSide C_NoSides C_NoNumber C_NoRow Pl : Addr}
    (F : Fd K "_law_due" "_law_due" s__law_due [] f fd) (T : Tx K mg) (hsys : SysOk base) :
    FnG P w K mg base (L2.CX P w) 1 f fd a__law_due (spOf K p__law_due) := by
  refine VS.unbox ?_
  simp (disch := with_unfolding_all
    refine fn_val F sc__law_due (fun ds S G Y h => ?_) (fun cdv A hgd outer s H E hr px tk po ds S G Y h => ?_)
    · obtain ⟨rs, a, b, c, x, y, z, w, rfl, _⟩ := h
      rfl
    · obtain ⟨rs, a, b, c, x, y, z, w, rfl, hdn, h8, q⟩ := h
      refine ⟨_, (pss_cons (ps_set (i := 3) sc__law_due.nd rfl (Or.inl rfl) (pe_op op_cat (pe_callBK (c_sortedR (b := true)) (by rfl) T.b_sorted (by decide +kernel) (pa_cons (pv 1) pa_nil) (pk_cons pe_bl pk_nil)) (pe_lst (pa_cons (pv 2) pa_nil))))
        (pss_cons (ps_set (i := 4) sc__law_due.nd rfl (Or.inl rfl) (pe_lst pa_nil))
        (pss_cons (ps_for po rfl (pi_enum (by rfl) T.b_enumerate (pa_cons (pv 0) pa_nil)) (pg_tup (n := 2) rfl (pgs_cons (pg_name (i := 5) sc__law_due.nd rfl (Or.inl rfl)) (pgs_cons (pg_name (i := 6) sc__law_due.nd rfl (Or.inl rfl)) pgs_nil)))
        (pss_cons (ps_set (i := 7) sc__law_due.nd rfl (Or.inl rfl) pe_non)
        (pss_cons (ps_for po rfl (VS.pi_zipB3 (by rfl) T.b_zip (pa_cons (pe_tup (pa_cons pe_str (pa_cons pe_str (pa_cons pe_str (pa_cons pe_str pa_nil))))) (pa_cons (pv 6) (pa_cons (pv 3) pa_nil)))) (pg_tup (n := 3) rfl (pgs_cons (pg_name (i := 8) sc__law_due.nd rfl (Or.inl rfl)) (pgs_cons (pg_name (i := 9) sc__law_due.nd rfl (Or.inl rfl)) (pgs_cons (pg_name (i := 10) sc__law_due.nd rfl (Or.inl rfl)) pgs_nil))))
        (pss_one (ps_if (PW.pt (pw_and (pt_cmpR op_isNo (pv 7) pe_non (nomark _)) (pw_and (pt_cmpR op_notNo (pv 9) pe_non (nomark _)) (pw_and1 (pt_cmpR op_gt (pv 10) (pv 9) (nomark _)))))) (pss_one (ps_set (i := 7) sc__law_due.nd rfl (Or.inl rfl) (pe_tup (pa_cons (pv 8) (pa_cons (pe_op op_sub (pv 10) (pv 9)) pa_nil)))))
        pss_nil)))
        (pss_cons (ps_if (pt_cmpR op_isNo (pv 7) pe_non (nomark _)) (pss_one (ps_ret (pe_tup (pa_cons pe_str (pa_cons (pe_tup (pa_cons (pv 5) (pa_cons (pe_ix ix_tup (pv 6) pe_int (fun _ _ => rfl)) (pa_cons (pv 4) pa_nil)))) pa_nil)))))
        pss_nil)
        (pss_one (ps_expr (pe_bm PySem.F.plainAttrs_list PySem.F.slot_list_append PySem.F.type_list_append mt_append (pv 4) (pa_cons (pv 7) pa_nil))))))))
        (pss_one (ps_ret (pe_tup (pa_cons pe_str (pa_cons (pv 4) pa_nil)))))))), ?_⟩
      (try dsimp only [cxOf, List.map])
      show VX _ _ [_, _, _, _, _, _, _, _, _, _, _] _ _
      have sz := szl
      walk_at "gr"
      refine ve_ckw ?_
      walk_at "gr"
      refine rck_sortedR (ns := [a, b, c]) (.l .v) ?_
      rw [show srtB true [a, b, c] = [x, y, z] from hdn]
      walk_at "gr"
      refine ve_lst ?_
      walk_at "gr"
      refine rv_cat .v .v (by show 3 + 1 ≤ sizeLine; omega) ?_
      walk_at "gr"
      refine ve_lstc ?_
      walk_at "gr"
      intro l hl
      have x1 : Ext S (put S l (.lst [])) := Ext.put hl
      have c1 : (put S l (.lst [])) l = some (.lst []) := put_same
      generalize put S l (.lst []) = S1 at x1 c1 ⊢
      walk_at "gr"
      refine vx_for (vi_enum ?_)
      walk_at "gr"
      refine ⟨_, _, rfl, .v, fun i ρ2 S2 => ∃ x5 x6 x7 x8 x9 x10, ρ2 = [some (.lst (rs.map rwpD)), some (.lst [.int a, .int b, .int c]), some (.int w), some (.lst [.int x, .int y, .int z, .int w]), some (.ref l), x5, x6, x7, x8, x9, x10] ∧ Ext S S2 ∧ S2 l = some (.lst (rsnL (rs.take i) [x, y, z, w])) ∧ (∀ j r, j < i → rs[j]? = some r → pasP r [x, y, z, w] ≠ none), ⟨_, _, _, _, _, _, rfl, x1, c1, fun j r h => absurd h (Nat.not_lt_zero _)⟩, ?_, ?_⟩
      · clear x1 c1
        rintro i d _ S2 hd ⟨x5, x6, x7, x8, x9, x10, rfl, x2, c2, hw⟩
        obtain ⟨e, he, rfl⟩ := enumD_get hd
        rw [List.getElem?_map] at he
        obtain ⟨r, hr2, rfl⟩ := Option.map_eq_some_iff.mp he
        have hli : i < rs.length := (List.getElem?_eq_some_iff.mp hr2).1
        refine vg_tup rfl ?_
        refine vgs_cons ?_
        refine vg_name ?_
        refine vgs_cons ?_
        refine vg_name ?_
        refine vgs_nil ?_
        refine vx_seq (vx_asg (ve_non ?_))
        refine vg_name ?_
        refine vx_join (fun ρ3 S3 => S3 = S2 ∧ ∃ y8 y9 y10, ρ3 = [some (.lst (rs.map rwpD)), some (.lst [.int a, .int b, .int c]), some (.int w), some (.lst [.int x, .int y, .int z, .int w]), some (.ref l), some (.int (i : Nat)), some (rwpD r), some (pasD (pasP r [x, y, z, w])), y8, y9, y10]) ?_ ?_
        · refine vx_for (vi_zipB3 ?_)
          walk_at "gr"
          refine ⟨_, _, _, _, _, _, _, _, _, rfl, .t, .t, .w .v, fun j ρ3 S3 => S3 = S2 ∧ ∃ (f : Option (Str × Int)) (y8 y9 y10 : Option D), ρ3 = [some (.lst (rs.map rwpD)), some (.lst [.int a, .int b, .int c]), some (.int w), some (.lst [.int x, .int y, .int z, .int w]), some (.ref l), some (.int (i : Nat)), some (rwpD r), some (pasD f), y8, y9, y10] ∧ ((f = none ∧ stopK r [x, y, z, w] j = pasP r [x, y, z, w]) ∨ ∃ v, f = some v ∧ pasP r [x, y, z, w] = some v), ⟨rfl, none, _, _, _, rfl, .inl ⟨rfl, rfl⟩⟩, ?_, ?_⟩
          · rintro j d _ S3 hd ⟨rfl, f, y8, y9, y10, rfl, hf⟩
            obtain ⟨hj, wd, lm, n, rfl, hs⟩ := stop_at hd
            rcases hf with ⟨rfl, hk⟩ | ⟨v, rfl, hv⟩
            · cases lm with
              | none =>
                walk_at "gr"
                exact ⟨rfl, none, _, _, _, rfl, .inl ⟨rfl, hs.symm.trans hk⟩⟩
              | some k =>
                dsimp only at hs
                dsimp only [liD]
                walk_at "gr"
                refine br (fun e => ?_) (fun e => ?_)
                · rw [if_pos (by omega), hk] at hs
                  walk_at "gr"
                  exact ⟨rfl, some (wd, n - k), _, _, _, rfl, .inr ⟨_, rfl, hs⟩⟩
                · rw [if_neg (by omega), hk] at hs
                  walk_at "gr"
                  exact ⟨rfl, none, _, _, _, rfl, .inl ⟨rfl, hs.symm⟩⟩
            · walk_at "gr"
              exact ⟨rfl, some v, _, _, _, rfl, .inr ⟨v, rfl, hv⟩⟩
          · rintro ρ3 S3 ⟨rfl, f, y8, y9, y10, rfl, hf⟩
            refine ⟨rfl, y8, y9, y10, ?_⟩
            have ef : f = pasP r [x, y, z, w] := by
              rcases hf with ⟨rfl, hk⟩ | ⟨v, rfl, hv⟩
              · exact hk
              · exact hv.symm
            rw [ef]
        rintro _ S3 ⟨rfl, y8, y9, y10, rfl⟩
        cases ep : pasP r [x, y, z, w] with
        | none =>
          walk_at "gr"
          have f : fallI rs [x, y, z, w] = some i := List.findIdx?_eq_some_iff_getElem.mpr ⟨hli, by
            have e9 : rs[i] = r := (List.getElem?_eq_some_iff.mp hr2).2
            rw [e9, ep] <;> rfl, fun j hj => by
            have := hw j rs[j] hj (List.getElem?_eq_getElem (Nat.lt_trans hj hli))
            cases e8 : pasP rs[j] [x, y, z, w] with
            | none => exact absurd e8 this
            | some v => simp⟩
          refine rv_ixT (d := .int r.p) rfl ?_
          walk_at "gr"
          have q := (q l S3 hl x2).1 i f c2
          rw [hr2] at q
          exact q
        | some v =>
          walk_at "gr"
          refine rm_append c2 (by unfold rsnL; rw [List.length_map, List.length_take]; omega) ?_
          walk_at "gr"
          refine ⟨_, _, _, _, _, _, rfl, fun b d' h => ?_, ?_, fun j r' hj hr3 => ?_⟩
          · rw [put_ne (fun z => ?_)]
            · exact x2 b d' h
            · rw [z, hl] at h; cases h
          · rw [put_same]
            have tk : rs.take (i + 1) = rs.take i ++ [r] := by rw [List.take_succ, hr2]; rfl
            rw [tk]
            unfold rsnL
            rw [List.map_append]
            show _ = some (D.lst (_ ++ [pasD (pasP r [x, y, z, w])]))
            rw [ep]
          · by_cases hji : j < i
            · exact hw j r' hji hr3
            · obtain rfl : j = i := by omega
              rw [hr2] at hr3
              cases hr3
              rw [ep]
              simp
      · clear x1 c1
        rintro ρ2 S2 ⟨x5, x6, x7, x8, x9, x10, rfl, x2, c2, hw⟩
        rw [enumD_len, List.length_map, List.take_length] at c2
        walk_at "gr"
        have f : fallI rs [x, y, z, w] = none := List.findIdx?_eq_none_iff.mpr fun r hr2 => by
          obtain ⟨j, hj⟩ := List.getElem?_of_mem hr2
          have hl : j < rs.length := (List.getElem?_eq_some_iff.mp hj).1
          have := hw j r (by rw [enumD_len, List.length_map]; exact hl) hj
          cases e8 : pasP r [x, y, z, w] with
          | none => exact absurd e8 this
          | some v => rfl
        exact (q l S2 hl x2).2 f c2) only [↓VS.box]
end
end LW
namespace LW
open PySem L2 C8 PySem.Spec PyProof.Rows VS
/-! ### refused -/
abbrev L55 (Pl : Addr) : List (Addr × D) := [(Pl, .str "parts_at.<locals>.unlike")]
def p_refused52 (Pl : Addr) (K : PySem.W.Frag) (C : Addr) : Pt := fun ds S G _ => ∃ (p : Addr) (n : Int) (xs : List RwP), ds = [.ref p, tabD C xs] ∧ Wd S p n (L55 Pl) ∧ n < 800000 ∧ Rg xs ∧ ∀ S', Wd S' p (n + 10) (L55 Pl) → G (.bl true) S'
/-- what an odd thing is: by value, or the list that may grow -/
def T9 (l : Addr) (d : D) : Prop := (isP d = true ∧ Sh d 2000 4 ∧ isK "list" d = false) ∨ d = .ref l
def W9 (l : Addr) (d : D) : Prop := (isP d = true ∧ Sh d 2000 4 ∧ isK "list" d = false ∧ whB (whO d) 0 2000000 = false) ∨ d = .ref l
theorem unl_self (xs : List RwP) : unlB xs xs = fun _ => false := by
  funext pl
  unfold unlB
  rw [decide_eq_true rfl]; rfl
theorem unl_by (xs ys : List RwP) : ByRows (xs ++ ys) (unlB xs ys) := fun _ _ h => unl_congr h
theorem shI {xs : List Int} (h : xs = [5] ∨ xs = [5, 6]) : Sh (.lst (xs.map D.int)) 2000 4 := by
  have i5 : Sh (.int 5) 200 2 := (ok_int (by decide)).sh
  have i6 : Sh (.int 6) 200 2 := (ok_int (by decide)).sh
  rcases h with rfl | rfl
  · exact (Sh.lst (ShL.cons i5 ShL.nil)).mono (by decide) (by decide)
  · exact (Sh.lst (ShL.cons i5 (ShL.cons i6 ShL.nil))).mono (by decide) (by decide)
theorem two_sh {w : Str} {d : D} {n : Nat} (hw : Asc n w) (hn : n ≤ 10) (hd : Sh d 2000 4) : Sh (.tup [.str w, d]) 3000 5 := (Sh.tup (ShL.cons (Sh.str hw) (ShL.cons hd ShL.nil))).mono (by omega) (by decide)
section
variable {P : Program} {w : World} {K : PySem.W.Frag} {mg : Str → Option Value} {base : Heap}
theorem ok__law_refused_right {f : Addr} {fd : FuncData} {C_PriceTable C_Sides C_NoRows C_NoSide C_NoSides C_NoNumber C_NoRow Pl : Addr} {f__law_take f__law_asked f_PriceTable___eq__ f_Sides : Addr} {g__law_take g__law_asked g_PriceTable___eq__ g_Sides : FuncData}
    (F : Fd K "_law_refused_right" "_law_refused_right" s__law_refused_right [] f fd) (T : Tx K mg) (hsys : SysOk base)
    (c__law_take : Cf P w K mg base (L2.CX P w) 1 "_law_take" s__law_take [] a__law_take p__law_take f__law_take g__law_take)
    (c__law_asked : Cf P w K mg base (L2.CX P w) 5 "_law_asked" s__law_asked [] a__law_asked (p_asked52 K C_PriceTable C_Sides) f__law_asked g__law_asked)
    (c_PriceTable___eq__ : Mf P w K mg base 9 C_PriceTable "__eq__" "PriceTable.__eq__" s_PriceTable___eq__ [] a_PriceTable___eq__ (p_PT_eq Pl K C_PriceTable) f_PriceTable___eq__ g_PriceTable___eq__)
    (c_Sides : Kf P w K mg base 3 "Sides" C_Sides "Sides.__init__" s_Sides___init__ [] a_Sides___init__ (p_Sides_init K C_Sides C_NoSide) f_Sides g_Sides)
    (k_PriceTable : Kl_PriceTable K mg C_PriceTable)
    (k_Sides : Kl_Sides K mg C_Sides) :
    FnG P w K mg base (L2.CX P w) 10 f fd a__law_refused_right (spOf K (p_refused52 Pl K C_PriceTable)) := by
  refine VS.unbox ?_
  simp (disch := with_unfolding_all
    have kc_PriceTable := k_PriceTable.ins.cl
    have ka_PriceTable_kept := k_PriceTable.a_kept
    have kc_Sides := k_Sides.ins.cl
    have ka_Sides_three := k_Sides.a_three
    have ka_Sides_rows := k_Sides.a_rows
    refine fn_val F sc__law_refused_right (fun ds S G Y h => ?_) (fun cdv A hgd outer s H E hr px tk po ds S G Y h => ?_)
    · obtain ⟨p, n, xs, rfl, _⟩ := h
      rfl
    · obtain ⟨p, n, xs, rfl, w0, hn, gx, q⟩ := h
      refine ⟨_, (pss_cons (ps_set (i := 2) sc__law_refused_right.nd rfl (Or.inl rfl) (pe_lst (pa_cons pe_non (pa_cons pe_bl (pa_cons pe_str (pa_cons (pe_lst (pa_cons pe_int pa_nil)) (pa_cons (pe_tup (pa_cons pe_int (pa_cons pe_int (pa_cons pe_int pa_nil)))) (pa_cons pe_dnewK (pa_cons (pe_op op_pow pe_int pe_int) (pa_cons (pe_un un_neg pe_int) (pa_cons pe_int (pa_cons pe_int pa_nil))))))))))))
        (pss_cons (ps_set (i := 3) sc__law_refused_right.nd rfl (Or.inl rfl) (pe_ifExp (pt_cmpR op_eq (pe_cG c__law_take.fn hgd (hr.mono (by decide)) (by rfl) c__law_take.mg c__law_take.kp c__law_take.b .nil VS.pass0 (pa_cons (pv 0) (pa_cons pe_int pa_nil))) pe_int (nomark _)) (pe_ix ix_list (pe_op op_cat (pv 2) (pe_lst (pa_cons (pv 1) pa_nil))) (pe_cG c__law_take.fn hgd (hr.mono (by decide)) (by rfl) c__law_take.mg c__law_take.kp c__law_take.b .nil VS.pass0 (pa_cons (pv 0) (pa_cons pe_int pa_nil))) (fun _ _ => rfl)) pe_non))
        (pss_cons (ps_set (i := 4) sc__law_refused_right.nd rfl (Or.inl rfl) (pe_ix ix_list (pv 2) (pe_cG c__law_take.fn hgd (hr.mono (by decide)) (by rfl) c__law_take.mg c__law_take.kp c__law_take.b .nil VS.pass0 (pa_cons (pv 0) (pa_cons pe_int pa_nil))) (fun _ _ => rfl)))
        (pss_cons (ps_if (PW.pt (pw_or (pt_cmpR op_notNo (pv 3) pe_non (nomark _)) (pw_or1 (pt_cmpR op_eq (pe_cG c__law_take.fn hgd (hr.mono (by decide)) (by rfl) c__law_take.mg c__law_take.kp c__law_take.b .nil VS.pass0 (pa_cons (pv 0) (pa_cons pe_int pa_nil))) pe_int (nomark _))))) (pss_cons (ps_asg (pe_cG c__law_asked.fn hgd (hr.mono (by decide)) (by rfl) c__law_asked.mg c__law_asked.kp c__law_asked.b .nil VS.pass0 (pa_cons (pv 1) (pa_cons (pv 3) (pa_cons (pv 4) pa_nil)))) (pg_tup (n := 2) rfl (pgs_cons (pg_name (i := 5) sc__law_refused_right.nd rfl (Or.inl rfl)) (pgs_cons (pg_name (i := 6) sc__law_refused_right.nd rfl (Or.inl rfl)) pgs_nil))))
        (pss_cons (ps_if (pt_val (pe_callB c_isiZ (by rfl) T.b_isinstance (by decide +kernel) (pa_cons (pv 3) (pa_cons (pe_gc (v := .ref C_PriceTable) (by rfl) ⟨_, k_PriceTable.at_, rfl⟩) pa_nil)))) (pss_one (ps_ret (pe_and (pe_cmpR op_eq (pv 5) pe_str (nomark _)) (pe_and (pe_callB c_isiZ (by rfl) T.b_isinstance (by decide +kernel) (pa_cons (pv 6) (pa_cons (pe_gc (v := .ref C_PriceTable) (by rfl) ⟨_, k_PriceTable.at_, rfl⟩) pa_nil))) (pe_one (pe_callTy c_boolB (by rfl) T.b_bool (by decide +kernel) (pa_cons (pe_cmpR (op_eqO c_PriceTable___eq__.fn hgd (hr.mono (by decide)) c_PriceTable___eq__.me.at_ c_PriceTable___eq__.me.fn c_PriceTable___eq__.b) (pv 6) (pv 1) (nomark _)) pa_nil)))))))
        pss_nil)
        (pss_one (ps_ret (pe_cmpR op_eq (pe_callB (c_repr hgd hr hsys) (by rfl) T.b_repr (by decide +kernel) (pa_cons (pe_tup (pa_cons (pv 5) (pa_cons (pv 6) pa_nil))) pa_nil)) (pe_callB (c_repr hgd hr hsys) (by rfl) T.b_repr (by decide +kernel) (pa_cons (pe_tup (pa_cons pe_str (pa_cons (pv 3) pa_nil))) pa_nil)) (nomark _))))))
        pss_nil)
        (pss_cons (ps_set (i := 6) sc__law_refused_right.nd rfl (Or.inl rfl) (pe_cG c__law_asked.fn hgd (hr.mono (by decide)) (by rfl) c__law_asked.mg c__law_asked.kp c__law_asked.b .nil VS.pass0 (pa_cons (pv 1) (pa_cons (pe_kG c_Sides.mk_ c_Sides.fn hgd (hr.mono (by decide)) (by rfl) c_Sides.mg  c_Sides.b .nil VS.pass0 (pa_cons pe_int (pa_cons pe_int (pa_cons pe_int pa_nil)))) (pa_cons (pv 4) pa_nil)))))
        (pss_cons (ps_if (pt_val (pe_callB c_isiZ (by rfl) T.b_isinstance (by decide +kernel) (pa_cons (pv 4) (pa_cons (pe_bltn (v := .ty "list") (by rfl) T.b_list (by decide +kernel) rfl) pa_nil)))) (pss_one (ps_expr (pe_bm PySem.F.plainAttrs_list PySem.F.slot_list_append PySem.F.type_list_append mt_append (pv 4) (pa_cons pe_int pa_nil))))
        pss_nil)
        (pss_one (ps_ret (pe_cmpR op_eq (pe_callB (c_repr hgd hr hsys) (by rfl) T.b_repr (by decide +kernel) (pa_cons (pv 6) pa_nil)) (pe_callB (c_repr hgd hr hsys) (by rfl) T.b_repr (by decide +kernel) (pa_cons (pe_tup (pa_cons pe_str (pa_cons (pv 4) pa_nil))) pa_nil)) (nomark _)))))))))), ?_⟩
      (try dsimp only [cxOf, List.map])
      show VX _ _ [_, _, _, _, _, _, _] _ _
      have sz := szl
      have l4 := gx.l4
      have ts : PySem.W.kitOne K (.ref C_PriceTable) (.ref C_Sides) = some false := k_PriceTable.o_Sides _ k_Sides.at_
      have nf : PySem.W.notFirst K C_PriceTable (.ref C_PriceTable) = true := by simp [PySem.W.notFirst]
      walk_at "gr"
      refine ve_lst ?_
      walk_at "gr"
      refine ve_lstc ?_
      walk_at "gr"
      intro l5 hl5
      have w1 := w0.new (d := .lst [.int 5]) hl5
      generalize put S l5 (.lst [.int 5]) = S1 at w1 ⊢
      clear w0 hl5
      walk_at "gr"
      have s0 : ∀ {d : D}, Ok d 200 2 → Sh d 2000 4 := fun h => h.sh.mono (by decide) (by decide)
      have s3 : Sh (.tup [.int 3, .int 4, .int 5]) 2000 4 := (Sh.tup (ShL.cons (ok_int (i := 3) (by decide)).sh (ShL.cons (ok_int (i := 4) (by decide)).sh (ShL.cons (ok_int (i := 5) (by decide)).sh ShL.nil)))).mono (by decide) (by decide)
      have s5 : Sh (.str "5") 2000 4 := (Sh.str (n := 3) (Asc.lit (by decide +kernel))).mono (by decide) (by decide)
      have sb : Sh (.int (10 ^ Int.toNat 29)) 2000 4 := (Sh.int (k := 200) (by decide) (by decide) (by decide)).mono (by decide) (by decide)
      have sd0 : Sh (.dK []) 2000 4 := Sh.dic0.mono (by decide) (by decide)
      have pk : ∀ t : Int, 0 ≤ t → t < 11 → ∃ x, atI ([.non, .bl true, .str "5", .ref l5, .tup [.int 3, .int 4, .int 5], .dK [], .int (10 ^ Int.toNat 29), .int (-1), .int 2000001, .int 5] ++ [tabD C_PriceTable xs] : List D) t = some x ∧ (T9 l5 x ∨ x = tabD C_PriceTable xs) := fun t h0 h1 =>
        pick (fun x => T9 l5 x ∨ x = tabD C_PriceTable xs) h0 h1 (ac (.inl (.inl ⟨rfl, s0 ok_non, rfl⟩)) <| ac (.inl (.inl ⟨rfl, s0 (ok_bl _), rfl⟩)) <| ac (.inl (.inl ⟨rfl, s5, rfl⟩)) <| ac (.inl (.inr rfl)) <| ac (.inl (.inl ⟨rfl, s3, rfl⟩)) <| ac (.inl (.inl ⟨rfl, sd0, rfl⟩)) <| ac (.inl (.inl ⟨rfl, sb, rfl⟩)) <| ac (.inl (.inl ⟨rfl, s0 (ok_int (by decide)), rfl⟩)) <| ac (.inl (.inl ⟨rfl, s0 (ok_int (by decide)), rfl⟩)) <| ac (.inl (.inl ⟨rfl, s0 (ok_int (by decide)), rfl⟩)) <| ac (.inr rfl) an)
      have pk9 : ∀ t : Int, 0 ≤ t → t < 9 → ∃ x, atI ([.non, .bl true, .str "5", .ref l5, .tup [.int 3, .int 4, .int 5], .dK [], .int (10 ^ Int.toNat 29), .int (-1), .int 2000001, .int 5] : List D) t = some x ∧ W9 l5 x := fun t h0 h1 => by
        have : t = 0 ∨ t = 1 ∨ t = 2 ∨ t = 3 ∨ t = 4 ∨ t = 5 ∨ t = 6 ∨ t = 7 ∨ t = 8 := by omega
        rcases this with rfl | rfl | rfl | rfl | rfl | rfl | rfl | rfl | rfl
        · exact ⟨_, rfl, .inl ⟨rfl, s0 ok_non, rfl, rfl⟩⟩
        · exact ⟨_, rfl, .inl ⟨rfl, s0 (ok_bl _), rfl, rfl⟩⟩
        · exact ⟨_, rfl, .inl ⟨rfl, s5, rfl, rfl⟩⟩
        · exact ⟨_, rfl, .inr rfl⟩
        · exact ⟨_, rfl, .inl ⟨rfl, s3, rfl, rfl⟩⟩
        · exact ⟨_, rfl, .inl ⟨rfl, sd0, rfl, rfl⟩⟩
        · exact ⟨_, rfl, .inl ⟨rfl, sb, rfl, by decide⟩⟩
        · exact ⟨_, rfl, .inl ⟨rfl, s0 (ok_int (by decide)), rfl, by decide⟩⟩
        · exact ⟨_, rfl, .inl ⟨rfl, s0 (ok_int (by decide)), rfl, by decide⟩⟩
      have ol : ([.non, .bl true, .str "5", .ref l5, .tup [.int 3, .int 4, .int 5], .dK [], .int (10 ^ Int.toNat 29), .int (-1), .int 2000001, .int 5] : List D).length = 10 := rfl
      generalize ([.non, .bl true, .str "5", .ref l5, .tup [.int 3, .int 4, .int 5], .dK [], .int (10 ^ Int.toNat 29), .int (-1), .int 2000001, .int 5] : List D) = odd at pk pk9 ol ⊢
      clear s3 s5 sb sd0
      intro t1 S2 t10 t11 w2
      clear w1
      walk_at "gr"
      apply joinD (A := fun d S' => (T9 l5 d ∨ d = tabD C_PriceTable xs) ∧ Wd S' p (n + 2) ((l5, .lst [.int 5]) :: L55 Pl))
      · intro R
        refine VS.br (fun e => ?_) (fun e => ?_)
        · walk_at "gr"
          refine ve_lst ?_
          walk_at "gr"
          refine rv_cat .v .v (by rw [ol]; show 10 + 1 ≤ sizeLine; omega) ?_
          walk_at "gr"
          intro t2 S3 t20 t21 w3
          obtain ⟨x, ex, hx⟩ := pk t2 t20 t21
          refine rv_ixL .v ex ?_
          exact R _ _ ⟨hx, w3.mono (by omega)⟩
        · refine ve_non ?_
          exact R .non S2 ⟨.inl (.inl ⟨rfl, s0 ok_non, rfl⟩), w2.mono (by omega)⟩
      clear w2 pk
      rintro sd_ S3 ⟨hsd, w3⟩
      walk_at "gr"
      intro t3 S4 t30 t31 w4
      clear w3
      obtain ⟨wt, ew, hwt⟩ := pk9 t3 t30 t31
      refine rv_ixL .v ew ?_
      clear ew pk9 t30 t31 t10 t11 ol
      have c4 : S4 l5 = some (.lst [.int 5]) := w4.get 0 rfl
      refine vg_name ?_
      have aS : Asc 10 "sides" := Asc.lit (by decide +kernel)
      have aN : Asc 10 "number" := Asc.lit (by decide +kernel)
      refine vx_seq (vx_ifJ (fun _ S5 => Wd S5 p (n + 5) ((l5, .lst [.int 5]) :: L55 Pl)) ?_ (fun S5 w5 => ?_) (fun S5 w5 => ?_))
      · walk_at "gr"
        refine ⟨fun _ => w4.mono (by omega), fun _ => ?_⟩
        walk_at "gr"
        intro t5 S5 t50 t51 w5
        walk_at "gr"
        exact w5.mono (by omega)
      · clear w4 c4
        have c5 : S5 l5 = some (.lst [.int 5]) := w5.get 0 rfl
        have wq : Wd S5 p (n + 10) (L55 Pl) := w5.tl.mono (by omega)
        have da5 : Da S5 (.ref l5) (.lst [.int 5]) := .c c5 rfl
        rcases hsd with (⟨hp, hs, nl⟩ | rfl) | rfl
        · walk_at "gr"
          refine ⟨xs, _, _, rfl, by omega, .inl ⟨_, (Da.v (S := S5) hp).of, k_Sides.no hp, ?_⟩⟩
          walk_at "gr"
          refine rc_isiO (Da.v (S := S5) hp).of (k_PriceTable.no hp) ?_
          walk_at "gr"
          refine rc_reprS .v (two_sh aS (by decide) hs) (by decide) (by decide) ?_
          walk_at "gr"
          refine rc_reprS .v (two_sh aS (by decide) hs) (by decide) (by decide) ?_
          refine rv_eqSame ?_
          exact q _ wq
        · have h5 : Sh (.lst [.int 5]) 2000 4 := shI (xs := [5]) (.inl rfl)
          walk_at "gr"
          refine ⟨xs, _, _, rfl, by omega, .inl ⟨_, da5.of, k_Sides.no rfl, ?_⟩⟩
          walk_at "gr"
          refine rc_isiO da5.of (k_PriceTable.no rfl) ?_
          walk_at "gr"
          refine rc_reprV (.tup (.cons .v (.cons (.c c5 nofun .v) .nil))) (two_sh aS (by decide) h5) (by decide) (by decide) ?_
          walk_at "gr"
          refine rc_reprV (.tup (.cons .v (.cons (.c c5 nofun .v) .nil))) (two_sh aS (by decide) h5) (by decide) (by decide) ?_
          refine rv_eqSame ?_
          exact q _ wq
        · walk_at "gr"
          refine ⟨xs, _, _, rfl, by omega, .inl ⟨_, .i .v k_PriceTable.ins, ts, ?_⟩⟩
          walk_at "gr"
          refine rc_isiO (.i .v k_PriceTable.ins) k_PriceTable.ins.me ?_
          walk_at "gr"
          refine rc_isiO (.i .v k_PriceTable.ins) k_PriceTable.ins.me ?_
          walk_at "gr"
          refine rv_eqO .v (.i .v k_PriceTable.ins) nf ⟨xs, _, rfl, w5.get 1 rfl, by omega, .inl ⟨xs, rfl, by omega, fun lo mi sh we S6 cd x6 => ⟨_, rfl, ?_⟩⟩⟩
          rw [least_can cd (gx.app gx) (unl_by xs xs), unl_self, grid_none]
          walk_at "gr"
          refine rc_boolB ?_
          exact q _ (wq.ext x6)
      · clear w4 c4
        have c5 : S5 l5 = some (.lst [.int 5]) := w5.get 0 rfl
        have wq : Wd S5 p (n + 10) (L55 Pl) := w5.tl.mono (by omega)
        have i1 : In1 1 := ⟨by decide, by decide⟩
        walk_at "gr"
        intro y hy
        refine init_ok i1 i1 i1 hy ⟨rfl, y, _, rfl, put_same, nofun, ?_⟩
        rw [del_put2 hy]
        clear hy
        walk_at "gr"
        rcases hwt with ⟨hp, hs, nl, nw⟩ | rfl
        · refine ⟨xs, _, _, rfl, by omega, .inr (.inl ⟨1, 1, 1, _, rfl, (Da.v (S := S5) hp).wh, nw, ?_⟩)⟩
          walk_at "gr"
          refine rc_isiD (.v hp) (isK_list hp) ?_
          rw [nl]
          walk_at "gr"
          refine rc_reprS .v (two_sh aN (by decide) hs) (by decide) (by decide) ?_
          walk_at "gr"
          refine rc_reprS .v (two_sh aN (by decide) hs) (by decide) (by decide) ?_
          refine rv_eqSame ?_
          exact q _ wq
        · have h6 : Sh (.lst [.int 5, .int 6]) 2000 4 := shI (xs := [5, 6]) (.inr rfl)
          refine ⟨xs, _, _, rfl, by omega, .inr (.inl ⟨1, 1, 1, _, rfl, (Da.c (S := S5) c5 rfl).wh, rfl, ?_⟩)⟩
          walk_at "gr"
          refine rc_isi (.cl c5) rfl ?_
          walk_at "gr"
          refine rm_append c5 (by show 1 + 1 ≤ sizeLine; omega) ?_
          have w6 := w5.wr (d' := .lst ([.int 5] ++ [.int 6])) 0 rfl
          generalize VS.put S5 l5 _ = S6 at w6 ⊢
          have c6 : S6 l5 = some (.lst [.int 5, .int 6]) := w6.get 0 rfl
          walk_at "gr"
          refine rc_reprV (.tup (.cons .v (.cons (.c c6 nofun .v) .nil))) (two_sh aN (by decide) h6) (by decide) (by decide) ?_
          walk_at "gr"
          refine rc_reprV (.tup (.cons .v (.cons (.c c6 nofun .v) .nil))) (two_sh aN (by decide) h6) (by decide) (by decide) ?_
          refine rv_eqSame ?_
          exact q _ (w6.tl.mono (by omega))) only [↓VS.box]
end
end LW
namespace LW
open PySem L2 C8 PySem.Spec PyProof.Rows VS
def p_law (Pl : Addr) : Pt := fun ds S G _ => ∃ ns : List Int, ds = [.rol (ns.map .int)] ∧ ns.length ≤ 63 ∧ S Pl = some (.str "parts_at.<locals>.unlike") ∧ ∀ S', G (.bl true) S'
theorem atI_end {xs : List D} (h : 0 < xs.length) : ∃ x, x ∈ xs ∧ atI xs (-1) = some x := by
  have ne : xs ≠ [] := fun z => by rw [z] at h; cases h
  refine ⟨xs.getLast ne, List.getLast_mem ne, ?_⟩
  have e := L2.atI_last xs.dropLast (xs.getLast ne)
  rw [List.dropLast_concat_getLast ne] at e
  exact e
theorem stop1_in : ∀ {ws : List Str} {ls : List (Option Int)} {ns : List Int} {w : Str} {k : Int}, stop1 ws ls ns = some (w, k) → w ∈ ws ∧ ∃ l n, some l ∈ ls ∧ n ∈ ns ∧ k = n - l
  | [], _, _, _, _, h => by cases h
  | _ :: _, [], _, _, _, h => by cases h
  | _ :: _, _ :: _, [], _, _, h => by cases h
  | w0 :: ws, o :: ls, n :: ns, w, k, h => by
    have rec_ : stop1 ws ls ns = some (w, k) → w ∈ w0 :: ws ∧ ∃ l m, some l ∈ o :: ls ∧ m ∈ n :: ns ∧ k = m - l := fun h => by
      obtain ⟨h1, l, m, h2, h3, h4⟩ := stop1_in h
      exact ⟨List.mem_cons_of_mem _ h1, l, m, List.mem_cons_of_mem _ h2, List.mem_cons_of_mem _ h3, h4⟩
    unfold stop1 at h
    cases o with
    | none => exact rec_ h
    | some l =>
      dsimp only at h
      split at h
      · cases h
        exact ⟨List.mem_cons_self, l, n, List.mem_cons_self, List.mem_cons_self, rfl⟩
      · exact rec_ h
theorem pas_sh {r : RwP} (h : BdW r) {x y z t : Int} (hb : ∀ n ∈ [x, y, z, t], 0 ≤ n ∧ n ≤ 2000000) : Sh (pasD (pasP r [x, y, z, t])) 400 3 := by
  cases e : pasP r [x, y, z, t] with
  | none => exact Sh.non.mono (by decide) (by decide)
  | some v =>
    obtain ⟨w, k⟩ := v
    obtain ⟨hw, l, n, hl, hn, rfl⟩ := stop1_in (show stop1 wds4 [r.a, r.b, r.c, r.w] [x, y, z, t] = some (w, k) from e)
    have bn := hb n hn
    have bl : 0 ≤ l ∧ l ≤ 2000000 := by
      simp only [List.mem_cons, List.not_mem_nil, or_false] at hl
      rcases hl with q | q | q | q
      · have := h.a l q.symm; omega
      · have := h.b l q.symm; omega
      · have := h.c l q.symm; omega
      · have := h.w l q.symm; omega
    have aw : Asc 10 w := by
      simp only [wds4, List.mem_cons, List.not_mem_nil, or_false] at hw
      rcases hw with rfl | rfl | rfl | rfl <;> exact Asc.lit (by decide +kernel)
    exact (Sh.tup (ShL.cons (Sh.str aw) (ShL.cons (ok_int (i := n - l) (by omega)).sh ShL.nil))).mono (by decide) (by decide)
theorem rsn_shL {pl : List Int} : ∀ {rs : List RwP}, (∀ r ∈ rs, Sh (pasD (pasP r pl)) 400 3) → ShL (rsnL rs pl) (402 * rs.length) 3
  | [], _ => ShL.nil.mono (by decide) (by decide)
  | r :: rs, h => (ShL.cons (h r List.mem_cons_self) (rsn_shL fun x hx => h x (List.mem_cons_of_mem _ hx))).mono (by rw [List.length_cons]; omega) (by decide)
theorem rsn_sh {rs : List RwP} {x y z t : Int} (g : ∀ r ∈ rs, BdW r) (l4 : rs.length ≤ 4) (hb : ∀ n ∈ [x, y, z, t], 0 ≤ n ∧ n ≤ 2000000) : Sh (.lst (rsnL rs [x, y, z, t])) 2000 4 :=
  (Sh.lst (rsn_shL fun r hr => pas_sh (g r hr) hb)).mono (by omega) (by decide)
def keptD : D → D
  | .ins _ [(_, v)] => v
  | d => d
section
variable {P : Program} {w : World} {K : PySem.W.Frag} {mg : Str → Option Value} {base : Heap}
theorem ok_law {f : Addr} {fd : FuncData} {C_PriceTable C_Sides C_NoRows C_NoSide C_NoSides C_NoNumber C_NoRow Pl : Addr} {f__law_cell f__law_purse f__law_take f__law_rows f__law_refused_right f__law_place f__law_asked f__law_due f_Sides f_Sides_told f_PriceTable f_PriceTable_rows : Addr} {g__law_cell g__law_purse g__law_take g__law_rows g__law_refused_right g__law_place g__law_asked g__law_due g_Sides g_Sides_told g_PriceTable g_PriceTable_rows : FuncData}
    (F : Fd K "law" "law" s_law [] f fd) (T : Tx K mg) (hsys : SysOk base)
    (c__law_cell : Cf P w K mg base (L2.CX P w) 1 "_law_cell" s__law_cell [] a__law_cell p__law_cell f__law_cell g__law_cell)
    (c__law_purse : Cf P w K mg base (L2.CX P w) 1 "_law_purse" s__law_purse [] a__law_purse p__law_purse f__law_purse g__law_purse)
    (c__law_take : Cf P w K mg base (L2.CX P w) 1 "_law_take" s__law_take [] a__law_take p__law_take f__law_take g__law_take)
    (c__law_rows : Cf P w K mg base (L2.CX P w) 3 "_law_rows" s__law_rows [] a__law_rows p__law_rows f__law_rows g__law_rows)
    (c__law_refused_right : Cf P w K mg base (L2.CX P w) 10 "_law_refused_right" s__law_refused_right [] a__law_refused_right (p_refused52 Pl K C_PriceTable) f__law_refused_right g__law_refused_right)
    (c__law_place : Cf P w K mg base (L2.CX P w) 2 "_law_place" s__law_place [] a__law_place p__law_place f__law_place g__law_place)
    (c__law_asked : Cf P w K mg base (L2.CX P w) 5 "_law_asked" s__law_asked [] a__law_asked (p_asked52 K C_PriceTable C_Sides) f__law_asked g__law_asked)
    (c__law_due : Cf P w K mg base (L2.CX P w) 1 "_law_due" s__law_due [] a__law_due p__law_due f__law_due g__law_due)
    (c_Sides : Kf P w K mg base 3 "Sides" C_Sides "Sides.__init__" s_Sides___init__ [] a_Sides___init__ (p_Sides_init K C_Sides C_NoSide) f_Sides g_Sides)
    (c_Sides_told : Mf P w K mg base 1 C_Sides "told" "Sides.told" s_Sides_told [] a_Sides_told (p_told C_Sides) f_Sides_told g_Sides_told)
    (c_PriceTable : Kf P w K mg base 4 "PriceTable" C_PriceTable "PriceTable.__init__" s_PriceTable___init__ [] a_PriceTable___init__ (p_PT_init C_PriceTable C_NoRows) f_PriceTable g_PriceTable)
    (c_PriceTable_rows : Mf P w K mg base 1 C_PriceTable "rows" "PriceTable.rows" s_PriceTable_rows [] a_PriceTable_rows (p_PT_rowsV C_PriceTable) f_PriceTable_rows g_PriceTable_rows)
    (k_PriceTable : Kl_PriceTable K mg C_PriceTable)
    (k_Sides : Kl_Sides K mg C_Sides) :
    FnG P w K mg base (L2.CX P w) 12 f fd a_law (spOf K (p_law Pl)) := by
  refine VS.unbox ?_
  simp (disch := with_unfolding_all
    have kc_PriceTable := k_PriceTable.ins.cl
    have ka_PriceTable_kept := k_PriceTable.a_kept
    have kc_Sides := k_Sides.ins.cl
    have ka_Sides_three := k_Sides.a_three
    have ka_Sides_rows := k_Sides.a_rows
    refine fn_val F sc_law (fun ds S G Y h => ?_) (fun cdv A hgd outer s H E hr px tk po ds S G Y h => ?_)
    · obtain ⟨ns, rfl, _⟩ := h
      rfl
    · obtain ⟨ns, rfl, hl, hP, q⟩ := h
      refine ⟨_, (pss_cons (ps_for po rfl (pi_range1 (by rfl) T.b_range (pa_cons (pe_callB (c_max2 rfl) (by rfl) T.b_max (by decide +kernel) (pa_cons pe_int (pa_cons (pe_callB (c_min2 rfl) (by rfl) T.b_min (by decide +kernel) (pa_cons pe_int (pa_cons (pe_callB c_len (by rfl) T.b_len (by decide +kernel) (pa_cons (pv 0) pa_nil)) pa_nil))) pa_nil))) pa_nil)) (pg_name (i := 1) sc_law.nd rfl (Or.inl rfl))
        (pss_cons (ps_set (i := 2) sc_law.nd rfl (Or.inr rfl) (pe_cG c__law_purse.fn hgd (hr.mono (by decide)) (by rfl) c__law_purse.mg c__law_purse.kp c__law_purse.b .nil VS.pass0 (pa_cons (pe_cG c__law_cell.fn hgd (hr.mono (by decide)) (by rfl) c__law_cell.mg c__law_cell.kp c__law_cell.b .nil VS.pass0 (pa_cons (pv 0) (pa_cons (pv 1) pa_nil))) pa_nil)))
        (pss_cons (ps_setLc (i := 3) (own := [("_law_turn", 5)]) rfl sc_law.nd rfl rfl (sw_true rfl rfl rfl (by decide +kernel)) (pi_range1 (by rfl) T.b_range (pa_cons pe_int pa_nil)) (blkOk_by (own := [("_law_turn", 5)]) (N := n_law) (sc := defScope s_law) (by decide +kernel)) (fun _ _ _ _ _ => (pg_name (i := 5) sc_law.nd rfl (Or.inl rfl))) (fun _ _ _ _ _ => pts_nil) (fun _ _ _ _ _ => (pe_cG c__law_rows.fn hgd (hr.mono (by decide)) (by rfl) c__law_rows.mg c__law_rows.kp c__law_rows.b .nil VS.pass0 (pa_cons (pv 2) (pa_cons (pe_op op_add pe_int (pe_cG c__law_take.fn hgd (hr.mono (by decide)) (by rfl) c__law_take.mg c__law_take.kp c__law_take.b .nil VS.pass0 (pa_cons (pv 2) (pa_cons pe_int pa_nil)))) (pa_cons (pe_cmpR op_eq (pe_cG c__law_take.fn hgd (hr.mono (by decide)) (by rfl) c__law_take.mg c__law_take.kp c__law_take.b .nil VS.pass0 (pa_cons (pv 2) (pa_cons pe_int pa_nil))) pe_int (nomark _)) pa_nil))))))
        (pss_cons (ps_set (i := 4) sc_law.nd rfl (Or.inl rfl) (pe_lst (pa_cons (pe_kG c_PriceTable.mk_ c_PriceTable.fn hgd (hr.mono (by decide)) (by rfl) c_PriceTable.mg  c_PriceTable.b .nil VS.pass0 (pa_cons (pe_ix ix_list (pv 3) pe_int (fun _ _ => rfl)) pa_nil)) (pa_cons (pe_kG c_PriceTable.mk_ c_PriceTable.fn hgd (hr.mono (by decide)) (by rfl) c_PriceTable.mg  c_PriceTable.b .nil VS.pass0 (pa_cons (pe_ix ix_list (pv 3) pe_int (fun _ _ => rfl)) pa_nil)) pa_nil))))
        (pss_cons (ps_for po rfl (pi_range1 (by rfl) T.b_range (pa_cons pe_int pa_nil)) (pg_name (i := 5) sc_law.nd rfl (Or.inl rfl))
        (pss_cons (ps_if (PW.pt (pw_and (pt_cmpR op_lt (pv 5) pe_int (nomark _)) (pw_and1 (pt_not (pt_val (pe_cG c__law_refused_right.fn hgd (hr.mono (by decide)) (by rfl) c__law_refused_right.mg c__law_refused_right.kp c__law_refused_right.b .nil VS.pass0 (pa_cons (pv 2) (pa_cons (pe_ix ix_list (pv 4) (pe_op op_mod (pv 5) pe_int) (fun _ _ => rfl)) pa_nil)))))))) (pss_one (ps_ret pe_bl))
        pss_nil)
        (pss_cons (ps_asg (pe_cG c__law_place.fn hgd (hr.mono (by decide)) (by rfl) c__law_place.mg c__law_place.kp c__law_place.b .nil VS.pass0 (pa_cons (pv 2) (pa_cons (pe_ix ix_list (pv 3) (pe_op op_mod (pv 5) pe_int) (fun _ _ => rfl)) pa_nil))) (pg_tup (n := 2) rfl (pgs_cons (pg_name (i := 6) sc_law.nd rfl (Or.inl rfl)) (pgs_cons (pg_name (i := 7) sc_law.nd rfl (Or.inl rfl)) pgs_nil))))
        (pss_cons (ps_set (i := 8) sc_law.nd rfl (Or.inl rfl) (pe_kG c_Sides.mk_ c_Sides.fn hgd (hr.mono (by decide)) (by rfl) c_Sides.mg  c_Sides.b .nil VS.pass0 (pa_cons (pe_ix ix_list (pv 6) pe_int (fun _ _ => rfl)) (pa_cons (pe_ix ix_list (pv 6) pe_int (fun _ _ => rfl)) (pa_cons (pe_ix ix_list (pv 6) pe_int (fun _ _ => rfl)) pa_nil)))))
        (pss_cons (ps_set (i := 9) sc_law.nd rfl (Or.inl rfl) (pe_lst (pa_cons (pv 7) (pa_cons (pe_ix ix_tup (pe_cG c__law_place.fn hgd (hr.mono (by decide)) (by rfl) c__law_place.mg c__law_place.kp c__law_place.b .nil VS.pass0 (pa_cons (pv 2) (pa_cons (pe_ix ix_list (pv 3) pe_int (fun _ _ => rfl)) pa_nil))) pe_int (fun _ _ => rfl)) (pa_cons (pv 7) pa_nil)))))
        (pss_cons (ps_for po rfl (pi_list (pv 9)) (pg_name (i := 7) sc_law.nd rfl (Or.inl rfl))
        (pss_one (ps_for po rfl (pi_zip (by rfl) T.b_zip (pa_cons (pv 3) (pa_cons (pv 4) pa_nil))) (pg_tup (n := 2) rfl (pgs_cons (pg_name (i := 10) sc_law.nd rfl (Or.inl rfl)) (pgs_cons (pg_name (i := 11) sc_law.nd rfl (Or.inl rfl)) pgs_nil)))
        (pss_cons (ps_asg (pe_cG c__law_asked.fn hgd (hr.mono (by decide)) (by rfl) c__law_asked.mg c__law_asked.kp c__law_asked.b .nil VS.pass0 (pa_cons (pv 11) (pa_cons (pv 8) (pa_cons (pv 7) pa_nil)))) (pg_tup (n := 2) rfl (pgs_cons (pg_name (i := 12) sc_law.nd rfl (Or.inl rfl)) (pgs_cons (pg_name (i := 13) sc_law.nd rfl (Or.inl rfl)) pgs_nil))))
        (pss_cons (ps_if (pt_cmpR op_ne (pe_callB (c_repr hgd hr hsys) (by rfl) T.b_repr (by decide +kernel) (pa_cons (pe_tup (pa_cons (pv 12) (pa_cons (pv 13) pa_nil))) pa_nil)) (pe_callB (c_repr hgd hr hsys) (by rfl) T.b_repr (by decide +kernel) (pa_cons (pe_cG c__law_due.fn hgd (hr.mono (by decide)) (by rfl) c__law_due.mg c__law_due.kp c__law_due.b .nil VS.pass0 (pa_cons (pv 10) (pa_cons (pv 6) (pa_cons (pv 7) pa_nil)))) pa_nil)) (nomark _)) (pss_one (ps_ret pe_bl))
        pss_nil)
        (pss_one (ps_expr (pe_bm PySem.F.plainAttrs_list PySem.F.slot_list_append PySem.F.type_list_append mt_append (pe_ix ix_list (pe_lst (pa_cons (pv 13) (pa_cons (pe_ix (ix_or ix_list ix_tup) (pv 13) (pe_un un_neg pe_int) (fun _ _ => rfl)) pa_nil))) (pe_callTy c_int1 (by rfl) T.b_int (by decide +kernel) (pa_cons (pe_cmpR op_eq (pv 12) pe_str (nomark _)) pa_nil)) (fun _ _ => rfl)) (pa_cons (pe_tup (pa_cons pe_str (pa_cons pe_int pa_nil))) pa_nil)))))))))
        (pss_one (ps_if (PW.pt (pw_or (pt_cmpR (op_neP hr hsys) (pe_callTy c_list (by rfl) T.b_list (by decide +kernel) (pa_cons (pe_mG0 (pv 8) c_Sides_told.cl c_Sides_told.me c_Sides_told.fn hgd (hr.mono (by decide)) c_Sides_told.b .nil VS.pass0) pa_nil)) (pe_callTy c_list (by rfl) T.b_list (by decide +kernel) (pa_cons (pv 6) pa_nil)) (nomark _)) (pw_or1 (pt_cmpR op_ne (pe_callB (c_repr hgd hr hsys) (by rfl) T.b_repr (by decide +kernel) (pa_cons (pe_lc (own := [("_law_table", 11)]) rfl sc_law.nd (pi_list (pv 4)) (blkOk_by (own := [("_law_table", 11)]) (N := n_law) (sc := defScope s_law) (by decide +kernel)) (fun _ _ _ _ _ => (pg_name (i := 11) sc_law.nd rfl (Or.inl rfl))) (fun _ _ _ _ _ => pts_nil) (fun _ _ _ _ _ => (pe_mG0 (pv 11) c_PriceTable_rows.cl c_PriceTable_rows.me c_PriceTable_rows.fn hgd (hr.mono (by decide)) c_PriceTable_rows.b .nil VS.pass0))) pa_nil)) (pe_callB (c_repr hgd hr hsys) (by rfl) T.b_repr (by decide +kernel) (pa_cons (pv 3) pa_nil)) (nomark _))))) (pss_one (ps_ret pe_bl))
        pss_nil))))))))
        (pss_one (ps_if (pt_not (pt_val (pe_cG c__law_refused_right.fn hgd (hr.mono (by decide)) (by rfl) c__law_refused_right.mg c__law_refused_right.kp c__law_refused_right.b .nil VS.pass0 (pa_cons (pv 2) (pa_cons (pe_ix ix_list (pv 4) pe_int (fun _ _ => rfl)) pa_nil))))) (pss_one (ps_ret pe_bl))
        pss_nil)))))))
        (pss_one (ps_ret pe_bl))), ?_⟩
      (try dsimp only [cxOf, List.map])
      show VX _ _ [_, _, _, _, _, _, _, _, _, _, _, _, _, _] _ _
      have sz := szl
      walk_at "go"
      refine vx_for (vi_cells (by decide) (by decide) (by decide) rfl fun j j0 j1 => ?_)
      refine ⟨fun i ρ2 S2 => S2 Pl = some (.str "parts_at.<locals>.unlike") ∧ ∃ x1 x2 x3 x4 x5 x6 x7 x8 x9 x10 x11 x12 x13, ρ2 = [some (.rol (ns.map .int)), x1, x2, x3, x4, x5, x6, x7, x8, x9, x10, x11, x12, x13], ⟨hP, _, _, _, _, _, _, _, _, _, _, _, _, _, rfl⟩, ?_, ?_⟩
      · clear hP
        rintro i0 d _ S2 hd ⟨hP, x1, x2, x3, x4, x5, x6, x7, x8, x9, x10, x11, x12, x13, rfl⟩
        obtain ⟨rfl, hi⟩ := rngD_at hd
        walk_at "gr"
        intro p S3 hp h3 o3
        have nd : p ≠ Pl := fun e => by rw [e] at hp; exact absurd (hP.symm.trans hp) nofun
        have w3 : Wd S3 p 0 (L55 Pl) := ⟨h3, fun x hx => (by rw [List.mem_singleton.mp hx]; exact (o3 Pl (Ne.symm nd)).trans hP), fun x hx => (by rw [List.mem_singleton.mp hx]; exact Ne.symm nd), List.nodup_cons.mpr ⟨nofun, .nil⟩⟩
        clear h3 o3 hp hP nd
        walk_at "gr"
        refine ve_lcJ (fun d => ∃ xs : List RwP, d = .lst (xs.map rwpD) ∧ Rg xs) (fun i S4 => Wd S4 p (150 * (i : Nat)) (L55 Pl)) (vi_rng1 ?_)
        walk_at "gr"
        refine ⟨2, rfl, by decide, by rw [rngD_len]; decide, w3.mono (by omega), ?_, ?_⟩
        · clear w3
          rintro i d S4 hd w4
          have hi2 : i < 2 := by
            have := (List.getElem?_eq_some_iff.mp hd).1
            rw [rngD_len] at this
            exact this
          walk_at "gr"
          refine ⟨rfl, ?_⟩
          refine ve_freeze ?_
          walk_at "gr"
          intro t S5 t0 t1 w5
          walk_at "gr"
          intro t2 S6 t20 t21 w6
          walk_at "gr"
          refine ⟨p, _, 1 + t, decide (t2 = 0), rfl, w6.pu, by omega, by omega, by omega, fun rs l S7 hl hx hlen c7 p7 o7 => ⟨l, _, rfl, c7, nofun, ⟨rs, rfl, by omega, by omega, fun r hr => (hx r hr).wide (by decide)⟩, ?_⟩⟩
          have w7 := (w6.new1 hl p7 o7 c7).mono (m := 150 * ((i + 1 : Nat) : Int)) (by omega)
          exact w7.dl 0 rfl
        clear w3
        rintro acc S4 hal hac w4
        rw [rngD_len] at hal w4
        obtain ⟨A, B, rfl⟩ : ∃ A B, acc = [A, B] := by
          have hal : acc.length = 2 := hal
          match acc, hal with
          | [A, B], _ => exact ⟨A, B, rfl⟩
        obtain ⟨xs, rfl, gx⟩ := hac A (by simp)
        obtain ⟨ys, rfl, gy⟩ := hac B (by simp)
        have w4 : Wd S4 p 300 (L55 Pl) := w4
        clear hac hal
        walk_at "gr"
        refine ve_lst ?_
        walk_at "gr"
        intro y hy
        refine gx.mk_ (.inl rfl) ⟨rfl, y, _, rfl, put_same, nofun, ?_⟩
        rw [del_put2 hy]
        clear hy
        walk_at "gr"
        intro y hy
        refine gy.mk_ (.inl rfl) ⟨rfl, y, _, rfl, put_same, nofun, ?_⟩
        rw [del_put2 hy]
        clear hy
        walk_at "gr"
        refine vx_for (vi_rng1 ?_)
        walk_at "gr"
        refine ⟨6, rfl, by decide, fun i ρ2 S5 => Wd S5 p (300 + 100 * (i : Nat)) (L55 Pl) ∧ ∃ y5 y6 y7 y8 y9 y10 y11 y12 y13, ρ2 = [some (.rol (ns.map .int)), some (.int (i0 : Nat)), some (.ref p), some (.lst [.lst (xs.map rwpD), .lst (ys.map rwpD)]), some (.lst [tabD C_PriceTable xs, tabD C_PriceTable ys]), y5, y6, y7, y8, y9, y10, y11, y12, y13], ⟨w4.mono (by omega), _, _, _, _, _, _, _, _, _, rfl⟩, ?_, ?_⟩
        · clear w4
          rintro i d _ S5 hd ⟨w5, y5, y6, y7, y8, y9, y10, y11, y12, y13, rfl⟩
          obtain ⟨rfl, hi6⟩ := rngD_at hd
          obtain ⟨zs, gz, ez1, ez2⟩ : ∃ zs : List RwP, Rg zs ∧ atI ([.lst (xs.map rwpD), .lst (ys.map rwpD)] : List D) (((i : Nat) : Int) % 2) = some (.lst (zs.map rwpD)) ∧ atI ([tabD C_PriceTable xs, tabD C_PriceTable ys] : List D) (((i : Nat) : Int) % 2) = some (tabD C_PriceTable zs) := by
            have : ((i : Nat) : Int) % 2 = 0 ∨ ((i : Nat) : Int) % 2 = 1 := by omega
            rcases this with e | e
            · rw [e]; exact ⟨xs, gx, rfl, rfl⟩
            · rw [e]; exact ⟨ys, gy, rfl, rfl⟩
          refine vg_name ?_
          refine vx_join (fun ρ2 S6 => Wd S6 p (300 + 100 * (i : Nat) + 10) (L55 Pl) ∧ ρ2 = [some (.rol (ns.map .int)), some (.int (i0 : Nat)), some (.ref p), some (.lst [.lst (xs.map rwpD), .lst (ys.map rwpD)]), some (.lst [tabD C_PriceTable xs, tabD C_PriceTable ys]), some (.int (i : Nat)), y6, y7, y8, y9, y10, y11, y12, y13]) ?_ ?_
          · walk_at "gr"
            refine VS.br (fun e => ?_) (fun e => ?_)
            · walk_at "gr"
              refine rv_ixL .v ez2 ?_
              walk_at "gr"
              refine ⟨p, _, zs, rfl, w5, by omega, gz, fun S6 w6 => ?_⟩
              walk_at "gr"
              exact ⟨w6.mono (by omega), rfl⟩
            · walk_at "gr"
              exact ⟨w5.mono (by omega), rfl⟩
          clear w5
          rintro _ S6 ⟨w6, rfl⟩
          walk_at "gr"
          refine rv_ixL .v ez1 ?_
          walk_at "gr"
          refine ⟨p, _, zs, _, rfl, w6, by omega, gz.l1, by have := gz.l4; omega, gz.b, fun a b c t S7 ha hb hc t0 t1 w7 => ?_⟩
          clear w6
          walk_at "gr"
          intro y hy
          refine init_ok ha hb hc hy ⟨rfl, y, _, rfl, put_same, nofun, ?_⟩
          rw [del_put2 hy]
          clear hy
          walk_at "gr"
          refine ve_lst ?_
          walk_at "gr"
          refine ⟨p, _, xs, _, rfl, w7, by omega, gx.l1, by have := gx.l4; omega, gx.b, fun a2 b2 c2 t2 S8 _ _ _ t20 t21 w8 => ?_⟩
          clear w7
          walk_at "gr"
          obtain ⟨x, y, z, hdn⟩ : ∃ x y z, dn [a, b, c] = [x, y, z] := list3 (dn_len _)
          have in3 : In1 x ∧ In1 y ∧ In1 z := by
            have pm : (dn [a, b, c]).Perm [a, b, c] := (List.reverse_perm _).trans (up_perm _)
            rw [hdn] at pm
            have mem : ∀ u ∈ [x, y, z], In1 u := fun u hu => by
              have := pm.mem_iff.mp hu
              simp only [List.mem_cons, List.not_mem_nil, or_false] at this
              rcases this with rfl | rfl | rfl <;> assumption
            exact ⟨mem x (by simp), mem y (by simp), mem z (by simp)⟩
          refine vx_for (vi_list ?_)
          walk_at "gr"
          refine ⟨_, .v, fun i2 ρ2 S9 => Wd S9 p (300 + 100 * (i : Nat) + 80) (L55 Pl) ∧ ∃ z7 z10 z11 z12 z13, ρ2 = [some (.rol (ns.map .int)), some (.int (i0 : Nat)), some (.ref p), some (.lst [.lst (xs.map rwpD), .lst (ys.map rwpD)]), some (.lst [tabD C_PriceTable xs, tabD C_PriceTable ys]), some (.int (i : Nat)), some (.lst [.int a, .int b, .int c]), z7, some (sd C_Sides a b c), some (.lst [.int t, .int t2, .int t]), z10, z11, z12, z13], ⟨w8.mono (by omega), _, _, _, _, _, rfl⟩, ?_, ?_⟩
          · clear w8
            rintro i2 d _ S9 hd2 ⟨w9, z7, z10, z11, z12, z13, rfl⟩
            obtain ⟨u, rfl, u0, u1⟩ : ∃ u : Int, d = .int u ∧ 0 ≤ u ∧ u ≤ 2000000 := by
              have := List.mem_of_getElem? hd2
              simp only [List.mem_cons, List.not_mem_nil, or_false] at this
              rcases this with rfl | rfl | rfl
              · exact ⟨t, rfl, t0, t1⟩
              · exact ⟨t2, rfl, t20, t21⟩
              · exact ⟨t, rfl, t0, t1⟩
            clear hd2
            have nb : ∀ n ∈ [x, y, z, u], 0 ≤ n ∧ n ≤ 2000000 := fun n hn => by
              obtain ⟨⟨_, _⟩, ⟨_, _⟩, ⟨_, _⟩⟩ := in3
              simp only [List.mem_cons, List.not_mem_nil, or_false] at hn
              rcases hn with rfl | rfl | rfl | rfl <;> omega
            walk_at "gr"
            refine vx_for (vi_zip ?_)
            walk_at "gr"
            refine ⟨_, _, _, _, rfl, .v, .v, fun i3 ρ2 S10 => Wd S10 p (300 + 100 * (i : Nat) + 80) (L55 Pl) ∧ ∃ z10 z11 z12 z13, ρ2 = [some (.rol (ns.map .int)), some (.int (i0 : Nat)), some (.ref p), some (.lst [.lst (xs.map rwpD), .lst (ys.map rwpD)]), some (.lst [tabD C_PriceTable xs, tabD C_PriceTable ys]), some (.int (i : Nat)), some (.lst [.int a, .int b, .int c]), some (.int u), some (sd C_Sides a b c), some (.lst [.int t, .int t2, .int t]), z10, z11, z12, z13], ⟨w9, _, _, _, _, rfl⟩, ?_, ?_⟩
            · clear w9
              rintro i3 d _ S10 hd3 ⟨w10, z10, z11, z12, z13, rfl⟩
              obtain ⟨vs, rfl, gv⟩ : ∃ vs : List RwP, d = .tup [.lst (vs.map rwpD), tabD C_PriceTable vs] ∧ Rg vs := by
                match i3, hd3 with
                | 0, h => cases h; exact ⟨xs, rfl, gx⟩
                | 1, h => cases h; exact ⟨ys, rfl, gy⟩
              clear hd3
              have gl := gv.l4
              have gl1 := gv.l1
              have sR : Sh (.lst (rsnL vs [x, y, z, u])) 2000 4 := rsn_sh gv.b gl nb
              have aT : Asc 10 "told" := Asc.lit (by decide +kernel)
              have aR : Asc 10 "row" := Asc.lit (by decide +kernel)
              walk_at "gr"
              refine ⟨vs, _, _, rfl, by omega, .inr (.inr ⟨a, b, c, x, y, z, u, rfl, hdn, rfl, u0, u1, fun l S11 hl x11 => ⟨fun i4 hf c11 => ?_, fun hf c11 => ?_⟩⟩)⟩
              · have w11 := w10.newE hl x11 c11
                clear w10 hl x11
                have s4 : Sh (.lst (rsnL (vs.take i4) [x, y, z, u])) 2000 4 := rsn_sh (fun r hr => gv.b r (List.mem_of_mem_take hr)) (by rw [List.length_take]; omega) nb
                have hi4 : i4 < vs.length := (List.findIdx?_eq_some_iff_getElem.mp hf).1
                have epr : ((vs[i4]?).map RwP.p) = some (vs[i4]).p := by rw [List.getElem?_eq_getElem hi4]; rfl
                have bp := gv.b _ (List.getElem_mem hi4)
                rw [epr]
                have sT : Sh (.tup [.str "told", .tup [.int (i4 : Nat), liD (some (vs[i4]).p), .lst (rsnL (vs.take i4) [x, y, z, u])]]) 4000 6 := (Sh.tup (ShL.cons (Sh.str aT) (ShL.cons (Sh.tup (ShL.cons (ok_int (i := (i4 : Nat)) (by omega)).sh (ShL.cons (ok_int (i := (vs[i4]).p) (by have := bp.p0; have := bp.p1; omega)).sh (ShL.cons s4 ShL.nil)))) ShL.nil))).mono (by decide) (by decide)
                walk_at "gr"
                refine rc_reprV (.tup (.cons .v (.cons (.tup (.cons .v (.cons .v (.cons (.c (w11.get 0 rfl) nofun .v) .nil)))) .nil))) sT (by decide) (by decide) ?_
                walk_at "gr"
                refine ⟨vs, a, b, c, x, y, z, u, rfl, hdn, by omega, fun l2 S12 hl2 x12 => ⟨fun i5 hf5 c12 => ?_, fun hf5 _ => by rw [hf] at hf5; cases hf5⟩⟩
                rw [hf] at hf5
                cases hf5
                rw [epr]
                have w12 := w11.ext x12
                clear w11 x12 c11
                walk_at "gr"
                refine rc_reprV (.tup (.cons .v (.cons (.tup (.cons .v (.cons .v (.cons (.c c12 nofun .v) .nil)))) .nil))) sT (by decide) (by decide) ?_
                refine rv_neSame ?_
                clear c12 hl2
                walk_at "gr"
                refine ve_lst ?_
                walk_at "gr"
                refine rv_ixSq .t (i := -1) (d := .ref l) rfl ?_
                walk_at "gr"
                refine rm_append (w12.get 0 rfl) (by unfold rsnL; rw [List.length_map, List.length_take]; omega) ?_
                exact ⟨(w12.wr 0 rfl).tl, _, _, _, _, rfl⟩
              · have w11 := w10.newE hl x11 c11
                clear w10 hl x11
                have sT : Sh (.tup [.str "row", .lst (rsnL vs [x, y, z, u])]) 4000 6 := (Sh.tup (ShL.cons (Sh.str aR) (ShL.cons sR ShL.nil))).mono (by decide) (by decide)
                walk_at "gr"
                refine rc_reprV (.tup (.cons .v (.cons (.c (w11.get 0 rfl) nofun .v) .nil))) sT (by decide) (by decide) ?_
                walk_at "gr"
                refine ⟨vs, a, b, c, x, y, z, u, rfl, hdn, by omega, fun l2 S12 hl2 x12 => ⟨fun i5 hf5 _ => (by rw [hf] at hf5; cases hf5), fun hf5 c12 => ?_⟩⟩
                have w12 := w11.ext x12
                clear w11 x12 c11
                walk_at "gr"
                refine rc_reprV (.tup (.cons .v (.cons (.c c12 nofun .v) .nil))) sT (by decide) (by decide) ?_
                refine rv_neSame ?_
                clear c12 hl2
                obtain ⟨la, _, ela⟩ := atI_end (xs := rsnL vs [x, y, z, u]) (by unfold rsnL; rw [List.length_map]; omega)
                walk_at "gr"
                refine ve_lst ?_
                walk_at "gr"
                refine rv_ixSq (.l (.c (w12.get 0 rfl))) (i := -1) ela ?_
                walk_at "gr"
                refine rm_append (w12.get 0 rfl) (by unfold rsnL; rw [List.length_map]; omega) ?_
                exact ⟨(w12.wr 0 rfl).tl, _, _, _, _, rfl⟩
            · clear w9
              rintro _ S10 ⟨w10, z10, z11, z12, z13, rfl⟩
              exact ⟨w10, _, _, _, _, _, rfl⟩
          clear w8
          rintro _ S9 ⟨w9, z7, z10, z11, z12, z13, rfl⟩
          have sB : Sh (.lst [.lst (xs.map rwpD), .lst (ys.map rwpD)]) 20000 6 := (Sh.lst (ShL.cons gx.ok.sh (ShL.cons gy.ok.sh ShL.nil))).mono (by decide) (by decide)
          have o3 : Ok (.lst [.int a, .int b, .int c]) 700 3 := (Ok.lst 3 (n := 200) (k := 2) (all3 (ok_int (by have := ha.1; have := ha.2; omega)) (ok_int (by have := hb.1; have := hb.2; omega)) (ok_int (by have := hc.1; have := hc.2; omega))) (by show 3 ≤ 3; decide) (by decide)).mono (by decide) (by decide)
          walk_at "gr"
          refine ⟨a, b, c, rfl, ?_⟩
          walk_at "gr"
          refine rc_list .t ?_
          walk_at "gr"
          refine rc_list (.l .v) ?_
          refine rv_neP .v .v o3.sh.p o3.sh.p o3.s o3.s ?_
          rw [SeqAt.eqv_refl _ (SeqAt.canLay_of_shaped o3.s)]
          walk_at "gr"
          refine ve_lcM keptD (vi_list ?_)
          walk_at "gr"
          refine ⟨_, .v, by show 2 ≤ 100000; decide, fun d hd => ?_, ?_⟩
          · obtain ⟨vs, rfl⟩ : ∃ vs : List RwP, d = tabD C_PriceTable vs := by
              simp only [List.mem_cons, List.not_mem_nil, or_false] at hd
              rcases hd with rfl | rfl <;> exact ⟨_, rfl⟩
            walk_at "gr"
            refine ⟨rfl, ?_⟩
            walk_at "gr"
            exact ⟨_, rfl, rfl, rfl⟩
          walk_at "gr"
          refine rc_reprS .v sB (by decide) (by decide) ?_
          walk_at "gr"
          refine rc_reprS .v sB (by decide) (by decide) ?_
          refine rv_neSame ?_
          walk_at "gr"
          exact ⟨w9.mono (by omega), _, _, _, _, _, _, _, _, _, rfl⟩
        · clear w4
          rintro _ S5 ⟨w5, y5, y6, y7, y8, y9, y10, y11, y12, y13, rfl⟩
          walk_at "gr"
          refine ⟨p, _, xs, rfl, w5, by decide, gx, fun S6 w6 => ?_⟩
          walk_at "gr"
          exact ⟨w6.get 0 rfl, _, _, _, _, _, _, _, _, _, _, _, _, _, rfl⟩
      · rintro _ S2 ⟨_, x1, x2, x3, x4, x5, x6, x7, x8, x9, x10, x11, x12, x13, rfl⟩
        walk_at "go"
        exact q _) only [↓VS.box]
end
end LW
namespace LW
open PySem L2 C8 PySem.Spec PyProof.Rows
theorem fd_mk {K : PySem.W.Frag} {x qual : Str} {st : Stmt} {f : Addr} {od an : Option Addr} {sl : Array (Option Value)} {oc kV dc pm cd ct : Value}
    (l : K.lookup f = some ⟨oc, od, .func (PySem.W.fnOf x qual (defArgs st) (defBody st) (defScope st) .none kV dc pm an cd ct), sl⟩) (c : PySem.W.codeIn K cd qual = true) (k : PySem.W.keepIn K (.ref f) = true) : VS.Fd K x qual st [] f (PySem.W.fnOf x qual (defArgs st) (defBody st) (defScope st) .none kV dc pm an cd ct) :=
  ⟨⟨oc, od, .none, kV, dc, pm, an, cd, ct, sl, rfl, l, c, .inl ⟨rfl, rfl⟩, .inl rfl⟩, k⟩
theorem all_mk {l : PySem.W.OpenLaw} {w : World} {K : PySem.W.Frag} {h : Heap} {mg : Str → Option Value} {fa C_PriceTable C_Sides C_NoRows C_NoSide C_NoSides C_NoNumber C_NoRow BNoRows_0 fXNoRows BNoSide_0 fXNoSide BNoSides_0 fXNoSides BNoNumber_0 fXNoNumber BNoRow_0 fXNoRow f0 f1 f2 f3 f4 f5 f6 f7 f8 f9 f10 f12 f13 f14 f15 f16 f17 f18 f19 f20 f21 f22 f23 f24 f25 f26 f27 : Addr} (X : K.In h) (G : h.Ns mainGlobals mg) (hfa : mg "law" = some (.ref fa))
    (aKPriceTable : PySem.W.nsIn K mainGlobals "PriceTable" = some (some (.ref C_PriceTable)))
    (pgKPriceTable : PySem.W.plainGet K C_PriceTable Str.empty = true)
    (hdKPriceTable : PySem.W.hasDictIn K C_PriceTable = true)
    (poKPriceTable : PySem.W.plainOver K C_PriceTable = true)
    (saKPriceTable : PySem.W.findIn K (.ref C_PriceTable) "__setattr__" = some (some (.builtin "object.__setattr__")))
    (haKPriceTable : PySem.W.findIn K (.ref C_PriceTable) "__class__" = some (some (.builtin "object.__class__")))
    (hmKPriceTable : PySem.W.mroIn K C_PriceTable (.type "object") = some true)
    (icKPriceTable : PySem.W.isClsIn K C_PriceTable = true)
    (tcKPriceTable : PySem.W.typeIn K (.ref C_PriceTable) = some (.type "type"))
    (nKPriceTable_kept : PySem.W.findIn K (.ref C_PriceTable) "kept" = some none)
    (zKPriceTable_int : PySem.W.subIn K (.type "int") (.ref C_PriceTable) = some false)
    (zKPriceTable_bool : PySem.W.subIn K (.type "bool") (.ref C_PriceTable) = some false)
    (zKPriceTable_str : PySem.W.subIn K (.type "str") (.ref C_PriceTable) = some false)
    (zKPriceTable_NoneType : PySem.W.subIn K (.type "NoneType") (.ref C_PriceTable) = some false)
    (zKPriceTable_list : PySem.W.subIn K (.type "list") (.ref C_PriceTable) = some false)
    (zKPriceTable_tuple : PySem.W.subIn K (.type "tuple") (.ref C_PriceTable) = some false)
    (zKPriceTable_dict : PySem.W.subIn K (.type "dict") (.ref C_PriceTable) = some false)
    (mKPriceTable_0 : PySem.W.mroIn K C_PriceTable (.type "object") = some true)
    (mKPriceTable_1 : PySem.W.findIn K (.ref C_PriceTable) "__ne__" = some (some (.builtin "object.__ne__")))
    (mKPriceTable_2 : PySem.W.subIn K (.ref C_PriceTable) (.type "int") = some false)
    (mKPriceTable_3 : PySem.W.subIn K (.ref C_PriceTable) (.type "bool") = some false)
    (mKPriceTable_4 : PySem.W.subIn K (.ref C_PriceTable) (.type "str") = some false)
    (mKPriceTable_5 : PySem.W.subIn K (.ref C_PriceTable) (.type "NoneType") = some false)
    (mKPriceTable_6 : PySem.W.subIn K (.ref C_PriceTable) (.type "list") = some false)
    (mKPriceTable_7 : PySem.W.subIn K (.ref C_PriceTable) (.type "tuple") = some false)
    (mKPriceTable_8 : PySem.W.subIn K (.ref C_PriceTable) (.type "dict") = some false)
    (mKPriceTable_9 : PySem.W.subIn K (.ref C_PriceTable) (.ref C_Sides) = some false)
    (aKSides : PySem.W.nsIn K mainGlobals "Sides" = some (some (.ref C_Sides)))
    (pgKSides : PySem.W.plainGet K C_Sides Str.empty = true)
    (hdKSides : PySem.W.hasDictIn K C_Sides = true)
    (poKSides : PySem.W.plainOver K C_Sides = true)
    (saKSides : PySem.W.findIn K (.ref C_Sides) "__setattr__" = some (some (.builtin "object.__setattr__")))
    (haKSides : PySem.W.findIn K (.ref C_Sides) "__class__" = some (some (.builtin "object.__class__")))
    (hmKSides : PySem.W.mroIn K C_Sides (.type "object") = some true)
    (icKSides : PySem.W.isClsIn K C_Sides = true)
    (tcKSides : PySem.W.typeIn K (.ref C_Sides) = some (.type "type"))
    (nKSides_three : PySem.W.findIn K (.ref C_Sides) "three" = some none)
    (nKSides_rows : PySem.W.findIn K (.ref C_Sides) "rows" = some none)
    (zKSides_int : PySem.W.subIn K (.type "int") (.ref C_Sides) = some false)
    (zKSides_bool : PySem.W.subIn K (.type "bool") (.ref C_Sides) = some false)
    (zKSides_str : PySem.W.subIn K (.type "str") (.ref C_Sides) = some false)
    (zKSides_NoneType : PySem.W.subIn K (.type "NoneType") (.ref C_Sides) = some false)
    (zKSides_list : PySem.W.subIn K (.type "list") (.ref C_Sides) = some false)
    (zKSides_tuple : PySem.W.subIn K (.type "tuple") (.ref C_Sides) = some false)
    (zKSides_dict : PySem.W.subIn K (.type "dict") (.ref C_Sides) = some false)
    (hnO : PySem.W.specialIn K (.builtin "object.__class__") "__get__" = some (some (.builtin "getset_descriptor.__get__"))) (htkO : PySem.W.takesIn K (.builtin "object.__class__") = some true)
    {nmXNoRows qnXNoRows : Str} {NXNoRows : Addr} {bsXNoRows : List Value} {snXNoRows : List Str} {suXNoRows : List Value} {abXNoRows : Bool} {coXNoRows : Option Bool} {ddXNoRows : Option Addr} {k0XNoRows k1XNoRows k2XNoRows k3XNoRows k5XNoRows : Option Value}
    (aXNoRows : PySem.W.nsIn K mainGlobals "NoRows" = some (some (.ref C_NoRows)))
    (xXNoRows : K.lookup C_NoRows = some (excClassObj nmXNoRows qnXNoRows C_NoRows NXNoRows bsXNoRows [.ref BNoRows_0, .type "ValueError", .type "Exception", .type "BaseException", .type "object"] true snXNoRows suXNoRows abXNoRows coXNoRows ddXNoRows k0XNoRows k1XNoRows k2XNoRows k3XNoRows k5XNoRows "ValueError.__new__"))
    (saXNoRows : PySem.W.findIn K (.ref C_NoRows) "__setattr__" = some (some (.builtin "object.__setattr__")))
    (gaXNoRows : PySem.W.findIn K (.ref C_NoRows) "__getattribute__" = some (some (.builtin "BaseException.__getattribute__")))
    (ggXNoRows : PySem.W.findIn K (.ref C_NoRows) "__getattr__" = some none)
    (noXNoRows : PySem.W.findIn K (.ref C_NoRows) "found" = some none)
    (exXNoRows : PySem.W.subIn K (.ref C_NoRows) (.type "BaseException") = some true)
    (tyXNoRows : PySem.W.typeIn K (.ref C_NoRows) = some (.type "type"))
    (kcXNoRows : PySem.W.keepIn K (.ref C_NoRows) = true)
    (hdXNoRows : PySem.W.hasDictIn K C_NoRows = true)
    (iXNoRows : PySem.W.findIn K (.ref C_NoRows) "__init__" = some (some (.ref fXNoRows))) (tXNoRows : PySem.W.typeIn K (.ref fXNoRows) = some (.type "function"))
    {odXNoRows anXNoRows : Option Addr} {slXNoRows : Array (Option Value)} {ocXNoRows kVXNoRows dcXNoRows pmXNoRows cdXNoRows ctXNoRows : Value}
    (lXNoRows : K.lookup fXNoRows = some ⟨ocXNoRows, odXNoRows, .func (PySem.W.fnOf "__init__" "NoRows.__init__" (defArgs s_NoRows___init__) (defBody s_NoRows___init__) (defScope s_NoRows___init__) .none kVXNoRows dcXNoRows pmXNoRows anXNoRows cdXNoRows ctXNoRows), slXNoRows⟩) (cXNoRows : PySem.W.codeIn K cdXNoRows "NoRows.__init__" = true) (kXNoRows : PySem.W.keepIn K (.ref fXNoRows) = true)
    {nmXNoSide qnXNoSide : Str} {NXNoSide : Addr} {bsXNoSide : List Value} {snXNoSide : List Str} {suXNoSide : List Value} {abXNoSide : Bool} {coXNoSide : Option Bool} {ddXNoSide : Option Addr} {k0XNoSide k1XNoSide k2XNoSide k3XNoSide k5XNoSide : Option Value}
    (aXNoSide : PySem.W.nsIn K mainGlobals "NoSide" = some (some (.ref C_NoSide)))
    (xXNoSide : K.lookup C_NoSide = some (excClassObj nmXNoSide qnXNoSide C_NoSide NXNoSide bsXNoSide [.ref BNoSide_0, .type "ValueError", .type "Exception", .type "BaseException", .type "object"] true snXNoSide suXNoSide abXNoSide coXNoSide ddXNoSide k0XNoSide k1XNoSide k2XNoSide k3XNoSide k5XNoSide "ValueError.__new__"))
    (saXNoSide : PySem.W.findIn K (.ref C_NoSide) "__setattr__" = some (some (.builtin "object.__setattr__")))
    (gaXNoSide : PySem.W.findIn K (.ref C_NoSide) "__getattribute__" = some (some (.builtin "BaseException.__getattribute__")))
    (ggXNoSide : PySem.W.findIn K (.ref C_NoSide) "__getattr__" = some none)
    (noXNoSide : PySem.W.findIn K (.ref C_NoSide) "found" = some none)
    (exXNoSide : PySem.W.subIn K (.ref C_NoSide) (.type "BaseException") = some true)
    (tyXNoSide : PySem.W.typeIn K (.ref C_NoSide) = some (.type "type"))
    (kcXNoSide : PySem.W.keepIn K (.ref C_NoSide) = true)
    (hdXNoSide : PySem.W.hasDictIn K C_NoSide = true)
    (iXNoSide : PySem.W.findIn K (.ref C_NoSide) "__init__" = some (some (.ref fXNoSide))) (tXNoSide : PySem.W.typeIn K (.ref fXNoSide) = some (.type "function"))
    {odXNoSide anXNoSide : Option Addr} {slXNoSide : Array (Option Value)} {ocXNoSide kVXNoSide dcXNoSide pmXNoSide cdXNoSide ctXNoSide : Value}
    (lXNoSide : K.lookup fXNoSide = some ⟨ocXNoSide, odXNoSide, .func (PySem.W.fnOf "__init__" "NoSide.__init__" (defArgs s_NoSide___init__) (defBody s_NoSide___init__) (defScope s_NoSide___init__) .none kVXNoSide dcXNoSide pmXNoSide anXNoSide cdXNoSide ctXNoSide), slXNoSide⟩) (cXNoSide : PySem.W.codeIn K cdXNoSide "NoSide.__init__" = true) (kXNoSide : PySem.W.keepIn K (.ref fXNoSide) = true)
    {nmXNoSides qnXNoSides : Str} {NXNoSides : Addr} {bsXNoSides : List Value} {snXNoSides : List Str} {suXNoSides : List Value} {abXNoSides : Bool} {coXNoSides : Option Bool} {ddXNoSides : Option Addr} {k0XNoSides k1XNoSides k2XNoSides k3XNoSides k5XNoSides : Option Value}
    (aXNoSides : PySem.W.nsIn K mainGlobals "NoSides" = some (some (.ref C_NoSides)))
    (xXNoSides : K.lookup C_NoSides = some (excClassObj nmXNoSides qnXNoSides C_NoSides NXNoSides bsXNoSides [.ref BNoSides_0, .type "ValueError", .type "Exception", .type "BaseException", .type "object"] true snXNoSides suXNoSides abXNoSides coXNoSides ddXNoSides k0XNoSides k1XNoSides k2XNoSides k3XNoSides k5XNoSides "ValueError.__new__"))
    (saXNoSides : PySem.W.findIn K (.ref C_NoSides) "__setattr__" = some (some (.builtin "object.__setattr__")))
    (gaXNoSides : PySem.W.findIn K (.ref C_NoSides) "__getattribute__" = some (some (.builtin "BaseException.__getattribute__")))
    (ggXNoSides : PySem.W.findIn K (.ref C_NoSides) "__getattr__" = some none)
    (noXNoSides : PySem.W.findIn K (.ref C_NoSides) "found" = some none)
    (exXNoSides : PySem.W.subIn K (.ref C_NoSides) (.type "BaseException") = some true)
    (tyXNoSides : PySem.W.typeIn K (.ref C_NoSides) = some (.type "type"))
    (kcXNoSides : PySem.W.keepIn K (.ref C_NoSides) = true)
    (hdXNoSides : PySem.W.hasDictIn K C_NoSides = true)
    (iXNoSides : PySem.W.findIn K (.ref C_NoSides) "__init__" = some (some (.ref fXNoSides))) (tXNoSides : PySem.W.typeIn K (.ref fXNoSides) = some (.type "function"))
    {odXNoSides anXNoSides : Option Addr} {slXNoSides : Array (Option Value)} {ocXNoSides kVXNoSides dcXNoSides pmXNoSides cdXNoSides ctXNoSides : Value}
    (lXNoSides : K.lookup fXNoSides = some ⟨ocXNoSides, odXNoSides, .func (PySem.W.fnOf "__init__" "NoSides.__init__" (defArgs s_NoSides___init__) (defBody s_NoSides___init__) (defScope s_NoSides___init__) .none kVXNoSides dcXNoSides pmXNoSides anXNoSides cdXNoSides ctXNoSides), slXNoSides⟩) (cXNoSides : PySem.W.codeIn K cdXNoSides "NoSides.__init__" = true) (kXNoSides : PySem.W.keepIn K (.ref fXNoSides) = true)
    {nmXNoNumber qnXNoNumber : Str} {NXNoNumber : Addr} {bsXNoNumber : List Value} {snXNoNumber : List Str} {suXNoNumber : List Value} {abXNoNumber : Bool} {coXNoNumber : Option Bool} {ddXNoNumber : Option Addr} {k0XNoNumber k1XNoNumber k2XNoNumber k3XNoNumber k5XNoNumber : Option Value}
    (aXNoNumber : PySem.W.nsIn K mainGlobals "NoNumber" = some (some (.ref C_NoNumber)))
    (xXNoNumber : K.lookup C_NoNumber = some (excClassObj nmXNoNumber qnXNoNumber C_NoNumber NXNoNumber bsXNoNumber [.ref BNoNumber_0, .type "ValueError", .type "Exception", .type "BaseException", .type "object"] true snXNoNumber suXNoNumber abXNoNumber coXNoNumber ddXNoNumber k0XNoNumber k1XNoNumber k2XNoNumber k3XNoNumber k5XNoNumber "ValueError.__new__"))
    (saXNoNumber : PySem.W.findIn K (.ref C_NoNumber) "__setattr__" = some (some (.builtin "object.__setattr__")))
    (gaXNoNumber : PySem.W.findIn K (.ref C_NoNumber) "__getattribute__" = some (some (.builtin "BaseException.__getattribute__")))
    (ggXNoNumber : PySem.W.findIn K (.ref C_NoNumber) "__getattr__" = some none)
    (noXNoNumber : PySem.W.findIn K (.ref C_NoNumber) "found" = some none)
    (exXNoNumber : PySem.W.subIn K (.ref C_NoNumber) (.type "BaseException") = some true)
    (tyXNoNumber : PySem.W.typeIn K (.ref C_NoNumber) = some (.type "type"))
    (kcXNoNumber : PySem.W.keepIn K (.ref C_NoNumber) = true)
    (hdXNoNumber : PySem.W.hasDictIn K C_NoNumber = true)
    (iXNoNumber : PySem.W.findIn K (.ref C_NoNumber) "__init__" = some (some (.ref fXNoNumber))) (tXNoNumber : PySem.W.typeIn K (.ref fXNoNumber) = some (.type "function"))
    {odXNoNumber anXNoNumber : Option Addr} {slXNoNumber : Array (Option Value)} {ocXNoNumber kVXNoNumber dcXNoNumber pmXNoNumber cdXNoNumber ctXNoNumber : Value}
    (lXNoNumber : K.lookup fXNoNumber = some ⟨ocXNoNumber, odXNoNumber, .func (PySem.W.fnOf "__init__" "NoNumber.__init__" (defArgs s_NoNumber___init__) (defBody s_NoNumber___init__) (defScope s_NoNumber___init__) .none kVXNoNumber dcXNoNumber pmXNoNumber anXNoNumber cdXNoNumber ctXNoNumber), slXNoNumber⟩) (cXNoNumber : PySem.W.codeIn K cdXNoNumber "NoNumber.__init__" = true) (kXNoNumber : PySem.W.keepIn K (.ref fXNoNumber) = true)
    {nmXNoRow qnXNoRow : Str} {NXNoRow : Addr} {bsXNoRow : List Value} {snXNoRow : List Str} {suXNoRow : List Value} {abXNoRow : Bool} {coXNoRow : Option Bool} {ddXNoRow : Option Addr} {k0XNoRow k1XNoRow k2XNoRow k3XNoRow k5XNoRow : Option Value}
    (aXNoRow : PySem.W.nsIn K mainGlobals "NoRow" = some (some (.ref C_NoRow)))
    (xXNoRow : K.lookup C_NoRow = some (excClassObj nmXNoRow qnXNoRow C_NoRow NXNoRow bsXNoRow [.ref BNoRow_0, .type "LookupError", .type "Exception", .type "BaseException", .type "object"] true snXNoRow suXNoRow abXNoRow coXNoRow ddXNoRow k0XNoRow k1XNoRow k2XNoRow k3XNoRow k5XNoRow "LookupError.__new__"))
    (saXNoRow : PySem.W.findIn K (.ref C_NoRow) "__setattr__" = some (some (.builtin "object.__setattr__")))
    (gaXNoRow : PySem.W.findIn K (.ref C_NoRow) "__getattribute__" = some (some (.builtin "BaseException.__getattribute__")))
    (ggXNoRow : PySem.W.findIn K (.ref C_NoRow) "__getattr__" = some none)
    (noXNoRow : PySem.W.findIn K (.ref C_NoRow) "reasons" = some none)
    (exXNoRow : PySem.W.subIn K (.ref C_NoRow) (.type "BaseException") = some true)
    (tyXNoRow : PySem.W.typeIn K (.ref C_NoRow) = some (.type "type"))
    (kcXNoRow : PySem.W.keepIn K (.ref C_NoRow) = true)
    (hdXNoRow : PySem.W.hasDictIn K C_NoRow = true)
    (iXNoRow : PySem.W.findIn K (.ref C_NoRow) "__init__" = some (some (.ref fXNoRow))) (tXNoRow : PySem.W.typeIn K (.ref fXNoRow) = some (.type "function"))
    {odXNoRow anXNoRow : Option Addr} {slXNoRow : Array (Option Value)} {ocXNoRow kVXNoRow dcXNoRow pmXNoRow cdXNoRow ctXNoRow : Value}
    (lXNoRow : K.lookup fXNoRow = some ⟨ocXNoRow, odXNoRow, .func (PySem.W.fnOf "__init__" "NoRow.__init__" (defArgs s_NoRow___init__) (defBody s_NoRow___init__) (defScope s_NoRow___init__) .none kVXNoRow dcXNoRow pmXNoRow anXNoRow cdXNoRow ctXNoRow), slXNoRow⟩) (cXNoRow : PySem.W.codeIn K cdXNoRow "NoRow.__init__" = true) (kXNoRow : PySem.W.keepIn K (.ref fXNoRow) = true)
    (a0 : PySem.W.nsIn K mainGlobals "is_whole" = some (some (.ref f0)))
    {od0 an0 : Option Addr} {sl0 : Array (Option Value)} {oc0 kV0 dc0 pm0 cd0 ct0 : Value}
    (l0 : K.lookup f0 = some ⟨oc0, od0, .func (PySem.W.fnOf "is_whole" "is_whole" (defArgs s_is_whole) (defBody s_is_whole) (defScope s_is_whole) .none kV0 dc0 pm0 an0 cd0 ct0), sl0⟩) (c0 : PySem.W.codeIn K cd0 "is_whole" = true) (k0 : PySem.W.keepIn K (.ref f0) = true)
    (a1 : PySem.W.findIn K (.ref C_Sides) "__init__" = some (some (.ref f1))) (i1 : PySem.W.isFn K (.ref f1) = true)
    {od1 an1 : Option Addr} {sl1 : Array (Option Value)} {oc1 kV1 dc1 pm1 cd1 ct1 : Value}
    (l1 : K.lookup f1 = some ⟨oc1, od1, .func (PySem.W.fnOf "__init__" "Sides.__init__" (defArgs s_Sides___init__) (defBody s_Sides___init__) (defScope s_Sides___init__) .none kV1 dc1 pm1 an1 cd1 ct1), sl1⟩) (c1 : PySem.W.codeIn K cd1 "Sides.__init__" = true) (k1 : PySem.W.keepIn K (.ref f1) = true)
    (mk1 : PySem.W.makesIn K C_Sides = true) (kc1 : PySem.W.keepIn K (.ref C_Sides) = true)
    (a2 : PySem.W.findIn K (.ref C_Sides) "told" = some (some (.ref f2))) (i2 : PySem.W.isFn K (.ref f2) = true)
    {od2 an2 : Option Addr} {sl2 : Array (Option Value)} {oc2 kV2 dc2 pm2 cd2 ct2 : Value}
    (l2 : K.lookup f2 = some ⟨oc2, od2, .func (PySem.W.fnOf "told" "Sides.told" (defArgs s_Sides_told) (defBody s_Sides_told) (defScope s_Sides_told) .none kV2 dc2 pm2 an2 cd2 ct2), sl2⟩) (c2 : PySem.W.codeIn K cd2 "Sides.told" = true) (k2 : PySem.W.keepIn K (.ref f2) = true)
    (a3 : PySem.W.findIn K (.ref C_Sides) "ranked" = some (some (.ref f3))) (i3 : PySem.W.isFn K (.ref f3) = true)
    {od3 an3 : Option Addr} {sl3 : Array (Option Value)} {oc3 kV3 dc3 pm3 cd3 ct3 : Value}
    (l3 : K.lookup f3 = some ⟨oc3, od3, .func (PySem.W.fnOf "ranked" "Sides.ranked" (defArgs s_Sides_ranked) (defBody s_Sides_ranked) (defScope s_Sides_ranked) .none kV3 dc3 pm3 an3 cd3 ct3), sl3⟩) (c3 : PySem.W.codeIn K cd3 "Sides.ranked" = true) (k3 : PySem.W.keepIn K (.ref f3) = true)
    (a4 : PySem.W.nsIn K mainGlobals "is_limit" = some (some (.ref f4)))
    {od4 an4 : Option Addr} {sl4 : Array (Option Value)} {oc4 kV4 dc4 pm4 cd4 ct4 : Value}
    (l4 : K.lookup f4 = some ⟨oc4, od4, .func (PySem.W.fnOf "is_limit" "is_limit" (defArgs s_is_limit) (defBody s_is_limit) (defScope s_is_limit) .none kV4 dc4 pm4 an4 cd4 ct4), sl4⟩) (c4 : PySem.W.codeIn K cd4 "is_limit" = true) (k4 : PySem.W.keepIn K (.ref f4) = true)
    (a5 : PySem.W.nsIn K mainGlobals "is_row" = some (some (.ref f5)))
    {od5 an5 : Option Addr} {sl5 : Array (Option Value)} {oc5 kV5 dc5 pm5 cd5 ct5 : Value}
    (l5 : K.lookup f5 = some ⟨oc5, od5, .func (PySem.W.fnOf "is_row" "is_row" (defArgs s_is_row) (defBody s_is_row) (defScope s_is_row) .none kV5 dc5 pm5 an5 cd5 ct5), sl5⟩) (c5 : PySem.W.codeIn K cd5 "is_row" = true) (k5 : PySem.W.keepIn K (.ref f5) = true)
    (a6 : PySem.W.nsIn K mainGlobals "passed" = some (some (.ref f6)))
    {od6 an6 : Option Addr} {sl6 : Array (Option Value)} {oc6 kV6 dc6 pm6 cd6 ct6 : Value}
    (l6 : K.lookup f6 = some ⟨oc6, od6, .func (PySem.W.fnOf "passed" "passed" (defArgs s_passed) (defBody s_passed) (defScope s_passed) .none kV6 dc6 pm6 an6 cd6 ct6), sl6⟩) (c6 : PySem.W.codeIn K cd6 "passed" = true) (k6 : PySem.W.keepIn K (.ref f6) = true)
    (a7 : PySem.W.nsIn K mainGlobals "row_at" = some (some (.ref f7)))
    {od7 an7 : Option Addr} {sl7 : Array (Option Value)} {oc7 kV7 dc7 pm7 cd7 ct7 : Value}
    (l7 : K.lookup f7 = some ⟨oc7, od7, .func (PySem.W.fnOf "row_at" "row_at" (defArgs s_row_at) (defBody s_row_at) (defScope s_row_at) .none kV7 dc7 pm7 an7 cd7 ct7), sl7⟩) (c7 : PySem.W.codeIn K cd7 "row_at" = true) (k7 : PySem.W.keepIn K (.ref f7) = true)
    (a8 : PySem.W.nsIn K mainGlobals "price_at" = some (some (.ref f8)))
    {od8 an8 : Option Addr} {sl8 : Array (Option Value)} {oc8 kV8 dc8 pm8 cd8 ct8 : Value}
    (l8 : K.lookup f8 = some ⟨oc8, od8, .func (PySem.W.fnOf "price_at" "price_at" (defArgs s_price_at) (defBody s_price_at) (defScope s_price_at) .none kV8 dc8 pm8 an8 cd8 ct8), sl8⟩) (c8 : PySem.W.codeIn K cd8 "price_at" = true) (k8 : PySem.W.keepIn K (.ref f8) = true)
    (a9 : PySem.W.nsIn K mainGlobals "values_of" = some (some (.ref f9)))
    {od9 an9 : Option Addr} {sl9 : Array (Option Value)} {oc9 kV9 dc9 pm9 cd9 ct9 : Value}
    (l9 : K.lookup f9 = some ⟨oc9, od9, .func (PySem.W.fnOf "values_of" "values_of" (defArgs s_values_of) (defBody s_values_of) (defScope s_values_of) .none kV9 dc9 pm9 an9 cd9 ct9), sl9⟩) (c9 : PySem.W.codeIn K cd9 "values_of" = true) (k9 : PySem.W.keepIn K (.ref f9) = true)
    (a10 : PySem.W.nsIn K mainGlobals "merged" = some (some (.ref f10)))
    {od10 an10 : Option Addr} {sl10 : Array (Option Value)} {oc10 kV10 dc10 pm10 cd10 ct10 : Value}
    (l10 : K.lookup f10 = some ⟨oc10, od10, .func (PySem.W.fnOf "merged" "merged" (defArgs s_merged) (defBody s_merged) (defScope s_merged) .none kV10 dc10 pm10 an10 cd10 ct10), sl10⟩) (c10 : PySem.W.codeIn K cd10 "merged" = true) (k10 : PySem.W.keepIn K (.ref f10) = true)
    (a12 : PySem.W.nsIn K mainGlobals "least_place" = some (some (.ref f12)))
    {od12 an12 : Option Addr} {sl12 : Array (Option Value)} {oc12 kV12 dc12 pm12 cd12 ct12 : Value}
    (l12 : K.lookup f12 = some ⟨oc12, od12, .func (PySem.W.fnOf "least_place" "least_place" (defArgs s_least_place) (defBody s_least_place) (defScope s_least_place) .none kV12 dc12 pm12 an12 cd12 ct12), sl12⟩) (c12 : PySem.W.codeIn K cd12 "least_place" = true) (k12 : PySem.W.keepIn K (.ref f12) = true)
    (a13 : PySem.W.nsIn K mainGlobals "parts_at" = some (some (.ref f13)))
    {od13 an13 : Option Addr} {sl13 : Array (Option Value)} {oc13 kV13 dc13 pm13 cd13 ct13 : Value}
    (l13 : K.lookup f13 = some ⟨oc13, od13, .func (PySem.W.fnOf "parts_at" "parts_at" (defArgs s_parts_at) (defBody s_parts_at) (defScope s_parts_at) .none kV13 dc13 pm13 an13 cd13 ct13), sl13⟩) (c13 : PySem.W.codeIn K cd13 "parts_at" = true) (k13 : PySem.W.keepIn K (.ref f13) = true)
    (a14 : PySem.W.findIn K (.ref C_PriceTable) "__init__" = some (some (.ref f14))) (i14 : PySem.W.isFn K (.ref f14) = true)
    {od14 an14 : Option Addr} {sl14 : Array (Option Value)} {oc14 kV14 dc14 pm14 cd14 ct14 : Value}
    (l14 : K.lookup f14 = some ⟨oc14, od14, .func (PySem.W.fnOf "__init__" "PriceTable.__init__" (defArgs s_PriceTable___init__) (defBody s_PriceTable___init__) (defScope s_PriceTable___init__) .none kV14 dc14 pm14 an14 cd14 ct14), sl14⟩) (c14 : PySem.W.codeIn K cd14 "PriceTable.__init__" = true) (k14 : PySem.W.keepIn K (.ref f14) = true)
    (mk14 : PySem.W.makesIn K C_PriceTable = true) (kc14 : PySem.W.keepIn K (.ref C_PriceTable) = true)
    (a15 : PySem.W.findIn K (.ref C_PriceTable) "rows" = some (some (.ref f15))) (i15 : PySem.W.isFn K (.ref f15) = true)
    {od15 an15 : Option Addr} {sl15 : Array (Option Value)} {oc15 kV15 dc15 pm15 cd15 ct15 : Value}
    (l15 : K.lookup f15 = some ⟨oc15, od15, .func (PySem.W.fnOf "rows" "PriceTable.rows" (defArgs s_PriceTable_rows) (defBody s_PriceTable_rows) (defScope s_PriceTable_rows) .none kV15 dc15 pm15 an15 cd15 ct15), sl15⟩) (c15 : PySem.W.codeIn K cd15 "PriceTable.rows" = true) (k15 : PySem.W.keepIn K (.ref f15) = true)
    (a16 : PySem.W.findIn K (.ref C_PriceTable) "__eq__" = some (some (.ref f16))) (i16 : PySem.W.isFn K (.ref f16) = true)
    {od16 an16 : Option Addr} {sl16 : Array (Option Value)} {oc16 kV16 dc16 pm16 cd16 ct16 : Value}
    (l16 : K.lookup f16 = some ⟨oc16, od16, .func (PySem.W.fnOf "__eq__" "PriceTable.__eq__" (defArgs s_PriceTable___eq__) (defBody s_PriceTable___eq__) (defScope s_PriceTable___eq__) .none kV16 dc16 pm16 an16 cd16 ct16), sl16⟩) (c16 : PySem.W.codeIn K cd16 "PriceTable.__eq__" = true) (k16 : PySem.W.keepIn K (.ref f16) = true)
    (a17 : PySem.W.findIn K (.ref C_PriceTable) "row_of" = some (some (.ref f17))) (i17 : PySem.W.isFn K (.ref f17) = true)
    {od17 an17 : Option Addr} {sl17 : Array (Option Value)} {oc17 kV17 dc17 pm17 cd17 ct17 : Value}
    (l17 : K.lookup f17 = some ⟨oc17, od17, .func (PySem.W.fnOf "row_of" "PriceTable.row_of" (defArgs s_PriceTable_row_of) (defBody s_PriceTable_row_of) (defScope s_PriceTable_row_of) .none kV17 dc17 pm17 an17 cd17 ct17), sl17⟩) (c17 : PySem.W.codeIn K cd17 "PriceTable.row_of" = true) (k17 : PySem.W.keepIn K (.ref f17) = true)
    (a18 : PySem.W.nsIn K mainGlobals "_law_cell" = some (some (.ref f18)))
    {od18 an18 : Option Addr} {sl18 : Array (Option Value)} {oc18 kV18 dc18 pm18 cd18 ct18 : Value}
    (l18 : K.lookup f18 = some ⟨oc18, od18, .func (PySem.W.fnOf "_law_cell" "_law_cell" (defArgs s__law_cell) (defBody s__law_cell) (defScope s__law_cell) .none kV18 dc18 pm18 an18 cd18 ct18), sl18⟩) (c18 : PySem.W.codeIn K cd18 "_law_cell" = true) (k18 : PySem.W.keepIn K (.ref f18) = true)
    (a19 : PySem.W.nsIn K mainGlobals "_law_purse" = some (some (.ref f19)))
    {od19 an19 : Option Addr} {sl19 : Array (Option Value)} {oc19 kV19 dc19 pm19 cd19 ct19 : Value}
    (l19 : K.lookup f19 = some ⟨oc19, od19, .func (PySem.W.fnOf "_law_purse" "_law_purse" (defArgs s__law_purse) (defBody s__law_purse) (defScope s__law_purse) .none kV19 dc19 pm19 an19 cd19 ct19), sl19⟩) (c19 : PySem.W.codeIn K cd19 "_law_purse" = true) (k19 : PySem.W.keepIn K (.ref f19) = true)
    (a20 : PySem.W.nsIn K mainGlobals "_law_take" = some (some (.ref f20)))
    {od20 an20 : Option Addr} {sl20 : Array (Option Value)} {oc20 kV20 dc20 pm20 cd20 ct20 : Value}
    (l20 : K.lookup f20 = some ⟨oc20, od20, .func (PySem.W.fnOf "_law_take" "_law_take" (defArgs s__law_take) (defBody s__law_take) (defScope s__law_take) .none kV20 dc20 pm20 an20 cd20 ct20), sl20⟩) (c20 : PySem.W.codeIn K cd20 "_law_take" = true) (k20 : PySem.W.keepIn K (.ref f20) = true)
    (a21 : PySem.W.nsIn K mainGlobals "_law_limit" = some (some (.ref f21)))
    {od21 an21 : Option Addr} {sl21 : Array (Option Value)} {oc21 kV21 dc21 pm21 cd21 ct21 : Value}
    (l21 : K.lookup f21 = some ⟨oc21, od21, .func (PySem.W.fnOf "_law_limit" "_law_limit" (defArgs s__law_limit) (defBody s__law_limit) (defScope s__law_limit) .none kV21 dc21 pm21 an21 cd21 ct21), sl21⟩) (c21 : PySem.W.codeIn K cd21 "_law_limit" = true) (k21 : PySem.W.keepIn K (.ref f21) = true)
    (a22 : PySem.W.nsIn K mainGlobals "_law_rows" = some (some (.ref f22)))
    {od22 an22 : Option Addr} {sl22 : Array (Option Value)} {oc22 kV22 dc22 pm22 cd22 ct22 : Value}
    (l22 : K.lookup f22 = some ⟨oc22, od22, .func (PySem.W.fnOf "_law_rows" "_law_rows" (defArgs s__law_rows) (defBody s__law_rows) (defScope s__law_rows) .none kV22 dc22 pm22 an22 cd22 ct22), sl22⟩) (c22 : PySem.W.codeIn K cd22 "_law_rows" = true) (k22 : PySem.W.keepIn K (.ref f22) = true)
    (a23 : PySem.W.nsIn K mainGlobals "_law_place" = some (some (.ref f23)))
    {od23 an23 : Option Addr} {sl23 : Array (Option Value)} {oc23 kV23 dc23 pm23 cd23 ct23 : Value}
    (l23 : K.lookup f23 = some ⟨oc23, od23, .func (PySem.W.fnOf "_law_place" "_law_place" (defArgs s__law_place) (defBody s__law_place) (defScope s__law_place) .none kV23 dc23 pm23 an23 cd23 ct23), sl23⟩) (c23 : PySem.W.codeIn K cd23 "_law_place" = true) (k23 : PySem.W.keepIn K (.ref f23) = true)
    (a24 : PySem.W.nsIn K mainGlobals "_law_due" = some (some (.ref f24)))
    {od24 an24 : Option Addr} {sl24 : Array (Option Value)} {oc24 kV24 dc24 pm24 cd24 ct24 : Value}
    (l24 : K.lookup f24 = some ⟨oc24, od24, .func (PySem.W.fnOf "_law_due" "_law_due" (defArgs s__law_due) (defBody s__law_due) (defScope s__law_due) .none kV24 dc24 pm24 an24 cd24 ct24), sl24⟩) (c24 : PySem.W.codeIn K cd24 "_law_due" = true) (k24 : PySem.W.keepIn K (.ref f24) = true)
    (a25 : PySem.W.nsIn K mainGlobals "_law_asked" = some (some (.ref f25)))
    {od25 an25 : Option Addr} {sl25 : Array (Option Value)} {oc25 kV25 dc25 pm25 cd25 ct25 : Value}
    (l25 : K.lookup f25 = some ⟨oc25, od25, .func (PySem.W.fnOf "_law_asked" "_law_asked" (defArgs s__law_asked) (defBody s__law_asked) (defScope s__law_asked) .none kV25 dc25 pm25 an25 cd25 ct25), sl25⟩) (c25 : PySem.W.codeIn K cd25 "_law_asked" = true) (k25 : PySem.W.keepIn K (.ref f25) = true)
    (a26 : PySem.W.nsIn K mainGlobals "_law_refused_right" = some (some (.ref f26)))
    {od26 an26 : Option Addr} {sl26 : Array (Option Value)} {oc26 kV26 dc26 pm26 cd26 ct26 : Value}
    (l26 : K.lookup f26 = some ⟨oc26, od26, .func (PySem.W.fnOf "_law_refused_right" "_law_refused_right" (defArgs s__law_refused_right) (defBody s__law_refused_right) (defScope s__law_refused_right) .none kV26 dc26 pm26 an26 cd26 ct26), sl26⟩) (c26 : PySem.W.codeIn K cd26 "_law_refused_right" = true) (k26 : PySem.W.keepIn K (.ref f26) = true)
    (a27 : PySem.W.nsIn K mainGlobals "law" = some (some (.ref f27)))
    {od27 an27 : Option Addr} {sl27 : Array (Option Value)} {oc27 kV27 dc27 pm27 cd27 ct27 : Value}
    (l27 : K.lookup f27 = some ⟨oc27, od27, .func (PySem.W.fnOf "law" "law" (defArgs s_law) (defBody s_law) (defScope s_law) .none kV27 dc27 pm27 an27 cd27 ct27), sl27⟩) (c27 : PySem.W.codeIn K cd27 "law" = true) (k27 : PySem.W.keepIn K (.ref f27) = true)
    {ts : List Addr} {c_Pl Pl : Addr} {tcPl : Value} {tdPl : Option Addr} {tvPl : Array Value} {tlPl : Array (Option Value)} (e_Pl : cd13 = .ref c_Pl) (l_Pl : K.lookup c_Pl = some ⟨tcPl, tdPl, .fields tvPl, tlPl⟩) (p_Pl : tvPl[11]? = some (.ref Pl)) (h_Pl : PySem.W.codeHdIn K c_Pl Pl = true) (n_Pl : K.lookup Pl = none) (m_Pl : Pl ∈ ts)
    (z_all : PySem.W.nsIn K mainGlobals "all" = some none)
    (z_bool : PySem.W.nsIn K mainGlobals "bool" = some none)
    (z_enumerate : PySem.W.nsIn K mainGlobals "enumerate" = some none)
    (z_int : PySem.W.nsIn K mainGlobals "int" = some none)
    (z_isinstance : PySem.W.nsIn K mainGlobals "isinstance" = some none)
    (z_len : PySem.W.nsIn K mainGlobals "len" = some none)
    (z_list : PySem.W.nsIn K mainGlobals "list" = some none)
    (z_max : PySem.W.nsIn K mainGlobals "max" = some none)
    (z_min : PySem.W.nsIn K mainGlobals "min" = some none)
    (z_range : PySem.W.nsIn K mainGlobals "range" = some none)
    (z_repr : PySem.W.nsIn K mainGlobals "repr" = some none)
    (z_reversed : PySem.W.nsIn K mainGlobals "reversed" = some none)
    (z_set : PySem.W.nsIn K mainGlobals "set" = some none)
    (z_sorted : PySem.W.nsIn K mainGlobals "sorted" = some none)
    (z_tuple : PySem.W.nsIn K mainGlobals "tuple" = some none)
    (z_zip : PySem.W.nsIn K mainGlobals "zip" = some none)
    {t_MOST_PRICE : Tok} (z_MOST_PRICE : PySem.W.nsIn K mainGlobals "MOST_PRICE" = some (some (.int 1000000 t_MOST_PRICE)))
    {t_MOST_ROWS : Tok} (z_MOST_ROWS : PySem.W.nsIn K mainGlobals "MOST_ROWS" = some (some (.int 4 t_MOST_ROWS)))
    {t_MOST_SIDE_grids : Tok} (z_MOST_SIDE_grids : PySem.W.nsIn K mainGlobals "MOST_SIDE_grids" = some (some (.int 100000 t_MOST_SIDE_grids)))
    {t_MOST_SIDE_sides : Tok} (z_MOST_SIDE_sides : PySem.W.nsIn K mainGlobals "MOST_SIDE_sides" = some (some (.int 100000 t_MOST_SIDE_sides)))
    {t_MOST_WEIGHT : Tok} (z_MOST_WEIGHT : PySem.W.nsIn K mainGlobals "MOST_WEIGHT" = some (some (.int 2000000 t_MOST_WEIGHT)))
    (icNoRows : PySem.W.isClsIn K C_NoRows = true)
    (icNoSide : PySem.W.isClsIn K C_NoSide = true)
    (icNoSides : PySem.W.isClsIn K C_NoSides = true)
    (icNoNumber : PySem.W.isClsIn K C_NoNumber = true)
    (icNoRow : PySem.W.isClsIn K C_NoRow = true)
    (sbNoRows_NoRows : PySem.W.subIn K (.ref C_NoRows) (.ref C_NoRows) = some true)
    (sbNoRows_NoSide : PySem.W.subIn K (.ref C_NoRows) (.ref C_NoSide) = some false)
    (sbNoRows_NoSides : PySem.W.subIn K (.ref C_NoRows) (.ref C_NoSides) = some false)
    (sbNoRows_NoNumber : PySem.W.subIn K (.ref C_NoRows) (.ref C_NoNumber) = some false)
    (sbNoRows_NoRow : PySem.W.subIn K (.ref C_NoRows) (.ref C_NoRow) = some false)
    (sbNoSide_NoRows : PySem.W.subIn K (.ref C_NoSide) (.ref C_NoRows) = some false)
    (sbNoSide_NoSide : PySem.W.subIn K (.ref C_NoSide) (.ref C_NoSide) = some true)
    (sbNoSide_NoSides : PySem.W.subIn K (.ref C_NoSide) (.ref C_NoSides) = some false)
    (sbNoSide_NoNumber : PySem.W.subIn K (.ref C_NoSide) (.ref C_NoNumber) = some false)
    (sbNoSide_NoRow : PySem.W.subIn K (.ref C_NoSide) (.ref C_NoRow) = some false)
    (sbNoSides_NoRows : PySem.W.subIn K (.ref C_NoSides) (.ref C_NoRows) = some false)
    (sbNoSides_NoSide : PySem.W.subIn K (.ref C_NoSides) (.ref C_NoSide) = some false)
    (sbNoSides_NoSides : PySem.W.subIn K (.ref C_NoSides) (.ref C_NoSides) = some true)
    (sbNoSides_NoNumber : PySem.W.subIn K (.ref C_NoSides) (.ref C_NoNumber) = some false)
    (sbNoSides_NoRow : PySem.W.subIn K (.ref C_NoSides) (.ref C_NoRow) = some false)
    (sbNoNumber_NoRows : PySem.W.subIn K (.ref C_NoNumber) (.ref C_NoRows) = some false)
    (sbNoNumber_NoSide : PySem.W.subIn K (.ref C_NoNumber) (.ref C_NoSide) = some false)
    (sbNoNumber_NoSides : PySem.W.subIn K (.ref C_NoNumber) (.ref C_NoSides) = some false)
    (sbNoNumber_NoNumber : PySem.W.subIn K (.ref C_NoNumber) (.ref C_NoNumber) = some true)
    (sbNoNumber_NoRow : PySem.W.subIn K (.ref C_NoNumber) (.ref C_NoRow) = some false)
    (sbNoRow_NoRows : PySem.W.subIn K (.ref C_NoRow) (.ref C_NoRows) = some false)
    (sbNoRow_NoSide : PySem.W.subIn K (.ref C_NoRow) (.ref C_NoSide) = some false)
    (sbNoRow_NoSides : PySem.W.subIn K (.ref C_NoRow) (.ref C_NoSides) = some false)
    (sbNoRow_NoNumber : PySem.W.subIn K (.ref C_NoRow) (.ref C_NoNumber) = some false)
    (sbNoRow_NoRow : PySem.W.subIn K (.ref C_NoRow) (.ref C_NoRow) = some true)
    {aR_ : Addr} {dR_ : Option Addr} {nR_ : Nat} {sR_ : Array (Option Value)} {tR0_ tR1_ tR2_ tR3_ : Tok} (z_WORDS : PySem.W.nsIn K mainGlobals "WORDS" = some (some (.ref aR_)))
    (kR_ : K.lookup aR_ = some ⟨.type "tuple", dR_, .seq #[.str "long" tR0_, .str "middle" tR1_, .str "short" tR2_, .str "weight" tR3_] nR_, sR_⟩)
    : ∃ (fd : FuncData) (cs : VS.TabsL) (S0 : VS.Sto) (p : VS.Pt), VS.TabS0 cs S0 ∧ (∀ p ∈ cs, K.lookup p.2.1 = none ∧ PySem.W.codeHdIn K p.1 p.2.1 = true ∧ p.2.1 ∈ ts) ∧ (∀ (s : Shared) (u : Value), BindsTo s fd ⟨[u], []⟩ [("_law_script", u)]) ∧ (∀ ns : List Int, ns.length ≤ 63 → p [.rol (ns.map .int)] S0 (fun d _ => d = .bl true) noY) ∧ ∀ base : Heap, K.In base → base.Ns mainGlobals mg → VS.SysOk base → (∀ p ∈ cs, LamX.TabB base mg p.1 p.2.1) → VS.FnG l.prog w K mg base (L2.CX l.prog w) 12 fa fd ["_law_script"] (VS.spOf K p) := by
  have e := hfa.symm.trans (PySem.W.mg_of X G a27)
  cases e
  have T : Tx K mg := ⟨PySem.W.mg_none_of X G z_all, PySem.W.mg_none_of X G z_bool, PySem.W.mg_none_of X G z_enumerate, PySem.W.mg_none_of X G z_int, PySem.W.mg_none_of X G z_isinstance, PySem.W.mg_none_of X G z_len, PySem.W.mg_none_of X G z_list, PySem.W.mg_none_of X G z_max, PySem.W.mg_none_of X G z_min, PySem.W.mg_none_of X G z_range, PySem.W.mg_none_of X G z_repr, PySem.W.mg_none_of X G z_reversed, PySem.W.mg_none_of X G z_set, PySem.W.mg_none_of X G z_sorted, PySem.W.mg_none_of X G z_tuple, PySem.W.mg_none_of X G z_zip, ⟨_, PySem.W.mg_of X G z_MOST_PRICE, _, rfl⟩, ⟨_, PySem.W.mg_of X G z_MOST_ROWS, _, rfl⟩, ⟨_, PySem.W.mg_of X G z_MOST_SIDE_grids, _, rfl⟩, ⟨_, PySem.W.mg_of X G z_MOST_SIDE_sides, _, rfl⟩, ⟨_, PySem.W.mg_of X G z_MOST_WEIGHT, _, rfl⟩, ⟨aR_, ⟨_, PySem.W.mg_of X G z_WORDS, rfl⟩, fun H S => .tupK ⟨_, _, _, kR_, rfl, rfl, (by show 4 ≤ sizeLine; decide), (.cons (show RelV (.str "long") (.str "long" tR0_) from ⟨_, rfl⟩) (.cons (show RelV (.str "middle") (.str "middle" tR1_) from ⟨_, rfl⟩) (.cons (show RelV (.str "short") (.str "short" tR2_) from ⟨_, rfl⟩) (.cons (show RelV (.str "weight") (.str "weight" tR3_) from ⟨_, rfl⟩) .nil))))⟩ (.cons (.str _) (.cons (.str _) (.cons (.str _) (.cons (.str _) .nil))))⟩, fun A B h1 h2 => by cases (PySem.W.mg_of X G aXNoRows).symm.trans h1; cases (PySem.W.mg_of X G aXNoRows).symm.trans h2; exact VS.exm_own icNoRows tyXNoRows sbNoRows_NoRows exXNoRows, fun A B h1 h2 => by cases (PySem.W.mg_of X G aXNoRows).symm.trans h1; cases (PySem.W.mg_of X G aXNoSide).symm.trans h2; exact VS.exm_own icNoSide tyXNoSide sbNoRows_NoSide exXNoSide, fun A B h1 h2 => by cases (PySem.W.mg_of X G aXNoRows).symm.trans h1; cases (PySem.W.mg_of X G aXNoSides).symm.trans h2; exact VS.exm_own icNoSides tyXNoSides sbNoRows_NoSides exXNoSides, fun A B h1 h2 => by cases (PySem.W.mg_of X G aXNoRows).symm.trans h1; cases (PySem.W.mg_of X G aXNoNumber).symm.trans h2; exact VS.exm_own icNoNumber tyXNoNumber sbNoRows_NoNumber exXNoNumber, fun A B h1 h2 => by cases (PySem.W.mg_of X G aXNoRows).symm.trans h1; cases (PySem.W.mg_of X G aXNoRow).symm.trans h2; exact VS.exm_own icNoRow tyXNoRow sbNoRows_NoRow exXNoRow, fun A B h1 h2 => by cases (PySem.W.mg_of X G aXNoSide).symm.trans h1; cases (PySem.W.mg_of X G aXNoRows).symm.trans h2; exact VS.exm_own icNoRows tyXNoRows sbNoSide_NoRows exXNoRows, fun A B h1 h2 => by cases (PySem.W.mg_of X G aXNoSide).symm.trans h1; cases (PySem.W.mg_of X G aXNoSide).symm.trans h2; exact VS.exm_own icNoSide tyXNoSide sbNoSide_NoSide exXNoSide, fun A B h1 h2 => by cases (PySem.W.mg_of X G aXNoSide).symm.trans h1; cases (PySem.W.mg_of X G aXNoSides).symm.trans h2; exact VS.exm_own icNoSides tyXNoSides sbNoSide_NoSides exXNoSides, fun A B h1 h2 => by cases (PySem.W.mg_of X G aXNoSide).symm.trans h1; cases (PySem.W.mg_of X G aXNoNumber).symm.trans h2; exact VS.exm_own icNoNumber tyXNoNumber sbNoSide_NoNumber exXNoNumber, fun A B h1 h2 => by cases (PySem.W.mg_of X G aXNoSide).symm.trans h1; cases (PySem.W.mg_of X G aXNoRow).symm.trans h2; exact VS.exm_own icNoRow tyXNoRow sbNoSide_NoRow exXNoRow, fun A B h1 h2 => by cases (PySem.W.mg_of X G aXNoSides).symm.trans h1; cases (PySem.W.mg_of X G aXNoRows).symm.trans h2; exact VS.exm_own icNoRows tyXNoRows sbNoSides_NoRows exXNoRows, fun A B h1 h2 => by cases (PySem.W.mg_of X G aXNoSides).symm.trans h1; cases (PySem.W.mg_of X G aXNoSide).symm.trans h2; exact VS.exm_own icNoSide tyXNoSide sbNoSides_NoSide exXNoSide, fun A B h1 h2 => by cases (PySem.W.mg_of X G aXNoSides).symm.trans h1; cases (PySem.W.mg_of X G aXNoSides).symm.trans h2; exact VS.exm_own icNoSides tyXNoSides sbNoSides_NoSides exXNoSides, fun A B h1 h2 => by cases (PySem.W.mg_of X G aXNoSides).symm.trans h1; cases (PySem.W.mg_of X G aXNoNumber).symm.trans h2; exact VS.exm_own icNoNumber tyXNoNumber sbNoSides_NoNumber exXNoNumber, fun A B h1 h2 => by cases (PySem.W.mg_of X G aXNoSides).symm.trans h1; cases (PySem.W.mg_of X G aXNoRow).symm.trans h2; exact VS.exm_own icNoRow tyXNoRow sbNoSides_NoRow exXNoRow, fun A B h1 h2 => by cases (PySem.W.mg_of X G aXNoNumber).symm.trans h1; cases (PySem.W.mg_of X G aXNoRows).symm.trans h2; exact VS.exm_own icNoRows tyXNoRows sbNoNumber_NoRows exXNoRows, fun A B h1 h2 => by cases (PySem.W.mg_of X G aXNoNumber).symm.trans h1; cases (PySem.W.mg_of X G aXNoSide).symm.trans h2; exact VS.exm_own icNoSide tyXNoSide sbNoNumber_NoSide exXNoSide, fun A B h1 h2 => by cases (PySem.W.mg_of X G aXNoNumber).symm.trans h1; cases (PySem.W.mg_of X G aXNoSides).symm.trans h2; exact VS.exm_own icNoSides tyXNoSides sbNoNumber_NoSides exXNoSides, fun A B h1 h2 => by cases (PySem.W.mg_of X G aXNoNumber).symm.trans h1; cases (PySem.W.mg_of X G aXNoNumber).symm.trans h2; exact VS.exm_own icNoNumber tyXNoNumber sbNoNumber_NoNumber exXNoNumber, fun A B h1 h2 => by cases (PySem.W.mg_of X G aXNoNumber).symm.trans h1; cases (PySem.W.mg_of X G aXNoRow).symm.trans h2; exact VS.exm_own icNoRow tyXNoRow sbNoNumber_NoRow exXNoRow, fun A B h1 h2 => by cases (PySem.W.mg_of X G aXNoRow).symm.trans h1; cases (PySem.W.mg_of X G aXNoRows).symm.trans h2; exact VS.exm_own icNoRows tyXNoRows sbNoRow_NoRows exXNoRows, fun A B h1 h2 => by cases (PySem.W.mg_of X G aXNoRow).symm.trans h1; cases (PySem.W.mg_of X G aXNoSide).symm.trans h2; exact VS.exm_own icNoSide tyXNoSide sbNoRow_NoSide exXNoSide, fun A B h1 h2 => by cases (PySem.W.mg_of X G aXNoRow).symm.trans h1; cases (PySem.W.mg_of X G aXNoSides).symm.trans h2; exact VS.exm_own icNoSides tyXNoSides sbNoRow_NoSides exXNoSides, fun A B h1 h2 => by cases (PySem.W.mg_of X G aXNoRow).symm.trans h1; cases (PySem.W.mg_of X G aXNoNumber).symm.trans h2; exact VS.exm_own icNoNumber tyXNoNumber sbNoRow_NoNumber exXNoNumber, fun A B h1 h2 => by cases (PySem.W.mg_of X G aXNoRow).symm.trans h1; cases (PySem.W.mg_of X G aXNoRow).symm.trans h2; exact VS.exm_own icNoRow tyXNoRow sbNoRow_NoRow exXNoRow⟩
  have k_PriceTable : Kl_PriceTable K mg C_PriceTable := ⟨PySem.W.mg_of X G aKPriceTable, ⟨⟨pgKPriceTable, hdKPriceTable, poKPriceTable, saKPriceTable⟩, haKPriceTable, hnO, htkO, hmKPriceTable, VS.kit_self⟩, nKPriceTable_kept, VS.kit_own rfl icKPriceTable tcKPriceTable zKPriceTable_int, VS.kit_own rfl icKPriceTable tcKPriceTable zKPriceTable_bool, VS.kit_own rfl icKPriceTable tcKPriceTable zKPriceTable_str, VS.kit_own rfl icKPriceTable tcKPriceTable zKPriceTable_NoneType, VS.kit_own rfl icKPriceTable tcKPriceTable zKPriceTable_list, VS.kit_own rfl icKPriceTable tcKPriceTable zKPriceTable_tuple, VS.kit_own rfl icKPriceTable tcKPriceTable zKPriceTable_dict, zKPriceTable_int, zKPriceTable_bool, zKPriceTable_str, zKPriceTable_NoneType, zKPriceTable_list, zKPriceTable_tuple, zKPriceTable_dict, mKPriceTable_0, mKPriceTable_1, mKPriceTable_2, mKPriceTable_3, mKPriceTable_4, mKPriceTable_5, mKPriceTable_6, mKPriceTable_7, mKPriceTable_8, (fun Z hZ => by cases (PySem.W.mg_of X G aKSides).symm.trans hZ; exact VS.kit_own (VS.own_ne a15 nKSides_rows) icKSides tcKSides mKPriceTable_9)⟩
  have k_Sides : Kl_Sides K mg C_Sides := ⟨PySem.W.mg_of X G aKSides, ⟨⟨pgKSides, hdKSides, poKSides, saKSides⟩, haKSides, hnO, htkO, hmKSides, VS.kit_self⟩, nKSides_three, nKSides_rows, VS.kit_own rfl icKSides tcKSides zKSides_int, VS.kit_own rfl icKSides tcKSides zKSides_bool, VS.kit_own rfl icKSides tcKSides zKSides_str, VS.kit_own rfl icKSides tcKSides zKSides_NoneType, VS.kit_own rfl icKSides tcKSides zKSides_list, VS.kit_own rfl icKSides tcKSides zKSides_tuple, VS.kit_own rfl icKSides tcKSides zKSides_dict⟩
  have F0 : VS.Fd K "is_whole" "is_whole" s_is_whole [] f0 _ := fd_mk l0 c0 k0
  have b0 : Binds K _ a_is_whole [] := F0.bindsN fun _ _ _ _ _ _ us hl => match us, hl with | [_, _, _], _ => rfl
  have F1 : VS.Fd K "__init__" "Sides.__init__" s_Sides___init__ [] f1 _ := fd_mk l1 c1 k1
  have b1 : Binds K _ a_Sides___init__ [] := F1.bindsN fun _ _ _ _ _ _ us hl => match us, hl with | [_, _, _, _], _ => rfl
  have F2 : VS.Fd K "told" "Sides.told" s_Sides_told [] f2 _ := fd_mk l2 c2 k2
  have b2 : Binds K _ a_Sides_told [] := F2.bindsN fun _ _ _ _ _ _ us hl => match us, hl with | [_], _ => rfl
  have F3 : VS.Fd K "ranked" "Sides.ranked" s_Sides_ranked [] f3 _ := fd_mk l3 c3 k3
  have b3 : Binds K _ a_Sides_ranked [] := F3.bindsN fun _ _ _ _ _ _ us hl => match us, hl with | [_], _ => rfl
  have F4 : VS.Fd K "is_limit" "is_limit" s_is_limit [] f4 _ := fd_mk l4 c4 k4
  have b4 : Binds K _ a_is_limit [] := F4.bindsN fun _ _ _ _ _ _ us hl => match us, hl with | [_, _, _], _ => rfl
  have F5 : VS.Fd K "is_row" "is_row" s_is_row [] f5 _ := fd_mk l5 c5 k5
  have b5 : Binds K _ a_is_row [] := F5.bindsN fun _ _ _ _ _ _ us hl => match us, hl with | [_], _ => rfl
  have F6 : VS.Fd K "passed" "passed" s_passed [] f6 _ := fd_mk l6 c6 k6
  have b6 : Binds K _ a_passed [] := F6.bindsN fun _ _ _ _ _ _ us hl => match us, hl with | [_, _], _ => rfl
  have F7 : VS.Fd K "row_at" "row_at" s_row_at [] f7 _ := fd_mk l7 c7 k7
  have b7 : Binds K _ a_row_at [] := F7.bindsN fun _ _ _ _ _ _ us hl => match us, hl with | [_, _], _ => rfl
  have F8 : VS.Fd K "price_at" "price_at" s_price_at [] f8 _ := fd_mk l8 c8 k8
  have b8 : Binds K _ a_price_at [] := F8.bindsN fun _ _ _ _ _ _ us hl => match us, hl with | [_, _], _ => rfl
  have F9 : VS.Fd K "values_of" "values_of" s_values_of [] f9 _ := fd_mk l9 c9 k9
  have b9 : Binds K _ a_values_of [] := F9.bindsN fun _ _ _ _ _ _ us hl => match us, hl with | [_, _, _, _], _ => rfl
  have F10 : VS.Fd K "merged" "merged" s_merged [] f10 _ := fd_mk l10 c10 k10
  have b10 : Binds K _ a_merged [] := F10.bindsN fun _ _ _ _ _ _ us hl => match us, hl with | [_, _], _ => rfl
  have F12 : VS.Fd K "least_place" "least_place" s_least_place [] f12 _ := fd_mk l12 c12 k12
  have b12 : Binds K _ a_least_place [] := F12.bindsN fun _ _ _ _ _ _ us hl => match us, hl with | [_, _], _ => rfl
  have F13 : VS.Fd K "parts_at" "parts_at" s_parts_at [] f13 _ := fd_mk l13 c13 k13
  have b13 : Binds K _ a_parts_at [] := F13.bindsN fun _ _ _ _ _ _ us hl => match us, hl with | [_, _], _ => rfl
  have F14 : VS.Fd K "__init__" "PriceTable.__init__" s_PriceTable___init__ [] f14 _ := fd_mk l14 c14 k14
  have b14 : Binds K _ a_PriceTable___init__ [] := F14.bindsN fun _ _ _ _ _ _ us hl => match us, hl with | [_, _], _ => rfl
  have F15 : VS.Fd K "rows" "PriceTable.rows" s_PriceTable_rows [] f15 _ := fd_mk l15 c15 k15
  have b15 : Binds K _ a_PriceTable_rows [] := F15.bindsN fun _ _ _ _ _ _ us hl => match us, hl with | [_], _ => rfl
  have F16 : VS.Fd K "__eq__" "PriceTable.__eq__" s_PriceTable___eq__ [] f16 _ := fd_mk l16 c16 k16
  have b16 : Binds K _ a_PriceTable___eq__ [] := F16.bindsN fun _ _ _ _ _ _ us hl => match us, hl with | [_, _], _ => rfl
  have F17 : VS.Fd K "row_of" "PriceTable.row_of" s_PriceTable_row_of [] f17 _ := fd_mk l17 c17 k17
  have b17 : Binds K _ a_PriceTable_row_of [] := F17.bindsN fun _ _ _ _ _ _ us hl => match us, hl with | [_, _, _], _ => rfl
  have F18 : VS.Fd K "_law_cell" "_law_cell" s__law_cell [] f18 _ := fd_mk l18 c18 k18
  have b18 : Binds K _ a__law_cell [] := F18.bindsN fun _ _ _ _ _ _ us hl => match us, hl with | [_, _], _ => rfl
  have F19 : VS.Fd K "_law_purse" "_law_purse" s__law_purse [] f19 _ := fd_mk l19 c19 k19
  have b19 : Binds K _ a__law_purse [] := F19.bindsN fun _ _ _ _ _ _ us hl => match us, hl with | [_], _ => rfl
  have F20 : VS.Fd K "_law_take" "_law_take" s__law_take [] f20 _ := fd_mk l20 c20 k20
  have b20 : Binds K _ a__law_take [] := F20.bindsN fun _ _ _ _ _ _ us hl => match us, hl with | [_, _], _ => rfl
  have F21 : VS.Fd K "_law_limit" "_law_limit" s__law_limit [] f21 _ := fd_mk l21 c21 k21
  have b21 : Binds K _ a__law_limit [] := F21.bindsN fun _ _ _ _ _ _ us hl => match us, hl with | [_, _, _, _], _ => rfl
  have F22 : VS.Fd K "_law_rows" "_law_rows" s__law_rows [] f22 _ := fd_mk l22 c22 k22
  have b22 : Binds K _ a__law_rows [] := F22.bindsN fun _ _ _ _ _ _ us hl => match us, hl with | [_, _, _], _ => rfl
  have F23 : VS.Fd K "_law_place" "_law_place" s__law_place [] f23 _ := fd_mk l23 c23 k23
  have b23 : Binds K _ a__law_place [] := F23.bindsN fun _ _ _ _ _ _ us hl => match us, hl with | [_, _], _ => rfl
  have F24 : VS.Fd K "_law_due" "_law_due" s__law_due [] f24 _ := fd_mk l24 c24 k24
  have b24 : Binds K _ a__law_due [] := F24.bindsN fun _ _ _ _ _ _ us hl => match us, hl with | [_, _, _], _ => rfl
  have F25 : VS.Fd K "_law_asked" "_law_asked" s__law_asked [] f25 _ := fd_mk l25 c25 k25
  have b25 : Binds K _ a__law_asked [] := F25.bindsN fun _ _ _ _ _ _ us hl => match us, hl with | [_, _, _], _ => rfl
  have F26 : VS.Fd K "_law_refused_right" "_law_refused_right" s__law_refused_right [] f26 _ := fd_mk l26 c26 k26
  have b26 : Binds K _ a__law_refused_right [] := F26.bindsN fun _ _ _ _ _ _ us hl => match us, hl with | [_, _], _ => rfl
  have F27 : VS.Fd K "law" "law" s_law [] fa _ := fd_mk l27 c27 k27
  have FXNoRows : VS.Fd K "__init__" "NoRows.__init__" s_NoRows___init__ [] fXNoRows _ := fd_mk lXNoRows cXNoRows kXNoRows
  have bXNoRows : Binds K _ a_NoRows___init__ [] := FXNoRows.bindsN fun _ _ _ _ _ _ us hl => match us, hl with | [_, _], _ => rfl
  have FXNoSide : VS.Fd K "__init__" "NoSide.__init__" s_NoSide___init__ [] fXNoSide _ := fd_mk lXNoSide cXNoSide kXNoSide
  have bXNoSide : Binds K _ a_NoSide___init__ [] := FXNoSide.bindsN fun _ _ _ _ _ _ us hl => match us, hl with | [_, _], _ => rfl
  have FXNoSides : VS.Fd K "__init__" "NoSides.__init__" s_NoSides___init__ [] fXNoSides _ := fd_mk lXNoSides cXNoSides kXNoSides
  have bXNoSides : Binds K _ a_NoSides___init__ [] := FXNoSides.bindsN fun _ _ _ _ _ _ us hl => match us, hl with | [_, _], _ => rfl
  have FXNoNumber : VS.Fd K "__init__" "NoNumber.__init__" s_NoNumber___init__ [] fXNoNumber _ := fd_mk lXNoNumber cXNoNumber kXNoNumber
  have bXNoNumber : Binds K _ a_NoNumber___init__ [] := FXNoNumber.bindsN fun _ _ _ _ _ _ us hl => match us, hl with | [_, _], _ => rfl
  have FXNoRow : VS.Fd K "__init__" "NoRow.__init__" s_NoRow___init__ [] fXNoRow _ := fd_mk lXNoRow cXNoRow kXNoRow
  have bXNoRow : Binds K _ a_NoRow___init__ [] := FXNoRow.bindsN fun _ _ _ _ _ _ us hl => match us, hl with | [_, _], _ => rfl
  refine ⟨_, [(c_Pl, Pl, "parts_at.<locals>.unlike")], _, p_law Pl, (VS.TabS0.one (c := c_Pl) (P := Pl) (q := "parts_at.<locals>.unlike")), fun p hp => (by simp only [List.mem_cons, List.not_mem_nil, or_false] at hp; rcases hp with rfl <;> first | exact ⟨n_Pl, h_Pl, m_Pl⟩), fun s u => F27.bindsA (ps := ["_law_script"]) (fun _ _ _ _ _ _ us hl => match us, hl with | [_], _ => rfl) s [u] rfl, fun ns h => ⟨ns, rfl, h, if_pos rfl, fun _ => rfl⟩, fun base _ _ hsys htb => ?_⟩
  have tab_Pl : VS.TabF K mg base f13 c_Pl Pl := ⟨⟨_, _, l13, rfl, e_Pl⟩, htb (c_Pl, Pl, "parts_at.<locals>.unlike") (by simp only [List.mem_cons, true_or, or_true])⟩
  have oxXNoRows : VS.OexG K C_NoRows := ⟨⟨nmXNoRows, qnXNoRows, NXNoRows, bsXNoRows, _, snXNoRows, suXNoRows, abXNoRows, coXNoRows, ddXNoRows, k0XNoRows, k1XNoRows, k2XNoRows, k3XNoRows, k5XNoRows, _, xXNoRows, VS.bmG_VE.up⟩, saXNoRows, exXNoRows, tyXNoRows, kcXNoRows⟩
  have x_NoRows : VS.Xc l.prog w K mg base "NoRows" C_NoRows "found" := ⟨oxXNoRows, ⟨gaXNoRows, ggXNoRows, exXNoRows, hdXNoRows⟩, noXNoRows, PySem.W.mg_of X G aXNoRows, fXNoRows, _, _, iXNoRows, tXNoRows, VS.xinit_ok (f := "found") FXNoRows sc_NoRows___init__ rfl oxXNoRows noXNoRows (fun cdv A outer s H E => pss_one (VS.ps_ostG (pv 0) (pv 1))), bXNoRows⟩
  have oxXNoSide : VS.OexG K C_NoSide := ⟨⟨nmXNoSide, qnXNoSide, NXNoSide, bsXNoSide, _, snXNoSide, suXNoSide, abXNoSide, coXNoSide, ddXNoSide, k0XNoSide, k1XNoSide, k2XNoSide, k3XNoSide, k5XNoSide, _, xXNoSide, VS.bmG_VE.up⟩, saXNoSide, exXNoSide, tyXNoSide, kcXNoSide⟩
  have x_NoSide : VS.Xc l.prog w K mg base "NoSide" C_NoSide "found" := ⟨oxXNoSide, ⟨gaXNoSide, ggXNoSide, exXNoSide, hdXNoSide⟩, noXNoSide, PySem.W.mg_of X G aXNoSide, fXNoSide, _, _, iXNoSide, tXNoSide, VS.xinit_ok (f := "found") FXNoSide sc_NoSide___init__ rfl oxXNoSide noXNoSide (fun cdv A outer s H E => pss_one (VS.ps_ostG (pv 0) (pv 1))), bXNoSide⟩
  have oxXNoSides : VS.OexG K C_NoSides := ⟨⟨nmXNoSides, qnXNoSides, NXNoSides, bsXNoSides, _, snXNoSides, suXNoSides, abXNoSides, coXNoSides, ddXNoSides, k0XNoSides, k1XNoSides, k2XNoSides, k3XNoSides, k5XNoSides, _, xXNoSides, VS.bmG_VE.up⟩, saXNoSides, exXNoSides, tyXNoSides, kcXNoSides⟩
  have x_NoSides : VS.Xc l.prog w K mg base "NoSides" C_NoSides "found" := ⟨oxXNoSides, ⟨gaXNoSides, ggXNoSides, exXNoSides, hdXNoSides⟩, noXNoSides, PySem.W.mg_of X G aXNoSides, fXNoSides, _, _, iXNoSides, tXNoSides, VS.xinit_ok (f := "found") FXNoSides sc_NoSides___init__ rfl oxXNoSides noXNoSides (fun cdv A outer s H E => pss_one (VS.ps_ostG (pv 0) (pv 1))), bXNoSides⟩
  have oxXNoNumber : VS.OexG K C_NoNumber := ⟨⟨nmXNoNumber, qnXNoNumber, NXNoNumber, bsXNoNumber, _, snXNoNumber, suXNoNumber, abXNoNumber, coXNoNumber, ddXNoNumber, k0XNoNumber, k1XNoNumber, k2XNoNumber, k3XNoNumber, k5XNoNumber, _, xXNoNumber, VS.bmG_VE.up⟩, saXNoNumber, exXNoNumber, tyXNoNumber, kcXNoNumber⟩
  have x_NoNumber : VS.Xc l.prog w K mg base "NoNumber" C_NoNumber "found" := ⟨oxXNoNumber, ⟨gaXNoNumber, ggXNoNumber, exXNoNumber, hdXNoNumber⟩, noXNoNumber, PySem.W.mg_of X G aXNoNumber, fXNoNumber, _, _, iXNoNumber, tXNoNumber, VS.xinit_ok (f := "found") FXNoNumber sc_NoNumber___init__ rfl oxXNoNumber noXNoNumber (fun cdv A outer s H E => pss_one (VS.ps_ostG (pv 0) (pv 1))), bXNoNumber⟩
  have oxXNoRow : VS.OexG K C_NoRow := ⟨⟨nmXNoRow, qnXNoRow, NXNoRow, bsXNoRow, _, snXNoRow, suXNoRow, abXNoRow, coXNoRow, ddXNoRow, k0XNoRow, k1XNoRow, k2XNoRow, k3XNoRow, k5XNoRow, _, xXNoRow, VS.bmG_LE.up⟩, saXNoRow, exXNoRow, tyXNoRow, kcXNoRow⟩
  have x_NoRow : VS.Xc l.prog w K mg base "NoRow" C_NoRow "reasons" := ⟨oxXNoRow, ⟨gaXNoRow, ggXNoRow, exXNoRow, hdXNoRow⟩, noXNoRow, PySem.W.mg_of X G aXNoRow, fXNoRow, _, _, iXNoRow, tXNoRow, VS.xinit_ok (f := "reasons") FXNoRow sc_NoRow___init__ rfl oxXNoRow noXNoRow (fun cdv A outer s H E => pss_one (VS.ps_ostG (pv 0) (pv 1))), bXNoRow⟩
  have c_is_whole : VS.Cf l.prog w K mg base (L2.CX l.prog w) 1 "is_whole" s_is_whole [] a_is_whole (p_is_whole K) f0 _ := ⟨ok_is_whole (C_PriceTable := C_PriceTable) (C_Sides := C_Sides) (C_NoRows := C_NoRows) (C_NoSide := C_NoSide) (C_NoSides := C_NoSides) (C_NoNumber := C_NoNumber) (C_NoRow := C_NoRow) (Pl := Pl) F0 T hsys, F0, PySem.W.mg_of X G a0, b0⟩
  have c_Sides : VS.Kf l.prog w K mg base 3 "Sides" C_Sides "Sides.__init__" s_Sides___init__ [] a_Sides___init__ (p_Sides_init K C_Sides C_NoSide) f1 _ := ⟨⟨mk1, a1, i1, kc1⟩, ok_Sides___init__ (C_PriceTable := C_PriceTable) (C_Sides := C_Sides) (C_NoRows := C_NoRows) (C_NoSide := C_NoSide) (C_NoSides := C_NoSides) (C_NoNumber := C_NoNumber) (C_NoRow := C_NoRow) (Pl := Pl) F1 T hsys c_is_whole x_NoSide k_Sides, F1, k_Sides.at_, b1⟩
  have c_Sides_told : VS.Mf l.prog w K mg base 1 C_Sides "told" "Sides.told" s_Sides_told [] a_Sides_told (p_told C_Sides) f2 _ := ⟨ok_Sides_told (C_PriceTable := C_PriceTable) (C_Sides := C_Sides) (C_NoRows := C_NoRows) (C_NoSide := C_NoSide) (C_NoSides := C_NoSides) (C_NoNumber := C_NoNumber) (C_NoRow := C_NoRow) (Pl := Pl) F2 T hsys k_Sides, F2, k_Sides.ins.cl, ⟨a2, i2, k2⟩, b2⟩
  have c_Sides_ranked : VS.Mf l.prog w K mg base 1 C_Sides "ranked" "Sides.ranked" s_Sides_ranked [] a_Sides_ranked (p_ranked C_Sides) f3 _ := ⟨ok_Sides_ranked (C_PriceTable := C_PriceTable) (C_Sides := C_Sides) (C_NoRows := C_NoRows) (C_NoSide := C_NoSide) (C_NoSides := C_NoSides) (C_NoNumber := C_NoNumber) (C_NoRow := C_NoRow) (Pl := Pl) F3 T hsys k_Sides, F3, k_Sides.ins.cl, ⟨a3, i3, k3⟩, b3⟩
  have c_is_limit : VS.Cf l.prog w K mg base (L2.CX l.prog w) 2 "is_limit" s_is_limit [] a_is_limit p_is_limit f4 _ := ⟨ok_is_limit (C_PriceTable := C_PriceTable) (C_Sides := C_Sides) (C_NoRows := C_NoRows) (C_NoSide := C_NoSide) (C_NoSides := C_NoSides) (C_NoNumber := C_NoNumber) (C_NoRow := C_NoRow) (Pl := Pl) F4 T hsys c_is_whole, F4, PySem.W.mg_of X G a4, b4⟩
  have c_is_row : VS.Cf l.prog w K mg base (L2.CX l.prog w) 3 "is_row" s_is_row [] a_is_row p_is_row f5 _ := ⟨ok_is_row (C_PriceTable := C_PriceTable) (C_Sides := C_Sides) (C_NoRows := C_NoRows) (C_NoSide := C_NoSide) (C_NoSides := C_NoSides) (C_NoNumber := C_NoNumber) (C_NoRow := C_NoRow) (Pl := Pl) F5 T hsys c_is_whole c_is_limit, F5, PySem.W.mg_of X G a5, b5⟩
  have c_passed : VS.Cf l.prog w K mg base (L2.CX l.prog w) 1 "passed" s_passed [] a_passed p_passed f6 _ := ⟨ok_passed (C_PriceTable := C_PriceTable) (C_Sides := C_Sides) (C_NoRows := C_NoRows) (C_NoSide := C_NoSide) (C_NoSides := C_NoSides) (C_NoNumber := C_NoNumber) (C_NoRow := C_NoRow) (Pl := Pl) F6 T hsys, F6, PySem.W.mg_of X G a6, b6⟩
  have c_row_at : VS.Cf l.prog w K mg base (L2.CX l.prog w) 2 "row_at" s_row_at [] a_row_at p_row_at f7 _ := ⟨ok_row_at (C_PriceTable := C_PriceTable) (C_Sides := C_Sides) (C_NoRows := C_NoRows) (C_NoSide := C_NoSide) (C_NoSides := C_NoSides) (C_NoNumber := C_NoNumber) (C_NoRow := C_NoRow) (Pl := Pl) F7 T hsys c_passed, F7, PySem.W.mg_of X G a7, b7⟩
  have c_price_at : VS.Cf l.prog w K mg base (L2.CX l.prog w) 3 "price_at" s_price_at [] a_price_at p_price_at f8 _ := ⟨ok_price_at (C_PriceTable := C_PriceTable) (C_Sides := C_Sides) (C_NoRows := C_NoRows) (C_NoSide := C_NoSide) (C_NoSides := C_NoSides) (C_NoNumber := C_NoNumber) (C_NoRow := C_NoRow) (Pl := Pl) F8 T hsys c_row_at, F8, PySem.W.mg_of X G a8, b8⟩
  have c_values_of : VS.Cf l.prog w K mg base (L2.CX l.prog w) 1 "values_of" s_values_of [] a_values_of p_values_of f9 _ := ⟨ok_values_of (C_PriceTable := C_PriceTable) (C_Sides := C_Sides) (C_NoRows := C_NoRows) (C_NoSide := C_NoSide) (C_NoSides := C_NoSides) (C_NoNumber := C_NoNumber) (C_NoRow := C_NoRow) (Pl := Pl) F9 T hsys, F9, PySem.W.mg_of X G a9, b9⟩
  have c_merged : VS.Cf l.prog w K mg base (L2.CX l.prog w) 1 "merged" s_merged [] a_merged p_merged f10 _ := ⟨ok_merged (C_PriceTable := C_PriceTable) (C_Sides := C_Sides) (C_NoRows := C_NoRows) (C_NoSide := C_NoSide) (C_NoSides := C_NoSides) (C_NoNumber := C_NoNumber) (C_NoRow := C_NoRow) (Pl := Pl) F10 T hsys, F10, PySem.W.mg_of X G a10, b10⟩
  have c_parts_at_unlike := fun (cl : List (Str × Addr)) (c' : Addr) => ok_parts_at_unlike (P := l.prog) (w := w) (K := K) (mg := mg) (base := base) (C_PriceTable := C_PriceTable) (C_Sides := C_Sides) (C_NoRows := C_NoRows) (C_NoSide := C_NoSide) (C_NoSides := C_NoSides) (C_NoNumber := C_NoNumber) (C_NoRow := C_NoRow) (Pl := Pl) T hsys c_price_at cl c'
  have c_least_place : VS.CfC l.prog w K mg base 6 "least_place" s_least_place a_least_place (p_least l.prog w K mg base) f12 _ := ⟨ok_least_place (C_PriceTable := C_PriceTable) (C_Sides := C_Sides) (C_NoRows := C_NoRows) (C_NoSide := C_NoSide) (C_NoSides := C_NoSides) (C_NoNumber := C_NoNumber) (C_NoRow := C_NoRow) (Pl := Pl) F12 T hsys c_values_of c_merged, F12, PySem.W.mg_of X G a12, b12⟩
  have c_parts_at : VS.Cf l.prog w K mg base (L2.CX l.prog w) 8 "parts_at" s_parts_at [] a_parts_at (p_parts_at Pl) f13 _ := ⟨ok_parts_at (C_PriceTable := C_PriceTable) (C_Sides := C_Sides) (C_NoRows := C_NoRows) (C_NoSide := C_NoSide) (C_NoSides := C_NoSides) (C_NoNumber := C_NoNumber) (C_NoRow := C_NoRow) (Pl := Pl) F13 T hsys tab_Pl c_parts_at_unlike c_least_place, F13, PySem.W.mg_of X G a13, b13⟩
  have c_PriceTable : VS.Kf l.prog w K mg base 4 "PriceTable" C_PriceTable "PriceTable.__init__" s_PriceTable___init__ [] a_PriceTable___init__ (p_PT_init C_PriceTable C_NoRows) f14 _ := ⟨⟨mk14, a14, i14, kc14⟩, ok_PriceTable___init__ (C_PriceTable := C_PriceTable) (C_Sides := C_Sides) (C_NoRows := C_NoRows) (C_NoSide := C_NoSide) (C_NoSides := C_NoSides) (C_NoNumber := C_NoNumber) (C_NoRow := C_NoRow) (Pl := Pl) F14 T hsys c_is_row x_NoRows k_PriceTable, F14, k_PriceTable.at_, b14⟩
  have c_PriceTable_rows : VS.Mf l.prog w K mg base 1 C_PriceTable "rows" "PriceTable.rows" s_PriceTable_rows [] a_PriceTable_rows (p_PT_rowsV C_PriceTable) f15 _ := ⟨ok_PriceTable_rows (C_PriceTable := C_PriceTable) (C_Sides := C_Sides) (C_NoRows := C_NoRows) (C_NoSide := C_NoSide) (C_NoSides := C_NoSides) (C_NoNumber := C_NoNumber) (C_NoRow := C_NoRow) (Pl := Pl) F15 T hsys k_PriceTable, F15, k_PriceTable.ins.cl, ⟨a15, i15, k15⟩, b15⟩
  have c_PriceTable___eq__ : VS.Mf l.prog w K mg base 9 C_PriceTable "__eq__" "PriceTable.__eq__" s_PriceTable___eq__ [] a_PriceTable___eq__ (p_PT_eq Pl K C_PriceTable) f16 _ := ⟨ok_PriceTable___eq__ (C_PriceTable := C_PriceTable) (C_Sides := C_Sides) (C_NoRows := C_NoRows) (C_NoSide := C_NoSide) (C_NoSides := C_NoSides) (C_NoNumber := C_NoNumber) (C_NoRow := C_NoRow) (Pl := Pl) F16 T hsys c_parts_at k_PriceTable, F16, k_PriceTable.ins.cl, ⟨a16, i16, k16⟩, b16⟩
  have c_PriceTable_row_of : VS.Mf l.prog w K mg base 3 C_PriceTable "row_of" "PriceTable.row_of" s_PriceTable_row_of [] a_PriceTable_row_of (p_row_of K C_PriceTable C_Sides C_NoSides C_NoNumber C_NoRow) f17 _ := ⟨ok_PriceTable_row_of (C_PriceTable := C_PriceTable) (C_Sides := C_Sides) (C_NoRows := C_NoRows) (C_NoSide := C_NoSide) (C_NoSides := C_NoSides) (C_NoNumber := C_NoNumber) (C_NoRow := C_NoRow) (Pl := Pl) F17 T hsys c_is_whole c_passed c_Sides_ranked x_NoSides x_NoNumber x_NoRow k_Sides k_PriceTable, F17, k_PriceTable.ins.cl, ⟨a17, i17, k17⟩, b17⟩
  have c__law_cell : VS.Cf l.prog w K mg base (L2.CX l.prog w) 1 "_law_cell" s__law_cell [] a__law_cell p__law_cell f18 _ := ⟨ok__law_cell (C_PriceTable := C_PriceTable) (C_Sides := C_Sides) (C_NoRows := C_NoRows) (C_NoSide := C_NoSide) (C_NoSides := C_NoSides) (C_NoNumber := C_NoNumber) (C_NoRow := C_NoRow) (Pl := Pl) F18 T hsys, F18, PySem.W.mg_of X G a18, b18⟩
  have c__law_purse : VS.Cf l.prog w K mg base (L2.CX l.prog w) 1 "_law_purse" s__law_purse [] a__law_purse p__law_purse f19 _ := ⟨ok__law_purse (C_PriceTable := C_PriceTable) (C_Sides := C_Sides) (C_NoRows := C_NoRows) (C_NoSide := C_NoSide) (C_NoSides := C_NoSides) (C_NoNumber := C_NoNumber) (C_NoRow := C_NoRow) (Pl := Pl) F19 T hsys, F19, PySem.W.mg_of X G a19, b19⟩
  have c__law_take : VS.Cf l.prog w K mg base (L2.CX l.prog w) 1 "_law_take" s__law_take [] a__law_take p__law_take f20 _ := ⟨ok__law_take (C_PriceTable := C_PriceTable) (C_Sides := C_Sides) (C_NoRows := C_NoRows) (C_NoSide := C_NoSide) (C_NoSides := C_NoSides) (C_NoNumber := C_NoNumber) (C_NoRow := C_NoRow) (Pl := Pl) F20 T hsys, F20, PySem.W.mg_of X G a20, b20⟩
  have c__law_limit : VS.Cf l.prog w K mg base (L2.CX l.prog w) 2 "_law_limit" s__law_limit [] a__law_limit p__law_limit f21 _ := ⟨ok__law_limit (C_PriceTable := C_PriceTable) (C_Sides := C_Sides) (C_NoRows := C_NoRows) (C_NoSide := C_NoSide) (C_NoSides := C_NoSides) (C_NoNumber := C_NoNumber) (C_NoRow := C_NoRow) (Pl := Pl) F21 T hsys c__law_take, F21, PySem.W.mg_of X G a21, b21⟩
  have c__law_rows : VS.Cf l.prog w K mg base (L2.CX l.prog w) 3 "_law_rows" s__law_rows [] a__law_rows p__law_rows f22 _ := ⟨ok__law_rows (C_PriceTable := C_PriceTable) (C_Sides := C_Sides) (C_NoRows := C_NoRows) (C_NoSide := C_NoSide) (C_NoSides := C_NoSides) (C_NoNumber := C_NoNumber) (C_NoRow := C_NoRow) (Pl := Pl) F22 T hsys c__law_take c__law_limit, F22, PySem.W.mg_of X G a22, b22⟩
  have c__law_place : VS.Cf l.prog w K mg base (L2.CX l.prog w) 2 "_law_place" s__law_place [] a__law_place p__law_place f23 _ := ⟨ok__law_place (C_PriceTable := C_PriceTable) (C_Sides := C_Sides) (C_NoRows := C_NoRows) (C_NoSide := C_NoSide) (C_NoSides := C_NoSides) (C_NoNumber := C_NoNumber) (C_NoRow := C_NoRow) (Pl := Pl) F23 T hsys c__law_take, F23, PySem.W.mg_of X G a23, b23⟩
  have c__law_due : VS.Cf l.prog w K mg base (L2.CX l.prog w) 1 "_law_due" s__law_due [] a__law_due p__law_due f24 _ := ⟨ok__law_due (C_PriceTable := C_PriceTable) (C_Sides := C_Sides) (C_NoRows := C_NoRows) (C_NoSide := C_NoSide) (C_NoSides := C_NoSides) (C_NoNumber := C_NoNumber) (C_NoRow := C_NoRow) (Pl := Pl) F24 T hsys, F24, PySem.W.mg_of X G a24, b24⟩
  have c__law_asked : VS.Cf l.prog w K mg base (L2.CX l.prog w) 5 "_law_asked" s__law_asked [] a__law_asked (p_asked52 K C_PriceTable C_Sides) f25 _ := ⟨ok__law_asked (C_PriceTable := C_PriceTable) (C_Sides := C_Sides) (C_NoRows := C_NoRows) (C_NoSide := C_NoSide) (C_NoSides := C_NoSides) (C_NoNumber := C_NoNumber) (C_NoRow := C_NoRow) (Pl := Pl) F25 T hsys c_PriceTable_row_of x_NoSides x_NoNumber x_NoRow k_PriceTable k_Sides, F25, PySem.W.mg_of X G a25, b25⟩
  have c__law_refused_right : VS.Cf l.prog w K mg base (L2.CX l.prog w) 10 "_law_refused_right" s__law_refused_right [] a__law_refused_right (p_refused52 Pl K C_PriceTable) f26 _ := ⟨ok__law_refused_right (C_PriceTable := C_PriceTable) (C_Sides := C_Sides) (C_NoRows := C_NoRows) (C_NoSide := C_NoSide) (C_NoSides := C_NoSides) (C_NoNumber := C_NoNumber) (C_NoRow := C_NoRow) (Pl := Pl) F26 T hsys c__law_take c__law_asked c_PriceTable___eq__ c_Sides k_PriceTable k_Sides, F26, PySem.W.mg_of X G a26, b26⟩
  exact ok_law (C_PriceTable := C_PriceTable) (C_Sides := C_Sides) (C_NoRows := C_NoRows) (C_NoSide := C_NoSide) (C_NoSides := C_NoSides) (C_NoNumber := C_NoNumber) (C_NoRow := C_NoRow) (Pl := Pl) F27 T hsys c__law_cell c__law_purse c__law_take c__law_rows c__law_refused_right c__law_place c__law_asked c__law_due c_Sides c_Sides_told c_PriceTable c_PriceTable_rows k_PriceTable k_Sides
end LW
open PySem PySem.W PyProof.Rows in
set_option maxRecDepth 100000 in
set_option maxHeartbeats 0 in
theorem PySem.Challenge.cw_boxinbox_k52_rows_and_reasons_holds : PySem.Challenge.rw_boxinbox_k52_rows_and_reasons.Holds := by
  w_on; o_law; k_head; (case hw => w_witness2)
  k_fill
  refine VS.walk_valT (l := PySem.Challenge.rw_boxinbox_k52_rows_and_reasons) (n := 63) (k := 12) (x := "_law_script") (CX := fun w => L2.CX (PySem.Challenge.rw_boxinbox_k52_rows_and_reasons).prog w) rfl (by decide) rfl ⟨rfl, by decide, by decide⟩ (by first | rfl | decide +kernel) (fun w h Y => ⟨PySem.W.km_in_of Y, PySem.W.km_tabs_of Y⟩) ?F (fun _ _ _ _ _ z => by obtain ⟨_, _, _, _, _, _, _, _, _, _, _, _, q⟩ := z; exact q)
  case F =>
    intro w mg fa h KX G hmg
    refine' LW.all_mk KX G hmg ?aKPriceTable ?pgKPriceTable ?hdKPriceTable ?poKPriceTable ?saKPriceTable ?haKPriceTable ?hmKPriceTable ?icKPriceTable ?tcKPriceTable ?nKPriceTable_kept ?zKPriceTable_int ?zKPriceTable_bool ?zKPriceTable_str ?zKPriceTable_NoneType ?zKPriceTable_list ?zKPriceTable_tuple ?zKPriceTable_dict ?mKPriceTable_0 ?mKPriceTable_1 ?mKPriceTable_2 ?mKPriceTable_3 ?mKPriceTable_4 ?mKPriceTable_5 ?mKPriceTable_6 ?mKPriceTable_7 ?mKPriceTable_8 ?mKPriceTable_9 ?aKSides ?pgKSides ?hdKSides ?poKSides ?saKSides ?haKSides ?hmKSides ?icKSides ?tcKSides ?nKSides_three ?nKSides_rows ?zKSides_int ?zKSides_bool ?zKSides_str ?zKSides_NoneType ?zKSides_list ?zKSides_tuple ?zKSides_dict ?hnO ?htkO ?aXNoRows ?xXNoRows ?saXNoRows ?gaXNoRows ?ggXNoRows ?noXNoRows ?exXNoRows ?tyXNoRows ?kcXNoRows ?hdXNoRows ?iXNoRows ?tXNoRows ?lXNoRows ?cXNoRows ?kXNoRows ?aXNoSide ?xXNoSide ?saXNoSide ?gaXNoSide ?ggXNoSide ?noXNoSide ?exXNoSide ?tyXNoSide ?kcXNoSide ?hdXNoSide ?iXNoSide ?tXNoSide ?lXNoSide ?cXNoSide ?kXNoSide ?aXNoSides ?xXNoSides ?saXNoSides ?gaXNoSides ?ggXNoSides ?noXNoSides ?exXNoSides ?tyXNoSides ?kcXNoSides ?hdXNoSides ?iXNoSides ?tXNoSides ?lXNoSides ?cXNoSides ?kXNoSides ?aXNoNumber ?xXNoNumber ?saXNoNumber ?gaXNoNumber ?ggXNoNumber ?noXNoNumber ?exXNoNumber ?tyXNoNumber ?kcXNoNumber ?hdXNoNumber ?iXNoNumber ?tXNoNumber ?lXNoNumber ?cXNoNumber ?kXNoNumber ?aXNoRow ?xXNoRow ?saXNoRow ?gaXNoRow ?ggXNoRow ?noXNoRow ?exXNoRow ?tyXNoRow ?kcXNoRow ?hdXNoRow ?iXNoRow ?tXNoRow ?lXNoRow ?cXNoRow ?kXNoRow ?a0 ?l0 ?c0 ?k0 ?a1 ?i1 ?l1 ?c1 ?k1 ?mk1 ?kc1 ?a2 ?i2 ?l2 ?c2 ?k2 ?a3 ?i3 ?l3 ?c3 ?k3 ?a4 ?l4 ?c4 ?k4 ?a5 ?l5 ?c5 ?k5 ?a6 ?l6 ?c6 ?k6 ?a7 ?l7 ?c7 ?k7 ?a8 ?l8 ?c8 ?k8 ?a9 ?l9 ?c9 ?k9 ?a10 ?l10 ?c10 ?k10 ?a12 ?l12 ?c12 ?k12 ?a13 ?l13 ?c13 ?k13 ?a14 ?i14 ?l14 ?c14 ?k14 ?mk14 ?kc14 ?a15 ?i15 ?l15 ?c15 ?k15 ?a16 ?i16 ?l16 ?c16 ?k16 ?a17 ?i17 ?l17 ?c17 ?k17 ?a18 ?l18 ?c18 ?k18 ?a19 ?l19 ?c19 ?k19 ?a20 ?l20 ?c20 ?k20 ?a21 ?l21 ?c21 ?k21 ?a22 ?l22 ?c22 ?k22 ?a23 ?l23 ?c23 ?k23 ?a24 ?l24 ?c24 ?k24 ?a25 ?l25 ?c25 ?k25 ?a26 ?l26 ?c26 ?k26 ?a27 ?l27 ?c27 ?k27 ?e_Pl ?l_Pl ?p_Pl ?h_Pl ?n_Pl ?m_Pl ?z_all ?z_bool ?z_enumerate ?z_int ?z_isinstance ?z_len ?z_list ?z_max ?z_min ?z_range ?z_repr ?z_reversed ?z_set ?z_sorted ?z_tuple ?z_zip ?z_MOST_PRICE ?z_MOST_ROWS ?z_MOST_SIDE_grids ?z_MOST_SIDE_sides ?z_MOST_WEIGHT ?icNoRows ?icNoSide ?icNoSides ?icNoNumber ?icNoRow ?sbNoRows_NoRows ?sbNoRows_NoSide ?sbNoRows_NoSides ?sbNoRows_NoNumber ?sbNoRows_NoRow ?sbNoSide_NoRows ?sbNoSide_NoSide ?sbNoSide_NoSides ?sbNoSide_NoNumber ?sbNoSide_NoRow ?sbNoSides_NoRows ?sbNoSides_NoSide ?sbNoSides_NoSides ?sbNoSides_NoNumber ?sbNoSides_NoRow ?sbNoNumber_NoRows ?sbNoNumber_NoSide ?sbNoNumber_NoSides ?sbNoNumber_NoNumber ?sbNoNumber_NoRow ?sbNoRow_NoRows ?sbNoRow_NoSide ?sbNoRow_NoSides ?sbNoRow_NoNumber ?sbNoRow_NoRow ?z_WORDS ?kR_
    (case aKPriceTable => k_is)
    (case aKSides => k_is)
    (case pgKPriceTable => k_is)
    (case hdKPriceTable => k_is)
    (case poKPriceTable => k_is)
    (case saKPriceTable => k_is)
    (case haKPriceTable => k_is)
    (case hmKPriceTable => k_is)
    (case icKPriceTable => k_is)
    (case tcKPriceTable => k_is)
    (case nKPriceTable_kept => k_is)
    (case zKPriceTable_int => k_is)
    (case zKPriceTable_bool => k_is)
    (case zKPriceTable_str => k_is)
    (case zKPriceTable_NoneType => k_is)
    (case zKPriceTable_list => k_is)
    (case zKPriceTable_tuple => k_is)
    (case zKPriceTable_dict => k_is)
    (case mKPriceTable_0 => k_is)
    (case mKPriceTable_1 => k_is)
    (case mKPriceTable_2 => k_is)
    (case mKPriceTable_3 => k_is)
    (case mKPriceTable_4 => k_is)
    (case mKPriceTable_5 => k_is)
    (case mKPriceTable_6 => k_is)
    (case mKPriceTable_7 => k_is)
    (case mKPriceTable_8 => k_is)
    (case mKPriceTable_9 => k_is)
    (case pgKSides => k_is)
    (case hdKSides => k_is)
    (case poKSides => k_is)
    (case saKSides => k_is)
    (case haKSides => k_is)
    (case hmKSides => k_is)
    (case icKSides => k_is)
    (case tcKSides => k_is)
    (case nKSides_three => k_is)
    (case nKSides_rows => k_is)
    (case zKSides_int => k_is)
    (case zKSides_bool => k_is)
    (case zKSides_str => k_is)
    (case zKSides_NoneType => k_is)
    (case zKSides_list => k_is)
    (case zKSides_tuple => k_is)
    (case zKSides_dict => k_is)
    (case hnO => k_is)
    (case htkO => k_is)
    (case aXNoRows => k_is)
    (case xXNoRows => k_is)
    (case saXNoRows => k_is)
    (case gaXNoRows => k_is)
    (case ggXNoRows => k_is)
    (case noXNoRows => k_is)
    (case exXNoRows => k_is)
    (case tyXNoRows => k_is)
    (case kcXNoRows => k_is)
    (case hdXNoRows => k_is)
    (case iXNoRows => k_is)
    (case tXNoRows => k_is)
    (case lXNoRows => k_is)
    (case cXNoRows => k_is)
    (case kXNoRows => k_is)
    (case aXNoSide => k_is)
    (case xXNoSide => k_is)
    (case saXNoSide => k_is)
    (case gaXNoSide => k_is)
    (case ggXNoSide => k_is)
    (case noXNoSide => k_is)
    (case exXNoSide => k_is)
    (case tyXNoSide => k_is)
    (case kcXNoSide => k_is)
    (case hdXNoSide => k_is)
    (case iXNoSide => k_is)
    (case tXNoSide => k_is)
    (case lXNoSide => k_is)
    (case cXNoSide => k_is)
    (case kXNoSide => k_is)
    (case aXNoSides => k_is)
    (case xXNoSides => k_is)
    (case saXNoSides => k_is)
    (case gaXNoSides => k_is)
    (case ggXNoSides => k_is)
    (case noXNoSides => k_is)
    (case exXNoSides => k_is)
    (case tyXNoSides => k_is)
    (case kcXNoSides => k_is)
    (case hdXNoSides => k_is)
    (case iXNoSides => k_is)
    (case tXNoSides => k_is)
    (case lXNoSides => k_is)
    (case cXNoSides => k_is)
    (case kXNoSides => k_is)
    (case aXNoNumber => k_is)
    (case xXNoNumber => k_is)
    (case saXNoNumber => k_is)
    (case gaXNoNumber => k_is)
    (case ggXNoNumber => k_is)
    (case noXNoNumber => k_is)
    (case exXNoNumber => k_is)
    (case tyXNoNumber => k_is)
    (case kcXNoNumber => k_is)
    (case hdXNoNumber => k_is)
    (case iXNoNumber => k_is)
    (case tXNoNumber => k_is)
    (case lXNoNumber => k_is)
    (case cXNoNumber => k_is)
    (case kXNoNumber => k_is)
    (case aXNoRow => k_is)
    (case xXNoRow => k_is)
    (case saXNoRow => k_is)
    (case gaXNoRow => k_is)
    (case ggXNoRow => k_is)
    (case noXNoRow => k_is)
    (case exXNoRow => k_is)
    (case tyXNoRow => k_is)
    (case kcXNoRow => k_is)
    (case hdXNoRow => k_is)
    (case iXNoRow => k_is)
    (case tXNoRow => k_is)
    (case lXNoRow => k_is)
    (case cXNoRow => k_is)
    (case kXNoRow => k_is)
    (case a0 => k_is)
    (case l0 => k_is)
    (case c0 => k_is)
    (case k0 => k_is)
    (case a1 => k_is)
    (case i1 => k_is)
    (case l1 => k_is)
    (case c1 => k_is)
    (case k1 => k_is)
    (case mk1 => k_is)
    (case kc1 => k_is)
    (case a2 => k_is)
    (case i2 => k_is)
    (case l2 => k_is)
    (case c2 => k_is)
    (case k2 => k_is)
    (case a3 => k_is)
    (case i3 => k_is)
    (case l3 => k_is)
    (case c3 => k_is)
    (case k3 => k_is)
    (case a4 => k_is)
    (case l4 => k_is)
    (case c4 => k_is)
    (case k4 => k_is)
    (case a5 => k_is)
    (case l5 => k_is)
    (case c5 => k_is)
    (case k5 => k_is)
    (case a6 => k_is)
    (case l6 => k_is)
    (case c6 => k_is)
    (case k6 => k_is)
    (case a7 => k_is)
    (case l7 => k_is)
    (case c7 => k_is)
    (case k7 => k_is)
    (case a8 => k_is)
    (case l8 => k_is)
    (case c8 => k_is)
    (case k8 => k_is)
    (case a9 => k_is)
    (case l9 => k_is)
    (case c9 => k_is)
    (case k9 => k_is)
    (case a10 => k_is)
    (case l10 => k_is)
    (case c10 => k_is)
    (case k10 => k_is)
    (case a12 => k_is)
    (case l12 => k_is)
    (case c12 => k_is)
    (case k12 => k_is)
    (case a13 => k_is)
    (case l13 => k_is)
    (case c13 => k_is)
    (case k13 => k_is)
    (case a14 => k_is)
    (case i14 => k_is)
    (case l14 => k_is)
    (case c14 => k_is)
    (case k14 => k_is)
    (case mk14 => k_is)
    (case kc14 => k_is)
    (case a15 => k_is)
    (case i15 => k_is)
    (case l15 => k_is)
    (case c15 => k_is)
    (case k15 => k_is)
    (case a16 => k_is)
    (case i16 => k_is)
    (case l16 => k_is)
    (case c16 => k_is)
    (case k16 => k_is)
    (case a17 => k_is)
    (case i17 => k_is)
    (case l17 => k_is)
    (case c17 => k_is)
    (case k17 => k_is)
    (case a18 => k_is)
    (case l18 => k_is)
    (case c18 => k_is)
    (case k18 => k_is)
    (case a19 => k_is)
    (case l19 => k_is)
    (case c19 => k_is)
    (case k19 => k_is)
    (case a20 => k_is)
    (case l20 => k_is)
    (case c20 => k_is)
    (case k20 => k_is)
    (case a21 => k_is)
    (case l21 => k_is)
    (case c21 => k_is)
    (case k21 => k_is)
    (case a22 => k_is)
    (case l22 => k_is)
    (case c22 => k_is)
    (case k22 => k_is)
    (case a23 => k_is)
    (case l23 => k_is)
    (case c23 => k_is)
    (case k23 => k_is)
    (case a24 => k_is)
    (case l24 => k_is)
    (case c24 => k_is)
    (case k24 => k_is)
    (case a25 => k_is)
    (case l25 => k_is)
    (case c25 => k_is)
    (case k25 => k_is)
    (case a26 => k_is)
    (case l26 => k_is)
    (case c26 => k_is)
    (case k26 => k_is)
    (case a27 => k_is)
    (case l27 => k_is)
    (case c27 => k_is)
    (case k27 => k_is)
    (case e_Pl => rfl)
    (case l_Pl => k_is)
    (case p_Pl => rfl)
    (case h_Pl => kernel_rfl)
    (case n_Pl => kernel_rfl)
    (case m_Pl => decide)
    (case z_all => k_is)
    (case z_bool => k_is)
    (case z_enumerate => k_is)
    (case z_int => k_is)
    (case z_isinstance => k_is)
    (case z_len => k_is)
    (case z_list => k_is)
    (case z_max => k_is)
    (case z_min => k_is)
    (case z_range => k_is)
    (case z_repr => k_is)
    (case z_reversed => k_is)
    (case z_set => k_is)
    (case z_sorted => k_is)
    (case z_tuple => k_is)
    (case z_zip => k_is)
    (case z_MOST_PRICE => k_is)
    (case z_MOST_ROWS => k_is)
    (case z_MOST_SIDE_grids => k_is)
    (case z_MOST_SIDE_sides => k_is)
    (case z_MOST_WEIGHT => k_is)
    (case icNoRows => k_is)
    (case icNoSide => k_is)
    (case icNoSides => k_is)
    (case icNoNumber => k_is)
    (case icNoRow => k_is)
    (case sbNoRows_NoRows => k_is)
    (case sbNoRows_NoSide => k_is)
    (case sbNoRows_NoSides => k_is)
    (case sbNoRows_NoNumber => k_is)
    (case sbNoRows_NoRow => k_is)
    (case sbNoSide_NoRows => k_is)
    (case sbNoSide_NoSide => k_is)
    (case sbNoSide_NoSides => k_is)
    (case sbNoSide_NoNumber => k_is)
    (case sbNoSide_NoRow => k_is)
    (case sbNoSides_NoRows => k_is)
    (case sbNoSides_NoSide => k_is)
    (case sbNoSides_NoSides => k_is)
    (case sbNoSides_NoNumber => k_is)
    (case sbNoSides_NoRow => k_is)
    (case sbNoNumber_NoRows => k_is)
    (case sbNoNumber_NoSide => k_is)
    (case sbNoNumber_NoSides => k_is)
    (case sbNoNumber_NoNumber => k_is)
    (case sbNoNumber_NoRow => k_is)
    (case sbNoRow_NoRows => k_is)
    (case sbNoRow_NoSide => k_is)
    (case sbNoRow_NoSides => k_is)
    (case sbNoRow_NoNumber => k_is)
    (case sbNoRow_NoRow => k_is)
    (case z_WORDS => k_is)
    (case kR_ => k_is)
