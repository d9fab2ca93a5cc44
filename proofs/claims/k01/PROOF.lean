import PyProof.Rows.All
import Wide.All
import OpenK.AllK
import Wide.FinOn
import PyProof.InstEq
import HandS.ForMost
import HandS.Codes
import HandS.IsInst
import HandS.More
import HandS.Flow
import HandS.ForExc
import HandS.Ends
import PySem.Challenge.RW_stickmarks_k01_seats_in_a_row
set_option Elab.async false
set_option linter.all false
set_option maxRecDepth 100000
set_option maxHeartbeats 4000000
/-! Rules of our own: own instances compared by identity, index in a list of them; chunks: a heap as a list of separate objects. -/
namespace SmR
open PySem PySem.Spec PyProof.Rows PySem.SeqAt
section
variable {M : Model} {prog : Program} {w : World} {A : Around} {E : Value → Shared → Prop} {s : Shared} {K : PySem.W.Frag} {x y C : Addr} {ox oy : Obj} {od od' : Option Obj}
/-- what a class without an __eq__ of its own has -/
structure EqCls (K : PySem.W.Frag) (C : Addr) : Prop where
  mro : PySem.W.mroIn K C (.type "object") = some true
  eq : PySem.W.findIn K (.ref C) "__eq__" = some (some (.builtin "object.__eq__"))
theorem eq_same {Q : Value → Shared → Prop} (X : K.In s.heap) (I : PySem.W.InstAt s.heap x ox C od) (e : EqCls K C) (hq : Q (.bool true) s) :
    wpAny (model prog w) A (call (.builtin "object.__eq__") [.ref x, .ref x]) Q E s :=
  wpAny_call (codeAny_call_builtin F.cmp_object.eq.plain F.cmpEntry_eq (PySem.W.check_slot F.cmpKind_eq F.cmpSplit_eq (I.type.andThen (PySem.W.looks_mroIn X e.mro)) (F.cmpArgs_eq _ _) (objEq_entry_same hq)))
theorem eq_other {Q : Value → Shared → Prop} (X : K.In s.heap) (I : PySem.W.InstAt s.heap x ox C od) (J : PySem.W.InstAt s.heap y oy C od') (hxy : x ≠ y) (e : EqCls K C) (hq : Q .notImplemented s) :
    wpAny (model prog w) A (call (.builtin "object.__eq__") [.ref x, .ref y]) Q E s :=
  wpAny_call (codeAny_call_builtin F.cmp_object.eq.plain F.cmpEntry_eq (PySem.W.check_slot F.cmpKind_eq F.cmpSplit_eq (I.type.andThen (PySem.W.looks_mroIn X e.mro)) (F.cmpArgs_eq _ _)
    (objEq_entry_other hxy I.1 J.1 (by rw [I.cls]; intro q; cases q) hq)))
theorem try_same (X : K.In s.heap) (I : PySem.W.InstAt s.heap x ox C od) (e : EqCls K C) : wpAny (model prog w) A (tryCompare (.ref x) "__eq__" (.ref x)) (fun r s' => r = some (.bool true) ∧ s' = s) E s := by
  unfold tryCompare
  exact wpAny_bind (HN.ifBound_objEq X I e.eq (eq_same X I e (wpAny_pure ⟨rfl, rfl⟩)))
theorem try_other (X : K.In s.heap) (I : PySem.W.InstAt s.heap x ox C od) (J : PySem.W.InstAt s.heap y oy C od') (hxy : x ≠ y) (e : EqCls K C) :
    wpAny (model prog w) A (tryCompare (.ref x) "__eq__" (.ref y)) (fun r s' => r = none ∧ s' = s) E s := by
  unfold tryCompare
  exact wpAny_bind (HN.ifBound_objEq X I e.eq (eq_other X I J hxy e (wpAny_pure ⟨rfl, rfl⟩)))
theorem rc_same (hu : A.units < cLine) (X : K.In s.heap) (I : PySem.W.InstAt s.heap x ox C od) (e : EqCls K C) : RcAt A s (.ref x) (.ref x) true := fun prog w E Q h => by
  simp only [richCompare, cmpInfo_Eq, oneThing_ref]
  refine wpAny_holding (wpAny_bind (wpAny_cRoomFor hu ?_))
  refine wpAny_bind (I.type.here ?_)
  refine wpAny_bind (I.type.here ?_)
  rw [if_neg (by simp)]
  refine wpAny_bind (wpAny_pure ?_)
  simp only [Bool.false_eq_true, if_false, Bool.not_false, if_true]
  refine wpAny_bind (m := tryCompare (.ref x) _ (.ref x)) (wpAny_mono (try_same X I e) (fun r s1 z => ?_) fun _ _ e => e)
  obtain ⟨z1, z2⟩ := z
  subst z1
  subst z2
  exact wpAny_pure h
theorem rc_other (hu : A.units < cLine) (X : K.In s.heap) (I : PySem.W.InstAt s.heap x ox C od) (J : PySem.W.InstAt s.heap y oy C od') (hxy : x ≠ y) (e : EqCls K C) : RcAt A s (.ref x) (.ref y) false := fun prog w E Q h => by
  simp only [richCompare, cmpInfo_Eq, oneThing_ref]
  refine wpAny_holding (wpAny_bind (wpAny_cRoomFor hu ?_))
  refine wpAny_bind (I.type.here ?_)
  refine wpAny_bind (J.type.here ?_)
  rw [if_neg (by simp)]
  refine wpAny_bind (wpAny_pure ?_)
  simp only [Bool.false_eq_true, if_false, Bool.not_false, if_true]
  refine wpAny_bind (m := tryCompare (.ref x) _ (.ref y)) (wpAny_mono (try_other X I J hxy e) (fun r s1 z => ?_) fun _ _ e => e)
  obtain ⟨z1, z2⟩ := z
  subst z1
  subst z2
  refine wpAny_bind (m := tryCompare (.ref y) _ (.ref x)) (wpAny_mono (try_other X J I hxy.symm e) (fun r s1 z => ?_) fun _ _ e => e)
  obtain ⟨z1, z2⟩ := z
  subst z1
  subst z2
  exact wpAny_bind (wpAny_rule (wpAny_bind (wpAny_isSame_ref_other hxy I.1 J.1 (by rw [I.cls]; intro q; cases q) (wpAny_pure h))))
theorem eqAt_inst (hu : A.units < cLine) (X : K.In s.heap) (I : PySem.W.InstAt s.heap x ox C od) (J : PySem.W.InstAt s.heap y oy C od') (e : EqCls K C) : EqAt A s (.ref x) (.ref y) (decide (x = y)) := fun prog w E Q h => by
  by_cases hxy : x = y
  · subst hxy
    rw [decide_eq_true rfl] at h
    exact SeqAt.EqAt.same (.ref x) prog w E Q h
  · rw [decide_eq_false hxy] at h
    unfold eqBool
    refine wpAny_holding ?_
    refine wpAny_ite_split (fun hab => absurd (by simpa using hab) hxy) (fun _ => ?_)
    exact wpAny_bind (rc_other hu X I J hxy e prog w E _ (wpAny_truthy_bool h))
end
end SmR

namespace L2
open PySem PySem.Spec PyProof.Rows
section
variable {X : Cx}
/-- what stands at a is an instance of C -/
def Ins (H : Hp) (C a : Addr) : Prop := ∃ dx fs, H a = some (.ins C dx fs)
theorem Ins.of {H : Hp} {C a dx : Addr} {fs : List (Str × V)} (h : H a = some (.ins C dx fs)) : Ins H C a := ⟨dx, fs, h⟩
theorem Ins.at {pins : List (Addr × Obj)} {σ : St} {H : Hp} {s : Shared} {C a : Addr} (I : Inv X pins σ H s) (h : Ins H C a) : ∃ ox od, PySem.W.InstAt s.heap a ox C (some od) := by
  obtain ⟨dx, fs, h⟩ := h
  obtain ⟨mA, O, _⟩ := ins_get I.hok h
  obtain ⟨od, J, _⟩ := O.look
  exact ⟨_, od, J⟩
/-- own instances of one class, no __eq__ of their own: by identity -/
def rEqO (K : PySem.W.Frag) : R2 := fun x y H Q => ∃ a b C, x = .ref a ∧ y = .ref b ∧ Ins H C a ∧ Ins H C b ∧ SmR.EqCls K C ∧ Q (.bl (decide (a = b))) H
theorem op_eqO (hu : X.A.units < cLine) : OpR X (compareOp .Eq) (rEqO X.K) := by
  intro pins s σ H x y v u Q I rx ry h
  obtain ⟨a, b, C, rfl, rfl, ha, hb, e, q⟩ := h
  cases rx
  cases ry
  obtain ⟨ox, od, Ia⟩ := ha.at I
  obtain ⟨oy, od', Ib⟩ := hb.at I
  show wpAny _ _ (richCompare .Eq (.ref a) (.ref b)) _ _ _
  by_cases hab : a = b
  · subst hab
    rw [decide_eq_true rfl] at q
    exact SmR.rc_same hu I.kIn Ia e X.prog X.w X.xe _ ⟨.bl true, H, I, rfl, q⟩
  · rw [decide_eq_false hab] at q
    exact SmR.rc_other hu I.kIn Ia Ib hab e X.prog X.w X.xe _ ⟨.bl false, H, I, rfl, q⟩
theorem vals_refs : ∀ {as : List Addr} {us : List Value}, Vals (as.map V.ref) us → us = as.map Value.ref
  | [], _, .nil => rfl
  | a :: as, _, .cons r t => by
    cases r
    rw [vals_refs t]
    rfl
/-- l.index(o) in a list of own instances of one class -/
def rIndexO (K : PySem.W.Frag) : V → List V → Hp → VK → Prop := fun x xs H Q => ∃ (l : Addr) (as : List Addr) (b C : Addr) (j : Nat), x = V.ref l ∧ xs = [.ref b] ∧ SqL K H l (as.map V.ref) ∧ (∀ a ∈ as, Ins H C a) ∧ SmR.EqCls K C ∧
  as[j]? = some b ∧ (∀ m, m < j → as[m]? ≠ some b) ∧ Q (.int (j : Nat)) H
theorem mt_indexO (hu : X.A.units + 1 < cLine) : MtR X "list.index" (rIndexO X.K) := by
  intro pins s σ H x xs v us Q I rx rxs h
  obtain ⟨l, as, b, C, j, rfl, rfl, hs, hall, e, hj, hno, q⟩ := h
  cases rx
  cases rxs with
  | cons ry rt =>
    cases ry
    cases rt
    obtain ⟨its, rv, ⟨⟨cls, dd, data, sl⟩, n, ho, hc, hdn, hd⟩, hlen⟩ := I.list hs
    simp only at hc hd
    subst hc hd
    have hsl := sizeLine_eq
    have ei := vals_refs rv
    subst ei
    obtain ⟨hjl, hje⟩ := List.getElem?_eq_some_iff.mp hj
    obtain ⟨oy, od', Ib⟩ := (hall b (List.mem_of_getElem? hj)).at I
    have hall2 : as.length ≤ sizeLine := by simpa using hlen
    refine call_meets PySem.F.slot_list_index ⟨_, ho, rfl⟩ PySem.F.entry_list_index (PySem.F.args_list_index_2 _ _)
      (SeqAt.list_indexAt l (as.map Value.ref).toArray n dd sl (.ref b) (fun u => decide (u = Value.ref b)) j (by simpa using hjl) (by omega) ?_ ?_) ⟨ho, fun u' hu' => ?_, ?_⟩
    · simp [hje]
    · intro m hm hmj
      have hm' : m < as.length := by simpa using hm
      have := hno m hmj
      rw [List.getElem?_eq_getElem hm'] at this
      simp only [List.getElem_toArray, List.getElem_map]
      refine decide_eq_false fun z => this ?_
      injection z with z
      rw [z]
    · have hu2 : u' ∈ as.map Value.ref := by simpa using hu'
      obtain ⟨a, ha, rfl⟩ := List.mem_map.mp hu2
      obtain ⟨ox, od, Ia⟩ := (hall a ha).at I
      have := SmR.eqAt_inst (A := X.A.in1) (by show X.A.units + 1 < cLine; omega) I.kIn Ia Ib e
      have e2 : decide (Value.ref a = Value.ref b) = decide (a = b) := by
        by_cases hab : a = b
        · subst hab; simp
        · rw [decide_eq_false hab, decide_eq_false fun z => hab (by injection z)]
      rw [e2]
      exact this
    · exact ⟨.int (j : Nat), H, I.tok _, ⟨_, rfl⟩, q⟩
end
end L2

set_option Elab.async false
set_option linter.all false
set_option maxRecDepth 100000
set_option maxHeartbeats 4000000
/-! A heap as a list of separate objects: Hs L H. -/
namespace Sm
open PySem L2
abbrev Chunk := Addr × HO
def dl (a b : Addr) : Nat := if a = b then 1 else 0
/-- how often the address a stands in L -/
def kc (a : Addr) : List Chunk → Nat
  | [] => 0
  | c :: L => dl a c.1 + kc a L
/-- each object of L stands in H -/
def hat (H : Hp) : List Chunk → Prop
  | [] => True
  | c :: L => H c.1 = some c.2 ∧ hat H L
structure Hs (L : List Chunk) (H : Hp) : Prop where
  one : ∀ a, kc a L ≤ 1
  hat : hat H L
theorem kc_nil {a : Addr} : kc a [] = 0 := rfl
theorem kc_cons {a : Addr} {c : Chunk} {L : List Chunk} : kc a (c :: L) = dl a c.1 + kc a L := rfl
theorem kc_append {a : Addr} : ∀ {L M : List Chunk}, kc a (L ++ M) = kc a L + kc a M
  | [], M => by rw [List.nil_append, kc_nil, Nat.zero_add]
  | c :: L, M => by rw [List.cons_append, kc_cons, kc_cons, kc_append, Nat.add_assoc]
theorem hat_nil {H : Hp} : hat H [] = True := rfl
theorem hat_cons {H : Hp} {c : Chunk} {L : List Chunk} : hat H (c :: L) = (H c.1 = some c.2 ∧ hat H L) := rfl
theorem hat_append {H : Hp} : ∀ {L M : List Chunk}, hat H (L ++ M) = (hat H L ∧ hat H M)
  | [], M => by rw [List.nil_append, hat_nil, true_and]
  | c :: L, M => by rw [List.cons_append, hat_cons, hat_cons, hat_append, and_assoc]
theorem hat_mem {H : Hp} : ∀ {L : List Chunk}, hat H L → ∀ c ∈ L, H c.1 = some c.2
  | [], _, _, m => nomatch m
  | c :: L, h, d, m => by
    rcases List.mem_cons.mp m with e | m
    · subst e
      exact h.1
    · exact hat_mem h.2 d m
theorem hat_of {H : Hp} : ∀ {L : List Chunk}, (∀ c ∈ L, H c.1 = some c.2) → hat H L
  | [], _ => trivial
  | c :: L, h => ⟨h c List.mem_cons_self, hat_of fun d m => h d (List.mem_cons_of_mem _ m)⟩
theorem dl_self {a : Addr} : dl a a = 1 := if_pos rfl
theorem dl_ne {a b : Addr} (h : a ≠ b) : dl a b = 0 := if_neg h
theorem kc_zero {a : Addr} : ∀ {L : List Chunk}, kc a L = 0 → ∀ c ∈ L, c.1 ≠ a
  | [], _, _, m => nomatch m
  | c :: L, h, d, m => by
    rw [kc_cons] at h
    rcases List.mem_cons.mp m with e | m
    · subst e
      intro q
      rw [q, dl_self] at h
      omega
    · exact kc_zero (by omega) d m
theorem kc_of_none {a : Addr} : ∀ {L : List Chunk}, (∀ c ∈ L, c.1 ≠ a) → kc a L = 0
  | [], _ => rfl
  | c :: L, h => by
    rw [kc_cons, dl_ne (fun q => h c List.mem_cons_self q.symm), kc_of_none fun d m => h d (List.mem_cons_of_mem _ m)]
theorem hat_upd {H : Hp} {a : Addr} {o : HO} {L : List Chunk} (h : hat H L) (n : ∀ c ∈ L, c.1 ≠ a) : hat (upd H a o) L :=
  hat_of fun c m => by rw [upd_ne (n c m)]; exact hat_mem h c m
/-- a stands in L, with the object o: found by the instances -/
class At (a : Addr) (L : List Chunk) (o : outParam HO) : Prop where
  mem : (a, o) ∈ L
instance At.here (a : Addr) (o : HO) (L : List Chunk) : At a ((a, o) :: L) o := ⟨List.mem_cons_self⟩
instance (priority := 900) At.next (a : Addr) (o : HO) (c : Chunk) (L : List Chunk) [m : At a L o] : At a (c :: L) o := ⟨List.mem_cons_of_mem _ m.mem⟩
instance (priority := 800) At.left (a : Addr) (o : HO) (L M : List Chunk) [m : At a L o] : At a (L ++ M) o := ⟨List.mem_append_left _ m.mem⟩
instance (priority := 700) At.right (a : Addr) (o : HO) (L M : List Chunk) [m : At a M o] : At a (L ++ M) o := ⟨List.mem_append_right _ m.mem⟩
section
variable {L M : List Chunk} {H H' : Hp} {a b p : Addr} {o o' u : HO}
theorem Hs.mem (h : Hs L H) (m : (a, o) ∈ L) : H a = some o := hat_mem h.hat _ m
theorem Hs.get (h : Hs L H) [m : At a L o] : H a = some o := hat_mem h.hat _ m.mem
theorem Hs.sub (h : Hs L H) (k : ∀ a, kc a M ≤ kc a L) (t : Sm.hat H L → Sm.hat H M) : Hs M H := ⟨fun a => Nat.le_trans (k a) (h.one a), t h.hat⟩
theorem Hs.nil : Hs [] H := ⟨fun _ => Nat.zero_le _, trivial⟩
theorem Hs.put (h : Hs ((a, o) :: L) H) : Hs ((a, o') :: L) (upd H a o') := by
  refine ⟨h.one, upd_same, hat_upd h.hat.2 (kc_zero ?_)⟩
  have q := h.one a
  rw [kc_cons] at q
  have e : dl a (a, o).1 = 1 := dl_self
  omega
theorem Hs.free (h : Hs L H) (n : H p = none) : ∀ c ∈ L, c.1 ≠ p := fun c m e => by
  have q := hat_mem h.hat c m
  rw [e, n] at q
  cases q
theorem Hs.new (h : Hs L H) (n : H p = none) : Hs ((p, o) :: L) (upd H p o) := by
  have f := h.free n
  refine ⟨fun b => ?_, upd_same, hat_upd h.hat f⟩
  rw [kc_cons]
  by_cases e : b = p
  · subst e
    rw [kc_of_none f]
    show dl b b + 0 ≤ 1
    rw [dl_self]
    omega
  · have := h.one b
    have e2 : dl b (p, o).1 = 0 := dl_ne e
    omega
theorem Hs.ne (h : Hs ((a, o) :: L) H) (m : (b, u) ∈ L) : b ≠ a := by
  have q := h.one a
  rw [kc_cons] at q
  have e : dl a (a, o).1 = 1 := dl_self
  exact kc_zero (by omega) _ m
theorem Hs.same (h : Hs L H) (k : Same H H') : Hs L H' := ⟨h.one, hat_of fun c m => k _ _ (hat_mem h.hat c m)⟩
theorem Hs.tail (h : Hs (M ++ L) H) : Hs L H := h.sub (fun a => by rw [kc_append]; omega) fun q => by rw [hat_append] at q; exact q.2
theorem Hs.head (h : Hs (M ++ L) H) : Hs M H := h.sub (fun a => by rw [kc_append]; omega) fun q => by rw [hat_append] at q; exact q.1
theorem Hs.rest (h : Hs ((a, o) :: L) H) : Hs L H := h.sub (fun b => by rw [kc_cons]; omega) fun q => q.2
theorem Hs.pin {c : Chunk} {A F : List Chunk} (h : Hs (c :: (A ++ F)) H) : Hs (A ++ (c :: F)) H := h.sub (fun a => by simp only [kc_cons, kc_append]; omega) fun q => by
  simp only [hat_cons, hat_append] at q ⊢
  exact ⟨q.2.1, q.1, q.2.2⟩
theorem Hs.swap (h : Hs (M ++ L) H) : Hs (L ++ M) H := h.sub (fun a => by rw [kc_append, kc_append]; omega) fun q => by rw [hat_append] at q ⊢; exact q.symm
end
/-- L with another object at a: found by the instances -/
class PutA (a : Addr) (L : List Chunk) (o : HO) (M : outParam (List Chunk)) : Prop where
  key : ∀ b, kc b M = kc b L
  mem : 1 ≤ kc a L
  put : ∀ H : Hp, (∀ b, kc b L ≤ 1) → hat H L → hat (upd H a o) M
instance PutA.here (a : Addr) (o u : HO) (L : List Chunk) : PutA a ((a, u) :: L) o ((a, o) :: L) where
  key := fun _ => rfl
  mem := by
    rw [kc_cons]
    have e : dl a (a, u).1 = 1 := dl_self
    omega
  put := fun H n h => (Hs.put (o := u) ⟨n, h⟩).hat
instance (priority := 900) PutA.next (a : Addr) (o : HO) (c : Chunk) (L M : List Chunk) [p : PutA a L o M] : PutA a (c :: L) o (c :: M) where
  key := fun b => by rw [kc_cons, kc_cons, p.key]
  mem := by
    have := p.mem
    rw [kc_cons]
    omega
  put := fun H n h => by
    have h1 := n a
    have h2 := p.mem
    rw [kc_cons] at h1
    have hc : c.1 ≠ a := fun e => by
      rw [e, dl_self] at h1
      omega
    refine ⟨by rw [upd_ne hc]; exact h.1, p.put H (fun b => ?_) h.2⟩
    have := n b
    rw [kc_cons] at this
    omega
instance (priority := 800) PutA.left (a : Addr) (o : HO) (L M N : List Chunk) [p : PutA a L o M] : PutA a (L ++ N) o (M ++ N) where
  key := fun b => by rw [kc_append, kc_append, p.key]
  mem := by
    have := p.mem
    rw [kc_append]
    omega
  put := fun H n h => by
    rw [hat_append] at h ⊢
    have h1 := n a
    have h2 := p.mem
    rw [kc_append] at h1
    refine ⟨p.put H (fun b => ?_) h.1, hat_upd h.2 (kc_zero (by omega))⟩
    have := n b
    rw [kc_append] at this
    omega
instance (priority := 700) PutA.right (a : Addr) (o : HO) (L M N : List Chunk) [p : PutA a L o M] : PutA a (N ++ L) o (N ++ M) where
  key := fun b => by rw [kc_append, kc_append, p.key]
  mem := by
    have := p.mem
    rw [kc_append]
    omega
  put := fun H n h => by
    rw [hat_append] at h ⊢
    have h1 := n a
    have h2 := p.mem
    rw [kc_append] at h1
    refine ⟨hat_upd h.1 (kc_zero (by omega)), p.put H (fun b => ?_) h.2⟩
    have := n b
    rw [kc_append] at this
    omega
theorem Hs.set {L M : List Chunk} {H : Hp} {a : Addr} {o : HO} (h : Hs L H) [p : PutA a L o M] : Hs M (upd H a o) := ⟨fun b => by rw [p.key]; exact h.one b, p.put H h.one h.hat⟩
/-- a write, its heap from then on a letter -/
theorem upd_k {L M : List Chunk} {H : Hp} {a : Addr} {o o' : HO} {R : Hp → Prop} (h : Hs L H) (e : o = o') [p : PutA a L o' M] (k : ∀ H', Hs M H' → R H') : R (upd H a o) := k _ (by rw [e]; exact h.set)
theorem Hs.newG {L : List Chunk} {H H1 : Hp} {a : Addr} {o : HO} (h : Hs L H) (n : H a = none) (e : upd H a o = H1) : Hs ((a, o) :: L) H1 := by
  rw [← e]
  exact h.new n
theorem Hs.setG {L M : List Chunk} {H H1 : Hp} {a : Addr} {o : HO} (h : Hs L H) [p : PutA a L o M] (e : upd H a o = H1) : Hs M H1 := by
  rw [← e]
  exact h.set
/-- a new object -/
theorem new_k {L : List Chunk} {H : Hp} {a : Addr} {o : HO} {R : Hp → Prop} (h : Hs L H) (n : H a = none) (k : ∀ H', Hs ((a, o) :: L) H' → R H') : R (upd H a o) := k _ (h.new n)
/-- the script: to be read while S stands -/
def Reads (K : PySem.W.Frag) (S : List Chunk) (a : Addr) (xs : List V) : Prop := ∀ H : Hp, Hs S H → SqL K H a xs
theorem dl_le {a b : Addr} : dl a b ≤ 1 := by
  unfold dl
  split <;> omega
theorem Hs.single {H : Hp} {a : Addr} {o : HO} (h : H a = some o) : Hs [(a, o)] H := ⟨fun b => by
  rw [kc_cons, kc_nil]
  exact dl_le, h, trivial⟩
theorem reads_of {K : PySem.W.Frag} {H : Hp} {a : Addr} {xs : List V} (h : SqL K H a xs) : ∃ S : List Chunk, Hs S H ∧ Reads K S a xs := by
  rcases h with (h | ⟨o, h⟩) | h
  · exact ⟨[(a, .lst xs)], Hs.single h, fun H' q => .inl (.inl q.get)⟩
  · exact ⟨[(a, .frz o (.lst xs))], Hs.single h, fun H' q => .inl (.inr ⟨o, q.get⟩)⟩
  · exact ⟨[], Hs.nil, fun _ _ => .inr h⟩
/-! ### comprehensions over a list: a test and an element that are plain -/
theorem lc_plain {K : PySem.W.Frag} {a D : Addr} {xs : List V} {L : List Chunk} {g : TG} {tt : TT} {te : TE} {vs : List Nat} {σ : L2.St} {H : Hp} {Q : Hp → Prop} (p : V → Bool) (f : V → V) (hs : Hs L H) (hD : H D = none) (hl : ∀ H', Hs L H' → SqL K H' a xs) (hz : xs.length < sizeLine)
    (turn : ∀ x ∈ xs, ∀ (H' : Hp) (acc : List V) (Nx : Hp → Prop), Hs ((D, .lst acc) :: L) H' → acc.length < sizeLine → (p x = true → ∀ H'', Hs ((D, .lst (acc ++ [f x])) :: L) H'' → Nx H'') → (p x = false → ∀ H'', Hs ((D, .lst acc) :: L) H'' → Nx H'') →
      g x (wipe σ vs) H' fun σ2 H2 => wipe σ2 vs = wipe σ vs ∧ tt σ2 H2 fun b H3 => if b = true then te σ2 H3 fun y H4 => ∃ acc, H4 D = some (.lst acc) ∧ acc.length < sizeLine ∧ Nx (upd H4 D (.lst (acc ++ [y]))) else Nx H3)
    (fin : ∀ H', Hs ((D, .lst ((xs.filter p).map f)) :: L) H' → Q H') :
    ∃ W : Nat → Nat → Hp → Prop, (∃ m, W 0 m (upd H D (.lst []))) ∧ ∀ i m H, W i m H →
      ((Itl K a).stop i H ∧ Q H) ∨ ((Itl K a).go i H ∧ ∃ Nx : Hp → Prop, (∀ H', Nx H' → ∃ m', m' < m ∧ W (i + 1) m' H') ∧ ∀ x H', (Itl K a).yld i H x H' → g x (wipe σ vs) H' fun σ2 H2 => wipe σ2 vs = wipe σ vs ∧ tt σ2 H2 fun b H3 =>
        if b = true then te σ2 H3 fun y H4 => ∃ acc, H4 D = some (.lst acc) ∧ acc.length < sizeLine ∧ Nx (upd H4 D (.lst (acc ++ [y]))) else Nx H3) := by
  refine lc_list (K := K) (a := a) (xs := xs) (fun i H' => Hs ((D, .lst (((xs.take i).filter p).map f)) :: L) H') ?_ (fun i H' _ q => hl H' q.rest) ?_ ?_
  · exact hs.new hD
  · intro i x H' hx q
    have ht : xs.take (i + 1) = xs.take i ++ [x] := by
      rw [List.take_add_one, hx]
      rfl
    have hlen : (((xs.take i).filter p).map f).length < sizeLine := by
      rw [List.length_map]
      have h1 := List.length_filter_le p (xs.take i)
      have h2 : (xs.take i).length ≤ xs.length := by rw [List.length_take]; omega
      omega
    refine turn x (List.mem_of_getElem? hx) H' _ _ q hlen (fun hp H'' q' => ?_) (fun hp H'' q' => ?_)
    · show Hs _ _
      rw [ht, List.filter_append, List.map_append, List.filter_cons, if_pos hp]
      exact q'
    · show Hs _ _
      rw [ht, List.filter_append, List.map_append, List.filter_cons, if_neg (by rw [hp]; exact Bool.false_ne_true), List.filter_nil, List.map_nil, List.append_nil]
      exact q'
  · intro H' q
    have q : Hs ((D, .lst (((xs.take xs.length).filter p).map f)) :: L) H' := q
    rw [List.take_length] at q
    exact fin H' q
/-- .. each item gives one, told by the place -/
theorem lc_map {K : PySem.W.Frag} {a D : Addr} {xs ys : List V} {L : List Chunk} {g : TG} {tt : TT} {te : TE} {vs : List Nat} {σ : L2.St} {H : Hp} {Q : Hp → Prop} (hs : Hs L H) (hD : H D = none) (hl : ∀ H', Hs L H' → SqL K H' a xs) (hz : xs.length < sizeLine) (hxy : ys.length = xs.length)
    (turn : ∀ (i : Nat) (x y : V), xs[i]? = some x → ys[i]? = some y → ∀ (H' : Hp) (acc : List V) (Nx : Hp → Prop), Hs ((D, .lst acc) :: L) H' → acc.length < sizeLine → (∀ H'', Hs ((D, .lst (acc ++ [y])) :: L) H'' → Nx H'') →
      g x (wipe σ vs) H' fun σ2 H2 => wipe σ2 vs = wipe σ vs ∧ tt σ2 H2 fun b H3 => if b = true then te σ2 H3 fun y H4 => ∃ acc, H4 D = some (.lst acc) ∧ acc.length < sizeLine ∧ Nx (upd H4 D (.lst (acc ++ [y]))) else Nx H3)
    (fin : ∀ H', Hs ((D, .lst ys) :: L) H' → Q H') :
    ∃ W : Nat → Nat → Hp → Prop, (∃ m, W 0 m (upd H D (.lst []))) ∧ ∀ i m H, W i m H →
      ((Itl K a).stop i H ∧ Q H) ∨ ((Itl K a).go i H ∧ ∃ Nx : Hp → Prop, (∀ H', Nx H' → ∃ m', m' < m ∧ W (i + 1) m' H') ∧ ∀ x H', (Itl K a).yld i H x H' → g x (wipe σ vs) H' fun σ2 H2 => wipe σ2 vs = wipe σ vs ∧ tt σ2 H2 fun b H3 =>
        if b = true then te σ2 H3 fun y H4 => ∃ acc, H4 D = some (.lst acc) ∧ acc.length < sizeLine ∧ Nx (upd H4 D (.lst (acc ++ [y]))) else Nx H3) := by
  refine lc_list (K := K) (a := a) (xs := xs) (fun i H' => Hs ((D, .lst (ys.take i)) :: L) H') ?_ (fun i H' _ q => hl H' q.rest) ?_ ?_
  · exact hs.new hD
  · intro i x H' hx q
    have hi : i < ys.length := by rw [hxy]; exact (List.getElem?_eq_some_iff.mp hx).1
    have hy : ys[i]? = some ys[i] := List.getElem?_eq_getElem hi
    have hlen : (ys.take i).length < sizeLine := by rw [List.length_take]; omega
    refine turn i x ys[i] hx hy H' _ _ q hlen fun H'' q' => ?_
    show Hs _ _
    rw [List.take_add_one, hy]
    exact q'
  · intro H' q
    have q : Hs ((D, .lst (ys.take xs.length)) :: L) H' := q
    rw [← hxy, List.take_length] at q
    exact fin H' q
/-- .. over a range from nought -/
theorem lc_rng {D : Addr} {n : Nat} {lo : Int} {ys : List V} {L : List Chunk} {g : TG} {tt : TT} {te : TE} {vs : List Nat} {σ : L2.St} {H : Hp} {Q : Hp → Prop} (hs : Hs L H) (hD : H D = none) (hz : n < sizeLine) (hxy : ys.length = n)
    (turn : ∀ (i : Nat) (y : V), i < n → ys[i]? = some y → ∀ (H' : Hp) (acc : List V) (Nx : Hp → Prop), Hs ((D, .lst acc) :: L) H' → acc.length < sizeLine → (∀ H'', Hs ((D, .lst (acc ++ [y])) :: L) H'' → Nx H'') →
      g (.int (lo + i)) (wipe σ vs) H' fun σ2 H2 => wipe σ2 vs = wipe σ vs ∧ tt σ2 H2 fun b H3 => if b = true then te σ2 H3 fun y H4 => ∃ acc, H4 D = some (.lst acc) ∧ acc.length < sizeLine ∧ Nx (upd H4 D (.lst (acc ++ [y]))) else Nx H3)
    (fin : ∀ H', Hs ((D, .lst ys) :: L) H' → Q H') :
    ∃ W : Nat → Nat → Hp → Prop, (∃ m, W 0 m (upd H D (.lst []))) ∧ ∀ i m H, W i m H →
      ((Itr lo n).stop i H ∧ Q H) ∨ ((Itr lo n).go i H ∧ ∃ Nx : Hp → Prop, (∀ H', Nx H' → ∃ m', m' < m ∧ W (i + 1) m' H') ∧ ∀ x H', (Itr lo n).yld i H x H' → g x (wipe σ vs) H' fun σ2 H2 => wipe σ2 vs = wipe σ vs ∧ tt σ2 H2 fun b H3 =>
        if b = true then te σ2 H3 fun y H4 => ∃ acc, H4 D = some (.lst acc) ∧ acc.length < sizeLine ∧ Nx (upd H4 D (.lst (acc ++ [y]))) else Nx H3) := by
  refine lc_range (lo := lo) (n := n) (fun i H' => Hs ((D, .lst (ys.take i)) :: L) H') ?_ ?_ ?_
  · exact hs.new hD
  · intro i H' hi q
    have hi' : i < ys.length := by omega
    have hy : ys[i]? = some ys[i] := List.getElem?_eq_getElem hi'
    have hlen : (ys.take i).length < sizeLine := by rw [List.length_take]; omega
    refine turn i ys[i] hi hy H' _ _ q hlen fun H'' q' => ?_
    show Hs _ _
    rw [List.take_add_one, hy]
    exact q'
  · intro H' q
    have q : Hs ((D, .lst (ys.take n)) :: L) H' := q
    rw [← hxy, List.take_length] at q
    exact fin H' q
end Sm

set_option Elab.async false
set_option linter.all false
set_option maxRecDepth 100000
set_option maxHeartbeats 4000000
/-! Callees in short; an instance's attributes in short. -/
namespace Sm
open PySem PySem.Spec PyProof.Rows L2
structure Cal (P : Program) (w : World) (K : PySem.W.Frag) (mg : Str → Option Value) (base : Heap) (CX : CXT) (k : Nat) (x : Str) (sp : Sp) : Prop where
  ex : ∃ (f : Addr) (fd : FuncData) (ps : List Str), FnOk P w K mg base CX k f fd ps sp ∧ mg x = some (.ref f) ∧ PySem.W.keepIn K (.ref f) = true ∧ Binds K fd ps []
structure Met (P : Program) (w : World) (K : PySem.W.Frag) (mg : Str → Option Value) (base : Heap) (CX : CXT) (k : Nat) (C : Addr) (m : Str) (sp : Sp) : Prop where
  ex : ∃ (f : Addr) (fd : FuncData) (ps : List Str), Cls K C ∧ Meth K C m f ∧ FnOk P w K mg base CX k f fd ps sp ∧ Binds K fd ps []
structure Mak (P : Program) (w : World) (K : PySem.W.Frag) (mg : Str → Option Value) (base : Heap) (CX : CXT) (k : Nat) (x : Str) (C : Addr) (sp : Sp) : Prop where
  ex : ∃ (f : Addr) (fd : FuncData) (ps : List Str), Mk K C f ∧ FnOk P w K mg base CX k f fd ps sp ∧ mg x = some (.ref C) ∧ Binds K fd ps []
section
variable {X : Cx} {CX : CXT} {E : XK} {k j : Nat} {C : Addr} {x m : Str} {sp : Sp} {p pos apos : Pos} {e o : Expr} {es : List Expr} {ta : TE} {t : TA}
theorem pe_cG (c : Cal X.prog X.w X.K X.mg X.base CX k x sp) (hx : Passes CX X E) (hr : Room j X.A) (hk : k ≤ j) (hg : Gl X x) (ha : PA X (e :: es) t)
    (hdb : (x == ("__debug__" : Str)) = false := by decide) (he : starEach (e :: es) X.env = (false, eval e X.env) :: starEach es X.env := by rfl) (hpl : (backTo pos (starEach es X.env)).any (·.1) = false := by rfl) :
    PE X (.Call (.Name x p) (e :: es) [] pos) (tCall sp [] E t) := by
  obtain ⟨f, fd, ps, F, hm, kp, b⟩ := c.ex
  exact pe_call F (hr.mono hk) hg hm kp b .nil hx ha hdb he hpl
theorem pe_mkG (c : Mak X.prog X.w X.K X.mg X.base CX k x C sp) (hx : Passes CX X E) (hr : Room j X.A) (hk : k + 1 ≤ j) (hg : Gl X x) (ha : PA X (e :: es) t)
    (hdb : (x == ("__debug__" : Str)) = false := by decide) (he : starEach (e :: es) X.env = (false, eval e X.env) :: starEach es X.env := by rfl) (hpl : (backTo pos (starEach es X.env)).any (·.1) = false := by rfl) :
    PE X (.Call (.Name x p) (e :: es) [] pos) (tMake C sp [] E t) := by
  obtain ⟨f, fd, ps, M, F, hm, b⟩ := c.ex
  exact pe_make M F (hr.mono hk) hg hm b .nil hx ha hdb he hpl
theorem pe_mkG0 (c : Mak X.prog X.w X.K X.mg X.base CX k x C sp) (hx : Passes CX X E) (hr : Room j X.A) (hk : k + 1 ≤ j) (hg : Gl X x) (hdb : (x == ("__debug__" : Str)) = false := by decide) :
    PE X (.Call (.Name x p) [] [] pos) (tMake C sp [] E tNil) := by
  obtain ⟨f, fd, ps, M, F, hm, b⟩ := c.ex
  exact pe_make0 M F (hr.mono hk) hg hm b .nil hx hdb
theorem pe_mtG {pl : Sem Bool} (c : Met X.prog X.w X.K X.mg X.base CX k C m sp) (hx : Passes CX X E) (hr : Room j X.A) (hk : k ≤ j) (he : PE X o ta) (ha : PA X (e :: es) t)
    (hst : starEach (e :: es) X.env = (false, eval e X.env) :: starEach es X.env := by rfl) (hpl : (backTo pos (starEach es X.env)).any (·.1) = false := by rfl)
    (ht : eval (.Call (.Attribute o m apos) (e :: es) [] pos) X.env = (do
      let ov ← eval o X.env
      standAt apos.atName
      let (f, first) ← holding [ov] (getMethod ov m pl)
      callWith pos f first (backTo pos (starEach (e :: es) X.env)) (backToKw pos (keywordEach [] X.env))) := by rfl) :
    PE X (.Call (.Attribute o m apos) (e :: es) [] pos) (tMeth C m sp [] E ta t) := by
  obtain ⟨f, fd, ps, hc, hm, F, b⟩ := c.ex
  exact pe_meth (pl := pl) he hc hm F (hr.mono hk) b .nil hx ha hst hpl ht
theorem pe_mtG0 {pl : Sem Bool} (c : Met X.prog X.w X.K X.mg X.base CX k C m sp) (hx : Passes CX X E) (hr : Room j X.A) (hk : k ≤ j) (he : PE X o ta)
    (ht : eval (.Call (.Attribute o m apos) [] [] pos) X.env = (do
      let ov ← eval o X.env
      standAt apos.atName
      let (f, first) ← holding [ov] (getMethod ov m pl)
      callWith pos f first (backTo pos (starEach [] X.env)) (backToKw pos (keywordEach [] X.env))) := by rfl) :
    PE X (.Call (.Attribute o m apos) [] [] pos) (tMeth C m sp [] E ta tNil) := by
  obtain ⟨f, fd, ps, hc, hm, F, b⟩ := c.ex
  exact pe_meth0 (pl := pl) he hc hm F (hr.mono hk) b .nil hx ht
theorem pe_gcS {v : V} (hg : Gl X x) (h : ∃ u, X.mg x = some u ∧ RelV v u) (hd : (x == ("__debug__" : Str)) = false := by decide) : PE X (.Name x pos) (tC v) := by
  obtain ⟨u, hm, r⟩ := h
  exact pe_glob hg hm r hd
end
/-- a test, a value, by what is known behind it -/
def tCutT (t : TT) : TT := fun σ H Q => ∃ R : Bool → Hp → Prop, t σ H R ∧ ∀ b H', R b H' → Q b H'
def tCutE (t : TE) : TE := fun σ H Q => ∃ R : V → Hp → Prop, t σ H R ∧ ∀ v H', R v H' → Q v H'
theorem pt_cut {X : Cx} {e : Expr} {t : TT} (h : PT X e t) : PT X e (tCutT t) := ⟨fun pins s σ H Q I hw => by
  obtain ⟨R, hr, hq⟩ := hw
  exact thn (h.run pins s σ H R I hr) fun b s1 ⟨H1, I1, q1⟩ => ⟨H1, I1, hq b H1 q1⟩⟩
theorem pe_cut {X : Cx} {e : Expr} {t : TE} (h : PE X e t) : PE X e (tCutE t) := ⟨fun pins s σ H Q I hw => by
  obtain ⟨R, hr, hq⟩ := hw
  exact thn (h.run pins s σ H R I hr) fun u s1 ⟨v, H1, I1, r1, q1⟩ => ⟨v, H1, I1, r1, hq v H1 q1⟩⟩
theorem lk_hit {f : Str} {v : V} {r : List (Str × V)} : List.lookup f ((f, v) :: r) = some v := by simp [List.lookup]
theorem lk_miss {f g : Str} {v : V} {r : List (Str × V)} (h : f ≠ g) : List.lookup f ((g, v) :: r) = List.lookup f r := by
  have e : (f == g) = false := by simpa using h
  simp [List.lookup, e]
theorem pf_hit {f : Str} {v x : V} {r : List (Str × V)} : putF f v ((f, x) :: r) = (f, v) :: r := if_pos rfl
theorem pf_miss {f g : Str} {v x : V} {r : List (Str × V)} (h : g ≠ f) : putF f v ((g, x) :: r) = (g, x) :: putF f v r := if_neg h
theorem lk_none {m : Str} : ∀ {fs : List (Str × V)}, (fs.map (·.1)).contains m = false → List.lookup m fs = none
  | [], _ => rfl
  | (g, v) :: r, h => by
    rw [List.map_cons, List.contains_cons, Bool.or_eq_false_iff] at h
    have e : m ≠ g := by simpa using h.1
    rw [lk_miss e]
    exact lk_none h.2
/-- a whole number that is not negative -/
abbrev nv (n : Nat) : V := .int (n : Int)
theorem at_nv {xs : List V} {j : Nat} {v : V} (h : xs[j]? = some v) : atI xs (j : Int) = some v := at_of rfl h
theorem ixN_nv {n j : Nat} (hj : j < n) : ixN n (j : Int) = some j := by
  unfold ixN
  rw [if_pos (by omega), if_pos (by omega)]
  simp
theorem cut_to {xs : List V} {k : Nat} : cutV xs none (some (k : Int)) = xs.take k := by
  unfold cutV
  rw [HT.sIx_none, HT.sIx_nat, List.drop_zero, Nat.sub_zero]
  by_cases h : k ≤ xs.length
  · rw [Nat.min_eq_left h]
  · rw [Nat.min_eq_right (by omega), List.take_length, List.take_of_length_le (by omega)]
theorem cut_from {xs : List V} {k : Nat} : cutV xs (some (k : Int)) none = xs.drop k := by
  unfold cutV
  rw [HT.sIx_none, HT.sIx_nat]
  by_cases h : k ≤ xs.length
  · rw [Nat.min_eq_left h, List.take_of_length_le (by rw [List.length_drop]; omega)]
  · rw [Nat.min_eq_right (by omega), List.drop_length, List.drop_eq_nil_of_le (by omega), List.take_nil]
theorem cut_at {xs : List V} {i j : Nat} : cutV xs (some (i : Int)) (some (j : Int)) = (xs.take j).drop i := by
  unfold cutV
  rw [HT.sIx_nat, HT.sIx_nat, List.drop_take]
  by_cases h : i ≤ xs.length
  · rw [Nat.min_eq_left h]
    by_cases h2 : j ≤ xs.length
    · rw [Nat.min_eq_left h2]
    · rw [Nat.min_eq_right (by omega), List.take_of_length_le (by rw [List.length_drop]; omega), List.take_of_length_le (by rw [List.length_drop]; omega)]
  · rw [List.drop_eq_nil_of_le (show xs.length ≤ min i xs.length by omega), List.take_nil, List.drop_eq_nil_of_le (show xs.length ≤ i by omega), List.take_nil]
theorem sz_ok {n : Nat} (h : n ≤ 1000000) : n ≤ sizeLine := Nat.le_trans h (by decide)
theorem sz_lt {n : Nat} (h : n < 1000000) : n < sizeLine := Nat.lt_of_lt_of_le h (by decide)
end Sm

set_option Elab.async false
set_option linter.all false
set_option maxRecDepth 100000
set_option maxHeartbeats 4000000
/-! The plain law of a row: the order of all seats, which are taken; in blocks. No program here. -/
namespace Sm
open PySem L2
def insAt (k : Nat) (x : Nat) (xs : List Nat) : List Nat := xs.take k ++ [x] ++ xs.drop k
def bz (busy : List Bool) (s : Nat) : Bool := busy.getD s false
def taken (busy : List Bool) (xs : List Nat) : List Nat := xs.filter (bz busy)
def cnt (busy : List Bool) (xs : List Nat) : Nat := (taken busy xs).length
structure Blk where
  a : Addr
  dx : Addr
  l : Addr
  xs : List Nat
structure Rw where
  r : Addr
  dx : Addr
  b : Addr
  h : Addr
  u : Addr
  bs : List Blk
  hs : List Addr
  busy : List Bool
def flat (bs : List Blk) : List Nat := bs.flatMap (·.xs)
def Rw.order (R : Rw) : List Nat := flat R.bs
structure Rw.Good (R : Rw) : Prop where
  ne : R.bs ≠ []
  hlen : R.hs.length = R.busy.length
  home : ∀ B ∈ R.bs, ∀ s ∈ B.xs, R.hs[s]? = some B.a
  nd : R.order.Nodup
  all : ∀ s, s ∈ R.order ↔ s < R.busy.length
  bnd : R.busy.length ≤ 100000
  full : R.bs.length = 1 ∨ ∀ B ∈ R.bs, B.xs ≠ []
theorem flat_append (P S : List Blk) : flat (P ++ S) = flat P ++ flat S := List.flatMap_append
theorem flat_cons (B : Blk) (S : List Blk) : flat (B :: S) = B.xs ++ flat S := List.flatMap_cons
theorem flat_split {bs P S : List Blk} {B : Blk} (e : bs = P ++ B :: S) : flat bs = flat P ++ (B.xs ++ flat S) := by
  rw [e, flat_append, flat_cons]
theorem len_of_all {xs : List Nat} {n : Nat} (nd : xs.Nodup) (all : ∀ s, s ∈ xs ↔ s < n) : xs.length = n := by
  have p : xs.Perm (List.range n) := (List.perm_ext_iff_of_nodup nd List.nodup_range).mpr fun s => by rw [all, List.mem_range]
  rw [p.length_eq, List.length_range]
theorem Rw.Good.olen {R : Rw} (G : R.Good) : R.order.length = R.busy.length := len_of_all G.nd G.all
theorem Rw.Good.blen {R : Rw} (G : R.Good) {B : Blk} (h : B ∈ R.bs) : B.xs.length ≤ R.busy.length := by
  obtain ⟨P, S, e⟩ := List.append_of_mem h
  have := G.olen
  rw [Rw.order, flat_split e, List.length_append, List.length_append] at this
  omega
theorem Rw.Good.lt {R : Rw} (G : R.Good) {B : Blk} (h : B ∈ R.bs) {s : Nat} (hs : s ∈ B.xs) : s < R.busy.length := by
  refine (G.all s).mp ?_
  exact List.mem_flatMap.mpr ⟨B, h, hs⟩
theorem flat_long : ∀ {bs : List Blk}, (∀ B ∈ bs, B.xs ≠ []) → bs.length ≤ (flat bs).length
  | [], _ => Nat.zero_le _
  | B :: bs, h => by
    have h1 := flat_long fun B' hB' => h B' (List.mem_cons_of_mem _ hB')
    have h2 := List.length_pos_iff.mpr (h B List.mem_cons_self)
    rw [flat_cons, List.length_append, List.length_cons]
    omega
theorem Rw.Good.small {R : Rw} (G : R.Good) : R.bs.length < 1000000 := by
  have h1 := G.bnd
  rcases G.full with h | h
  · omega
  · have h2 := flat_long h
    have h3 := G.olen
    unfold Rw.order at h3
    omega
/-- the block in which a seat stands -/
theorem Rw.Good.find {R : Rw} (G : R.Good) {s : Nat} (h : s < R.busy.length) : ∃ P B S, R.bs = P ++ B :: S ∧ s ∈ B.xs ∧ R.hs[s]? = some B.a := by
  obtain ⟨B, hB, hs⟩ := List.mem_flatMap.mp ((G.all s).mpr h)
  obtain ⟨P, S, e⟩ := List.append_of_mem hB
  exact ⟨P, B, S, e, hs, G.home B hB s hs⟩
theorem insAt_length {k x : Nat} {xs : List Nat} : (insAt k x xs).length = xs.length + 1 := by
  unfold insAt
  simp only [List.length_append, List.length_take, List.length_drop, List.length_singleton]
  omega
theorem mem_insAt {k x y : Nat} {xs : List Nat} : y ∈ insAt k x xs ↔ y = x ∨ y ∈ xs := by
  unfold insAt
  have e : y ∈ xs ↔ y ∈ xs.take k ∨ y ∈ xs.drop k := by
    rw [← List.mem_append, List.take_append_drop]
  rw [List.mem_append, List.mem_append, List.mem_singleton, e]
  constructor
  · rintro ((h | h) | h)
    · exact .inr (.inl h)
    · exact .inl h
    · exact .inr (.inr h)
  · rintro (h | h | h)
    · exact .inl (.inr h)
    · exact .inl (.inl h)
    · exact .inr h
theorem insAt_perm {k x : Nat} {xs : List Nat} : (insAt k x xs).Perm (x :: xs) := by
  have h1 : (xs.take k ++ [x] ++ xs.drop k).Perm (x :: (xs.take k ++ xs.drop k)) := by
    rw [List.append_assoc]
    exact List.perm_middle
  rw [List.take_append_drop] at h1
  exact h1
theorem insAt_nodup {k x : Nat} {xs : List Nat} (h : xs.Nodup) (hx : x ∉ xs) : (insAt k x xs).Nodup :=
  insAt_perm.nodup_iff.mpr (List.nodup_cons.mpr ⟨hx, h⟩)
/-- within one part of a list -/
theorem insAt_mid {k x : Nat} {A X C : List Nat} (hk : k ≤ X.length) : insAt (A.length + k) x (A ++ (X ++ C)) = A ++ (insAt k x X ++ C) := by
  unfold insAt
  have e1 : (A ++ (X ++ C)).take (A.length + k) = A ++ X.take k := by
    rw [List.take_append, List.take_of_length_le (by omega), show A.length + k - A.length = k by omega, List.take_append_of_le_length hk]
  have e2 : (A ++ (X ++ C)).drop (A.length + k) = X.drop k ++ C := by
    rw [List.drop_append, List.drop_eq_nil_of_le (by omega), List.nil_append, show A.length + k - A.length = k by omega, List.drop_append_of_le_length hk]
  rw [e1, e2]
  simp only [List.append_assoc]
/-- where a part's item stands in the whole -/
theorem idx_mid {s : Nat} {A X C : List Nat} (nd : (A ++ (X ++ C)).Nodup) (h : s ∈ X) : (A ++ (X ++ C)).idxOf s = A.length + X.idxOf s := by
  have hA : s ∉ A := fun q => (List.nodup_append.mp nd).2.2 s q s (List.mem_append_left _ h) rfl
  rw [List.idxOf_append, if_neg hA, List.idxOf_append, if_pos h]
  omega
theorem idx_lt {s : Nat} {X : List Nat} (h : s ∈ X) : X.idxOf s < X.length := List.idxOf_lt_length_of_mem h
theorem get_idx {s : Nat} {X : List Nat} (h : s ∈ X) : X[X.idxOf s]? = some s := by
  rw [List.getElem?_eq_getElem (idx_lt h)]
  exact congrArg some (List.getElem_idxOf (idx_lt h))
theorem idx_first {s : Nat} {X : List Nat} {m : Nat} (hm : m < X.idxOf s) : X[m]? ≠ some s := by
  intro e
  have hl : m < X.length := (List.getElem?_eq_some_iff.mp e).1
  have h2 := List.not_of_lt_findIdx (p := (· == s)) (xs := X) (i := m) (by exact hm)
  rw [List.getElem?_eq_getElem hl] at e
  have e' : X[m] = s := Option.some.inj e
  simp [e'] at h2
/-! ### a seat is set -/
def Rw.posn (R : Rw) : Option Nat → Nat
  | none => 0
  | some s => R.order.idxOf s + 1
theorem cnt_append {busy : List Bool} {X Y : List Nat} : cnt busy (X ++ Y) = cnt busy X + cnt busy Y := by
  unfold cnt taken
  rw [List.filter_append, List.length_append]
theorem bz_snoc {busy : List Bool} {s : Nat} (h : s < busy.length) (c : Bool) : bz (busy ++ [c]) s = bz busy s := by
  unfold bz
  rw [List.getD_eq_getElem?_getD, List.getD_eq_getElem?_getD, List.getElem?_append_left h]
theorem bz_new {busy : List Bool} {c : Bool} : bz (busy ++ [c]) busy.length = c := by
  unfold bz
  rw [List.getD_eq_getElem?_getD, List.getElem?_append_right (Nat.le_refl _), Nat.sub_self]
  rfl
theorem taken_congr {busy busy' : List Bool} {X : List Nat} (h : ∀ s ∈ X, bz busy s = bz busy' s) : taken busy X = taken busy' X := List.filter_congr h
theorem cnt_snoc {busy : List Bool} {X : List Nat} (h : ∀ s ∈ X, s < busy.length) (c : Bool) : cnt (busy ++ [c]) X = cnt busy X := by
  unfold cnt
  rw [taken_congr fun s hs => bz_snoc (h s hs) c]
theorem cnt_ins_new {busy : List Bool} {X : List Nat} {k : Nat} (h : ∀ s ∈ X, s < busy.length) : cnt (busy ++ [false]) (insAt k busy.length X) = cnt busy X := by
  unfold insAt
  have e : cnt (busy ++ [false]) [busy.length] = 0 := by
    unfold cnt taken
    rw [List.filter_cons, bz_new]
    rfl
  rw [cnt_append, cnt_append, e, Nat.add_zero, ← cnt_append, List.take_append_drop]
  exact cnt_snoc h false
theorem cnt_cons {busy : List Bool} {x : Nat} {X : List Nat} : cnt busy (x :: X) = (if bz busy x then 1 else 0) + cnt busy X := by
  unfold cnt taken
  rw [List.filter_cons]
  split
  · rw [List.length_cons]; omega
  · omega
theorem bz_set {busy : List Bool} {s t : Nat} {c : Bool} (h : s < busy.length) : bz (busy.set s c) t = if t = s then c else bz busy t := by
  unfold bz
  rw [List.getD_eq_getElem?_getD, List.getD_eq_getElem?_getD, List.getElem?_set]
  by_cases e : s = t
  · subst e
    rw [if_pos rfl, if_pos h, if_pos rfl]
    rfl
  · rw [if_neg e, if_neg (fun q => e q.symm)]
theorem cnt_set_not {busy : List Bool} {s : Nat} {c : Bool} {X : List Nat} (h : s < busy.length) (hs : s ∉ X) : cnt (busy.set s c) X = cnt busy X := by
  unfold cnt
  rw [taken_congr fun t ht => ?_]
  rw [bz_set h, if_neg (fun e : t = s => hs (e ▸ ht))]
theorem cnt_set {busy : List Bool} {s : Nat} {c : Bool} (h : s < busy.length) : ∀ {X : List Nat}, X.Nodup → s ∈ X → (cnt (busy.set s c) X : Int) = (cnt busy X : Int) + (if c then 1 else 0) - (if bz busy s then 1 else 0)
  | [], _, m => nomatch m
  | x :: X, nd, m => by
    obtain ⟨n1, n2⟩ := List.nodup_cons.mp nd
    rw [cnt_cons, cnt_cons, bz_set h]
    by_cases e : x = s
    · subst e
      rw [if_pos rfl, cnt_set_not h n1]
      cases c <;> cases bz busy x <;> simp <;> omega
    · rw [if_neg e]
      have ih := cnt_set (c := c) h n2 ((List.mem_cons.mp m).resolve_left fun q => e q.symm)
      have e2 : (((if bz busy x = true then 1 else 0) + cnt (busy.set s c) X : Nat) : Int) = ((if bz busy x = true then 1 else 0 : Nat) : Int) + (cnt (busy.set s c) X : Int) := by omega
      have e3 : (((if bz busy x = true then 1 else 0) + cnt busy X : Nat) : Int) = ((if bz busy x = true then 1 else 0 : Nat) : Int) + (cnt busy X : Int) := by omega
      rw [e2, e3, ih]
      omega
end Sm

set_option Elab.async false
set_option linter.all false
set_option maxRecDepth 100000
set_option maxHeartbeats 4000000
/-! The plain law of a row, further: blocks by their places, one block in two. -/
namespace Sm
open PySem L2
def setAll (hs : List Addr) (xs : List Nat) (a : Addr) : List Addr := xs.foldl (fun h s => h.set s a) hs
theorem setAll_snoc {hs : List Addr} {xs : List Nat} {s : Nat} {a : Addr} : setAll hs (xs ++ [s]) a = (setAll hs xs a).set s a := by
  unfold setAll
  rw [List.foldl_append]
  rfl
theorem setAll_length {a : Addr} : ∀ {xs : List Nat} {hs : List Addr}, (setAll hs xs a).length = hs.length
  | [], _ => rfl
  | x :: xs, hs => by
    show (setAll (hs.set x a) xs a).length = hs.length
    rw [setAll_length, List.length_set]
theorem setAll_out {a : Addr} {s : Nat} : ∀ {xs : List Nat} {hs : List Addr}, s ∉ xs → (setAll hs xs a)[s]? = hs[s]?
  | [], _, _ => rfl
  | x :: xs, hs, h => by
    show (setAll (hs.set x a) xs a)[s]? = hs[s]?
    rw [setAll_out fun q => h (List.mem_cons_of_mem _ q), List.getElem?_set_ne fun q => h (by rw [q]; exact List.mem_cons_self)]
theorem setAll_in {a : Addr} {s : Nat} : ∀ {xs : List Nat} {hs : List Addr}, s < hs.length → s ∈ xs → (setAll hs xs a)[s]? = some a
  | [], _, _, h => nomatch h
  | x :: xs, hs, hl, h => by
    show (setAll (hs.set x a) xs a)[s]? = some a
    by_cases q : s ∈ xs
    · exact setAll_in (by rw [List.length_set]; exact hl) q
    · have e : s = x := (List.mem_cons.mp h).resolve_right q
      subst e
      rw [setAll_out q, List.getElem?_set_self hl]
theorem flat_take_drop {bs : List Blk} (i : Nat) : flat bs = flat (bs.take i) ++ flat (bs.drop i) := by
  rw [← flat_append, List.take_append_drop]
theorem flat_sum {busy : List Bool} : ∀ {bs : List Blk}, (cnt busy (flat bs) : Int) = (bs.map fun B => (cnt busy B.xs : Int)).sum
  | [] => rfl
  | B :: bs => by
    rw [flat_cons, cnt_append, List.map_cons, List.sum_cons, ← flat_sum]
    omega
theorem flat_take_succ {bs : List Blk} {i : Nat} {B : Blk} (h : bs[i]? = some B) : flat (bs.take (i + 1)) = flat (bs.take i) ++ B.xs := by
  rw [List.take_add_one, h, flat_append]
  simp [flat]
theorem flat_drop {bs : List Blk} {i : Nat} {B : Blk} (h : bs[i]? = some B) : flat (bs.drop i) = B.xs ++ flat (bs.drop (i + 1)) := by
  have hi := (List.getElem?_eq_some_iff.mp h).1
  have e := (List.getElem?_eq_some_iff.mp h).2
  rw [List.drop_eq_getElem_cons hi, flat_cons, e]
/-- of two blocks the one ahead has the lesser seats' places -/
theorem blk_order {bs P S P2 S2 : List Blk} {B B2 : Blk} {s t : Nat} (e : bs = P ++ B :: S) (e2 : bs = P2 ++ B2 :: S2) (nd : (flat bs).Nodup) (hs : s ∈ B.xs) (ht : t ∈ B2.xs) (hlt : P.length < P2.length) :
    (flat bs).idxOf s < (flat bs).idxOf t := by
  have n1 := nd
  have n2 := nd
  rw [flat_split e] at n1
  rw [flat_split e2] at n2
  have i1 : (flat bs).idxOf s = (flat P).length + B.xs.idxOf s := by rw [flat_split e]; exact idx_mid n1 hs
  have i2 : (flat bs).idxOf t = (flat P2).length + B2.xs.idxOf t := by rw [flat_split e2]; exact idx_mid n2 ht
  have hp : P2.take (P.length + 1) = P ++ [B] := by
    have h1 : bs.take (P.length + 1) = P ++ [B] := by
      rw [e, List.take_append, List.take_of_length_le (by omega), show P.length + 1 - P.length = 1 by omega]
      rfl
    rw [← h1, e2, List.take_append_of_le_length (by omega)]
  have h3 : (flat P2).length = (flat P).length + B.xs.length + (flat (P2.drop (P.length + 1))).length := by
    rw [flat_take_drop (bs := P2) (P.length + 1), hp, flat_append, List.length_append, List.length_append]
    have : flat [B] = B.xs := by simp [flat]
    rw [this]
  have := idx_lt hs
  omega
theorem blk_same {bs P S P2 S2 : List Blk} {B B2 : Blk} (e : bs = P ++ B :: S) (e2 : bs = P2 ++ B2 :: S2) (h : P.length = P2.length) : B = B2 := by
  have h1 : bs[P.length]? = some B := by rw [e, List.getElem?_append_right (Nat.le_refl _), Nat.sub_self]; rfl
  have h2 : bs[P.length]? = some B2 := by rw [e2, h, List.getElem?_append_right (Nat.le_refl _), Nat.sub_self]; rfl
  rw [h1] at h2
  exact Option.some.inj h2
/-- the place of a seat by its block -/
theorem order_idx {bs P S : List Blk} {B : Blk} {s : Nat} (e : bs = P ++ B :: S) (nd : (flat bs).Nodup) (hs : s ∈ B.xs) : (flat bs).idxOf s = (flat P).length + B.xs.idxOf s := by
  have n1 := nd
  rw [flat_split e] at n1 ⊢
  exact idx_mid n1 hs
theorem order_take {bs P S : List Blk} {B : Blk} {s : Nat} (e : bs = P ++ B :: S) (nd : (flat bs).Nodup) (hs : s ∈ B.xs) : (flat bs).take ((flat bs).idxOf s) = flat P ++ B.xs.take (B.xs.idxOf s) := by
  rw [order_idx e nd hs, flat_split e, List.take_append, List.take_of_length_le (by omega), show (flat P).length + B.xs.idxOf s - (flat P).length = B.xs.idxOf s by omega,
    List.take_append_of_le_length (Nat.le_of_lt (idx_lt hs))]
theorem taken_append {busy : List Bool} {X Y : List Nat} : taken busy (X ++ Y) = taken busy X ++ taken busy Y := List.filter_append ..
theorem mem_get {α : Type} {xs : List α} {i : Nat} {x : α} (h : xs[i]? = some x) : x ∈ xs := List.mem_of_getElem? h
end Sm

set_option Elab.async false
set_option linter.all false
set_option maxRecDepth 100000
set_option maxHeartbeats 4000000
/-! Data compared: lists and tuples of plain things. -/
namespace Sm
open PySem PySem.Spec PyProof.Rows L2
/-- a plain thing as data -/
def dv : V → PyData
  | .bl b => .bool b
  | .int i => .int i
  | .str x => .str x
  | _ => .none
def plainV : V → Bool
  | .non => true
  | .bl _ => true
  | .int _ => true
  | .str x => PyData.strOk x
  | _ => false
section
variable {K : PySem.W.Frag} {H : Hp}
theorem dp_v : ∀ {v : V}, plainV v = true → Dp K H v (dv v)
  | .non, _ => .non
  | .bl b, _ => .bl b
  | .int i, _ => .int i
  | .str x, _ => .str x
theorem dp_vs : ∀ {xs : List V}, (∀ v ∈ xs, plainV v = true) → DpAll K H xs (xs.map dv)
  | [], _ => .nil
  | v :: xs, h => .cons (dp_v (h v List.mem_cons_self)) (dp_vs fun u hu => h u (List.mem_cons_of_mem _ hu))
theorem dp_list {a : Addr} {xs : List V} (hl : SqL K H a xs) (h : ∀ v ∈ xs, plainV v = true) : Dp K H (.ref a) (.list (xs.map dv)) := .lst hl (dp_vs h)
theorem dp_tup {a : Addr} {xs : List V} (hl : SqT K H a xs) (h : ∀ v ∈ xs, plainV v = true) : Dp K H (.ref a) (.tuple (xs.map dv)) := .tup hl (dp_vs h)
end
theorem lay_dv {v : V} (h : plainV v = true) : (dv v).canLay0 = true := by
  cases v <;> simp [dv, PyData.canLay0]
  exact h
theorem depth_dv (v : V) : (dv v).depth = 0 := by cases v <;> simp [dv, PyData.depth]
theorem lay_dvs : ∀ {xs : List V}, (∀ v ∈ xs, plainV v = true) → PyData.canLayAll0 (xs.map dv) = true
  | [], _ => by simp [PyData.canLayAll0]
  | x :: xs, h => by
    simp only [List.map_cons, PyData.canLayAll0, Bool.and_eq_true]
    exact ⟨lay_dv (h x List.mem_cons_self), lay_dvs fun u hu => h u (List.mem_cons_of_mem _ hu)⟩
theorem depth_dvs : ∀ xs : List V, PyData.depthAll (xs.map dv) ≤ 0
  | [] => by simp [PyData.depthAll]
  | x :: xs => by
    have h1 := depth_dvs xs
    have h2 := depth_dv x
    simp only [List.map_cons, PyData.depthAll]
    omega
theorem shaped_of {d : PyData} (h : d.canLay0 = true) (h2 : d.depth ≤ 64) : SeqAt.shaped d = true := by
  show (d.canLay0 && decide (d.depth ≤ 64)) = true
  rw [Bool.and_eq_true]
  exact ⟨h, decide_eq_true h2⟩
theorem shaped_dv {v : V} (h : plainV v = true) : SeqAt.shaped (dv v) = true := shaped_of (lay_dv h) (by rw [depth_dv]; omega)
theorem shaped_list {xs : List V} (h : ∀ v ∈ xs, plainV v = true) : SeqAt.shaped (.list (xs.map dv)) = true := by
  have h2 := depth_dvs xs
  exact shaped_of (by simp only [PyData.canLay0]; exact lay_dvs h) (by simp only [PyData.depth]; omega)
theorem shaped_tup {xs : List V} (h : ∀ v ∈ xs, plainV v = true) : SeqAt.shaped (.tuple (xs.map dv)) = true := by
  have h2 := depth_dvs xs
  exact shaped_of (by simp only [PyData.canLay0]; exact lay_dvs h) (by simp only [PyData.depth]; omega)
theorem eqvAll_map {α : Type} [DecidableEq α] {f : α → PyData} (hf : ∀ a b, PyData.eqv (f a) (f b) = decide (a = b)) : ∀ (xs ys : List α), PyData.eqvAll (xs.map f) (ys.map f) = decide (xs = ys)
  | [], [] => by simp [PyData.eqvAll]
  | [], y :: ys => by simp [PyData.eqvAll]
  | x :: xs, [] => by simp [PyData.eqvAll]
  | x :: xs, y :: ys => by
    rw [List.map_cons, List.map_cons, PyData.eqvAll, hf, eqvAll_map hf xs ys]
    by_cases h1 : x = y
    · by_cases h2 : xs = ys
      · subst h1; subst h2; simp
      · rw [decide_eq_false h2, Bool.and_false]
        exact (decide_eq_false fun q => h2 (List.cons.inj q).2).symm
    · rw [decide_eq_false h1, Bool.false_and]
      exact (decide_eq_false fun q => h1 (List.cons.inj q).1).symm
theorem eqv_nv (a b : Nat) : PyData.eqv (dv (nv a)) (dv (nv b)) = decide (a = b) := by
  show PyData.eqv (.int (a : Int)) (.int (b : Int)) = decide (a = b)
  rw [PyData.eqv]
  by_cases h : a = b
  · subst h
    simp
  · rw [decide_eq_false h]
    exact beq_eq_false_iff_ne.mpr (by omega)
theorem eqv_bl (a b : Bool) : PyData.eqv (dv (.bl a)) (dv (.bl b)) = decide (a = b) := by
  show PyData.eqv (.bool a) (.bool b) = decide (a = b)
  rw [PyData.eqv]
  cases a <;> cases b <;> rfl
theorem eqv_int (a b : Int) : PyData.eqv (dv (.int a)) (dv (.int b)) = decide (a = b) := by
  show PyData.eqv (.int a) (.int b) = decide (a = b)
  rw [PyData.eqv]
  by_cases h : a = b
  · subst h
    simp
  · rw [decide_eq_false h]
    exact beq_eq_false_iff_ne.mpr h
theorem eqv_nvs (xs ys : List Nat) : PyData.eqv (.list ((xs.map nv).map dv)) (.list ((ys.map nv).map dv)) = decide (xs = ys) := by
  rw [List.map_map, List.map_map, PyData.eqv]
  exact eqvAll_map (f := dv ∘ nv) eqv_nv xs ys
theorem eqv_ints (xs ys : List Int) : PyData.eqv (.list ((xs.map V.int).map dv)) (.list ((ys.map V.int).map dv)) = decide (xs = ys) := by
  rw [List.map_map, List.map_map, PyData.eqv]
  exact eqvAll_map (f := dv ∘ V.int) eqv_int xs ys
theorem eqv_bls (xs ys : List Bool) : PyData.eqv (.list ((xs.map V.bl).map dv)) (.list ((ys.map V.bl).map dv)) = decide (xs = ys) := by
  rw [List.map_map, List.map_map, PyData.eqv]
  exact eqvAll_map (f := dv ∘ V.bl) eqv_bl xs ys
theorem plain_nvs {xs : List Nat} : ∀ v ∈ xs.map nv, plainV v = true := fun v hv => by
  obtain ⟨n, _, rfl⟩ := List.mem_map.mp hv
  rfl
theorem plain_ints {xs : List Int} : ∀ v ∈ xs.map V.int, plainV v = true := fun v hv => by
  obtain ⟨n, _, rfl⟩ := List.mem_map.mp hv
  rfl
theorem plain_bls {xs : List Bool} : ∀ v ∈ xs.map V.bl, plainV v = true := fun v hv => by
  obtain ⟨n, _, rfl⟩ := List.mem_map.mp hv
  rfl
theorem plain_nil : ∀ v ∈ ([] : List V), plainV v = true := fun v hv => nomatch hv
/-- == of two lists of numbers: what rEqD asks -/
theorem eq_nvs {K : PySem.W.Frag} {H : Hp} {a b : Addr} {xs ys : List Nat} {Q : VK} (ha : SqL K H a (xs.map nv)) (hb : SqL K H b (ys.map nv)) (q : Q (.bl (decide (xs = ys))) H) : rEqD K (.ref a) (.ref b) H Q :=
  ⟨_, _, dp_list ha plain_nvs, dp_list hb plain_nvs, shaped_list plain_nvs, shaped_list plain_nvs, by rw [eqv_nvs]; exact q⟩
theorem ne_nvs {K : PySem.W.Frag} {H : Hp} {a b : Addr} {xs ys : List Nat} {Q : VK} (ha : SqL K H a (xs.map nv)) (hb : SqL K H b (ys.map nv)) (q : Q (.bl (!decide (xs = ys))) H) : rNeD K (.ref a) (.ref b) H Q :=
  ⟨_, _, dp_list ha plain_nvs, dp_list hb plain_nvs, shaped_list plain_nvs, shaped_list plain_nvs, by rw [eqv_nvs]; exact q⟩
theorem eq_ints {K : PySem.W.Frag} {H : Hp} {a b : Addr} {xs ys : List Int} {Q : VK} (ha : SqL K H a (xs.map V.int)) (hb : SqL K H b (ys.map V.int)) (q : Q (.bl (decide (xs = ys))) H) : rEqD K (.ref a) (.ref b) H Q :=
  ⟨_, _, dp_list ha plain_ints, dp_list hb plain_ints, shaped_list plain_ints, shaped_list plain_ints, by rw [eqv_ints]; exact q⟩
theorem ne_ints {K : PySem.W.Frag} {H : Hp} {a b : Addr} {xs ys : List Int} {Q : VK} (ha : SqL K H a (xs.map V.int)) (hb : SqL K H b (ys.map V.int)) (q : Q (.bl (!decide (xs = ys))) H) : rNeD K (.ref a) (.ref b) H Q :=
  ⟨_, _, dp_list ha plain_ints, dp_list hb plain_ints, shaped_list plain_ints, shaped_list plain_ints, by rw [eqv_ints]; exact q⟩
end Sm

set_option Elab.async false
set_option linter.all false
set_option maxRecDepth 100000
set_option maxHeartbeats 4000000
/-! A row's defs: their text, their promises, their walks. -/
namespace Sm
open PySem PySem.Spec PyProof.Rows L2
def top (i : Nat) : Stmt := PySem.Challenge.pw_stickmarks_k01_seats_in_a_row.main.body.getD i (.Pass ⟨0, 0, 0, 0⟩)
abbrev s_is_among : Stmt := top 6
abbrev s_Block_init : Stmt := inClass (top 7) 0
abbrev s_Row_init : Stmt := inClass (top 8) 0
abbrev s_Row_need_seat : Stmt := inClass (top 8) 1
abbrev s_Row_add : Stmt := inClass (top 8) 2
abbrev s_Row_part : Stmt := inClass (top 8) 3
abbrev s_Row_take : Stmt := inClass (top 8) 4
abbrev s_Row_is_taken : Stmt := inClass (top 8) 5
abbrev s_Row_many : Stmt := inClass (top 8) 6
abbrev s_Row_all_taken : Stmt := inClass (top 8) 7
abbrev s_Row_ahead : Stmt := inClass (top 8) 8
abbrev s_Row_find : Stmt := inClass (top 8) 9
abbrev s_Row_is_ahead : Stmt := inClass (top 8) 10
abbrev s_Row_order : Stmt := inClass (top 8) 11
def fBlock (v0 v1 : V) : List (Str × V) := [("some", v0), ("full", v1)]
section
variable {v0 v1 w : V}
theorem fBlock_some : (fBlock v0 v1).lookup ("some" : Str) = some v0 := lk_hit
theorem fBlock_full : (fBlock v0 v1).lookup ("full" : Str) = some v1 := (lk_miss (by decide +kernel)).trans (lk_hit)
theorem fBlock_no {m : Str} (h : (["some", "full"] : List Str).contains m = false) : (fBlock v0 v1).lookup m = none := lk_none h
theorem fBlock_put_some : putF "some" w (fBlock v0 v1) = fBlock w v1 := pf_hit
theorem fBlock_put_full : putF "full" w (fBlock v0 v1) = fBlock v0 w := (pf_miss (by decide +kernel)).trans (congrArg _ (pf_hit))
theorem fBlock_mk : (putF "full" v1 (putF "some" v0 [])) = fBlock v0 v1 := by
  have e : ∀ (k : Str) (v : V), putF k v [] = [(k, v)] := fun _ _ => rfl
  rw [e]
  rw [pf_miss (by decide +kernel), e]
  rfl
theorem fBlock_len : (fBlock v0 v1).length < 1000 := by
  show 2 < 1000
  decide
end
def fRow (v0 v1 v2 : V) : List (Str × V) := [("blocks", v0), ("homes", v1), ("busy", v2)]
section
variable {v0 v1 v2 w : V}
theorem fRow_blocks : (fRow v0 v1 v2).lookup ("blocks" : Str) = some v0 := lk_hit
theorem fRow_homes : (fRow v0 v1 v2).lookup ("homes" : Str) = some v1 := (lk_miss (by decide +kernel)).trans (lk_hit)
theorem fRow_busy : (fRow v0 v1 v2).lookup ("busy" : Str) = some v2 := (lk_miss (by decide +kernel)).trans ((lk_miss (by decide +kernel)).trans (lk_hit))
theorem fRow_no {m : Str} (h : (["blocks", "homes", "busy"] : List Str).contains m = false) : (fRow v0 v1 v2).lookup m = none := lk_none h
theorem fRow_put_blocks : putF "blocks" w (fRow v0 v1 v2) = fRow w v1 v2 := pf_hit
theorem fRow_put_homes : putF "homes" w (fRow v0 v1 v2) = fRow v0 w v2 := (pf_miss (by decide +kernel)).trans (congrArg _ (pf_hit))
theorem fRow_put_busy : putF "busy" w (fRow v0 v1 v2) = fRow v0 v1 w := (pf_miss (by decide +kernel)).trans (congrArg _ ((pf_miss (by decide +kernel)).trans (congrArg _ (pf_hit))))
theorem fRow_mk : (putF "busy" v2 (putF "homes" v1 (putF "blocks" v0 []))) = fRow v0 v1 v2 := by
  have e : ∀ (k : Str) (v : V), putF k v [] = [(k, v)] := fun _ _ => rfl
  rw [e]
  rw [pf_miss (by decide +kernel), e]
  rw [pf_miss (by decide +kernel), pf_miss (by decide +kernel), e]
  rfl
theorem fRow_len : (fRow v0 v1 v2).length < 1000 := by
  show 3 < 1000
  decide
end
/-- what the top says of the row's part -/
structure RT (K : PySem.W.Frag) (mg : Str → Option Value) (Cb Cr : Addr) : Prop where
  cl_Block : Cls K Cb
  n_Block_some : NoAttr K Cb "some"
  n_Block_full : NoAttr K Cb "full"
  eq_Block : SmR.EqCls K Cb
  cl_Row : Cls K Cr
  n_Row_blocks : NoAttr K Cr "blocks"
  n_Row_homes : NoAttr K Cr "homes"
  n_Row_busy : NoAttr K Cr "busy"
  g_MOST_IN_BLOCK : ∃ u, mg "MOST_IN_BLOCK" = some u ∧ RelV (.int 12) u
  b_len : mg "len" = none
  b_int : mg "int" = none
  b_bool : mg "bool" = none
  b_sum : mg "sum" = none
  b_isinstance : mg "isinstance" = none
def blkC (Cb : Addr) (busy : List Bool) (B : Blk) : List Chunk := [(B.a, .ins Cb B.dx (fBlock (.ref B.l) (nv (cnt busy B.xs)))), (B.l, .lst (B.xs.map nv))]
def blksC (Cb : Addr) (busy : List Bool) (bs : List Blk) : List Chunk := bs.flatMap (blkC Cb busy)
/-- a row's objects -/
def rowC (Cb Cr : Addr) (R : Rw) : List Chunk :=
  (R.r, .ins Cr R.dx (fRow (.ref R.b) (.ref R.h) (.ref R.u))) :: (R.b, .lst (R.bs.map fun B => V.ref B.a)) :: (R.h, .lst (R.hs.map V.ref)) :: (R.u, .lst (R.busy.map V.bl)) :: blksC Cb R.busy R.bs
instance At.row (Cb Cr : Addr) (R : Rw) : At R.r (rowC Cb Cr R) (.ins Cr R.dx (fRow (.ref R.b) (.ref R.h) (.ref R.u))) := ⟨List.mem_cons_self⟩
theorem blksC_append {Cb : Addr} {busy : List Bool} {P S : List Blk} : blksC Cb busy (P ++ S) = blksC Cb busy P ++ blksC Cb busy S := List.flatMap_append
theorem blksC_cons {Cb : Addr} {busy : List Bool} {B : Blk} {S : List Blk} : blksC Cb busy (B :: S) = (B.a, .ins Cb B.dx (fBlock (.ref B.l) (nv (cnt busy B.xs)))) :: (B.l, .lst (B.xs.map nv)) :: blksC Cb busy S := by
  unfold blksC
  rw [List.flatMap_cons]
  rfl
theorem blksC_congr {Cb : Addr} {busy busy' : List Bool} {bs : List Blk} (h : ∀ B ∈ bs, cnt busy B.xs = cnt busy' B.xs) : blksC Cb busy bs = blksC Cb busy' bs := by
  unfold blksC
  induction bs with
  | nil => rfl
  | cons B bs ih =>
    rw [List.flatMap_cons, List.flatMap_cons, ih fun B' hB' => h B' (List.mem_cons_of_mem _ hB')]
    unfold blkC
    rw [h B List.mem_cons_self]
theorem bz_get {busy : List Bool} {s : Nat} (h : s < busy.length) : (busy.map V.bl)[s]? = some (V.bl (bz busy s)) := by
  rw [List.getElem?_map, List.getElem?_eq_getElem h]
  unfold bz
  rw [List.getD_eq_getElem?_getD, List.getElem?_eq_getElem h]
  rfl
section
variable {Cb Cr : Addr} {R : Rw} {F : List Chunk} {H : Hp}
/-- the part of one block brought out -/
theorem row_at {P S : List Blk} {B : Blk} (e : R.bs = P ++ B :: S) (h : Hs (rowC Cb Cr R ++ F) H) :
    Hs ((B.a, .ins Cb B.dx (fBlock (.ref B.l) (nv (cnt R.busy B.xs)))) :: (B.l, .lst (B.xs.map nv)) :: (R.r, .ins Cr R.dx (fRow (.ref R.b) (.ref R.h) (.ref R.u))) :: (R.b, .lst (R.bs.map fun B => V.ref B.a)) :: (R.h, .lst (R.hs.map V.ref)) :: (R.u, .lst (R.busy.map V.bl)) :: (blksC Cb R.busy P ++ (blksC Cb R.busy S ++ F))) H := by
  unfold rowC at h
  rw [e, blksC_append, blksC_cons] at h
  refine h.sub (fun a => ?_) (fun q => ?_)
  · simp only [kc_append, kc_cons]
    omega
  · simp only [hat_append, hat_cons] at q ⊢
    rw [e]
    obtain ⟨⟨q1, q2, q3, q4, q5, q6, q7, q8⟩, q9⟩ := q
    exact ⟨q6, q7, q1, q2, q3, q4, q5, q8, q9⟩
end
/-! ### promises -/
section
variable (Cb Cr : Addr)
def spAmong : Sp := fun vs H Q _ => ∃ i lo hi : Int, vs = [.int i, .int lo, .int hi] ∧ Q (.bl (decide (lo ≤ i) && decide (i ≤ hi))) H
def spBlock : Sp := fun vs H Q _ => ∃ (a dx : Addr) (v w : V) (L : List Chunk), vs = [.ref a, v, w] ∧ Hs ((a, .ins Cb dx []) :: L) H ∧ ∀ H', Hs ((a, .ins Cb dx (fBlock v w)) :: L) H' → Q .non H'
def spRow : Sp := fun vs H Q _ => ∃ (a dx : Addr) (F : List Chunk), vs = [.ref a] ∧ Hs ((a, .ins Cr dx []) :: F) H ∧ ∀ (R : Rw) H', R.Good → R.r = a → R.order = [] → R.busy = [] → Hs (rowC Cb Cr R ++ F) H' → Q .non H'
def spNeedSeat : Sp := fun vs H Q _ => ∃ (R : Rw) (F : List Chunk) (s : Nat), vs = [.ref R.r, nv s] ∧ R.Good ∧ Hs (rowC Cb Cr R ++ F) H ∧ s < R.busy.length ∧ Q .non H
def optV : Option Nat → V
  | none => .non
  | some s => nv s
def spAdd : Sp := fun vs H Q _ => ∃ (R : Rw) (F : List Chunk) (o : Option Nat), vs = [.ref R.r, optV o] ∧ R.Good ∧ Hs (rowC Cb Cr R ++ F) H ∧ (∀ s, o = some s → s < R.busy.length) ∧ R.busy.length < 100000 ∧
  ∀ (R' : Rw) H', R'.Good → R'.r = R.r → R'.order = insAt (R.posn o) R.busy.length R.order → R'.busy = R.busy ++ [false] → Hs (rowC Cb Cr R' ++ F) H' → Q (nv R.busy.length) H'
def spPart : Sp := fun vs H Q _ => ∃ (R : Rw) (F : List Chunk) (P S : List Blk) (B : Blk), vs = [.ref R.r, .ref B.a] ∧ R.Good ∧ R.bs = P ++ B :: S ∧ 2 ≤ B.xs.length ∧ Hs (rowC Cb Cr R ++ F) H ∧
  ∀ (R' : Rw) H', R'.Good → R'.r = R.r → R'.order = R.order → R'.busy = R.busy → Hs (rowC Cb Cr R' ++ F) H' → Q .non H'
def spTake : Sp := fun vs H Q _ => ∃ (R : Rw) (F : List Chunk) (s : Nat) (c : Bool), vs = [.ref R.r, nv s, .bl c] ∧ R.Good ∧ Hs (rowC Cb Cr R ++ F) H ∧ s < R.busy.length ∧
  ∀ (R' : Rw) H', R'.Good → R'.r = R.r → R'.order = R.order → R'.busy = R.busy.set s c → Hs (rowC Cb Cr R' ++ F) H' → Q .non H'
def spIsTaken : Sp := fun vs H Q _ => ∃ (R : Rw) (F : List Chunk) (s : Nat), vs = [.ref R.r, nv s] ∧ R.Good ∧ Hs (rowC Cb Cr R ++ F) H ∧ s < R.busy.length ∧ Q (.bl (bz R.busy s)) H
def spMany : Sp := fun vs H Q _ => ∃ (R : Rw) (F : List Chunk), vs = [.ref R.r] ∧ R.Good ∧ Hs (rowC Cb Cr R ++ F) H ∧ Q (nv R.busy.length) H
def spAllTaken : Sp := fun vs H Q _ => ∃ (R : Rw) (F : List Chunk), vs = [.ref R.r] ∧ R.Good ∧ Hs (rowC Cb Cr R ++ F) H ∧ ∀ H', Hs (rowC Cb Cr R ++ F) H' → Q (nv (cnt R.busy R.order)) H'
def spAhead : Sp := fun vs H Q _ => ∃ (R : Rw) (F : List Chunk) (s : Nat), vs = [.ref R.r, nv s] ∧ R.Good ∧ Hs (rowC Cb Cr R ++ F) H ∧ s < R.busy.length ∧ ∀ H', Hs (rowC Cb Cr R ++ F) H' → Q (nv (cnt R.busy (R.order.take (R.order.idxOf s)))) H'
def spFind : Sp := fun vs H Q _ => ∃ (R : Rw) (F : List Chunk) (p s : Nat), vs = [.ref R.r, nv p] ∧ R.Good ∧ Hs (rowC Cb Cr R ++ F) H ∧ (taken R.busy R.order)[p]? = some s ∧ ∀ H', Hs (rowC Cb Cr R ++ F) H' → Q (nv s) H'
def spIsAhead : Sp := fun vs H Q _ => ∃ (R : Rw) (F : List Chunk) (s t : Nat), vs = [.ref R.r, nv s, nv t] ∧ R.Good ∧ Hs (rowC Cb Cr R ++ F) H ∧ s < R.busy.length ∧ t < R.busy.length ∧ Q (.bl (decide (R.order.idxOf s < R.order.idxOf t))) H
def spOrder : Sp := fun vs H Q _ => ∃ (R : Rw) (F : List Chunk), vs = [.ref R.r] ∧ R.Good ∧ Hs (rowC Cb Cr R ++ F) H ∧ ∀ p H', Hs ((p, .lst (R.order.map nv)) :: (rowC Cb Cr R ++ F)) H' → Q (.ref p) H'
end
section
variable {P : Program} {w : World} {K : PySem.W.Frag} {mg : Str → Option Value} {base : Heap} {Cb Cr f : Addr} {fd : FuncData}
theorem sc_is_among : FnScope ["thing", "least", "most"] ["thing", "least", "most"] (defScope s_is_among) := ⟨rfl, rfl, rfl, by decide +kernel, rfl, by decide +kernel, by decide +kernel⟩
theorem ok_is_among (F : Fun K "is_among" "is_among" s_is_among f fd) (T : RT K mg Cb Cr) : FnOk P w K mg base CX0 1 f fd ["thing", "least", "most"] spAmong := by
  refine F.ok sc_is_among (fun vs H Q E h => ?_) (fun cdv A outer s H vs Q E hr h => ?_)
  · obtain ⟨i, lo, hi, rfl, _⟩ := h
    rfl
  · obtain ⟨i, lo, hi, rfl, k⟩ := h
    refine ⟨_, (pss_one (ps_ret (pe_and (pe_callB call_isi (by rfl) T.b_isinstance (by decide +kernel) (pa_cons (pv 0) (pa_cons (pe_bltn (v := .ty "int") (u := .type "int") (by rfl) T.b_int (by decide +kernel) rfl) pa_nil))) (pe_and (pe_not (pe_callB call_isi (by rfl) T.b_isinstance (by decide +kernel) (pa_cons (pv 0) (pa_cons (pe_bltn (v := .ty "bool") (u := .type "bool") (by rfl) T.b_bool (by decide +kernel) rfl) pa_nil)))) (pe_one (pe_chain op_le op_le (pv 1) (pv 0) (pv 2))))))), ?_⟩
    refine ⟨_, rfl, _, _, _, _, true, rfl, .ty "int", .base (.int i), kit_ty (by decide +kernel), true, rfl, ?_⟩
    refine iteT ⟨_, rfl, _, _, _, _, false, rfl, .ty "bool", .base (.int i), kit_ty (by decide +kernel), false, rfl, true, rfl, ?_⟩
    refine iteT ⟨_, rfl,  _, rfl,  _, _, rfl, rfl,  _, rfl, ?_⟩
    by_cases h1 : lo ≤ i
    · rw [decide_eq_true h1] at k ⊢
      exact iteT ⟨_, rfl,  _, _, rfl, rfl,  k⟩
    · rw [decide_eq_false h1] at k ⊢
      exact iteF k
theorem sc_Block_init : FnScope ["self", "some", "full"] ["self", "some", "full"] (defScope s_Block_init) := ⟨rfl, rfl, rfl, by decide +kernel, rfl, by decide +kernel, by decide +kernel⟩
theorem ok_Block_init (F : Fun K "__init__" "Block.__init__" s_Block_init f fd) (T : RT K mg Cb Cr) : FnOk P w K mg base CX0 1 f fd ["self", "some", "full"] (spBlock Cb) := by
  refine F.ok sc_Block_init (fun vs H Q E h => ?_) (fun cdv A outer s H vs Q E hr h => ?_)
  · obtain ⟨a, dx, v, z, L, rfl, _⟩ := h
    rfl
  · obtain ⟨a, dx, v, z, L, rfl, hs, k⟩ := h
    refine ⟨_, (pss_cons (ps_fld (pv 0) (pv 1) rfl)
   (pss_one (ps_fld (pv 0) (pv 2) rfl))), ?_⟩
    refine ⟨_, rfl,  _, rfl,  _, _, _, _, rfl, hs.get, T.cl_Block, T.n_Block_some, (by decide), ?_⟩
    refine ⟨_, rfl,  _, rfl,  _, _, _, _, rfl, upd_same, T.cl_Block, T.n_Block_full, (by show 1 < 1000; decide), ?_⟩
    refine k _ ?_
    rw [fBlock_mk]
    exact (hs.put (o' := .ins Cb dx (putF "some" v []))).put
theorem sc_Row_init : FnScope ["self"] ["self"] (defScope s_Row_init) := ⟨rfl, rfl, rfl, by decide +kernel, rfl, by decide +kernel, by decide +kernel⟩
theorem ok_Row_init (F : Fun K "__init__" "Row.__init__" s_Row_init f fd) (T : RT K mg Cb Cr) (m_Block : Mak P w K mg base CX0 1 "Block" Cb (spBlock Cb)) : FnOk P w K mg base CX0 3 f fd ["self"] (spRow Cb Cr) := by
  refine F.ok sc_Row_init (fun vs H Q E h => ?_) (fun cdv A outer s H vs Q E hr h => ?_)
  · obtain ⟨a, dx, L, rfl, _⟩ := h
    rfl
  · obtain ⟨a, dx, L, rfl, hs, k⟩ := h
    refine ⟨_, (pss_cons (ps_fld (pv 0) (pe_lst (pa_cons (pe_mkG m_Block pass0 hr (by decide) (by rfl) (pa_cons (pe_lst pa_nil) (pa_cons pe_int pa_nil))) pa_nil)) rfl)
   (pss_cons (ps_fld (pv 0) (pe_lst pa_nil) rfl)
   (pss_one (ps_fld (pv 0) (pe_lst pa_nil) rfl)))), ?_⟩
    refine ⟨(by decide), fun l0 n0 => ?_⟩
    have hs0 := hs.new (o := .lst []) n0
    intro x0 d0 nx nd ne
    have hs1 := (hs0.new (o := .own x0) nd).new (o := .ins Cb d0 []) (by rw [upd_ne ne.symm]; exact nx)
    refine ⟨x0, d0, _, _, _, rfl, hs1, fun H1 hs2 => ⟨rfl, (by show 1 ≤ sizeLine; decide), fun b nb => ?_⟩⟩
    have hs3 := hs2.new (o := .lst [V.ref x0]) nb
    refine ⟨_, rfl,  _, _, _, _, rfl, hs3.get, T.cl_Row, T.n_Row_blocks, (by decide), (by decide), fun h nh => ?_⟩
    have hs4 : Hs ((a, .ins Cr dx (putF "blocks" (V.ref b) [])) :: (b, .lst [V.ref x0]) :: (x0, .ins Cb d0 (fBlock (.ref l0) (nv 0))) :: (l0, .lst []) :: L) (upd (upd H1 b (.lst [V.ref x0])) a (.ins Cr dx (putF "blocks" (V.ref b) []))) := by
      refine Hs.put (o := .ins Cr dx []) (hs3.sub (fun c => ?_) fun q => ?_)
      · simp only [kc_cons]; omega
      · simp only [hat_cons] at q ⊢
        obtain ⟨q1, q2, q3, q4, q5, q6⟩ := q
        exact ⟨q5, q1, q2, q4, q6⟩
    have hs5 := hs4.new (o := .lst []) nh
    refine ⟨_, rfl,  _, _, _, _, rfl, hs5.get, T.cl_Row, T.n_Row_homes, (by show 1 < 1000; decide), (by decide), fun u nu => ?_⟩
    have hs6 : Hs ((a, .ins Cr dx (putF "homes" (V.ref h) (putF "blocks" (V.ref b) []))) :: (h, .lst []) :: (b, .lst [V.ref x0]) :: (x0, .ins Cb d0 (fBlock (.ref l0) (nv 0))) :: (l0, .lst []) :: L) _ :=
      Hs.put (o := .ins Cr dx (putF "blocks" (V.ref b) [])) (hs5.sub (fun c => by simp only [kc_cons]; omega) fun q => by
        simp only [hat_cons] at q ⊢
        obtain ⟨q1, q2, q3, q4, q5, q6⟩ := q
        exact ⟨q2, q1, q3, q4, q5, q6⟩)
    have hs7 := hs6.new (o := .lst []) nu
    refine ⟨_, rfl,  _, _, _, _, rfl, hs7.get, T.cl_Row, T.n_Row_busy, (by show 2 < 1000; decide), ?_⟩
    refine k ⟨a, dx, b, h, u, [⟨x0, d0, l0, []⟩], [], []⟩ _ ⟨by simp, rfl, fun B hB s hs => ?_, by simp [Rw.order, flat], fun s => by simp [Rw.order, flat], by simp, .inl rfl⟩ rfl (by simp [Rw.order, flat]) rfl ?_
    · have e : B = ⟨x0, d0, l0, []⟩ := by simpa using hB
      rw [e] at hs
      cases hs
    · rw [fRow_mk]
      unfold rowC
      rw [blksC_cons]
      refine Hs.sub (Hs.put (o := .ins Cr dx (putF "homes" (V.ref h) (putF "blocks" (V.ref b) []))) (L := (u, .lst []) :: (h, .lst []) :: (b, .lst [V.ref x0]) :: (x0, .ins Cb d0 (fBlock (.ref l0) (nv 0))) :: (l0, .lst []) :: L) (hs7.sub (fun c => ?_) fun q => ?_)) (fun c => ?_) fun q => ?_
      · simp only [kc_cons]; omega
      · simp only [hat_cons] at q ⊢
        obtain ⟨q1, q2, q3⟩ := q
        exact ⟨q2, q1, q3⟩
      · simp only [kc_cons, kc_append, blksC, List.flatMap_nil, kc_nil]; omega
      · simp only [hat_cons, hat_append, blksC, List.flatMap_nil, hat_nil, List.map_nil, List.map_cons] at q ⊢
        obtain ⟨q1, q2, q3, q4, q5, q6, q7⟩ := q
        exact ⟨⟨q1, q4, q3, q2, q5, q6, trivial⟩, q7⟩
theorem sc_Row_need_seat : FnScope ["self", "seat"] ["self", "seat"] (defScope s_Row_need_seat) := ⟨rfl, rfl, rfl, by decide +kernel, rfl, by decide +kernel, by decide +kernel⟩
theorem ok_Row_need_seat (F : Fun K "need_seat" "Row.need_seat" s_Row_need_seat f fd) (T : RT K mg Cb Cr) (c_is_among : Cal P w K mg base CX0 1 "is_among" spAmong) : FnOk P w K mg base CX0 2 f fd ["self", "seat"] (spNeedSeat Cb Cr) := by
  refine F.ok sc_Row_need_seat (fun vs H Q E h => ?_) (fun cdv A outer s H vs Q E hr h => ?_)
  · obtain ⟨R, L, n, rfl, _⟩ := h
    rfl
  · obtain ⟨R, L, n, rfl, G, hs, hn, k⟩ := h
    unfold rowC at hs
    refine ⟨_, (pss_one (ps_if (pt_not (pt_val (pe_cG c_is_among pass0 hr (by decide) (by rfl) (pa_cons (pv 1) (pa_cons pe_int (pa_cons (pe_op op_sub (pe_callB call_len_seq (by rfl) T.b_len (by decide +kernel) (pa_cons (pe_fld (pv 0) rfl) pa_nil)) pe_int) pa_nil))))))
     (pss_one ps_never)
     pss_nil)), ?_⟩
    refine ⟨_, rfl,  _, rfl,  _, _, _, _, _, rfl, hs.get, T.cl_Row, T.n_Row_homes, fRow_homes,  _, _, rfl, .inl (SqL.of hs.get),  _, _, rfl, rfl,  _, _, _, rfl, _, rfl, ?_⟩
    have e : (decide ((0 : Int) ≤ (n : Int)) && decide ((n : Int) ≤ (((R.hs.map V.ref).length : Nat) : Int) - 1)) = true := by
      rw [List.length_map, G.hlen, decide_eq_true (by omega), decide_eq_true (by omega)]
      rfl
    rw [e]
    exact iteF k
theorem sc_Row_many : FnScope ["self"] ["self"] (defScope s_Row_many) := ⟨rfl, rfl, rfl, by decide +kernel, rfl, by decide +kernel, by decide +kernel⟩
theorem ok_Row_many (F : Fun K "many" "Row.many" s_Row_many f fd) (T : RT K mg Cb Cr) : FnOk P w K mg base CX0 1 f fd ["self"] (spMany Cb Cr) := by
  refine F.ok sc_Row_many (fun vs H Q E h => ?_) (fun cdv A outer s H vs Q E hr h => ?_)
  · obtain ⟨R, L, rfl, _⟩ := h
    rfl
  · obtain ⟨R, L, rfl, G, hs, k⟩ := h
    unfold rowC at hs
    refine ⟨_, (pss_one (ps_ret (pe_callB call_len_seq (by rfl) T.b_len (by decide +kernel) (pa_cons (pe_fld (pv 0) rfl) pa_nil)))), ?_⟩
    refine ⟨_, rfl,  _, _, _, _, _, rfl, hs.get, T.cl_Row, T.n_Row_homes, fRow_homes,  _, _, rfl, .inl (SqL.of hs.get),  ?_⟩
    rw [List.length_map, G.hlen]
    exact k
theorem sc_Row_is_taken : FnScope ["self", "seat"] ["self", "seat"] (defScope s_Row_is_taken) := ⟨rfl, rfl, rfl, by decide +kernel, rfl, by decide +kernel, by decide +kernel⟩
theorem ok_Row_is_taken (F : Fun K "is_taken" "Row.is_taken" s_Row_is_taken f fd) (T : RT K mg Cb Cr) (c_Row_need_seat : Met P w K mg base CX0 2 Cr "need_seat" (spNeedSeat Cb Cr)) : FnOk P w K mg base CX0 3 f fd ["self", "seat"] (spIsTaken Cb Cr) := by
  refine F.ok sc_Row_is_taken (fun vs H Q E h => ?_) (fun cdv A outer s H vs Q E hr h => ?_)
  · obtain ⟨R, L, n, rfl, _⟩ := h
    rfl
  · obtain ⟨R, L, n, rfl, G, hs0, hn, k⟩ := h
    have hs := hs0
    unfold rowC at hs
    refine ⟨_, (pss_cons (ps_expr (pe_mtG c_Row_need_seat pass0 hr (by decide) (pv 0) (pa_cons (pv 1) pa_nil)))
   (pss_one (ps_ret (pe_ix ix_list (pe_fld (pv 0) rfl) (pv 1) (fun _ _ => rfl))))), ?_⟩
    refine ⟨_, rfl,  _, _, _, rfl, hs.get, fRow_no (by decide +kernel),  _, rfl,  R, L, n, rfl, G, hs0, hn, ?_⟩
    refine ⟨_, rfl,  _, _, _, _, _, rfl, hs.get, T.cl_Row, T.n_Row_busy, fRow_busy,  _, rfl,  _, _, _, _, rfl, rfl, SqL.of hs.get, at_nv (bz_get hn),  k⟩
end
end Sm

set_option Elab.async false
set_option linter.all false
set_option maxRecDepth 100000
set_option maxHeartbeats 4000000
/-! A row's defs, further. -/
namespace Sm
open PySem PySem.Spec PyProof.Rows L2
section
variable {Cb Cr : Addr} {R : Rw} {F : List Chunk} {H : Hp}
theorem row_back {P S : List Blk} {B : Blk} (e : R.bs = P ++ B :: S)
    (h : Hs ((B.a, .ins Cb B.dx (fBlock (.ref B.l) (nv (cnt R.busy B.xs)))) :: (B.l, .lst (B.xs.map nv)) :: (R.r, .ins Cr R.dx (fRow (.ref R.b) (.ref R.h) (.ref R.u))) :: (R.b, .lst (R.bs.map fun B => V.ref B.a)) :: (R.h, .lst (R.hs.map V.ref)) :: (R.u, .lst (R.busy.map V.bl)) :: (blksC Cb R.busy P ++ (blksC Cb R.busy S ++ F))) H) : Hs (rowC Cb Cr R ++ F) H := by
  unfold rowC
  rw [e] at h ⊢
  rw [blksC_append, blksC_cons]
  refine h.sub (fun a => ?_) (fun q => ?_)
  · simp only [kc_append, kc_cons]
    omega
  · simp only [hat_append, hat_cons] at q ⊢
    obtain ⟨q6, q7, q1, q2, q3, q4, q5, q8, q9⟩ := q
    exact ⟨⟨q1, q2, q3, q4, q5, q6, q7, q8⟩, q9⟩
theorem blks_mem {busy : List Bool} {bs : List Blk} {B : Blk} (h : B ∈ bs) : (B.a, HO.ins Cb B.dx (fBlock (.ref B.l) (nv (cnt busy B.xs)))) ∈ blksC Cb busy bs ∧ (B.l, HO.lst (B.xs.map nv)) ∈ blksC Cb busy bs := by
  unfold blksC
  exact ⟨List.mem_flatMap.mpr ⟨B, h, List.mem_cons_self⟩, List.mem_flatMap.mpr ⟨B, h, List.mem_cons_of_mem _ List.mem_cons_self⟩⟩
theorem row_blk {B : Blk} (h : Hs (rowC Cb Cr R ++ F) H) (hB : B ∈ R.bs) : H B.a = some (.ins Cb B.dx (fBlock (.ref B.l) (nv (cnt R.busy B.xs)))) ∧ H B.l = some (.lst (B.xs.map nv)) := by
  unfold rowC at h
  have hb := blks_mem (Cb := Cb) (busy := R.busy) hB
  exact ⟨h.mem (List.mem_append_left _ (List.mem_cons_of_mem _ (List.mem_cons_of_mem _ (List.mem_cons_of_mem _ (List.mem_cons_of_mem _ hb.1))))),
    h.mem (List.mem_append_left _ (List.mem_cons_of_mem _ (List.mem_cons_of_mem _ (List.mem_cons_of_mem _ (List.mem_cons_of_mem _ hb.2)))))⟩
theorem blks_nodup {busy : List Bool} : ∀ {bs : List Blk}, (∀ a, kc a (blksC Cb busy bs) ≤ 1) → (bs.map (·.a)).Nodup
  | [], _ => List.nodup_nil
  | B :: bs, h => by
    rw [List.map_cons]
    refine List.nodup_cons.mpr ⟨fun m => ?_, blks_nodup (busy := busy) fun a => ?_⟩
    · obtain ⟨B', hB', e⟩ := List.mem_map.mp m
      have h1 := h B.a
      rw [blksC_cons, kc_cons, kc_cons] at h1
      have e1 : dl B.a (B.a, HO.ins Cb B.dx (fBlock (.ref B.l) (nv (cnt busy B.xs)))).1 = 1 := dl_self
      have h2 : kc B.a (blksC Cb busy bs) = 0 := by omega
      exact kc_zero h2 _ (blks_mem hB').1 e
    · have h1 := h a
      rw [blksC_cons, kc_cons, kc_cons] at h1
      omega
theorem row_nodup (h : Hs (rowC Cb Cr R ++ F) H) : (R.bs.map (·.a)).Nodup := blks_nodup (Cb := Cb) (busy := R.busy) fun a => by
  have := h.one a
  unfold rowC at this
  simp only [kc_append, kc_cons] at this
  omega
theorem row_inj (h : Hs (rowC Cb Cr R ++ F) H) {B B2 : Blk} (hB : B ∈ R.bs) (hB2 : B2 ∈ R.bs) (e : B.a = B2.a) : B = B2 := by
  obtain ⟨i, hi⟩ := List.getElem?_of_mem hB
  obtain ⟨j, hj⟩ := List.getElem?_of_mem hB2
  have nd := row_nodup h
  have hij : i = j := nd_ix nd (x := B.a) (by rw [List.getElem?_map, hi]; rfl) (by rw [List.getElem?_map, hj, e]; rfl)
  subst hij
  rw [hi] at hj
  exact Option.some.inj hj
end
theorem flat_nv (xs : List Nat) : (xs.map nv).all flatV = true := by
  rw [List.all_eq_true]
  intro v hv
  obtain ⟨n, _, rfl⟩ := List.mem_map.mp hv
  rfl
theorem nv_get {xs : List Nat} {i n : Nat} (h : xs[i]? = some n) : (xs.map nv)[i]? = some (nv n) := by
  rw [List.getElem?_map, h]
  rfl
theorem eqV_nv (a b : Nat) : eqV (nv a) (nv b) = decide (a = b) := by
  show ((a : Int) == (b : Int)) = decide (a = b)
  by_cases h : a = b
  · subst h
    simp
  · rw [decide_eq_false h]
    exact beq_eq_false_iff_ne.mpr (by omega)
theorem eqV_self {n : Nat} : eqV (nv n) (nv n) = true := by rw [eqV_nv, decide_eq_true rfl]
theorem nv_first {xs : List Nat} {s : Nat} : ∀ (m : Nat) (z : V), m < xs.idxOf s → (xs.map nv)[m]? = some z → eqV z (nv s) = false := fun m z hm hz => by
  rw [List.getElem?_map] at hz
  cases e : xs[m]? with
  | none =>
    rw [e] at hz
    cases hz
  | some n =>
    rw [e] at hz
    have e1 : nv n = z := Option.some.inj hz
    subst e1
    rw [eqV_nv]
    refine decide_eq_false fun q => ?_
    rw [q] at e
    exact idx_first hm e
theorem yes_k {σ : L2.St} {H : Hp} {A B : Hp → Prop} (h : A H) : tYes σ H (fun b H3 => if b = true then A H3 else B H3) := by
  show (if true = true then A H else B H)
  exact iteT h
theorem map_get {α β : Type} {f : α → β} {xs : List α} {i : Nat} {y : β} (h : (xs.map f)[i]? = some y) : ∃ x, xs[i]? = some x ∧ y = f x := by
  rw [List.getElem?_map] at h
  cases e : xs[i]? with
  | none =>
    rw [e] at h
    cases h
  | some x =>
    rw [e] at h
    exact ⟨x, rfl, (Option.some.inj h).symm⟩
/-- a number's own -/
def vn : V → Nat
  | .int i => i.toNat
  | _ => 0
section
variable {P : Program} {w : World} {K : PySem.W.Frag} {mg : Str → Option Value} {base : Heap} {Cb Cr f : Addr} {fd : FuncData}
/-- blocks.index(b) -/
theorem blk_ix1 {R : Rw} {F : List Chunk} {H : Hp} (hs : Hs (rowC Cb Cr R ++ F) H) : SqL K H R.b ((R.bs.map (·.a)).map V.ref) := by
  unfold rowC at hs
  rw [List.map_map]
  exact SqL.of hs.get
theorem blk_ix2 {R : Rw} {F : List Chunk} {H : Hp} (hs : Hs (rowC Cb Cr R ++ F) H) : ∀ a ∈ R.bs.map (·.a), Ins H Cb a := fun a ha => by
  obtain ⟨B', hB', rfl⟩ := List.mem_map.mp ha
  exact Ins.of (row_blk hs hB').1
theorem blk_ix3 {R : Rw} {P S : List Blk} {B : Blk} (e : R.bs = P ++ B :: S) : (R.bs.map (·.a))[P.length]? = some B.a := by
  rw [List.getElem?_map, e, List.getElem?_append_right (Nat.le_refl _), Nat.sub_self]
  rfl
theorem blk_ix4 {R : Rw} {F : List Chunk} {H : Hp} {P S : List Blk} {B : Blk} (hs : Hs (rowC Cb Cr R ++ F) H) (e : R.bs = P ++ B :: S) : ∀ m, m < P.length → (R.bs.map (·.a))[m]? ≠ some B.a := fun m hm hz =>
  Nat.ne_of_lt hm (nd_ix (row_nodup hs) hz (blk_ix3 e))
theorem sc_Row_take : FnScope ["self", "seat", "is_taken"] ["self", "seat", "is_taken"] (defScope s_Row_take) := ⟨rfl, rfl, rfl, by decide +kernel, rfl, by decide +kernel, by decide +kernel⟩
theorem ok_Row_take (F : Fun K "take" "Row.take" s_Row_take f fd) (T : RT K mg Cb Cr) (c_Row_need_seat : Met P w K mg base CX0 2 Cr "need_seat" (spNeedSeat Cb Cr)) : FnOk P w K mg base CX0 3 f fd ["self", "seat", "is_taken"] (spTake Cb Cr) := by
  refine F.ok sc_Row_take (fun vs H Q E h => ?_) (fun cdv A outer s H vs Q E hr h => ?_)
  · obtain ⟨R, L, n, c, rfl, _⟩ := h
    rfl
  · obtain ⟨R, L, n, c, rfl, G, hs0, hn, k⟩ := h
    obtain ⟨P, B, S, e, hB, hh⟩ := G.find hn
    have h1 := row_at e hs0
    have hh2 : (R.hs.map V.ref)[n]? = some (.ref B.a) := by rw [List.getElem?_map, hh]; rfl
    refine ⟨_, (pss_cons (ps_expr (pe_mtG c_Row_need_seat pass0 hr (by decide) (pv 0) (pa_cons (pv 1) pa_nil)))
   (pss_cons (ps_fld (pe_ix ix_list (pe_fld (pv 0) rfl) (pv 1) (fun _ _ => rfl)) (pe_op op_sub (pe_op op_add (pe_fld (pe_ix ix_list (pe_fld (pv 0) rfl) (pv 1) (fun _ _ => rfl)) rfl) (pe_callTy call_int1 (by rfl) T.b_int (by decide +kernel) (pa_cons (pv 2) pa_nil))) (pe_callTy call_int1 (by rfl) T.b_int (by decide +kernel) (pa_cons (pe_ix ix_list (pe_fld (pv 0) rfl) (pv 1) (fun _ _ => rfl)) pa_nil))) rfl)
   (pss_one (ps_asg (pv 2) (pg_sub (pe_fld (pv 0) rfl) (pv 1) set_list))))), ?_⟩
    refine ⟨_, rfl,  _, _, _, rfl, h1.get, fRow_no (by decide +kernel),  _, rfl,  R, L, n, rfl, G, hs0, hn, ?_⟩
    refine ⟨_, rfl,  _, _, _, _, _, rfl, h1.get, T.cl_Row, T.n_Row_homes, fRow_homes,  _, rfl,  _, _, _, _, rfl, rfl, SqL.of h1.get, at_nv hh2,  _, _, _, _, _, rfl, h1.get, T.cl_Block, T.n_Block_full, fBlock_full,  _, rfl,  .inr ⟨_, rfl, _, _, rfl, rfl,  _, rfl,  _, _, _, _, _, rfl, h1.get, T.cl_Row, T.n_Row_busy, fRow_busy,  _, rfl,  _, _, _, _, rfl, rfl, SqL.of h1.get, at_nv (bz_get hn),  .inr ⟨_, rfl, _, _, rfl, rfl,  _, rfl,  _, _, _, _, _, rfl, h1.get, T.cl_Row, T.n_Row_homes, fRow_homes,  _, rfl,  _, _, _, _, rfl, rfl, SqL.of h1.get, at_nv hh2,  _, _, _, _, rfl, h1.get, T.cl_Block, T.n_Block_full, fBlock_len,  ?_⟩⟩⟩
    refine upd_k h1 (congrArg _ fBlock_put_full) fun H2 h2 => ?_
    refine ⟨_, rfl,  _, rfl,  _, _, _, _, _, rfl, h2.get, T.cl_Row, T.n_Row_busy, fRow_busy,  _, rfl,  _, _, _, n, rfl, rfl, h2.get, ixN_nv (by rw [List.length_map]; exact hn), ?_⟩
    refine upd_k h2 rfl fun H3 h3 => ?_
    have hd : n ∉ flat P ∧ n ∉ flat S := by
      have nd := G.nd
      rw [Rw.order, flat_split e] at nd
      obtain ⟨_, n2, n3⟩ := List.nodup_append.mp nd
      obtain ⟨_, _, n4⟩ := List.nodup_append.mp n2
      exact ⟨fun q => n3 n q n (List.mem_append_left _ hB) rfl, fun q => n4 n hB n q rfl⟩
    have hp : ∀ B' ∈ P, cnt R.busy B'.xs = cnt (R.busy.set n c) B'.xs := fun B' hB' => (cnt_set_not hn fun q => hd.1 (List.mem_flatMap.mpr ⟨B', hB', q⟩)).symm
    have hq : ∀ B' ∈ S, cnt R.busy B'.xs = cnt (R.busy.set n c) B'.xs := fun B' hB' => (cnt_set_not hn fun q => hd.2 (List.mem_flatMap.mpr ⟨B', hB', q⟩)).symm
    have bnd : B.xs.Nodup := by
      have nd := G.nd
      rw [Rw.order, flat_split e] at nd
      exact (List.nodup_append.mp (List.nodup_append.mp nd).2.1).1
    have ec : ((cnt R.busy B.xs : Int) + (if c = true then 1 else 0) - (if bz R.busy n = true then 1 else 0)) = (cnt (R.busy.set n c) B.xs : Int) := (cnt_set hn bnd hB).symm
    dsimp only at h3
    rw [blksC_congr hp, blksC_congr hq, ec, ← List.map_set] at h3
    refine k { R with busy := R.busy.set n c } _ ⟨G.ne, by rw [List.length_set]; exact G.hlen, G.home, G.nd, fun s => by rw [List.length_set]; exact G.all s, by rw [List.length_set]; exact G.bnd, G.full⟩ rfl rfl rfl ?_
    exact row_back (R := { R with busy := R.busy.set n c }) e h3
theorem sc_Row_is_ahead : FnScope ["self", "one", "other", "first", "second"] ["self", "one", "other"] (defScope s_Row_is_ahead) := ⟨rfl, rfl, rfl, by decide +kernel, rfl, by decide +kernel, by decide +kernel⟩
theorem ok_Row_is_ahead (F : Fun K "is_ahead" "Row.is_ahead" s_Row_is_ahead f fd) (T : RT K mg Cb Cr) (c_Row_need_seat : Met P w K mg base CX0 2 Cr "need_seat" (spNeedSeat Cb Cr)) : FnOk P w K mg base CX0 3 f fd ["self", "one", "other"] (spIsAhead Cb Cr) := by
  refine F.ok sc_Row_is_ahead (fun vs H Q E h => ?_) (fun cdv A outer s H vs Q E hr h => ?_)
  · obtain ⟨R, L, a, b, rfl, _⟩ := h
    rfl
  · obtain ⟨R, L, a, b, rfl, G, hs0, ha, hb, k⟩ := h
    obtain ⟨P, B, S, e, hB, hh⟩ := G.find ha
    obtain ⟨P2, B2, S2, e2, hB2, hh2⟩ := G.find hb
    have hs := hs0
    unfold rowC at hs
    have mB : B ∈ R.bs := by rw [e]; exact List.mem_append_right _ List.mem_cons_self
    have mB2 : B2 ∈ R.bs := by rw [e2]; exact List.mem_append_right _ List.mem_cons_self
    obtain ⟨g1, g2⟩ := row_blk hs0 mB
    obtain ⟨g3, g4⟩ := row_blk hs0 mB2
    have t1 : (R.hs.map V.ref)[a]? = some (.ref B.a) := by rw [List.getElem?_map, hh]; rfl
    have t2 : (R.hs.map V.ref)[b]? = some (.ref B2.a) := by rw [List.getElem?_map, hh2]; rfl
    refine ⟨_, (pss_cons (ps_expr (pe_mtG c_Row_need_seat pass0 hr (by decide) (pv 0) (pa_cons (pv 1) pa_nil)))
   (pss_cons (ps_expr (pe_mtG c_Row_need_seat pass0 hr (by decide) (pv 0) (pa_cons (pv 2) pa_nil)))
   (pss_cons (ps_set (i := 3) sc_Row_is_ahead.nd rfl (Or.inl rfl) (pe_ix ix_list (pe_fld (pv 0) rfl) (pv 1) (fun _ _ => rfl)))
   (pss_cons (ps_set (i := 4) sc_Row_is_ahead.nd rfl (Or.inl rfl) (pe_ix ix_list (pe_fld (pv 0) rfl) (pv 2) (fun _ _ => rfl)))
   (pss_cons (ps_if (pt_cmpR (op_eqO hr.units0) (pv 3) (pv 4) (nomark _))
     (pss_one (ps_ret (pe_cmpR op_lt (pe_bm PySem.F.plainAttrs_list PySem.F.slot_list_index PySem.F.type_list_index mt_index (pe_fld (pv 3) rfl) (pa_cons (pv 1) pa_nil)) (pe_bm PySem.F.plainAttrs_list PySem.F.slot_list_index PySem.F.type_list_index mt_index (pe_fld (pv 3) rfl) (pa_cons (pv 2) pa_nil)) (nomark _))))
     pss_nil)
   (pss_one (ps_ret (pe_cmpR op_lt (pe_bm PySem.F.plainAttrs_list PySem.F.slot_list_index PySem.F.type_list_index (mt_indexO (hu_of hr)) (pe_fld (pv 0) rfl) (pa_cons (pv 3) pa_nil)) (pe_bm PySem.F.plainAttrs_list PySem.F.slot_list_index PySem.F.type_list_index (mt_indexO (hu_of hr)) (pe_fld (pv 0) rfl) (pa_cons (pv 4) pa_nil)) (nomark _))))))))), ?_⟩
    refine ⟨_, rfl,  _, _, _, rfl, hs.get, fRow_no (by decide +kernel),  _, rfl,  R, L, a, rfl, G, hs0, ha, ?_⟩
    refine ⟨_, rfl,  _, _, _, rfl, hs.get, fRow_no (by decide +kernel),  _, rfl,  R, L, b, rfl, G, hs0, hb, ?_⟩
    refine ⟨_, rfl,  _, _, _, _, _, rfl, hs.get, T.cl_Row, T.n_Row_homes, fRow_homes,  _, rfl,  _, _, _, _, rfl, rfl, SqL.of hs.get, at_nv t1,  ?_⟩
    refine ⟨_, rfl,  _, _, _, _, _, rfl, hs.get, T.cl_Row, T.n_Row_homes, fRow_homes,  _, rfl,  _, _, _, _, rfl, rfl, SqL.of hs.get, at_nv t2,  ?_⟩
    refine ⟨_, rfl,  _, rfl,  B.a, B2.a, Cb, rfl, rfl, Ins.of g1, Ins.of g3, T.eq_Block, _, rfl, ?_⟩
    by_cases hab : B.a = B2.a
    · have eB := row_inj hs0 mB mB2 hab
      subst eB
      rw [decide_eq_true rfl]
      refine iteT ⟨_, rfl,  _, _, _, _, _, rfl, g1, T.cl_Block, T.n_Block_some, fBlock_some, .inl ⟨rfl, _, SqL.of g2⟩, _, rfl,  _, _, _, _, _, rfl, rfl, SqL.of g2, rfl, flat_nv _, nv_get (get_idx hB), eqV_self, nv_first,  ?_⟩
      refine ⟨_, rfl,  _, _, _, _, _, rfl, g1, T.cl_Block, T.n_Block_some, fBlock_some, .inl ⟨rfl, _, SqL.of g2⟩, _, rfl,  _, _, _, _, _, rfl, rfl, SqL.of g2, rfl, flat_nv _, nv_get (get_idx hB2), eqV_self, nv_first,  _, _, rfl, rfl,  ?_⟩
      have e3 : decide ((B.xs.idxOf a : Int) < (B.xs.idxOf b : Int)) = decide (R.order.idxOf a < R.order.idxOf b) := by
        rw [Rw.order, order_idx e G.nd hB, order_idx e G.nd hB2]
        exact decide_eq_decide.mpr (by omega)
      rw [← e3] at k
      exact k
    · rw [decide_eq_false hab]
      refine iteF ⟨_, rfl,  _, _, _, _, _, rfl, hs.get, T.cl_Row, T.n_Row_blocks, fRow_blocks,  .inl ⟨rfl, _, SqL.of hs.get⟩,  _, rfl,  _, _, _, _, _, rfl, rfl, blk_ix1 hs0, blk_ix2 hs0, T.eq_Block, blk_ix3 e, blk_ix4 hs0 e,  ?_⟩
      refine ⟨_, rfl,  _, _, _, _, _, rfl, hs.get, T.cl_Row, T.n_Row_blocks, fRow_blocks,  .inl ⟨rfl, _, SqL.of hs.get⟩,  _, rfl,  _, _, _, _, _, rfl, rfl, blk_ix1 hs0, blk_ix2 hs0, T.eq_Block, blk_ix3 e2, blk_ix4 hs0 e2,  _, _, rfl, rfl,  ?_⟩
      have e3 : decide ((P.length : Int) < (P2.length : Int)) = decide (R.order.idxOf a < R.order.idxOf b) := by
        refine decide_eq_decide.mpr ?_
        rcases Nat.lt_trichotomy P.length P2.length with h | h | h
        · have := blk_order e e2 G.nd hB hB2 h
          exact ⟨fun _ => this, fun _ => by omega⟩
        · exact absurd (congrArg (·.a) (blk_same e e2 h)) hab
        · have := blk_order e2 e G.nd hB2 hB h
          unfold Rw.order
          omega
      rw [← e3] at k
      exact k
theorem sc_Row_all_taken : FnScope ["self", "block"] ["self"] (defScope s_Row_all_taken) := ⟨rfl, rfl, rfl, by decide +kernel, rfl, by decide +kernel, by decide +kernel⟩
theorem ok_Row_all_taken (F : Fun K "all_taken" "Row.all_taken" s_Row_all_taken f fd) (T : RT K mg Cb Cr) : FnOk P w K mg base CX0 1 f fd ["self"] (spAllTaken Cb Cr) := by
  refine F.ok sc_Row_all_taken (fun vs H Q E h => ?_) (fun cdv A outer s H vs Q E hr h => ?_)
  · obtain ⟨R, L, rfl, _⟩ := h
    rfl
  · obtain ⟨R, L, rfl, G, hs0, k⟩ := h
    have hs := hs0
    unfold rowC at hs
    refine ⟨_, (pss_one (ps_ret (pe_callB (cr_sum rfl) (by rfl) T.b_sum (by decide +kernel) (pa_cons (pe_lc (own := [("block", 1)]) (g := (gName 1)) (tt := tYes) (te := (tFld K (tVar 1) "full")) rfl sc_Row_all_taken.nd (pi_list (pe_fld (pv 0) rfl)) (blkOk_by (own := [("block", 1)]) (N := ["self", "block"]) (sc := defScope s_Row_all_taken) (by decide +kernel)) (fun _ _ _ _ _ => (pg_name (i := 1) sc_Row_all_taken.nd rfl (Or.inl rfl))) (fun _ _ _ _ _ => pts_nil) (fun _ _ _ _ _ => (pe_fld (pv 1) rfl))) pa_nil)))), ?_⟩
    refine ⟨_, rfl,  _, _, _, _, _, rfl, hs.get, T.cl_Row, T.n_Row_blocks, fRow_blocks,  _, rfl, ⟨_, SqL.of hs.get⟩, fun D nD => ?_⟩
    refine lc_map (ys := (R.bs.map fun B => (cnt R.busy B.xs : Int)).map V.int) hs0 nD (fun H' q => SqL.of (Hs.get (by unfold rowC at q; exact q))) (sz_lt (by rw [List.length_map]; have := G.small; omega)) (by simp) (fun i x y hx hy H' acc Nx q hz nx => ?_) fun H' q => ?_
    · obtain ⟨B, hB, rfl⟩ := map_get hx
      obtain ⟨z, hz2, rfl⟩ := map_get hy
      obtain ⟨B', hB', rfl⟩ := map_get hz2
      rw [hB] at hB'
      cases hB'
      exact ⟨rfl, yes_k ⟨_, rfl,  _, _, _, _, _, rfl, (row_blk q.rest (mem_get hB)).1, T.cl_Block, T.n_Block_full, fBlock_full, acc, q.get, hz, nx _ q.put⟩⟩
    · refine ⟨_, _, rfl, SqL.of q.get, ?_⟩
      have e : (R.bs.map fun B => (cnt R.busy B.xs : Int)).sum = (cnt R.busy R.order : Int) := flat_sum.symm
      rw [e]
      exact k H' q.rest
theorem sc_Row_order : FnScope ["self", "found", "block"] ["self"] (defScope s_Row_order) := ⟨rfl, rfl, rfl, by decide +kernel, rfl, by decide +kernel, by decide +kernel⟩
theorem ok_Row_order (F : Fun K "order" "Row.order" s_Row_order f fd) (T : RT K mg Cb Cr) : FnOk P w K mg base CX0 1 f fd ["self"] (spOrder Cb Cr) := by
  refine F.ok sc_Row_order (fun vs H Q E h => ?_) (fun cdv A outer s H vs Q E hr h => ?_)
  · obtain ⟨R, L, rfl, _⟩ := h
    rfl
  · obtain ⟨R, L, rfl, G, hs0, k⟩ := h
    have hs := hs0
    unfold rowC at hs
    refine ⟨_, (pss_cons (ps_set (i := 1) sc_Row_order.nd rfl (Or.inl rfl) (pe_lst pa_nil))
   (pss_cons (ps_for PassesOwn.never rfl (pi_list (pe_fld (pv 0) rfl)) (pg_name (i := 2) sc_Row_order.nd rfl (Or.inl rfl))
     (pss_one (ps_expr (pe_bm PySem.F.plainAttrs_list PySem.F.slot_list_extend PySem.F.type_list_extend mt_extend (pv 1) (pa_cons (pe_fld (pv 2) rfl) pa_nil)))))
   (pss_one (ps_ret (pv 1))))), ?_⟩
    refine ⟨(by decide), fun p np => ?_⟩
    refine new_k hs0 np fun H1 h1 => ?_
    have h1' := h1
    unfold rowC at h1'
    refine ⟨_, rfl,  _, _, _, _, _, rfl, h1'.get, T.cl_Row, T.n_Row_blocks, fRow_blocks,  _, rfl, ⟨_, SqL.of h1'.get⟩, for_list (K := K) (a := R.b) (xs := R.bs.map fun B => V.ref B.a)
      (fun i σ H' => (∃ v, σ = [some (.ref R.r), some (.ref p), v]) ∧ Hs ((p, .lst ((flat (R.bs.take i)).map nv)) :: (rowC Cb Cr R ++ L)) H') ⟨⟨_, rfl⟩, by simpa [flat] using h1⟩ (fun i σ H' _ q => SqL.of (Hs.get (by have := q.2; unfold rowC at this; exact this))) ?_ ?_⟩
    · rintro i x σ H' hx ⟨⟨v, rfl⟩, q⟩
      obtain ⟨B, hB, rfl⟩ := map_get hx
      have g := row_blk q.rest (mem_get hB)
      refine ⟨_, rfl,  .inl ⟨rfl, _, SqL.of q.get⟩, _, rfl,  _, _, _, _, _, rfl, g.1, T.cl_Block, T.n_Block_some, fBlock_some, _, _, _, _, rfl, rfl, q.get, g.2, ?_, ?_⟩
      · have h1 := flat_take_drop (bs := R.bs) (i + 1)
        have h2 := G.olen
        have h3 := G.bnd
        rw [Rw.order, h1, flat_take_succ hB, List.length_append, List.length_append] at h2
        rw [List.length_map, List.length_map]
        exact sz_ok (by omega)
      · refine upd_k q rfl fun H'' q' => ⟨⟨_, rfl⟩, ?_⟩
        rw [flat_take_succ hB, List.map_append]
        exact q'
    · rintro σ H' ⟨⟨v, rfl⟩, q⟩
      rw [List.length_map, List.take_length] at q
      exact ⟨_, rfl,  k p H' q⟩
theorem sc_Row_ahead : FnScope ["self", "seat", "home", "at", "found", "block", "one"] ["self", "seat"] (defScope s_Row_ahead) := ⟨rfl, rfl, rfl, by decide +kernel, rfl, by decide +kernel, by decide +kernel⟩
theorem ok_Row_ahead (F : Fun K "ahead" "Row.ahead" s_Row_ahead f fd) (T : RT K mg Cb Cr) (c_Row_need_seat : Met P w K mg base CX0 2 Cr "need_seat" (spNeedSeat Cb Cr)) : FnOk P w K mg base CX0 3 f fd ["self", "seat"] (spAhead Cb Cr) := by
  refine F.ok sc_Row_ahead (fun vs H Q E h => ?_) (fun cdv A outer s H vs Q E hr h => ?_)
  · obtain ⟨R, L, a, rfl, _⟩ := h
    rfl
  · obtain ⟨R, L, a, rfl, G, hs0, ha, k⟩ := h
    obtain ⟨P, B, S, e, hB, hh⟩ := G.find ha
    have hs := hs0
    unfold rowC at hs
    have mB : B ∈ R.bs := by rw [e]; exact List.mem_append_right _ List.mem_cons_self
    have t1 : (R.hs.map V.ref)[a]? = some (.ref B.a) := by rw [List.getElem?_map, hh]; rfl
    refine ⟨_, (pss_cons (ps_expr (pe_mtG c_Row_need_seat pass0 hr (by decide) (pv 0) (pa_cons (pv 1) pa_nil)))
   (pss_cons (ps_set (i := 2) sc_Row_ahead.nd rfl (Or.inl rfl) (pe_ix ix_list (pe_fld (pv 0) rfl) (pv 1) (fun _ _ => rfl)))
   (pss_cons (ps_set (i := 3) sc_Row_ahead.nd rfl (Or.inl rfl) (pe_bm PySem.F.plainAttrs_list PySem.F.slot_list_index PySem.F.type_list_index (mt_indexO (hu_of hr)) (pe_fld (pv 0) rfl) (pa_cons (pv 2) pa_nil)))
   (pss_cons (ps_set (i := 4) sc_Row_ahead.nd rfl (Or.inl rfl) (pe_callB (cr_sum rfl) (by rfl) T.b_sum (by decide +kernel) (pa_cons (pe_lc (own := [("block", 5)]) (g := (gName 5)) (tt := tYes) (te := (tFld K (tVar 5) "full")) rfl sc_Row_ahead.nd (pi_list (pe_slice sl_list (pe_fld (pv 0) rfl) po_none (po_some (pv 3)))) (blkOk_by (own := [("block", 5)]) (N := ["self", "seat", "home", "at", "found", "block", "one"]) (sc := defScope s_Row_ahead) (by decide +kernel)) (fun _ _ _ _ _ => (pg_name (i := 5) sc_Row_ahead.nd rfl (Or.inl rfl))) (fun _ _ _ _ _ => pts_nil) (fun _ _ _ _ _ => (pe_fld (pv 5) rfl))) pa_nil)))
   (pss_one (ps_ret (pe_op op_add (pv 4) (pe_callB call_len_seq (by rfl) T.b_len (by decide +kernel) (pa_cons (pe_lc (own := [("one", 6)]) (g := (gName 6)) (tt := (tB (tOp (rIxL K) (tFld K (tVar 0) "busy") (tVar 6)))) rfl sc_Row_ahead.nd (pi_list (pe_slice sl_list (pe_fld (pv 2) rfl) po_none (po_some (pe_bm PySem.F.plainAttrs_list PySem.F.slot_list_index PySem.F.type_list_index mt_index (pe_fld (pv 2) rfl) (pa_cons (pv 1) pa_nil))))) (blkOk_by (own := [("one", 6)]) (N := ["self", "seat", "home", "at", "found", "block", "one"]) (sc := defScope s_Row_ahead) (by decide +kernel)) (fun _ _ _ _ _ => (pg_name (i := 6) sc_Row_ahead.nd rfl (Or.inl rfl))) (fun _ _ _ _ _ => (pts_one (pt_val (pe_ix ix_list (pe_fld (pv 0) rfl) (pv 6) (fun _ _ => rfl))))) (fun _ _ _ _ _ => (pv 6))) pa_nil))))))))), ?_⟩
    refine ⟨_, rfl,  _, _, _, rfl, hs.get, fRow_no (by decide +kernel),  _, rfl,  R, L, a, rfl, G, hs0, ha, ?_⟩
    refine ⟨_, rfl,  _, _, _, _, _, rfl, hs.get, T.cl_Row, T.n_Row_homes, fRow_homes,  _, rfl,  _, _, _, _, rfl, rfl, SqL.of hs.get, at_nv t1,  ?_⟩
    refine ⟨_, rfl,  _, _, _, _, _, rfl, hs.get, T.cl_Row, T.n_Row_blocks, fRow_blocks,  .inl ⟨rfl, _, SqL.of hs.get⟩,  _, rfl,  _, _, _, _, _, rfl, rfl, blk_ix1 hs0, blk_ix2 hs0, T.eq_Block, blk_ix3 e, blk_ix4 hs0 e,  ?_⟩
    refine ⟨_, rfl,  _, _, _, _, _, rfl, hs.get, T.cl_Row, T.n_Row_blocks, fRow_blocks,  _, rfl,  _, rfl, _, _, rfl, SqL.of hs.get, fun p np => ?_⟩
    generalize hX : upd H p _ = H1
    have h1 := hs0.newG np hX
    have ep : cutV (R.bs.map fun B => V.ref B.a) none (some (P.length : Int)) = P.map fun B => V.ref B.a := by
      rw [cut_to, e, ← List.map_take, List.take_left]
    rw [ep] at h1
    refine ⟨_, rfl, ⟨_, SqL.of h1.get⟩, fun D nD => ?_⟩
    refine lc_map (ys := (P.map fun B => (cnt R.busy B.xs : Int)).map V.int) h1 nD (fun H' q => SqL.of q.get) (sz_lt (by
      rw [List.length_map]
      have h2 := G.small
      rw [e, List.length_append] at h2
      omega)) (by simp) (fun i x y hx hy H' acc Nx q hz nx => ?_) fun H' q => ?_
    · obtain ⟨B2, hB2, rfl⟩ := map_get hx
      obtain ⟨z, hz2, rfl⟩ := map_get hy
      obtain ⟨B3, hB3, rfl⟩ := map_get hz2
      rw [hB2] at hB3
      cases hB3
      exact ⟨rfl, yes_k ⟨_, rfl,  _, _, _, _, _, rfl, (row_blk q.rest.rest (by rw [e]; exact List.mem_append_left _ (mem_get hB2))).1, T.cl_Block, T.n_Block_full, fBlock_full, acc, q.get, hz, nx _ q.put⟩⟩
    · refine ⟨_, _, rfl, SqL.of q.get, ?_⟩
      have h2 := q.rest.rest
      have g := row_blk h2 mB
      have h2' := h2
      unfold rowC at h2'
      refine ⟨_, rfl,  _, rfl,  _, _, _, _, _, rfl, g.1, T.cl_Block, T.n_Block_some, fBlock_some, _, rfl,  _, _, _, _, _, rfl, g.1, T.cl_Block, T.n_Block_some, fBlock_some, .inl ⟨rfl, _, SqL.of g.2⟩, _, rfl,  _, _, _, _, _, rfl, rfl, SqL.of g.2, rfl, flat_nv _, nv_get (get_idx hB), eqV_self, nv_first,  _, rfl, _, _, rfl, SqL.of g.2, fun p2 np2 => ?_⟩
      generalize hX2 : upd H' p2 _ = H3
      have h3 := h2.newG np2 hX2
      rw [cut_to, ← List.map_take] at h3
      refine ⟨_, rfl, ⟨_, SqL.of h3.get⟩, fun D2 nD2 => ?_⟩
      refine lc_plain (fun v => bz R.busy (vn v)) id h3 nD2 (fun H' q => SqL.of q.get) (sz_lt (by
        rw [List.length_map, List.length_take]
        have := G.blen mB
        have := G.bnd
        omega)) (fun x hx H' acc Nx q hz nx1 nx2 => ?_) fun H' q => ?_
      · obtain ⟨n, hn, rfl⟩ := List.mem_map.mp hx
        have q' := q
        unfold rowC at q'
        have hn2 : n < R.busy.length := G.lt mB (List.mem_of_mem_take hn)
        refine ⟨rfl, _, rfl,  _, _, _, _, _, rfl, q'.get, T.cl_Row, T.n_Row_busy, fRow_busy,  _, rfl,  _, _, _, _, rfl, rfl, SqL.of q'.get, at_nv (bz_get hn2),  _, rfl, ?_⟩
        refine ite2 (fun hb => ⟨_, rfl,  acc, q.get, hz, nx1 hb _ q.put⟩) fun hb => nx2 (by show bz R.busy n = false; simpa using hb) _ q
      · refine ⟨_, _, rfl, .inl (SqL.of q.get),  _, _, rfl, rfl,  ?_⟩
        rw [List.map_id] at q
        have e5 : ((((B.xs.take (B.xs.idxOf a)).map nv).filter fun v => bz R.busy (vn v)).map id).length = cnt R.busy (B.xs.take (B.xs.idxOf a)) := by
          rw [List.map_id, List.filter_map, List.length_map]
          rfl
        have e6 : (P.map fun B => (cnt R.busy B.xs : Int)).sum = (cnt R.busy (flat P) : Int) := flat_sum.symm
        have e7 : (cnt R.busy (R.order.take (R.order.idxOf a)) : Int) = (P.map fun B => (cnt R.busy B.xs : Int)).sum + (((((B.xs.take (B.xs.idxOf a)).map nv).filter fun v => bz R.busy (vn v)).map id).length : Int) := by
          rw [e5, e6, Rw.order, order_take e G.nd hB, cnt_append]
          omega
        have k' := k H' q.rest.rest
        rw [show nv (cnt R.busy (R.order.take (R.order.idxOf a))) = V.int (cnt R.busy (R.order.take (R.order.idxOf a)) : Int) from rfl, e7] at k'
        exact k'
end
end Sm

set_option Elab.async false
set_option linter.all false
set_option maxRecDepth 100000
set_option maxHeartbeats 4000000
/-! A row's defs: find, part, add. -/
namespace Sm
open PySem PySem.Spec PyProof.Rows L2
theorem filter_nv {busy : List Bool} {xs : List Nat} : ((xs.map nv).filter fun v => bz busy (vn v)).map id = (taken busy xs).map nv := by
  rw [List.map_id, List.filter_map]
  rfl
section
variable {P : Program} {w : World} {K : PySem.W.Frag} {mg : Str → Option Value} {base : Heap} {Cb Cr f : Addr} {fd : FuncData}
theorem sc_Row_find : FnScope ["self", "place", "block", "seat"] ["self", "place"] (defScope s_Row_find) := ⟨rfl, rfl, rfl, by decide +kernel, rfl, by decide +kernel, by decide +kernel⟩
theorem ok_Row_find (F : Fun K "find" "Row.find" s_Row_find f fd) (T : RT K mg Cb Cr) (c_is_among : Cal P w K mg base CX0 1 "is_among" spAmong) (c_Row_all_taken : Met P w K mg base CX0 1 Cr "all_taken" (spAllTaken Cb Cr)) : FnOk P w K mg base CX0 2 f fd ["self", "place"] (spFind Cb Cr) := by
  refine F.ok sc_Row_find (fun vs H Q E h => ?_) (fun cdv A outer s H vs Q E hr h => ?_)
  · obtain ⟨R, L, p, z, rfl, _⟩ := h
    rfl
  · obtain ⟨R, L, p, z, rfl, G, hs0, hp, k⟩ := h
    have hs := hs0
    unfold rowC at hs
    have hp2 : p < cnt R.busy R.order := (List.getElem?_eq_some_iff.mp hp).1
    refine ⟨_, (pss_cons (ps_if (pt_not (pt_val (pe_cG c_is_among pass0 hr (by decide) (by rfl) (pa_cons (pv 1) (pa_cons pe_int (pa_cons (pe_op op_sub (pe_mtG0 c_Row_all_taken pass0 hr (by decide) (pv 0)) pe_int) pa_nil))))))
     (pss_one ps_never)
     pss_nil)
   (pss_cons (ps_for PassesOwn.never rfl (pi_list (pe_fld (pv 0) rfl)) (pg_name (i := 2) sc_Row_find.nd rfl (Or.inl rfl))
     (pss_cons (ps_if (pt_cmpR op_lt (pv 1) (pe_fld (pv 2) rfl) (nomark _))
         (pss_one (ps_ret (pe_ix ix_list (pe_lc (own := [("seat", 3)]) (g := (gName 3)) (tt := (tB (tOp (rIxL K) (tFld K (tVar 0) "busy") (tVar 3)))) rfl sc_Row_find.nd (pi_list (pe_fld (pv 2) rfl)) (blkOk_by (own := [("seat", 3)]) (N := ["self", "place", "block", "seat"]) (sc := defScope s_Row_find) (by decide +kernel)) (fun _ _ _ _ _ => (pg_name (i := 3) sc_Row_find.nd rfl (Or.inl rfl))) (fun _ _ _ _ _ => (pts_one (pt_val (pe_ix ix_list (pe_fld (pv 0) rfl) (pv 3) (fun _ _ => rfl))))) (fun _ _ _ _ _ => (pv 3))) (pv 1) (fun _ _ => rfl))))
         pss_nil)
       (pss_one (ps_set (i := 1) sc_Row_find.nd rfl (Or.inl rfl) (pe_op op_sub (pv 1) (pe_fld (pv 2) rfl))))))
   (pss_one (ps_ret pe_non)))), ?_⟩
    refine ⟨_, rfl,  _, rfl,  _, _, _, rfl, hs.get, fRow_no (by decide +kernel),  R, L, rfl, G, hs0, fun H1 h1 => ⟨_, _, rfl, rfl,  _, _, _, rfl, _, rfl, ?_⟩⟩
    have e : (decide ((0 : Int) ≤ (p : Int)) && decide ((p : Int) ≤ (cnt R.busy R.order : Int) - 1)) = true := by
      rw [decide_eq_true (by omega), decide_eq_true (by omega)]
      rfl
    rw [e]
    refine iteF ?_
    have h1' := h1
    unfold rowC at h1'
    refine ⟨_, rfl,  _, _, _, _, _, rfl, h1'.get, T.cl_Row, T.n_Row_blocks, fRow_blocks,  _, rfl, ⟨_, SqL.of h1'.get⟩, for_list (K := K) (a := R.b) (xs := R.bs.map fun B => V.ref B.a)
      (fun i σ H' => (∃ (v : Option V) (q : Nat), σ = [some (.ref R.r), some (nv q), v, none] ∧ (taken R.busy (flat (R.bs.drop i)))[q]? = some z) ∧ Hs (rowC Cb Cr R ++ L) H') ⟨⟨_, p, rfl, by rw [List.drop_zero]; exact hp⟩, h1⟩ (fun i σ H' _ q => SqL.of (Hs.get (by have := q.2; unfold rowC at this; exact this))) ?_ ?_⟩
    · rintro i x σ H' hx ⟨⟨v, q, rfl, hq⟩, h2⟩
      obtain ⟨B, hB, rfl⟩ := map_get hx
      have g := row_blk h2 (mem_get hB)
      refine ⟨_, rfl,  _, rfl,  _, _, _, _, _, rfl, g.1, T.cl_Block, T.n_Block_full, fBlock_full, _, _, rfl, rfl,  _, rfl, ?_⟩
      rw [flat_drop hB, taken_append] at hq
      by_cases hlt : q < cnt R.busy B.xs
      · rw [decide_eq_true (show (q : Int) < (cnt R.busy B.xs : Int) by omega)]
        rw [List.getElem?_append_left hlt] at hq
        refine iteT ⟨_, rfl,  _, _, _, _, _, rfl, g.1, T.cl_Block, T.n_Block_some, fBlock_some, _, rfl, ⟨_, SqL.of g.2⟩, fun D nD => ?_⟩
        refine lc_plain (fun v => bz R.busy (vn v)) id h2 nD (fun H'' q => SqL.of (row_blk q (mem_get hB)).2) (sz_lt (by
          rw [List.length_map]
          have := G.blen (mem_get hB)
          have := G.bnd
          omega)) (fun x hx H'' acc Nx q hz nx1 nx2 => ?_) fun H'' q => ?_
        · obtain ⟨n, hn, rfl⟩ := List.mem_map.mp hx
          have q' := q
          unfold rowC at q'
          have hn2 : n < R.busy.length := G.lt (mem_get hB) hn
          refine ⟨rfl, _, rfl,  _, _, _, _, _, rfl, q'.get, T.cl_Row, T.n_Row_busy, fRow_busy,  _, rfl,  _, _, _, _, rfl, rfl, SqL.of q'.get, at_nv (bz_get hn2),  _, rfl, ?_⟩
          refine ite2 (fun hb => ⟨_, rfl,  acc, q.get, hz, nx1 hb _ q.put⟩) fun hb => nx2 (by show bz R.busy n = false; simpa using hb) _ q
        · rw [filter_nv] at q
          exact ⟨_, rfl,  _, _, _, _, rfl, rfl, SqL.of q.get, at_nv (nv_get hq),  k H'' q.rest⟩
      · rw [decide_eq_false (show ¬ (q : Int) < (cnt R.busy B.xs : Int) by omega)]
        have hge : cnt R.busy B.xs ≤ q := by omega
        rw [List.getElem?_append_right hge] at hq
        refine iteF ⟨_, rfl,  _, rfl,  _, _, _, _, _, rfl, g.1, T.cl_Block, T.n_Block_full, fBlock_full, _, _, rfl, rfl,  ?_⟩
        refine ⟨⟨some (V.ref B.a), q - cnt R.busy B.xs, ?_, hq⟩, h2⟩
        have e2 : ((q - cnt R.busy B.xs : Nat) : Int) = (q : Int) - (cnt R.busy B.xs : Int) := by omega
        show _ = [some (V.ref R.r), some (V.int ((q - cnt R.busy B.xs : Nat) : Int)), some (V.ref B.a), none]
        rw [e2]
        rfl
    · rintro σ H' ⟨⟨v, q, rfl, hq⟩, h2⟩
      rw [List.length_map, List.drop_length] at hq
      simp [flat, taken] at hq
theorem cnt_take_drop {busy : List Bool} {xs : List Nat} {m : Nat} : cnt busy xs = cnt busy (xs.take m) + cnt busy (xs.drop m) := by
  rw [← cnt_append, List.take_append_drop]
theorem sc_Row_part : FnScope ["self", "block", "middle", "more", "other", "seat"] ["self", "block"] (defScope s_Row_part) := ⟨rfl, rfl, rfl, by decide +kernel, rfl, by decide +kernel, by decide +kernel⟩
theorem ok_Row_part (F : Fun K "part" "Row.part" s_Row_part f fd) (T : RT K mg Cb Cr) (m_Block : Mak P w K mg base CX0 1 "Block" Cb (spBlock Cb)) : FnOk P w K mg base CX0 3 f fd ["self", "block"] (spPart Cb Cr) := by
  refine F.ok sc_Row_part (fun vs H Q E h => ?_) (fun cdv A outer s H vs Q E hr h => ?_)
  · obtain ⟨R, L, P, S, B, rfl, _⟩ := h
    rfl
  · obtain ⟨R, L, P, S, B, rfl, G, e, h2m, hs0, k⟩ := h
    have mB : B ∈ R.bs := by rw [e]; exact List.mem_append_right _ List.mem_cons_self
    have hlen := G.blen mB
    have hbnd := G.bnd
    have h1 := row_at e hs0
    refine ⟨_, (pss_cons (ps_set (i := 2) sc_Row_part.nd rfl (Or.inl rfl) (pe_op op_fdiv (pe_callB call_len_seq (by rfl) T.b_len (by decide +kernel) (pa_cons (pe_fld (pv 1) rfl) pa_nil)) pe_int))
   (pss_cons (ps_set (i := 3) sc_Row_part.nd rfl (Or.inl rfl) (pe_slice sl_list (pe_fld (pv 1) rfl) (po_some (pv 2)) po_none))
   (pss_cons (ps_set (i := 4) sc_Row_part.nd rfl (Or.inl rfl) (pe_mkG m_Block pass0 hr (by decide) (by rfl) (pa_cons (pv 3) (pa_cons (pe_callB call_len_seq (by rfl) T.b_len (by decide +kernel) (pa_cons (pe_lc (own := [("seat", 5)]) (g := (gName 5)) (tt := (tB (tOp (rIxL K) (tFld K (tVar 0) "busy") (tVar 5)))) rfl sc_Row_part.nd (pi_list (pv 3)) (blkOk_by (own := [("seat", 5)]) (N := ["self", "block", "middle", "more", "other", "seat"]) (sc := defScope s_Row_part) (by decide +kernel)) (fun _ _ _ _ _ => (pg_name (i := 5) sc_Row_part.nd rfl (Or.inl rfl))) (fun _ _ _ _ _ => (pts_one (pt_val (pe_ix ix_list (pe_fld (pv 0) rfl) (pv 5) (fun _ _ => rfl))))) (fun _ _ _ _ _ => (pv 5))) pa_nil)) pa_nil))))
   (pss_cons (ps_fld (pv 1) (pe_slice sl_list (pe_fld (pv 1) rfl) po_none (po_some (pv 2))) rfl)
   (pss_cons (ps_fld (pv 1) (pe_op op_sub (pe_fld (pv 1) rfl) (pe_fld (pv 4) rfl)) rfl)
   (pss_cons (ps_for PassesOwn.never rfl (pi_list (pv 3)) (pg_name (i := 5) sc_Row_part.nd rfl (Or.inl rfl))
     (pss_one (ps_asg (pv 4) (pg_sub (pe_fld (pv 0) rfl) (pv 5) set_list))))
   (pss_one (ps_expr (pe_bm PySem.F.plainAttrs_list PySem.F.slot_list_insert PySem.F.type_list_insert mt_insert (pe_fld (pv 0) rfl) (pa_cons (pe_op op_add (pe_bm PySem.F.plainAttrs_list PySem.F.slot_list_index PySem.F.type_list_index (mt_indexO (hu_of hr)) (pe_fld (pv 0) rfl) (pa_cons (pv 1) pa_nil)) pe_int) (pa_cons (pv 4) pa_nil))))))))))), ?_⟩
    obtain ⟨m, hm⟩ : ∃ m, m = B.xs.length / 2 := ⟨_, rfl⟩
    have em : (((B.xs.map nv).length : Nat) : Int) / 2 = (m : Int) := by rw [List.length_map]; omega
    refine ⟨_, rfl,  _, _, _, _, _, rfl, h1.get, T.cl_Block, T.n_Block_some, fBlock_some,  _, _, rfl, .inl (SqL.of h1.get),  _, _, rfl, rfl,  ⟨by decide, by decide⟩, ?_⟩
    refine ⟨_, rfl,  _, _, _, _, _, rfl, h1.get, T.cl_Block, T.n_Block_some, fBlock_some,  _, rfl,  _, rfl, _, _, rfl, SqL.of h1.get, fun p np => ?_⟩
    generalize hX : upd H p _ = H2
    have h2 := h1.newG np hX
    rw [em, cut_from, ← List.map_drop] at h2
    obtain ⟨more, hmore⟩ : ∃ more, more = B.xs.drop m := ⟨_, rfl⟩
    rw [← hmore] at h2
    have hmlen : more.length ≤ B.xs.length := by rw [hmore, List.length_drop]; omega
    have hmem : ∀ n ∈ more, n ∈ B.xs := fun n hn => List.mem_of_mem_drop (by rw [hmore] at hn; exact hn)
    refine ⟨_, rfl,  _, rfl,  _, rfl, ⟨_, SqL.of h2.get⟩, fun D nD => ?_⟩
    refine lc_plain (fun v => bz R.busy (vn v)) id h2 nD (fun H'' q => SqL.of q.get) (sz_lt (by rw [List.length_map]; omega)) (fun x hx H'' acc Nx q hz nx1 nx2 => ?_) fun H3 q => ?_
    · obtain ⟨n, hn, rfl⟩ := List.mem_map.mp hx
      have hn2 : n < R.busy.length := G.lt mB (hmem n hn)
      refine ⟨rfl, _, rfl,  _, _, _, _, _, rfl, q.get, T.cl_Row, T.n_Row_busy, fRow_busy,  _, rfl,  _, _, _, _, rfl, rfl, SqL.of q.get, at_nv (bz_get hn2),  _, rfl, ?_⟩
      refine ite2 (fun hb => ⟨_, rfl,  acc, q.get, hz, nx1 hb _ q.put⟩) fun hb => nx2 (by show bz R.busy n = false; simpa using hb) _ q
    rw [filter_nv] at q
    refine ⟨_, _, rfl, .inl (SqL.of q.get),  ?_⟩
    intro x0 d0 nx nd ne
    have q2 := (q.new (o := .own x0) nd).new (o := .ins Cb d0 []) (by rw [upd_ne ne.symm]; exact nx)
    refine ⟨x0, d0, _, _, _, rfl, q2, fun H4 q4 => ⟨rfl, ?_⟩⟩
    have h4 := q4.sub (M := (x0, .ins Cb d0 (fBlock (.ref p) (nv (cnt R.busy more)))) :: (p, .lst (more.map nv)) :: (B.a, .ins Cb B.dx (fBlock (.ref B.l) (nv (cnt R.busy B.xs)))) :: (B.l, .lst (B.xs.map nv)) :: (R.r, .ins Cr R.dx (fRow (.ref R.b) (.ref R.h) (.ref R.u))) :: (R.b, .lst (R.bs.map fun B => V.ref B.a)) :: (R.h, .lst (R.hs.map V.ref)) :: (R.u, .lst (R.busy.map V.bl)) :: (blksC Cb R.busy P ++ (blksC Cb R.busy S ++ L)))
      (fun a => by simp only [kc_cons]; omega) (fun z => by
        simp only [hat_cons] at z ⊢
        obtain ⟨z1, _, _, z2⟩ := z
        refine ⟨?_, z2⟩
        rw [z1, List.length_map]
        rfl)
    -- block.some = block.some[:middle]
    refine ⟨_, rfl,  _, _, _, _, _, rfl, h4.get, T.cl_Block, T.n_Block_some, fBlock_some,  _, rfl,  _, rfl, _, _, rfl, SqL.of h4.get, fun p2 np2 => ?_⟩
    generalize hX2 : upd H4 p2 _ = H5
    have h5 := h4.newG np2 hX2
    rw [em, cut_to, ← List.map_take] at h5
    refine ⟨_, rfl,  _, _, _, _, rfl, h5.get, T.cl_Block, T.n_Block_some, fBlock_len,  ?_⟩
    refine upd_k h5 (congrArg _ fBlock_put_some) fun H6 h6 => ?_
    -- block.full = block.full - other.full
    refine ⟨_, rfl,  _, _, _, _, _, rfl, h6.get, T.cl_Block, T.n_Block_full, fBlock_full,  _, rfl,  _, _, _, _, _, rfl, h6.get, T.cl_Block, T.n_Block_full, fBlock_full,  _, _, rfl, rfl,  _, rfl,  _, _, _, _, rfl, h6.get, T.cl_Block, T.n_Block_full, fBlock_len,  ?_⟩
    refine upd_k h6 (congrArg _ fBlock_put_full) fun H7 h7 => ?_
    have ec : ((cnt R.busy B.xs : Nat) : Int) - ((cnt R.busy more : Nat) : Int) = ((cnt R.busy (B.xs.take m) : Nat) : Int) := by
      have := cnt_take_drop (busy := R.busy) (xs := B.xs) (m := m)
      rw [← hmore] at this
      omega
    dsimp only at h7
    rw [ec] at h7
    -- for seat in more: self.homes[seat] = other
    refine ⟨_, rfl,  _, rfl, ⟨_, SqL.of h7.get⟩, for_list (K := K) (a := p) (xs := more.map nv)
      (fun i σ H' => (∃ v, σ = [some (.ref R.r), some (.ref B.a), some (.int ((((B.xs.map nv).length : Nat) : Int) / 2)), some (.ref p), some (.ref x0), v]) ∧
        Hs ((p2, .lst ((B.xs.take m).map nv)) :: (x0, .ins Cb d0 (fBlock (.ref p) (nv (cnt R.busy more)))) :: (p, .lst (more.map nv)) :: (B.a, .ins Cb B.dx (fBlock (.ref p2) (nv (cnt R.busy (B.xs.take m))))) :: (B.l, .lst (B.xs.map nv)) :: (R.r, .ins Cr R.dx (fRow (.ref R.b) (.ref R.h) (.ref R.u))) :: (R.b, .lst (R.bs.map fun B => V.ref B.a)) :: (R.h, .lst ((setAll R.hs (more.take i) x0).map V.ref)) :: (R.u, .lst (R.busy.map V.bl)) :: (blksC Cb R.busy P ++ (blksC Cb R.busy S ++ L))) H')
      ⟨⟨_, rfl⟩, h7⟩ (fun i σ H' _ q => SqL.of q.2.get) ?_ ?_⟩
    · rintro i x σ H' hx ⟨⟨v, rfl⟩, q⟩
      obtain ⟨n, hn, rfl⟩ := map_get hx
      have hn2 : n < R.busy.length := G.lt mB (hmem n (mem_get hn))
      refine ⟨_, rfl,  _, rfl,  _, _, _, _, _, rfl, q.get, T.cl_Row, T.n_Row_homes, fRow_homes,  _, rfl,  _, _, _, n, rfl, rfl, q.get, ixN_nv (by rw [List.length_map, setAll_length, G.hlen]; exact hn2), ?_⟩
      refine upd_k q rfl fun H'' q' => ⟨⟨_, rfl⟩, ?_⟩
      have et : more.take (i + 1) = more.take i ++ [n] := by rw [List.take_add_one, hn]; rfl
      have es : (List.map V.ref (setAll R.hs (more.take i) x0)).set n (V.ref x0) = List.map V.ref (setAll R.hs (more.take (i + 1)) x0) := by rw [et, setAll_snoc, List.map_set]
      rw [es] at q'
      exact q'
    · rintro σ H8 ⟨⟨v, rfl⟩, q⟩
      rw [List.length_map, List.take_length] at q
      -- self.blocks.insert(self.blocks.index(block) + 1, other)
      have nd := row_nodup hs0
      have ha : ∀ a ∈ R.bs.map (·.a), Ins H8 Cb a := fun a ha => by
        obtain ⟨B', hB', rfl⟩ := List.mem_map.mp ha
        rw [e] at hB'
        rcases List.mem_append.mp hB' with hB' | hB'
        · exact Ins.of (q.mem (by simp only [List.mem_cons, List.mem_append]; right; right; right; right; right; right; right; right; right; left; exact (blks_mem hB').1))
        · rcases List.mem_cons.mp hB' with rfl | hB'
          · exact Ins.of q.get
          · exact Ins.of (q.mem (by simp only [List.mem_cons, List.mem_append]; right; right; right; right; right; right; right; right; right; right; left; exact (blks_mem hB').1))
      have hl : SqL K H8 R.b ((R.bs.map (·.a)).map V.ref) := by
        rw [List.map_map]
        exact SqL.of q.get
      refine ⟨_, rfl,  _, _, _, _, _, rfl, q.get, T.cl_Row, T.n_Row_blocks, fRow_blocks,  .inl ⟨rfl, _, SqL.of q.get⟩,  _, rfl,  _, _, _, _, _, rfl, q.get, T.cl_Row, T.n_Row_blocks, fRow_blocks,  .inl ⟨rfl, _, SqL.of q.get⟩,  _, rfl,  _, _, _, _, _, rfl, rfl, hl, ha, T.eq_Block, blk_ix3 e, (fun j hj hz => Nat.ne_of_lt hj (nd_ix nd hz (blk_ix3 e))), _, _, rfl, rfl,  _, rfl,  _, _, _, _, rfl, rfl, q.get, ?_, ?_, ?_, ?_⟩
      · have := G.small
        rw [List.length_map]
        exact sz_lt (by omega)
      · omega
      · have := G.small
        rw [e, List.length_append] at this
        omega
      refine upd_k q rfl fun H9 q9 => ?_
      obtain ⟨R', hR'⟩ : ∃ R' : Rw, R' = ⟨R.r, R.dx, R.b, R.h, R.u, P ++ ⟨B.a, B.dx, p2, B.xs.take m⟩ :: ⟨x0, d0, p, more⟩ :: S, setAll R.hs more x0, R.busy⟩ := ⟨_, rfl⟩
      have eo : R'.order = R.order := by
        rw [hR']
        unfold Rw.order
        show flat (P ++ ⟨B.a, B.dx, p2, B.xs.take m⟩ :: ⟨x0, d0, p, more⟩ :: S) = flat R.bs
        rw [e, flat_append, flat_append, flat_cons, flat_cons, flat_cons]
        show flat P ++ (B.xs.take m ++ (more ++ flat S)) = flat P ++ (B.xs ++ flat S)
        rw [← List.append_assoc (B.xs.take m), hmore, List.take_append_drop]
      have nd3 := G.nd
      rw [Rw.order, flat_split e] at nd3
      obtain ⟨_, n2, n3⟩ := List.nodup_append.mp nd3
      obtain ⟨nB, _, n4⟩ := List.nodup_append.mp n2
      have nBm : (B.xs.take m ++ more).Nodup := by rw [hmore, List.take_append_drop]; exact nB
      refine k R' H9 ⟨?_, ?_, ?_, ?_, ?_, ?_, ?_⟩ (by rw [hR']) eo (by rw [hR']) ?_
      · rw [hR']; simp
      · rw [hR']
        show (setAll R.hs more x0).length = R.busy.length
        rw [setAll_length]
        exact G.hlen
      · rw [hR']
        intro B' hB' n hn
        show (setAll R.hs more x0)[n]? = some B'.a
        rcases List.mem_append.mp hB' with hB' | hB'
        · rw [setAll_out fun z => n3 n (List.mem_flatMap.mpr ⟨B', hB', hn⟩) n (List.mem_append_left _ (hmem n z)) rfl]
          exact G.home B' (by rw [e]; exact List.mem_append_left _ hB') n hn
        · rcases List.mem_cons.mp hB' with rfl | hB'
          · have hn' : n ∈ B.xs.take m := hn
            rw [setAll_out fun z => (List.nodup_append.mp nBm).2.2 n hn' n z rfl]
            exact G.home B mB n (List.mem_of_mem_take hn')
          · rcases List.mem_cons.mp hB' with rfl | hB'
            · have hn' : n ∈ more := hn
              exact setAll_in (by rw [G.hlen]; exact G.lt mB (hmem n hn')) hn'
            · rw [setAll_out fun z => n4 n (hmem n z) n (List.mem_flatMap.mpr ⟨B', hB', hn⟩) rfl]
              exact G.home B' (by rw [e]; exact List.mem_append_right _ (List.mem_cons_of_mem _ hB')) n hn
      · rw [eo]; exact G.nd
      · rw [eo, hR']; exact G.all
      · rw [hR']; exact G.bnd
      · right
        rw [hR']
        intro B' hB'
        have hfull : ∀ B2 ∈ R.bs, B2.xs ≠ [] := by
          rcases G.full with h | h
          · intro B2 hB2
            rw [e, List.length_append, List.length_cons] at h
            have hP : P = [] := List.length_eq_zero_iff.mp (by omega)
            have hS : S = [] := List.length_eq_zero_iff.mp (by omega)
            rw [e, hP, hS] at hB2
            have : B2 = B := by simpa using hB2
            subst this
            exact List.length_pos_iff.mp (by omega)
          · exact h
        rcases List.mem_append.mp hB' with hB' | hB'
        · exact hfull B' (by rw [e]; exact List.mem_append_left _ hB')
        · rcases List.mem_cons.mp hB' with rfl | hB'
          · show B.xs.take m ≠ []
            exact List.length_pos_iff.mp (by rw [List.length_take]; omega)
          · rcases List.mem_cons.mp hB' with rfl | hB'
            · show more ≠ []
              exact List.length_pos_iff.mp (by rw [hmore, List.length_drop]; omega)
            · exact hfull B' (by rw [e]; exact List.mem_append_right _ (List.mem_cons_of_mem _ hB'))
      · rw [hR']
        unfold rowC
        show Hs ((R.r, _) :: (R.b, HO.lst ((P ++ ⟨B.a, B.dx, p2, B.xs.take m⟩ :: ⟨x0, d0, p, more⟩ :: S).map fun B => V.ref B.a)) :: (R.h, _) :: (R.u, _) :: blksC Cb R.busy (P ++ ⟨B.a, B.dx, p2, B.xs.take m⟩ :: ⟨x0, d0, p, more⟩ :: S) ++ L) H9
        have ei : (List.take ((P.length : Int) + 1).toNat (R.bs.map fun B => V.ref B.a) ++ [V.ref x0] ++ List.drop ((P.length : Int) + 1).toNat (R.bs.map fun B => V.ref B.a)) = (P ++ ⟨B.a, B.dx, p2, B.xs.take m⟩ :: ⟨x0, d0, p, more⟩ :: S).map fun B => V.ref B.a := by
          rw [show ((P.length : Int) + 1).toNat = P.length + 1 by omega, e]
          have l1 : (List.map (fun B => V.ref B.a) (P ++ B :: S)).take (P.length + 1) = P.map (fun B => V.ref B.a) ++ [V.ref B.a] := by
            rw [← List.map_take, List.take_append, List.take_of_length_le (by omega), show P.length + 1 - P.length = 1 by omega, List.map_append]
            rfl
          have l2 : (List.map (fun B => V.ref B.a) (P ++ B :: S)).drop (P.length + 1) = S.map (fun B => V.ref B.a) := by
            rw [← List.map_drop, List.drop_append, List.drop_eq_nil_of_le (by omega), show P.length + 1 - P.length = 1 by omega]
            rfl
          rw [l1, l2, List.map_append, List.map_cons, List.map_cons]
          simp only [List.append_assoc, List.cons_append, List.nil_append]
        rw [ei] at q9
        rw [blksC_append, blksC_cons, blksC_cons]
        refine q9.sub (fun a => ?_) fun z => ?_
        · simp only [kc_append, kc_cons]
          omega
        · simp only [hat_append, hat_cons] at z ⊢
          obtain ⟨z1, z2, z3, z4, z5, z6, z7, z8, z9, z10, z11, z12⟩ := z
          exact ⟨⟨z6, z7, z8, z9, z10, z4, z1, z2, z3, z11⟩, z12⟩
end
end Sm

set_option Elab.async false
set_option linter.all false
set_option maxRecDepth 100000
set_option maxHeartbeats 4000000
/-! A row's defs: add. -/
namespace Sm
open PySem PySem.Spec PyProof.Rows L2
theorem ins_nv {k n : Nat} {xs : List Nat} : List.take ((k : Int)).toNat (xs.map nv) ++ [nv n] ++ List.drop ((k : Int)).toNat (xs.map nv) = (insAt k n xs).map nv := by
  unfold insAt
  rw [Int.toNat_natCast, List.map_append, List.map_append, List.map_take, List.map_drop]
  rfl
section
variable {P : Program} {w : World} {K : PySem.W.Frag} {mg : Str → Option Value} {base : Heap} {Cb Cr f : Addr} {fd : FuncData}
theorem sc_Row_add : FnScope ["self", "behind", "block", "at", "seat"] ["self", "behind"] (defScope s_Row_add) := ⟨rfl, rfl, rfl, by decide +kernel, rfl, by decide +kernel, by decide +kernel⟩
theorem ok_Row_add (F : Fun K "add" "Row.add" s_Row_add f fd) (T : RT K mg Cb Cr) (c_Row_need_seat : Met P w K mg base CX0 2 Cr "need_seat" (spNeedSeat Cb Cr)) (c_Row_part : Met P w K mg base CX0 3 Cr "part" (spPart Cb Cr)) : FnOk P w K mg base CX0 4 f fd ["self", "behind"] (spAdd Cb Cr) := by
  refine F.ok sc_Row_add (fun vs H Q E h => ?_) (fun cdv A outer s H vs Q E hr h => ?_)
  · obtain ⟨R, L, o, rfl, _⟩ := h
    rfl
  · obtain ⟨R, L, o, rfl, G, hs0, ho, hbig, k⟩ := h
    have hs := hs0
    unfold rowC at hs
    obtain ⟨B0, S0, e0⟩ : ∃ B0 S0, R.bs = B0 :: S0 := by
      cases h : R.bs with
      | nil => exact absurd h G.ne
      | cons a b => exact ⟨a, b, rfl⟩
    have t0 : (R.bs.map fun B => V.ref B.a)[0]? = some (.ref B0.a) := by rw [e0]; rfl
    refine ⟨_, (pss_cons (ps_set (i := 2) sc_Row_add.nd rfl (Or.inl rfl) (pe_ix ix_list (pe_fld (pv 0) rfl) pe_int (fun _ _ => rfl)))
   (pss_cons (ps_set (i := 3) sc_Row_add.nd rfl (Or.inl rfl) pe_int)
   (C8.pss_cut (ps_if (pt_cmpR op_notN (pv 1) pe_non (nomark _))
     (pss_cons (ps_expr (pe_mtG c_Row_need_seat pass0 hr (by decide) (pv 0) (pa_cons (pv 1) pa_nil)))
       (pss_cons (ps_set (i := 2) sc_Row_add.nd rfl (Or.inl rfl) (pe_ix ix_list (pe_fld (pv 0) rfl) (pv 1) (fun _ _ => rfl)))
       (pss_one (ps_set (i := 3) sc_Row_add.nd rfl (Or.inl rfl) (pe_op op_add (pe_bm PySem.F.plainAttrs_list PySem.F.slot_list_index PySem.F.type_list_index mt_index (pe_fld (pv 2) rfl) (pa_cons (pv 1) pa_nil)) pe_int)))))
     pss_nil)
   (pss_cons (ps_set (i := 4) sc_Row_add.nd rfl (Or.inl rfl) (pe_callB call_len_seq (by rfl) T.b_len (by decide +kernel) (pa_cons (pe_fld (pv 0) rfl) pa_nil)))
   (pss_cons (ps_expr (pe_bm PySem.F.plainAttrs_list PySem.F.slot_list_insert PySem.F.type_list_insert mt_insert (pe_fld (pv 2) rfl) (pa_cons (pv 3) (pa_cons (pv 4) pa_nil))))
   (pss_cons (ps_expr (pe_bm PySem.F.plainAttrs_list PySem.F.slot_list_append PySem.F.type_list_append mt_append (pe_fld (pv 0) rfl) (pa_cons (pv 2) pa_nil)))
   (pss_cons (ps_expr (pe_bm PySem.F.plainAttrs_list PySem.F.slot_list_append PySem.F.type_list_append mt_append (pe_fld (pv 0) rfl) (pa_cons pe_bl pa_nil)))
   (pss_cons (ps_if (pt_cmpR op_gt (pe_callB call_len_seq (by rfl) T.b_len (by decide +kernel) (pa_cons (pe_fld (pv 2) rfl) pa_nil)) (pe_gcS (by rfl) T.g_MOST_IN_BLOCK) (nomark _))
     (pss_one (ps_expr (pe_mtG c_Row_part pass0 hr (by decide) (pv 0) (pa_cons (pv 2) pa_nil))))
     pss_nil)
   (pss_one (ps_ret (pv 4))))))))))), ?_⟩
    refine ⟨_, rfl,  _, _, _, _, _, rfl, hs.get, T.cl_Row, T.n_Row_blocks, fRow_blocks,  _, _, _, _, rfl, rfl, SqL.of hs.get, at_nv t0,  ?_⟩
    -- where the new one comes: in the block B, at k
    refine ⟨fun σ' H' => H' = H ∧ ∃ (P S : List Blk) (B : Blk) (j : Nat), R.bs = P ++ B :: S ∧ j ≤ B.xs.length ∧ R.posn o = (flat P).length + j ∧ σ' = [some (.ref R.r), some (optV o), some (.ref B.a), some (nv j), none], ?_, ?_⟩
    · cases o with
      | none =>
        refine ⟨_, rfl,  rfl, _, rfl, iteF ⟨rfl, [], S0, B0, 0, e0, Nat.zero_le _, rfl, rfl⟩⟩
      | some t =>
        have ht := ho t rfl
        obtain ⟨P, B, S, e, hB, hh⟩ := G.find ht
        have mB : B ∈ R.bs := by rw [e]; exact List.mem_append_right _ List.mem_cons_self
        have g := row_blk hs0 mB
        have t1 : (R.hs.map V.ref)[t]? = some (.ref B.a) := by rw [List.getElem?_map, hh]; rfl
        refine ⟨_, rfl,  rfl, _, rfl, ?_⟩
        refine iteT ⟨_, rfl,  _, _, _, rfl, hs.get, fRow_no (by decide +kernel),  _, rfl,  R, L, t, rfl, G, hs0, ht, ?_⟩
        refine ⟨_, rfl,  _, _, _, _, _, rfl, hs.get, T.cl_Row, T.n_Row_homes, fRow_homes,  _, rfl,  _, _, _, _, rfl, rfl, SqL.of hs.get, at_nv t1,  ?_⟩
        refine ⟨_, rfl,  _, _, _, _, _, rfl, g.1, T.cl_Block, T.n_Block_some, fBlock_some, .inl ⟨rfl, _, SqL.of g.2⟩, _, rfl,  _, _, _, _, _, rfl, rfl, SqL.of g.2, rfl, flat_nv _, nv_get (get_idx hB), eqV_self, nv_first,  _, _, rfl, rfl,  ?_⟩
        refine ⟨rfl, P, S, B, B.xs.idxOf t + 1, e, idx_lt hB, ?_, rfl⟩
        show R.order.idxOf t + 1 = (flat P).length + (B.xs.idxOf t + 1)
        rw [Rw.order, order_idx e G.nd hB]
        omega
    · rintro σ' H' ⟨rfl, P, S, B, j, e, hj, hpos, rfl⟩
      have mB : B ∈ R.bs := by rw [e]; exact List.mem_append_right _ List.mem_cons_self
      have hlen := G.blen mB
      have h1 := row_at e hs0
      refine ⟨_, rfl,  _, _, _, _, _, rfl, h1.get, T.cl_Row, T.n_Row_homes, fRow_homes,  _, _, rfl, .inl (SqL.of h1.get),  ?_⟩
      rw [List.length_map, G.hlen]
      refine ⟨_, rfl,  _, _, _, _, _, rfl, h1.get, T.cl_Block, T.n_Block_some, fBlock_some,  .inl ⟨rfl, _, SqL.of h1.get⟩,  _, rfl,  _, rfl,  _, _, _, _, rfl, rfl, h1.get, by rw [List.length_map]; exact sz_lt (by omega), by omega, by omega, ?_⟩
      refine upd_k h1 rfl fun H2 h2 => ?_
      rw [ins_nv] at h2
      refine ⟨_, rfl,  _, _, _, _, _, rfl, h2.get, T.cl_Row, T.n_Row_homes, fRow_homes,  .inl ⟨rfl, _, SqL.of h2.get⟩,  _, rfl,  _, _, _, rfl, rfl, h2.get, by rw [List.length_map, G.hlen]; exact sz_lt (by omega), ?_⟩
      refine upd_k h2 rfl fun H3 h3 => ?_
      refine ⟨_, rfl,  _, _, _, _, _, rfl, h3.get, T.cl_Row, T.n_Row_busy, fRow_busy,  .inl ⟨rfl, _, SqL.of h3.get⟩,  _, _, _, rfl, rfl, h3.get, by rw [List.length_map]; exact sz_lt (by omega), ?_⟩
      refine upd_k h3 rfl fun H4 h4 => ?_
      obtain ⟨n, hn⟩ : ∃ n, n = R.busy.length := ⟨_, rfl⟩
      obtain ⟨R', hR'⟩ : ∃ R' : Rw, R' = ⟨R.r, R.dx, R.b, R.h, R.u, P ++ ⟨B.a, B.dx, B.l, insAt j n B.xs⟩ :: S, R.hs ++ [B.a], R.busy ++ [false]⟩ := ⟨_, rfl⟩
      have eo : R'.order = insAt (R.posn o) n R.order := by
        rw [hR', hpos]
        unfold Rw.order
        show flat (P ++ ⟨B.a, B.dx, B.l, insAt j n B.xs⟩ :: S) = insAt ((flat P).length + j) n (flat R.bs)
        rw [flat_split e, insAt_mid hj, flat_append, flat_cons]
      have hnew : n ∉ R.order := fun z => by
        have := (G.all n).mp z
        omega
      have hold : ∀ B' ∈ R.bs, ∀ z ∈ B'.xs, z < R.busy.length := fun B' hB' z hz => G.lt hB' hz
      have hhome : ∀ B' ∈ R.bs, ∀ z ∈ B'.xs, (R.hs ++ [B.a])[z]? = some B'.a := fun B' hB' z hz => by
        rw [List.getElem?_append_left (by rw [G.hlen]; exact hold B' hB' z hz)]
        exact G.home B' hB' z hz
      have G' : R'.Good := by
        refine ⟨?_, ?_, ?_, ?_, ?_, ?_, ?_⟩
        · rw [hR']; simp
        · rw [hR']
          show (R.hs ++ [B.a]).length = (R.busy ++ [false]).length
          rw [List.length_append, List.length_append, G.hlen]
          rfl
        · rw [hR']
          intro B' hB' z hz
          show (R.hs ++ [B.a])[z]? = some B'.a
          rcases List.mem_append.mp hB' with hB' | hB'
          · exact hhome B' (by rw [e]; exact List.mem_append_left _ hB') z hz
          · rcases List.mem_cons.mp hB' with rfl | hB'
            · have hz : z ∈ insAt j n B.xs := hz
              rcases mem_insAt.mp hz with rfl | hz
              · show (R.hs ++ [B.a])[z]? = some B.a
                rw [hn, ← G.hlen, List.getElem?_append_right (Nat.le_refl _), Nat.sub_self]
                rfl
              · exact hhome B mB z hz
            · exact hhome B' (by rw [e]; exact List.mem_append_right _ (List.mem_cons_of_mem _ hB')) z hz
        · rw [eo]
          exact insAt_nodup G.nd hnew
        · intro z
          rw [eo, mem_insAt, G.all, hR']
          show z = n ∨ z < R.busy.length ↔ z < (R.busy ++ [false]).length
          rw [List.length_append, List.length_singleton]
          omega
        · rw [hR']
          show (R.busy ++ [false]).length ≤ 100000
          rw [List.length_append, List.length_singleton]
          omega
        · rw [hR']
          rcases G.full with h | h
          · left
            show (P ++ ⟨B.a, B.dx, B.l, insAt j n B.xs⟩ :: S).length = 1
            rw [e] at h
            rw [List.length_append, List.length_cons] at h ⊢
            exact h
          · right
            intro B' hB'
            rcases List.mem_append.mp hB' with hB' | hB'
            · exact h B' (by rw [e]; exact List.mem_append_left _ hB')
            · rcases List.mem_cons.mp hB' with rfl | hB'
              · show insAt j n B.xs ≠ []
                exact List.length_pos_iff.mp (by rw [insAt_length]; omega)
              · exact h B' (by rw [e]; exact List.mem_append_right _ (List.mem_cons_of_mem _ hB'))
      have e' : R'.bs = P ++ ⟨B.a, B.dx, B.l, insAt j n B.xs⟩ :: S := by rw [hR']
      have hP : blksC Cb R.busy P = blksC Cb (R.busy ++ [false]) P := blksC_congr fun B' hB' => (cnt_snoc (fun z hz => hold B' (by rw [e]; exact List.mem_append_left _ hB') z hz) false).symm
      have hS : blksC Cb R.busy S = blksC Cb (R.busy ++ [false]) S := blksC_congr fun B' hB' => (cnt_snoc (fun z hz => hold B' (by rw [e]; exact List.mem_append_right _ (List.mem_cons_of_mem _ hB')) z hz) false).symm
      have hc : cnt R.busy B.xs = cnt (R.busy ++ [false]) (insAt j n B.xs) := by
        rw [hn]
        exact (cnt_ins_new fun z hz => hold B mB z hz).symm
      have em : (R.bs.map fun B => V.ref B.a) = (P ++ ⟨B.a, B.dx, B.l, insAt j n B.xs⟩ :: S).map fun B => V.ref B.a := by
        rw [e, List.map_append, List.map_append]
        rfl
      have h5 : Hs (rowC Cb Cr R' ++ L) H4 := by
        refine row_back e' ?_
        rw [hR']
        show Hs ((B.a, HO.ins Cb B.dx (fBlock (.ref B.l) (nv (cnt (R.busy ++ [false]) (insAt j n B.xs))))) :: (B.l, HO.lst ((insAt j n B.xs).map nv)) :: (R.r, HO.ins Cr R.dx (fRow (.ref R.b) (.ref R.h) (.ref R.u))) :: (R.b, HO.lst ((P ++ ⟨B.a, B.dx, B.l, insAt j n B.xs⟩ :: S).map fun B => V.ref B.a)) :: (R.h, HO.lst ((R.hs ++ [B.a]).map V.ref)) :: (R.u, HO.lst ((R.busy ++ [false]).map V.bl)) :: (blksC Cb (R.busy ++ [false]) P ++ (blksC Cb (R.busy ++ [false]) S ++ L))) H4
        rw [← hP, ← hS, ← hc, ← em, List.map_append, List.map_append, hn]
        exact h4
      have hr' : R'.r = R.r := by rw [hR']
      have hb' : R'.busy = R.busy ++ [false] := by rw [hR']
      -- if len(block.some) > MOST_IN_BLOCK
      have g := row_blk h5 (B := ⟨B.a, B.dx, B.l, insAt j n B.xs⟩) (by rw [e']; exact List.mem_append_right _ List.mem_cons_self)
      refine ⟨_, rfl,  _, _, _, _, _, rfl, g.1, T.cl_Block, T.n_Block_some, fBlock_some, _, _, rfl, .inl (SqL.of g.2), _, _, rfl, rfl,  _, rfl, ?_⟩
      refine ite2 (fun hb => ?_) fun _ => ⟨_, rfl,  ?_⟩
      · have hb := of_decide_eq_true hb
        rw [List.length_map] at hb
        have h5' := h5
        unfold rowC at h5'
        rw [hr'] at h5'
        refine ⟨_, rfl,  _, _, _, rfl, h5'.get, fRow_no (by decide +kernel),  _, rfl,  R', L, P, S, ⟨B.a, B.dx, B.l, insAt j n B.xs⟩, by rw [hr']; rfl, G', e', by show 2 ≤ (insAt j n B.xs).length; have hb : (12 : Int) < ((insAt j n B.xs).length : Int) := hb; omega, h5, fun R2 H6 G2 r2 o2 b2 h6 => ?_⟩
        exact ⟨_, rfl,  k R2 H6 G2 (r2.trans hr') (by rw [o2, eo, hn]) (by rw [b2, hb']) h6⟩
      · exact k R' H4 G' hr' (by rw [eo, hn]) hb' h5
end
end Sm

set_option Elab.async false
set_option linter.all false
set_option maxRecDepth 100000
set_option maxHeartbeats 4000000
/-! The law's own helpers: a cell of the script, a whole number, a number drawn. -/
namespace Sm
open PySem PySem.Spec PyProof.Rows L2
abbrev s__law_cell_at : Stmt := top 10
abbrev s__law_whole : Stmt := top 11
abbrev s__law_mixed : Stmt := top 12
def cellAt (ns : List Int) (k : Nat) : Int := ns.getD k 0
def mixed (c k : Int) : Int := ((c * 48271 + 7919 * k + 12345) % 2147483647) * ((c * 48271 + 7919 * k + 12345) % 2147483647) % 2147483647 * ((c * 48271 + 7919 * k + 12345) % 2147483647) % 2147483647
theorem mixed_nn (c k : Int) : 0 ≤ mixed c k := Int.emod_nonneg _ (by decide)
theorem mixed_lt (c k : Int) : mixed c k < 2147483647 := Int.emod_lt_of_pos _ (by decide)
theorem cell_lt {ns : List Int} {k : Nat} (h : k < ns.length) : ns[k]? = some (cellAt ns k) := by
  unfold cellAt
  rw [List.getD_eq_getElem?_getD, List.getElem?_eq_getElem h]
  rfl
theorem cell_ge {ns : List Int} {k : Nat} (h : ns.length ≤ k) : cellAt ns k = 0 := by
  unfold cellAt
  rw [List.getD_eq_getElem?_getD, List.getElem?_eq_none h]
  rfl
structure LT1 (mg : Str → Option Value) : Prop where
  b_len : mg "len" = none
  b_int : mg "int" = none
  b_bool : mg "bool" = none
  b_isinstance : mg "isinstance" = none
def spCellAt (K : PySem.W.Frag) : Sp := fun vs H Q _ => ∃ (a : Addr) (ns : List Int) (k : Int), vs = [.ref a, .int k] ∧ 0 ≤ k ∧ SqL K H a (ns.map V.int) ∧ Q (.int (cellAt ns k.toNat)) H
def spWhole : Sp := fun vs H Q _ => ∃ i : Int, vs = [.int i] ∧ Q (.bl true) H
def spMixed : Sp := fun vs H Q _ => ∃ c k : Int, vs = [.int c, .int k] ∧ Q (.int (mixed c k)) H
section
variable {P : Program} {w : World} {K : PySem.W.Frag} {mg : Str → Option Value} {base : Heap} {f : Addr} {fd : FuncData}
theorem sc__law_cell_at : FnScope ["_law_script", "_law_k"] ["_law_script", "_law_k"] (defScope s__law_cell_at) := ⟨rfl, rfl, rfl, by decide +kernel, rfl, by decide +kernel, by decide +kernel⟩
theorem ok__law_cell_at (F : Fun K "_law_cell_at" "_law_cell_at" s__law_cell_at f fd) (T : LT1 mg) : FnOk P w K mg base CX0 1 f fd ["_law_script", "_law_k"] (spCellAt K) := by
  refine F.ok sc__law_cell_at (fun vs H Q E h => ?_) (fun cdv A outer s H vs Q E hr h => ?_)
  · obtain ⟨a, ns, k, rfl, _⟩ := h
    rfl
  · obtain ⟨a, ns, z, rfl, hz, hl, k⟩ := h
    obtain ⟨n, rfl⟩ : ∃ n : Nat, z = (n : Int) := ⟨z.toNat, by omega⟩
    rw [Int.toNat_natCast] at k
    refine ⟨_, (pss_cons (ps_if (pt_cmpR op_lt (pv 1) (pe_callB call_len_seq (by rfl) T.b_len (by decide +kernel) (pa_cons (pv 0) pa_nil)) (nomark _))
     (pss_one (ps_ret (pe_ix ix_list (pv 0) (pv 1) (fun _ _ => rfl))))
     pss_nil)
   (pss_one (ps_ret pe_int))), ?_⟩
    refine ⟨_, rfl,  _, rfl,  _, _, rfl, .inl hl, _, _, rfl, rfl,  _, rfl, ?_⟩
    rw [List.length_map]
    by_cases h : n < ns.length
    · rw [decide_eq_true (show (n : Int) < (ns.length : Int) by omega)]
      exact iteT ⟨_, rfl,  _, rfl,  _, _, _, _, rfl, rfl, hl, at_nv (v := V.int (cellAt ns n)) (by rw [List.getElem?_map, cell_lt h]; rfl), k⟩
    · rw [decide_eq_false (show ¬ (n : Int) < (ns.length : Int) by omega)]
      rw [cell_ge (by omega)] at k
      exact iteF k
theorem sc__law_whole : FnScope ["_law_found"] ["_law_found"] (defScope s__law_whole) := ⟨rfl, rfl, rfl, by decide +kernel, rfl, by decide +kernel, by decide +kernel⟩
theorem ok__law_whole (F : Fun K "_law_whole" "_law_whole" s__law_whole f fd) (T : LT1 mg) : FnOk P w K mg base CX0 1 f fd ["_law_found"] spWhole := by
  refine F.ok sc__law_whole (fun vs H Q E h => ?_) (fun cdv A outer s H vs Q E hr h => ?_)
  · obtain ⟨i, rfl, _⟩ := h
    rfl
  · obtain ⟨i, rfl, k⟩ := h
    refine ⟨_, (pss_one (ps_ret (pe_and (pe_callB call_isi (by rfl) T.b_isinstance (by decide +kernel) (pa_cons (pv 0) (pa_cons (pe_bltn (v := .ty "int") (u := .type "int") (by rfl) T.b_int (by decide +kernel) rfl) pa_nil))) (pe_one (pe_not (pe_callB call_isi (by rfl) T.b_isinstance (by decide +kernel) (pa_cons (pv 0) (pa_cons (pe_bltn (v := .ty "bool") (u := .type "bool") (by rfl) T.b_bool (by decide +kernel) rfl) pa_nil)))))))), ?_⟩
    refine ⟨_, rfl, _, _, _, _, true, rfl, .ty "int", .base (.int i), kit_ty (by decide +kernel), true, rfl, ?_⟩
    exact iteT ⟨_, rfl, _, _, _, _, false, rfl, .ty "bool", .base (.int i), kit_ty (by decide +kernel), false, rfl, k⟩
theorem sc__law_mixed : FnScope ["_law_cell", "_law_k", "_law_number"] ["_law_cell", "_law_k"] (defScope s__law_mixed) := ⟨rfl, rfl, rfl, by decide +kernel, rfl, by decide +kernel, by decide +kernel⟩
theorem ok__law_mixed (F : Fun K "_law_mixed" "_law_mixed" s__law_mixed f fd) : FnOk P w K mg base CX0 1 f fd ["_law_cell", "_law_k"] spMixed := by
  refine F.ok sc__law_mixed (fun vs H Q E h => ?_) (fun cdv A outer s H vs Q E hr h => ?_)
  · obtain ⟨c, n, rfl, _⟩ := h
    rfl
  · obtain ⟨c, n, rfl, k⟩ := h
    have h0 := Int.emod_nonneg (c * 48271 + 7919 * n + 12345) (b := 2147483647) (by decide)
    have h1 := Int.emod_lt_of_pos (c * 48271 + 7919 * n + 12345) (b := 2147483647) (by decide)
    refine ⟨_, (pss_cons (ps_set (i := 2) sc__law_mixed.nd rfl (Or.inl rfl) (pe_op op_mod (pe_op op_add (pe_op op_add (pe_op op_mul (pv 0) pe_int) (pe_op op_mul pe_int (pv 1))) pe_int) pe_int))
   (pss_one (ps_ret (pe_op op_mod (pe_op op_mul (pe_op op_mod (pe_op op_mul (pv 2) (pv 2)) pe_int) (pv 2)) pe_int)))), ?_⟩
    refine ⟨_, rfl,  _, _, rfl, rfl,  .inr (by decide), _, rfl,  _, _, rfl, rfl,  .inl (by decide), _, _, rfl, rfl,  _, _, rfl, rfl,  _, _, rfl, rfl, (by show (0 : Int) < _; decide),  ?_⟩
    refine ⟨_, rfl,  _, rfl,  _, _, rfl, rfl,  .inl ⟨by omega, by omega⟩, _, _, rfl, rfl, (by show (0 : Int) < _; decide),  _, rfl,  _, _, rfl, rfl,  .inr ⟨by omega, by omega⟩, _, _, rfl, rfl, (by show (0 : Int) < _; decide),  k⟩
end
end Sm

set_option Elab.async false
set_option linter.all false
set_option maxRecDepth 100000
set_option maxHeartbeats 8000000
/-! k01: the law's look behind each deed. -/
namespace Sm
open PySem PySem.Spec PyProof.Rows L2
abbrev s__law_stands : Stmt := top 15
abbrev s_law : Stmt := top 16
structure LT2 (mg : Str → Option Value) : Prop where
  b_len : mg "len" = none
  b_int : mg "int" = none
  b_bool : mg "bool" = none
  b_isinstance : mg "isinstance" = none
  b_list : mg "list" = none
  b_range : mg "range" = none
  b_min : mg "min" = none
  b_max : mg "max" = none
/-- what is handed to the look -/
def spStands (Cb Cr : Addr) : Sp := fun vs H Q _ => ∃ (R : Rw) (l u : Addr) (z : Int) (F : List Chunk), vs = [.ref R.r, .ref l, .ref u, .int z] ∧ R.Good ∧ Hs (rowC Cb Cr R ++ ((l, .lst (R.order.map nv)) :: (u, .lst (R.busy.map V.bl)) :: F)) H ∧ 0 ≤ z ∧ 0 < R.busy.length ∧
  ∀ H', Hs (rowC Cb Cr R ++ ((l, .lst (R.order.map nv)) :: (u, .lst (R.busy.map V.bl)) :: F)) H' → Q (.bl true) H'
theorem filter_one {busy : List Bool} {xs : List Nat} : (((xs.map nv).filter fun v => bz busy (vn v)).map fun _ => V.int 1).length = cnt busy xs := by
  rw [List.length_map, List.filter_map, List.length_map]
  rfl
section
variable {P : Program} {w : World} {K : PySem.W.Frag} {mg : Str → Option Value} {base : Heap} {Cb Cr f : Addr} {fd : FuncData}
theorem sc__law_stands : FnScope ["_law_row", "_law_plain", "_law_busy", "_law_number", "_law_one", "_law_other", "_law_taken", "_law_told", "_law_due", "_law_seat", "_law_found", "_law_place", "_law_near"] ["_law_row", "_law_plain", "_law_busy", "_law_number"] (defScope s__law_stands) := ⟨rfl, rfl, rfl, by decide +kernel, rfl, by decide +kernel, by decide +kernel⟩
theorem ok__law_stands (F : Fun K "_law_stands" "_law_stands" s__law_stands f fd) (T : LT2 mg)
    (c__law_whole : Cal P w K mg base CX0 1 "_law_whole" spWhole)
    (c_Row_many : Met P w K mg base CX0 1 Cr "many" (spMany Cb Cr)) (c_Row_all_taken : Met P w K mg base CX0 1 Cr "all_taken" (spAllTaken Cb Cr)) (c_Row_ahead : Met P w K mg base CX0 3 Cr "ahead" (spAhead Cb Cr))
    (c_Row_is_taken : Met P w K mg base CX0 3 Cr "is_taken" (spIsTaken Cb Cr)) (c_Row_is_ahead : Met P w K mg base CX0 3 Cr "is_ahead" (spIsAhead Cb Cr)) (c_Row_find : Met P w K mg base CX0 2 Cr "find" (spFind Cb Cr)) :
    FnOk P w K mg base CX0 4 f fd ["_law_row", "_law_plain", "_law_busy", "_law_number"] (spStands Cb Cr) := by
  refine F.ok sc__law_stands (fun vs H Q E h => ?_) (fun cdv A outer s H vs Q E hr h => ?_)
  · obtain ⟨R, l, u, z, L, rfl, _⟩ := h
    rfl
  · obtain ⟨R, l, u, z, L, rfl, G, hs, hz, hn, k⟩ := h
    have ol := G.olen
    have bnd := G.bnd
    obtain ⟨a, ha⟩ : ∃ a : Nat, z % (R.busy.length : Int) = (a : Int) := ⟨(z % (R.busy.length : Int)).toNat, by have := Int.emod_nonneg z (b := (R.busy.length : Int)) (by omega); omega⟩
    obtain ⟨b, hb⟩ : ∃ b : Nat, z / 101 % (R.busy.length : Int) = (b : Int) := ⟨(z / 101 % (R.busy.length : Int)).toNat, by have := Int.emod_nonneg (z / 101) (b := (R.busy.length : Int)) (by omega); omega⟩
    have ha2 : a < R.busy.length := by have := Int.emod_lt_of_pos z (b := (R.busy.length : Int)) (by omega); omega
    have hb2 : b < R.busy.length := by have := Int.emod_lt_of_pos (z / 101) (b := (R.busy.length : Int)) (by omega); omega
    have ma : a ∈ R.order := (G.all a).mpr ha2
    have mb : b ∈ R.order := (G.all b).mpr hb2
    have hbl : ((R.busy.map V.bl).length : Int) = (R.busy.length : Int) := by rw [List.length_map]
    have ea : V.int (z % ((R.busy.map V.bl).length : Int)) = nv a := by rw [hbl, ha]
    have eb : V.int (z / 101 % ((R.busy.map V.bl).length : Int)) = nv b := by rw [hbl, hb]
    refine ⟨_, (pss_cons (ps_set (i := 4) sc__law_stands.nd rfl (Or.inl rfl) (pe_cut (pe_op op_mod (pv 3) (pe_callB call_len_seq (by rfl) T.b_len (by decide +kernel) (pa_cons (pv 2) pa_nil)))))
   (pss_cons (ps_set (i := 5) sc__law_stands.nd rfl (Or.inl rfl) (pe_cut (pe_op op_mod (pe_op op_fdiv (pv 3) pe_int) (pe_callB call_len_seq (by rfl) T.b_len (by decide +kernel) (pa_cons (pv 2) pa_nil)))))
   (pss_cons (ps_setLc (i := 6) (own := [("_law_seat", 9)]) (g := (gName 9)) (tt := (tB (tOp (rIxL K) (tVar 2) (tVar 9)))) rfl sc__law_stands.nd rfl rfl (sw_true rfl rfl rfl (by decide +kernel)) (pi_list (pv 1)) (blkOk_by (own := [("_law_seat", 9)]) (N := ["_law_row", "_law_plain", "_law_busy", "_law_number", "_law_one", "_law_other", "_law_taken", "_law_told", "_law_due", "_law_seat", "_law_found", "_law_place", "_law_near"]) (sc := defScope s__law_stands) (by decide +kernel)) (fun _ _ _ _ _ => (pg_name (i := 9) sc__law_stands.nd rfl (Or.inl rfl))) (fun _ _ _ _ _ => (pts_one (pt_val (pe_ix ix_list (pv 2) (pv 9) (fun _ _ => rfl))))) (fun _ _ _ _ _ => (pv 9)))
   (pss_cons (ps_set (i := 7) sc__law_stands.nd rfl (Or.inl rfl) (pe_lst (pa_cons (pe_mtG0 c_Row_many pass0 hr (by decide) (pv 0)) (pa_cons (pe_mtG0 c_Row_all_taken pass0 hr (by decide) (pv 0)) (pa_cons (pe_mtG c_Row_ahead pass0 hr (by decide) (pv 0) (pa_cons (pv 4) pa_nil)) (pa_cons (pe_mtG c_Row_ahead pass0 hr (by decide) (pv 0) (pa_cons (pv 5) pa_nil)) pa_nil))))))
   (pss_cons (ps_set (i := 8) sc__law_stands.nd rfl (Or.inl rfl) (pe_lst (pa_cons (pe_callB call_len_seq (by rfl) T.b_len (by decide +kernel) (pa_cons (pv 1) pa_nil)) (pa_cons (pe_callB call_len_seq (by rfl) T.b_len (by decide +kernel) (pa_cons (pv 6) pa_nil)) pa_nil))))
   (pss_cons (ps_for PassesOwn.never rfl (pi_tup (pe_tup (pa_cons (pv 4) (pa_cons (pv 5) pa_nil)))) (pg_name (i := 9) sc__law_stands.nd rfl (Or.inl rfl))
     (pss_one (ps_expr (pe_bm PySem.F.plainAttrs_list PySem.F.slot_list_append PySem.F.type_list_append mt_append (pv 8) (pa_cons (pe_callB call_len_seq (by rfl) T.b_len (by decide +kernel) (pa_cons (pe_lc (own := [("_law_near", 12)]) (g := (gName 12)) (tt := (tB (tOp (rIxL K) (tVar 2) (tVar 12)))) rfl sc__law_stands.nd (pi_list (pe_slice sl_list (pv 1) po_none (po_some (pe_bm PySem.F.plainAttrs_list PySem.F.slot_list_index PySem.F.type_list_index mt_index (pv 1) (pa_cons (pv 9) pa_nil))))) (blkOk_by (own := [("_law_near", 12)]) (N := ["_law_row", "_law_plain", "_law_busy", "_law_number", "_law_one", "_law_other", "_law_taken", "_law_told", "_law_due", "_law_seat", "_law_found", "_law_place", "_law_near"]) (sc := defScope s__law_stands) (by decide +kernel)) (fun _ _ _ _ _ => (pg_name (i := 12) sc__law_stands.nd rfl (Or.inl rfl))) (fun _ _ _ _ _ => (pts_one (pt_val (pe_ix ix_list (pv 2) (pv 12) (fun _ _ => rfl))))) (fun _ _ _ _ _ => pe_int)) pa_nil)) pa_nil)))))
   (pss_cons (ps_if (PW.pt (pw_or (pt_cmpR (op_neD hr.units) (pe_lc (own := [("_law_found", 10)]) (g := (gName 10)) (tt := (tNot (tB (tCall spWhole [] E0 (tCons (tVar 10) tNil))))) rfl sc__law_stands.nd (pi_list (pv 7)) (blkOk_by (own := [("_law_found", 10)]) (N := ["_law_row", "_law_plain", "_law_busy", "_law_number", "_law_one", "_law_other", "_law_taken", "_law_told", "_law_due", "_law_seat", "_law_found", "_law_place", "_law_near"]) (sc := defScope s__law_stands) (by decide +kernel)) (fun _ _ _ _ _ => (pg_name (i := 10) sc__law_stands.nd rfl (Or.inl rfl))) (fun _ _ _ _ _ => (pts_one (pt_not (pt_val (pe_cG c__law_whole pass0 hr (by decide) (by rfl) (pa_cons (pv 10) pa_nil)))))) (fun _ _ _ _ _ => (pv 10))) (pe_lst pa_nil) (nomark _)) (pw_or1 (pt_cmpR (op_neD hr.units) (pv 7) (pv 8) (nomark _)))))
     (pss_one (ps_ret pe_bl))
     pss_nil)
   (pss_cons (ps_if (PW.pt (pw_or (pt_not (pt_val (pe_callB call_isi (by rfl) T.b_isinstance (by decide +kernel) (pa_cons (pe_mtG c_Row_is_taken pass0 hr (by decide) (pv 0) (pa_cons (pv 4) pa_nil)) (pa_cons (pe_bltn (v := .ty "bool") (u := .type "bool") (by rfl) T.b_bool (by decide +kernel) rfl) pa_nil))))) (pw_or1 (pt_cmpR op_ne (pe_mtG c_Row_is_taken pass0 hr (by decide) (pv 0) (pa_cons (pv 4) pa_nil)) (pe_ix ix_list (pv 2) (pv 4) (fun _ _ => rfl)) (nomark _)))))
     (pss_one (ps_ret pe_bl))
     pss_nil)
   (pss_cons (ps_set (i := 10) sc__law_stands.nd rfl (Or.inl rfl) (pe_mtG c_Row_is_ahead pass0 hr (by decide) (pv 0) (pa_cons (pv 4) (pa_cons (pv 5) pa_nil))))
   (pss_cons (ps_if (PW.pt (pw_or (pt_not (pt_val (pe_callB call_isi (by rfl) T.b_isinstance (by decide +kernel) (pa_cons (pv 10) (pa_cons (pe_bltn (v := .ty "bool") (u := .type "bool") (by rfl) T.b_bool (by decide +kernel) rfl) pa_nil))))) (pw_or1 (pt_cmpR op_ne (pv 10) (pe_cmpR op_lt (pe_bm PySem.F.plainAttrs_list PySem.F.slot_list_index PySem.F.type_list_index mt_index (pv 1) (pa_cons (pv 4) pa_nil)) (pe_bm PySem.F.plainAttrs_list PySem.F.slot_list_index PySem.F.type_list_index mt_index (pv 1) (pa_cons (pv 5) pa_nil)) (nomark _)) (nomark _)))))
     (pss_one (ps_ret pe_bl))
     pss_nil)
   (pss_cons (ps_if (pt_cmpR (op_eqD hr.units) (pv 6) (pe_lst pa_nil) (nomark _))
     (pss_one (ps_ret pe_bl))
     pss_nil)
   (pss_cons (ps_set (i := 11) sc__law_stands.nd rfl (Or.inl rfl) (pe_cut (pe_op op_mod (pe_op op_fdiv (pv 3) pe_int) (pe_callB call_len_seq (by rfl) T.b_len (by decide +kernel) (pa_cons (pv 6) pa_nil)))))
   (pss_one (ps_ret (pe_and (pe_cG c__law_whole pass0 hr (by decide) (by rfl) (pa_cons (pe_mtG c_Row_find pass0 hr (by decide) (pv 0) (pa_cons (pv 11) pa_nil)) pa_nil)) (pe_one (pe_cmpR op_eq (pe_mtG c_Row_find pass0 hr (by decide) (pv 0) (pa_cons (pv 11) pa_nil)) (pe_ix ix_list (pv 6) (pv 11) (fun _ _ => rfl)) (nomark _)))))))))))))))))), ?_⟩
    refine ⟨fun v H' => v = nv a ∧ H = H', ⟨_, rfl,  _, rfl,  _, _, rfl, .inl (SqL.of hs.get),  _, _, rfl, rfl, by show (0 : Int) < _; omega, ea, rfl⟩, ?_⟩
    rintro _ _ ⟨rfl, rfl⟩
    refine ⟨fun v H' => v = nv b ∧ H = H', ⟨_, rfl,  _, _, rfl, rfl, ⟨by decide, by decide⟩,  _, rfl,  _, _, rfl, .inl (SqL.of hs.get),  _, _, rfl, rfl, by show (0 : Int) < _; omega, eb, rfl⟩, ?_⟩
    rintro _ _ ⟨rfl, rfl⟩
    -- taken = [seat for seat in plain if busy[seat]]
    refine ⟨_, rfl,  _, rfl, ⟨_, SqL.of hs.get⟩, fun D nD => ?_⟩
    refine lc_plain (fun v => bz R.busy (vn v)) id hs nD (fun H'' q => SqL.of q.get) (sz_lt (by rw [List.length_map]; omega)) (fun x hx H'' acc Nx q hz nx1 nx2 => ?_) fun H1 h1 => ?_
    · obtain ⟨n, hn, rfl⟩ := List.mem_map.mp hx
      have hn2 : n < R.busy.length := (G.all n).mp hn
      refine ⟨rfl, _, rfl,  _, rfl,  _, _, _, _, rfl, rfl, SqL.of q.get, at_nv (bz_get hn2),  _, rfl, ?_⟩
      exact ite2 (fun hb => ⟨_, rfl,  acc, q.get, hz, nx1 hb _ q.put⟩) fun hb => nx2 (by show bz R.busy n = false; simpa using hb) _ q
    rw [filter_nv] at h1
    have h1 := h1.pin
    -- told
    refine ⟨_, rfl,  _, _, _, rfl, h1.get, fRow_no (by decide +kernel),  R, _, rfl, G, h1, ?_⟩
    refine ⟨_, rfl,  _, _, _, rfl, h1.get, fRow_no (by decide +kernel),  R, _, rfl, G, h1, fun H2 h2 => ?_⟩
    refine ⟨_, rfl,  _, _, _, rfl, h2.get, fRow_no (by decide +kernel),  _, rfl,  R, _, a, rfl, G, h2, ha2, fun H3 h3 => ?_⟩
    refine ⟨_, rfl,  _, _, _, rfl, h3.get, fRow_no (by decide +kernel),  _, rfl,  R, _, b, rfl, G, h3, hb2, fun H4 h4 => ?_⟩
    refine ⟨(by show 4 ≤ sizeLine; decide), fun td ntd => ?_⟩
    generalize hX : upd H4 td _ = H5
    have h5 := (h4.newG ntd hX).pin
    -- due
    refine ⟨_, rfl,  _, _, rfl, .inl (SqL.of h5.get),  _, rfl,  _, _, rfl, .inl (SqL.of h5.get),  (by show 2 ≤ sizeLine; decide), fun du ndu => ?_⟩
    generalize hX2 : upd H5 du _ = H6
    have h6 := (h5.newG ndu hX2).pin
    rw [List.length_map, List.length_map] at h6
    refine ⟨_, rfl,  _, rfl,  (by show 2 ≤ sizeLine; decide), fun tp ntp => ?_⟩
    generalize hX3 : upd H6 tp _ = H7
    have h7 := (h6.newG ntp hX3).pin
    refine ⟨_, rfl, ⟨_, SqT.of h7.get⟩, for_tup (K := K) (a := tp) (xs := [nv a, nv b])
      (fun i σ H' => (∃ v9, σ = [some (.ref R.r), some (.ref l), some (.ref u), some (.int z), some (nv a), some (nv b), some (.ref D), some (.ref td), some (.ref du), v9, none, none, none]) ∧
        Hs (rowC Cb Cr R ++ ((tp, .tup [nv a, nv b]) :: (du, .lst ([nv R.order.length, nv (taken R.busy R.order).length] ++ [nv (cnt R.busy (R.order.take (R.order.idxOf a))), nv (cnt R.busy (R.order.take (R.order.idxOf b)))].take i)) :: (td, .lst [nv R.busy.length, nv (cnt R.busy R.order), nv (cnt R.busy (R.order.take (R.order.idxOf a))), nv (cnt R.busy (R.order.take (R.order.idxOf b)))]) ::
          (D, .lst ((taken R.busy R.order).map nv)) :: (l, .lst (R.order.map nv)) :: (u, .lst (R.busy.map V.bl)) :: L)) H') ⟨⟨_, rfl⟩, h7⟩ (fun i σ H' _ q => SqT.of q.2.get) ?_ ?_⟩
    · rintro i x σ H' hx ⟨⟨v9, rfl⟩, q⟩
      obtain ⟨c, hc, mc, ec⟩ : ∃ c : Nat, x = nv c ∧ c ∈ R.order ∧ [nv (cnt R.busy (R.order.take (R.order.idxOf a))), nv (cnt R.busy (R.order.take (R.order.idxOf b)))][i]? = some (nv (cnt R.busy (R.order.take (R.order.idxOf c)))) := by
        match i, hx with
        | 0, hx => exact ⟨a, (Option.some.inj hx).symm, ma, rfl⟩
        | 1, hx => exact ⟨b, (Option.some.inj hx).symm, mb, rfl⟩
        | i + 2, hx => simp at hx
      subst hc
      refine ⟨_, rfl,  .inl ⟨rfl, _, SqL.of q.get⟩,  _, rfl,  _, rfl,  .inl ⟨rfl, _, SqL.of q.get⟩,  _, rfl,  _, _, _, _, _, rfl, rfl, SqL.of q.get, rfl, flat_nv _, nv_get (get_idx mc), eqV_self, nv_first,  _, rfl, _, _, rfl, SqL.of q.get, fun p np => ?_⟩
      generalize hX4 : upd H' p _ = H8
      have h8 := q.newG np hX4
      rw [cut_to, ← List.map_take] at h8
      refine ⟨_, rfl, ⟨_, SqL.of h8.get⟩, fun D2 nD2 => ?_⟩
      refine lc_plain (fun v => bz R.busy (vn v)) (fun _ => V.int 1) h8 nD2 (fun H'' q => SqL.of q.get) (sz_lt (by rw [List.length_map, List.length_take]; omega)) (fun x hx H'' acc Nx q hz nx1 nx2 => ?_) fun H9 h9 => ?_
      · obtain ⟨n, hn, rfl⟩ := List.mem_map.mp hx
        have hn2 : n < R.busy.length := (G.all n).mp (List.mem_of_mem_take hn)
        refine ⟨rfl, _, rfl,  _, rfl,  _, _, _, _, rfl, rfl, SqL.of q.get, at_nv (bz_get hn2),  _, rfl, ?_⟩
        exact ite2 (fun hb => ⟨acc, q.get, hz, nx1 hb _ q.put⟩) fun hb => nx2 (by show bz R.busy n = false; simpa using hb) _ q
      · refine ⟨_, _, rfl, .inl (SqL.of h9.get),  _, _, _, rfl, rfl, h9.get, sz_lt (by rw [List.length_append, List.length_take]; show 2 + min i 2 < 1000000; omega), ?_⟩
        refine upd_k h9.rest.rest rfl fun H10 h10 => ⟨⟨_, rfl⟩, ?_⟩
        rw [List.take_add_one, ec, ← List.append_assoc]
        have e1 : V.int ((((R.order.take (R.order.idxOf c)).map nv).filter fun v => bz R.busy (vn v)).map fun _ => V.int 1).length = nv (cnt R.busy (R.order.take (R.order.idxOf c))) := by rw [filter_one]
        rw [e1] at h10
        exact h10
    rintro σ H' ⟨⟨v9, rfl⟩, q⟩
    rw [show ([nv a, nv b] : List V).length = 2 from rfl] at q
    -- if [..] != [] or told != due
    refine ⟨_, rfl,  _, rfl, ⟨_, SqL.of q.get⟩, fun D3 nD3 => ?_⟩
    have told4 : ∀ x ∈ ([nv R.busy.length, nv (cnt R.busy R.order), nv (cnt R.busy (R.order.take (R.order.idxOf a))), nv (cnt R.busy (R.order.take (R.order.idxOf b)))] : List V), ∃ i : Int, x = .int i := fun x hx => by
      simp only [List.mem_cons, List.not_mem_nil, or_false] at hx
      rcases hx with rfl | rfl | rfl | rfl <;> exact ⟨_, rfl⟩
    refine lc_plain (fun _ => false) id q nD3 (fun H'' q => SqL.of q.get) (by show 4 < sizeLine; decide) (fun x hx H'' acc Nx q hz nx1 nx2 => ?_) fun H8 h8 => ?_
    · obtain ⟨i, rfl⟩ := told4 x hx
      exact ⟨rfl, _, rfl,  i, rfl, true, rfl, nx2 rfl _ q⟩
    have e0 : (([nv R.busy.length, nv (cnt R.busy R.order), nv (cnt R.busy (R.order.take (R.order.idxOf a))), nv (cnt R.busy (R.order.take (R.order.idxOf b)))] : List V).filter fun _ => false).map id = ([] : List Nat).map nv := by simp
    rw [e0] at h8
    refine ⟨(by decide), fun p1 np1 => ?_⟩
    generalize hX5 : upd H8 p1 _ = H9
    have h9 := h8.newG np1 hX5
    refine ne_nvs (xs := []) (ys := []) (SqL.of h9.get) (SqL.of h9.get) ⟨_, rfl, ?_⟩
    refine iteF ⟨_, rfl,  _, rfl,  ?_⟩
    refine ne_nvs (xs := [R.busy.length, cnt R.busy R.order, cnt R.busy (R.order.take (R.order.idxOf a)), cnt R.busy (R.order.take (R.order.idxOf b))]) (ys := [R.order.length, (taken R.busy R.order).length, cnt R.busy (R.order.take (R.order.idxOf a)), cnt R.busy (R.order.take (R.order.idxOf b))]) (SqL.of h9.get) (SqL.of h9.get) ⟨_, rfl, ?_⟩
    rw [decide_eq_true (show [R.busy.length, cnt R.busy R.order, cnt R.busy (R.order.take (R.order.idxOf a)), cnt R.busy (R.order.take (R.order.idxOf b))] = [R.order.length, (taken R.busy R.order).length, cnt R.busy (R.order.take (R.order.idxOf a)), cnt R.busy (R.order.take (R.order.idxOf b))] by rw [ol]; rfl)]
    refine iteF ?_
    have h9 := h9.rest.rest
    -- is_taken
    refine ⟨_, rfl,  _, _, _, rfl, h9.get, fRow_no (by decide +kernel),  _, rfl,  R, _, a, rfl, G, h9, ha2, ?_⟩
    refine ⟨_, _, _, _, true, rfl, .ty "bool", .base (.bl _), kit_ty (by decide +kernel), true, rfl, ?_⟩
    refine iteF ⟨_, rfl,  _, _, _, rfl, h9.get, fRow_no (by decide +kernel),  _, rfl,  R, _, a, rfl, G, h9, ha2, _, rfl,  _, rfl,  _, _, _, _, rfl, rfl, SqL.of h9.get, at_nv (bz_get ha2),  rfl, _, rfl, ?_⟩
    rw [decide_eq_true rfl]
    refine iteF ?_
    -- is_ahead
    refine ⟨_, rfl,  _, _, _, rfl, h9.get, fRow_no (by decide +kernel),  _, rfl,  _, rfl,  R, _, a, b, rfl, G, h9, ha2, hb2, ?_⟩
    refine ⟨_, rfl,  _, _, _, _, true, rfl, .ty "bool", .base (.bl _), kit_ty (by decide +kernel), true, rfl, ?_⟩
    refine iteF ⟨_, rfl,  _, rfl,  .inl ⟨rfl, _, SqL.of h9.get⟩,  _, rfl,  _, _, _, _, _, rfl, rfl, SqL.of h9.get, rfl, flat_nv _, nv_get (get_idx ma), eqV_self, nv_first,  _, rfl,  .inl ⟨rfl, _, SqL.of h9.get⟩,  _, rfl,  _, _, _, _, _, rfl, rfl, SqL.of h9.get, rfl, flat_nv _, nv_get (get_idx mb), eqV_self, nv_first,  _, _, rfl, rfl,  rfl, _, rfl, ?_⟩
    have e3 : decide (V.bl (decide (R.order.idxOf a < R.order.idxOf b)) = V.bl (decide ((R.order.idxOf a : Int) < (R.order.idxOf b : Int)))) = true := by
      refine decide_eq_true (congrArg V.bl ?_)
      exact decide_eq_decide.mpr (by omega)
    rw [e3]
    refine iteF ?_
    -- if taken == []
    refine ⟨_, rfl,  (by decide), fun p2 np2 => ?_⟩
    generalize hX6 : upd H9 p2 _ = H10
    have h10 := (h9.newG np2 hX6)
    refine eq_nvs (xs := taken R.busy R.order) (ys := []) (SqL.of h10.get) (SqL.of h10.get) ⟨_, rfl, ?_⟩
    have hfin : ∀ {H'}, Hs (rowC Cb Cr R ++ ((tp, .tup [nv a, nv b]) :: (du, .lst ([nv R.order.length, nv (taken R.busy R.order).length] ++ [nv (cnt R.busy (R.order.take (R.order.idxOf a))), nv (cnt R.busy (R.order.take (R.order.idxOf b)))].take 2)) :: (td, .lst [nv R.busy.length, nv (cnt R.busy R.order), nv (cnt R.busy (R.order.take (R.order.idxOf a))), nv (cnt R.busy (R.order.take (R.order.idxOf b)))]) ::
          (D, .lst ((taken R.busy R.order).map nv)) :: (l, .lst (R.order.map nv)) :: (u, .lst (R.busy.map V.bl)) :: L)) H' → Q (.bl true) H' := fun {H'} h => k H' (h.sub (fun c => by simp only [kc_append, kc_cons]; omega) fun q => by
        simp only [hat_append, hat_cons] at q ⊢
        exact ⟨q.1, q.2.2.2.2.2.1, q.2.2.2.2.2.2.1, q.2.2.2.2.2.2.2⟩)
    refine ite2 (fun _ => hfin h10.rest) fun ht => ?_
    have hne : taken R.busy R.order ≠ [] := fun e => ht (by rw [e]; rfl)
    have hpos := List.length_pos_iff.mpr hne
    obtain ⟨c, hc⟩ : ∃ c : Nat, z / 10007 % ((taken R.busy R.order).length : Int) = (c : Int) := ⟨(z / 10007 % ((taken R.busy R.order).length : Int)).toNat, by have := Int.emod_nonneg (z / 10007) (b := ((taken R.busy R.order).length : Int)) (by omega); omega⟩
    have hc2 : c < (taken R.busy R.order).length := by have := Int.emod_lt_of_pos (z / 10007) (b := ((taken R.busy R.order).length : Int)) (by omega); omega
    have hge : (taken R.busy R.order)[c]? = some (taken R.busy R.order)[c] := List.getElem?_eq_getElem hc2
    have ec : V.int (z / 10007 % (((taken R.busy R.order).map nv).length : Int)) = nv c := by rw [List.length_map, hc]
    refine ⟨fun v H' => v = nv c ∧ H10 = H', ⟨_, rfl,  _, _, rfl, rfl, ⟨by decide, by decide⟩,  _, rfl,  _, _, rfl, .inl (SqL.of h10.get),  _, _, rfl, rfl, by show (0 : Int) < _; rw [List.length_map]; omega, ec, rfl⟩, ?_⟩
    rintro _ _ ⟨rfl, rfl⟩
    have h11 := h10.rest
    refine ⟨_, rfl,  _, _, _, rfl, h11.get, fRow_no (by decide +kernel),  _, rfl,  R, _, c, _, rfl, G, h11, hge, fun H11 h11 => ⟨_, rfl, true, rfl, ?_⟩⟩
    refine iteT ⟨_, rfl,  _, _, _, rfl, h11.get, fRow_no (by decide +kernel),  _, rfl,  R, _, c, _, rfl, G, h11, hge, fun H12 h12 => ⟨_, rfl,  _, rfl,  _, _, _, _, rfl, rfl, SqL.of h12.get, at_nv (nv_get hge),  rfl, ?_⟩⟩
    have k2 := hfin h12
    rw [show (true = decide (nv (taken R.busy R.order)[c] = nv (taken R.busy R.order)[c])) from (decide_eq_true rfl).symm] at k2
    exact k2
end
end Sm

set_option Elab.async false
set_option linter.all false
set_option maxRecDepth 100000
set_option maxHeartbeats 8000000
/-! k01: the law. -/
namespace Sm
open PySem PySem.Spec PyProof.Rows L2
def spLaw (K : PySem.W.Frag) : Sp := fun vs H Q _ => ∃ (a : Addr) (ns : List Int), vs = [.ref a] ∧ SqL K H a (ns.map V.int) ∧ ns.length ≤ 63 ∧ ∀ H', Q (.bl true) H'
/-- a list told, and its copy -/
structure Held where
  t : Addr
  p : Addr
  q : Addr
  xs : List Nat
def heldC (es : List Held) : List Chunk := es.flatMap fun e => [(e.t, .tup [.ref e.p, .ref e.q]), (e.p, .lst (e.xs.map nv)), (e.q, .lst (e.xs.map nv))]
theorem heldC_append {es fs : List Held} : heldC (es ++ fs) = heldC es ++ heldC fs := List.flatMap_append
theorem heldC_one {e : Held} : heldC [e] = [(e.t, .tup [.ref e.p, .ref e.q]), (e.p, .lst (e.xs.map nv)), (e.q, .lst (e.xs.map nv))] := by simp [heldC]
theorem heldC_mem {es : List Held} {e : Held} (h : e ∈ es) : (e.t, HO.tup [.ref e.p, .ref e.q]) ∈ heldC es ∧ (e.p, HO.lst (e.xs.map nv)) ∈ heldC es ∧ (e.q, HO.lst (e.xs.map nv)) ∈ heldC es := by
  unfold heldC
  exact ⟨List.mem_flatMap.mpr ⟨e, h, by simp⟩, List.mem_flatMap.mpr ⟨e, h, by simp⟩, List.mem_flatMap.mpr ⟨e, h, by simp⟩⟩
/-- the heap between two turns -/
abbrev lawL (Cb Cr : Addr) (R : Rw) (l u hd : Addr) (es : List Held) (S : List Chunk) : List Chunk :=
  rowC Cb Cr R ++ ((l, .lst (R.order.map nv)) :: (u, .lst (R.busy.map V.bl)) :: (hd, .lst (es.map fun e => V.ref e.t)) :: (heldC es ++ S))
section
variable {P : Program} {w : World} {K : PySem.W.Frag} {mg : Str → Option Value} {base : Heap} {Cb Cr f : Addr} {fd : FuncData}
theorem sc_law : FnScope ["_law_script", "_law_row", "_law_plain", "_law_busy", "_law_many", "_law_held", "_law_k", "_law_cell", "_law_number", "_law_behind", "_law_found", "_law_seat", "_law_is_due", "_law_told", "_law_one", "_law_copy"] ["_law_script"] (defScope s_law) := ⟨rfl, rfl, rfl, by decide +kernel, rfl, by decide +kernel, by decide +kernel⟩
theorem ok_law (F : Fun K "law" "law" s_law f fd) (T : LT2 mg)
    (c__law_cell_at : Cal P w K mg base CX0 1 "_law_cell_at" (spCellAt K)) (c__law_whole : Cal P w K mg base CX0 1 "_law_whole" spWhole) (c__law_mixed : Cal P w K mg base CX0 1 "_law_mixed" spMixed) (c__law_stands : Cal P w K mg base CX0 4 "_law_stands" (spStands Cb Cr))
    (m_Row : Mak P w K mg base CX0 3 "Row" Cr (spRow Cb Cr)) (c_Row_add : Met P w K mg base CX0 4 Cr "add" (spAdd Cb Cr)) (c_Row_take : Met P w K mg base CX0 3 Cr "take" (spTake Cb Cr)) (c_Row_order : Met P w K mg base CX0 1 Cr "order" (spOrder Cb Cr))
    (c_Row_many : Met P w K mg base CX0 1 Cr "many" (spMany Cb Cr)) (c_Row_all_taken : Met P w K mg base CX0 1 Cr "all_taken" (spAllTaken Cb Cr)) :
    FnOk P w K mg base CX0 5 f fd ["_law_script"] (spLaw K) := by
  refine F.ok sc_law (fun vs H Q E h => ?_) (fun cdv A outer s H vs Q E hr h => ?_)
  · obtain ⟨a, ns, rfl, _⟩ := h
    rfl
  · obtain ⟨a, ns, rfl, hS, hlen, k⟩ := h
    obtain ⟨S, hs, rd⟩ := reads_of hS
    have nsl : ((ns.map V.int).length : Int) = (ns.length : Int) := by rw [List.length_map]
    refine ⟨_, (pss_cons (ps_set (i := 1) sc_law.nd rfl (Or.inl rfl) (pe_mkG0 m_Row pass0 hr (by decide) (by rfl)))
   (pss_cons (ps_set (i := 2) sc_law.nd rfl (Or.inl rfl) (pe_lst pa_nil))
   (pss_cons (ps_set (i := 3) sc_law.nd rfl (Or.inl rfl) (pe_lst pa_nil))
   (pss_cons (ps_set (i := 4) sc_law.nd rfl (Or.inl rfl) (pe_cut (pe_op op_mul (pe_op op_add pe_int (pe_op op_mod (pe_op op_fdiv (pe_cG c__law_cell_at pass0 hr (by decide) (by rfl) (pa_cons (pv 0) (pa_cons pe_int pa_nil))) pe_int) pe_int)) (pe_callTy call_int1 (by rfl) T.b_int (by decide +kernel) (pa_cons (pe_cmpR op_eq (pe_op op_mod (pe_cG c__law_cell_at pass0 hr (by decide) (by rfl) (pa_cons (pv 0) (pa_cons pe_int pa_nil))) pe_int) pe_int (nomark _)) pa_nil)))))
   (pss_cons (ps_set (i := 5) sc_law.nd rfl (Or.inl rfl) (pe_lst (pa_cons (pe_tup (pa_cons (pe_mtG0 c_Row_order pass0 hr (by decide) (pv 1)) (pa_cons (pe_lst pa_nil) pa_nil))) pa_nil)))
   (pss_cons (ps_if (PW.pt (pw_or (pt_cmpR op_ne (pe_mtG0 c_Row_many pass0 hr (by decide) (pv 1)) pe_int (nomark _)) (pw_or1 (pt_cmpR op_ne (pe_mtG0 c_Row_all_taken pass0 hr (by decide) (pv 1)) pe_int (nomark _)))))
     (pss_one (ps_ret pe_bl))
     pss_nil)
   (pss_cons (ps_for PassesOwn.never rfl (pi_range1 (by rfl) T.b_range (pa_cons (pe_op op_add (pv 4) (pe_callB (call_min2 rfl) (by rfl) T.b_min (by decide +kernel) (pa_cons pe_int (pa_cons (pe_callB call_len_seq (by rfl) T.b_len (by decide +kernel) (pa_cons (pv 0) pa_nil)) pa_nil)))) pa_nil)) (pg_name (i := 6) sc_law.nd rfl (Or.inl rfl))
     (pss_cons (ps_set (i := 7) sc_law.nd rfl (Or.inl rfl) (pe_cG c__law_cell_at pass0 hr (by decide) (by rfl) (pa_cons (pv 0) (pa_cons (pe_callB (call_max2 rfl) (by rfl) T.b_max (by decide +kernel) (pa_cons pe_int (pa_cons (pe_op op_sub (pv 6) (pv 4)) pa_nil))) pa_nil))))
       (pss_cons (ps_set (i := 8) sc_law.nd rfl (Or.inl rfl) (pe_cG c__law_mixed pass0 hr (by decide) (by rfl) (pa_cons (pv 7) (pa_cons (pv 6) pa_nil))))
       (C8.pss_cut (ps_if (pt_cut (PW.pt (pw_or (pt_cmpR (op_eqD hr.units) (pv 2) (pe_lst pa_nil) (nomark _)) (pw_or (pt_cmpR op_lt (pv 6) (pv 4) (nomark _)) (pw_or1 (pt_cmpR op_lt (pe_op op_mod (pv 8) pe_int) pe_int (nomark _)))))))
         (pss_cons (ps_set (i := 9) sc_law.nd rfl (Or.inl rfl) pe_non)
           (C8.pss_cut (ps_if (pt_cut (PW.pt (pw_and (pt_cmpR (op_neD hr.units) (pv 2) (pe_lst pa_nil) (nomark _)) (pw_and1 (pt_cmpR op_ne (pe_op op_mod (pe_op op_fdiv (pv 8) pe_int) pe_int) pe_int (nomark _))))))
             (pss_one (ps_set (i := 9) sc_law.nd rfl (Or.inl rfl) (pe_op op_mod (pe_op op_fdiv (pv 8) pe_int) (pe_callB call_len_seq (by rfl) T.b_len (by decide +kernel) (pa_cons (pv 2) pa_nil)))))
             pss_nil)
           (pss_cons (ps_set (i := 10) sc_law.nd rfl (Or.inl rfl) (pe_mtG c_Row_add pass0 hr (by decide) (pv 1) (pa_cons (pv 9) pa_nil)))
           (pss_cons (ps_if (PW.pt (pw_or (pt_not (pt_val (pe_cG c__law_whole pass0 hr (by decide) (by rfl) (pa_cons (pv 10) pa_nil)))) (pw_or1 (pt_cmpR op_ne (pv 10) (pe_callB call_len_seq (by rfl) T.b_len (by decide +kernel) (pa_cons (pv 2) pa_nil)) (nomark _)))))
             (pss_one (ps_ret pe_bl))
             pss_nil)
           (pss_cons (ps_expr (pe_bm PySem.F.plainAttrs_list PySem.F.slot_list_insert PySem.F.type_list_insert mt_insert (pv 2) (pa_cons (pe_cut (pe_ifExp (pt_cmpR op_isN (pv 9) pe_non (nomark _)) pe_int (pe_op op_add (pe_bm PySem.F.plainAttrs_list PySem.F.slot_list_index PySem.F.type_list_index mt_index (pv 2) (pa_cons (pv 9) pa_nil)) pe_int))) (pa_cons (pv 10) pa_nil))))
           (pss_cons (ps_expr (pe_bm PySem.F.plainAttrs_list PySem.F.slot_list_append PySem.F.type_list_append mt_append (pv 3) (pa_cons pe_bl pa_nil)))
           (pss_one (ps_if (pt_cmpR op_gt (pe_op op_mod (pe_op op_fdiv (pv 8) pe_int) pe_int) pe_int (nomark _))
             (pss_cons (ps_expr (pe_mtG c_Row_take pass0 hr (by decide) (pv 1) (pa_cons (pv 10) (pa_cons pe_bl pa_nil))))
               (pss_one (ps_asg pe_bl (pg_sub (pv 3) (pv 10) set_list))))
             pss_nil))))))))
         (pss_cons (ps_set (i := 11) sc_law.nd rfl (Or.inl rfl) (pe_cut (pe_op op_mod (pe_op op_fdiv (pv 8) pe_int) (pe_callB call_len_seq (by rfl) T.b_len (by decide +kernel) (pa_cons (pv 2) pa_nil)))))
           (pss_cons (ps_asg (pe_cmpR op_eq (pe_op op_mod (pe_op op_fdiv (pv 8) pe_int) pe_int) pe_int (nomark _)) (pg_sub (pv 3) (pv 11) set_list))
           (pss_one (ps_if (pt_cmpR op_notN (pe_mtG c_Row_take pass0 hr (by decide) (pv 1) (pa_cons (pv 11) (pa_cons (pe_ix ix_list (pv 3) (pv 11) (fun _ _ => rfl)) pa_nil))) pe_non (nomark _))
             (pss_one (ps_ret pe_bl))
             pss_nil)))))
       (pss_cons (ps_set (i := 12) sc_law.nd rfl (Or.inl rfl) (pe_cut (pe_and (pe_cmpR op_ge (pv 6) (pv 4) (nomark _)) (pe_one (pe_or (pe_cmpR op_eq (pv 4) pe_int (nomark _)) (pe_one (pe_cmpR op_eq (pe_op op_mod (pv 6) pe_int) pe_int (nomark _))))))))
       (C8.pss_cut (ps_if (PW.pt (pw_and (pt_val (pv 12)) (pw_and1 (pt_not (pt_val (pe_cG c__law_stands pass0 hr (by decide) (by rfl) (pa_cons (pv 1) (pa_cons (pv 2) (pa_cons (pv 3) (pa_cons (pe_cG c__law_mixed pass0 hr (by decide) (by rfl) (pa_cons (pv 7) (pa_cons (pe_op op_add pe_int (pv 6)) pa_nil))) pa_nil))))))))))
         (pss_one (ps_ret pe_bl))
         pss_nil)
       (pss_one (ps_if (pt_cmpR op_eq (pe_op op_mod (pv 6) pe_int) pe_int (nomark _))
         (pss_cons (ps_set (i := 13) sc_law.nd rfl (Or.inl rfl) (pe_mtG0 c_Row_order pass0 hr (by decide) (pv 1)))
           (pss_cons (ps_expr (pe_bm PySem.F.plainAttrs_list PySem.F.slot_list_append PySem.F.type_list_append mt_append (pv 5) (pa_cons (pe_tup (pa_cons (pv 13) (pa_cons (pe_callTy call_list_of (by rfl) T.b_list (by decide +kernel) (pa_cons (pv 13) pa_nil)) pa_nil))) pa_nil)))
           (pss_one (ps_if (pt_cmpR (op_neD hr.units) (pv 13) (pv 2) (nomark _))
             (pss_one (ps_ret pe_bl))
             pss_nil))))
         pss_nil))))))))
   (pss_one (ps_ret (pe_and (pe_cmpR (op_eqD hr.units) (pe_mtG0 c_Row_order pass0 hr (by decide) (pv 1)) (pv 2) (nomark _)) (pe_one (pe_cmpR (op_eqD hr.units) (pe_lc (own := [("_law_one", 14), ("_law_copy", 15)]) (g := (gTup K 2 (gCons (gName 14) (gCons (gName 15) gNil)))) (tt := (tTest (tOp (rNeD K) (tVar 14) (tVar 15)))) rfl sc_law.nd (pi_list (pv 5)) (blkOk_by (own := [("_law_one", 14), ("_law_copy", 15)]) (N := ["_law_script", "_law_row", "_law_plain", "_law_busy", "_law_many", "_law_held", "_law_k", "_law_cell", "_law_number", "_law_behind", "_law_found", "_law_seat", "_law_is_due", "_law_told", "_law_one", "_law_copy"]) (sc := defScope s_law) (by decide +kernel)) (fun _ _ _ _ _ => (pg_tup rfl (pgs_cons (pg_name (i := 14) sc_law.nd rfl (Or.inl rfl)) (pgs_cons (pg_name (i := 15) sc_law.nd rfl (Or.inl rfl)) pgs_nil)))) (fun _ _ _ _ _ => (pts_one (pt_cmpR (op_neD hr.units) (pv 14) (pv 15) (nomark _)))) (fun _ _ _ _ _ => (pv 14))) (pe_lst pa_nil) (nomark _))))))))))))), ?_⟩
    -- row = Row()
    intro x dx nx ndx nex
    have h0 := (hs.new (o := .own x) ndx).new (o := .ins Cr dx []) (by rw [upd_ne nex.symm]; exact nx)
    refine ⟨x, dx, _, rfl, h0, fun R H1 G er eo eb h1x => ⟨rfl, ?_⟩⟩
    have h1 : Hs (rowC Cb Cr R ++ S) H1 := h1x.sub (fun c => by simp only [kc_append, kc_cons]; omega) fun q => by
      simp only [hat_append, hat_cons] at q ⊢
      exact ⟨q.1, q.2.2⟩
    clear h1x h0
    subst er
    -- plain = []; busy = []
    refine ⟨(by decide), fun l nl => ?_⟩
    generalize hX : upd H1 l _ = H2
    have h2 := (h1.newG nl hX).pin
    refine ⟨(by decide), fun u nu => ?_⟩
    generalize hX2 : upd H2 u _ = H3
    have h3 := (h2.newG nu hX2).pin
    -- many
    obtain ⟨many, hm⟩ : ∃ many : Nat, (60 + cellAt ns 0 / 8 % 40) * (if decide (cellAt ns 0 % 8 = 1) = true then 1 else 0) = (many : Int) ∧ many ≤ 99 := by
      have h0 := Int.emod_nonneg (cellAt ns 0 / 8) (b := 40) (by decide)
      have h1 := Int.emod_lt_of_pos (cellAt ns 0 / 8) (b := 40) (by decide)
      by_cases hc : cellAt ns 0 % 8 = 1
      · exact ⟨(60 + cellAt ns 0 / 8 % 40).toNat, by rw [decide_eq_true hc, if_pos rfl]; omega, by omega⟩
      · exact ⟨0, by rw [decide_eq_false hc, if_neg Bool.false_ne_true]; omega, by omega⟩
    obtain ⟨hm, hm2⟩ := hm
    refine ⟨fun v H' => v = nv many ∧ H3 = H', ?_, ?_⟩
    · refine ⟨_, rfl,  a, ns, 0, rfl, by omega, rd H3 h3.tail.rest.rest, _, _, rfl, rfl, ⟨by decide, by decide⟩,  _, _, rfl, rfl, (by show (0 : Int) < _; decide),  _, _, rfl, rfl,  _, rfl,  a, ns, 0, rfl, by omega, rd H3 h3.tail.rest.rest, _, _, rfl, rfl, (by show (0 : Int) < _; decide),  rfl, .inr ⟨_, rfl, _, _, rfl, rfl, ?_, ?_, rfl⟩⟩
      · refine .inr ⟨by split <;> omega, by split <;> omega⟩
      · have e1 : decide (V.int (cellAt ns 0 % 8) = V.int 1) = decide (cellAt ns 0 % 8 = 1) := decide_eq_decide.mpr ⟨fun q => by injection q, fun q => by rw [q]⟩
        show V.int ((60 + cellAt ns 0 / 8 % 40) * (if decide (V.int (cellAt ns 0 % 8) = V.int 1) = true then 1 else 0)) = nv many
        rw [e1, hm]
    rintro _ _ ⟨rfl, rfl⟩
    -- held = [(row.order(), [])]
    refine ⟨_, rfl,  _, _, _, rfl, h3.get, fRow_no (by decide +kernel),  R, _, rfl, G, h3, fun p0 H4 h4 => ⟨(by decide), fun q0 nq0 => ?_⟩⟩
    generalize hX3 : upd H4 q0 _ = H5
    have h5 := h4.newG nq0 hX3
    refine ⟨(by show 2 ≤ sizeLine; decide), fun t0 nt0 => ?_⟩
    generalize hX4 : upd H5 t0 _ = H6
    have h6 := h5.newG nt0 hX4
    refine ⟨(by show 1 ≤ sizeLine; decide), fun hd nhd => ?_⟩
    generalize hX5 : upd H6 hd _ = H7
    have h7 := h6.newG nhd hX5
    have h8 : Hs (lawL Cb Cr R l u hd [⟨t0, p0, q0, []⟩] S) H7 := by
      unfold lawL
      rw [heldC_one, eo, eb]
      rw [eo] at h7
      refine h7.sub (fun c => ?_) fun q => ?_
      · simp only [kc_append, kc_cons, kc_nil]; omega
      · simp only [hat_append, hat_cons, hat_nil] at q ⊢
        obtain ⟨q1, q2, q3, q4, q5, q6, q7, q8⟩ := q
        exact ⟨q5, q7, q6, q1, ⟨q2, q4, q3, trivial⟩, q8⟩
    -- if row.many() != 0 or row.all_taken() != 0
    have ez : R.busy.length = 0 := by rw [eb]; rfl
    have ec : cnt R.busy R.order = 0 := by rw [eo]; rfl
    refine ⟨_, rfl,  _, _, _, rfl, h8.get, fRow_no (by decide +kernel),  R, _, rfl, G, h8, rfl, _, rfl, ?_⟩
    rw [ez]
    refine iteF ⟨_, rfl,  _, _, _, rfl, h8.get, fRow_no (by decide +kernel),  R, _, rfl, G, h8, fun H8 h8 => ⟨rfl, _, rfl, ?_⟩⟩
    rw [ec]
    refine iteF ?_
    -- the loop
    obtain ⟨N, hN, hN2⟩ : ∃ N : Nat, (many : Int) + (if ((ns.map V.int).length : Int) < 40 then ((ns.map V.int).length : Int) else 40) = (N : Int) ∧ N ≤ 139 := by
      rw [nsl]
      split
      · exact ⟨many + ns.length, by omega, by omega⟩
      · exact ⟨many + 40, by omega, by omega⟩
    refine ⟨_, rfl,  _, rfl,  _, _, rfl, .inl (rd H8 h8.tail.rest.rest.rest.tail), _, _, rfl, _, _, rfl, rfl,  _, rfl, ?_⟩
    rw [hN]
    refine ⟨by omega, by omega, ?_⟩
    rw [Int.toNat_natCast]
    obtain ⟨r, hr0⟩ : ∃ r, r = R.r := ⟨_, rfl⟩
    rw [← hr0]
    refine for_range (lo := 0) (n := N) (fun i σ H' => ∃ (R' : Rw) (es : List Held) (v6 v7 v8 v9 v10 v11 v12 v13 : Option V), σ = [some (.ref a), some (.ref r), some (.ref l), some (.ref u), some (nv many), some (.ref hd), v6, v7, v8, v9, v10, v11, v12, v13, none, none] ∧
        R'.Good ∧ R'.r = r ∧ R'.busy.length ≤ i ∧ es.length ≤ i + 1 ∧ Hs (lawL Cb Cr R' l u hd es S) H')
      ⟨R, _, none, none, none, none, none, none, none, none, rfl, G, hr0.symm, by omega, by simp, h8⟩ ?_ ?_
    · rintro i σ H9 hi ⟨R1, es, v6, v7, v8, v9, v10, v11, v12, v13, rfl, G1, r1, bl1, el1, h9⟩
      subst r1
      have ol1 := G1.olen
      have h9' := h9
      unfold lawL at h9'
      -- cell, number
      obtain ⟨cell, hcell⟩ : ∃ cell, cell = cellAt ns (if (0 : Int) + (i : Int) - (many : Int) > 0 then (0 : Int) + (i : Int) - (many : Int) else 0).toNat := ⟨_, rfl⟩
      refine ⟨_, rfl,  _, rfl,  _, rfl,  _, _, rfl, rfl,  _, _, rfl, a, ns, _, rfl, by split <;> omega, rd H9 h9'.tail.rest.rest.rest.tail, ?_⟩
      rw [← hcell]
      refine ⟨_, rfl,  _, rfl,  _, _, rfl, ?_⟩
      obtain ⟨z, hz⟩ : ∃ z, z = mixed cell ((0 : Int) + (i : Int)) := ⟨_, rfl⟩
      have hz0 : 0 ≤ z := by rw [hz]; exact mixed_nn _ _
      rw [← hz]
      -- the deed
      refine ⟨fun σ' H' => ∃ (R2 : Rw) (w9 w10 w11 : Option V), σ' = [some (.ref a), some (.ref R1.r), some (.ref l), some (.ref u), some (nv many), some (.ref hd), some (.int (0 + (i : Int))), some (.int cell), some (.int z), w9, w10, w11, v12, v13, none, none] ∧
        R2.Good ∧ R2.r = R1.r ∧ R2.busy.length ≤ i + 1 ∧ 0 < R2.busy.length ∧ Hs (lawL Cb Cr R2 l u hd es S) H', ?_, ?_⟩
      · refine ⟨fun b H' => (b = false → R1.order ≠ []) ∧ Hs (lawL Cb Cr R1 l u hd es S) H', ?_, ?_⟩
        · refine ⟨_, rfl,  (by decide), fun p np => ?_⟩
          generalize hX6 : upd H9 p _ = H10
          have h10 := h9'.newG np hX6
          refine eq_nvs (xs := R1.order) (ys := []) (SqL.of h10.get) (SqL.of h10.get) ⟨_, rfl, ?_⟩
          have hL : Hs (lawL Cb Cr R1 l u hd es S) H10 := h10.rest
          refine ite2 (fun _ => ⟨fun q => (by cases q), hL⟩) fun hne => ?_
          have hne2 : R1.order ≠ [] := fun e => hne (decide_eq_true e)
          refine ⟨_, rfl,  _, rfl,  _, _, rfl, rfl,  _, rfl, ?_⟩
          refine ite2 (fun _ => ⟨fun q => (by cases q), hL⟩) fun _ => ?_
          exact ⟨_, rfl,  _, _, rfl, rfl, (by show (0 : Int) < _; decide),  _, _, rfl, rfl,  _, rfl, fun _ => hne2, hL⟩
        · rintro b H10 ⟨hb, h10⟩
          have h10' := h10
          unfold lawL at h10'
          cases b with
          | true =>
            refine iteT ?_
            -- behind
            refine ⟨fun σ' H' => ∃ o : Option Nat, (∀ s, o = some s → s < R1.busy.length) ∧ σ' = [some (.ref a), some (.ref R1.r), some (.ref l), some (.ref u), some (nv many), some (.ref hd), some (.int (0 + (i : Int))), some (.int cell), some (.int z), some (optV o), v10, v11, v12, v13, none, none] ∧ Hs (lawL Cb Cr R1 l u hd es S) H', ?_, ?_⟩
            · refine ⟨fun b H' => (b = true → R1.order ≠ []) ∧ Hs (lawL Cb Cr R1 l u hd es S) H', ?_, ?_⟩
              · refine ⟨_, rfl,  (by decide), fun p np => ?_⟩
                generalize hX6 : upd H10 p _ = H11
                have h11 := h10'.newG np hX6
                refine ne_nvs (xs := R1.order) (ys := []) (SqL.of h11.get) (SqL.of h11.get) ⟨_, rfl, ?_⟩
                have hL : Hs (lawL Cb Cr R1 l u hd es S) H11 := h11.rest
                refine ite2 (fun hne => ?_) fun _ => ⟨fun q => (by cases q), hL⟩
                have hne2 : R1.order ≠ [] := fun e => by rw [decide_eq_true (show R1.order = [] from e)] at hne; cases hne
                exact ⟨_, rfl,  _, _, rfl, rfl, ⟨by decide, by decide⟩,  _, _, rfl, rfl, (by show (0 : Int) < _; decide),  rfl, _, rfl, fun _ => hne2, hL⟩
              · rintro b H11 ⟨hb, h11⟩
                have h11' := h11
                unfold lawL at h11'
                cases b with
                | false => exact iteF ⟨none, fun s q => (by cases q), rfl, h11⟩
                | true =>
                  have hpos := List.length_pos_iff.mpr (hb rfl)
                  have e1 : V.int (z / 35 % ((R1.order.map nv).length : Int)) = optV (some (z / 35 % (R1.order.length : Int)).toNat) := by
                    rw [List.length_map]
                    show V.int _ = V.int _
                    have := Int.emod_nonneg (z / 35) (b := (R1.order.length : Int)) (by omega)
                    rw [Int.toNat_of_nonneg this]
                  refine iteT ⟨_, rfl,  _, _, rfl, rfl, ⟨by decide, by decide⟩,  _, rfl,  _, _, rfl, .inl (SqL.of h11'.get),  _, _, rfl, rfl, by show (0 : Int) < _; rw [List.length_map]; omega, some (z / 35 % (R1.order.length : Int)).toNat, fun s q => ?_, ?_, h11⟩
                  · cases q
                    have := Int.emod_nonneg (z / 35) (b := (R1.order.length : Int)) (by omega)
                    have := Int.emod_lt_of_pos (z / 35) (b := (R1.order.length : Int)) (by omega)
                    omega
                  · rw [← e1]
                    rfl
            · rintro _ H11 ⟨o, ho, rfl, h11⟩
              have h11' := h11
              unfold lawL at h11'
              -- found = row.add(behind)
              refine ⟨_, rfl,  _, _, _, rfl, h11'.get, fRow_no (by decide +kernel),  _, rfl,  R1, _, o, rfl, G1, h11', ho, by omega, fun R2 H12 G2 r2 o2 b2 h12 => ?_⟩
              refine ⟨_, rfl,  _, rfl, true, rfl, ?_⟩
              refine iteF ⟨_, rfl,  _, rfl,  _, _, rfl, .inl (SqL.of h12.get),  rfl, _, rfl, ?_⟩
              rw [List.length_map, ol1, decide_eq_true rfl]
              refine iteF ?_
              -- plain.insert(..)
              refine ⟨_, rfl,  .inl ⟨rfl, _, SqL.of h12.get⟩,  fun v H' => v = nv (R1.posn o) ∧ H12 = H', ?_, ?_⟩
              · cases o with
                | none => exact ⟨_, rfl,  rfl, _, rfl, iteT ⟨rfl, rfl⟩⟩
                | some t =>
                  have mt := (G1.all t).mpr (ho t rfl)
                  refine ⟨_, rfl,  rfl, _, rfl, iteF ⟨_, rfl,  .inl ⟨rfl, _, SqL.of h12.get⟩,  _, rfl,  _, _, _, _, _, rfl, rfl, SqL.of h12.get, rfl, flat_nv _, nv_get (get_idx mt), eqV_self, nv_first,  _, _, rfl, rfl,  rfl, rfl⟩⟩
              rintro _ _ ⟨rfl, rfl⟩
              have hpl : R1.posn o ≤ R1.order.length := by
                cases o with
                | none => exact Nat.zero_le _
                | some t => exact idx_lt ((G1.all t).mpr (ho t rfl))
              refine ⟨_, rfl,  _, _, _, _, rfl, rfl, h12.get, by rw [List.length_map]; exact sz_lt (by omega), by omega, by omega, ?_⟩
              refine upd_k h12 rfl fun H13 h13 => ?_
              rw [ins_nv, ← o2] at h13
              refine ⟨_, rfl,  .inl ⟨rfl, _, SqL.of h13.get⟩,  _, _, _, rfl, rfl, h13.get, by rw [List.length_map]; exact sz_lt (by omega), ?_⟩
              refine upd_k h13 rfl fun H14 h14 => ?_
              have eb2 : R1.busy.map V.bl ++ [V.bl false] = R2.busy.map V.bl := by rw [b2, List.map_append]; rfl
              rw [eb2] at h14
              have hlen2 : R2.busy.length = R1.busy.length + 1 := by rw [b2, List.length_append]; rfl
              -- if number // 7 % 3 > 0
              refine ⟨_, rfl,  _, _, rfl, rfl, ⟨by decide, by decide⟩,  _, _, rfl, rfl, (by show (0 : Int) < _; decide),  _, _, rfl, rfl,  _, rfl, ?_⟩
              refine ite2 (fun _ => ?_) fun _ => ⟨R2, _, _, _, rfl, G2, r2, by omega, by omega, h14⟩
              rw [← r2]
              refine ⟨_, rfl,  _, _, _, rfl, h14.get, fRow_no (by decide +kernel),  _, rfl,  R2, _, R1.busy.length, true, rfl, G2, h14, by omega, fun R3 H15 G3 r3 o3 b3 h15 => ?_⟩
              refine ⟨_, rfl,  _, rfl,  _, _, _, R1.busy.length, rfl, rfl, h15.get, ixN_nv (by rw [List.length_map]; omega), ?_⟩
              refine upd_k h15 rfl fun H16 h16 => ?_
              rw [← List.map_set, ← b3, ← o3] at h16
              exact ⟨R3, _, _, _, rfl, G3, r3, by rw [b3, List.length_set]; omega, by rw [b3, List.length_set]; omega, h16⟩
          | false =>
            have hpos := List.length_pos_iff.mpr (hb rfl)
            obtain ⟨e, he⟩ : ∃ e : Nat, z / 5 % (R1.order.length : Int) = (e : Int) := ⟨(z / 5 % (R1.order.length : Int)).toNat, by have := Int.emod_nonneg (z / 5) (b := (R1.order.length : Int)) (by omega); omega⟩
            have he2 : e < R1.busy.length := by have := Int.emod_lt_of_pos (z / 5) (b := (R1.order.length : Int)) (by omega); omega
            have e1 : V.int (z / 5 % ((R1.order.map nv).length : Int)) = nv e := by rw [List.length_map, he]
            refine iteF ⟨fun v H' => v = nv e ∧ H10 = H', ⟨_, rfl,  _, _, rfl, rfl, ⟨by decide, by decide⟩,  _, rfl,  _, _, rfl, .inl (SqL.of h10'.get),  _, _, rfl, rfl, by show (0 : Int) < _; rw [List.length_map]; omega, e1, rfl⟩, ?_⟩
            rintro _ _ ⟨rfl, rfl⟩
            obtain ⟨c, hc⟩ : ∃ c, c = decide (V.int (z / 5003 % 2) = V.int 1) := ⟨_, rfl⟩
            refine ⟨_, rfl,  _, _, rfl, rfl, ⟨by decide, by decide⟩,  _, _, rfl, rfl, (by show (0 : Int) < _; decide),  rfl, ?_⟩
            refine ⟨_, rfl,  _, rfl,  _, _, _, e, rfl, rfl, h10'.get, ixN_nv (by rw [List.length_map]; exact he2), ?_⟩
            refine upd_k h10' rfl fun H11 h11 => ?_
            dsimp only at h11
            rw [← hc] at h11
            have t1 : ((R1.busy.map V.bl).set e (V.bl c))[e]? = some (V.bl c) := List.getElem?_set_self (by rw [List.length_map]; exact he2)
            refine ⟨_, rfl,  _, _, _, rfl, h11.get, fRow_no (by decide +kernel),  _, rfl,  _, rfl,  _, rfl,  _, _, _, _, rfl, rfl, SqL.of h11.get, at_nv t1,  R1, _, e, c, rfl, G1, h11, he2, fun R2 H12 G2 r2 o2 b2 h12 => ?_⟩
            refine ⟨rfl, _, rfl, ?_⟩
            refine iteF ⟨R2, _, _, _, rfl, G2, r2, by rw [b2, List.length_set]; omega, by rw [b2, List.length_set]; omega, ?_⟩
            rw [← List.map_set, ← b2, ← o2] at h12
            exact h12
      · rintro _ H10 ⟨R2, w9, w10, w11, rfl, G2, r2, bl2, bp2, h10⟩
        rw [← r2]
        -- is_due
        refine ⟨fun v H' => (∃ b, v = .bl b) ∧ H10 = H', ?_, ?_⟩
        · refine ⟨_, rfl,  _, rfl,  _, _, rfl, rfl,  _, rfl, ?_⟩
          refine ite2 (fun _ => ⟨_, rfl,  rfl, _, rfl, ?_⟩) fun _ => ⟨⟨_, rfl⟩, rfl⟩
          exact ite2 (fun _ => ⟨⟨_, rfl⟩, rfl⟩) fun _ => ⟨_, rfl,  _, _, rfl, rfl, (by show (0 : Int) < _; decide),  rfl, ⟨_, rfl⟩, rfl⟩
        rintro _ _ ⟨⟨due, rfl⟩, rfl⟩
        -- the look
        refine ⟨fun σ' H' => σ' = [some (.ref a), some (.ref R2.r), some (.ref l), some (.ref u), some (nv many), some (.ref hd), some (.int (0 + (i : Int))), some (.int cell), some (.int z), w9, w10, w11, some (.bl due), v13, none, none] ∧ Hs (lawL Cb Cr R2 l u hd es S) H', ?_, ?_⟩
        · refine ⟨_, rfl,  due, rfl, ?_⟩
          cases due with
          | false => exact iteF (iteF ⟨rfl, h10⟩)
          | true =>
            refine iteT ⟨_, rfl,  _, rfl,  _, rfl,  _, rfl,  _, rfl,  _, _, rfl, rfl,  _, _, rfl, R2, l, u, _, _, rfl, G2, h10, mixed_nn _ _, bp2, fun H' h' => ⟨true, rfl, ?_⟩⟩
            exact iteF ⟨rfl, h'⟩
        · rintro _ H11 ⟨rfl, h11⟩
          -- every ninth turn
          refine ⟨_, rfl,  _, _, rfl, rfl, (by show (0 : Int) < _; decide),  rfl, _, rfl, ?_⟩
          refine ite2 (fun _ => ?_) fun _ => ⟨R2, es, _, _, _, _, _, _, _, _, rfl, G2, rfl, bl2, by omega, h11⟩
          refine ⟨_, rfl,  _, _, _, rfl, h11.get, fRow_no (by decide +kernel),  R2, _, rfl, G2, h11, fun p H12 h12 => ?_⟩
          refine ⟨_, rfl,  .inl ⟨rfl, _, SqL.of h12.get⟩,  _, rfl,  _, rfl,  _, _, rfl, .inl (SqL.of h12.get), fun q nq => ?_⟩
          generalize hX6 : upd H12 q _ = H13
          have h13 := h12.newG nq hX6
          refine ⟨(by show 2 ≤ sizeLine; decide), fun t nt => ?_⟩
          generalize hX7 : upd H13 t _ = H14
          have h14 := h13.newG nt hX7
          refine ⟨_, _, _, rfl, rfl, h14.get, by rw [List.length_map]; exact sz_lt (by omega), ?_⟩
          refine upd_k h14 rfl fun H15 h15 => ?_
          have h16 : Hs (lawL Cb Cr R2 l u hd (es ++ [⟨t, p, q, R2.order⟩]) S) H15 := by
            unfold lawL
            rw [heldC_append, heldC_one, List.map_append]
            refine h15.sub (fun c => ?_) fun z => ?_
            · simp only [kc_append, kc_cons, kc_nil]; omega
            · simp only [hat_append, hat_cons, hat_nil] at z ⊢
              obtain ⟨z1, z2, z3, z4, z5, z6, z7, z8, z9⟩ := z
              exact ⟨z4, z5, z6, z7, ⟨z8, z1, z3, z2, trivial⟩, z9⟩
          refine ⟨_, rfl,  _, rfl,  ?_⟩
          refine ne_nvs (xs := R2.order) (ys := R2.order) (SqL.of h15.get) (SqL.of h15.get) ⟨_, rfl, ?_⟩
          rw [decide_eq_true rfl]
          refine iteF ⟨R2, _, _, _, _, _, _, _, _, _, rfl, G2, rfl, bl2, ?_, h16⟩
          rw [List.length_append, List.length_singleton]
          omega
    · rintro σ H9 ⟨R1, es, v6, v7, v8, v9, v10, v11, v12, v13, rfl, G1, r1, bl1, el1, h9⟩
      subst r1
      refine ⟨_, rfl,  _, _, _, rfl, h9.get, fRow_no (by decide +kernel),  R1, _, rfl, G1, h9, fun p H10 h10 => ?_⟩
      refine ⟨_, rfl,  ?_⟩
      refine eq_nvs (xs := R1.order) (ys := R1.order) (SqL.of h10.get) (SqL.of h10.get) ⟨_, rfl, ?_⟩
      rw [decide_eq_true rfl]
      refine iteT ⟨_, rfl,  _, rfl, ⟨_, SqL.of h10.get⟩, fun D nD => ?_⟩
      refine lc_plain (fun _ => false) id h10 nD (fun H'' q => SqL.of q.get) (by rw [List.length_map]; exact sz_lt (by omega)) (fun x hx H'' acc Nx q hz nx1 nx2 => ?_) fun H11 h11 => ?_
      · obtain ⟨e, he, rfl⟩ := List.mem_map.mp hx
        have m := heldC_mem he
        have g1 : ∀ c ∈ heldC es, H'' c.1 = some c.2 := fun c hc => q.mem (List.mem_cons_of_mem _ (List.mem_cons_of_mem _ (List.mem_append_right _ (List.mem_cons_of_mem _ (List.mem_cons_of_mem _ (List.mem_cons_of_mem _ (List.mem_append_left _ hc)))))))
        refine ⟨_, _, rfl, SqT.of (g1 _ m.1), rfl, _, _, rfl, _, _, rfl, rfl, rfl, _, rfl,  _, rfl,  ?_⟩
        refine ne_nvs (xs := e.xs) (ys := e.xs) (SqL.of (g1 _ m.2.1)) (SqL.of (g1 _ m.2.2)) ⟨_, rfl, ?_⟩
        rw [decide_eq_true rfl]
        exact iteF (nx2 rfl _ q)
      · refine ⟨(by decide), fun p2 np2 => ?_⟩
        generalize hX8 : upd H11 p2 _ = H12
        have h12 := h11.newG np2 hX8
        have e0 : ((es.map fun e => V.ref e.t).filter fun _ => false).map id = ([] : List Nat).map nv := by simp
        rw [e0] at h12
        refine eq_nvs (xs := []) (ys := []) (SqL.of h12.get) (SqL.of h12.get) ?_
        exact k _
end
end Sm

set_option Elab.async false
set_option linter.all false
set_option maxRecDepth 100000
set_option maxHeartbeats 8000000
/-! k01: the end. -/
namespace Sm
open PySem PySem.Spec PyProof.Rows L2
section
variable {P : Program} {w : World} {K : PySem.W.Frag} {mg : Str → Option Value} {base : Heap} {CX : CXT} {k : Nat} {C f : Addr} {fd : FuncData} {ps : List Str} {sp : Sp} {x m : Str}
theorem met (c : Cls K C) (a : PySem.W.findIn K (.ref C) m = some (some (.ref f))) (i : PySem.W.isFn K (.ref f) = true) (kp : PySem.W.keepIn K (.ref f) = true) (G : FnOk P w K mg base CX k f fd ps sp) (b : Binds K fd ps []) : Met P w K mg base CX k C m sp := ⟨f, fd, ps, c, ⟨a, i, kp⟩, G, b⟩
theorem cal (g : mg x = some (.ref f)) (kp : PySem.W.keepIn K (.ref f) = true) (G : FnOk P w K mg base CX k f fd ps sp) (b : Binds K fd ps []) : Cal P w K mg base CX k x sp := ⟨f, fd, ps, G, g, kp, b⟩
theorem mak (mk : PySem.W.makesIn K C = true) (a : PySem.W.findIn K (.ref C) "__init__" = some (some (.ref f))) (i : PySem.W.isFn K (.ref f) = true) (kc : PySem.W.keepIn K (.ref C) = true) (g : mg x = some (.ref C)) (G : FnOk P w K mg base CX k f fd ps sp) (b : Binds K fd ps []) : Mak P w K mg base CX k x C sp := ⟨f, fd, ps, ⟨mk, a, i, kc⟩, G, g, b⟩
end
theorem all_mk {l : PySem.W.OpenLaw} {w : World} {K : PySem.W.Frag} {h : Heap} {mg : Str → Option Value} {fa : Addr} (X : K.In h) (G : h.Ns mainGlobals mg) (hfa : mg "law" = some (.ref fa))
    {C_Block : Addr}
    {C_Row : Addr}
    {f_is_among : Addr} {od_is_among an_is_among : Option Addr} {sl_is_among : Array (Option Value)} {oc_is_among kV_is_among dc_is_among pm_is_among cd_is_among ct_is_among : Value}
    {f_Block_init : Addr} {od_Block_init an_Block_init : Option Addr} {sl_Block_init : Array (Option Value)} {oc_Block_init kV_Block_init dc_Block_init pm_Block_init cd_Block_init ct_Block_init : Value}
    {f_Row_init : Addr} {od_Row_init an_Row_init : Option Addr} {sl_Row_init : Array (Option Value)} {oc_Row_init kV_Row_init dc_Row_init pm_Row_init cd_Row_init ct_Row_init : Value}
    {f_Row_need_seat : Addr} {od_Row_need_seat an_Row_need_seat : Option Addr} {sl_Row_need_seat : Array (Option Value)} {oc_Row_need_seat kV_Row_need_seat dc_Row_need_seat pm_Row_need_seat cd_Row_need_seat ct_Row_need_seat : Value}
    {f_Row_add : Addr} {od_Row_add an_Row_add : Option Addr} {sl_Row_add : Array (Option Value)} {oc_Row_add kV_Row_add dc_Row_add pm_Row_add cd_Row_add ct_Row_add : Value}
    {f_Row_part : Addr} {od_Row_part an_Row_part : Option Addr} {sl_Row_part : Array (Option Value)} {oc_Row_part kV_Row_part dc_Row_part pm_Row_part cd_Row_part ct_Row_part : Value}
    {f_Row_take : Addr} {od_Row_take an_Row_take : Option Addr} {sl_Row_take : Array (Option Value)} {oc_Row_take kV_Row_take dc_Row_take pm_Row_take cd_Row_take ct_Row_take : Value}
    {f_Row_is_taken : Addr} {od_Row_is_taken an_Row_is_taken : Option Addr} {sl_Row_is_taken : Array (Option Value)} {oc_Row_is_taken kV_Row_is_taken dc_Row_is_taken pm_Row_is_taken cd_Row_is_taken ct_Row_is_taken : Value}
    {f_Row_many : Addr} {od_Row_many an_Row_many : Option Addr} {sl_Row_many : Array (Option Value)} {oc_Row_many kV_Row_many dc_Row_many pm_Row_many cd_Row_many ct_Row_many : Value}
    {f_Row_all_taken : Addr} {od_Row_all_taken an_Row_all_taken : Option Addr} {sl_Row_all_taken : Array (Option Value)} {oc_Row_all_taken kV_Row_all_taken dc_Row_all_taken pm_Row_all_taken cd_Row_all_taken ct_Row_all_taken : Value}
    {f_Row_ahead : Addr} {od_Row_ahead an_Row_ahead : Option Addr} {sl_Row_ahead : Array (Option Value)} {oc_Row_ahead kV_Row_ahead dc_Row_ahead pm_Row_ahead cd_Row_ahead ct_Row_ahead : Value}
    {f_Row_find : Addr} {od_Row_find an_Row_find : Option Addr} {sl_Row_find : Array (Option Value)} {oc_Row_find kV_Row_find dc_Row_find pm_Row_find cd_Row_find ct_Row_find : Value}
    {f_Row_is_ahead : Addr} {od_Row_is_ahead an_Row_is_ahead : Option Addr} {sl_Row_is_ahead : Array (Option Value)} {oc_Row_is_ahead kV_Row_is_ahead dc_Row_is_ahead pm_Row_is_ahead cd_Row_is_ahead ct_Row_is_ahead : Value}
    {f_Row_order : Addr} {od_Row_order an_Row_order : Option Addr} {sl_Row_order : Array (Option Value)} {oc_Row_order kV_Row_order dc_Row_order pm_Row_order cd_Row_order ct_Row_order : Value}
    {f__law_cell_at : Addr} {od__law_cell_at an__law_cell_at : Option Addr} {sl__law_cell_at : Array (Option Value)} {oc__law_cell_at kV__law_cell_at dc__law_cell_at pm__law_cell_at cd__law_cell_at ct__law_cell_at : Value}
    {f__law_whole : Addr} {od__law_whole an__law_whole : Option Addr} {sl__law_whole : Array (Option Value)} {oc__law_whole kV__law_whole dc__law_whole pm__law_whole cd__law_whole ct__law_whole : Value}
    {f__law_mixed : Addr} {od__law_mixed an__law_mixed : Option Addr} {sl__law_mixed : Array (Option Value)} {oc__law_mixed kV__law_mixed dc__law_mixed pm__law_mixed cd__law_mixed ct__law_mixed : Value}
    {f__law_stands : Addr} {od__law_stands an__law_stands : Option Addr} {sl__law_stands : Array (Option Value)} {oc__law_stands kV__law_stands dc__law_stands pm__law_stands cd__law_stands ct__law_stands : Value}
    {f_law : Addr} {od_law an_law : Option Addr} {sl_law : Array (Option Value)} {oc_law kV_law dc_law pm_law cd_law ct_law : Value}
    {v_MOST_IN_BLOCK : Value}
    (aC_Block : PySem.W.nsIn K mainGlobals "Block" = some (some (.ref C_Block)))
    (pg_Block : PySem.W.plainGet K C_Block Str.empty = true)
    (hd_Block : PySem.W.hasDictIn K C_Block = true)
    (po_Block : PySem.W.plainOver K C_Block = true)
    (sa_Block : PySem.W.findIn K (.ref C_Block) "__setattr__" = some (some (.builtin "object.__setattr__")))
    (mk_Block : PySem.W.makesIn K C_Block = true)
    (kc_Block : PySem.W.keepIn K (.ref C_Block) = true)
    (n_Block_some : PySem.W.findIn K (.ref C_Block) "some" = some none)
    (n_Block_full : PySem.W.findIn K (.ref C_Block) "full" = some none)
    (aC_Row : PySem.W.nsIn K mainGlobals "Row" = some (some (.ref C_Row)))
    (pg_Row : PySem.W.plainGet K C_Row Str.empty = true)
    (hd_Row : PySem.W.hasDictIn K C_Row = true)
    (po_Row : PySem.W.plainOver K C_Row = true)
    (sa_Row : PySem.W.findIn K (.ref C_Row) "__setattr__" = some (some (.builtin "object.__setattr__")))
    (mk_Row : PySem.W.makesIn K C_Row = true)
    (kc_Row : PySem.W.keepIn K (.ref C_Row) = true)
    (n_Row_blocks : PySem.W.findIn K (.ref C_Row) "blocks" = some none)
    (n_Row_homes : PySem.W.findIn K (.ref C_Row) "homes" = some none)
    (n_Row_busy : PySem.W.findIn K (.ref C_Row) "busy" = some none)
    (eo_Block : PySem.W.mroIn K C_Block (.type "object") = some true)
    (ee_Block : PySem.W.findIn K (.ref C_Block) "__eq__" = some (some (.builtin "object.__eq__")))
    (a_is_among : PySem.W.nsIn K mainGlobals "is_among" = some (some (.ref f_is_among)))
    (l_is_among : K.lookup f_is_among = some ⟨oc_is_among, od_is_among, .func (PySem.W.fnOf "is_among" "is_among" (defArgs s_is_among) (defBody s_is_among) (defScope s_is_among) .none kV_is_among dc_is_among pm_is_among an_is_among cd_is_among ct_is_among), sl_is_among⟩)
    (c_is_among : PySem.W.codeIn K cd_is_among "is_among" = true)
    (k_is_among : PySem.W.keepIn K (.ref f_is_among) = true)
    (a_Block_init : PySem.W.findIn K (.ref C_Block) "__init__" = some (some (.ref f_Block_init)))
    (i_Block_init : PySem.W.isFn K (.ref f_Block_init) = true)
    (l_Block_init : K.lookup f_Block_init = some ⟨oc_Block_init, od_Block_init, .func (PySem.W.fnOf "__init__" "Block.__init__" (defArgs s_Block_init) (defBody s_Block_init) (defScope s_Block_init) .none kV_Block_init dc_Block_init pm_Block_init an_Block_init cd_Block_init ct_Block_init), sl_Block_init⟩)
    (c_Block_init : PySem.W.codeIn K cd_Block_init "Block.__init__" = true)
    (k_Block_init : PySem.W.keepIn K (.ref f_Block_init) = true)
    (a_Row_init : PySem.W.findIn K (.ref C_Row) "__init__" = some (some (.ref f_Row_init)))
    (i_Row_init : PySem.W.isFn K (.ref f_Row_init) = true)
    (l_Row_init : K.lookup f_Row_init = some ⟨oc_Row_init, od_Row_init, .func (PySem.W.fnOf "__init__" "Row.__init__" (defArgs s_Row_init) (defBody s_Row_init) (defScope s_Row_init) .none kV_Row_init dc_Row_init pm_Row_init an_Row_init cd_Row_init ct_Row_init), sl_Row_init⟩)
    (c_Row_init : PySem.W.codeIn K cd_Row_init "Row.__init__" = true)
    (k_Row_init : PySem.W.keepIn K (.ref f_Row_init) = true)
    (a_Row_need_seat : PySem.W.findIn K (.ref C_Row) "need_seat" = some (some (.ref f_Row_need_seat)))
    (i_Row_need_seat : PySem.W.isFn K (.ref f_Row_need_seat) = true)
    (l_Row_need_seat : K.lookup f_Row_need_seat = some ⟨oc_Row_need_seat, od_Row_need_seat, .func (PySem.W.fnOf "need_seat" "Row.need_seat" (defArgs s_Row_need_seat) (defBody s_Row_need_seat) (defScope s_Row_need_seat) .none kV_Row_need_seat dc_Row_need_seat pm_Row_need_seat an_Row_need_seat cd_Row_need_seat ct_Row_need_seat), sl_Row_need_seat⟩)
    (c_Row_need_seat : PySem.W.codeIn K cd_Row_need_seat "Row.need_seat" = true)
    (k_Row_need_seat : PySem.W.keepIn K (.ref f_Row_need_seat) = true)
    (a_Row_add : PySem.W.findIn K (.ref C_Row) "add" = some (some (.ref f_Row_add)))
    (i_Row_add : PySem.W.isFn K (.ref f_Row_add) = true)
    (l_Row_add : K.lookup f_Row_add = some ⟨oc_Row_add, od_Row_add, .func (PySem.W.fnOf "add" "Row.add" (defArgs s_Row_add) (defBody s_Row_add) (defScope s_Row_add) .none kV_Row_add dc_Row_add pm_Row_add an_Row_add cd_Row_add ct_Row_add), sl_Row_add⟩)
    (c_Row_add : PySem.W.codeIn K cd_Row_add "Row.add" = true)
    (k_Row_add : PySem.W.keepIn K (.ref f_Row_add) = true)
    (a_Row_part : PySem.W.findIn K (.ref C_Row) "part" = some (some (.ref f_Row_part)))
    (i_Row_part : PySem.W.isFn K (.ref f_Row_part) = true)
    (l_Row_part : K.lookup f_Row_part = some ⟨oc_Row_part, od_Row_part, .func (PySem.W.fnOf "part" "Row.part" (defArgs s_Row_part) (defBody s_Row_part) (defScope s_Row_part) .none kV_Row_part dc_Row_part pm_Row_part an_Row_part cd_Row_part ct_Row_part), sl_Row_part⟩)
    (c_Row_part : PySem.W.codeIn K cd_Row_part "Row.part" = true)
    (k_Row_part : PySem.W.keepIn K (.ref f_Row_part) = true)
    (a_Row_take : PySem.W.findIn K (.ref C_Row) "take" = some (some (.ref f_Row_take)))
    (i_Row_take : PySem.W.isFn K (.ref f_Row_take) = true)
    (l_Row_take : K.lookup f_Row_take = some ⟨oc_Row_take, od_Row_take, .func (PySem.W.fnOf "take" "Row.take" (defArgs s_Row_take) (defBody s_Row_take) (defScope s_Row_take) .none kV_Row_take dc_Row_take pm_Row_take an_Row_take cd_Row_take ct_Row_take), sl_Row_take⟩)
    (c_Row_take : PySem.W.codeIn K cd_Row_take "Row.take" = true)
    (k_Row_take : PySem.W.keepIn K (.ref f_Row_take) = true)
    (a_Row_is_taken : PySem.W.findIn K (.ref C_Row) "is_taken" = some (some (.ref f_Row_is_taken)))
    (i_Row_is_taken : PySem.W.isFn K (.ref f_Row_is_taken) = true)
    (l_Row_is_taken : K.lookup f_Row_is_taken = some ⟨oc_Row_is_taken, od_Row_is_taken, .func (PySem.W.fnOf "is_taken" "Row.is_taken" (defArgs s_Row_is_taken) (defBody s_Row_is_taken) (defScope s_Row_is_taken) .none kV_Row_is_taken dc_Row_is_taken pm_Row_is_taken an_Row_is_taken cd_Row_is_taken ct_Row_is_taken), sl_Row_is_taken⟩)
    (c_Row_is_taken : PySem.W.codeIn K cd_Row_is_taken "Row.is_taken" = true)
    (k_Row_is_taken : PySem.W.keepIn K (.ref f_Row_is_taken) = true)
    (a_Row_many : PySem.W.findIn K (.ref C_Row) "many" = some (some (.ref f_Row_many)))
    (i_Row_many : PySem.W.isFn K (.ref f_Row_many) = true)
    (l_Row_many : K.lookup f_Row_many = some ⟨oc_Row_many, od_Row_many, .func (PySem.W.fnOf "many" "Row.many" (defArgs s_Row_many) (defBody s_Row_many) (defScope s_Row_many) .none kV_Row_many dc_Row_many pm_Row_many an_Row_many cd_Row_many ct_Row_many), sl_Row_many⟩)
    (c_Row_many : PySem.W.codeIn K cd_Row_many "Row.many" = true)
    (k_Row_many : PySem.W.keepIn K (.ref f_Row_many) = true)
    (a_Row_all_taken : PySem.W.findIn K (.ref C_Row) "all_taken" = some (some (.ref f_Row_all_taken)))
    (i_Row_all_taken : PySem.W.isFn K (.ref f_Row_all_taken) = true)
    (l_Row_all_taken : K.lookup f_Row_all_taken = some ⟨oc_Row_all_taken, od_Row_all_taken, .func (PySem.W.fnOf "all_taken" "Row.all_taken" (defArgs s_Row_all_taken) (defBody s_Row_all_taken) (defScope s_Row_all_taken) .none kV_Row_all_taken dc_Row_all_taken pm_Row_all_taken an_Row_all_taken cd_Row_all_taken ct_Row_all_taken), sl_Row_all_taken⟩)
    (c_Row_all_taken : PySem.W.codeIn K cd_Row_all_taken "Row.all_taken" = true)
    (k_Row_all_taken : PySem.W.keepIn K (.ref f_Row_all_taken) = true)
    (a_Row_ahead : PySem.W.findIn K (.ref C_Row) "ahead" = some (some (.ref f_Row_ahead)))
    (i_Row_ahead : PySem.W.isFn K (.ref f_Row_ahead) = true)
    (l_Row_ahead : K.lookup f_Row_ahead = some ⟨oc_Row_ahead, od_Row_ahead, .func (PySem.W.fnOf "ahead" "Row.ahead" (defArgs s_Row_ahead) (defBody s_Row_ahead) (defScope s_Row_ahead) .none kV_Row_ahead dc_Row_ahead pm_Row_ahead an_Row_ahead cd_Row_ahead ct_Row_ahead), sl_Row_ahead⟩)
    (c_Row_ahead : PySem.W.codeIn K cd_Row_ahead "Row.ahead" = true)
    (k_Row_ahead : PySem.W.keepIn K (.ref f_Row_ahead) = true)
    (a_Row_find : PySem.W.findIn K (.ref C_Row) "find" = some (some (.ref f_Row_find)))
    (i_Row_find : PySem.W.isFn K (.ref f_Row_find) = true)
    (l_Row_find : K.lookup f_Row_find = some ⟨oc_Row_find, od_Row_find, .func (PySem.W.fnOf "find" "Row.find" (defArgs s_Row_find) (defBody s_Row_find) (defScope s_Row_find) .none kV_Row_find dc_Row_find pm_Row_find an_Row_find cd_Row_find ct_Row_find), sl_Row_find⟩)
    (c_Row_find : PySem.W.codeIn K cd_Row_find "Row.find" = true)
    (k_Row_find : PySem.W.keepIn K (.ref f_Row_find) = true)
    (a_Row_is_ahead : PySem.W.findIn K (.ref C_Row) "is_ahead" = some (some (.ref f_Row_is_ahead)))
    (i_Row_is_ahead : PySem.W.isFn K (.ref f_Row_is_ahead) = true)
    (l_Row_is_ahead : K.lookup f_Row_is_ahead = some ⟨oc_Row_is_ahead, od_Row_is_ahead, .func (PySem.W.fnOf "is_ahead" "Row.is_ahead" (defArgs s_Row_is_ahead) (defBody s_Row_is_ahead) (defScope s_Row_is_ahead) .none kV_Row_is_ahead dc_Row_is_ahead pm_Row_is_ahead an_Row_is_ahead cd_Row_is_ahead ct_Row_is_ahead), sl_Row_is_ahead⟩)
    (c_Row_is_ahead : PySem.W.codeIn K cd_Row_is_ahead "Row.is_ahead" = true)
    (k_Row_is_ahead : PySem.W.keepIn K (.ref f_Row_is_ahead) = true)
    (a_Row_order : PySem.W.findIn K (.ref C_Row) "order" = some (some (.ref f_Row_order)))
    (i_Row_order : PySem.W.isFn K (.ref f_Row_order) = true)
    (l_Row_order : K.lookup f_Row_order = some ⟨oc_Row_order, od_Row_order, .func (PySem.W.fnOf "order" "Row.order" (defArgs s_Row_order) (defBody s_Row_order) (defScope s_Row_order) .none kV_Row_order dc_Row_order pm_Row_order an_Row_order cd_Row_order ct_Row_order), sl_Row_order⟩)
    (c_Row_order : PySem.W.codeIn K cd_Row_order "Row.order" = true)
    (k_Row_order : PySem.W.keepIn K (.ref f_Row_order) = true)
    (a__law_cell_at : PySem.W.nsIn K mainGlobals "_law_cell_at" = some (some (.ref f__law_cell_at)))
    (l__law_cell_at : K.lookup f__law_cell_at = some ⟨oc__law_cell_at, od__law_cell_at, .func (PySem.W.fnOf "_law_cell_at" "_law_cell_at" (defArgs s__law_cell_at) (defBody s__law_cell_at) (defScope s__law_cell_at) .none kV__law_cell_at dc__law_cell_at pm__law_cell_at an__law_cell_at cd__law_cell_at ct__law_cell_at), sl__law_cell_at⟩)
    (c__law_cell_at : PySem.W.codeIn K cd__law_cell_at "_law_cell_at" = true)
    (k__law_cell_at : PySem.W.keepIn K (.ref f__law_cell_at) = true)
    (a__law_whole : PySem.W.nsIn K mainGlobals "_law_whole" = some (some (.ref f__law_whole)))
    (l__law_whole : K.lookup f__law_whole = some ⟨oc__law_whole, od__law_whole, .func (PySem.W.fnOf "_law_whole" "_law_whole" (defArgs s__law_whole) (defBody s__law_whole) (defScope s__law_whole) .none kV__law_whole dc__law_whole pm__law_whole an__law_whole cd__law_whole ct__law_whole), sl__law_whole⟩)
    (c__law_whole : PySem.W.codeIn K cd__law_whole "_law_whole" = true)
    (k__law_whole : PySem.W.keepIn K (.ref f__law_whole) = true)
    (a__law_mixed : PySem.W.nsIn K mainGlobals "_law_mixed" = some (some (.ref f__law_mixed)))
    (l__law_mixed : K.lookup f__law_mixed = some ⟨oc__law_mixed, od__law_mixed, .func (PySem.W.fnOf "_law_mixed" "_law_mixed" (defArgs s__law_mixed) (defBody s__law_mixed) (defScope s__law_mixed) .none kV__law_mixed dc__law_mixed pm__law_mixed an__law_mixed cd__law_mixed ct__law_mixed), sl__law_mixed⟩)
    (c__law_mixed : PySem.W.codeIn K cd__law_mixed "_law_mixed" = true)
    (k__law_mixed : PySem.W.keepIn K (.ref f__law_mixed) = true)
    (a__law_stands : PySem.W.nsIn K mainGlobals "_law_stands" = some (some (.ref f__law_stands)))
    (l__law_stands : K.lookup f__law_stands = some ⟨oc__law_stands, od__law_stands, .func (PySem.W.fnOf "_law_stands" "_law_stands" (defArgs s__law_stands) (defBody s__law_stands) (defScope s__law_stands) .none kV__law_stands dc__law_stands pm__law_stands an__law_stands cd__law_stands ct__law_stands), sl__law_stands⟩)
    (c__law_stands : PySem.W.codeIn K cd__law_stands "_law_stands" = true)
    (k__law_stands : PySem.W.keepIn K (.ref f__law_stands) = true)
    (a_law : PySem.W.nsIn K mainGlobals "law" = some (some (.ref f_law)))
    (l_law : K.lookup f_law = some ⟨oc_law, od_law, .func (PySem.W.fnOf "law" "law" (defArgs s_law) (defBody s_law) (defScope s_law) .none kV_law dc_law pm_law an_law cd_law ct_law), sl_law⟩)
    (c_law : PySem.W.codeIn K cd_law "law" = true)
    (k_law : PySem.W.keepIn K (.ref f_law) = true)
    (ak_MOST_IN_BLOCK : PySem.W.nsIn K mainGlobals "MOST_IN_BLOCK" = some (some v_MOST_IN_BLOCK))
    (rk_MOST_IN_BLOCK : RelV (.int 12) v_MOST_IN_BLOCK)
    (z_len : PySem.W.nsIn K mainGlobals "len" = some none)
    (z_int : PySem.W.nsIn K mainGlobals "int" = some none)
    (z_bool : PySem.W.nsIn K mainGlobals "bool" = some none)
    (z_sum : PySem.W.nsIn K mainGlobals "sum" = some none)
    (z_isinstance : PySem.W.nsIn K mainGlobals "isinstance" = some none)
    (z_list : PySem.W.nsIn K mainGlobals "list" = some none)
    (z_range : PySem.W.nsIn K mainGlobals "range" = some none)
    (z_min : PySem.W.nsIn K mainGlobals "min" = some none)
    (z_max : PySem.W.nsIn K mainGlobals "max" = some none) :
    ∃ fd : FuncData, (∀ (s : Shared) (v : Value), BindsTo s fd ⟨[v], []⟩ [("_law_script", v)]) ∧ ∀ base : Heap, K.In base → base.Ns mainGlobals mg → FnOk l.prog w K mg base CX0 5 fa fd ["_law_script"] (spLaw K) := by
  have e := hfa.symm.trans (PySem.W.mg_of X G a_law)
  cases e
  have cl_Block : Cls K C_Block := ⟨pg_Block, hd_Block, po_Block, sa_Block⟩
  have g_Block := PySem.W.mg_of X G aC_Block
  have cl_Row : Cls K C_Row := ⟨pg_Row, hd_Row, po_Row, sa_Row⟩
  have g_Row := PySem.W.mg_of X G aC_Row
  have F_is_among := fun_mk (st := s_is_among) l_is_among c_is_among k_is_among
  have b_is_among := F_is_among.binds (ps := ["thing", "least", "most"]) fun _ _ _ _ _ _ us hl => match us, hl with | [_, _, _], _ => rfl
  have F_Block_init := fun_mk (st := s_Block_init) l_Block_init c_Block_init k_Block_init
  have b_Block_init := F_Block_init.binds (ps := ["self", "some", "full"]) fun _ _ _ _ _ _ us hl => match us, hl with | [_, _, _], _ => rfl
  have F_Row_init := fun_mk (st := s_Row_init) l_Row_init c_Row_init k_Row_init
  have b_Row_init := F_Row_init.binds (ps := ["self"]) fun _ _ _ _ _ _ us hl => match us, hl with | [_], _ => rfl
  have F_Row_need_seat := fun_mk (st := s_Row_need_seat) l_Row_need_seat c_Row_need_seat k_Row_need_seat
  have b_Row_need_seat := F_Row_need_seat.binds (ps := ["self", "seat"]) fun _ _ _ _ _ _ us hl => match us, hl with | [_, _], _ => rfl
  have F_Row_add := fun_mk (st := s_Row_add) l_Row_add c_Row_add k_Row_add
  have b_Row_add := F_Row_add.binds (ps := ["self", "behind"]) fun _ _ _ _ _ _ us hl => match us, hl with | [_, _], _ => rfl
  have F_Row_part := fun_mk (st := s_Row_part) l_Row_part c_Row_part k_Row_part
  have b_Row_part := F_Row_part.binds (ps := ["self", "block"]) fun _ _ _ _ _ _ us hl => match us, hl with | [_, _], _ => rfl
  have F_Row_take := fun_mk (st := s_Row_take) l_Row_take c_Row_take k_Row_take
  have b_Row_take := F_Row_take.binds (ps := ["self", "seat", "is_taken"]) fun _ _ _ _ _ _ us hl => match us, hl with | [_, _, _], _ => rfl
  have F_Row_is_taken := fun_mk (st := s_Row_is_taken) l_Row_is_taken c_Row_is_taken k_Row_is_taken
  have b_Row_is_taken := F_Row_is_taken.binds (ps := ["self", "seat"]) fun _ _ _ _ _ _ us hl => match us, hl with | [_, _], _ => rfl
  have F_Row_many := fun_mk (st := s_Row_many) l_Row_many c_Row_many k_Row_many
  have b_Row_many := F_Row_many.binds (ps := ["self"]) fun _ _ _ _ _ _ us hl => match us, hl with | [_], _ => rfl
  have F_Row_all_taken := fun_mk (st := s_Row_all_taken) l_Row_all_taken c_Row_all_taken k_Row_all_taken
  have b_Row_all_taken := F_Row_all_taken.binds (ps := ["self"]) fun _ _ _ _ _ _ us hl => match us, hl with | [_], _ => rfl
  have F_Row_ahead := fun_mk (st := s_Row_ahead) l_Row_ahead c_Row_ahead k_Row_ahead
  have b_Row_ahead := F_Row_ahead.binds (ps := ["self", "seat"]) fun _ _ _ _ _ _ us hl => match us, hl with | [_, _], _ => rfl
  have F_Row_find := fun_mk (st := s_Row_find) l_Row_find c_Row_find k_Row_find
  have b_Row_find := F_Row_find.binds (ps := ["self", "place"]) fun _ _ _ _ _ _ us hl => match us, hl with | [_, _], _ => rfl
  have F_Row_is_ahead := fun_mk (st := s_Row_is_ahead) l_Row_is_ahead c_Row_is_ahead k_Row_is_ahead
  have b_Row_is_ahead := F_Row_is_ahead.binds (ps := ["self", "one", "other"]) fun _ _ _ _ _ _ us hl => match us, hl with | [_, _, _], _ => rfl
  have F_Row_order := fun_mk (st := s_Row_order) l_Row_order c_Row_order k_Row_order
  have b_Row_order := F_Row_order.binds (ps := ["self"]) fun _ _ _ _ _ _ us hl => match us, hl with | [_], _ => rfl
  have F__law_cell_at := fun_mk (st := s__law_cell_at) l__law_cell_at c__law_cell_at k__law_cell_at
  have b__law_cell_at := F__law_cell_at.binds (ps := ["_law_script", "_law_k"]) fun _ _ _ _ _ _ us hl => match us, hl with | [_, _], _ => rfl
  have F__law_whole := fun_mk (st := s__law_whole) l__law_whole c__law_whole k__law_whole
  have b__law_whole := F__law_whole.binds (ps := ["_law_found"]) fun _ _ _ _ _ _ us hl => match us, hl with | [_], _ => rfl
  have F__law_mixed := fun_mk (st := s__law_mixed) l__law_mixed c__law_mixed k__law_mixed
  have b__law_mixed := F__law_mixed.binds (ps := ["_law_cell", "_law_k"]) fun _ _ _ _ _ _ us hl => match us, hl with | [_, _], _ => rfl
  have F__law_stands := fun_mk (st := s__law_stands) l__law_stands c__law_stands k__law_stands
  have b__law_stands := F__law_stands.binds (ps := ["_law_row", "_law_plain", "_law_busy", "_law_number"]) fun _ _ _ _ _ _ us hl => match us, hl with | [_, _, _, _], _ => rfl
  have F_law := fun_mk (st := s_law) l_law c_law k_law
  have g_MOST_IN_BLOCK := PySem.W.mg_of X G ak_MOST_IN_BLOCK
  have b_len := PySem.W.mg_none_of X G z_len
  have b_int := PySem.W.mg_none_of X G z_int
  have b_bool := PySem.W.mg_none_of X G z_bool
  have b_sum := PySem.W.mg_none_of X G z_sum
  have b_isinstance := PySem.W.mg_none_of X G z_isinstance
  have b_list := PySem.W.mg_none_of X G z_list
  have b_range := PySem.W.mg_none_of X G z_range
  have b_min := PySem.W.mg_none_of X G z_min
  have b_max := PySem.W.mg_none_of X G z_max
  refine ⟨PySem.W.fnOf "law" "law" (defArgs s_law) (defBody s_law) (defScope s_law) .none kV_law dc_law pm_law an_law cd_law ct_law, fun s v => .of_eq rfl, fun base _ _ => ?_⟩
  have T : RT K mg C_Block C_Row := ⟨cl_Block, n_Block_some, n_Block_full, ⟨eo_Block, ee_Block⟩, cl_Row, n_Row_blocks, n_Row_homes, n_Row_busy, ⟨_, g_MOST_IN_BLOCK, rk_MOST_IN_BLOCK⟩, b_len, b_int, b_bool, b_sum, b_isinstance⟩
  have T1 : LT1 mg := ⟨b_len, b_int, b_bool, b_isinstance⟩
  have T2 : LT2 mg := ⟨b_len, b_int, b_bool, b_isinstance, b_list, b_range, b_min, b_max⟩
  have x_is_among := cal (x := "is_among") (PySem.W.mg_of X G a_is_among) k_is_among (ok_is_among (P := l.prog) (w := w) (base := base) F_is_among T) b_is_among
  have x_Block := mak (x := "Block") mk_Block a_Block_init i_Block_init kc_Block g_Block (ok_Block_init (P := l.prog) (w := w) (base := base) F_Block_init T) b_Block_init
  have x_Row := mak (x := "Row") mk_Row a_Row_init i_Row_init kc_Row g_Row (ok_Row_init F_Row_init T x_Block) b_Row_init
  have x_need_seat := met (m := "need_seat") cl_Row a_Row_need_seat i_Row_need_seat k_Row_need_seat (ok_Row_need_seat F_Row_need_seat T x_is_among) b_Row_need_seat
  have x_part := met (m := "part") cl_Row a_Row_part i_Row_part k_Row_part (ok_Row_part F_Row_part T x_Block) b_Row_part
  have x_add := met (m := "add") cl_Row a_Row_add i_Row_add k_Row_add (ok_Row_add F_Row_add T x_need_seat x_part) b_Row_add
  have x_take := met (m := "take") cl_Row a_Row_take i_Row_take k_Row_take (ok_Row_take F_Row_take T x_need_seat) b_Row_take
  have x_is_taken := met (m := "is_taken") cl_Row a_Row_is_taken i_Row_is_taken k_Row_is_taken (ok_Row_is_taken F_Row_is_taken T x_need_seat) b_Row_is_taken
  have x_many := met (m := "many") cl_Row a_Row_many i_Row_many k_Row_many (ok_Row_many (P := l.prog) (w := w) (base := base) F_Row_many T) b_Row_many
  have x_all_taken := met (m := "all_taken") cl_Row a_Row_all_taken i_Row_all_taken k_Row_all_taken (ok_Row_all_taken (P := l.prog) (w := w) (base := base) F_Row_all_taken T) b_Row_all_taken
  have x_ahead := met (m := "ahead") cl_Row a_Row_ahead i_Row_ahead k_Row_ahead (ok_Row_ahead F_Row_ahead T x_need_seat) b_Row_ahead
  have x_find := met (m := "find") cl_Row a_Row_find i_Row_find k_Row_find (ok_Row_find F_Row_find T x_is_among x_all_taken) b_Row_find
  have x_is_ahead := met (m := "is_ahead") cl_Row a_Row_is_ahead i_Row_is_ahead k_Row_is_ahead (ok_Row_is_ahead F_Row_is_ahead T x_need_seat) b_Row_is_ahead
  have x_order := met (m := "order") cl_Row a_Row_order i_Row_order k_Row_order (ok_Row_order (P := l.prog) (w := w) (base := base) F_Row_order T) b_Row_order
  have y_cell_at := cal (x := "_law_cell_at") (PySem.W.mg_of X G a__law_cell_at) k__law_cell_at (ok__law_cell_at (P := l.prog) (w := w) (base := base) F__law_cell_at T1) b__law_cell_at
  have y_whole := cal (x := "_law_whole") (PySem.W.mg_of X G a__law_whole) k__law_whole (ok__law_whole (P := l.prog) (w := w) (K := K) (base := base) F__law_whole T1) b__law_whole
  have y_mixed := cal (x := "_law_mixed") (PySem.W.mg_of X G a__law_mixed) k__law_mixed (ok__law_mixed (P := l.prog) (w := w) (K := K) (base := base) F__law_mixed) b__law_mixed
  have y_stands := cal (x := "_law_stands") (PySem.W.mg_of X G a__law_stands) k__law_stands (ok__law_stands F__law_stands T2 y_whole x_many x_all_taken x_ahead x_is_taken x_is_ahead x_find) b__law_stands
  exact ok_law F_law T2 y_cell_at y_whole y_mixed y_stands x_Row x_add x_take x_order x_many x_all_taken
theorem walk {l : PySem.W.OpenLaw} {q : Program} {loose : List Str} {XP : (Str → Option Value) → Heap → Prop} {YP : World → Heap → Prop} {d : DefRec} {K : Params → PySem.W.Frag} (hn : l.most = some 63) (hdf : d.params.defaults = [])
    (hY : ∀ (w : World) (h : Heap), YP w h → (K w.params).In h)
    (F : ∀ (w : World) (mg : Str → Option Value) (fa : Addr) (h : Heap), (K w.params).In h → h.Ns mainGlobals mg → mg d.name = some (.ref fa) →
      ∃ fd : FuncData, (∀ (s : Shared) (u : Value), BindsTo s fd ⟨[u], []⟩ [("_law_script", u)]) ∧ ∀ base : Heap, (K w.params).In base → base.Ns mainGlobals mg → FnOk l.prog w (K w.params) mg base CX0 5 fa fd ["_law_script"] (spLaw (K w.params))) :
    PySem.W.WalkO q loose XP YP l.row.toRowW d [] (fun f vs => PySem.call f vs) :=
  L2.walk_of (n := 63) (k := 5) (x := "_law_script") (CX := fun _ => CX0) (sp := fun w => spLaw (K w.params)) hn (by decide) hdf ⟨rfl, by decide, by decide⟩ hY F (fun _ _ a ns hl _ hS => ⟨a, ns, rfl, hS, hl, fun _ => rfl⟩) fun _ _ _ _ _ z => z
end Sm
open PySem PySem.W PyProof.Rows
set_option maxRecDepth 100000 in
set_option maxHeartbeats 0 in
theorem PySem.Challenge.cw_stickmarks_k01_seats_in_a_row_holds : PySem.Challenge.rw_stickmarks_k01_seats_in_a_row.Holds := by
  w_on; o_law; k_head; (case hw => w_witness2)
  k_fill
  refine Sm.walk (l := PySem.Challenge.rw_stickmarks_k01_seats_in_a_row) rfl rfl (fun w h Y => PySem.W.kIn_of Y) ?F
  case F =>
    intro w mg fa h KX G hmg
    refine' Sm.all_mk KX G hmg ?aC_Block ?pg_Block ?hd_Block ?po_Block ?sa_Block ?mk_Block ?kc_Block ?n_Block_some ?n_Block_full ?aC_Row ?pg_Row ?hd_Row ?po_Row ?sa_Row ?mk_Row ?kc_Row ?n_Row_blocks ?n_Row_homes ?n_Row_busy ?eo_Block ?ee_Block ?a_is_among ?l_is_among ?c_is_among ?k_is_among ?a_Block_init ?i_Block_init ?l_Block_init ?c_Block_init ?k_Block_init ?a_Row_init ?i_Row_init ?l_Row_init ?c_Row_init ?k_Row_init ?a_Row_need_seat ?i_Row_need_seat ?l_Row_need_seat ?c_Row_need_seat ?k_Row_need_seat ?a_Row_add ?i_Row_add ?l_Row_add ?c_Row_add ?k_Row_add ?a_Row_part ?i_Row_part ?l_Row_part ?c_Row_part ?k_Row_part ?a_Row_take ?i_Row_take ?l_Row_take ?c_Row_take ?k_Row_take ?a_Row_is_taken ?i_Row_is_taken ?l_Row_is_taken ?c_Row_is_taken ?k_Row_is_taken ?a_Row_many ?i_Row_many ?l_Row_many ?c_Row_many ?k_Row_many ?a_Row_all_taken ?i_Row_all_taken ?l_Row_all_taken ?c_Row_all_taken ?k_Row_all_taken ?a_Row_ahead ?i_Row_ahead ?l_Row_ahead ?c_Row_ahead ?k_Row_ahead ?a_Row_find ?i_Row_find ?l_Row_find ?c_Row_find ?k_Row_find ?a_Row_is_ahead ?i_Row_is_ahead ?l_Row_is_ahead ?c_Row_is_ahead ?k_Row_is_ahead ?a_Row_order ?i_Row_order ?l_Row_order ?c_Row_order ?k_Row_order ?a__law_cell_at ?l__law_cell_at ?c__law_cell_at ?k__law_cell_at ?a__law_whole ?l__law_whole ?c__law_whole ?k__law_whole ?a__law_mixed ?l__law_mixed ?c__law_mixed ?k__law_mixed ?a__law_stands ?l__law_stands ?c__law_stands ?k__law_stands ?a_law ?l_law ?c_law ?k_law ?ak_MOST_IN_BLOCK ?rk_MOST_IN_BLOCK ?z_len ?z_int ?z_bool ?z_sum ?z_isinstance ?z_list ?z_range ?z_min ?z_max
    (case aC_Block => k_is)
    (case pg_Block => k_is)
    (case hd_Block => k_is)
    (case po_Block => k_is)
    (case sa_Block => k_is)
    (case mk_Block => k_is)
    (case kc_Block => k_is)
    (case n_Block_some => k_is)
    (case n_Block_full => k_is)
    (case aC_Row => k_is)
    (case pg_Row => k_is)
    (case hd_Row => k_is)
    (case po_Row => k_is)
    (case sa_Row => k_is)
    (case mk_Row => k_is)
    (case kc_Row => k_is)
    (case n_Row_blocks => k_is)
    (case n_Row_homes => k_is)
    (case n_Row_busy => k_is)
    (case eo_Block => k_is)
    (case ee_Block => k_is)
    (case a_is_among => k_is)
    (case l_is_among => k_is)
    (case c_is_among => k_is)
    (case k_is_among => k_is)
    (case a_Block_init => k_is)
    (case i_Block_init => k_is)
    (case l_Block_init => k_is)
    (case c_Block_init => k_is)
    (case k_Block_init => k_is)
    (case a_Row_init => k_is)
    (case i_Row_init => k_is)
    (case l_Row_init => k_is)
    (case c_Row_init => k_is)
    (case k_Row_init => k_is)
    (case a_Row_need_seat => k_is)
    (case i_Row_need_seat => k_is)
    (case l_Row_need_seat => k_is)
    (case c_Row_need_seat => k_is)
    (case k_Row_need_seat => k_is)
    (case a_Row_add => k_is)
    (case i_Row_add => k_is)
    (case l_Row_add => k_is)
    (case c_Row_add => k_is)
    (case k_Row_add => k_is)
    (case a_Row_part => k_is)
    (case i_Row_part => k_is)
    (case l_Row_part => k_is)
    (case c_Row_part => k_is)
    (case k_Row_part => k_is)
    (case a_Row_take => k_is)
    (case i_Row_take => k_is)
    (case l_Row_take => k_is)
    (case c_Row_take => k_is)
    (case k_Row_take => k_is)
    (case a_Row_is_taken => k_is)
    (case i_Row_is_taken => k_is)
    (case l_Row_is_taken => k_is)
    (case c_Row_is_taken => k_is)
    (case k_Row_is_taken => k_is)
    (case a_Row_many => k_is)
    (case i_Row_many => k_is)
    (case l_Row_many => k_is)
    (case c_Row_many => k_is)
    (case k_Row_many => k_is)
    (case a_Row_all_taken => k_is)
    (case i_Row_all_taken => k_is)
    (case l_Row_all_taken => k_is)
    (case c_Row_all_taken => k_is)
    (case k_Row_all_taken => k_is)
    (case a_Row_ahead => k_is)
    (case i_Row_ahead => k_is)
    (case l_Row_ahead => k_is)
    (case c_Row_ahead => k_is)
    (case k_Row_ahead => k_is)
    (case a_Row_find => k_is)
    (case i_Row_find => k_is)
    (case l_Row_find => k_is)
    (case c_Row_find => k_is)
    (case k_Row_find => k_is)
    (case a_Row_is_ahead => k_is)
    (case i_Row_is_ahead => k_is)
    (case l_Row_is_ahead => k_is)
    (case c_Row_is_ahead => k_is)
    (case k_Row_is_ahead => k_is)
    (case a_Row_order => k_is)
    (case i_Row_order => k_is)
    (case l_Row_order => k_is)
    (case c_Row_order => k_is)
    (case k_Row_order => k_is)
    (case a__law_cell_at => k_is)
    (case l__law_cell_at => k_is)
    (case c__law_cell_at => k_is)
    (case k__law_cell_at => k_is)
    (case a__law_whole => k_is)
    (case l__law_whole => k_is)
    (case c__law_whole => k_is)
    (case k__law_whole => k_is)
    (case a__law_mixed => k_is)
    (case l__law_mixed => k_is)
    (case c__law_mixed => k_is)
    (case k__law_mixed => k_is)
    (case a__law_stands => k_is)
    (case l__law_stands => k_is)
    (case c__law_stands => k_is)
    (case k__law_stands => k_is)
    (case a_law => k_is)
    (case l_law => k_is)
    (case c_law => k_is)
    (case k_law => k_is)
    (case ak_MOST_IN_BLOCK => k_is)
    (case rk_MOST_IN_BLOCK => exact ⟨_, rfl⟩)
    (case z_len => k_is)
    (case z_int => k_is)
    (case z_bool => k_is)
    (case z_sum => k_is)
    (case z_isinstance => k_is)
    (case z_list => k_is)
    (case z_range => k_is)
    (case z_min => k_is)
    (case z_max => k_is)
#print axioms PySem.Challenge.cw_stickmarks_k01_seats_in_a_row_holds
