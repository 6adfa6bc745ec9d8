import PyProof.Rows.All
import Wide.All
import OpenK.AllK
import Wide.FinOn
import PyProof.EqAt
import PyProof.EqKinds
import PyProof.TupleCall
import KE.KOpsOwn
import HandS.ForMost
import HandS.More
import HandS.Star
import HandS.SlotsOwn
import HandS.OwnEq
import PyProof.InstEq
import HandS.TupMul
import HandS.Exc
import HandS.TryMany
import KE.KExcSuper
import HandS.ExcSuper
import PySem.Challenge.RW_owedanswers_k42_whole_pools_by_a_model
import HandS.TryOnly
import HandS.ExcOwn
import HandS.WordsExc
import HandS.Defaults
import HandS.MakeKwOnly
import HandS.Property
import HandS.NoneIn
import HandS.IsInst
import HandS.Zip
import HandS.TupAny
import HandS.Small
import HandS.Walk
import HandS.HeadHook1
import HandS.HeadHook2
import KE.KStateDown
import Lean
import HandS.Head0
import HandS.Head1
import HandS.Head2
import HandS.HeadEnd
set_option Elab.async false
set_option linter.all false
set_option maxRecDepth 100000
set_option maxHeartbeats 4000000
/-! Own rules for the law on pools: special methods of own classes, lists of instances, small tuples. -/
namespace OW
open PySem PySem.Spec PyProof.Rows L2

section
variable {X : Cx} {CX : CXT} {pins : List (Addr × Obj)} {σ : L2.St} {H : Hp} {s : Shared} {a C dx g : Addr} {n : Nat} {sp : Sp} {E : XK}

theorem inst_of {fs : List (Str × V)} (I : Inv X pins σ H s) (h : H a = some (.ins C dx fs)) : ∃ od, PySem.W.InstAt s.heap a (PySem.W.instObj C dx) C (some od) := by
  obtain ⟨mA, J, _⟩ := ins_get I.hok h
  obtain ⟨od, J, _⟩ := J.look
  exact ⟨od, J⟩

/-- len(x), x an instance whose class has its own length -/
def rLenO (C : Addr) (sp : Sp) (E : XK) : List V → Hp → VK → Prop := fun xs H Q => ∃ a dx fs, xs = [V.ref a] ∧ H a = some (.ins C dx fs) ∧ sp [.ref a] H (fun z H' => ∃ i : Int, z = .int i ∧ (0 ≤ i ∧ i < 2 ^ 63) ∧ Q z H') E
theorem call_lenO (hs : PySem.W.findIn X.K (.ref C) "__len__" = some (some (.ref g))) (hf : PySem.W.isFn X.K (.ref g) = true) (F : FnR X.prog X.w X.K X.mg X.base CX n g sp) (hr : Room (n + 1) X.A) (hx : Passes CX X E) : CallR X (.builtin "len") (rLenO C sp E) := by
  intro pins s σ H xs us Q I r h
  obtain ⟨a, dx, fs, rfl, ha, q⟩ := h
  obtain ⟨u, rfl, ru⟩ := r.one
  cases (show u = Value.ref a from ru)
  obtain ⟨od, J⟩ := inst_of I ha
  obtain ⟨m, hF⟩ := I.fr
  refine PySem.W.len_K hF I.ok.mod.kin J hs hf (wpAny_mono (wpAny_call (SlX.run_at (us := [.ref a]) (ws := [.ref a]) F hr.in1 I.env0.in1 hx I (.cons rfl .nil) q)) (fun w s' z => ?_) fun _ _ x => x)
  obtain ⟨z', H', I', rz, i, ei, hi, qz⟩ := z
  subst ei
  obtain ⟨t, e⟩ := (show ∃ t, w = Value.int i t from rz)
  subst e
  exact ⟨hi, .int i, H', I'.tok _, ⟨_, rfl⟩, qz⟩

/-- v in x, v not in x, x an instance whose class has its own test -/
def rInO (C : Addr) (neg : Bool) (sp : Sp) (E : XK) : R2 := fun y x H Q => ∃ a dx fs, x = V.ref a ∧ H a = some (.ins C dx fs) ∧ sp [.ref a, y] H (fun z H' => ∃ b : Bool, z = .bl b ∧ Q (.bl (if neg then !b else b)) H') E
theorem op_inO (hs : PySem.W.findIn X.K (.ref C) "__contains__" = some (some (.ref g))) (hf : PySem.W.isFn X.K (.ref g) = true) (F : FnR X.prog X.w X.K X.mg X.base CX n g sp) (hr : Room n X.A) (hx : Passes CX X E) : OpR X (compareOp .In) (rInO C false sp E) := by
  intro pins s σ H y x v u Q I ry rx h
  obtain ⟨a, dx, fs, rfl, ha, q⟩ := h
  cases (show u = Value.ref a from rx)
  obtain ⟨od, J⟩ := inst_of I ha
  obtain ⟨m, hF⟩ := I.fr
  refine PySem.W.in_K hF I.ok.mod.kin J hs hf (wpAny_mono (wpAny_call (run_fnR (us := [.ref a, v]) (vs := [.ref a, y]) F hr hx I (.cons rfl (.cons ry .nil)) q)) (fun w s' z => ?_) fun _ _ x => x)
  obtain ⟨z', H', I', rz, b, eb, qz⟩ := z
  subst eb
  cases (show w = Value.bool b from rz)
  exact wpAny_truthy_bool ⟨.bl b, H', I', rfl, qz⟩
theorem op_notInO (hs : PySem.W.findIn X.K (.ref C) "__contains__" = some (some (.ref g))) (hf : PySem.W.isFn X.K (.ref g) = true) (F : FnR X.prog X.w X.K X.mg X.base CX n g sp) (hr : Room n X.A) (hx : Passes CX X E) : OpR X (compareOp .NotIn) (rInO C true sp E) := by
  intro pins s σ H y x v u Q I ry rx h
  obtain ⟨a, dx, fs, rfl, ha, q⟩ := h
  cases (show u = Value.ref a from rx)
  obtain ⟨od, J⟩ := inst_of I ha
  obtain ⟨m, hF⟩ := I.fr
  refine PySem.W.notIn_K hF I.ok.mod.kin J hs hf (wpAny_mono (wpAny_call (run_fnR (us := [.ref a, v]) (vs := [.ref a, y]) F hr hx I (.cons rfl (.cons ry .nil)) q)) (fun w s' z => ?_) fun _ _ x => x)
  obtain ⟨z', H', I', rz, b, eb, qz⟩ := z
  subst eb
  cases (show w = Value.bool b from rz)
  exact wpAny_truthy_bool ⟨.bl (!b), H', I', rfl, qz⟩

/-- x[i], x an instance whose class has its own subscript -/
def rIxO (C : Addr) (sp : Sp) (E : XK) : R2 := fun x y H Q => ∃ a dx fs, x = V.ref a ∧ H a = some (.ins C dx fs) ∧ sp [.ref a, y] H Q E
/-- what stands as the index of a subscript that an own def answers -/
def OwnIx (b : Expr) : Prop := ∀ o i, subscripted b true o i = runValue (.builtin "lifetime.subscript" ⟨[o, i], []⟩)
theorem pe_ixO {e b : Expr} {ta tb : TE} {pos : Pos} (hs : PySem.W.findIn X.K (.ref C) "__getitem__" = some (some (.ref g))) (hf : PySem.W.isFn X.K (.ref g) = true) (hn : PySem.W.fnIn X.K g = true) (F : FnR X.prog X.w X.K X.mg X.base CX n g sp) (hr : Room (n + 1) X.A) (hx : Passes CX X E)
    (ha : PE X e ta) (hb : PE X b tb) (hw : OwnIx b) : PE X (.Subscript e b pos) (tOp (rIxO C sp E) ta tb) := by
  refine ⟨fun pins s σ H Q I h => ?_⟩
  refine Subscript_ (binT ha hb I h fun v u s2 x y H2 I2 rx ry q => ?_)
  obtain ⟨a, dx, fs, rfl, ha, q⟩ := q
  cases (show v = Value.ref a from rx)
  obtain ⟨od, J⟩ := inst_of I2 ha
  obtain ⟨m, hF⟩ := I2.fr
  exact PySem.W.sub_K hF I2.ok.mod.kin J hs hn hf (wpAny_call (SlX.run_at (us := [.ref a, u]) (ws := [.ref a, y]) F hr.in1 I2.env0.in1 hx I2 (.cons rfl (.cons ry .nil)) q)) (hw _ _)

/-- x[i] = v, x an instance whose class has its own store -/
def rSetO (C : Addr) (sp : Sp) (E : XK) : TSet := fun o i v H Q => ∃ a dx fs, o = V.ref a ∧ H a = some (.ins C dx fs) ∧ sp [.ref a, i, v] H (fun _ H' => Q H') E
theorem set_O (hq : PySem.W.noSeq X.K C = true) (hs : PySem.W.findIn X.K (.ref C) "__setitem__" = some (some (.ref g))) (hf : PySem.W.isFn X.K (.ref g) = true) (F : FnR X.prog X.w X.K X.mg X.base CX n g sp) (hr : Room n X.A) (hx : Passes CX X E) : PSet X (rSetO C sp E) := by
  intro pins s σ H o i v ov iv u Q I ro ri rv h
  obtain ⟨a, dx, fs, rfl, ha, q⟩ := h
  cases (show ov = Value.ref a from ro)
  obtain ⟨od, J⟩ := inst_of I ha
  obtain ⟨m, hF⟩ := I.fr
  refine PySem.W.ksp_setItem hF I.ok.mod.kin J hq hs hf (wpAny_mono (wpAny_call (run_fnR (us := [.ref a, iv, u]) (vs := [.ref a, i, v]) F hr hx I (.cons rfl (.cons ri (.cons rv .nil))) q)) (fun w s' z => ?_) fun _ _ x => x)
  obtain ⟨z', H', I', rz, qz⟩ := z
  exact ⟨H', I', qz⟩
end
end OW

set_option maxHeartbeats 4000000
/-! Own rules, second part: membership among instances, a list lengthened by a tuple, a list against the empty list, a tuple taken once or not at all. -/
namespace OW
open PySem PySem.Spec PyProof.Rows L2

/-- the class at C has no equality of its own (nothing between it and object) -/
def cmpIn (K : PySem.W.Frag) (C : Addr) : Bool := match K.lookup C with
  | some ⟨.type "type", _, .cls cd, sl⟩ => (match cd.mro, sl.toList with
    | [.ref D, .type "object"], [_, _, _, _, some (.builtin _), _] => D == C && !cd.hasDel && PySem.W.nsOkIn K cd.ns && PySem.W.nsIn K cd.ns "__eq__" == some none && PySem.W.nsIn K cd.ns "__ne__" == some none
    | _, _ => false)
  | _ => false

theorem cmpInst_in {K : PySem.W.Frag} {h : Heap} {C x : Addr} {ox : Obj} {od : Option Obj} (X : K.In h) (q : cmpIn K C = true) (I : PySem.W.InstAt h x ox C od) : h.CmpInst x C [.type "object"] := by
  unfold cmpIn at q
  split at q
  · rename_i dd cd sl ho
    split at q
    · rename_i D k0 k1 k2 k3 n k5 hm hs
      simp only [Bool.and_eq_true, beq_iff_eq, Bool.not_eq_true'] at q
      obtain ⟨⟨⟨⟨rfl, hdel⟩, hok⟩, he⟩, hne⟩ := q
      obtain ⟨nm, bs, mro, ns, qn, hd, sn, sub, ab, col, del⟩ := cd
      dsimp only at hm hdel hok he hne
      subst hm
      subst hdel
      have hsl : sl = #[k0, k1, k2, k3, some (.builtin n), k5] := by
        obtain ⟨l⟩ := sl
        simp only at hs
        rw [hs]
      subst hsl
      exact ⟨ox, nm, qn, ns, bs, hd, sn, sub, ab, col, dd, k0, k1, k2, k3, k5, n, h.nsMap ns, I.1, I.cls, X _ _ ho, .of_isNs (PySem.W.isNs_of_in X hok), PySem.W.nsMap_none_of_in X hok he, PySem.W.nsMap_none_of_in X hok hne⟩
    · cases q
  · cases q

section
variable {X : Cx} {pins : List (Addr × Obj)} {σ : L2.St} {H : Hp} {s : Shared} {a b C dx dy : Addr}

theorem eqAt_inst {A : Around} {fs gs : List (Str × V)} (I : Inv X pins σ H s) (q : cmpIn X.K C = true) (hu : A.units < cLine) (ha : H a = some (.ins C dx fs)) (hb : H b = some (.ins C dy gs)) : SeqAt.EqAt A s (.ref a) (.ref b) (decide (a = b)) := by
  by_cases e : a = b
  · subst e
    rw [decide_eq_true rfl]
    exact SeqAt.EqAt.same _
  · rw [decide_eq_false e]
    refine SeqAt.EqAt.of_refs e fun prog w E Q h => ?_
    obtain ⟨od, J⟩ := inst_of I ha
    obtain ⟨od', J'⟩ := inst_of I hb
    have M := cmpInst_in I.kIn q J
    have M' := cmpInst_in I.kIn q J'
    obtain ⟨hp, g, d, t, os⟩ := s
    exact richCompare_eq_other F.cmp_object F.cmp_object M M' e hu h

/-- x in l, x not in l, l a list of instances of one class, seen by identity -/
def rInI (K : PySem.W.Frag) (neg : Bool) : R2 := fun x y H Q => ∃ (C p a : Addr) (bs : List Addr), x = .ref a ∧ y = .ref p ∧ SqL K H p (bs.map V.ref) ∧ cmpIn K C = true ∧ (∃ dx fs, H a = some (.ins C dx fs)) ∧ (∀ b ∈ bs, ∃ dx fs, H b = some (.ins C dx fs)) ∧
  Q (.bl (if neg then !decide (a ∈ bs) else decide (a ∈ bs))) H

theorem vals_refs : ∀ {bs : List Addr} {us : List Value}, Vals (bs.map V.ref) us → us = bs.map Value.ref
  | [], _, .nil => rfl
  | b :: bs, _, .cons r t => by
    have e := vals_refs (bs := bs) t
    rw [e]
    cases (show _ = Value.ref b from r)
    rfl
def isRef (a : Addr) : Value → Bool
  | .ref b => decide (b = a)
  | _ => false
theorem any_refs (a : Addr) : ∀ bs : List Addr, (bs.map Value.ref).any (isRef a) = decide (a ∈ bs)
  | [] => by simp
  | b :: bs => by
    rw [List.map_cons, List.any_cons, any_refs a bs]
    by_cases e : b = a
    · subst e
      simp [isRef]
    · have e' : ¬ a = b := fun z => e z.symm
      simp [isRef, e, e']
theorem mem_inst {A : Around} {bs : List Addr} {fs : List (Str × V)} (I : Inv X pins σ H s) (q : cmpIn X.K C = true) (hu : A.units < cLine) (ha : H a = some (.ins C dx fs)) (hb : ∀ b ∈ bs, ∃ dx fs, H b = some (.ins C dx fs)) :
    ∀ y ∈ (bs.map Value.ref).toArray, SeqAt.EqAt A s y (.ref a) (isRef a y) := fun y hy => by
  have hy' : y ∈ bs.map Value.ref := by simpa using hy
  obtain ⟨b, hbm, rfl⟩ := List.mem_map.mp hy'
  obtain ⟨dy, gs, hbi⟩ := hb b hbm
  exact eqAt_inst I q hu hbi ha
theorem op_inI (hu : X.A.units + 1 < cLine) : OpR X (compareOp .In) (rInI X.K false) := by
  intro pins s σ H x y v u Q I rx ry h
  obtain ⟨C, p, a, bs, rfl, rfl, hl, q, ⟨dx, fs, ha⟩, hb, qq⟩ := h
  cases (show u = Value.ref p from ry)
  cases (show v = Value.ref a from rx)
  obtain ⟨its, r, pl, hz⟩ := I.list hl
  cases vals_refs r
  refine SeqAt.in_listAt (isRef a) pl.isList (mem_inst I q (show X.A.in1.units < cLine from hu) ha hb) ⟨.bl _, H, I, rfl, ?_⟩
  rw [show (bs.map Value.ref).toArray.any (isRef a) = (bs.map Value.ref).any (isRef a) by simp, any_refs]
  exact qq
theorem op_notInI (hu : X.A.units + 1 < cLine) : OpR X (compareOp .NotIn) (rInI X.K true) := by
  intro pins s σ H x y v u Q I rx ry h
  obtain ⟨C, p, a, bs, rfl, rfl, hl, q, ⟨dx, fs, ha⟩, hb, qq⟩ := h
  cases (show u = Value.ref p from ry)
  cases (show v = Value.ref a from rx)
  obtain ⟨its, r, pl, hz⟩ := I.list hl
  cases vals_refs r
  refine SeqAt.notIn_listAt (isRef a) pl.isList (mem_inst I q (show X.A.in1.units < cLine from hu) ha hb) ⟨.bl _, H, I, rfl, ?_⟩
  rw [show (bs.map Value.ref).toArray.any (isRef a) = (bs.map Value.ref).any (isRef a) by simp, any_refs]
  exact qq

/-- l.extend(t), t a tuple -/
def rExtT : V → List V → Hp → VK → Prop := fun x vs H Q => ∃ l b xs zs, x = .ref l ∧ vs = [.ref b] ∧ H l = some (.lst xs) ∧ H b = some (.tup zs) ∧ xs.length + zs.length ≤ sizeLine ∧ Q .non (upd H l (.lst (xs ++ zs)))

/-- l == m where one of the two lists is empty (what they hold is not looked at) -/
def rEqNil (K : PySem.W.Frag) : R2 := fun x y H Q => ∃ l b xs, x = .ref l ∧ y = .ref b ∧ SqL K H l xs ∧ SqL K H b [] ∧ Q (.bl xs.isEmpty) H
theorem op_eqNil (hu : X.A.units < cLine) : OpR X (compareOp .Eq) (rEqNil X.K) := by
  intro pins s σ H x y v u Q I rx ry h
  obtain ⟨l, b, xs, rfl, rfl, hl, hb, q⟩ := h
  cases (show v = Value.ref l from rx)
  cases (show u = Value.ref b from ry)
  obtain ⟨its, r, pl, _⟩ := I.list hl
  obtain ⟨its2, r2, pl2, _⟩ := I.list hb
  cases r2
  show wpAny _ _ (richCompare .Eq (.ref l) (.ref b)) _ _ _
  cases xs with
  | nil =>
    cases r
    exact SeqAt.RcAt.lists (A := X.A) (e := fun _ => true) pl.isList pl2.isList rfl hu (fun j h1 h2 => absurd h1 (by simp)) X.prog X.w X.xe _ ⟨.bl true, H, I, rfl, q⟩
  | cons y ys =>
    cases r with
    | cons ry' rt =>
      exact SeqAt.RcAt.lists_lengths (A := X.A) pl.isList pl2.isList (by simp) hu X.prog X.w X.xe _ ⟨.bl false, H, I, rfl, q⟩

/-- t == u where u is the empty tuple -/
def rEqNilT (K : PySem.W.Frag) : R2 := fun x y H Q => ∃ l b xs, x = .ref l ∧ y = .ref b ∧ SqT K H l xs ∧ SqT K H b [] ∧ Q (.bl xs.isEmpty) H
theorem op_eqNilT (hu : X.A.units < cLine) : OpR X (compareOp .Eq) (rEqNilT X.K) := by
  intro pins s σ H x y v u Q I rx ry h
  obtain ⟨l, b, xs, rfl, rfl, hl, hb, q⟩ := h
  cases (show v = Value.ref l from rx)
  cases (show u = Value.ref b from ry)
  obtain ⟨its, r, pl, _⟩ := I.tuple hl
  obtain ⟨its2, r2, pl2, _⟩ := I.tuple hb
  cases r2
  show wpAny _ _ (richCompare .Eq (.ref l) (.ref b)) _ _ _
  have z := SeqAt.RcAt.tuples (A := X.A) (s := s) (e := fun _ => true) pl pl2 hu (fun j h1 h2 => absurd h2 (by simp)) X.prog X.w X.xe (EP X pins σ Q)
  refine z ?_
  cases xs with
  | nil =>
    cases r
    exact ⟨.bl true, H, I, rfl, q⟩
  | cons y ys =>
    cases r with
    | cons ry' rt => exact ⟨.bl false, H, I, rfl, q⟩

/-- o.m() by a positional promise -/
theorem pe_methR0 {C f : Addr} {CX : CXT} {k : Nat} {m : Str} {sp : Sp} {E : XK} {o : Expr} {ta : TE} {apos pos : Pos} {pl : Sem Bool} (he : PE X o ta) (c : Cls X.K C) (hm : Meth X.K C m f)
    (F : FnR X.prog X.w X.K X.mg X.base CX k f sp) (hr : Room k X.A) (hx : Passes CX X E)
    (ht : eval (.Call (.Attribute o m apos) [] [] pos) X.env = (do
      let ov ← eval o X.env
      standAt apos.atName
      let (f, first) ← holding [ov] (getMethod ov m pl)
      callWith pos f first (backTo pos (starEach [] X.env)) (backToKw pos (keywordEach [] X.env))) := by rfl) :
    PE X (.Call (.Attribute o m apos) [] [] pos) (tMethR C m sp E ta tNil) := by
  refine ⟨fun pins s σ H Q I h => ?_⟩
  refine PySem.W.methodCall_KW (pl := pl) (thn (he.run pins s σ H _ I h) fun u s1 ⟨x, H1, I1, rx, a, dx, fs, ex, ea, l, q⟩ => ?_) ht
  subst ex
  obtain rfl : u = Value.ref a := rx
  refine getmeth_ok I1 ea c hm l ?_
  exact PySem.W.callWith_K0 (first := [.ref a]) I1.kIn hm.kp (wpAny_call (run_fnR (us := [.ref a]) (vs := [.ref a]) F hr hx I1 (.cons rfl .nil) q))

/-- t * 0, t * 1 -/
def rRep01 (K : PySem.W.Frag) : R2 := fun x y H Q => ∃ l xs, x = .ref l ∧ SqT K H l xs ∧ xs ≠ [] ∧ ((y = .int 1 ∧ Q (.ref l) H) ∨ (y = .int 0 ∧ ∀ p, H p = none → Q (.ref p) (upd H p (.tup []))))
theorem tuple_mul1 (l : Addr) (items : Array Value) (n : Nat) (dd : Option Addr) (sl : Array (Option Value)) (u : Tok) :
    Meets (Builtin.«tuple.__mul__» ⟨[.ref l, .int 1 u], []⟩) (fun _ R s => s.heap.get? l = some { cls := .type "tuple", dict := dd, data := .seq items n, slots := sl } ∧ R (.ok (.ret (Value.ref l))) s) :=
  .of_wp fun prog w A R s h => by
    obtain ⟨hp, g, d, tk, os⟩ := s
    obtain ⟨hl, h⟩ := h
    have f1 := AutoSeq1.idx_int
    have c1 : (items.isEmpty || ((1 : Int) == 1)) = true := by simp
    wp_walk using wpAny_loadPart' hl
    repeat (first
      | (refine wpAny_ite_false (decide_eq_false (by decide)) ?_; wp_walk using wpAny_loadPart' hl)
      | (refine wpAny_ite_true (decide_eq_true c1) ?_; wp_walk using wpAny_loadPart' hl))
    exact ⟨_, rfl, h⟩
theorem tuple_mul0 (l : Addr) (items : Array Value) (n : Nat) (dd : Option Addr) (sl : Array (Option Value)) (u : Tok) (c1 : (items.isEmpty || ((0 : Int) == 1)) = false) :
    Meets (Builtin.«tuple.__mul__» ⟨[.ref l, .int 0 u], []⟩) (fun _ R s => s.heap.get? l = some { cls := .type "tuple", dict := dd, data := .seq items n, slots := sl } ∧
      R (.ok (.ret (Value.ref s.heap.objs.size))) { s with heap := s.heap.push { cls := Value.type "tuple", data := Data.seq #[] }, toks := s.toks }) :=
  .of_wp fun prog w A R s h => by
    obtain ⟨hp, g, d, tk, os⟩ := s
    obtain ⟨hl, h⟩ := h
    have f1 := AutoSeq1.idx_int
    have c2 : (decide ((0 : Int) ≤ 0) || items.isEmpty) = true := by simp
    wp_walk using wpAny_loadPart' hl
    repeat (first
      | (refine wpAny_ite_false (decide_eq_false (by decide)) ?_; wp_walk using wpAny_loadPart' hl)
      | (refine wpAny_ite_false (decide_eq_false (by rw [c1]; exact Bool.false_ne_true)) ?_; wp_walk using wpAny_loadPart' hl)
      | (refine wpAny_ite_true (decide_eq_true c2) ?_; wp_walk using wpAny_loadPart' hl))
    exact ⟨_, rfl, h⟩
theorem op_rep01 : OpR X (binaryOp .Mult) (rRep01 X.K) := by
  intro pins s σ H x y v u Q I rx ry h
  obtain ⟨l, xs, rfl, hT, hne, h⟩ := h
  cases (show v = Value.ref l from rx)
  obtain ⟨its, r, ⟨⟨cls, dd, data, sl⟩, ho, hc, n, hd⟩, hs⟩ := I.tuple hT
  simp only at hc hd
  subst hc hd
  have hi : its.toArray.isEmpty = false := by
    cases r with
    | nil => exact absurd rfl hne
    | cons _ _ => rfl
  rcases h with ⟨rfl, q⟩ | ⟨rfl, q⟩
  · obtain ⟨t, rfl⟩ := ry
    exact wpAny_binaryOp_repeat_ref (T := "tuple") (U := "int") (by decide) ⟨_, ho, rfl⟩ (fun s' => typeIs_int s' 1 t) noFill_tuple_mul F.fills_int_mul F.slot_int_rmul repeat_tuple F.slot_int_index.lookup
      (call_meets F.slot_int_rmul (typeIs_int s 1 t) F.entry_int_rmul (F.args_int_rmul_2 _ _) (int_rmul_tuple 1 t l its.toArray n dd sl)
        ⟨ho, rfl, ⟨_, ho, rfl⟩, call_meets F.slot_tuple_mul ⟨_, ho, rfl⟩ F.entry_tuple_mul (F.args_tuple_mul_2 _ _) (tuple_mul1 l its.toArray n dd sl t) ⟨ho, ⟨.ref l, H, I, rfl, q⟩⟩⟩)
  · obtain ⟨t, rfl⟩ := ry
    refine wpAny_binaryOp_repeat_ref (T := "tuple") (U := "int") (by decide) ⟨_, ho, rfl⟩ (fun s' => typeIs_int s' 0 t) noFill_tuple_mul F.fills_int_mul F.slot_int_rmul repeat_tuple F.slot_int_index.lookup
      (call_meets F.slot_int_rmul (typeIs_int s 0 t) F.entry_int_rmul (F.args_int_rmul_2 _ _) (int_rmul_tuple 0 t l its.toArray n dd sl)
        ⟨ho, rfl, ⟨_, ho, rfl⟩, call_meets F.slot_tuple_mul ⟨_, ho, rfl⟩ F.entry_tuple_mul (F.args_tuple_mul_2 _ _) (tuple_mul0 l its.toArray n dd sl t (by rw [hi]; rfl)) ⟨ho, ?_⟩⟩)
    refine ⟨.ref s.heap.objs.size, _, I.laid (t' := s.toks) (o := .tup []) (fun b ob q => Heap.get?_push_of_some _ q) (Nat.le_refl _) ?_, rfl, q _ (I.hok.fresh (Nat.le_refl _))⟩
    exact ⟨Nat.zero_le _, [], .nil, ⟨_, Heap.get?_push_size _ rfl, rfl, _, rfl⟩⟩

theorem extend_tup (l : Addr) (items : Array Value) (n : Nat) (b : Addr) (items2 : Array Value) (n2 : Nat) (dd : Option Addr) (sl : Array (Option Value)) (h0 : ¬(!items.isEmpty && Builtin.List.listTooLong (items.size + items2.size)) = true) (h1 : items.size ≤ sizeLine) (h2 : items.size + items2.size ≤ sizeLine + 1) :
    Meets (Builtin.«list.extend» ⟨[.ref l, .ref b], []⟩) (fun _ R s => s.heap.get? l = some { cls := .type "list", dict := none, data := .seq items n, slots := #[] } ∧ s.heap.get? b = some { cls := .type "tuple", dict := dd, data := .seq items2 n2, slots := sl } ∧
      R (.ok (.ret Value.none)) { s with heap := s.heap.update l (Obj.mapSeq fun x => x ++ items2), toks := s.toks }) :=
  .of_wp fun prog w A R s h => by
    obtain ⟨hp, g, d, tk, os⟩ := s
    obtain ⟨hl, hb, h⟩ := h
    have f1 := AutoSeq1.idx_int
    have f2 := AutoSeq1.sub_tuple_tuple
    have f3 := AutoSeq1.sub_list_list
    have f4 := AutoSeq1.sub_tuple_list
    have f5 := AutoSeq1.sub_list_tuple
    have hz' : (items ++ items2).size ≤ sizeLine + 1 := by
      rw [Array.size_append]
      exact h2
    wp_walk using (wpAny_updateSeq hl rfl (hz := h1) (_hz' := hz')), wpAny_loadPart' hl, wpAny_loadPart' hb
    exact ⟨_, rfl, h⟩
theorem mt_extT : MtM X "list.extend" rExtT := by
  intro pins s σ H x vs v us Q I rx rv h
  obtain ⟨l, b, xs, zs, rfl, rfl, hH, hB, hz, q⟩ := h
  cases (show v = Value.ref l from rx)
  obtain ⟨u, rfl, ru⟩ := rv.one
  cases (show u = Value.ref b from ru)
  obtain ⟨z, its, n, r, hl, e⟩ := I.lstM hH
  obtain ⟨z2, its2, r2, ⟨⟨cls, dd, data, sl⟩, ho, hc, n2, hd⟩⟩ := I.hok b _ hB
  simp only at hc hd
  subst hc hd
  have hl2 := r2.length
  have hsz : its.toArray.size + its2.toArray.size ≤ sizeLine := by
    rw [List.size_toArray, List.size_toArray]
    omega
  have hlong : ¬ (!its.toArray.isEmpty && Builtin.List.listTooLong (its.toArray.size + its2.toArray.size)) = true := by
    rw [notLongL hsz, Bool.and_false]
    exact Bool.false_ne_true
  refine call_meets F.slot_list_extend ⟨_, e, rfl⟩ F.entry_list_extend (F.args_list_extend_2 _ _) (extend_tup l its.toArray n b its2.toArray n2 dd sl hlong (by rw [List.size_toArray]; omega) (by omega)) ⟨e, ho, ?_⟩
  refine ⟨.non, _, I.lset (its' := its ++ its2) hH e (by simp) (r.append r2) ?_, rfl, q⟩
  rw [List.length_append]
  omega
end
end OW

set_option maxHeartbeats 4000000
/-! Own rule: several except clauses, each of which names its exception (by one and the same local name). -/
namespace OW
open PySem PySem.Spec PyProof.Rows L2

/-- the ends of a suite at whose end the name in slot i is gone -/
abbrev goneAt (i : Nat) (D : Ends) : Ends := { nx := fun σ' H' => D.nx (σ'.set i none) H', rt := D.rt, bk := fun σ' H' => D.bk (σ'.set i none) H', ct := fun σ' H' => D.ct (σ'.set i none) H' }
/-- what the clauses wish, in turn -/
def wManyAs (K : PySem.W.Frag) (i : Nat) (Wout : WX) (D : Ends) : List (Value × (Addr → Value → Option Addr → TS)) → WX
  | [] => Wout
  | (c, ts) :: r => fun cls d σ H => ∃ b, PySem.W.exmOne K cls c = some b ∧ (b = true → ∀ a, H a = none → ts a cls d (goneAt i D) (σ.set i (some (.ref a))) H) ∧ (b = false → wManyAs K i Wout D r cls d σ H)
inductive HdsAs (X : Cx) (n : Str) : List ExceptHandler → List (Value × (Addr → Value → Option Addr → TS)) → Prop
  | nil : HdsAs X n [] []
  | cons {x : Str} {c : Value} {ts : Addr → Value → Option Addr → TS} {b₀ : Stmt} {suite : List Stmt} {np pos' : Pos} {hds : List ExceptHandler} {l : List (Value × (Addr → Value → Option Addr → TS))} (hc : Names X x c)
      (hsu : ∀ (a : Addr) (oe : Obj) (cls : Value) (d : Option Addr) (pn : List (Addr × Obj)), Zc cls d oe → (∃ vs, oe.data = .fields vs) → PSs (X.suite a ((a, oe) :: pn)) (b₀ :: suite) (ts a cls d)) (r : HdsAs X n hds l) :
      HdsAs X n (.ExceptHandler (some (.Name x np)) (some n) (b₀ :: suite) pos' :: hds) ((c, ts) :: l)
section
variable {X : Cx} {n : Str} {i : Nat} {body : List Stmt} {h₀ : ExceptHandler} {hds : List ExceptHandler} {l : List (Value × (Addr → Value → Option Addr → TS))} {pos : Pos} {tb : WX → TS} {Wout : WX}
theorem ps_try_manyAs (hs : X.stack = X.env :: X.outer) (hf : X.env.frame = some X.env.locals) (hN : X.N.Nodup) (hi : X.N[i]? = some n) (hln : X.env.kindOf n = some .local) (tk : Takes X Wout)
    (hb : ∀ (W : WX) (pn : List (Addr × Obj)) (xe : Value → Shared → Prop), Takes (X.tr pn xe) W → PassesOwn (model X.prog X.w) X.A X.env xe → PSs (X.tr pn xe) body (tb W))
    (hh : HdsAs X n (h₀ :: hds) l) : PS X (.Try body (h₀ :: hds) [] [] pos) (fun D σ H => tb (wManyAs X.K i Wout D l) D σ H) := by
  refine ⟨fun pins s σ H D I h => ?_⟩
  have ok := I.ok
  have hfr : X.A.frames = some (X.env :: X.outer) := by
    rw [ok.frames, hs]
  have hloc : Loc X.env.scope n := .inl hln
  refine wpAny_Try_except ?_
  refine wpAny_mono ((hb (wManyAs X.K i Wout D l) (X.pn ++ pins) (fun e s₁ => wpAny (model X.prog X.w) X.A (noteFrame e X.env) (fun _ s₂ => wpAny (model X.prog X.w) X.A (setFlight e none) (fun _ s₃ =>
    wpAny (model X.prog X.w) X.A (handleBy e X.env (h₀ :: hds)) (SP X pins D) X.xe s₃) X.xe s₂) X.xe s₁) (fun u s' xx => ?_) PassesOwn.looking).run [] s σ H D (I.toTry _) h) (fun f s1 hsp => ?_) (fun e s1 he => he)
  · obtain ⟨a, B, sI, pins', σ', H', cls, d, rfl, J', nb, up, sky, na, os, ag, w⟩ := xx
    have J : Inv X pins σ' H' sI := J'.ofTry ok
    have sky' : Sky B (X.env :: X.outer) a (Zc cls d) X.env.locals s'.heap := by
      rw [← hs]
      exact sky
    show wpAny (model X.prog X.w) X.A (noteFrame (.ref a) X.env) _ _ _
    refine Sky.land Zc.steady hfr hf sky' fun h3 fl3 up3 => ?_
    have J3 : Inv X pins σ' H' { s' with heap := h3 } := J.landed nb fl3.1 (up.trans up3) os ag
    obtain ⟨oe3, vs3, he3, hz3, hd3⟩ := fl3.there
    have notFr : ∀ {h : Heap} {o : Obj} {vs : Array Value}, h.FunFrames B (X.env :: X.outer) → h.get? a = some o → o.data = .fields vs → a ∉ frs (X.env :: X.outer) := fun {h o vs} ff e dd hm => by
      obtain ⟨_, o', e', hnf⟩ := ff.mem hm
      rw [e] at e'
      cases e'
      exact hnf _ dd
    have nfr := notFr fl3.2.2.1 he3 hd3
    have nL : a ≠ X.env.locals := fun z => nfr (List.mem_filterMap.mpr ⟨X.env, List.mem_cons_self, by rw [hf, z]⟩)
    have nF : a ∉ X.fs := fun hm => by
      obtain ⟨e, he, q⟩ := List.mem_filterMap.mp hm
      exact nfr (List.mem_filterMap.mpr ⟨e, List.mem_cons_of_mem _ he, q⟩)
    have S3 := J3.suite he3 hd3 na nL nF
    have go : ∀ {hds' : List ExceptHandler} {l' : List (Value × (Addr → Value → Option Addr → TS))}, HdsAs X n hds' l' → wManyAs X.K i Wout D l' cls d σ' H' →
        wpAny (model X.prog X.w) X.A (handleBy (.ref a) X.env hds') (SP X pins D) X.xe { s' with heap := h3 } := by
      intro hds' l' hk
      induction hk with
      | nil =>
        intro w
        refine wpAny_handleBy_nil ?_
        obtain ⟨k1, k2, k3, oe, vs, T, oT, ts', he, hz, hd, h1, hr⟩ := id fl3
        unfold PySem.passOn
        refine wpAny_bind (wpAny_field he hd h1 ?_)
        rw [if_neg (show ¬ ((Value.ref T == Value.none) = true) from by simp)]
        have fin : wpAny (model X.prog X.w) X.A (setFlight (.ref a) X.env.frame) (fun _ s4 => wpAny (model X.prog X.w) X.A (throw (.ref a) : Sem Flow) (SP X pins D) X.xe s4) X.xe { s' with heap := h3 } := by
          rw [hf]
          refine HandSPX.setFlight_upZ fl3 fun h4 hh4 up4 => wpAny_throw (tk _ _ ?_)
          exact ⟨a, B, sI, pins, σ', H', cls, d, rfl, J, nb, (up.trans up3).trans up4, .inr (.inr (by rw [hs]; exact hh4)), na, os, ag, w⟩
        first
          | exact wpAny_bind (wpAny_pure (wpAny_bind fin))
          | exact wpAny_bind fin
      | @cons x c ts b₀ suite np pos' hds2 l2 hc hsu r ih =>
        intro w
        obtain ⟨b, hb1, hyes, hno⟩ := w
        refine wpAny_handleBy_cons (codeAny_handlers_test ?_) (by intro q; cases q)
        have LT : PySem.W.Looks (model X.prog X.w) h3 (typeOf (.ref a)) cls := fun A Q E s k q => wpAny_typeOf_ref (k _ _ he3) (by rw [hz3.1]; exact q)
        have LM := PySem.W.exm_one (M := model X.prog X.w) (J3.kIn) LT hb1
        have test : ∀ {Q : Value → Shared → Prop} {E : Value → Shared → Prop}, Q c { s' with heap := h3 } → wpAny (model X.prog X.w) (X.A.mark (some (.ref a))) (eval (.Name x np) X.env) Q E { s' with heap := h3 } := fun {Q E} q => by
          obtain ⟨hg, hdbg, hm | ⟨hm, hv, hnn⟩⟩ := hc
          · exact ld_glob (X := X.suite a ((a, oe3) :: (X.pn ++ pins))) S3 hg hm q hdbg
          · exact ld_blt (X := X.suite a ((a, oe3) :: (X.pn ++ pins))) S3 hg hm hv q hnn hdbg
        refine test (LM.here ?_)
        cases b with
        | true =>
          refine codeAny_handlers_suite_as ?_
          refine HandSPX.lands_againZ fl3 fun h4 fl4 up4 => ?_
          have J4 : Inv X pins σ' H' { s' with heap := h4 } := J.landed nb fl4.1 ((up.trans up3).trans up4) os ag
          obtain ⟨oe4, vs4, he4, hz4, hd4⟩ := fl4.there
          have S4 := J4.suite he4 hd4 na nL nF
          refine store_ok (X := X.suite a ((a, oe4) :: (X.pn ++ pins))) (v := .ref a) S4 hN hi hloc rfl (fun s5 S5 => ?_) (.inr hln)
          refine wpAny_mono ((hsu a oe4 cls d (X.pn ++ pins) hz4 ⟨_, hd4⟩).run [] s5 _ H' _ S5 (hyes rfl a na)) (fun f s6 hsp => ?_) (fun _ _ z => False.elim z)
          have end_ : ∀ {σ6 : L2.St} {H6 : Hp} {Q : Shared → Prop}, Inv (X.suite a ((a, oe4) :: (X.pn ++ pins))) [] σ6 H6 s6 → (∀ s7, Inv X pins (σ6.set i none) H6 s7 → Q s7) →
              wpAny (model X.prog X.w) X.A (do bindName X.env n .none; unbindBehindTheSuite X.env n pos') (fun _ s7 => Q s7) X.xe s6 := fun {σ6 H6 Q} S6 hq => gone_ok (S6.unsuite ok) hN hi hln hq
          cases f with
          | next =>
            obtain ⟨σ6, H6, S6, q6⟩ := hsp
            exact end_ S6 fun s7 J7 => ⟨_, _, J7, q6⟩
          | brk =>
            obtain ⟨σ6, H6, S6, q6⟩ := hsp
            exact end_ S6 fun s7 J7 => ⟨_, _, J7, q6⟩
          | cont =>
            obtain ⟨σ6, H6, S6, q6⟩ := hsp
            exact end_ S6 fun s7 J7 => ⟨_, _, J7, q6⟩
          | ret u =>
            obtain ⟨v6, σ6, H6, S6, r6, q6⟩ := hsp
            exact end_ S6 fun s7 J7 => ⟨_, _, _, J7, r6, q6⟩
        | false =>
          show wpAny _ X.A (handleBy (.ref a) X.env hds2) _ _ _
          exact ih (hno rfl)
    exact go hh w
  · cases f with
    | next =>
      obtain ⟨σ', H', J', q⟩ := hsp
      exact wpAny_execs_nil ⟨σ', H', J'.ofTry ok, q⟩
    | brk =>
      obtain ⟨σ', H', J', q⟩ := hsp
      exact ⟨σ', H', J'.ofTry ok, q⟩
    | cont =>
      obtain ⟨σ', H', J', q⟩ := hsp
      exact ⟨σ', H', J'.ofTry ok, q⟩
    | ret u =>
      obtain ⟨v, σ', H', J', r, q⟩ := hsp
      exact ⟨v, σ', H', J'.ofTry ok, r, q⟩
end
end OW

set_option maxHeartbeats 4000000
/-! Own rule: an exception class over an own base over ValueError, whose maker says super().__init__(text) and stores its one argument in a field. -/
namespace OW
open PySem PySem.W PySem.Calls PyProof.Rows PySem.HandSPX

/-- the i-th statement of the program's top -/
def topS (i : Nat) : Stmt := PySem.Challenge.pw_owedanswers_k42_whole_pools_by_a_model.main.body.getD i (.Pass ⟨0, 0, 0, 0⟩)
theorem one_size' (v : Value) : [v].length ≤ sizeLine := by
  rw [sizeLine_eq]
  exact (by decide : 1 ≤ 16777216)
section
variable {prog : Program} {w : World} {A : Around} {E : Value → Shared → Prop} {h : Heap} {g : Array GenState} {d : Drawn} {t : Nat} {os : OsState}
variable {nm q : Str} {C N : Addr} {bs bm : List Value} {hdct : Bool} {sn : List Str} {sub : List Value} {ab : Bool} {col : Option Bool} {dd : Option Addr} {k0 k1 k2 k3 k5 : Option Value}
/-- ValueError's own maker, bound to a fresh exception, called -/
theorem call_mw {u e t0 : Addr} {rest : List Value} {Q : Value → Shared → Prop}
    (hC : h.get? C = some (excClassObj nm q C N bs bm hdct sn sub ab col dd k0 k1 k2 k3 k5 "ValueError.__new__")) (he : h.get? e = some (excO C t0)) (hu : h.get? u = some (kxs_mw "ValueError.__init__" e)) (hrest : rest.length ≤ sizeLine)
    (hq : ∀ h' t1, (∀ b o, b ≠ e → h.get? b = some o → h'.get? b = some o) → h'.get? e = some (excO C t1) → Q .none ⟨h', g, d, t, os⟩) :
    wpAny (model prog w) A (call (.ref u) rest) Q E ⟨h, g, d, t, os⟩ := by
  refine wpAny_call (codeAny_of_tree ?_)
  show wpAny _ A.in1 (callAny (.ref u) ⟨rest, []⟩) _ _ _
  simp only [callAny]
  refine wpAny_bind (wpAny_load hu ?_)
  simp only [kxs_mw, show (Value.type "method-wrapper" == Value.type "method" || Value.type "method-wrapper" == Value.type "builtin_function_or_method" || Value.type "method-wrapper" == Value.type "method-wrapper") = true by decide, if_true]
  refine KFB.if_so (by decide) ?_
  refine wpAny_bind (ESX.check_bound F.excBase_ValueError hC he rfl ?_)
  refine wpAny_bind (wpAny_pure (wpAny_pure ?_))
  refine ⟨Code.quiet_builtin _ (by decide +kernel), codeAny_builtin F.excBase_ValueError.initEntry ?_⟩
  rw [Around.under_plainId F.excBase_ValueError.init.plain _]
  wp_walk
  refine hq _ h.objs.size (fun b o hb ho => ?_) ?_
  · rw [Heap.get?_update_other _ _ (Ne.symm hb)]
    exact Heap.get?_push_of_some _ ho
  · rw [Heap.get?_update_self _ (Heap.get?_push_of_some _ he) rfl]
    rfl
end
/-- what a maker leaves of a fresh exception at x: its dict at dx holds the one field -/
structure XEnd (h h' : Heap) (x C dx t1 : Addr) (pn : Str) (v : Value) : Prop where
  keep : ∀ b o, b ≠ x → h.get? b = some o → h'.get? b = some o
  obj : h'.get? x = some { cls := .ref C, dict := some dx, data := .fields #[.ref t1, .none, .none, .none, .bool false, .none] }
  dbig : h.objs.size ≤ dx
  dne : dx ≠ x
  ns : h'.Ns1 dx (fun y => if y = pn then some v else none)
/-- a made exception -/
structure XMade (h h' : Heap) (e C d : Addr) (pn : Str) (v : Value) : Prop where
  keep : ∀ b o, h.get? b = some o → h'.get? b = some o
  new : h.objs.size ≤ e
  obj : ∃ oe vs, h'.get? e = some oe ∧ oe.cls = .ref C ∧ oe.dict = some d ∧ oe.data = .fields vs ∧ vs[1]? = some .none
  dbig : h.objs.size ≤ d
  dne : d ≠ e
  ns : h'.Ns1 d (fun y => if y = pn then some v else none)
theorem relO_one {v : L2.V} {v' : Value} (n : Str) (r : L2.RelV v v') (f : Str) : L2.RelO (List.lookup f [(n, v)]) (if f = n then some v' else none) := by
  by_cases hw : f = n
  · subst hw
    rw [if_pos rfl]
    have q : List.lookup f [(f, v)] = some v := by simp [List.lookup]
    rw [q]
    exact r
  · rw [if_neg hw]
    have qw : (f == n) = false := by simpa using hw
    have q2 : List.lookup f [(n, v)] = none := by simp [List.lookup, qw]
    rw [q2]
    trivial
end OW
namespace OW.Xa
open PySem PySem.W PySem.Calls PyProof.Rows PySem.HandSPX L2
abbrev st : Stmt := inClass (topS 3) 0
/-- what the written part says of such a class, at C, and of its maker, at fI -/
structure SupTxt (P : Program) (K : Frag) (C fI : Addr) : Prop where
  cls : ∃ nm q N bs bm sn sub ab col dd k0 k1 k2 k3 k5, K.lookup C = some (excClassObj nm q C N bs bm true sn sub ab col dd k0 k1 k2 k3 k5 "ValueError.__new__") ∧ refsVE bm = true
  sa : findIn K (.ref C) "__setattr__" = some (some (.builtin "object.__setattr__"))
  ga : findIn K (.ref C) "__getattribute__" = some (some (.builtin "BaseException.__getattribute__"))
  gg : findIn K (.ref C) "__getattr__" = some none
  noN : findIn K (.ref C) ("half" : Str) = some none
  iC : findIn K (.ref C) "__init__" = some (some (.ref fI))
  tC : typeIn K (.ref fI) = some (.type "function")
  kC : keepIn K (.ref C) = true
  exC : subIn K (.ref C) (.type "BaseException") = some true
  veC : subIn K (.ref C) (.type "ValueError") = some true
  tyC : typeIn K (.ref C) = some (.type "type")
  hdC : hasDictIn K C = true
  te : exmOne K (.ref C) (.ref C) = some true
  mroC : mroIn K C (.ref C) = some true
  sup : ks_superIn K C C "__init__" = some (some (.builtin "ValueError.__init__"))
  opq : nsIn K cStatics "thirdparty.any" = some none
  top : (P.main.scope.names.lookup ("super" : Str)).isSome = false
  fn : ∃ (oc : Value) (od : Option Addr) (kV doc pm : Value) (an : Option Addr) (ct : Value) (osl : Array (Option Value)) (cda cc : Addr) (ccl : Value) (cdd : Option Addr) (vs : Array Value) (ccs : Array (Option Value)) (file : Str) (tf : Tok)
      (cl : Value) (cld : Option Addr) (csl : Array (Option Value)),
    K.lookup fI = some ⟨oc, od, .func (ksFn "__init__" "Amid.__init__" (defArgs st) (defBody st) (defScope st) .none kV doc pm an (.ref cda) ct cc), osl⟩ ∧ codeIn K (.ref cda) "Amid.__init__" = true ∧
    K.lookup cda = some ⟨ccl, cdd, .fields vs, ccs⟩ ∧ vs[2]? = some (.str file tf) ∧ ((P.main.file : Str) == file) = true ∧ K.lookup cc = some ⟨cl, cld, .cell (some (.ref C)), csl⟩

section
variable {prog : Program} {w : World} {A : Around} {E : Value → Shared → Prop} {R : Result → Shared → Prop} {s : Shared} {K : Frag} {mg mb : Str → Option Value} {C fI : Addr}
theorem sup_init (T : SupTxt prog K C fI) {x t0 : Addr} {v : Value} (X : K.In s.heap) (hlim : s.heap.NoLimit) (hG : s.heap.Ns mainGlobals mg) (hmg : mg "super" = none) (hB : s.heap.Ns builtinsNs mb) (hmb : mb "super" = some (.type "super"))
    (hx : s.heap.get? x = some (excO C t0)) (hnx : K.lookup x = none) (hroom : A.depth < recursionLimit)
    (hq : ∀ h' tk dx t1, XEnd s.heap h' x C dx t1 ("half" : Str) v → R (.ok (.ret .none)) { s with heap := h', toks := tk }) :
    codeAny (model prog w) A (.call (.ref fI) ⟨[.ref x, v], []⟩) R s := by
  obtain ⟨oc, od, kV, doc, pm, an, ct, osl, cda, cc, ccl, cdd, vs, ccs, file, tf, cl, cld, csl, hf, hcd, hcode, hvs, hfile, hcell⟩ := T.fn
  obtain ⟨nm, qn, N, bs, bm, sn, sub, ab, col, dd, k0, k1, k2, k3, k5, hC, hbm⟩ := T.cls
  have hcl : clsIn K C = some { name := nm, bases := bs, mro := .ref C :: bm, ns := N, qualname := qn, hasDict := true, slotNames := sn, subclasses := sub, abstract := ab, collection := col, hasDel := false } := by
    unfold clsIn
    rw [hC] <;> rfl
  refine ks_codeAny_call_defAt (fd := ksFn "__init__" "Amid.__init__" (defArgs st) (defBody st) (defScope st) .none kV doc pm an (.ref cda) ct cc) (body := defBody st) (binds := [("self", .ref x), (("half" : Str), v)])
    hroom (X _ _ hf) rfl hlim (codeRec_of X hcd) rfl (BindsTo.of_eq (by first | rfl | with_unfolding_all rfl)) ?hcell ?hloc ?_ rfl rfl rfl
  case hcell =>
    intro y hy
    have e : (defScope st).names.all (fun z => z.2 != .cell) = true := by decide +kernel
    have q := List.all_eq_true.mp e y hy
    intro z
    rw [z] at q
    exact absurd q (by decide)
  case hloc =>
    intro y hy
    simp only [List.mem_cons, List.not_mem_nil, or_false] at hy
    rcases hy with rfl | rfl
    · show (defScope st).names.lookup ("self" : Str) = some .local
      rfl
    · exact rfl
  intro h₁ hns k
  have hm1 : (([("self", Value.ref x), (("half" : Str), v)] : List (Str × Value)).reverse.lookup ("self" : Str)) = some (.ref x) := by
    show List.lookup ("self" : Str) [(("half" : Str), v), ("self", Value.ref x)] = _
    rfl
  have hm2 : (([("self", Value.ref x), (("half" : Str), v)] : List (Str × Value)).reverse.lookup ("half" : Str)) = some v := by
    show List.lookup ("half" : Str) [(("half" : Str), v), ("self", Value.ref x)] = _
    rfl
  have X₁ : K.In h₁ := X.keeps k
  have hx₁ := k _ _ hx
  have hxL : s.heap.objs.size ≠ x := Nat.ne_of_gt (Heap.lt_size hx)
  obtain ⟨hp, gs, dr, tk, os⟩ := s
  refine ks_wpAt_execs_cons (ks_wpAt_Expr_any (ks_wpAt_MethodCall ?_))
  refine ks_wpAt_super_base (f := fI) (ar := { arg := "self", annotation := none, pos := ⟨9, 17, 9, 21⟩ }) rfl rfl rfl rfl (X₁ _ _ hf) rfl rfl rfl (X₁ _ _ hcode) rfl hvs hfile T.top ?_
  refine ks_loadName_global rfl rfl (loadGlobal_builtin (hG.keeps k) hmg (hB.keeps k) hmb ⟨rfl, ?_⟩)
  refine wpAny_loadName_free rfl rfl rfl ⟨_, X₁ _ _ hcell, rfl⟩ ?_
  refine wpAny_loadName_local rfl rfl hns hm1 ?_
  refine ks_wpAny_isType_cls (X₁ _ _ hC) rfl ⟨rfl, ?_⟩
  refine ks_wpAny_call_super (X₁ _ _ hC) rfl hx₁ rfl (fun c e => nomatch e) (looks_mroIn X₁ T.mroC) (fun h₂ hso k₂ => ?_)
  have X₂ : K.In h₂ := X₁.keeps k₂
  have hx₂ := k₂ _ _ hx₁
  have I₂ : InstAt h₂ x (excO C t0) C none := ⟨hx₂, rfl, rfl, trivial⟩
  have hxC : x ≠ C := fun z => by
    rw [z, hC] at hnx
    cases hnx
  have hal : alongIn K "__init__" (((Value.ref C :: bm).dropWhile (· != .ref C)).drop 1) = some (some (.builtin "ValueError.__init__")) := by
    have z := T.sup
    unfold ks_superIn at z
    rw [hcl] at z
    exact z
  have hmro : Looks (model prog w) h₂ (mroOf (.ref C)) (.ref C :: bm) := (looks_clsIn X₂ hcl).andThen .now
  refine kxs_getMethod kxs_ValueError hso (looks_opaque X₂ T.opq) hmro rfl X₂ hal (I₂.type.andThen (looks_subIn X₂ T.veC)) hxC (by decide) ?_
  refine kxs_callWith (i := "ValueError.__init__") (x := x) rfl ?_
  refine Calls.evalArgs_plain ?_
  refine Calls.spliced_cons ?_
  rw [if_neg Bool.false_ne_true]
  refine Calls.Constant_str ?_
  refine Calls.spliced_nil ⟨?_, ?_⟩
  · exact Heap.get?_push_size _ rfl
  refine call_mw (X₂.keeps (fun b o e => Heap.get?_push_of_some _ e) _ _ hC) (Heap.get?_push_of_some _ hx₂) (Heap.get?_push_size _ rfl) (one_size' _) (fun h₃ t1 k₃ hx₃ => ?_)
  have hns₃ : h₃.Ns hp.objs.size (fun y => ([("self", Value.ref x), (("half" : Str), v)] : List (Str × Value)).reverse.lookup y) := by
    obtain ⟨oL, es, ep, eL, r⟩ := hns
    exact ⟨oL, es, ep, k₃ _ _ hxL (Heap.get?_push_of_some _ (k₂ _ _ eL)), r⟩
  have hL : hp.objs.size < h₁.objs.size := hns.lt
  have big : h₁.objs.size ≤ h₃.objs.size := by
    have z : h₂.objs.size ≤ h₃.objs.size := by
      rcases Nat.lt_or_ge h₃.objs.size (h₂.push (kxs_mw "ValueError.__init__" x)).objs.size with q | q
      · have e := Heap.get?_push_size h₂ (o := kxs_mw "ValueError.__init__" x) rfl
        have ne : h₂.objs.size ≠ x := Nat.ne_of_gt (Heap.lt_size hx₂)
        have y := Heap.lt_size (k₃ _ _ ne e)
        exact Nat.le_of_lt y
      · rw [Heap.size_push] at q
        exact Nat.le_of_succ_le q
    have y : h₁.objs.size < h₂.objs.size := Heap.lt_size hso
    exact Nat.le_trans (Nat.le_of_lt y) z
  have keep₃ : ∀ b o, b ≠ x → h₁.get? b = some o → h₃.get? b = some o := fun b o hb e => k₃ b o hb (Heap.get?_push_of_some _ (k₂ b o e))
  have X₃ : K.In h₃ := fun a o e => keep₃ a o (fun z => by rw [z, hnx] at e; cases e) (X₁ a o e)
  refine ks_wpAt_execs_cons (ks_wpAt_Assign_Attr (wpAt_of_wpAny ?_))
  refine wpAny_Name (wpAny_loadName_local rfl rfl hns₃ hm2 ?_) (by decide)
  refine wpAny_Name (wpAny_loadName_local rfl rfl hns₃ hm1 ?_) (by decide)
  refine set_plain X₃ (ox := excO C t1) (od := none) ⟨hx₃, rfl, rfl, trivial⟩ T.sa ?_
  refine exc_osa X₃ hx₃ hcl (show refsVE (.ref C :: bm) = true from hbm) rfl T.noN (fun h₄ tk₄ dx k₄ dn dne hx₄ hn₄ => ?_)
  refine wpAt_of_wpAny (wpAny_execs_nil (hq h₄ tk₄ dx t1 ⟨fun b o hb e => k₄ b o hb (keep₃ b o hb (k b o e)), hx₄, ?_, dne, hn₄⟩))
  exact Nat.le_trans (Nat.le_of_lt hL) (Nat.le_trans big dn)
/-- the class called with one value -/
theorem sup_made (T : SupTxt prog K C fI) {v : Value} (X : K.In s.heap) (hlim : s.heap.NoLimit) (hG : s.heap.Ns mainGlobals mg) (hmg : mg "super" = none) (hB : s.heap.Ns builtinsNs mb) (hmb : mb "super" = some (.type "super")) (hroom : A.depth + 1 < recursionLimit)
    (hq : ∀ h' tk e d, XMade s.heap h' e C d ("half" : Str) v → R (.ok (.ret (.ref e))) { s with heap := h', toks := tk }) :
    codeAny (model prog w) A (.call (.ref C) ⟨[v], []⟩) R s := by
  obtain ⟨nm, q, N, bs, bm, sn, sub, ab, col, dd, k0, k1, k2, k3, k5, hC, hbm⟩ := T.cls
  obtain ⟨hp, g, dr, tk, os⟩ := s
  have k : ∀ b o, hp.get? b = some o → ((hp.push (kdv_tup [v])).push (excO C hp.objs.size)).get? b = some o := fun b o e => Heap.get?_push_of_some _ (Heap.get?_push_of_some _ e)
  have hget : ((hp.push (kdv_tup [v])).push (excO C hp.objs.size)).get? (hp.objs.size + 1) = some (excO C hp.objs.size) := by heap_get
  have hnx : K.lookup (hp.objs.size + 1) = none := by
    cases e : K.lookup (hp.objs.size + 1) with
    | none => rfl
    | some o =>
      have z : hp.get? (hp.objs.size + 1) = some o := X _ _ e
      exact absurd (Nat.lt_of_succ_lt (Heap.lt_size z)) (Nat.lt_irrefl _)
  refine call_own F.excBase_ValueError (fun X => refsVE_contains X bm hbm) (X _ _ hC) (looks_findIn X T.iC) (fun self => bind_fn X self T.tC) (one_size' v) ?_
  refine sup_init (s := ⟨(hp.push (kdv_tup [v])).push (excO C hp.objs.size), g, dr, tk, os⟩) T (X.keeps k) (hlim.keeps k) (hG.keeps k) hmg (hB.keeps k) hmb hget hnx ?_ fun h' tk' dx t1 ⟨k', hx, dn, dne, hns⟩ => ?_
  · show A.depth + 1 < recursionLimit
    exact hroom
  · have old : ∀ b o, hp.get? b = some o → h'.get? b = some o := fun b o e => k' b o (Nat.ne_of_lt (Nat.lt_succ_of_lt (Heap.lt_size e))) (k b o e)
    have z : hp.objs.size + 1 + 1 ≤ dx := by
      first
        | (simpa only [Heap.size_push] using dn)
        | exact dn
        | (have q := dn; rw [Heap.size_push, Heap.size_push] at q; exact q)
    exact ⟨rfl, hq h' tk' (hp.objs.size + 1) dx ⟨old, Nat.le_succ _, ⟨_, _, hx, rfl, rfl, rfl, rfl⟩, Nat.le_trans (Nat.le_trans (Nat.le_succ _) (Nat.le_succ _)) z, dne, hns⟩⟩
end
end OW.Xa
namespace OW.Xa
open PySem PySem.Spec PyProof.Rows L2
section
variable {X : Cx} {C fI : Addr}
/-- the class called on e -/
def tMkX (C : Addr) (ta : TA) : L2.St → Hp → XK → Prop := fun σ H Q => ta σ H fun vs H1 => ∃ v, vs = [v] ∧ ∀ d, H1 d = none → Q (.ref C) (some d) (upd H1 d (.xd [(("half" : Str), v)]))
theorem pmk_X {a : Expr} {ta : TA} {p pos : Pos} {k : Nat} (T : SupTxt X.prog X.K C fI) (gC : X.mg "Amid" = some (.ref C)) (gS : X.mg "super" = none) (hr : Room k X.A) (ha : PA X [a] ta) (hg : Gl X "Amid" := by rfl)
    (he : starEach (a :: []) X.env = (false, eval a X.env) :: starEach [] X.env := by rfl) (hpl : (backTo pos (starEach [] X.env)).any (·.1) = false := by rfl) :
    PMk X (.Call (.Name "Amid" p) [a] [] pos) (tMkX C ta) := by
  intro pins s σ H Q I h
  refine wpAny_Call_Name_kw (ld_glob I hg gC ?_)
  refine PySem.W.callWith_K (h₀ := X.base) I.ok.mod.kin T.kC (thn (ha.run pos pins s σ H _ I h) fun us s1 hh => ?_) he hpl
  obtain ⟨vs, H1, I1, r1, v, ev, q1⟩ := hh
  subst ev
  refine ⟨I1.kIn, ?_⟩
  cases r1 with
  | cons rv rn =>
    rename_i v' us'
    cases rn
    show wpAny _ _ (call (.ref C) [v']) _ _ _
    have hlim := I1.nolimit
    obtain ⟨mb, b1, b2⟩ := I1.mod.blt
    have hB := b1.keeps I1.bk
    have hG := I1.mod.glob.keeps I1.bk
    have hmb : mb "super" = some (.type "super") := (b2 "super" (by decide)).trans (by first | boot_by_name | rfl | kernel_rfl)
    obtain ⟨hp, g, dr, tk, os⟩ := s1
    refine wpAny_call (sup_made T I1.kIn hlim hG gS hB hmb (by have := hr.dp; omega) fun h' tk' e d M => ?_)
    show MkP X pins σ Q (.ref e) ⟨h', g, dr, tk', os⟩
    obtain ⟨oe, fv, hoe, hc, hd, hdat, h1⟩ := M.obj
    have hns := M.ns
    obtain ⟨G', g1, g2⟩ := restrict h' fun b => decide (b ≠ e)
    have gk : ∀ b, b ≠ e → G'.get? b = h'.get? b := fun b hb => g1 b (decide_eq_true hb)
    have ge : G'.get? e = none := g2 e (by simp)
    have old : ∀ b o, hp.get? b = some o → G'.get? b = some o := fun b o q => (gk b (Nat.ne_of_lt (Nat.lt_of_lt_of_le (Heap.lt_size q) M.new))).trans (M.keep b o q)
    have ob : ObjOk X.prog X.w (upd H1 d (.xd [(("half" : Str), v)])) G' d (.xd [(("half" : Str), v)]) :=
      ⟨_, hns.at (fun o q => (gk d M.dne).trans q), fun f => relO_one ("half" : Str) rv f⟩
    have J : Inv X pins σ (upd H1 d (.xd [(("half" : Str), v)])) ⟨G', g, dr, tk', os⟩ := I1.laid (t' := tk') old M.dbig ob
    refine ⟨e, oe, fv, ⟨G', g, dr, tk', os⟩, _, .ref C, some d, rfl, J, fun b o q => ?_, ge, hoe, ⟨hc, hd⟩, hdat, h1, ?_, rfl, I1.bare, raises_own T.exC T.tyC, q1 d (I1.hok.fresh M.dbig)⟩
    · by_cases hb : b = e
      · have q' : G'.get? b = some o := q
        rw [hb, ge] at q'
        cases q'
      · exact (gk b hb).symm.trans q
    · rw [upd_ne (Ne.symm M.dne)]
      exact I1.hok.fresh M.new
/-- raise of the class, called on e -/
def tRaiseX (C : Addr) (W : WX) (ta : TA) : TS := fun _ σ H => tMkX C ta σ H fun cls d H' => W cls d σ H'
theorem ps_raiseX {a : Expr} {ta : TA} {W : WX} {p pos pos2 : Pos} {k : Nat} (hc : X.calm = true) (T : SupTxt X.prog X.K C fI) (gC : X.mg "Amid" = some (.ref C)) (gS : X.mg "super" = none) (hr : Room k X.A) (tk : Takes X W) (ha : PA X [a] ta) (hg : Gl X "Amid" := by rfl)
    (he : starEach (a :: []) X.env = (false, eval a X.env) :: starEach [] X.env := by rfl) (hpl : (backTo pos (starEach [] X.env)).any (·.1) = false := by rfl) :
    PS X (.Raise (some (.Call (.Name "Amid" p) [a] [] pos)) none pos2) (tRaiseX C W ta) := ps_raise hc tk (pmk_X T gC gS hr ha hg he hpl)
/-- the field of the exception that the suite holds (at a; its class cls, its dict d) -/
def tGetX (C : Addr) (a : Addr) (cls : Value) (d : Option Addr) (te : TE) : TE := fun σ H Q => te σ H fun x H1 => x = .ref a ∧ cls = .ref C ∧ ∃ (dd : Addr) (v : V), d = some dd ∧ H1 dd = some (.xd [(("half" : Str), v)]) ∧ Q v H1
theorem pe_getX {a : Addr} {oe : Obj} {cls : Value} {d : Option Addr} {pn : List (Addr × Obj)} {e : Expr} {te : TE} {pos : Pos} (T : SupTxt X.prog X.K C fI) (hz : Zc cls d oe) (hf : ∃ vs, oe.data = .fields vs) (he : PE (X.suite a ((a, oe) :: pn)) e te)
    (hb : attributeBase e ("half" : Str) X.env (eval e X.env) = eval e X.env := by rfl) :
    PE (X.suite a ((a, oe) :: pn)) (.Attribute e ("half" : Str) pos) (tGetX C a cls d te) := by
  refine ⟨fun pins s σ H Q I h => ?_⟩
  refine attr_of hb (thn (he.run pins s σ H _ I h) fun u s1 hh => ?_)
  obtain ⟨x, H1, I1, rx, ex, ec, dd, v, ed, ea, q⟩ := hh
  subst ex
  obtain rfl : u = Value.ref a := rx
  subst ec
  subst ed
  obtain ⟨ha, _⟩ := I1.pin (a, oe) (List.mem_append_left _ List.mem_cons_self)
  obtain ⟨vs, hd⟩ := hf
  have hx : ObjOk X.prog X.w H1 s1.heap dd (.xd [(("half" : Str), v)]) := I1.hok dd _ ea
  obtain ⟨mA, hns, hr⟩ := hx
  obtain ⟨od, ho, hl⟩ := lookIn_ns hns
  have l : List.lookup ("half" : Str) [(("half" : Str), v)] = some v := by simp [List.lookup]
  obtain ⟨u, hu, ru⟩ := RelO.some_of (v := v) (o := mA ("half" : Str)) (by rw [← l]; exact hr ("half" : Str))
  have J : PySem.W.InstAt s1.heap a oe C (some od) := ⟨ha, hz.1, by unfold PySem.W.notCls; rw [hd] <;> rfl, by rw [hz.2]; exact ho⟩
  exact HandSPX.exc_get I1.kIn J T.ga T.gg T.exC (PySem.W.findObj_own T.hdC T.noN rfl (by rw [hl, hu])) (handed_of ru) ⟨v, H1, I1.tok _, ru, q⟩
end
end OW.Xa
namespace OW.Xc
open PySem PySem.W PySem.Calls PyProof.Rows PySem.HandSPX L2
abbrev st : Stmt := inClass (topS 4) 0
/-- what the written part says of such a class, at C, and of its maker, at fI -/
structure SupTxt (P : Program) (K : Frag) (C fI : Addr) : Prop where
  cls : ∃ nm q N bs bm sn sub ab col dd k0 k1 k2 k3 k5, K.lookup C = some (excClassObj nm q C N bs bm true sn sub ab col dd k0 k1 k2 k3 k5 "ValueError.__new__") ∧ refsVE bm = true
  sa : findIn K (.ref C) "__setattr__" = some (some (.builtin "object.__setattr__"))
  ga : findIn K (.ref C) "__getattribute__" = some (some (.builtin "BaseException.__getattribute__"))
  gg : findIn K (.ref C) "__getattr__" = some none
  noN : findIn K (.ref C) ("number" : Str) = some none
  iC : findIn K (.ref C) "__init__" = some (some (.ref fI))
  tC : typeIn K (.ref fI) = some (.type "function")
  kC : keepIn K (.ref C) = true
  exC : subIn K (.ref C) (.type "BaseException") = some true
  veC : subIn K (.ref C) (.type "ValueError") = some true
  tyC : typeIn K (.ref C) = some (.type "type")
  hdC : hasDictIn K C = true
  te : exmOne K (.ref C) (.ref C) = some true
  mroC : mroIn K C (.ref C) = some true
  sup : ks_superIn K C C "__init__" = some (some (.builtin "ValueError.__init__"))
  opq : nsIn K cStatics "thirdparty.any" = some none
  top : (P.main.scope.names.lookup ("super" : Str)).isSome = false
  fn : ∃ (oc : Value) (od : Option Addr) (kV doc pm : Value) (an : Option Addr) (ct : Value) (osl : Array (Option Value)) (cda cc : Addr) (ccl : Value) (cdd : Option Addr) (vs : Array Value) (ccs : Array (Option Value)) (file : Str) (tf : Tok)
      (cl : Value) (cld : Option Addr) (csl : Array (Option Value)),
    K.lookup fI = some ⟨oc, od, .func (ksFn "__init__" "Closed.__init__" (defArgs st) (defBody st) (defScope st) .none kV doc pm an (.ref cda) ct cc), osl⟩ ∧ codeIn K (.ref cda) "Closed.__init__" = true ∧
    K.lookup cda = some ⟨ccl, cdd, .fields vs, ccs⟩ ∧ vs[2]? = some (.str file tf) ∧ ((P.main.file : Str) == file) = true ∧ K.lookup cc = some ⟨cl, cld, .cell (some (.ref C)), csl⟩

section
variable {prog : Program} {w : World} {A : Around} {E : Value → Shared → Prop} {R : Result → Shared → Prop} {s : Shared} {K : Frag} {mg mb : Str → Option Value} {C fI : Addr}
theorem sup_init (T : SupTxt prog K C fI) {x t0 : Addr} {v : Value} (X : K.In s.heap) (hlim : s.heap.NoLimit) (hG : s.heap.Ns mainGlobals mg) (hmg : mg "super" = none) (hB : s.heap.Ns builtinsNs mb) (hmb : mb "super" = some (.type "super"))
    (hx : s.heap.get? x = some (excO C t0)) (hnx : K.lookup x = none) (hroom : A.depth < recursionLimit)
    (hq : ∀ h' tk dx t1, XEnd s.heap h' x C dx t1 ("number" : Str) v → R (.ok (.ret .none)) { s with heap := h', toks := tk }) :
    codeAny (model prog w) A (.call (.ref fI) ⟨[.ref x, v], []⟩) R s := by
  obtain ⟨oc, od, kV, doc, pm, an, ct, osl, cda, cc, ccl, cdd, vs, ccs, file, tf, cl, cld, csl, hf, hcd, hcode, hvs, hfile, hcell⟩ := T.fn
  obtain ⟨nm, qn, N, bs, bm, sn, sub, ab, col, dd, k0, k1, k2, k3, k5, hC, hbm⟩ := T.cls
  have hcl : clsIn K C = some { name := nm, bases := bs, mro := .ref C :: bm, ns := N, qualname := qn, hasDict := true, slotNames := sn, subclasses := sub, abstract := ab, collection := col, hasDel := false } := by
    unfold clsIn
    rw [hC] <;> rfl
  refine ks_codeAny_call_defAt (fd := ksFn "__init__" "Closed.__init__" (defArgs st) (defBody st) (defScope st) .none kV doc pm an (.ref cda) ct cc) (body := defBody st) (binds := [("self", .ref x), (("number" : Str), v)])
    hroom (X _ _ hf) rfl hlim (codeRec_of X hcd) rfl (BindsTo.of_eq (by first | rfl | with_unfolding_all rfl)) ?hcell ?hloc ?_ rfl rfl rfl
  case hcell =>
    intro y hy
    have e : (defScope st).names.all (fun z => z.2 != .cell) = true := by decide +kernel
    have q := List.all_eq_true.mp e y hy
    intro z
    rw [z] at q
    exact absurd q (by decide)
  case hloc =>
    intro y hy
    simp only [List.mem_cons, List.not_mem_nil, or_false] at hy
    rcases hy with rfl | rfl
    · show (defScope st).names.lookup ("self" : Str) = some .local
      rfl
    · exact rfl
  intro h₁ hns k
  have hm1 : (([("self", Value.ref x), (("number" : Str), v)] : List (Str × Value)).reverse.lookup ("self" : Str)) = some (.ref x) := by
    show List.lookup ("self" : Str) [(("number" : Str), v), ("self", Value.ref x)] = _
    rfl
  have hm2 : (([("self", Value.ref x), (("number" : Str), v)] : List (Str × Value)).reverse.lookup ("number" : Str)) = some v := by
    show List.lookup ("number" : Str) [(("number" : Str), v), ("self", Value.ref x)] = _
    rfl
  have X₁ : K.In h₁ := X.keeps k
  have hx₁ := k _ _ hx
  have hxL : s.heap.objs.size ≠ x := Nat.ne_of_gt (Heap.lt_size hx)
  obtain ⟨hp, gs, dr, tk, os⟩ := s
  refine ks_wpAt_execs_cons (ks_wpAt_Expr_any (ks_wpAt_MethodCall ?_))
  refine ks_wpAt_super_base (f := fI) (ar := { arg := "self", annotation := none, pos := ⟨14, 17, 14, 21⟩ }) rfl rfl rfl rfl (X₁ _ _ hf) rfl rfl rfl (X₁ _ _ hcode) rfl hvs hfile T.top ?_
  refine ks_loadName_global rfl rfl (loadGlobal_builtin (hG.keeps k) hmg (hB.keeps k) hmb ⟨rfl, ?_⟩)
  refine wpAny_loadName_free rfl rfl rfl ⟨_, X₁ _ _ hcell, rfl⟩ ?_
  refine wpAny_loadName_local rfl rfl hns hm1 ?_
  refine ks_wpAny_isType_cls (X₁ _ _ hC) rfl ⟨rfl, ?_⟩
  refine ks_wpAny_call_super (X₁ _ _ hC) rfl hx₁ rfl (fun c e => nomatch e) (looks_mroIn X₁ T.mroC) (fun h₂ hso k₂ => ?_)
  have X₂ : K.In h₂ := X₁.keeps k₂
  have hx₂ := k₂ _ _ hx₁
  have I₂ : InstAt h₂ x (excO C t0) C none := ⟨hx₂, rfl, rfl, trivial⟩
  have hxC : x ≠ C := fun z => by
    rw [z, hC] at hnx
    cases hnx
  have hal : alongIn K "__init__" (((Value.ref C :: bm).dropWhile (· != .ref C)).drop 1) = some (some (.builtin "ValueError.__init__")) := by
    have z := T.sup
    unfold ks_superIn at z
    rw [hcl] at z
    exact z
  have hmro : Looks (model prog w) h₂ (mroOf (.ref C)) (.ref C :: bm) := (looks_clsIn X₂ hcl).andThen .now
  refine kxs_getMethod kxs_ValueError hso (looks_opaque X₂ T.opq) hmro rfl X₂ hal (I₂.type.andThen (looks_subIn X₂ T.veC)) hxC (by decide) ?_
  refine kxs_callWith (i := "ValueError.__init__") (x := x) rfl ?_
  refine Calls.evalArgs_plain ?_
  refine Calls.spliced_cons ?_
  rw [if_neg Bool.false_ne_true]
  refine Calls.Constant_str ?_
  refine Calls.spliced_nil ⟨?_, ?_⟩
  · exact Heap.get?_push_size _ rfl
  refine call_mw (X₂.keeps (fun b o e => Heap.get?_push_of_some _ e) _ _ hC) (Heap.get?_push_of_some _ hx₂) (Heap.get?_push_size _ rfl) (one_size' _) (fun h₃ t1 k₃ hx₃ => ?_)
  have hns₃ : h₃.Ns hp.objs.size (fun y => ([("self", Value.ref x), (("number" : Str), v)] : List (Str × Value)).reverse.lookup y) := by
    obtain ⟨oL, es, ep, eL, r⟩ := hns
    exact ⟨oL, es, ep, k₃ _ _ hxL (Heap.get?_push_of_some _ (k₂ _ _ eL)), r⟩
  have hL : hp.objs.size < h₁.objs.size := hns.lt
  have big : h₁.objs.size ≤ h₃.objs.size := by
    have z : h₂.objs.size ≤ h₃.objs.size := by
      rcases Nat.lt_or_ge h₃.objs.size (h₂.push (kxs_mw "ValueError.__init__" x)).objs.size with q | q
      · have e := Heap.get?_push_size h₂ (o := kxs_mw "ValueError.__init__" x) rfl
        have ne : h₂.objs.size ≠ x := Nat.ne_of_gt (Heap.lt_size hx₂)
        have y := Heap.lt_size (k₃ _ _ ne e)
        exact Nat.le_of_lt y
      · rw [Heap.size_push] at q
        exact Nat.le_of_succ_le q
    have y : h₁.objs.size < h₂.objs.size := Heap.lt_size hso
    exact Nat.le_trans (Nat.le_of_lt y) z
  have keep₃ : ∀ b o, b ≠ x → h₁.get? b = some o → h₃.get? b = some o := fun b o hb e => k₃ b o hb (Heap.get?_push_of_some _ (k₂ b o e))
  have X₃ : K.In h₃ := fun a o e => keep₃ a o (fun z => by rw [z, hnx] at e; cases e) (X₁ a o e)
  refine ks_wpAt_execs_cons (ks_wpAt_Assign_Attr (wpAt_of_wpAny ?_))
  refine wpAny_Name (wpAny_loadName_local rfl rfl hns₃ hm2 ?_) (by decide)
  refine wpAny_Name (wpAny_loadName_local rfl rfl hns₃ hm1 ?_) (by decide)
  refine set_plain X₃ (ox := excO C t1) (od := none) ⟨hx₃, rfl, rfl, trivial⟩ T.sa ?_
  refine exc_osa X₃ hx₃ hcl (show refsVE (.ref C :: bm) = true from hbm) rfl T.noN (fun h₄ tk₄ dx k₄ dn dne hx₄ hn₄ => ?_)
  refine wpAt_of_wpAny (wpAny_execs_nil (hq h₄ tk₄ dx t1 ⟨fun b o hb e => k₄ b o hb (keep₃ b o hb (k b o e)), hx₄, ?_, dne, hn₄⟩))
  exact Nat.le_trans (Nat.le_of_lt hL) (Nat.le_trans big dn)
/-- the class called with one value -/
theorem sup_made (T : SupTxt prog K C fI) {v : Value} (X : K.In s.heap) (hlim : s.heap.NoLimit) (hG : s.heap.Ns mainGlobals mg) (hmg : mg "super" = none) (hB : s.heap.Ns builtinsNs mb) (hmb : mb "super" = some (.type "super")) (hroom : A.depth + 1 < recursionLimit)
    (hq : ∀ h' tk e d, XMade s.heap h' e C d ("number" : Str) v → R (.ok (.ret (.ref e))) { s with heap := h', toks := tk }) :
    codeAny (model prog w) A (.call (.ref C) ⟨[v], []⟩) R s := by
  obtain ⟨nm, q, N, bs, bm, sn, sub, ab, col, dd, k0, k1, k2, k3, k5, hC, hbm⟩ := T.cls
  obtain ⟨hp, g, dr, tk, os⟩ := s
  have k : ∀ b o, hp.get? b = some o → ((hp.push (kdv_tup [v])).push (excO C hp.objs.size)).get? b = some o := fun b o e => Heap.get?_push_of_some _ (Heap.get?_push_of_some _ e)
  have hget : ((hp.push (kdv_tup [v])).push (excO C hp.objs.size)).get? (hp.objs.size + 1) = some (excO C hp.objs.size) := by heap_get
  have hnx : K.lookup (hp.objs.size + 1) = none := by
    cases e : K.lookup (hp.objs.size + 1) with
    | none => rfl
    | some o =>
      have z : hp.get? (hp.objs.size + 1) = some o := X _ _ e
      exact absurd (Nat.lt_of_succ_lt (Heap.lt_size z)) (Nat.lt_irrefl _)
  refine call_own F.excBase_ValueError (fun X => refsVE_contains X bm hbm) (X _ _ hC) (looks_findIn X T.iC) (fun self => bind_fn X self T.tC) (one_size' v) ?_
  refine sup_init (s := ⟨(hp.push (kdv_tup [v])).push (excO C hp.objs.size), g, dr, tk, os⟩) T (X.keeps k) (hlim.keeps k) (hG.keeps k) hmg (hB.keeps k) hmb hget hnx ?_ fun h' tk' dx t1 ⟨k', hx, dn, dne, hns⟩ => ?_
  · show A.depth + 1 < recursionLimit
    exact hroom
  · have old : ∀ b o, hp.get? b = some o → h'.get? b = some o := fun b o e => k' b o (Nat.ne_of_lt (Nat.lt_succ_of_lt (Heap.lt_size e))) (k b o e)
    have z : hp.objs.size + 1 + 1 ≤ dx := by
      first
        | (simpa only [Heap.size_push] using dn)
        | exact dn
        | (have q := dn; rw [Heap.size_push, Heap.size_push] at q; exact q)
    exact ⟨rfl, hq h' tk' (hp.objs.size + 1) dx ⟨old, Nat.le_succ _, ⟨_, _, hx, rfl, rfl, rfl, rfl⟩, Nat.le_trans (Nat.le_trans (Nat.le_succ _) (Nat.le_succ _)) z, dne, hns⟩⟩
end
end OW.Xc
namespace OW.Xc
open PySem PySem.Spec PyProof.Rows L2
section
variable {X : Cx} {C fI : Addr}
/-- the class called on e -/
def tMkX (C : Addr) (ta : TA) : L2.St → Hp → XK → Prop := fun σ H Q => ta σ H fun vs H1 => ∃ v, vs = [v] ∧ ∀ d, H1 d = none → Q (.ref C) (some d) (upd H1 d (.xd [(("number" : Str), v)]))
theorem pmk_X {a : Expr} {ta : TA} {p pos : Pos} {k : Nat} (T : SupTxt X.prog X.K C fI) (gC : X.mg "Closed" = some (.ref C)) (gS : X.mg "super" = none) (hr : Room k X.A) (ha : PA X [a] ta) (hg : Gl X "Closed" := by rfl)
    (he : starEach (a :: []) X.env = (false, eval a X.env) :: starEach [] X.env := by rfl) (hpl : (backTo pos (starEach [] X.env)).any (·.1) = false := by rfl) :
    PMk X (.Call (.Name "Closed" p) [a] [] pos) (tMkX C ta) := by
  intro pins s σ H Q I h
  refine wpAny_Call_Name_kw (ld_glob I hg gC ?_)
  refine PySem.W.callWith_K (h₀ := X.base) I.ok.mod.kin T.kC (thn (ha.run pos pins s σ H _ I h) fun us s1 hh => ?_) he hpl
  obtain ⟨vs, H1, I1, r1, v, ev, q1⟩ := hh
  subst ev
  refine ⟨I1.kIn, ?_⟩
  cases r1 with
  | cons rv rn =>
    rename_i v' us'
    cases rn
    show wpAny _ _ (call (.ref C) [v']) _ _ _
    have hlim := I1.nolimit
    obtain ⟨mb, b1, b2⟩ := I1.mod.blt
    have hB := b1.keeps I1.bk
    have hG := I1.mod.glob.keeps I1.bk
    have hmb : mb "super" = some (.type "super") := (b2 "super" (by decide)).trans (by first | boot_by_name | rfl | kernel_rfl)
    obtain ⟨hp, g, dr, tk, os⟩ := s1
    refine wpAny_call (sup_made T I1.kIn hlim hG gS hB hmb (by have := hr.dp; omega) fun h' tk' e d M => ?_)
    show MkP X pins σ Q (.ref e) ⟨h', g, dr, tk', os⟩
    obtain ⟨oe, fv, hoe, hc, hd, hdat, h1⟩ := M.obj
    have hns := M.ns
    obtain ⟨G', g1, g2⟩ := restrict h' fun b => decide (b ≠ e)
    have gk : ∀ b, b ≠ e → G'.get? b = h'.get? b := fun b hb => g1 b (decide_eq_true hb)
    have ge : G'.get? e = none := g2 e (by simp)
    have old : ∀ b o, hp.get? b = some o → G'.get? b = some o := fun b o q => (gk b (Nat.ne_of_lt (Nat.lt_of_lt_of_le (Heap.lt_size q) M.new))).trans (M.keep b o q)
    have ob : ObjOk X.prog X.w (upd H1 d (.xd [(("number" : Str), v)])) G' d (.xd [(("number" : Str), v)]) :=
      ⟨_, hns.at (fun o q => (gk d M.dne).trans q), fun f => relO_one ("number" : Str) rv f⟩
    have J : Inv X pins σ (upd H1 d (.xd [(("number" : Str), v)])) ⟨G', g, dr, tk', os⟩ := I1.laid (t' := tk') old M.dbig ob
    refine ⟨e, oe, fv, ⟨G', g, dr, tk', os⟩, _, .ref C, some d, rfl, J, fun b o q => ?_, ge, hoe, ⟨hc, hd⟩, hdat, h1, ?_, rfl, I1.bare, raises_own T.exC T.tyC, q1 d (I1.hok.fresh M.dbig)⟩
    · by_cases hb : b = e
      · have q' : G'.get? b = some o := q
        rw [hb, ge] at q'
        cases q'
      · exact (gk b hb).symm.trans q
    · rw [upd_ne (Ne.symm M.dne)]
      exact I1.hok.fresh M.new
/-- raise of the class, called on e -/
def tRaiseX (C : Addr) (W : WX) (ta : TA) : TS := fun _ σ H => tMkX C ta σ H fun cls d H' => W cls d σ H'
theorem ps_raiseX {a : Expr} {ta : TA} {W : WX} {p pos pos2 : Pos} {k : Nat} (hc : X.calm = true) (T : SupTxt X.prog X.K C fI) (gC : X.mg "Closed" = some (.ref C)) (gS : X.mg "super" = none) (hr : Room k X.A) (tk : Takes X W) (ha : PA X [a] ta) (hg : Gl X "Closed" := by rfl)
    (he : starEach (a :: []) X.env = (false, eval a X.env) :: starEach [] X.env := by rfl) (hpl : (backTo pos (starEach [] X.env)).any (·.1) = false := by rfl) :
    PS X (.Raise (some (.Call (.Name "Closed" p) [a] [] pos)) none pos2) (tRaiseX C W ta) := ps_raise hc tk (pmk_X T gC gS hr ha hg he hpl)
/-- the field of the exception that the suite holds (at a; its class cls, its dict d) -/
def tGetX (C : Addr) (a : Addr) (cls : Value) (d : Option Addr) (te : TE) : TE := fun σ H Q => te σ H fun x H1 => x = .ref a ∧ cls = .ref C ∧ ∃ (dd : Addr) (v : V), d = some dd ∧ H1 dd = some (.xd [(("number" : Str), v)]) ∧ Q v H1
theorem pe_getX {a : Addr} {oe : Obj} {cls : Value} {d : Option Addr} {pn : List (Addr × Obj)} {e : Expr} {te : TE} {pos : Pos} (T : SupTxt X.prog X.K C fI) (hz : Zc cls d oe) (hf : ∃ vs, oe.data = .fields vs) (he : PE (X.suite a ((a, oe) :: pn)) e te)
    (hb : attributeBase e ("number" : Str) X.env (eval e X.env) = eval e X.env := by rfl) :
    PE (X.suite a ((a, oe) :: pn)) (.Attribute e ("number" : Str) pos) (tGetX C a cls d te) := by
  refine ⟨fun pins s σ H Q I h => ?_⟩
  refine attr_of hb (thn (he.run pins s σ H _ I h) fun u s1 hh => ?_)
  obtain ⟨x, H1, I1, rx, ex, ec, dd, v, ed, ea, q⟩ := hh
  subst ex
  obtain rfl : u = Value.ref a := rx
  subst ec
  subst ed
  obtain ⟨ha, _⟩ := I1.pin (a, oe) (List.mem_append_left _ List.mem_cons_self)
  obtain ⟨vs, hd⟩ := hf
  have hx : ObjOk X.prog X.w H1 s1.heap dd (.xd [(("number" : Str), v)]) := I1.hok dd _ ea
  obtain ⟨mA, hns, hr⟩ := hx
  obtain ⟨od, ho, hl⟩ := lookIn_ns hns
  have l : List.lookup ("number" : Str) [(("number" : Str), v)] = some v := by simp [List.lookup]
  obtain ⟨u, hu, ru⟩ := RelO.some_of (v := v) (o := mA ("number" : Str)) (by rw [← l]; exact hr ("number" : Str))
  have J : PySem.W.InstAt s1.heap a oe C (some od) := ⟨ha, hz.1, by unfold PySem.W.notCls; rw [hd] <;> rfl, by rw [hz.2]; exact ho⟩
  exact HandSPX.exc_get I1.kIn J T.ga T.gg T.exC (PySem.W.findObj_own T.hdC T.noN rfl (by rw [hl, hu])) (handed_of ru) ⟨v, H1, I1.tok _, ru, q⟩
end
end OW.Xc
namespace OW.Xs
open PySem PySem.W PySem.Calls PyProof.Rows PySem.HandSPX L2
abbrev st : Stmt := inClass (topS 5) 0
/-- what the written part says of such a class, at C, and of its maker, at fI -/
structure SupTxt (P : Program) (K : Frag) (C fI : Addr) : Prop where
  cls : ∃ nm q N bs bm sn sub ab col dd k0 k1 k2 k3 k5, K.lookup C = some (excClassObj nm q C N bs bm true sn sub ab col dd k0 k1 k2 k3 k5 "ValueError.__new__") ∧ refsVE bm = true
  sa : findIn K (.ref C) "__setattr__" = some (some (.builtin "object.__setattr__"))
  ga : findIn K (.ref C) "__getattribute__" = some (some (.builtin "BaseException.__getattribute__"))
  gg : findIn K (.ref C) "__getattr__" = some none
  noN : findIn K (.ref C) ("number" : Str) = some none
  iC : findIn K (.ref C) "__init__" = some (some (.ref fI))
  tC : typeIn K (.ref fI) = some (.type "function")
  kC : keepIn K (.ref C) = true
  exC : subIn K (.ref C) (.type "BaseException") = some true
  veC : subIn K (.ref C) (.type "ValueError") = some true
  tyC : typeIn K (.ref C) = some (.type "type")
  hdC : hasDictIn K C = true
  te : exmOne K (.ref C) (.ref C) = some true
  mroC : mroIn K C (.ref C) = some true
  sup : ks_superIn K C C "__init__" = some (some (.builtin "ValueError.__init__"))
  opq : nsIn K cStatics "thirdparty.any" = some none
  top : (P.main.scope.names.lookup ("super" : Str)).isSome = false
  fn : ∃ (oc : Value) (od : Option Addr) (kV doc pm : Value) (an : Option Addr) (ct : Value) (osl : Array (Option Value)) (cda cc : Addr) (ccl : Value) (cdd : Option Addr) (vs : Array Value) (ccs : Array (Option Value)) (file : Str) (tf : Tok)
      (cl : Value) (cld : Option Addr) (csl : Array (Option Value)),
    K.lookup fI = some ⟨oc, od, .func (ksFn "__init__" "Starved.__init__" (defArgs st) (defBody st) (defScope st) .none kV doc pm an (.ref cda) ct cc), osl⟩ ∧ codeIn K (.ref cda) "Starved.__init__" = true ∧
    K.lookup cda = some ⟨ccl, cdd, .fields vs, ccs⟩ ∧ vs[2]? = some (.str file tf) ∧ ((P.main.file : Str) == file) = true ∧ K.lookup cc = some ⟨cl, cld, .cell (some (.ref C)), csl⟩

section
variable {prog : Program} {w : World} {A : Around} {E : Value → Shared → Prop} {R : Result → Shared → Prop} {s : Shared} {K : Frag} {mg mb : Str → Option Value} {C fI : Addr}
theorem sup_init (T : SupTxt prog K C fI) {x t0 : Addr} {v : Value} (X : K.In s.heap) (hlim : s.heap.NoLimit) (hG : s.heap.Ns mainGlobals mg) (hmg : mg "super" = none) (hB : s.heap.Ns builtinsNs mb) (hmb : mb "super" = some (.type "super"))
    (hx : s.heap.get? x = some (excO C t0)) (hnx : K.lookup x = none) (hroom : A.depth < recursionLimit)
    (hq : ∀ h' tk dx t1, XEnd s.heap h' x C dx t1 ("number" : Str) v → R (.ok (.ret .none)) { s with heap := h', toks := tk }) :
    codeAny (model prog w) A (.call (.ref fI) ⟨[.ref x, v], []⟩) R s := by
  obtain ⟨oc, od, kV, doc, pm, an, ct, osl, cda, cc, ccl, cdd, vs, ccs, file, tf, cl, cld, csl, hf, hcd, hcode, hvs, hfile, hcell⟩ := T.fn
  obtain ⟨nm, qn, N, bs, bm, sn, sub, ab, col, dd, k0, k1, k2, k3, k5, hC, hbm⟩ := T.cls
  have hcl : clsIn K C = some { name := nm, bases := bs, mro := .ref C :: bm, ns := N, qualname := qn, hasDict := true, slotNames := sn, subclasses := sub, abstract := ab, collection := col, hasDel := false } := by
    unfold clsIn
    rw [hC] <;> rfl
  refine ks_codeAny_call_defAt (fd := ksFn "__init__" "Starved.__init__" (defArgs st) (defBody st) (defScope st) .none kV doc pm an (.ref cda) ct cc) (body := defBody st) (binds := [("self", .ref x), (("number" : Str), v)])
    hroom (X _ _ hf) rfl hlim (codeRec_of X hcd) rfl (BindsTo.of_eq (by first | rfl | with_unfolding_all rfl)) ?hcell ?hloc ?_ rfl rfl rfl
  case hcell =>
    intro y hy
    have e : (defScope st).names.all (fun z => z.2 != .cell) = true := by decide +kernel
    have q := List.all_eq_true.mp e y hy
    intro z
    rw [z] at q
    exact absurd q (by decide)
  case hloc =>
    intro y hy
    simp only [List.mem_cons, List.not_mem_nil, or_false] at hy
    rcases hy with rfl | rfl
    · show (defScope st).names.lookup ("self" : Str) = some .local
      rfl
    · exact rfl
  intro h₁ hns k
  have hm1 : (([("self", Value.ref x), (("number" : Str), v)] : List (Str × Value)).reverse.lookup ("self" : Str)) = some (.ref x) := by
    show List.lookup ("self" : Str) [(("number" : Str), v), ("self", Value.ref x)] = _
    rfl
  have hm2 : (([("self", Value.ref x), (("number" : Str), v)] : List (Str × Value)).reverse.lookup ("number" : Str)) = some v := by
    show List.lookup ("number" : Str) [(("number" : Str), v), ("self", Value.ref x)] = _
    rfl
  have X₁ : K.In h₁ := X.keeps k
  have hx₁ := k _ _ hx
  have hxL : s.heap.objs.size ≠ x := Nat.ne_of_gt (Heap.lt_size hx)
  obtain ⟨hp, gs, dr, tk, os⟩ := s
  refine ks_wpAt_execs_cons (ks_wpAt_Expr_any (ks_wpAt_MethodCall ?_))
  refine ks_wpAt_super_base (f := fI) (ar := { arg := "self", annotation := none, pos := ⟨19, 17, 19, 21⟩ }) rfl rfl rfl rfl (X₁ _ _ hf) rfl rfl rfl (X₁ _ _ hcode) rfl hvs hfile T.top ?_
  refine ks_loadName_global rfl rfl (loadGlobal_builtin (hG.keeps k) hmg (hB.keeps k) hmb ⟨rfl, ?_⟩)
  refine wpAny_loadName_free rfl rfl rfl ⟨_, X₁ _ _ hcell, rfl⟩ ?_
  refine wpAny_loadName_local rfl rfl hns hm1 ?_
  refine ks_wpAny_isType_cls (X₁ _ _ hC) rfl ⟨rfl, ?_⟩
  refine ks_wpAny_call_super (X₁ _ _ hC) rfl hx₁ rfl (fun c e => nomatch e) (looks_mroIn X₁ T.mroC) (fun h₂ hso k₂ => ?_)
  have X₂ : K.In h₂ := X₁.keeps k₂
  have hx₂ := k₂ _ _ hx₁
  have I₂ : InstAt h₂ x (excO C t0) C none := ⟨hx₂, rfl, rfl, trivial⟩
  have hxC : x ≠ C := fun z => by
    rw [z, hC] at hnx
    cases hnx
  have hal : alongIn K "__init__" (((Value.ref C :: bm).dropWhile (· != .ref C)).drop 1) = some (some (.builtin "ValueError.__init__")) := by
    have z := T.sup
    unfold ks_superIn at z
    rw [hcl] at z
    exact z
  have hmro : Looks (model prog w) h₂ (mroOf (.ref C)) (.ref C :: bm) := (looks_clsIn X₂ hcl).andThen .now
  refine kxs_getMethod kxs_ValueError hso (looks_opaque X₂ T.opq) hmro rfl X₂ hal (I₂.type.andThen (looks_subIn X₂ T.veC)) hxC (by decide) ?_
  refine kxs_callWith (i := "ValueError.__init__") (x := x) rfl ?_
  refine Calls.evalArgs_plain ?_
  refine Calls.spliced_cons ?_
  rw [if_neg Bool.false_ne_true]
  refine Calls.Constant_str ?_
  refine Calls.spliced_nil ⟨?_, ?_⟩
  · exact Heap.get?_push_size _ rfl
  refine call_mw (X₂.keeps (fun b o e => Heap.get?_push_of_some _ e) _ _ hC) (Heap.get?_push_of_some _ hx₂) (Heap.get?_push_size _ rfl) (one_size' _) (fun h₃ t1 k₃ hx₃ => ?_)
  have hns₃ : h₃.Ns hp.objs.size (fun y => ([("self", Value.ref x), (("number" : Str), v)] : List (Str × Value)).reverse.lookup y) := by
    obtain ⟨oL, es, ep, eL, r⟩ := hns
    exact ⟨oL, es, ep, k₃ _ _ hxL (Heap.get?_push_of_some _ (k₂ _ _ eL)), r⟩
  have hL : hp.objs.size < h₁.objs.size := hns.lt
  have big : h₁.objs.size ≤ h₃.objs.size := by
    have z : h₂.objs.size ≤ h₃.objs.size := by
      rcases Nat.lt_or_ge h₃.objs.size (h₂.push (kxs_mw "ValueError.__init__" x)).objs.size with q | q
      · have e := Heap.get?_push_size h₂ (o := kxs_mw "ValueError.__init__" x) rfl
        have ne : h₂.objs.size ≠ x := Nat.ne_of_gt (Heap.lt_size hx₂)
        have y := Heap.lt_size (k₃ _ _ ne e)
        exact Nat.le_of_lt y
      · rw [Heap.size_push] at q
        exact Nat.le_of_succ_le q
    have y : h₁.objs.size < h₂.objs.size := Heap.lt_size hso
    exact Nat.le_trans (Nat.le_of_lt y) z
  have keep₃ : ∀ b o, b ≠ x → h₁.get? b = some o → h₃.get? b = some o := fun b o hb e => k₃ b o hb (Heap.get?_push_of_some _ (k₂ b o e))
  have X₃ : K.In h₃ := fun a o e => keep₃ a o (fun z => by rw [z, hnx] at e; cases e) (X₁ a o e)
  refine ks_wpAt_execs_cons (ks_wpAt_Assign_Attr (wpAt_of_wpAny ?_))
  refine wpAny_Name (wpAny_loadName_local rfl rfl hns₃ hm2 ?_) (by decide)
  refine wpAny_Name (wpAny_loadName_local rfl rfl hns₃ hm1 ?_) (by decide)
  refine set_plain X₃ (ox := excO C t1) (od := none) ⟨hx₃, rfl, rfl, trivial⟩ T.sa ?_
  refine exc_osa X₃ hx₃ hcl (show refsVE (.ref C :: bm) = true from hbm) rfl T.noN (fun h₄ tk₄ dx k₄ dn dne hx₄ hn₄ => ?_)
  refine wpAt_of_wpAny (wpAny_execs_nil (hq h₄ tk₄ dx t1 ⟨fun b o hb e => k₄ b o hb (keep₃ b o hb (k b o e)), hx₄, ?_, dne, hn₄⟩))
  exact Nat.le_trans (Nat.le_of_lt hL) (Nat.le_trans big dn)
/-- the class called with one value -/
theorem sup_made (T : SupTxt prog K C fI) {v : Value} (X : K.In s.heap) (hlim : s.heap.NoLimit) (hG : s.heap.Ns mainGlobals mg) (hmg : mg "super" = none) (hB : s.heap.Ns builtinsNs mb) (hmb : mb "super" = some (.type "super")) (hroom : A.depth + 1 < recursionLimit)
    (hq : ∀ h' tk e d, XMade s.heap h' e C d ("number" : Str) v → R (.ok (.ret (.ref e))) { s with heap := h', toks := tk }) :
    codeAny (model prog w) A (.call (.ref C) ⟨[v], []⟩) R s := by
  obtain ⟨nm, q, N, bs, bm, sn, sub, ab, col, dd, k0, k1, k2, k3, k5, hC, hbm⟩ := T.cls
  obtain ⟨hp, g, dr, tk, os⟩ := s
  have k : ∀ b o, hp.get? b = some o → ((hp.push (kdv_tup [v])).push (excO C hp.objs.size)).get? b = some o := fun b o e => Heap.get?_push_of_some _ (Heap.get?_push_of_some _ e)
  have hget : ((hp.push (kdv_tup [v])).push (excO C hp.objs.size)).get? (hp.objs.size + 1) = some (excO C hp.objs.size) := by heap_get
  have hnx : K.lookup (hp.objs.size + 1) = none := by
    cases e : K.lookup (hp.objs.size + 1) with
    | none => rfl
    | some o =>
      have z : hp.get? (hp.objs.size + 1) = some o := X _ _ e
      exact absurd (Nat.lt_of_succ_lt (Heap.lt_size z)) (Nat.lt_irrefl _)
  refine call_own F.excBase_ValueError (fun X => refsVE_contains X bm hbm) (X _ _ hC) (looks_findIn X T.iC) (fun self => bind_fn X self T.tC) (one_size' v) ?_
  refine sup_init (s := ⟨(hp.push (kdv_tup [v])).push (excO C hp.objs.size), g, dr, tk, os⟩) T (X.keeps k) (hlim.keeps k) (hG.keeps k) hmg (hB.keeps k) hmb hget hnx ?_ fun h' tk' dx t1 ⟨k', hx, dn, dne, hns⟩ => ?_
  · show A.depth + 1 < recursionLimit
    exact hroom
  · have old : ∀ b o, hp.get? b = some o → h'.get? b = some o := fun b o e => k' b o (Nat.ne_of_lt (Nat.lt_succ_of_lt (Heap.lt_size e))) (k b o e)
    have z : hp.objs.size + 1 + 1 ≤ dx := by
      first
        | (simpa only [Heap.size_push] using dn)
        | exact dn
        | (have q := dn; rw [Heap.size_push, Heap.size_push] at q; exact q)
    exact ⟨rfl, hq h' tk' (hp.objs.size + 1) dx ⟨old, Nat.le_succ _, ⟨_, _, hx, rfl, rfl, rfl, rfl⟩, Nat.le_trans (Nat.le_trans (Nat.le_succ _) (Nat.le_succ _)) z, dne, hns⟩⟩
end
end OW.Xs
namespace OW.Xs
open PySem PySem.Spec PyProof.Rows L2
section
variable {X : Cx} {C fI : Addr}
/-- the class called on e -/
def tMkX (C : Addr) (ta : TA) : L2.St → Hp → XK → Prop := fun σ H Q => ta σ H fun vs H1 => ∃ v, vs = [v] ∧ ∀ d, H1 d = none → Q (.ref C) (some d) (upd H1 d (.xd [(("number" : Str), v)]))
theorem pmk_X {a : Expr} {ta : TA} {p pos : Pos} {k : Nat} (T : SupTxt X.prog X.K C fI) (gC : X.mg "Starved" = some (.ref C)) (gS : X.mg "super" = none) (hr : Room k X.A) (ha : PA X [a] ta) (hg : Gl X "Starved" := by rfl)
    (he : starEach (a :: []) X.env = (false, eval a X.env) :: starEach [] X.env := by rfl) (hpl : (backTo pos (starEach [] X.env)).any (·.1) = false := by rfl) :
    PMk X (.Call (.Name "Starved" p) [a] [] pos) (tMkX C ta) := by
  intro pins s σ H Q I h
  refine wpAny_Call_Name_kw (ld_glob I hg gC ?_)
  refine PySem.W.callWith_K (h₀ := X.base) I.ok.mod.kin T.kC (thn (ha.run pos pins s σ H _ I h) fun us s1 hh => ?_) he hpl
  obtain ⟨vs, H1, I1, r1, v, ev, q1⟩ := hh
  subst ev
  refine ⟨I1.kIn, ?_⟩
  cases r1 with
  | cons rv rn =>
    rename_i v' us'
    cases rn
    show wpAny _ _ (call (.ref C) [v']) _ _ _
    have hlim := I1.nolimit
    obtain ⟨mb, b1, b2⟩ := I1.mod.blt
    have hB := b1.keeps I1.bk
    have hG := I1.mod.glob.keeps I1.bk
    have hmb : mb "super" = some (.type "super") := (b2 "super" (by decide)).trans (by first | boot_by_name | rfl | kernel_rfl)
    obtain ⟨hp, g, dr, tk, os⟩ := s1
    refine wpAny_call (sup_made T I1.kIn hlim hG gS hB hmb (by have := hr.dp; omega) fun h' tk' e d M => ?_)
    show MkP X pins σ Q (.ref e) ⟨h', g, dr, tk', os⟩
    obtain ⟨oe, fv, hoe, hc, hd, hdat, h1⟩ := M.obj
    have hns := M.ns
    obtain ⟨G', g1, g2⟩ := restrict h' fun b => decide (b ≠ e)
    have gk : ∀ b, b ≠ e → G'.get? b = h'.get? b := fun b hb => g1 b (decide_eq_true hb)
    have ge : G'.get? e = none := g2 e (by simp)
    have old : ∀ b o, hp.get? b = some o → G'.get? b = some o := fun b o q => (gk b (Nat.ne_of_lt (Nat.lt_of_lt_of_le (Heap.lt_size q) M.new))).trans (M.keep b o q)
    have ob : ObjOk X.prog X.w (upd H1 d (.xd [(("number" : Str), v)])) G' d (.xd [(("number" : Str), v)]) :=
      ⟨_, hns.at (fun o q => (gk d M.dne).trans q), fun f => relO_one ("number" : Str) rv f⟩
    have J : Inv X pins σ (upd H1 d (.xd [(("number" : Str), v)])) ⟨G', g, dr, tk', os⟩ := I1.laid (t' := tk') old M.dbig ob
    refine ⟨e, oe, fv, ⟨G', g, dr, tk', os⟩, _, .ref C, some d, rfl, J, fun b o q => ?_, ge, hoe, ⟨hc, hd⟩, hdat, h1, ?_, rfl, I1.bare, raises_own T.exC T.tyC, q1 d (I1.hok.fresh M.dbig)⟩
    · by_cases hb : b = e
      · have q' : G'.get? b = some o := q
        rw [hb, ge] at q'
        cases q'
      · exact (gk b hb).symm.trans q
    · rw [upd_ne (Ne.symm M.dne)]
      exact I1.hok.fresh M.new
/-- raise of the class, called on e -/
def tRaiseX (C : Addr) (W : WX) (ta : TA) : TS := fun _ σ H => tMkX C ta σ H fun cls d H' => W cls d σ H'
theorem ps_raiseX {a : Expr} {ta : TA} {W : WX} {p pos pos2 : Pos} {k : Nat} (hc : X.calm = true) (T : SupTxt X.prog X.K C fI) (gC : X.mg "Starved" = some (.ref C)) (gS : X.mg "super" = none) (hr : Room k X.A) (tk : Takes X W) (ha : PA X [a] ta) (hg : Gl X "Starved" := by rfl)
    (he : starEach (a :: []) X.env = (false, eval a X.env) :: starEach [] X.env := by rfl) (hpl : (backTo pos (starEach [] X.env)).any (·.1) = false := by rfl) :
    PS X (.Raise (some (.Call (.Name "Starved" p) [a] [] pos)) none pos2) (tRaiseX C W ta) := ps_raise hc tk (pmk_X T gC gS hr ha hg he hpl)
/-- the field of the exception that the suite holds (at a; its class cls, its dict d) -/
def tGetX (C : Addr) (a : Addr) (cls : Value) (d : Option Addr) (te : TE) : TE := fun σ H Q => te σ H fun x H1 => x = .ref a ∧ cls = .ref C ∧ ∃ (dd : Addr) (v : V), d = some dd ∧ H1 dd = some (.xd [(("number" : Str), v)]) ∧ Q v H1
theorem pe_getX {a : Addr} {oe : Obj} {cls : Value} {d : Option Addr} {pn : List (Addr × Obj)} {e : Expr} {te : TE} {pos : Pos} (T : SupTxt X.prog X.K C fI) (hz : Zc cls d oe) (hf : ∃ vs, oe.data = .fields vs) (he : PE (X.suite a ((a, oe) :: pn)) e te)
    (hb : attributeBase e ("number" : Str) X.env (eval e X.env) = eval e X.env := by rfl) :
    PE (X.suite a ((a, oe) :: pn)) (.Attribute e ("number" : Str) pos) (tGetX C a cls d te) := by
  refine ⟨fun pins s σ H Q I h => ?_⟩
  refine attr_of hb (thn (he.run pins s σ H _ I h) fun u s1 hh => ?_)
  obtain ⟨x, H1, I1, rx, ex, ec, dd, v, ed, ea, q⟩ := hh
  subst ex
  obtain rfl : u = Value.ref a := rx
  subst ec
  subst ed
  obtain ⟨ha, _⟩ := I1.pin (a, oe) (List.mem_append_left _ List.mem_cons_self)
  obtain ⟨vs, hd⟩ := hf
  have hx : ObjOk X.prog X.w H1 s1.heap dd (.xd [(("number" : Str), v)]) := I1.hok dd _ ea
  obtain ⟨mA, hns, hr⟩ := hx
  obtain ⟨od, ho, hl⟩ := lookIn_ns hns
  have l : List.lookup ("number" : Str) [(("number" : Str), v)] = some v := by simp [List.lookup]
  obtain ⟨u, hu, ru⟩ := RelO.some_of (v := v) (o := mA ("number" : Str)) (by rw [← l]; exact hr ("number" : Str))
  have J : PySem.W.InstAt s1.heap a oe C (some od) := ⟨ha, hz.1, by unfold PySem.W.notCls; rw [hd] <;> rfl, by rw [hz.2]; exact ho⟩
  exact HandSPX.exc_get I1.kIn J T.ga T.gg T.exC (PySem.W.findObj_own T.hdC T.noN rfl (by rw [hl, hu])) (handed_of ru) ⟨v, H1, I1.tok _, ru, q⟩
end
end OW.Xs

set_option maxHeartbeats 4000000
/-! The base: where each def stands, what the top leaves, what a line is. -/
namespace OA
open PySem PySem.Spec PyProof.Rows L2 OW

/-! ### the text by places -/
abbrev CL (K : PySem.W.Frag) : Addr := He.ga K "Line"
abbrev CD (K : PySem.W.Frag) : Addr := He.ga K "Door"
abbrev CP (K : PySem.W.Frag) : Addr := He.ga K "Pool"
abbrev CA (K : PySem.W.Frag) : Addr := He.ga K "Amid"
abbrev CC (K : PySem.W.Frag) : Addr := He.ga K "Closed"
abbrev CS (K : PySem.W.Frag) : Addr := He.ga K "Starved"
abbrev LW (K : PySem.W.Frag) : Addr := He.ga K "LINE_WORDS"
abbrev DW (K : PySem.W.Frag) : Addr := He.ga K "WORDS"

def globs : List (Nat × Str) := [(10, "reason_of"), (13, "is_out"), (14, "is_in"), (15, "mark_of"), (16, "is_amid"), (17, "row_fault"), (18, "mark_after"), (24, "check_word"), (25, "check_name"), (27, "must_close"), (28, "give_back"),
  (31, "_law_source"), (32, "_law_draw"), (33, "_law_of"), (34, "_law_same"), (35, "_law_fault"), (36, "_law_mark"), (37, "_law_new"), (38, "_law_due"), (39, "_law_ask"), (40, "_law_do"), (41, "_law_call"), (42, "_law_stands"), (43, "_law_back"),
  (44, "_law_lend"), (45, "_law_act"), (46, "_law_give"), (47, "_law_shows"), (48, "_law_holds"), (49, "law")]
structure Me where
  c : Str
  ci : Nat
  j : Nat
  m : Str
  q : Str
deriving DecidableEq
abbrev Me.st (p : Me) : Stmt := inClass (topS p.ci) p.j
def meths : List Me := [⟨"Line", 20, 1, "__len__", "Line.__len__"⟩, ⟨"Line", 20, 2, "__contains__", "Line.__contains__"⟩, ⟨"Line", 20, 7, "need", "Line.need"⟩, ⟨"Line", 20, 8, "ask", "Line.ask"⟩, ⟨"Line", 20, 9, "begin", "Line.begin"⟩, ⟨"Line", 20, 10, "finish", "Line.finish"⟩,
  ⟨"Line", 20, 11, "read", "Line.read"⟩, ⟨"Line", 20, 12, "head", "Line.head"⟩, ⟨"Line", 20, 13, "body", "Line.body"⟩, ⟨"Line", 20, 14, "drain", "Line.drain"⟩, ⟨"Line", 20, 16, "tags", "Line.tags"⟩,
  ⟨"Door", 26, 1, "__getitem__", "Door.__getitem__"⟩, ⟨"Door", 26, 2, "__setitem__", "Door.__setitem__"⟩, ⟨"Door", 26, 5, "copy", "Door.copy"⟩,
  ⟨"Pool", 29, 0, "__init__", "Pool.__init__"⟩, ⟨"Pool", 29, 1, "__len__", "Pool.__len__"⟩, ⟨"Pool", 29, 5, "idle", "Pool.idle"⟩, ⟨"Pool", 29, 6, "lent", "Pool.lent"⟩, ⟨"Pool", 29, 8, "lend", "Pool.lend"⟩, ⟨"Pool", 29, 9, "take", "Pool.take"⟩]
def props : List (Nat × Str × Str) := [(3, "mark", "Line.mark"), (4, "is_open", "Line.is_open"), (5, "is_clean", "Line.is_clean"), (6, "owed", "Line.owed")]
def frees : List Str := ["len", "list", "all", "any", "isinstance", "bool", "int", "tuple", "str", "zip", "range", "max", "min", "abs", "super"]
def fieldsL : List Str := ["number", "cause", "state", "queue", "sending", "is_lent"]
def fieldsD : List Str := ["end", "fail", "cut", "others"]
def fieldsP : List Str := ["door", "lines", "lost", "thrown", "counts"]
abbrev lineWords : List Str := ["ask", "begin", "finish", "read", "head", "body"]
abbrev doorWords : List Str := ["keep", "close", "check", "drain", "ping"]
abbrev letters : Str := "abcdefghijklmnopqrstuvwxyz"

/-- what the top leaves behind, as far as the walk asks -/
structure Tx (P : Program) (K : PySem.W.Frag) (mg : Str → Option Value) : Prop where
  fn : ∀ p ∈ globs, ∃ f fd, Fun K p.2 p.2 (topS p.1) f fd ∧ mg p.2 = some (.ref f)
  me : ∀ p ∈ meths, ∃ f fd, Fun K p.m p.q p.st f fd ∧ Meth K (He.ga K p.c) p.m f ∧ PySem.W.fnIn K f = true
  pr : ∀ p ∈ props, ∃ pa f fd, Fun K p.2.1 p.2.2 (inClass (topS 20) p.1) f fd ∧ PropOf K (CL K) p.2.1 pa f
  iL : ∃ f fd, FunD K "__init__" "Line.__init__" (defArgs (inClass (topS 20) 0)) (defBody (inClass (topS 20) 0)) (defScope (inClass (topS 20) 0)) [.int 0] [] f fd ∧ Mk K (CL K) f
  cL : ∃ f fd, FunD K "close" "Line.close" (defArgs (inClass (topS 20) 15)) (defBody (inClass (topS 20) 15)) (defScope (inClass (topS 20) 15)) [.non] [] f fd ∧ Meth K (CL K) "close" f
  iD : ∃ f fd, FunD K "__init__" "Door.__init__" (defArgs (inClass (topS 26) 0)) (defBody (inClass (topS 26) 0)) (defScope (inClass (topS 26) 0)) [] [("end", .str "keep"), ("fail", .str "keep"), ("cut", .str "keep")] f fd ∧ Mk K (CD K) f
  mkP : ∀ f, PySem.W.findIn K (.ref (CP K)) "__init__" = some (some (.ref f)) → Mk K (CP K) f
  clL : Cls K (CL K)
  clD : Cls K (CD K)
  clP : Cls K (CP K)
  naL : ∀ f ∈ fieldsL, NoAttr K (CL K) f
  naD : ∀ f ∈ fieldsD, NoAttr K (CD K) f
  naP : ∀ f ∈ fieldsP, NoAttr K (CP K) f
  g_Line : mg "Line" = some (.ref (CL K))
  g_Door : mg "Door" = some (.ref (CD K))
  g_Pool : mg "Pool" = some (.ref (CP K))
  g_Amid : mg "Amid" = some (.ref (CA K))
  g_Closed : mg "Closed" = some (.ref (CC K))
  g_Starved : mg "Starved" = some (.ref (CS K))
  g_LINE_WORDS : mg "LINE_WORDS" = some (.ref (LW K))
  g_WORDS : mg "WORDS" = some (.ref (DW K))
  g_LETTERS : ∃ t, mg "LETTERS" = some (.str letters t)
  wL : ∀ H, SqT K H (LW K) (lineWords.map .str)
  wD : ∀ H, SqT K H (DW K) (doorWords.map .str)
  fr : ∀ x ∈ frees, mg x = none
  q_Line : cmpIn K (CL K) = true
  q_Door : PySem.W.noSeq K (CD K) = true
  x_Amid : Xa.SupTxt P K (CA K) (He.ma K (CA K) "__init__")
  x_Closed : Xc.SupTxt P K (CC K) (He.ma K (CC K) "__init__")
  x_Starved : Xs.SupTxt P K (CS K) (He.ma K (CS K) "__init__")
  xm : ∀ x ∈ (["Closed", "Amid", "Starved"] : List Str), ∀ y ∈ (["Closed", "Amid", "Starved"] : List Str), PySem.W.exmOne K (.ref (He.ga K x)) (.ref (He.ga K y)) = some (decide (x = y))
section
variable {P : Program} {K : PySem.W.Frag} {mg : Str → Option Value} (T : Tx P K mg)
include T
theorem Tx.len : mg "len" = none := T.fr _ (by decide +kernel)
theorem Tx.list : mg "list" = none := T.fr _ (by decide +kernel)
theorem Tx.all : mg "all" = none := T.fr _ (by decide +kernel)
theorem Tx.any : mg "any" = none := T.fr _ (by decide +kernel)
theorem Tx.isinstance : mg "isinstance" = none := T.fr _ (by decide +kernel)
theorem Tx.bool : mg "bool" = none := T.fr _ (by decide +kernel)
theorem Tx.int : mg "int" = none := T.fr _ (by decide +kernel)
theorem Tx.tuple : mg "tuple" = none := T.fr _ (by decide +kernel)
theorem Tx.str : mg "str" = none := T.fr _ (by decide +kernel)
theorem Tx.zip : mg "zip" = none := T.fr _ (by decide +kernel)
theorem Tx.range : mg "range" = none := T.fr _ (by decide +kernel)
theorem Tx.max : mg "max" = none := T.fr _ (by decide +kernel)
theorem Tx.min : mg "min" = none := T.fr _ (by decide +kernel)
theorem Tx.abs : mg "abs" = none := T.fr _ (by decide +kernel)
theorem Tx.super : mg "super" = none := T.fr _ (by decide +kernel)
theorem Tx.n_number : NoAttr K (CL K) "number" := T.naL _ (by decide +kernel)
theorem Tx.n_cause : NoAttr K (CL K) "cause" := T.naL _ (by decide +kernel)
theorem Tx.n_state : NoAttr K (CL K) "state" := T.naL _ (by decide +kernel)
theorem Tx.n_queue : NoAttr K (CL K) "queue" := T.naL _ (by decide +kernel)
theorem Tx.n_sending : NoAttr K (CL K) "sending" := T.naL _ (by decide +kernel)
theorem Tx.n_is_lent : NoAttr K (CL K) "is_lent" := T.naL _ (by decide +kernel)
theorem Tx.n_end : NoAttr K (CD K) "end" := T.naD _ (by decide +kernel)
theorem Tx.n_fail : NoAttr K (CD K) "fail" := T.naD _ (by decide +kernel)
theorem Tx.n_cut : NoAttr K (CD K) "cut" := T.naD _ (by decide +kernel)
theorem Tx.n_others : NoAttr K (CD K) "others" := T.naD _ (by decide +kernel)
theorem Tx.n_door : NoAttr K (CP K) "door" := T.naP _ (by decide +kernel)
theorem Tx.n_lines : NoAttr K (CP K) "lines" := T.naP _ (by decide +kernel)
theorem Tx.n_lost : NoAttr K (CP K) "lost" := T.naP _ (by decide +kernel)
theorem Tx.n_thrown : NoAttr K (CP K) "thrown" := T.naP _ (by decide +kernel)
theorem Tx.n_counts : NoAttr K (CP K) "counts" := T.naP _ (by decide +kernel)
end

/-! ### a def that keeps a promise, with all that a caller asks -/
section
variable (P : Program) (w : World) (K : PySem.W.Frag) (mg : Str → Option Value) (base : Heap) (CX : CXT) (k : Nat)
def GOk (x : Str) (ps : List Str) (sp : Sp) : Prop := ∃ f fd, FnOk P w K mg base CX k f fd ps sp ∧ mg x = some (.ref f) ∧ PySem.W.keepIn K (.ref f) = true ∧ Binds K fd ps []
def MOk (C : Addr) (m : Str) (ps : List Str) (sp : Sp) : Prop := ∃ f fd, FnOk P w K mg base CX k f fd ps sp ∧ Meth K C m f ∧ Binds K fd ps []
def POk (C : Addr) (m : Str) (sp : Sp) : Prop := ∃ p f fd, FnOk P w K mg base CX k f fd ["self"] sp ∧ PropOf K C m p f ∧ Binds K fd ["self"] []
def SOk (C : Addr) (m : Str) (sp : Sp) : Prop := ∃ f, FnR P w K mg base CX k f sp ∧ PySem.W.findIn K (.ref C) m = some (some (.ref f)) ∧ PySem.W.isFn K (.ref f) = true ∧ PySem.W.fnIn K f = true
def ROk (C : Addr) (m : Str) (sp : Sp) : Prop := ∃ f, FnR P w K mg base CX k f sp ∧ Meth K C m f
end

/-! ### tests whose answer is known -/
theorem iteF' {c : Bool} {A B : Prop} (hc : c = false) (h : B) : if c = true then A else B := by
  subst hc
  exact iteF h
theorem iteT' {c : Bool} {A B : Prop} (hc : c = true) (h : A) : if c = true then A else B := by
  subst hc
  exact iteT h

/-! ### what a line is -/
inductive Mk' | whole | out | inn | both | closed
deriving DecidableEq
def Mk'.s : Mk' → Str
  | .whole => "whole" | .out => "out" | .inn => "in" | .both => "both" | .closed => "closed"
inductive Wd | ask | begin | finish | read | head | body | drain | close
deriving DecidableEq
def Wd.s : Wd → Str
  | .ask => "ask" | .begin => "begin" | .finish => "finish" | .read => "read" | .head => "head" | .body => "body" | .drain => "drain" | .close => "close"
def isOut : Mk' → Bool
  | .out | .both => true
  | _ => false
def isIn : Mk' → Bool
  | .inn | .both => true
  | _ => false
def mkOf : Bool → Bool → Mk'
  | true, true => .both
  | true, false => .out
  | false, true => .inn
  | false, false => .whole
/-- a row in the middle of a message that it does not belong to -/
def amid : Wd → Mk' → Bool
  | .ask, m | .begin, m => isOut m
  | .finish, m => !isOut m
  | .read, m | .head, m => isIn m
  | .body, m => !isIn m
  | _, _ => false
inductive Ft | closed | amid | starved
deriving DecidableEq
def Ft.s : Ft → Str
  | .closed => "closed" | .amid => "amid" | .starved => "starved"
def lineWd : Wd → Bool
  | .drain | .close => false
  | _ => true
def fault (w : Wd) (m : Mk') (owed : Nat) : Option Ft :=
  if lineWd w = false then none else if m = .closed then some .closed else if amid w m then some .amid else if (w = .read ∨ w = .head) ∧ owed = 0 then some .starved else none
def ftV : Option Ft → V
  | none => .non
  | some f => .str f.s
def after (w : Wd) (m : Mk') : Mk' :=
  if m = .closed ∨ w = .close then .closed else match w with
  | .begin => mkOf true (isIn m)
  | .finish => mkOf false (isIn m)
  | .head => mkOf (isOut m) true
  | .body | .drain => mkOf (isOut m) false
  | _ => m
end OA

set_option maxHeartbeats 4000000
/-! The marks of a line, walked. -/
namespace OA
open PySem PySem.Spec PyProof.Rows L2 OW
local macro_rules
  | `(tactic| walk_at "oa step") => `(tactic| first
    | refine ⟨_, rfl, rfl, _, rfl, ?_⟩
    | refine ⟨_, rfl, _, rfl, ?_⟩
    | refine ⟨_, rfl, ?_⟩
    | refine ⟨_, _, rfl, rfl, _, rfl, ?_⟩
    | refine ⟨_, _, rfl, ?_⟩
    | refine iteT' (by decide +kernel) ?_
    | refine iteF' (by decide +kernel) ?_
    | refine ⟨rfl, _, rfl, ?_⟩
    | refine ⟨rfl, ?_⟩)
theorem qbl {Q : VK} {b c : Bool} {H : Hp} (e : b = c) (h : Q (.bl c) H) : Q (.bl b) H := e ▸ h
def sp_is_out : Sp := fun vs H Q _ => ∃ m : Mk', vs = [.str m.s] ∧ Q (.bl (isOut m)) H
def sp_is_in : Sp := fun vs H Q _ => ∃ m : Mk', vs = [.str m.s] ∧ Q (.bl (isIn m)) H
def sp_mark_of : Sp := fun vs H Q _ => ∃ a b : Bool, vs = [.bl a, .bl b] ∧ Q (.str (mkOf a b).s) H
def sp_is_amid : Sp := fun vs H Q _ => ∃ (v : Wd) (m : Mk'), vs = [.str v.s, .str m.s] ∧ Q (.bl (amid v m)) H
def sp_row_fault : Sp := fun vs H Q _ => ∃ (v : Wd) (m : Mk') (n : Nat), vs = [.str v.s, .str m.s, .int n] ∧ Q (ftV (fault v m n)) H
def sp_mark_after : Sp := fun vs H Q _ => ∃ (v : Wd) (m : Mk'), vs = [.str v.s, .str m.s] ∧ Q (.str (after v m).s) H
section
variable {P : Program} {w : World} {K : PySem.W.Frag} {mg : Str → Option Value} {base : Heap}
theorem sc_is_out : FnScope ["mark"] ["mark"] (defScope (topS 13)) := ⟨rfl, rfl, rfl, by decide +kernel, rfl, by decide +kernel, by decide +kernel⟩
theorem ok_is_out (T : Tx P K mg) : GOk P w K mg base CX0 1 "is_out" ["mark"] sp_is_out := by
  obtain ⟨f, fd, F, gm⟩ := T.fn (13, "is_out") (by decide +kernel)
  refine ⟨f, fd, ?_, gm, F.kp, F.binds fun _ _ _ _ _ _ us hl => match us, hl with | [_], _ => rfl⟩
  refine F.ok sc_is_out (fun vs H Q E h => ?_) (fun cdv A outer s H vs Q E hr h => ?_)
  · obtain ⟨_, rfl, _⟩ := h
    rfl
  have hu := hu_of hr
  refine ⟨_, (pss_one (ps_ret (pe_or (pe_cmpR op_eq (pv 0) pe_str (nomark _)) (pe_one (pe_cmpR op_eq (pv 0) pe_str (nomark _)))))), ?_⟩
  obtain ⟨m, rfl, k⟩ := h
  refine ⟨_, rfl, rfl, _, rfl, ?_⟩
  cases m
  all_goals first | refine iteT' (by decide +kernel) ?_ | refine iteF' (by decide +kernel) ?_
  all_goals first | exact qbl (by decide +kernel) k | exact ⟨_, rfl, rfl, qbl (by decide +kernel) k⟩
theorem sc_is_in : FnScope ["mark"] ["mark"] (defScope (topS 14)) := ⟨rfl, rfl, rfl, by decide +kernel, rfl, by decide +kernel, by decide +kernel⟩
theorem ok_is_in (T : Tx P K mg) : GOk P w K mg base CX0 1 "is_in" ["mark"] sp_is_in := by
  obtain ⟨f, fd, F, gm⟩ := T.fn (14, "is_in") (by decide +kernel)
  refine ⟨f, fd, ?_, gm, F.kp, F.binds fun _ _ _ _ _ _ us hl => match us, hl with | [_], _ => rfl⟩
  refine F.ok sc_is_in (fun vs H Q E h => ?_) (fun cdv A outer s H vs Q E hr h => ?_)
  · obtain ⟨_, rfl, _⟩ := h
    rfl
  have hu := hu_of hr
  refine ⟨_, (pss_one (ps_ret (pe_or (pe_cmpR op_eq (pv 0) pe_str (nomark _)) (pe_one (pe_cmpR op_eq (pv 0) pe_str (nomark _)))))), ?_⟩
  obtain ⟨m, rfl, k⟩ := h
  refine ⟨_, rfl, rfl, _, rfl, ?_⟩
  cases m
  all_goals first | refine iteT' (by decide +kernel) ?_ | refine iteF' (by decide +kernel) ?_
  all_goals first | exact qbl (by decide +kernel) k | exact ⟨_, rfl, rfl, qbl (by decide +kernel) k⟩
theorem sc_mark_of : FnScope ["sending", "reading"] ["sending", "reading"] (defScope (topS 15)) := ⟨rfl, rfl, rfl, by decide +kernel, rfl, by decide +kernel, by decide +kernel⟩
theorem ok_mark_of (T : Tx P K mg) : GOk P w K mg base CX0 1 "mark_of" ["sending", "reading"] sp_mark_of := by
  obtain ⟨f, fd, F, gm⟩ := T.fn (15, "mark_of") (by decide +kernel)
  refine ⟨f, fd, ?_, gm, F.kp, F.binds fun _ _ _ _ _ _ us hl => match us, hl with | [_, _], _ => rfl⟩
  refine F.ok sc_mark_of (fun vs H Q E h => ?_) (fun cdv A outer s H vs Q E hr h => ?_)
  · obtain ⟨_, _, rfl, _⟩ := h
    rfl
  have hu := hu_of hr
  refine ⟨_, (pss_cons (ps_if (PW.pt (pw_and (pt_val (pv 0)) (pw_and1 (pt_val (pv 1)))))
      (pss_one (ps_ret pe_str))
      pss_nil)
      (pss_cons (ps_if (pt_val (pv 0))
      (pss_one (ps_ret pe_str))
      pss_nil)
      (pss_one (ps_ret (pe_ifExp (pt_val (pv 1)) pe_str pe_str))))), ?_⟩
  obtain ⟨a, b, rfl, k⟩ := h
  cases a <;> cases b <;> (repeat walk_at "oa step") <;> exact k
theorem sc_is_amid : FnScope ["word", "mark"] ["word", "mark"] (defScope (topS 16)) := ⟨rfl, rfl, rfl, by decide +kernel, rfl, by decide +kernel, by decide +kernel⟩
theorem ok_is_amid (T : Tx P K mg) : GOk P w K mg base CX0 2 "is_amid" ["word", "mark"] sp_is_amid := by
  obtain ⟨f_is_out, fd_is_out, G_is_out, m_is_out, k_is_out, b_is_out⟩ := ok_is_out (P := P) (w := w) (base := base) T
  obtain ⟨f_is_in, fd_is_in, G_is_in, m_is_in, k_is_in, b_is_in⟩ := ok_is_in (P := P) (w := w) (base := base) T
  obtain ⟨f, fd, F, gm⟩ := T.fn (16, "is_amid") (by decide +kernel)
  refine ⟨f, fd, ?_, gm, F.kp, F.binds fun _ _ _ _ _ _ us hl => match us, hl with | [_, _], _ => rfl⟩
  refine F.ok sc_is_amid (fun vs H Q E h => ?_) (fun cdv A outer s H vs Q E hr h => ?_)
  · obtain ⟨_, _, rfl, _⟩ := h
    rfl
  have hu := hu_of hr
  refine ⟨_, (pss_cons (ps_if (PW.pt (pw_or (pt_cmpR op_eq (pv 0) pe_str (nomark _)) (pw_or1 (pt_cmpR op_eq (pv 0) pe_str (nomark _)))))
      (pss_one (ps_ret (pe_call G_is_out (hr.mono (by decide)) rfl m_is_out k_is_out b_is_out .nil pass0 (pa_cons (pv 1) pa_nil))))
      pss_nil)
      (pss_cons (ps_if (pt_cmpR op_eq (pv 0) pe_str (nomark _))
      (pss_one (ps_ret (pe_not (pe_call G_is_out (hr.mono (by decide)) rfl m_is_out k_is_out b_is_out .nil pass0 (pa_cons (pv 1) pa_nil)))))
      pss_nil)
      (pss_cons (ps_if (PW.pt (pw_or (pt_cmpR op_eq (pv 0) pe_str (nomark _)) (pw_or1 (pt_cmpR op_eq (pv 0) pe_str (nomark _)))))
      (pss_one (ps_ret (pe_call G_is_in (hr.mono (by decide)) rfl m_is_in k_is_in b_is_in .nil pass0 (pa_cons (pv 1) pa_nil))))
      pss_nil)
      (pss_cons (ps_if (pt_cmpR op_eq (pv 0) pe_str (nomark _))
      (pss_one (ps_ret (pe_not (pe_call G_is_in (hr.mono (by decide)) rfl m_is_in k_is_in b_is_in .nil pass0 (pa_cons (pv 1) pa_nil)))))
      pss_nil)
      (pss_one (ps_ret pe_bl)))))), ?_⟩
  obtain ⟨v, m, rfl, k⟩ := h
  cases v <;> (repeat walk_at "oa step") <;> exact k
theorem sc_row_fault : FnScope ["word", "mark", "owed"] ["word", "mark", "owed"] (defScope (topS 17)) := ⟨rfl, rfl, rfl, by decide +kernel, rfl, by decide +kernel, by decide +kernel⟩
theorem ok_row_fault (T : Tx P K mg) : GOk P w K mg base CX0 3 "row_fault" ["word", "mark", "owed"] sp_row_fault := by
  obtain ⟨f_is_amid, fd_is_amid, G_is_amid, m_is_amid, k_is_amid, b_is_amid⟩ := ok_is_amid (P := P) (w := w) (base := base) T
  obtain ⟨f, fd, F, gm⟩ := T.fn (17, "row_fault") (by decide +kernel)
  refine ⟨f, fd, ?_, gm, F.kp, F.binds fun _ _ _ _ _ _ us hl => match us, hl with | [_, _, _], _ => rfl⟩
  refine F.ok sc_row_fault (fun vs H Q E h => ?_) (fun cdv A outer s H vs Q E hr h => ?_)
  · obtain ⟨_, _, _, rfl, _⟩ := h
    rfl
  have hu := hu_of hr
  refine ⟨_, (pss_cons (ps_if (pt_cmpR op_notIn_seq (pv 0) (pe_glob (v := .ref _) rfl T.g_LINE_WORDS rfl) (by rfl))
      (pss_one (ps_ret pe_non))
      pss_nil)
      (pss_cons (ps_if (pt_cmpR op_eq (pv 1) pe_str (nomark _))
      (pss_one (ps_ret pe_str))
      pss_nil)
      (pss_cons (ps_if (pt_val (pe_call G_is_amid (hr.mono (by decide)) rfl m_is_amid k_is_amid b_is_amid .nil pass0 (pa_cons (pv 0) (pa_cons (pv 1) pa_nil))))
      (pss_one (ps_ret pe_str))
      pss_nil)
      (pss_cons (ps_if (PW.pt (pw_and (PW.pt (pw_or (pt_cmpR op_eq (pv 0) pe_str (nomark _)) (pw_or1 (pt_cmpR op_eq (pv 0) pe_str (nomark _))))) (pw_and1 (pt_cmpR op_lt (pv 2) pe_int (nomark _)))))
      (pss_one (ps_ret pe_str))
      pss_nil)
      (pss_one (ps_ret pe_non)))))), ?_⟩
  obtain ⟨v, m, n, rfl, k⟩ := h
  refine ⟨_, rfl, _, _, rfl, Or.inr (T.wL _), rfl, by decide +kernel, _, rfl, ?_⟩
  by_cases hv : lineWd v = true
  · refine iteF' (by cases v <;> first | decide +kernel | cases hv) ?_
    refine ⟨_, rfl, rfl, _, rfl, ?_⟩
    by_cases hm : m = .closed
    · subst hm
      refine iteT' (by decide +kernel) ?_
      cases v <;> first | exact k | cases hv
    · refine iteF' (by cases m <;> first | decide +kernel | exact absurd rfl hm) ?_
      refine ⟨_, rfl, _, rfl, v, m, rfl, _, rfl, ?_⟩
      have e : fault v m n = if amid v m then some .amid else if (v = .read ∨ v = .head) ∧ n = 0 then some .starved else none := by
        unfold fault
        rw [hv, if_neg (by decide), if_neg hm]
      rw [e] at k
      cases ha : amid v m with
      | true =>
        rw [ha] at k
        exact iteT k
      | false =>
        rw [ha] at k
        refine iteF ?_
        by_cases hn : n = 0
        · subst hn
          cases v <;> (repeat walk_at "oa step") <;> exact k
        · have hd : decide ((n : Int) < 1) = false := decide_eq_false (by omega)
          have q : ftV (if (v = Wd.read ∨ v = Wd.head) ∧ n = 0 then some Ft.starved else none) = .non := by
            rw [if_neg (fun z => hn z.2)]
            rfl
          rw [if_neg Bool.false_ne_true, q] at k
          cases v <;> (repeat walk_at "oa step") <;> first | exact k | exact iteF' hd k
  · have hv' : lineWd v = false := by simpa using hv
    refine iteT' (by cases v <;> first | decide +kernel | cases hv') ?_
    unfold fault at k
    rw [if_pos hv'] at k
    exact k
theorem sc_mark_after : FnScope ["word", "mark"] ["word", "mark"] (defScope (topS 18)) := ⟨rfl, rfl, rfl, by decide +kernel, rfl, by decide +kernel, by decide +kernel⟩
theorem ok_mark_after (T : Tx P K mg) : GOk P w K mg base CX0 2 "mark_after" ["word", "mark"] sp_mark_after := by
  obtain ⟨f_mark_of, fd_mark_of, G_mark_of, m_mark_of, k_mark_of, b_mark_of⟩ := ok_mark_of (P := P) (w := w) (base := base) T
  obtain ⟨f_is_in, fd_is_in, G_is_in, m_is_in, k_is_in, b_is_in⟩ := ok_is_in (P := P) (w := w) (base := base) T
  obtain ⟨f_is_out, fd_is_out, G_is_out, m_is_out, k_is_out, b_is_out⟩ := ok_is_out (P := P) (w := w) (base := base) T
  obtain ⟨f, fd, F, gm⟩ := T.fn (18, "mark_after") (by decide +kernel)
  refine ⟨f, fd, ?_, gm, F.kp, F.binds fun _ _ _ _ _ _ us hl => match us, hl with | [_, _], _ => rfl⟩
  refine F.ok sc_mark_after (fun vs H Q E h => ?_) (fun cdv A outer s H vs Q E hr h => ?_)
  · obtain ⟨_, _, rfl, _⟩ := h
    rfl
  have hu := hu_of hr
  refine ⟨_, (pss_cons (ps_if (PW.pt (pw_or (pt_cmpR op_eq (pv 1) pe_str (nomark _)) (pw_or1 (pt_cmpR op_eq (pv 0) pe_str (nomark _)))))
      (pss_one (ps_ret pe_str))
      pss_nil)
      (pss_cons (ps_if (pt_cmpR op_eq (pv 0) pe_str (nomark _))
      (pss_one (ps_ret (pe_call G_mark_of (hr.mono (by decide)) rfl m_mark_of k_mark_of b_mark_of .nil pass0 (pa_cons pe_bl (pa_cons (pe_call G_is_in (hr.mono (by decide)) rfl m_is_in k_is_in b_is_in .nil pass0 (pa_cons (pv 1) pa_nil)) pa_nil)))))
      pss_nil)
      (pss_cons (ps_if (pt_cmpR op_eq (pv 0) pe_str (nomark _))
      (pss_one (ps_ret (pe_call G_mark_of (hr.mono (by decide)) rfl m_mark_of k_mark_of b_mark_of .nil pass0 (pa_cons pe_bl (pa_cons (pe_call G_is_in (hr.mono (by decide)) rfl m_is_in k_is_in b_is_in .nil pass0 (pa_cons (pv 1) pa_nil)) pa_nil)))))
      pss_nil)
      (pss_cons (ps_if (pt_cmpR op_eq (pv 0) pe_str (nomark _))
      (pss_one (ps_ret (pe_call G_mark_of (hr.mono (by decide)) rfl m_mark_of k_mark_of b_mark_of .nil pass0 (pa_cons (pe_call G_is_out (hr.mono (by decide)) rfl m_is_out k_is_out b_is_out .nil pass0 (pa_cons (pv 1) pa_nil)) (pa_cons pe_bl pa_nil)))))
      pss_nil)
      (pss_cons (ps_if (PW.pt (pw_or (pt_cmpR op_eq (pv 0) pe_str (nomark _)) (pw_or1 (pt_cmpR op_eq (pv 0) pe_str (nomark _)))))
      (pss_one (ps_ret (pe_call G_mark_of (hr.mono (by decide)) rfl m_mark_of k_mark_of b_mark_of .nil pass0 (pa_cons (pe_call G_is_out (hr.mono (by decide)) rfl m_is_out k_is_out b_is_out .nil pass0 (pa_cons (pv 1) pa_nil)) (pa_cons pe_bl pa_nil)))))
      pss_nil)
      (pss_one (ps_ret (pv 1)))))))), ?_⟩
  obtain ⟨v, m, rfl, k⟩ := h
  cases v <;> cases m <;> (repeat walk_at "oa step") <;> exact k
end
end OA

set_option maxHeartbeats 4000000
/-! A line of the program: its fields, its methods. -/
namespace OA
open PySem PySem.Spec PyProof.Rows L2 OW
/-- the fields of a line -/
def lf (n : Int) (c : V) (m : Str) (q : Addr) (s : Str) (b : Bool) : List (Str × V) := [("number", .int n), ("cause", c), ("state", .str m), ("queue", .ref q), ("sending", .str s), ("is_lent", .bl b)]
/-- a line: as the program has it (snd) and as the law has it (bgn) -/
structure Ln where
  mark : Mk'
  q : List Str
  snd : Str
  bgn : V
  cause : V
  lent : Bool
abbrev lnF (n : Nat) (l : Ln) (qa : Addr) : List (Str × V) := lf (n : Int) l.cause l.mark.s qa l.snd l.lent
structure LineAt (K : PySem.W.Frag) (H : Hp) (a dx : Addr) (n : Nat) (l : Ln) (qa : Addr) : Prop where
  obj : H a = some (.ins (CL K) dx (lnF n l qa))
  que : H qa = some (.lst (l.q.map V.str))
/-- nothing that stood is changed but at a and at b -/
def Fr2 (H H' : Hp) (a b : Addr) : Prop := ∀ x o, x ≠ a → x ≠ b → H x = some o → H' x = some o
theorem Same.fr2 {H H' : Hp} {a b : Addr} (s : Same H H') : Fr2 H H' a b := fun x o _ _ e => s x o e
theorem Same.new {H : Hp} {p : Addr} {o : HO} (h : H p = none) : Same H (upd H p o) := fun b u e => by
  rw [upd_ne (ne_of_none e h)]
  exact e
theorem LineAt.ne {K : PySem.W.Frag} {H : Hp} {a dx qa : Addr} {n : Nat} {l : Ln} (L : LineAt K H a dx n l qa) : a ≠ qa := ne_of L.obj L.que (fun z => nomatch z)
theorem LineAt.same {K : PySem.W.Frag} {H H' : Hp} {a dx qa : Addr} {n : Nat} {l : Ln} (L : LineAt K H a dx n l qa) (s : Same H H') : LineAt K H' a dx n l qa := ⟨s _ _ L.obj, s _ _ L.que⟩
/-- what a row's fault raises -/
structure Rz (K : PySem.W.Frag) (H : Hp) (l : Ln) (n : Nat) (f : Option Ft) (E : XK) : Prop where
  closed : f = some .closed → ∀ H' d, Same H H' → H d = none → H' d = some (.xd [("number", .int n)]) → E (.ref (CC K)) (some d) H'
  amid : f = some .amid → ∀ H' d, Same H H' → H d = none → H' d = some (.xd [("half", .str l.mark.s)]) → E (.ref (CA K)) (some d) H'
  starved : f = some .starved → ∀ H' d, Same H H' → H d = none → H' d = some (.xd [("number", .int n)]) → E (.ref (CS K)) (some d) H'
def sp_Line_need (K : PySem.W.Frag) : Sp := fun vs H Q E => ∃ (a dx qa : Addr) (n owed : Nat) (l : Ln) (v : Wd), vs = [.ref a, .str v.s, .int owed] ∧ H a = some (.ins (CL K) dx (lnF n l qa)) ∧
  (fault v l.mark owed = none → Q .non H) ∧ Rz K H l n (fault v l.mark owed) E
theorem fr_upd {H : Hp} {a b : Addr} {o : HO} : Fr2 H (upd H a o) a b := fun x u h1 _ e => by
  rw [upd_ne h1]
  exact e
theorem fr_upd2 {H : Hp} {a b : Addr} {o u : HO} : Fr2 H (upd (upd H a o) b u) a b := fun x v h1 h2 e => by
  rw [upd_ne h2, upd_ne h1]
  exact e
theorem fr_updR {H : Hp} {a b : Addr} {o : HO} : Fr2 H (upd H b o) a b := fun x u _ h2 e => by
  rw [upd_ne h2]
  exact e
theorem Fr2.trans {H H1 H2 : Hp} {a b : Addr} (f : Fr2 H H1 a b) (g : Fr2 H1 H2 a b) : Fr2 H H2 a b := fun x o h1 h2 e => g x o h1 h2 (f x o h1 h2 e)
theorem Fr2.same {H H1 H2 : Hp} {a b : Addr} (f : Fr2 H H1 a b) (g : Same H1 H2) : Fr2 H H2 a b := fun x o h1 h2 e => g x o (f x o h1 h2 e)
/-- what a row makes of a line -/
def Ln.step (v : Wd) (tags : List Str) (why : V) (l : Ln) : Ln := match v with
  | .ask => { l with q := l.q ++ tags }
  | .begin => { l with mark := after .begin l.mark, snd := tags.headD "", bgn := .str (tags.headD "") }
  | .finish => { l with mark := after .finish l.mark, q := l.q ++ [l.snd] }
  | .read => { l with q := l.q.tail }
  | .head => { l with mark := after .head l.mark }
  | .body => { l with mark := after .body l.mark, q := l.q.tail }
  | .drain => { l with mark := after .drain l.mark, q := [] }
  | .close => if l.mark = .closed then l else { l with mark := .closed, q := [], cause := why }
/-- rows that answer nothing: the line is stepped -/
def sp_step (K : PySem.W.Frag) (v : Wd) (tags : List Str) (as : List V) : Sp := fun vs H Q E => ∃ (a dx qa : Addr) (n : Nat) (l : Ln), vs = .ref a :: as ∧ LineAt K H a dx n l qa ∧ l.q.length ≤ 100000 ∧ tags.length ≤ 5 ∧
  (fault v l.mark l.q.length = none → ∀ H', Fr2 H H' a qa → LineAt K H' a dx n (l.step v tags .non) qa → Q .non H') ∧ Rz K H l n (fault v l.mark l.q.length) E
/-- rows that answer the first tag -/
def sp_tell (K : PySem.W.Frag) (v : Wd) : Sp := fun vs H Q E => ∃ (a dx qa : Addr) (n : Nat) (l : Ln), vs = [.ref a] ∧ LineAt K H a dx n l qa ∧ (fault v l.mark l.q.length = none → l.q ≠ []) ∧
  (fault v l.mark l.q.length = none → ∀ H', Fr2 H H' a qa → LineAt K H' a dx n (l.step v [] .non) qa → Q (.str (l.q.headD "")) H') ∧ Rz K H l n (fault v l.mark l.q.length) E
def sp_Line_begin (K : PySem.W.Frag) : Sp := fun vs H Q E => ∃ tag : Str, sp_step K .begin [tag] [.str tag] vs H Q E
def sp_ask_i (K : PySem.W.Frag) : Sp := fun vs H Q E => ∃ (a dx qa p : Addr) (n : Nat) (l : Ln) (tags : List Str), vs = [.ref a, .ref p] ∧ H p = some (.tup (tags.map V.str)) ∧ LineAt K H a dx n l qa ∧ l.q.length ≤ 100000 ∧ tags.length ≤ 5 ∧
  (fault .ask l.mark l.q.length = none → ∀ H', Fr2 H H' a qa → LineAt K H' a dx n (l.step .ask tags .non) qa → Q .non H') ∧ Rz K H l n (fault .ask l.mark l.q.length) E
def sp_Line_ask (K : PySem.W.Frag) : Sp := fun vs H Q E => ∃ tags : List Str, sp_step K .ask tags (tags.map V.str) vs H Q E
def sp_Line_drain (K : PySem.W.Frag) : Sp := fun vs H Q _ => ∃ (a dx qa : Addr) (n : Nat) (l : Ln), vs = [.ref a] ∧ LineAt K H a dx n l qa ∧
  ∀ H' t q', Fr2 H H' a a → H q' = none → H t = none → t ≠ q' → LineAt K H' a dx n (l.step .drain [] .non) q' → H' t = some (.lst (l.q.map V.str)) → Q (.ref t) H'
def sp_Line_close (K : PySem.W.Frag) : Sp := fun vs H Q _ => ∃ (a dx qa : Addr) (n : Nat) (l : Ln) (why : V), vs = [.ref a, why] ∧ LineAt K H a dx n l qa ∧ (l.mark = .closed → Q .non H) ∧
  (l.mark ≠ .closed → ∀ H' q', Fr2 H H' a a → H q' = none → LineAt K H' a dx n { l with mark := .closed, q := [], cause := why } q' → Q .non H')
def sp_Line_tags (K : PySem.W.Frag) : Sp := fun vs H Q _ => ∃ (a dx qa : Addr) (n : Nat) (l : Ln), vs = [.ref a] ∧ LineAt K H a dx n l qa ∧ ∀ H' t, Same H H' → H t = none → H' t = some (.lst (l.q.map V.str)) → Q (.ref t) H'
def sp_look (K : PySem.W.Frag) (g : Ln → V) : Sp := fun vs H Q _ => ∃ (a dx qa : Addr) (n : Nat) (l : Ln), vs = [.ref a] ∧ LineAt K H a dx n l qa ∧ Q (g l) H
def sp_Line_contains (K : PySem.W.Frag) : Sp := fun vs H Q _ => ∃ (a dx qa : Addr) (n : Nat) (l : Ln) (t : Str), vs = [.ref a, .str t] ∧ LineAt K H a dx n l qa ∧ Q (.bl (decide (t ∈ l.q))) H
abbrev gMark (l : Ln) : V := .str l.mark.s
abbrev gOpen (l : Ln) : V := .bl (decide (l.mark ≠ .closed))
abbrev gClean (l : Ln) : V := .bl (decide (l.mark = .whole ∧ l.q = []))
abbrev gOwed (l : Ln) : V := .int l.q.length
theorem fault_any {v : Wd} {m : Mk'} {a b : Nat} (h : v ≠ .read) (h2 : v ≠ .head) : fault v m a = fault v m b := by
  cases v <;> first | rfl | exact absurd rfl h | exact absurd rfl h2
theorem mark_closed {m : Mk'} : decide (V.str m.s = V.str "closed") = decide (m = .closed) := by
  cases m <;> decide +kernel
theorem mark_whole {m : Mk'} : decide (V.str m.s = V.str "whole") = decide (m = .whole) := by
  cases m <;> decide +kernel
theorem ln_mem {t : Str} {q : List Str} : inV (.str t) (q.map V.str) = decide (t ∈ q) := by
  induction q with
  | nil => rfl
  | cons x q ih =>
    show (eqV (.str x) (.str t) || inV (.str t) (q.map V.str)) = _
    rw [ih]
    have e : eqV (.str x) (.str t) = decide (t = x) := by
      show (x == t) = _
      by_cases h : x = t
      · subst h
        simp
      · rw [decide_eq_false (fun z => h z.symm)]
        exact beq_eq_false_iff_ne.mpr h
    rw [e]
    by_cases h : t = x <;> simp [h]
theorem flat_strs (q : List Str) : (q.map V.str).all flatV = true := by
  induction q with
  | nil => rfl
  | cons x q ih => exact ih
section
variable {P : Program} {w : World} {K : PySem.W.Frag} {mg : Str → Option Value} {base : Heap}
theorem sc_Line_need : FnScope ["self", "word", "owed", "fault"] ["self", "word", "owed"] (defScope (inClass (topS 20) 7)) := ⟨rfl, rfl, rfl, by decide +kernel, rfl, by decide +kernel, by decide +kernel⟩
theorem ok_Line_need (T : Tx P K mg) : MOk P w K mg base (L2.CX P w) 4 (CL K) "need" ["self", "word", "owed"] (sp_Line_need K) := by
  obtain ⟨f_row_fault, fd_row_fault, G_row_fault, m_row_fault, k_row_fault, b_row_fault⟩ := ok_row_fault (P := P) (w := w) (base := base) T
  obtain ⟨f, fd, F, M, fi⟩ := T.me ⟨"Line", 20, 7, "need", "Line.need"⟩ (by decide +kernel)
  refine ⟨f, fd, ?_, M, F.binds fun _ _ _ _ _ _ us hl => match us, hl with | [_, _, _], _ => rfl⟩
  refine F.okX sc_Line_need (fun vs H Q E h => ?_) (fun cdv A outer s H vs Q E hr h => ?_)
  · obtain ⟨_, _, _, _, _, _, _, rfl, _⟩ := h
    rfl
  have hu := hu_of hr
  refine ⟨_, (pss_cons (ps_set (i := 3) sc_Line_need.nd rfl (Or.inl rfl) (pe_call G_row_fault (hr.mono (by decide)) rfl m_row_fault k_row_fault b_row_fault .nil pass0 (pa_cons (pv 1) (pa_cons (pe_fld (pv 0) rfl) (pa_cons (pv 2) pa_nil)))))
      (pss_cons (ps_if (pt_cmpR op_eq (pv 3) pe_str (nomark _))
      (pss_one (OW.Xc.ps_raiseX rfl T.x_Closed T.g_Closed T.super (hr.mono (by decide) : Room 1 _) (takes_of rfl rfl rfl rfl) (pa_cons (pe_fld (pv 0) rfl) pa_nil)))
      pss_nil)
      (pss_cons (ps_if (pt_cmpR op_eq (pv 3) pe_str (nomark _))
      (pss_one (OW.Xa.ps_raiseX rfl T.x_Amid T.g_Amid T.super (hr.mono (by decide) : Room 1 _) (takes_of rfl rfl rfl rfl) (pa_cons (pe_fld (pv 0) rfl) pa_nil)))
      pss_nil)
      (pss_one (ps_if (pt_cmpR op_eq (pv 3) pe_str (nomark _))
      (pss_one (OW.Xs.ps_raiseX rfl T.x_Starved T.g_Starved T.super (hr.mono (by decide) : Room 1 _) (takes_of rfl rfl rfl rfl) (pa_cons (pe_fld (pv 0) rfl) pa_nil)))
      pss_nil))))), ?_⟩
  obtain ⟨a, dx, qa, n, owed, l, v, rfl, ho, k, z⟩ := h
  refine ⟨_, rfl, _, rfl, a, _, _, _, _, rfl, ho, T.clL, T.n_state, rfl, _, rfl, v, l.mark, owed, rfl, ?_⟩
  cases hf : fault v l.mark owed with
  | none =>
    refine ⟨_, rfl, rfl, _, rfl, iteF' (by decide +kernel) ⟨_, rfl, rfl, _, rfl, iteF' (by decide +kernel) ⟨_, rfl, rfl, _, rfl, iteF' (by decide +kernel) (k hf)⟩⟩⟩
  | some f =>
    rw [hf] at z
    cases f with
    | closed => exact ⟨_, rfl, rfl, _, rfl, iteT' (by decide +kernel) ⟨_, rfl, a, _, _, _, _, rfl, ho, T.clL, T.n_number, rfl, _, rfl, fun d hd => z.closed rfl _ d (Same.new hd) hd upd_same⟩⟩
    | amid => exact ⟨_, rfl, rfl, _, rfl, iteF' (by decide +kernel) ⟨_, rfl, rfl, _, rfl, iteT' (by decide +kernel) ⟨_, rfl, a, _, _, _, _, rfl, ho, T.clL, T.n_state, rfl, _, rfl, fun d hd => z.amid rfl _ d (Same.new hd) hd upd_same⟩⟩⟩
    | starved => exact ⟨_, rfl, rfl, _, rfl, iteF' (by decide +kernel) ⟨_, rfl, rfl, _, rfl, iteF' (by decide +kernel) ⟨_, rfl, rfl, _, rfl, iteT' (by decide +kernel) ⟨_, rfl, a, _, _, _, _, rfl, ho, T.clL, T.n_number, rfl, _, rfl, fun d hd => z.starved rfl _ d (Same.new hd) hd upd_same⟩⟩⟩⟩
theorem sc_Line_begin : FnScope ["self", "tag"] ["self", "tag"] (defScope (inClass (topS 20) 9)) := ⟨rfl, rfl, rfl, by decide +kernel, rfl, by decide +kernel, by decide +kernel⟩
theorem ok_Line_begin (T : Tx P K mg) : MOk P w K mg base (L2.CX P w) 5 (CL K) "begin" ["self", "tag"] (sp_Line_begin K) := by
  obtain ⟨f_Line_need, fd_Line_need, G_Line_need, M_Line_need, b_Line_need⟩ := ok_Line_need (P := P) (w := w) (base := base) T
  obtain ⟨f_mark_after, fd_mark_after, G_mark_after, m_mark_after, k_mark_after, b_mark_after⟩ := ok_mark_after (P := P) (w := w) (base := base) T
  obtain ⟨f, fd, F, M, fi⟩ := T.me ⟨"Line", 20, 9, "begin", "Line.begin"⟩ (by decide +kernel)
  refine ⟨f, fd, ?_, M, F.binds fun _ _ _ _ _ _ us hl => match us, hl with | [_, _], _ => rfl⟩
  refine F.okX sc_Line_begin (fun vs H Q E h => ?_) (fun cdv A outer s H vs Q E hr h => ?_)
  · obtain ⟨_, _, _, _, _, _, rfl, _⟩ := h
    rfl
  have hu := hu_of hr
  refine ⟨_, (pss_cons (ps_expr (pe_meth (pv 0) T.clL M_Line_need G_Line_need (hr.mono (by decide)) b_Line_need .nil (passes_call (takes_of rfl rfl rfl rfl) (fun _ _ _ _ z => z)) (pa_cons pe_str (pa_cons pe_int pa_nil))))
      (pss_cons (ps_fld (pv 0) (pe_call G_mark_after (hr.mono (by decide)) rfl m_mark_after k_mark_after b_mark_after .nil pass0 (pa_cons pe_str (pa_cons (pe_fld (pv 0) rfl) pa_nil))) rfl)
      (pss_one (ps_fld (pv 0) (pv 1) rfl)))), ?_⟩
  obtain ⟨tag, a, dx, qa, n, l, e, L, hz, ht, k, z⟩ := h
  cases e
  refine ⟨_, rfl, a, dx, _, rfl, L.obj, rfl, a, dx, qa, n, 0, l, .begin, rfl, L.obj, fun hf => ?_, by rw [fault_any (b := l.q.length) (by decide) (by decide)]; exact z⟩
  rw [fault_any (b := l.q.length) (by decide) (by decide)] at hf
  refine ⟨_, rfl, a, _, _, _, _, rfl, L.obj, T.clL, T.n_state, rfl, .begin, l.mark, rfl, _, rfl, a, _, dx, _, rfl, L.obj, T.clL, T.n_state, (by show 6 < 1000; decide), ?_⟩
  refine ⟨_, rfl, _, rfl, a, _, dx, _, rfl, upd_same, T.clL, T.n_sending, (by show 6 < 1000; decide), ?_⟩
  refine k hf _ ?_ ⟨?_, ?_⟩
  · rw [upd_upd]
    exact fr_upd
  · rw [upd_same]
    rfl
  · rw [upd_upd, upd_ne L.ne.symm]
    exact L.que
theorem sc_Line_finish : FnScope ["self"] ["self"] (defScope (inClass (topS 20) 10)) := ⟨rfl, rfl, rfl, by decide +kernel, rfl, by decide +kernel, by decide +kernel⟩
theorem ok_Line_finish (T : Tx P K mg) : MOk P w K mg base (L2.CX P w) 5 (CL K) "finish" ["self"] (sp_step K .finish [] []) := by
  obtain ⟨f_Line_need, fd_Line_need, G_Line_need, M_Line_need, b_Line_need⟩ := ok_Line_need (P := P) (w := w) (base := base) T
  obtain ⟨f_mark_after, fd_mark_after, G_mark_after, m_mark_after, k_mark_after, b_mark_after⟩ := ok_mark_after (P := P) (w := w) (base := base) T
  obtain ⟨f, fd, F, M, fi⟩ := T.me ⟨"Line", 20, 10, "finish", "Line.finish"⟩ (by decide +kernel)
  refine ⟨f, fd, ?_, M, F.binds fun _ _ _ _ _ _ us hl => match us, hl with | [_], _ => rfl⟩
  refine F.okX sc_Line_finish (fun vs H Q E h => ?_) (fun cdv A outer s H vs Q E hr h => ?_)
  · obtain ⟨_, _, _, _, _, rfl, _⟩ := h
    rfl
  have hu := hu_of hr
  refine ⟨_, (pss_cons (ps_expr (pe_meth (pv 0) T.clL M_Line_need G_Line_need (hr.mono (by decide)) b_Line_need .nil (passes_call (takes_of rfl rfl rfl rfl) (fun _ _ _ _ z => z)) (pa_cons pe_str (pa_cons pe_int pa_nil))))
      (pss_cons (ps_fld (pv 0) (pe_call G_mark_after (hr.mono (by decide)) rfl m_mark_after k_mark_after b_mark_after .nil pass0 (pa_cons pe_str (pa_cons (pe_fld (pv 0) rfl) pa_nil))) rfl)
      (pss_one (ps_expr (pe_bm PySem.F.plainAttrs_list PySem.F.slot_list_append PySem.F.type_list_append mt_append (pe_fld (pv 0) rfl) (pa_cons (pe_fld (pv 0) rfl) pa_nil)))))), ?_⟩
  obtain ⟨a, dx, qa, n, l, rfl, L, hz, ht, k, z⟩ := h
  refine ⟨_, rfl, a, dx, _, rfl, L.obj, rfl, a, dx, qa, n, 0, l, .finish, rfl, L.obj, fun hf => ?_, by rw [fault_any (b := l.q.length) (by decide) (by decide)]; exact z⟩
  rw [fault_any (b := l.q.length) (by decide) (by decide)] at hf
  refine ⟨_, rfl, a, _, _, _, _, rfl, L.obj, T.clL, T.n_state, rfl, .finish, l.mark, rfl, _, rfl, a, _, dx, _, rfl, L.obj, T.clL, T.n_state, (by show 6 < 1000; decide), ?_⟩
  have hq := L.que
  refine ⟨_, rfl, a, _, _, _, _, rfl, upd_same, T.clL, T.n_queue, rfl, .inl ⟨rfl, _, SqL.of (by rw [upd_ne L.ne.symm]; exact hq)⟩, _, rfl, a, _, _, _, _, rfl, upd_same, T.clL, T.n_sending, rfl, qa, _, _, rfl, rfl, (by rw [upd_ne L.ne.symm]; exact hq), ?_, ?_⟩
  · rw [List.length_map, sizeLine_eq]
    omega
  refine k hf _ (fr_upd2) ⟨?_, ?_⟩
  · rw [upd_ne L.ne, upd_same]
    rfl
  · rw [upd_same]
    show some (HO.lst (l.q.map V.str ++ [V.str l.snd])) = some (HO.lst ((l.q ++ [l.snd]).map V.str))
    rw [List.map_append]
    rfl
theorem sc_Line_read : FnScope ["self"] ["self"] (defScope (inClass (topS 20) 11)) := ⟨rfl, rfl, rfl, by decide +kernel, rfl, by decide +kernel, by decide +kernel⟩
theorem ok_Line_read (T : Tx P K mg) : MOk P w K mg base (L2.CX P w) 5 (CL K) "read" ["self"] (sp_tell K .read) := by
  obtain ⟨f_Line_need, fd_Line_need, G_Line_need, M_Line_need, b_Line_need⟩ := ok_Line_need (P := P) (w := w) (base := base) T
  obtain ⟨f, fd, F, M, fi⟩ := T.me ⟨"Line", 20, 11, "read", "Line.read"⟩ (by decide +kernel)
  refine ⟨f, fd, ?_, M, F.binds fun _ _ _ _ _ _ us hl => match us, hl with | [_], _ => rfl⟩
  refine F.okX sc_Line_read (fun vs H Q E h => ?_) (fun cdv A outer s H vs Q E hr h => ?_)
  · obtain ⟨_, _, _, _, _, rfl, _⟩ := h
    rfl
  have hu := hu_of hr
  refine ⟨_, (pss_cons (ps_expr (pe_meth (pv 0) T.clL M_Line_need G_Line_need (hr.mono (by decide)) b_Line_need .nil (passes_call (takes_of rfl rfl rfl rfl) (fun _ _ _ _ z => z)) (pa_cons pe_str (pa_cons (pe_callB call_len_seq (by rfl) T.len PySem.boot_len (pa_cons (pe_fld (pv 0) rfl) pa_nil)) pa_nil))))
      (pss_one (ps_ret (pe_bm PySem.F.plainAttrs_list PySem.F.slot_list_pop PySem.F.type_list_pop mt_popAt (pe_fld (pv 0) rfl) (pa_cons pe_int pa_nil))))), ?_⟩
  obtain ⟨a, dx, qa, n, l, rfl, L, hne, k, z⟩ := h
  refine ⟨_, rfl, a, dx, _, rfl, L.obj, rfl, _, rfl, a, _, _, _, _, rfl, L.obj, T.clL, T.n_queue, rfl, qa, _, rfl, .inl (SqL.of L.que), a, dx, qa, n, l.q.length, l, .read, by rw [List.length_map]; rfl, L.obj, fun hf => ?_, z⟩
  have hn := hne hf
  have k := k hf
  have hq := L.que
  cases e : l.q with
  | nil => exact absurd e hn
  | cons t ts =>
    rw [e] at hq k
    refine ⟨_, rfl, a, _, _, _, _, rfl, L.obj, T.clL, T.n_queue, rfl, .inl ⟨rfl, _, SqL.of hq⟩, qa, _, 0, 0, .str t, rfl, rfl, hq, by decide, by decide, seqIndex_of (by decide) (by show (0 : Int) < ((ts.map V.str).length + 1 : Nat); omega), rfl, ?_⟩
    refine k _ fr_updR ⟨?_, ?_⟩
    · rw [upd_ne L.ne]
      exact L.obj
    · rw [upd_same]
      show _ = some (HO.lst (l.q.tail.map V.str))
      rw [e]
      rfl
theorem sc_Line_head : FnScope ["self"] ["self"] (defScope (inClass (topS 20) 12)) := ⟨rfl, rfl, rfl, by decide +kernel, rfl, by decide +kernel, by decide +kernel⟩
theorem ok_Line_head (T : Tx P K mg) : MOk P w K mg base (L2.CX P w) 5 (CL K) "head" ["self"] (sp_tell K .head) := by
  obtain ⟨f_Line_need, fd_Line_need, G_Line_need, M_Line_need, b_Line_need⟩ := ok_Line_need (P := P) (w := w) (base := base) T
  obtain ⟨f_mark_after, fd_mark_after, G_mark_after, m_mark_after, k_mark_after, b_mark_after⟩ := ok_mark_after (P := P) (w := w) (base := base) T
  obtain ⟨f, fd, F, M, fi⟩ := T.me ⟨"Line", 20, 12, "head", "Line.head"⟩ (by decide +kernel)
  refine ⟨f, fd, ?_, M, F.binds fun _ _ _ _ _ _ us hl => match us, hl with | [_], _ => rfl⟩
  refine F.okX sc_Line_head (fun vs H Q E h => ?_) (fun cdv A outer s H vs Q E hr h => ?_)
  · obtain ⟨_, _, _, _, _, rfl, _⟩ := h
    rfl
  have hu := hu_of hr
  refine ⟨_, (pss_cons (ps_expr (pe_meth (pv 0) T.clL M_Line_need G_Line_need (hr.mono (by decide)) b_Line_need .nil (passes_call (takes_of rfl rfl rfl rfl) (fun _ _ _ _ z => z)) (pa_cons pe_str (pa_cons (pe_callB call_len_seq (by rfl) T.len PySem.boot_len (pa_cons (pe_fld (pv 0) rfl) pa_nil)) pa_nil))))
      (pss_cons (ps_fld (pv 0) (pe_call G_mark_after (hr.mono (by decide)) rfl m_mark_after k_mark_after b_mark_after .nil pass0 (pa_cons pe_str (pa_cons (pe_fld (pv 0) rfl) pa_nil))) rfl)
      (pss_one (ps_ret (pe_ix ix_list (pe_fld (pv 0) rfl) pe_int (fun _ _ => rfl)))))), ?_⟩
  obtain ⟨a, dx, qa, n, l, rfl, L, hne, k, z⟩ := h
  refine ⟨_, rfl, a, dx, _, rfl, L.obj, rfl, _, rfl, a, _, _, _, _, rfl, L.obj, T.clL, T.n_queue, rfl, qa, _, rfl, .inl (SqL.of L.que), a, dx, qa, n, l.q.length, l, .head, by rw [List.length_map]; rfl, L.obj, fun hf => ?_, z⟩
  have hn := hne hf
  have k := k hf
  refine ⟨_, rfl, a, _, _, _, _, rfl, L.obj, T.clL, T.n_state, rfl, .head, l.mark, rfl, _, rfl, a, _, dx, _, rfl, L.obj, T.clL, T.n_state, (by show 6 < 1000; decide), ?_⟩
  cases e : l.q with
  | nil => exact absurd e hn
  | cons t ts =>
    rw [e] at k
    refine ⟨_, rfl, a, _, _, _, _, rfl, upd_same, T.clL, T.n_queue, rfl, qa, _, _, .str t, rfl, rfl, SqL.of (by rw [upd_ne L.ne.symm]; exact L.que), atI_nat (j := 0) (by rw [e]; rfl), ?_⟩
    refine k _ fr_upd ⟨?_, ?_⟩
    · rw [upd_same]
      rfl
    · rw [upd_ne L.ne.symm]
      exact L.que
theorem sc_Line_body : FnScope ["self"] ["self"] (defScope (inClass (topS 20) 13)) := ⟨rfl, rfl, rfl, by decide +kernel, rfl, by decide +kernel, by decide +kernel⟩
theorem ok_Line_body (T : Tx P K mg) : MOk P w K mg base (L2.CX P w) 5 (CL K) "body" ["self"] (sp_tell K .body) := by
  obtain ⟨f_Line_need, fd_Line_need, G_Line_need, M_Line_need, b_Line_need⟩ := ok_Line_need (P := P) (w := w) (base := base) T
  obtain ⟨f_mark_after, fd_mark_after, G_mark_after, m_mark_after, k_mark_after, b_mark_after⟩ := ok_mark_after (P := P) (w := w) (base := base) T
  obtain ⟨f, fd, F, M, fi⟩ := T.me ⟨"Line", 20, 13, "body", "Line.body"⟩ (by decide +kernel)
  refine ⟨f, fd, ?_, M, F.binds fun _ _ _ _ _ _ us hl => match us, hl with | [_], _ => rfl⟩
  refine F.okX sc_Line_body (fun vs H Q E h => ?_) (fun cdv A outer s H vs Q E hr h => ?_)
  · obtain ⟨_, _, _, _, _, rfl, _⟩ := h
    rfl
  have hu := hu_of hr
  refine ⟨_, (pss_cons (ps_expr (pe_meth (pv 0) T.clL M_Line_need G_Line_need (hr.mono (by decide)) b_Line_need .nil (passes_call (takes_of rfl rfl rfl rfl) (fun _ _ _ _ z => z)) (pa_cons pe_str (pa_cons (pe_callB call_len_seq (by rfl) T.len PySem.boot_len (pa_cons (pe_fld (pv 0) rfl) pa_nil)) pa_nil))))
      (pss_cons (ps_fld (pv 0) (pe_call G_mark_after (hr.mono (by decide)) rfl m_mark_after k_mark_after b_mark_after .nil pass0 (pa_cons pe_str (pa_cons (pe_fld (pv 0) rfl) pa_nil))) rfl)
      (pss_one (ps_ret (pe_bm PySem.F.plainAttrs_list PySem.F.slot_list_pop PySem.F.type_list_pop mt_popAt (pe_fld (pv 0) rfl) (pa_cons pe_int pa_nil)))))), ?_⟩
  obtain ⟨a, dx, qa, n, l, rfl, L, hne, k, z⟩ := h
  refine ⟨_, rfl, a, dx, _, rfl, L.obj, rfl, _, rfl, a, _, _, _, _, rfl, L.obj, T.clL, T.n_queue, rfl, qa, _, rfl, .inl (SqL.of L.que), a, dx, qa, n, l.q.length, l, .body, by rw [List.length_map]; rfl, L.obj, fun hf => ?_, z⟩
  have hn := hne hf
  have k := k hf
  have hq := L.que
  refine ⟨_, rfl, a, _, _, _, _, rfl, L.obj, T.clL, T.n_state, rfl, .body, l.mark, rfl, _, rfl, a, _, dx, _, rfl, L.obj, T.clL, T.n_state, (by show 6 < 1000; decide), ?_⟩
  cases e : l.q with
  | nil => exact absurd e hn
  | cons t ts =>
    rw [e] at hq k
    have hq' : upd H a (HO.ins (CL K) dx (lnF n { l with mark := after .body l.mark } qa)) qa = some (.lst ((t :: ts).map V.str)) := by
      rw [upd_ne L.ne.symm]
      exact hq
    refine ⟨_, rfl, a, _, _, _, _, rfl, upd_same, T.clL, T.n_queue, rfl, .inl ⟨rfl, _, SqL.of hq'⟩, qa, _, 0, 0, .str t, rfl, rfl, hq', by decide, by decide, seqIndex_of (by decide) (by show (0 : Int) < ((ts.map V.str).length + 1 : Nat); omega), rfl, ?_⟩
    refine k _ fr_upd2 ⟨?_, ?_⟩
    · rw [upd_ne L.ne, upd_same]
      rfl
    · rw [upd_same]
      show _ = some (HO.lst (l.q.tail.map V.str))
      rw [e]
      rfl
theorem sc_Line_drain : FnScope ["self", "tags"] ["self"] (defScope (inClass (topS 20) 14)) := ⟨rfl, rfl, rfl, by decide +kernel, rfl, by decide +kernel, by decide +kernel⟩
theorem ok_Line_drain (T : Tx P K mg) : MOk P w K mg base CX0 3 (CL K) "drain" ["self"] (sp_Line_drain K) := by
  obtain ⟨f_mark_after, fd_mark_after, G_mark_after, m_mark_after, k_mark_after, b_mark_after⟩ := ok_mark_after (P := P) (w := w) (base := base) T
  obtain ⟨f, fd, F, M, fi⟩ := T.me ⟨"Line", 20, 14, "drain", "Line.drain"⟩ (by decide +kernel)
  refine ⟨f, fd, ?_, M, F.binds fun _ _ _ _ _ _ us hl => match us, hl with | [_], _ => rfl⟩
  refine F.ok sc_Line_drain (fun vs H Q E h => ?_) (fun cdv A outer s H vs Q E hr h => ?_)
  · obtain ⟨_, _, _, _, _, rfl, _⟩ := h
    rfl
  have hu := hu_of hr
  refine ⟨_, (pss_cons (ps_set (i := 1) sc_Line_drain.nd rfl (Or.inl rfl) (pe_callTy call_list_of (by rfl) T.list (by decide +kernel) (pa_cons (pe_fld (pv 0) rfl) pa_nil)))
      (pss_cons (ps_fld (pv 0) (pe_call G_mark_after (hr.mono (by decide)) rfl m_mark_after k_mark_after b_mark_after .nil pass0 (pa_cons pe_str (pa_cons (pe_fld (pv 0) rfl) pa_nil))) rfl)
      (pss_cons (ps_fld (pv 0) (pe_lst pa_nil) rfl)
      (pss_one (ps_ret (pv 1)))))), ?_⟩
  obtain ⟨a, dx, qa, n, l, rfl, L, k⟩ := h
  refine ⟨_, rfl, a, _, _, _, _, rfl, L.obj, T.clL, T.n_queue, rfl, qa, _, rfl, .inl (SqL.of L.que), fun t ht => ?_⟩
  have nat : a ≠ t := ne_of_none L.obj ht
  refine ⟨_, rfl, a, _, _, _, _, rfl, by rw [upd_ne nat]; exact L.obj, T.clL, T.n_state, rfl, .drain, l.mark, rfl, _, rfl, a, _, dx, _, rfl, by rw [upd_ne nat]; exact L.obj, T.clL, T.n_state, (by show 6 < 1000; decide), ?_⟩
  refine ⟨Nat.zero_le _, fun q' hq' => ?_⟩
  have naq : a ≠ q' := fun e => by
    rw [← e, upd_same] at hq'
    cases hq'
  have ntq : t ≠ q' := fun e => by
    rw [← e, upd_ne nat.symm, upd_same] at hq'
    cases hq'
  have hq0 : H q' = none := by
    rw [upd_ne naq.symm, upd_ne ntq.symm] at hq'
    exact hq'
  refine ⟨_, rfl, a, _, dx, _, rfl, by rw [upd_ne naq, upd_same], T.clL, T.n_queue, (by show 6 < 1000; decide), ?_⟩
  refine ⟨_, rfl, k _ t q' (fun x o h1 _ e => ?_) hq0 ht ntq ⟨?_, ?_⟩ ?_⟩
  · rw [upd_ne h1, upd_ne (ne_of_none e hq0), upd_ne h1, upd_ne (ne_of_none e ht)]
    exact e
  · rw [upd_same]
    rfl
  · rw [upd_ne naq.symm, upd_same]
    rfl
  · rw [upd_ne nat.symm, upd_ne ntq, upd_ne nat.symm, upd_same]
theorem sc_Line_tags : FnScope ["self"] ["self"] (defScope (inClass (topS 20) 16)) := ⟨rfl, rfl, rfl, by decide +kernel, rfl, by decide +kernel, by decide +kernel⟩
theorem ok_Line_tags (T : Tx P K mg) : MOk P w K mg base CX0 1 (CL K) "tags" ["self"] (sp_Line_tags K) := by
  obtain ⟨f, fd, F, M, fi⟩ := T.me ⟨"Line", 20, 16, "tags", "Line.tags"⟩ (by decide +kernel)
  refine ⟨f, fd, ?_, M, F.binds fun _ _ _ _ _ _ us hl => match us, hl with | [_], _ => rfl⟩
  refine F.ok sc_Line_tags (fun vs H Q E h => ?_) (fun cdv A outer s H vs Q E hr h => ?_)
  · obtain ⟨_, _, _, _, _, rfl, _⟩ := h
    rfl
  have hu := hu_of hr
  refine ⟨_, (pss_one (ps_ret (pe_callTy call_list_of (by rfl) T.list (by decide +kernel) (pa_cons (pe_fld (pv 0) rfl) pa_nil)))), ?_⟩
  obtain ⟨a, dx, qa, n, l, rfl, L, k⟩ := h
  exact ⟨_, rfl, a, _, _, _, _, rfl, L.obj, T.clL, T.n_queue, rfl, qa, _, rfl, .inl (SqL.of L.que), fun t ht => k _ t (Same.new ht) ht upd_same⟩
theorem sc_Line_len : FnScope ["self"] ["self"] (defScope (inClass (topS 20) 1)) := ⟨rfl, rfl, rfl, by decide +kernel, rfl, by decide +kernel, by decide +kernel⟩
theorem ok_Line_len (T : Tx P K mg) : SOk P w K mg base CX0 1 (CL K) "__len__" (sp_look K gOwed) := by
  obtain ⟨f, fd, F, M, fi⟩ := T.me ⟨"Line", 20, 1, "__len__", "Line.__len__"⟩ (by decide +kernel)
  have b := F.binds (ps := ["self"]) fun _ _ _ _ _ _ us hl => match us, hl with | [_], _ => rfl
  suffices G : FnOk P w K mg base CX0 1 f fd ["self"] (sp_look K gOwed) from ⟨f, FnR.imp (G.raw b .nil) (fun vs H Q E h => by rw [List.append_nil]; exact h), M.at_, M.fn, fi⟩
  refine F.ok sc_Line_len (fun vs H Q E h => ?_) (fun cdv A outer s H vs Q E hr h => ?_)
  · obtain ⟨_, _, _, _, _, rfl, _⟩ := h
    rfl
  have hu := hu_of hr
  refine ⟨_, (pss_one (ps_ret (pe_callB call_len_seq (by rfl) T.len PySem.boot_len (pa_cons (pe_fld (pv 0) rfl) pa_nil)))), ?_⟩
  obtain ⟨a, dx, qa, n, l, rfl, L, k⟩ := h
  refine ⟨_, rfl, a, _, _, _, _, rfl, L.obj, T.clL, T.n_queue, rfl, qa, _, rfl, .inl (SqL.of L.que), ?_⟩
  rw [List.length_map]
  exact k
theorem sc_Line_contains : FnScope ["self", "tag"] ["self", "tag"] (defScope (inClass (topS 20) 2)) := ⟨rfl, rfl, rfl, by decide +kernel, rfl, by decide +kernel, by decide +kernel⟩
theorem ok_Line_contains (T : Tx P K mg) : SOk P w K mg base CX0 1 (CL K) "__contains__" (sp_Line_contains K) := by
  obtain ⟨f, fd, F, M, fi⟩ := T.me ⟨"Line", 20, 2, "__contains__", "Line.__contains__"⟩ (by decide +kernel)
  have b := F.binds (ps := ["self", "tag"]) fun _ _ _ _ _ _ us hl => match us, hl with | [_, _], _ => rfl
  suffices G : FnOk P w K mg base CX0 1 f fd ["self", "tag"] (sp_Line_contains K) from ⟨f, FnR.imp (G.raw b .nil) (fun vs H Q E h => by rw [List.append_nil]; exact h), M.at_, M.fn, fi⟩
  refine F.ok sc_Line_contains (fun vs H Q E h => ?_) (fun cdv A outer s H vs Q E hr h => ?_)
  · obtain ⟨_, _, _, _, _, _, rfl, _⟩ := h
    rfl
  have hu := hu_of hr
  refine ⟨_, (pss_one (ps_ret (pe_cmpR op_in_seq (pv 1) (pe_fld (pv 0) rfl) (by rfl)))), ?_⟩
  obtain ⟨a, dx, qa, n, l, t, rfl, L, k⟩ := h
  refine ⟨_, rfl, _, rfl, a, _, _, _, _, rfl, L.obj, T.clL, T.n_queue, rfl, qa, _, rfl, .inl (SqL.of L.que), rfl, flat_strs _, ?_⟩
  show Q (.bl (inV (.str t) (l.q.map V.str))) H
  rw [ln_mem]
  exact k
theorem sc_Line_mark : FnScope ["self"] ["self"] (defScope (inClass (topS 20) 3)) := ⟨rfl, rfl, rfl, by decide +kernel, rfl, by decide +kernel, by decide +kernel⟩
theorem ok_Line_mark (T : Tx P K mg) : POk P w K mg base CX0 1 (CL K) "mark" (sp_look K gMark) := by
  obtain ⟨pa, f, fd, F, pp⟩ := T.pr (3, "mark", "Line.mark") (by decide +kernel)
  refine ⟨pa, f, fd, ?_, pp, F.binds fun _ _ _ _ _ _ us hl => match us, hl with | [_], _ => rfl⟩
  refine F.ok sc_Line_mark (fun vs H Q E h => ?_) (fun cdv A outer s H vs Q E hr h => ?_)
  · obtain ⟨_, _, _, _, _, rfl, _⟩ := h
    rfl
  have hu := hu_of hr
  refine ⟨_, (pss_one (ps_ret (pe_fld (pv 0) rfl))), ?_⟩
  obtain ⟨a, dx, qa, n, l, rfl, L, k⟩ := h
  exact ⟨_, rfl, a, _, _, _, _, rfl, L.obj, T.clL, T.n_state, rfl, k⟩
theorem sc_Line_is_open : FnScope ["self"] ["self"] (defScope (inClass (topS 20) 4)) := ⟨rfl, rfl, rfl, by decide +kernel, rfl, by decide +kernel, by decide +kernel⟩
theorem ok_Line_is_open (T : Tx P K mg) : POk P w K mg base CX0 1 (CL K) "is_open" (sp_look K gOpen) := by
  obtain ⟨pa, f, fd, F, pp⟩ := T.pr (4, "is_open", "Line.is_open") (by decide +kernel)
  refine ⟨pa, f, fd, ?_, pp, F.binds fun _ _ _ _ _ _ us hl => match us, hl with | [_], _ => rfl⟩
  refine F.ok sc_Line_is_open (fun vs H Q E h => ?_) (fun cdv A outer s H vs Q E hr h => ?_)
  · obtain ⟨_, _, _, _, _, rfl, _⟩ := h
    rfl
  have hu := hu_of hr
  refine ⟨_, (pss_one (ps_ret (pe_cmpR op_ne (pe_fld (pv 0) rfl) pe_str (nomark _)))), ?_⟩
  obtain ⟨a, dx, qa, n, l, rfl, L, k⟩ := h
  refine ⟨_, rfl, a, _, _, _, _, rfl, L.obj, T.clL, T.n_state, rfl, rfl, ?_⟩
  show Q (.bl (!decide (V.str l.mark.s = V.str "closed"))) H
  rw [mark_closed]
  exact qbl (by simp) k
theorem sc_Line_is_clean : FnScope ["self"] ["self"] (defScope (inClass (topS 20) 5)) := ⟨rfl, rfl, rfl, by decide +kernel, rfl, by decide +kernel, by decide +kernel⟩
theorem ok_Line_is_clean (T : Tx P K mg) : POk P w K mg base CX0 1 (CL K) "is_clean" (sp_look K gClean) := by
  obtain ⟨pa, f, fd, F, pp⟩ := T.pr (5, "is_clean", "Line.is_clean") (by decide +kernel)
  refine ⟨pa, f, fd, ?_, pp, F.binds fun _ _ _ _ _ _ us hl => match us, hl with | [_], _ => rfl⟩
  refine F.ok sc_Line_is_clean (fun vs H Q E h => ?_) (fun cdv A outer s H vs Q E hr h => ?_)
  · obtain ⟨_, _, _, _, _, rfl, _⟩ := h
    rfl
  have hu := hu_of hr
  refine ⟨_, (pss_one (ps_ret (pe_and (pe_cmpR op_eq (pe_fld (pv 0) rfl) pe_str (nomark _)) (pe_one (pe_cmpR op_eq (pe_callB call_len_seq (by rfl) T.len PySem.boot_len (pa_cons (pe_fld (pv 0) rfl) pa_nil)) pe_int (nomark _)))))), ?_⟩
  obtain ⟨a, dx, qa, n, l, rfl, L, k⟩ := h
  refine ⟨_, rfl, a, _, _, _, _, rfl, L.obj, T.clL, T.n_state, rfl, rfl, _, rfl, ?_⟩
  rw [mark_whole]
  by_cases hw : l.mark = .whole
  · rw [decide_eq_true hw]
    refine iteT ⟨_, rfl, a, _, _, _, _, rfl, L.obj, T.clL, T.n_queue, rfl, qa, _, rfl, .inl (SqL.of L.que), rfl, ?_⟩
    rw [List.length_map]
    refine qbl ?_ k
    rw [dec_int]
    cases l.q with
    | nil => simp [hw]
    | cons t ts => simp [hw]; omega
  · rw [decide_eq_false hw]
    exact iteF (qbl (by simp [hw]) k)
theorem sc_Line_owed : FnScope ["self"] ["self"] (defScope (inClass (topS 20) 6)) := ⟨rfl, rfl, rfl, by decide +kernel, rfl, by decide +kernel, by decide +kernel⟩
theorem ok_Line_owed (T : Tx P K mg) : POk P w K mg base CX0 1 (CL K) "owed" (sp_look K gOwed) := by
  obtain ⟨pa, f, fd, F, pp⟩ := T.pr (6, "owed", "Line.owed") (by decide +kernel)
  refine ⟨pa, f, fd, ?_, pp, F.binds fun _ _ _ _ _ _ us hl => match us, hl with | [_], _ => rfl⟩
  refine F.ok sc_Line_owed (fun vs H Q E h => ?_) (fun cdv A outer s H vs Q E hr h => ?_)
  · obtain ⟨_, _, _, _, _, rfl, _⟩ := h
    rfl
  have hu := hu_of hr
  refine ⟨_, (pss_one (ps_ret (pe_callB call_len_seq (by rfl) T.len PySem.boot_len (pa_cons (pe_fld (pv 0) rfl) pa_nil)))), ?_⟩
  obtain ⟨a, dx, qa, n, l, rfl, L, k⟩ := h
  refine ⟨_, rfl, a, _, _, _, _, rfl, L.obj, T.clL, T.n_queue, rfl, qa, _, rfl, .inl (SqL.of L.que), ?_⟩
  rw [List.length_map]
  exact k
end
end OA

set_option maxHeartbeats 4000000
/-! A line of the program: whole asks, closing, making. -/
namespace OA
open PySem PySem.Spec PyProof.Rows L2 OW
def sp_Line_init (K : PySem.W.Frag) : Sp := fun vs H Q _ => ∃ (a dx : Addr) (n : Nat), vs = [.ref a, .int n] ∧ H a = some (.ins (CL K) dx []) ∧
  ∀ H' q', Fr2 H H' a a → H q' = none → LineAt K H' a dx n ⟨.whole, [], "", .non, .non, false⟩ q' → Q .non H'
section
variable {P : Program} {w : World} {K : PySem.W.Frag} {mg : Str → Option Value} {base : Heap}
theorem non1 {ds : List Value} (r : Vals [V.non] ds) : ds = [Value.none] := by
  obtain ⟨u, e, q⟩ := vals1 r
  rw [e]
  cases (show u = Value.none from q)
  rfl
theorem sc_Line_close : FnScope ["self", "cause"] ["self", "cause"] (defScope (inClass (topS 20) 15)) := ⟨rfl, rfl, rfl, by decide +kernel, rfl, by decide +kernel, by decide +kernel⟩
theorem ok_Line_close (T : Tx P K mg) : ∃ f fd, FnOk P w K mg base CX0 1 f fd ["self", "cause"] (sp_Line_close K) ∧ Meth K (CL K) "close" f ∧ Binds K fd ["self", "cause"] [Value.none] ∧ Binds K fd ["self", "cause"] [] := by
  obtain ⟨f, fd, F, M⟩ := T.cL
  have h0 := F.binds1 (ps := ["self", "cause"]) 1 0 (by decide) rfl (fun T kV doc pm an cdv ct us its h1 h2 => match us, its, h1, h2 with | [a], [b], _, _ => ⟨_, rfl, rfl⟩)
  have h1 := F.binds1 (ps := ["self", "cause"]) 2 1 (by decide) rfl (fun T kV doc pm an cdv ct us its h1 h2 => match us, its, h1, h2 with | [a, c], [b], _, _ => ⟨_, rfl, rfl⟩)
  obtain ⟨ds, r0, b0⟩ := h0
  obtain ⟨ds1, r1, b1⟩ := h1
  cases non1 r0
  cases r1
  refine ⟨f, fd, ?_, M, b0, b1⟩
  refine F.ok sc_Line_close (fun vs H Q E h => ?_) (fun cdv A outer s H vs Q E hr h => ?_)
  · obtain ⟨_, _, _, _, _, _, rfl, _⟩ := h
    rfl
  have hu := hu_of hr
  refine ⟨_, (pss_one (ps_if (pt_cmpR op_ne (pe_fld (pv 0) rfl) pe_str (nomark _))
      (pss_cons (ps_fld (pv 0) pe_str rfl)
      (pss_cons (ps_fld (pv 0) (pv 1) rfl)
      (pss_one (ps_fld (pv 0) (pe_lst pa_nil) rfl))))
      pss_nil)), ?_⟩
  obtain ⟨a, dx, qa, n, l, why, rfl, L, k0, k⟩ := h
  refine ⟨_, rfl, a, _, _, _, _, rfl, L.obj, T.clL, T.n_state, rfl, rfl, _, rfl, ?_⟩
  rw [mark_closed]
  by_cases hm : l.mark = .closed
  · rw [decide_eq_true hm]
    exact iteF (k0 hm)
  · rw [decide_eq_false hm]
    refine iteT ⟨_, rfl, a, _, dx, _, rfl, L.obj, T.clL, T.n_state, (by show 6 < 1000; decide), ?_⟩
    refine ⟨_, rfl, _, rfl, a, _, dx, _, rfl, upd_same, T.clL, T.n_cause, (by show 6 < 1000; decide), ?_⟩
    refine ⟨Nat.zero_le _, fun q' hq' => ?_⟩
    have naq : a ≠ q' := fun e => by
      rw [← e, upd_same] at hq'
      cases hq'
    have hq0 : H q' = none := by
      rw [upd_ne naq.symm, upd_ne naq.symm] at hq'
      exact hq'
    refine ⟨_, rfl, a, _, dx, _, rfl, by rw [upd_ne naq, upd_same], T.clL, T.n_queue, (by show 6 < 1000; decide), ?_⟩
    refine k hm _ q' (fun x o h1 _ e => ?_) hq0 ⟨?_, ?_⟩
    · rw [upd_ne h1, upd_ne (ne_of_none e hq0), upd_ne h1, upd_ne h1]
      exact e
    · rw [upd_same]
      rfl
    · rw [upd_ne naq.symm, upd_same]
      rfl
theorem sc_Line_init : FnScope ["self", "number"] ["self", "number"] (defScope (inClass (topS 20) 0)) := ⟨rfl, rfl, rfl, by decide +kernel, rfl, by decide +kernel, by decide +kernel⟩
theorem ok_Line_init (T : Tx P K mg) : ∃ f fd, FnOk P w K mg base CX0 1 f fd ["self", "number"] (sp_Line_init K) ∧ Mk K (CL K) f ∧ Binds K fd ["self", "number"] [] := by
  obtain ⟨f, fd, F, M⟩ := T.iL
  have h1 := F.binds1 (ps := ["self", "number"]) 2 1 (by decide) rfl (fun T kV doc pm an cdv ct us its h1 h2 => match us, its, h1, h2 with | [a, c], [b], _, _ => ⟨_, rfl, rfl⟩)
  obtain ⟨ds1, r1, b1⟩ := h1
  cases r1
  refine ⟨f, fd, ?_, M, b1⟩
  refine F.ok sc_Line_init (fun vs H Q E h => ?_) (fun cdv A outer s H vs Q E hr h => ?_)
  · obtain ⟨_, _, _, rfl, _⟩ := h
    rfl
  have hu := hu_of hr
  refine ⟨_, (pss_cons (ps_fld (pv 0) (pv 1) rfl)
      (pss_cons (ps_fld (pv 0) pe_non rfl)
      (pss_cons (ps_fld (pv 0) pe_str rfl)
      (pss_cons (ps_fld (pv 0) (pe_lst pa_nil) rfl)
      (pss_cons (ps_fld (pv 0) pe_str rfl)
      (pss_one (ps_fld (pv 0) pe_bl rfl))))))), ?_⟩
  obtain ⟨a, dx, n, rfl, ho, k⟩ := h
  refine ⟨_, rfl, _, rfl, a, _, dx, _, rfl, ho, T.clL, T.n_number, (by show 0 < 1000; decide), ?_⟩
  refine ⟨_, rfl, a, _, dx, _, rfl, upd_same, T.clL, T.n_cause, (by show 1 < 1000; decide), ?_⟩
  refine ⟨_, rfl, a, _, dx, _, rfl, upd_same, T.clL, T.n_state, (by show 2 < 1000; decide), ?_⟩
  refine ⟨Nat.zero_le _, fun q' hq' => ?_⟩
  have naq : a ≠ q' := fun e => by
    rw [← e, upd_same] at hq'
    cases hq'
  have hq0 : H q' = none := by
    rw [upd_ne naq.symm, upd_ne naq.symm, upd_ne naq.symm] at hq'
    exact hq'
  refine ⟨_, rfl, a, _, dx, _, rfl, by rw [upd_ne naq, upd_same], T.clL, T.n_queue, (by show 3 < 1000; decide), ?_⟩
  refine ⟨_, rfl, a, _, dx, _, rfl, upd_same, T.clL, T.n_sending, (by show 4 < 1000; decide), ?_⟩
  refine ⟨_, rfl, a, _, dx, _, rfl, upd_same, T.clL, T.n_is_lent, (by show 5 < 1000; decide), ?_⟩
  refine k _ q' (fun x o h1 _ e => ?_) hq0 ⟨?_, ?_⟩
  · simp only [upd_ne h1, upd_ne (ne_of_none e hq0)]
    exact e
  · rw [upd_same]
    rfl
  · simp only [upd_ne naq.symm, upd_same]
    rfl
theorem sc_Line_ask : FnScope ["self", "tags"] ["self", "tags"] (defScope (inClass (topS 20) 8)) := ⟨rfl, rfl, rfl, by decide +kernel, rfl, by decide +kernel, by decide +kernel⟩
theorem ok_Line_ask (T : Tx P K mg) : ROk P w K mg base (L2.CX P w) 5 (CL K) "ask" (sp_Line_ask K) := by
  obtain ⟨f_Line_need, fd_Line_need, G_Line_need, M_Line_need, b_Line_need⟩ := ok_Line_need (P := P) (w := w) (base := base) T
  obtain ⟨f, fd, F, M, fi⟩ := T.me ⟨"Line", 20, 8, "ask", "Line.ask"⟩ (by decide +kernel)
  obtain ⟨oc, od, kV, doc, pm, an, cdv, ct, osl, rfl, lk, hcd⟩ := F.ex
  refine ⟨f, FnR.imp (StX.fn_star (ps := ["self"]) (pv := "tags") (k := 4) (sp := sp_ask_i K) lk hcd sc_Line_ask StX.cxUp (StX.bind_star1 (B := fun us => bindArgs _ ⟨us, []⟩) (p1 := "self") (pv := "tags") (fun _ => rfl) (fun _ _ _ => rfl)) (fun A outer s H vs Q E hr h => ?_)) (fun vs H Q E h => ?_), M⟩
  rotate_left
  · obtain ⟨tags, a, dx, qa, n, l, rfl, L, hz, ht, k, z⟩ := h
    refine ⟨[.ref a], tags.map V.str, rfl, rfl, by rw [List.length_map, sizeLine_eq]; omega, fun p hp => ?_⟩
    have sm : Same H (upd H p (.tup (tags.map V.str))) := Same.new hp
    exact ⟨a, dx, qa, p, n, l, tags, rfl, upd_same, L.same sm, hz, ht, fun hf H' fr L' => k hf H' (fun x o h1 h2 e => fr x o h1 h2 (sm x o e)) L', ⟨fun e H' d s hd => z.closed e H' d (Same.trans sm s) (sm.free hd), fun e H' d s hd => z.amid e H' d (Same.trans sm s) (sm.free hd), fun e H' d s hd => z.starved e H' d (Same.trans sm s) (sm.free hd)⟩⟩
  have hu := hu_of hr
  refine ⟨_, (pss_cons (ps_expr (pe_meth (pv 0) T.clL M_Line_need G_Line_need (hr.mono (by decide)) b_Line_need .nil (passes_call (takes_of rfl rfl rfl rfl) (fun _ _ _ _ z => z)) (pa_cons pe_str (pa_cons pe_int pa_nil))))
      (pss_one (ps_expr (pe_bm PySem.F.plainAttrs_list PySem.F.slot_list_extend PySem.F.type_list_extend OW.mt_extT (pe_fld (pv 0) rfl) (pa_cons (pv 1) pa_nil))))), ?_⟩
  obtain ⟨a, dx, qa, p, n, l, tags, rfl, hp, L, hz, ht, k, z⟩ := h
  refine ⟨_, rfl, a, dx, _, rfl, L.obj, rfl, a, dx, qa, n, 0, l, .ask, rfl, L.obj, fun hf => ?_, by rw [fault_any (b := l.q.length) (by decide) (by decide)]; exact z⟩
  rw [fault_any (b := l.q.length) (by decide) (by decide)] at hf
  refine ⟨_, rfl, a, _, _, _, _, rfl, L.obj, T.clL, T.n_queue, rfl, .inl ⟨rfl, _, SqL.of L.que⟩, _, rfl, qa, p, _, _, rfl, rfl, L.que, hp, ?_, ?_⟩
  · rw [List.length_map, List.length_map, sizeLine_eq]
    omega
  refine k hf _ fr_updR ⟨?_, ?_⟩
  · rw [upd_ne L.ne]
    exact L.obj
  · rw [upd_same]
    show some (HO.lst (l.q.map V.str ++ tags.map V.str)) = some (HO.lst ((l.q ++ tags).map V.str))
    rw [List.map_append]
end
end OA

set_option maxHeartbeats 4000000
/-! Doors: the words, the ways, what a door says of a way. -/
namespace OA
open PySem PySem.Spec PyProof.Rows L2 OW
inductive Dw | keep | close | check | drain | ping
deriving DecidableEq
def Dw.s : Dw → Str
  | .keep => "keep" | .close => "close" | .check => "check" | .drain => "drain" | .ping => "ping"
inductive Wy | done | ret1 | fail2 | cut2 | cut3
deriving DecidableEq
def Wy.k : Wy → List Key
  | .done => [] | .ret1 => [.inr "return", .inl 1] | .fail2 => [.inr "fail", .inl 2] | .cut2 => [.inr "cut", .inl 2] | .cut3 => [.inr "cut", .inl 3]
abbrev Wy.t (y : Wy) : List V := y.k.map kV
def reason : Wy → Str
  | .done | .ret1 => "end" | .fail2 => "fail" | .cut2 | .cut3 => "cut"
def df (e f c : Str) (o : Addr) : List (Str × V) := [("end", .str e), ("fail", .str f), ("cut", .str c), ("others", .ref o)]
structure DoorAt (K : PySem.W.Frag) (H : Hp) (a dx : Addr) (e f c : Dw) (o : Addr) (kvs : List (List Key × V)) : Prop where
  obj : H a = some (.ins (CD K) dx (df e.s f.s c.s o))
  oth : H o = some (.dT kvs)
theorem DoorAt.same {K : PySem.W.Frag} {H H' : Hp} {a dx o : Addr} {e f c : Dw} {kvs : List (List Key × V)} (D : DoorAt K H a dx e f c o kvs) (s : Same H H') : DoorAt K H' a dx e f c o kvs := ⟨s _ _ D.obj, s _ _ D.oth⟩
/-- the word for a reason -/
def byReason (e f c : Dw) : Wy → Dw
  | .done | .ret1 => e | .fail2 => f | .cut2 | .cut3 => c
abbrev two (u0 u1 : Dw) : List (List Key × V) := [(Wy.k .ret1, .str u0.s), (Wy.k .cut3, .str u1.s)]
/-- the word for a way -/
def wordOf (e f c u0 u1 : Dw) : Wy → Dw
  | .ret1 => u0 | .cut3 => u1 | y => byReason e f c y
def sp_reason_of : Sp := fun vs H Q _ => ∃ (p : Addr) (y : Wy), vs = [.ref p] ∧ H p = some (.tup y.t) ∧ Q (.str (reason y)) H
def sp_check_word : Sp := fun vs H Q _ => ∃ u : Dw, vs = [.str u.s] ∧ Q .non H
def sp_check_name : Sp := fun vs H Q _ => ∃ c : Nat, vs = [.str ⟨#[c]⟩] ∧ 97 ≤ c ∧ c ≤ 122 ∧ ∀ H', Same H H' → Q .non H'
def sp_Door_init (K : PySem.W.Frag) : Sp := fun vs H Q _ => ∃ (a dx : Addr) (e f c : Dw), vs = [.ref a, .str e.s, .str f.s, .str c.s] ∧ H a = some (.ins (CD K) dx []) ∧
  ∀ H' o, Fr2 H H' a a → H o = none → DoorAt K H' a dx e f c o [] → Q .non H'
def sp_Door_getitem (K : PySem.W.Frag) : Sp := fun vs H Q _ => ∃ (a dx o p : Addr) (e f c u0 u1 : Dw) (y : Wy), vs = [.ref a, .ref p] ∧ DoorAt K H a dx e f c o (two u0 u1) ∧ H p = some (.tup y.t) ∧ Q (.str (wordOf e f c u0 u1 y).s) H
def sp_Door_setitem (K : PySem.W.Frag) : Sp := fun vs H Q _ => ∃ (a dx o p : Addr) (e f c u : Dw) (y : Wy) (kvs : List (List Key × V)), vs = [.ref a, .ref p, .str u.s] ∧ DoorAt K H a dx e f c o kvs ∧ H p = some (.tup y.t) ∧ kvs.length ≤ 10 ∧
  ∀ H', Fr2 H H' o o → DoorAt K H' a dx e f c o (putK kvs y.k (.str u.s)) → Q .non H'
def sp_Door_copy (K : PySem.W.Frag) : Sp := fun vs H Q _ => ∃ (a dx o : Addr) (e f c u0 u1 : Dw), vs = [.ref a] ∧ DoorAt K H a dx e f c o (two u0 u1) ∧
  ∀ H' b dy o', Same H H' → H b = none → H o' = none → DoorAt K H' b dy e f c o' (two u0 u1) → Q (.ref b) H'
theorem same_put {H H' : Hp} {D : Addr} {o : HO} (s : Same H H') (h : H D = none) : Same H (upd H' D o) := fun b u e => by
  rw [upd_ne (ne_of_none e h)]
  exact s b u e
theorem letters_in {c : Nat} (h1 : 97 ≤ c) (h2 : c ≤ 122) : c ∈ letters.cps.toList := by
  have e : letters.cps.toList = (List.range 26).map (· + 97) := by decide +kernel
  rw [e, List.mem_map]
  exact ⟨c - 97, List.mem_range.mpr (by omega), by omega⟩
section
variable {P : Program} {w : World} {K : PySem.W.Frag} {mg : Str → Option Value} {base : Heap}
theorem sc_reason_of : FnScope ["way"] ["way"] (defScope (topS 10)) := ⟨rfl, rfl, rfl, by decide +kernel, rfl, by decide +kernel, by decide +kernel⟩
theorem ok_reason_of (T : Tx P K mg) : GOk P w K mg base CX0 1 "reason_of" ["way"] sp_reason_of := by
  obtain ⟨f, fd, F, gm⟩ := T.fn (10, "reason_of") (by decide +kernel)
  refine ⟨f, fd, ?_, gm, F.kp, F.binds fun _ _ _ _ _ _ us hl => match us, hl with | [_], _ => rfl⟩
  refine F.ok sc_reason_of (fun vs H Q E h => ?_) (fun cdv A outer s H vs Q E hr h => ?_)
  · obtain ⟨_, _, rfl, _⟩ := h
    rfl
  have hu := hu_of hr
  refine ⟨_, (pss_cons (ps_if (PW.pt (pw_or (pt_cmpR op_eq (pe_callB call_len_seq (by rfl) T.len PySem.boot_len (pa_cons (pv 0) pa_nil)) pe_int (nomark _)) (pw_or1 (pt_cmpR op_eq (pe_ix ix_tup (pv 0) pe_int (fun _ _ => rfl)) pe_str (nomark _)))))
      (pss_one (ps_ret pe_str))
      pss_nil)
      (pss_one (ps_ret (pe_ix ix_tup (pv 0) pe_int (fun _ _ => rfl))))), ?_⟩
  obtain ⟨p, y, rfl, hp, k⟩ := h
  refine ⟨_, rfl, p, _, rfl, .inr (SqT.of hp), rfl, _, rfl, ?_⟩
  cases y
  · exact iteT' (by decide +kernel) k
  all_goals refine iteF' (by decide +kernel) ⟨_, rfl, p, _, _, _, rfl, rfl, SqT.of hp, atI_nat (j := 0) rfl, rfl, _, rfl, ?_⟩
  · exact iteT' (by decide +kernel) k
  all_goals exact iteF' (by decide +kernel) ⟨_, rfl, p, _, _, _, rfl, rfl, SqT.of hp, atI_nat (j := 0) rfl, k⟩
theorem sc_check_word : FnScope ["word"] ["word"] (defScope (topS 24)) := ⟨rfl, rfl, rfl, by decide +kernel, rfl, by decide +kernel, by decide +kernel⟩
theorem ok_check_word (T : Tx P K mg) : GOk P w K mg base CX0 1 "check_word" ["word"] sp_check_word := by
  obtain ⟨f, fd, F, gm⟩ := T.fn (24, "check_word") (by decide +kernel)
  refine ⟨f, fd, ?_, gm, F.kp, F.binds fun _ _ _ _ _ _ us hl => match us, hl with | [_], _ => rfl⟩
  refine F.ok sc_check_word (fun vs H Q E h => ?_) (fun cdv A outer s H vs Q E hr h => ?_)
  · obtain ⟨_, rfl, _⟩ := h
    rfl
  have hu := hu_of hr
  refine ⟨_, (pss_one (ps_if (pt_cmpR op_notIn_seq (pv 0) (pe_glob (v := .ref _) rfl T.g_WORDS rfl) (by rfl))
      (pss_one ps_never)
      pss_nil)), ?_⟩
  obtain ⟨u, rfl, k⟩ := h
  refine ⟨_, rfl, _, _, rfl, Or.inr (T.wD _), rfl, by decide +kernel, _, rfl, iteF' (by cases u <;> decide +kernel) k⟩
theorem sc_check_name : FnScope ["name", "sign"] ["name"] (defScope (topS 25)) := ⟨rfl, rfl, rfl, by decide +kernel, rfl, by decide +kernel, by decide +kernel⟩
theorem ok_check_name (T : Tx P K mg) : GOk P w K mg base CX0 1 "check_name" ["name"] sp_check_name := by
  obtain ⟨tkL, gLET⟩ := T.g_LETTERS
  obtain ⟨f, fd, F, gm⟩ := T.fn (25, "check_name") (by decide +kernel)
  refine ⟨f, fd, ?_, gm, F.kp, F.binds fun _ _ _ _ _ _ us hl => match us, hl with | [_], _ => rfl⟩
  refine F.ok sc_check_name (fun vs H Q E h => ?_) (fun cdv A outer s H vs Q E hr h => ?_)
  · obtain ⟨_, rfl, _⟩ := h
    rfl
  have hu := hu_of hr
  refine ⟨_, (pss_one (ps_if (PW.pt (pw_or (pt_not (pt_chain op_le op_le pe_int (pe_callB call_len_str (by rfl) T.len PySem.boot_len (pa_cons (pv 0) pa_nil)) pe_int)) (pw_or1 (pt_val (pe_callB (cr_any rfl) (by rfl) T.any (by decide +kernel) (pa_cons (pe_lc (own := [("sign", 1)]) (by rfl) sc_check_name.nd (pi_str (pv 0)) (blkOk_by (own := [("sign", 1)]) (N := ["name", "sign"]) (sc := defScope (topS 25)) (by decide +kernel)) (fun _ _ _ _ _ => (pg_name (i := 1) sc_check_name.nd rfl (Or.inl rfl))) (fun _ _ _ _ _ => pts_nil) (fun _ _ _ _ _ => (pe_cmpR op_notIn_sign (pv 1) (pe_glob (v := .str letters) rfl gLET ⟨_, rfl⟩) (by rfl)))) pa_nil))))))
      (pss_one ps_never)
      pss_nil)), ?_⟩
  obtain ⟨c, rfl, h1, h2, k⟩ := h
  have e1 : decide ((1 : Int) ≤ ((⟨#[c]⟩ : Str).length : Int)) = true := by
    show decide ((1 : Int) ≤ ((1 : Nat) : Int)) = true
    decide
  have e2 : decide (((⟨#[c]⟩ : Str).length : Int) ≤ 8) = true := by
    show decide (((1 : Nat) : Int) ≤ 8) = true
    decide
  refine ⟨_, rfl, _, rfl, (by show 1 ≤ sizeLine; decide), _, _, rfl, rfl, _, rfl, iteT' e1 ⟨_, _, rfl, rfl, _, rfl, iteF' (by rw [e2]; rfl) ?_⟩⟩
  refine ⟨_, rfl, _, rfl, fun D hD => ?_⟩
  refine lc_it walk_str (fun i H' => Same H H' ∧ H' D = some (.lst (List.replicate i (.bl false)))) ⟨Same.new hD, upd_same⟩ (fun _ _ _ _ => trivial) ?_ ?_
  · rintro i x H1 H2 hi ⟨sm, hat⟩ ⟨rfl, c1, hc, rfl⟩
    have hi1 : i < 1 := hi
    have hi0 : i = 0 := by omega
    subst hi0
    have ec : c1 = c := by
      have z : some c = some c1 := hc
      exact (Option.some.inj z).symm
    subst ec
    have hin : c1 ∈ letters.cps.toList := letters_in h1 h2
    refine ⟨rfl, ?_⟩
    unfold tYes
    dsimp only
    rw [if_pos rfl]
    refine ⟨_, rfl, _, _, rfl, rfl, _, hat, by decide, same_put sm hD, ?_⟩
    rw [upd_same, decide_eq_true hin]
    rfl
  · rintro H1 ⟨sm, hat⟩
    have hat' : H1 D = some (.lst ([false].map V.bl)) := hat
    exact ⟨D, [false], rfl, SqL.of hat', _, rfl, iteF (k _ sm)⟩
theorem sc_Door_init : FnScope ["self", "end", "fail", "cut", "word"] ["self", "end", "fail", "cut"] (defScope (inClass (topS 26) 0)) := ⟨rfl, rfl, rfl, by decide +kernel, rfl, by decide +kernel, by decide +kernel⟩
theorem ok_Door_init (T : Tx P K mg) : ∃ f fd, FnOk P w K mg base CX0 2 f fd ["self", "end", "fail", "cut"] (sp_Door_init K) ∧ Mk K (CD K) f ∧ ∃ g, KBn K fd ["self", "end", "fail", "cut"] 1 ["end", "fail", "cut"] g (fun vs zs => vs ++ zs) := by
  obtain ⟨f_check_word, fd_check_word, G_check_word, m_check_word, k_check_word, b_check_word⟩ := ok_check_word (P := P) (w := w) (base := base) T
  obtain ⟨f, fd, F, M⟩ := T.iD
  have h1 := F.kbinds0 (ps := ["self", "end", "fail", "cut"]) 1 ["end", "fail", "cut"] [] (fun us _ ws => us ++ ws) (by decide) (fun q hq => by cases hq) (fun r1 _ r3 => r1.append r3) (fun D doc pm an cdv ct us mv ws h1 h2 h3 => match us, mv, ws, h1, h2, h3 with | [a], [], [b, c, d], _, _, _ => rfl)
  obtain ⟨mv, kb⟩ := h1
  refine ⟨f, fd, ?_, M, _, kb⟩
  refine F.ok sc_Door_init (fun vs H Q E h => ?_) (fun cdv A outer s H vs Q E hr h => ?_)
  · obtain ⟨_, _, _, _, _, rfl, _⟩ := h
    rfl
  have hu := hu_of hr
  refine ⟨_, (PSs.nox (pss_cons (ps_for PassesOwn.never rfl (pi_tup (pe_tup (pa_cons (pv 1) (pa_cons (pv 2) (pa_cons (pv 3) pa_nil))))) (pg_name (i := 4) sc_Door_init.nd rfl (Or.inl rfl))
      (pss_one (ps_expr (pe_call G_check_word (hr.mono (by decide)) rfl m_check_word k_check_word b_check_word .nil pass0 (pa_cons (pv 4) pa_nil)))))
      (pss_cons (ps_fld (pv 0) (pv 1) rfl)
      (pss_cons (ps_fld (pv 0) (pv 2) rfl)
      (pss_cons (ps_fld (pv 0) (pv 3) rfl)
      (pss_one (ps_fld (pv 0) pe_dnewT rfl))))))), ?_⟩
  obtain ⟨a, dx, e, f, c, rfl, ho, k⟩ := h
  refine ⟨_, rfl, _, rfl, _, rfl, (by show 3 ≤ sizeLine; decide), fun tp htp => ?_⟩
  have nat : a ≠ tp := ne_of_none ho htp
  refine ⟨tp, rfl, ⟨_, SqT.of upd_same⟩, for_it (walk_tup (K := K) (a := tp) (xs := [V.str e.s, .str f.s, .str c.s])) (fun i σ H' => H' = upd H tp (.tup [.str e.s, .str f.s, .str c.s]) ∧ ∃ v, σ = [some (.ref a), some (.str e.s), some (.str f.s), some (.str c.s), v]) ⟨rfl, none, rfl⟩ ?_ ?_ ?_⟩
  · rintro i σ H' hi ⟨rfl, _⟩
    exact SqT.of upd_same
  · rintro i x σ H1 H2 hi ⟨rfl, v, rfl⟩ ⟨rfl, hx⟩
    obtain ⟨u, rfl⟩ : ∃ u : Dw, x = .str u.s := by
      match i, hx with
      | 0, hx => exact ⟨e, (Option.some.inj hx).symm⟩
      | 1, hx => exact ⟨f, (Option.some.inj hx).symm⟩
      | 2, hx => exact ⟨c, (Option.some.inj hx).symm⟩
    exact ⟨_, rfl, u, rfl, rfl, _, rfl⟩
  rintro σ H1 ⟨rfl, v, rfl⟩
  refine ⟨_, rfl, _, rfl, a, _, dx, _, rfl, by rw [upd_ne nat]; exact ho, T.clD, T.n_end, (by show 0 < 1000; decide), ?_⟩
  refine ⟨_, rfl, _, rfl, a, _, dx, _, rfl, upd_same, T.clD, T.n_fail, (by show 1 < 1000; decide), ?_⟩
  refine ⟨_, rfl, _, rfl, a, _, dx, _, rfl, upd_same, T.clD, T.n_cut, (by show 2 < 1000; decide), ?_⟩
  intro o hq'
  have nao : a ≠ o := fun e => by
    rw [← e, upd_same] at hq'
    cases hq'
  have nto : tp ≠ o := fun e => by
    rw [← e, upd_ne nat.symm, upd_ne nat.symm, upd_ne nat.symm, upd_same] at hq'
    cases hq'
  have hq0 : H o = none := by
    simp only [upd_ne nao.symm, upd_ne nto.symm] at hq'
    exact hq'
  refine ⟨_, rfl, a, _, dx, _, rfl, by rw [upd_ne nao, upd_same], T.clD, T.n_others, (by show 3 < 1000; decide), ?_⟩
  refine k _ o (fun x u h1 _ e => ?_) hq0 ⟨?_, ?_⟩
  · simp only [upd_ne h1, upd_ne (ne_of_none e hq0), upd_ne (ne_of_none e htp)]
    exact e
  · rw [upd_same]
    rfl
  · rw [upd_ne nao.symm, upd_same]
theorem sc_Door_getitem : FnScope ["self", "way", "reason"] ["self", "way"] (defScope (inClass (topS 26) 1)) := ⟨rfl, rfl, rfl, by decide +kernel, rfl, by decide +kernel, by decide +kernel⟩
theorem ok_Door_getitem (T : Tx P K mg) : SOk P w K mg base CX0 2 (CD K) "__getitem__" (sp_Door_getitem K) := by
  obtain ⟨f_reason_of, fd_reason_of, G_reason_of, m_reason_of, k_reason_of, b_reason_of⟩ := ok_reason_of (P := P) (w := w) (base := base) T
  obtain ⟨f, fd, F, M, fi⟩ := T.me ⟨"Door", 26, 1, "__getitem__", "Door.__getitem__"⟩ (by decide +kernel)
  have b := F.binds (ps := ["self", "way"]) fun _ _ _ _ _ _ us hl => match us, hl with | [_, _], _ => rfl
  suffices G : FnOk P w K mg base CX0 2 f fd ["self", "way"] (sp_Door_getitem K) from ⟨f, FnR.imp (G.raw b .nil) (fun vs H Q E h => by rw [List.append_nil]; exact h), M.at_, M.fn, fi⟩
  refine F.ok sc_Door_getitem (fun vs H Q E h => ?_) (fun cdv A outer s H vs Q E hr h => ?_)
  · obtain ⟨_, _, _, _, _, _, _, _, _, _, rfl, _⟩ := h
    rfl
  have hu := hu_of hr
  refine ⟨_, (pss_cons (ps_set (i := 2) sc_Door_getitem.nd rfl (Or.inl rfl) (pe_call G_reason_of (hr.mono (by decide)) rfl m_reason_of k_reason_of b_reason_of .nil pass0 (pa_cons (pv 1) pa_nil)))
      (pss_cons (ps_if (pt_cmp (pc_din hu (pv 1) (pe_fld (pv 0) rfl)))
      (pss_one (ps_ret (pe_dget hu (pe_fld (pv 0) rfl) (pv 1) (fun _ _ => rfl))))
      pss_nil)
      (pss_cons (ps_if (pt_cmpR op_eq (pv 2) pe_str (nomark _))
      (pss_one (ps_ret (pe_fld (pv 0) rfl)))
      pss_nil)
      (pss_one (ps_ret (pe_ifExp (pt_cmpR op_eq (pv 2) pe_str (nomark _)) (pe_fld (pv 0) rfl) (pe_fld (pv 0) rfl))))))), ?_⟩
  obtain ⟨a, dx, o, p, e, f, c, u0, u1, y, rfl, D, hp, k⟩ := h
  have hd := DGet.t (k := y.k) D.oth hp
  refine ⟨_, rfl, p, y, rfl, hp, ?_⟩
  refine ⟨_, rfl, _, rfl, a, _, _, _, _, rfl, D.obj, T.clD, T.n_others, rfl, o, _, rfl, hd, _, rfl, ?_⟩
  cases y
  · refine iteF' (rfl) ⟨_, rfl, rfl, _, rfl, iteF' (by decide +kernel) ⟨_, rfl, rfl, _, rfl, iteF' (by decide +kernel) ⟨_, rfl, a, _, _, _, _, rfl, D.obj, T.clD, T.n_end, rfl, k⟩⟩⟩
  · exact iteT' (rfl) ⟨_, rfl, a, _, _, _, _, rfl, D.obj, T.clD, T.n_others, rfl, _, rfl, o, _, rfl, hd, k⟩
  · exact iteF' (rfl) ⟨_, rfl, rfl, _, rfl, iteT' (by decide +kernel) ⟨_, rfl, a, _, _, _, _, rfl, D.obj, T.clD, T.n_fail, rfl, k⟩⟩
  · exact iteF' (rfl) ⟨_, rfl, rfl, _, rfl, iteF' (by decide +kernel) ⟨_, rfl, rfl, _, rfl, iteT' (by decide +kernel) ⟨_, rfl, a, _, _, _, _, rfl, D.obj, T.clD, T.n_cut, rfl, k⟩⟩⟩
  · exact iteT' (rfl) ⟨_, rfl, a, _, _, _, _, rfl, D.obj, T.clD, T.n_others, rfl, _, rfl, o, _, rfl, hd, k⟩
theorem sc_Door_setitem : FnScope ["self", "way", "word"] ["self", "way", "word"] (defScope (inClass (topS 26) 2)) := ⟨rfl, rfl, rfl, by decide +kernel, rfl, by decide +kernel, by decide +kernel⟩
theorem ok_Door_setitem (T : Tx P K mg) : SOk P w K mg base CX0 2 (CD K) "__setitem__" (sp_Door_setitem K) := by
  obtain ⟨f_check_word, fd_check_word, G_check_word, m_check_word, k_check_word, b_check_word⟩ := ok_check_word (P := P) (w := w) (base := base) T
  obtain ⟨f, fd, F, M, fi⟩ := T.me ⟨"Door", 26, 2, "__setitem__", "Door.__setitem__"⟩ (by decide +kernel)
  have b := F.binds (ps := ["self", "way", "word"]) fun _ _ _ _ _ _ us hl => match us, hl with | [_, _, _], _ => rfl
  suffices G : FnOk P w K mg base CX0 2 f fd ["self", "way", "word"] (sp_Door_setitem K) from ⟨f, FnR.imp (G.raw b .nil) (fun vs H Q E h => by rw [List.append_nil]; exact h), M.at_, M.fn, fi⟩
  refine F.ok sc_Door_setitem (fun vs H Q E h => ?_) (fun cdv A outer s H vs Q E hr h => ?_)
  · obtain ⟨_, _, _, _, _, _, _, _, _, _, rfl, _⟩ := h
    rfl
  have hu := hu_of hr
  refine ⟨_, (pss_cons (ps_expr (pe_call G_check_word (hr.mono (by decide)) rfl m_check_word k_check_word b_check_word .nil pass0 (pa_cons (pv 2) pa_nil)))
      (pss_one (ps_asg (pv 2) (pg_sub (pe_fld (pv 0) rfl) (pv 1) (set_dict hu) (fun _ => rfl))))), ?_⟩
  obtain ⟨a, dx, o, p, e, f, c, u, y, kvs, rfl, D, hp, hl, k⟩ := h
  refine ⟨_, rfl, u, rfl, ?_⟩
  refine ⟨_, rfl, _, rfl, a, _, _, _, _, rfl, D.obj, T.clD, T.n_others, rfl, _, rfl, o, _, rfl, DPut.t (k := y.k) D.oth hp (Nat.lt_of_le_of_lt hl (by decide)), ?_⟩
  have nao : a ≠ o := ne_of D.obj D.oth (fun z => nomatch z)
  exact k _ fr_upd ⟨by rw [upd_ne nao]; exact D.obj, upd_same⟩
theorem sc_Door_copy : FnScope ["self", "other", "way"] ["self"] (defScope (inClass (topS 26) 5)) := ⟨rfl, rfl, rfl, by decide +kernel, rfl, by decide +kernel, by decide +kernel⟩
theorem ok_Door_copy (T : Tx P K mg) : MOk P w K mg base CX0 4 (CD K) "copy" ["self"] (sp_Door_copy K) := by
  obtain ⟨f_Door_init, fd_Door_init, G_Door_init, mk_Door, kbg, kb_Door_init⟩ := ok_Door_init (P := P) (w := w) (base := base) T
  obtain ⟨f_Door_setitem, R_Door_setitem, m_Door_setitem⟩ := ok_Door_setitem (P := P) (w := w) (base := base) T
  obtain ⟨mf_Door_setitem, mi_Door_setitem, mn_Door_setitem⟩ := m_Door_setitem
  obtain ⟨f, fd, F, M, fi⟩ := T.me ⟨"Door", 26, 5, "copy", "Door.copy"⟩ (by decide +kernel)
  refine ⟨f, fd, ?_, M, F.binds fun _ _ _ _ _ _ us hl => match us, hl with | [_], _ => rfl⟩
  refine F.ok sc_Door_copy (fun vs H Q E h => ?_) (fun cdv A outer s H vs Q E hr h => ?_)
  · obtain ⟨_, _, _, _, _, _, _, _, rfl, _⟩ := h
    rfl
  have hu := hu_of hr
  refine ⟨_, (pss_cons (ps_set (i := 1) sc_Door_copy.nd rfl (Or.inl rfl) (pe_makeK0 mk_Door G_Door_init (hr.mono (by decide)) rfl T.g_Door kb_Door_init pass0 (pk_cons (pe_fld (pv 0) rfl) (pk_cons (pe_fld (pv 0) rfl) (pk_cons (pe_fld (pv 0) rfl) pk_nil)))))
      (pss_cons (ps_lock (ps_for PassesOwn.never rfl (pi_keys (pe_fld (pv 0) rfl)) (pg_name (i := 2) sc_Door_copy.nd rfl (Or.inl rfl))
      (pss_one (ps_asg (pe_dget hu (pe_fld (pv 0) rfl) (pv 2) (fun _ _ => rfl)) (pg_sub (pv 1) (pv 2) (OW.set_O T.q_Door mf_Door_setitem mi_Door_setitem R_Door_setitem (hr.mono (by decide)) pass0) (fun _ => rfl))))))
      (pss_one (ps_ret (pv 1))))), ?_⟩
  obtain ⟨a, dx, o, e, f, c, u0, u1, rfl, D, k⟩ := h
  refine ⟨_, rfl, a, _, _, _, _, rfl, D.obj, T.clD, T.n_end, rfl, _, rfl, a, _, _, _, _, rfl, D.obj, T.clD, T.n_fail, rfl, _, rfl, a, _, _, _, _, rfl, D.obj, T.clD, T.n_cut, rfl, rfl, rfl, ?_⟩
  intro b dy hb hdy hne
  refine ⟨b, dy, e, f, c, rfl, upd_same, ?_⟩
  intro H1 o' fr ho' D'
  refine ⟨rfl, ?_⟩
  have s0 : Same H (upd (upd H dy (.own b)) b (.ins (CD K) dy [])) := fun x u q => by
    rw [upd_ne (ne_of_none q hb), upd_ne (ne_of_none q hdy)]
    exact q
  have s1 : Same H H1 := fun x u q => fr x u (ne_of_none q hb) (ne_of_none q hb) (s0 x u q)
  have hoo : o ≠ o' := fun z => by
    rw [← z] at ho'
    have q := s0 _ _ D.oth
    rw [ho'] at q
    cases q
  have hob : o ≠ b := ne_of_none D.oth hb
  have hob2 : o' ≠ b := fun z => by
    rw [z, upd_same] at ho'
    cases ho'
  have ho0 : H o' = none := by
    cases q : H o' with
    | none => rfl
    | some u =>
      rw [s0 _ _ q] at ho'
      cases ho'
  have D1 : DoorAt K H1 a dx e f c o (two u0 u1) := D.same s1
  refine ⟨o, _, D1.oth, trivial, fun od => ?_⟩
  have nao : a ≠ o := ne_of D.obj D.oth (fun z => nomatch z)
  have hf : ∀ {X : Hp}, (∀ x u, x ≠ o → H x = some u → X x = some u) → X a = some (.ins (CD K) dx (df e.s f.s c.s o)) := fun h => h _ _ nao D.obj
  refine ⟨_, rfl, a, _, _, _, _, rfl, by rw [upd_ne nao]; exact D1.obj, T.clD, T.n_others, rfl, o, od, rfl, .inr ⟨_, upd_same, ?_⟩⟩
  refine for_it (walk_keysT (kvs := two u0 u1)) (fun i σ H' => H' o = some (.frz od (.dT (two u0 u1))) ∧ (∀ x u, x ≠ o → H x = some u → H' x = some u) ∧ DoorAt K H' b dy e f c o' ((two u0 u1).take i) ∧ ∃ v, σ = [some (.ref a), some (.ref b), v])
    ⟨upd_same, fun x u hx q => by rw [upd_ne hx]; exact s1 x u q, ⟨by rw [upd_ne hob.symm]; exact D'.obj, by rw [upd_ne hoo.symm]; exact D'.oth⟩, none, rfl⟩ (fun i σ H' _ p => p.1) ?_ ?_
  · rintro i x σ H2 H3 hi ⟨p1, p2, p3, v, rfl⟩ ⟨rfl, ky, vy, q, hky, rfl, hq⟩
    have hi2 : i < 2 := hi
    obtain ⟨y, u, rfl, rfl, hgo⟩ : ∃ (y : Wy) (u : Dw), ky = y.k ∧ vy = .str u.s ∧ putK ((two u0 u1).take i) y.k (.str u.s) = (two u0 u1).take (i + 1) ∧ valV (two u0 u1) y.k = some (.str u.s) := by
      match i, hky with
      | 0, hky =>
        cases hky
        exact ⟨.ret1, u0, rfl, rfl, rfl, rfl⟩
      | 1, hky =>
        cases hky
        exact ⟨.cut3, u1, rfl, rfl, rfl, rfl⟩
    obtain ⟨e1, e2⟩ := hgo
    refine ⟨_, rfl, a, _, _, _, _, rfl, hf p2, T.clD, T.n_others, rfl, _, rfl, o, .str u.s, rfl, .inr ⟨two u0 u1, y.k, q, .inr ⟨od, p1⟩, rfl, hq, e2.symm⟩, ?_⟩
    refine ⟨_, rfl, _, rfl, b, _, _, rfl, p3.obj, b, dy, o', q, e, f, c, u, y, _, rfl, p3, hq, ?_, fun H4 fr4 D4 => ?_⟩
    · exact Nat.le_trans (List.length_take_le _ _) (by omega)
    · rw [e1] at D4
      refine ⟨fr4 _ _ hoo hoo p1, fun x u2 hx q2 => fr4 x u2 (ne_of_none q2 ho0) (ne_of_none q2 ho0) (p2 x u2 hx q2), D4, _, rfl⟩
  · rintro σ H2 ⟨p1, p2, p3, v, rfl⟩
    refine ⟨p1, _, rfl, ?_⟩
    refine k _ b dy o' (fun x u q => ?_) hb ho0 ⟨by rw [upd_ne hob.symm]; exact p3.obj, by rw [upd_ne hoo.symm]; exact p3.oth⟩
    by_cases hx : x = o
    · rw [hx, upd_same]
      rw [hx, D.oth] at q
      exact q
    · rw [upd_ne hx]
      exact p2 x u hx q
end
end OA

set_option maxHeartbeats 4000000
/-! How a line is given back. -/
namespace OA
open PySem PySem.Spec PyProof.Rows L2 OW
abbrev clean (l : Ln) : Bool := decide (l.mark = .whole ∧ l.q = [])
def mustClose (u : Dw) (l : Ln) : Bool := match u with
  | .check => !clean l
  | .drain => isOut l.mark
  | .ping => !decide (l.mark = .whole)
  | .close => true
  | .keep => false
/-- what giving back makes of a line -/
def giveL (u : Dw) (why : V) (l : Ln) : Ln :=
  if l.mark = .closed ∨ u = .keep then l else if mustClose u l = true then { l with mark := .closed, q := [], cause := why } else if u = .check then l else { l with mark := .whole, q := [] }
/-- how many answers it throws away -/
def giveN (u : Dw) (l : Ln) : Nat :=
  if l.mark = .closed ∨ u = .keep then 0 else if mustClose u l = true then 0 else if u = .check then 0 else if u = .ping then l.q.length + 1 else l.q.length
def sp_must_close (K : PySem.W.Frag) : Sp := fun vs H Q _ => ∃ (a dx qa : Addr) (n : Nat) (l : Ln) (u : Dw), vs = [.ref a, .str u.s] ∧ LineAt K H a dx n l qa ∧ Q (.bl (mustClose u l)) H
def sp_give_back (K : PySem.W.Frag) : Sp := fun vs H Q _ => ∃ (a dx qa : Addr) (n : Nat) (l : Ln) (u : Dw) (why : V), vs = [.ref a, .str u.s, why] ∧ LineAt K H a dx n l qa ∧ l.q.length ≤ 100000 ∧
  ∀ H' q', Fr2 H H' a qa → (q' = qa ∨ H q' = none) → LineAt K H' a dx n (giveL u why l) q' → Q (.int (giveN u l)) H'
theorem fr_refl {H : Hp} {a b : Addr} : Fr2 H H a b := fun _ _ _ _ e => e
theorem fr_left {H H' : Hp} {a b : Addr} (f : Fr2 H H' a a) : Fr2 H H' a b := fun x o h1 _ e => f x o h1 h1 e
section
variable {P : Program} {w : World} {K : PySem.W.Frag} {mg : Str → Option Value} {base : Heap}
theorem sc_must_close : FnScope ["line", "word"] ["line", "word"] (defScope (topS 27)) := ⟨rfl, rfl, rfl, by decide +kernel, rfl, by decide +kernel, by decide +kernel⟩
theorem ok_must_close (T : Tx P K mg) : GOk P w K mg base CX0 3 "must_close" ["line", "word"] (sp_must_close K) := by
  obtain ⟨pa_Line_is_clean, f_Line_is_clean, fd_Line_is_clean, G_Line_is_clean, p_Line_is_clean, b_Line_is_clean⟩ := ok_Line_is_clean (P := P) (w := w) (base := base) T
  obtain ⟨f_is_out, fd_is_out, G_is_out, m_is_out, k_is_out, b_is_out⟩ := ok_is_out (P := P) (w := w) (base := base) T
  obtain ⟨pa_Line_mark, f_Line_mark, fd_Line_mark, G_Line_mark, p_Line_mark, b_Line_mark⟩ := ok_Line_mark (P := P) (w := w) (base := base) T
  obtain ⟨f, fd, F, gm⟩ := T.fn (27, "must_close") (by decide +kernel)
  refine ⟨f, fd, ?_, gm, F.kp, F.binds fun _ _ _ _ _ _ us hl => match us, hl with | [_, _], _ => rfl⟩
  refine F.ok sc_must_close (fun vs H Q E h => ?_) (fun cdv A outer s H vs Q E hr h => ?_)
  · obtain ⟨_, _, _, _, _, _, rfl, _⟩ := h
    rfl
  have hu := hu_of hr
  refine ⟨_, (pss_cons (ps_if (pt_cmpR op_eq (pv 1) pe_str (nomark _))
      (pss_one (ps_ret (pe_not (pe_prop (pv 0) T.clL p_Line_is_clean G_Line_is_clean (hr.mono (by decide)) b_Line_is_clean .nil pass0 rfl))))
      pss_nil)
      (pss_cons (ps_if (pt_cmpR op_eq (pv 1) pe_str (nomark _))
      (pss_one (ps_ret (pe_call G_is_out (hr.mono (by decide)) rfl m_is_out k_is_out b_is_out .nil pass0 (pa_cons (pe_prop (pv 0) T.clL p_Line_mark G_Line_mark (hr.mono (by decide)) b_Line_mark .nil pass0 rfl) pa_nil))))
      pss_nil)
      (pss_cons (ps_if (pt_cmpR op_eq (pv 1) pe_str (nomark _))
      (pss_one (ps_ret (pe_cmpR op_ne (pe_prop (pv 0) T.clL p_Line_mark G_Line_mark (hr.mono (by decide)) b_Line_mark .nil pass0 rfl) pe_str (nomark _))))
      pss_nil)
      (pss_one (ps_ret (pe_cmpR op_eq (pv 1) pe_str (nomark _))))))), ?_⟩
  obtain ⟨a, dx, qa, n, l, u, rfl, L, k⟩ := h
  refine ⟨_, rfl, rfl, _, rfl, ?_⟩
  cases u
  · exact iteF' (by decide +kernel) ⟨_, rfl, rfl, _, rfl, iteF' (by decide +kernel) ⟨_, rfl, rfl, _, rfl, iteF' (by decide +kernel) ⟨_, rfl, rfl, qbl rfl k⟩⟩⟩
  · exact iteF' (by decide +kernel) ⟨_, rfl, rfl, _, rfl, iteF' (by decide +kernel) ⟨_, rfl, rfl, _, rfl, iteF' (by decide +kernel) ⟨_, rfl, rfl, qbl rfl k⟩⟩⟩
  · exact iteT' (by decide +kernel) ⟨_, rfl, a, dx, _, rfl, L.obj, a, dx, qa, n, l, rfl, L, _, rfl, k⟩
  · exact iteF' (by decide +kernel) ⟨_, rfl, rfl, _, rfl, iteT' (by decide +kernel) ⟨_, rfl, a, dx, _, rfl, L.obj, a, dx, qa, n, l, rfl, L, l.mark, rfl, k⟩⟩
  · refine iteF' (by decide +kernel) ⟨_, rfl, rfl, _, rfl, iteF' (by decide +kernel) ⟨_, rfl, rfl, _, rfl, iteT' (by decide +kernel) ⟨_, rfl, a, dx, _, rfl, L.obj, a, dx, qa, n, l, rfl, L, rfl, ?_⟩⟩⟩
    refine qbl ?_ k
    show (!decide (V.str l.mark.s = V.str "whole")) = _
    rw [mark_whole]
    rfl
theorem sc_give_back : FnScope ["line", "word", "way"] ["line", "word", "way"] (defScope (topS 28)) := ⟨rfl, rfl, rfl, by decide +kernel, rfl, by decide +kernel, by decide +kernel⟩
theorem ok_give_back (T : Tx P K mg) : GOk P w K mg base CX0 7 "give_back" ["line", "word", "way"] (sp_give_back K) := by
  obtain ⟨pa_Line_is_open, f_Line_is_open, fd_Line_is_open, G_Line_is_open, p_Line_is_open, b_Line_is_open⟩ := ok_Line_is_open (P := P) (w := w) (base := base) T
  obtain ⟨f_must_close, fd_must_close, G_must_close, m_must_close, k_must_close, b_must_close⟩ := ok_must_close (P := P) (w := w) (base := base) T
  obtain ⟨f_Line_close, fd_Line_close, G_Line_close, M_Line_close, b0_Line_close, b1_Line_close⟩ := ok_Line_close (P := P) (w := w) (base := base) T
  obtain ⟨f_Line_ask, R_Line_ask, m3_Line_ask⟩ := ok_Line_ask (P := P) (w := w) (base := base) T
  obtain ⟨f_Line_drain, fd_Line_drain, G_Line_drain, M_Line_drain, b_Line_drain⟩ := ok_Line_drain (P := P) (w := w) (base := base) T
  obtain ⟨f, fd, F, gm⟩ := T.fn (28, "give_back") (by decide +kernel)
  refine ⟨f, fd, ?_, gm, F.kp, F.binds fun _ _ _ _ _ _ us hl => match us, hl with | [_, _, _], _ => rfl⟩
  refine F.ok sc_give_back (fun vs H Q E h => ?_) (fun cdv A outer s H vs Q E hr h => ?_)
  · obtain ⟨_, _, _, _, _, _, _, rfl, _⟩ := h
    rfl
  have hu := hu_of hr
  refine ⟨_, (pss_cons (ps_if (PW.pt (pw_or (pt_not (pt_val (pe_prop (pv 0) T.clL p_Line_is_open G_Line_is_open (hr.mono (by decide)) b_Line_is_open .nil pass0 rfl))) (pw_or1 (pt_cmpR op_eq (pv 1) pe_str (nomark _)))))
      (pss_one (ps_ret pe_int))
      pss_nil)
      (pss_cons (ps_if (pt_val (pe_call G_must_close (hr.mono (by decide)) rfl m_must_close k_must_close b_must_close .nil pass0 (pa_cons (pv 0) (pa_cons (pv 1) pa_nil))))
      (pss_cons (ps_expr (pe_meth (pv 0) T.clL M_Line_close G_Line_close (hr.mono (by decide)) b1_Line_close .nil pass0 (pa_cons (pv 2) pa_nil)))
      (pss_one (ps_ret pe_int)))
      pss_nil)
      (pss_cons (ps_if (pt_cmpR op_eq (pv 1) pe_str (nomark _))
      (pss_one (ps_ret pe_int))
      pss_nil)
      (pss_cons (ps_if (pt_cmpR op_eq (pv 1) pe_str (nomark _))
      (pss_one (ps_expr (pe_methR (pv 0) T.clL m3_Line_ask R_Line_ask (hr.mono (by decide)) passL (pa_cons pe_str pa_nil))))
      pss_nil)
      (pss_one (ps_ret (pe_callB call_len_seq (by rfl) T.len PySem.boot_len (pa_cons (pe_meth0 (pv 0) T.clL M_Line_drain G_Line_drain (hr.mono (by decide)) b_Line_drain .nil pass0) pa_nil)))))))), ?_⟩
  obtain ⟨a, dx, qa, n, l, u, why, rfl, L, hz, k⟩ := h
  refine ⟨_, rfl, a, dx, _, rfl, L.obj, a, dx, qa, n, l, rfl, L, _, rfl, ?_⟩
  have keepit : l.mark = .closed ∨ u = .keep → Q (.int 0) H := fun hk => by
    have e1 : giveL u why l = l := if_pos hk
    have e2 : giveN u l = 0 := if_pos hk
    have z := k H qa fr_refl (Or.inl rfl)
    rw [e1, e2] at z
    exact z L
  by_cases hm : l.mark = .closed
  · exact iteT' (by simp [hm]) (iteT (keepit (Or.inl hm)))
  refine iteF' (by simp [hm]) ⟨_, rfl, rfl, _, rfl, ?_⟩
  by_cases hk : u = .keep
  · subst hk
    exact iteT' (by decide +kernel) (keepit (Or.inr rfl))
  refine iteF' (by cases u <;> first | decide +kernel | exact absurd rfl hk) ?_
  have nk : ¬ (l.mark = .closed ∨ u = .keep) := fun z => z.elim hm hk
  refine ⟨_, rfl, _, rfl, a, dx, qa, n, l, u, rfl, L, _, rfl, ?_⟩
  by_cases hc : mustClose u l = true
  · have e1 : giveL u why l = { l with mark := .closed, q := [], cause := why } := by
      unfold giveL
      rw [if_neg nk, if_pos hc]
    have e2 : giveN u l = 0 := by
      unfold giveN
      rw [if_neg nk, if_pos hc]
    rw [e1, e2] at k
    refine iteT' hc ⟨_, rfl, a, dx, _, rfl, L.obj, rfl, _, rfl, a, dx, qa, n, l, why, rfl, L, fun z => absurd z hm, fun _ H' q' fr hq' L' => ?_⟩
    exact k H' q' (fr_left fr) (Or.inr hq') L'
  have hc' : mustClose u l = false := by simpa using hc
  refine iteF' hc' ⟨_, rfl, rfl, _, rfl, ?_⟩
  have f0 : l.mark = .whole → fault .ask l.mark l.q.length = none := fun e => by
    rw [e]
    rfl
  cases u with
  | keep => exact absurd rfl hk
  | close => exact absurd rfl hc
  | check =>
    have e1 : giveL .check why l = l := by
      unfold giveL
      rw [if_neg nk, if_neg hc]
      rfl
    have e2 : giveN .check l = 0 := by
      unfold giveN
      rw [if_neg nk, if_neg hc]
      rfl
    rw [e1, e2] at k
    exact iteT' (by decide +kernel) (k H qa fr_refl (Or.inl rfl) L)
  | drain =>
    have e1 : giveL .drain why l = { l with mark := .whole, q := [] } := by
      unfold giveL
      rw [if_neg nk, if_neg hc]
      rfl
    have e2 : giveN .drain l = l.q.length := by
      unfold giveN
      rw [if_neg nk, if_neg hc]
      rfl
    rw [e1, e2] at k
    refine iteF' (by decide +kernel) ⟨_, rfl, rfl, _, rfl, iteF' (by decide +kernel) ⟨_, rfl, a, dx, _, rfl, L.obj, rfl, a, dx, qa, n, l, rfl, L, fun H' t q' fr hq' ht ntq L' hT => ?_⟩⟩
    refine ⟨t, _, rfl, .inl (SqL.of hT), ?_⟩
    have em : after .drain l.mark = .whole := by
      have ho : isOut l.mark = false := hc'
      clear k keepit nk hc hc' e1 e2 f0 hk L L'
      revert ho hm
      cases l.mark <;> intro hm ho <;> first | exact absurd rfl hm | rfl | cases ho
    rw [List.length_map]
    refine k H' q' (fr_left fr) (Or.inr hq') ?_
    have z : l.step .drain [] .non = { l with mark := .whole, q := [] } := by
      show ({ l with mark := after .drain l.mark, q := [] } : Ln) = _
      rw [em]
    rw [← z]
    exact L'
  | ping =>
    have hw : l.mark = .whole := by
      have z : (!decide (l.mark = .whole)) = false := hc'
      simpa using z
    have e1 : giveL .ping why l = { l with mark := .whole, q := [] } := by
      unfold giveL
      rw [if_neg nk, if_neg hc]
      rfl
    have e2 : giveN .ping l = l.q.length + 1 := by
      unfold giveN
      rw [if_neg nk, if_neg hc]
      rfl
    rw [e1, e2] at k
    have fn := f0 hw
    refine iteF' (by decide +kernel) ⟨_, rfl, rfl, _, rfl, iteT' (by decide +kernel) ⟨_, rfl, a, dx, _, rfl, L.obj, rfl, ["ping"], a, dx, qa, n, l, rfl, L, hz, by decide, fun _ H1 fr1 L1 => ?_, ?_⟩⟩
    case refine_2 => exact ⟨fun e => (nomatch (fn.symm.trans e)), fun e => (nomatch (fn.symm.trans e)), fun e => (nomatch (fn.symm.trans e))⟩
    refine ⟨_, rfl, a, dx, _, rfl, L1.obj, rfl, a, dx, qa, n, _, rfl, L1, fun H' t q' fr hq' ht ntq L' hT => ?_⟩
    refine ⟨t, _, rfl, .inl (SqL.of hT), ?_⟩
    have hq0 : H q' = none := by
      cases e : H q' with
      | none => rfl
      | some o =>
        by_cases ha : q' = a
        · rw [ha, L1.obj] at hq'
          cases hq'
        · by_cases hb : q' = qa
          · rw [hb, L1.que] at hq'
            cases hq'
          · rw [fr1 _ _ ha hb e] at hq'
            cases hq'
    have z := k H' q' (Fr2.trans fr1 (fr_left fr)) (Or.inr hq0) (by
      have e : (l.step .ask ["ping"] .non).step .drain [] .non = { l with mark := .whole, q := [] } := by
        show ({ l with mark := after .drain l.mark, q := [] } : Ln) = _
        rw [hw]
        rfl
      rw [← e]
      exact L')
    have e : ((List.map V.str (l.step .ask ["ping"] .non).q).length : Int) = ((l.q.length + 1 : Nat) : Int) := by
      show ((List.map V.str (l.q ++ [("ping" : Str)])).length : Int) = _
      rw [List.length_map, List.length_append]
      rfl
    rw [e]
    exact z
end
end OA

set_option maxHeartbeats 4000000
/-! A pool: making, looking. -/
namespace OA
open PySem PySem.Spec PyProof.Rows L2 OW
/-- a line with the places of what belongs to it: the line and its queue in the program, the entry and its queue in the law -/
structure Rec where
  a : Addr
  dx : Addr
  qa : Addr
  nw : Addr
  kq : Addr
  l : Ln
def LnsAt (K : PySem.W.Frag) (H : Hp) (rs : List Rec) : Prop := ∀ i r, rs[i]? = some r → LineAt K H r.a r.dx i r.l r.qa
theorem LnsAt.same {K : PySem.W.Frag} {H H' : Hp} {rs : List Rec} (h : LnsAt K H rs) (s : Same H H') : LnsAt K H' rs := fun i r e => (h i r e).same s
def selFrom (f : Ln → Bool) : Nat → List Rec → List Nat
  | _, [] => []
  | k, r :: rs => if f r.l = true then k :: selFrom f (k + 1) rs else selFrom f (k + 1) rs
theorem selFrom_append (f : Ln → Bool) : ∀ (k : Nat) (xs ys : List Rec), selFrom f k (xs ++ ys) = selFrom f k xs ++ selFrom f (k + xs.length) ys
  | k, [], ys => rfl
  | k, x :: xs, ys => by
    show (if f x.l = true then k :: selFrom f (k + 1) (xs ++ ys) else selFrom f (k + 1) (xs ++ ys)) = (if f x.l = true then k :: selFrom f (k + 1) xs else selFrom f (k + 1) xs) ++ selFrom f (k + (xs.length + 1)) ys
    rw [selFrom_append f (k + 1) xs ys, show k + 1 + xs.length = k + (xs.length + 1) by omega]
    cases f x.l <;> rfl
/-- the numbers of the lines that f takes -/
abbrev sel (f : Ln → Bool) (rs : List Rec) : List Nat := selFrom f 0 rs
theorem take_one {α : Type} {xs : List α} {i : Nat} {x : α} (h : xs[i]? = some x) : xs.take (i + 1) = xs.take i ++ [x] := by
  rw [List.take_succ, h]
  rfl
theorem sel_take {f : Ln → Bool} {rs : List Rec} {i : Nat} {r : Rec} (h : rs[i]? = some r) : sel f (rs.take (i + 1)) = if f r.l = true then sel f (rs.take i) ++ [i] else sel f (rs.take i) := by
  have hi : i < rs.length := (List.getElem?_eq_some_iff.mp h).1
  show selFrom f 0 (rs.take (i + 1)) = _
  rw [take_one h, selFrom_append, List.length_take, Nat.min_eq_left (Nat.le_of_lt hi), Nat.zero_add]
  show selFrom f 0 (rs.take i) ++ (if f r.l = true then [i] else []) = _
  cases f r.l
  · rw [if_neg (by decide), List.append_nil, if_neg (by decide)]
  · rw [if_pos rfl, if_pos rfl]
theorem sel_len (f : Ln → Bool) : ∀ (k : Nat) (rs : List Rec), (selFrom f k rs).length ≤ rs.length
  | _, [] => Nat.le_refl _
  | k, r :: rs => by
    have h := sel_len f (k + 1) rs
    show (if f r.l = true then k :: selFrom f (k + 1) rs else selFrom f (k + 1) rs).length ≤ _
    cases f r.l
    · exact Nat.le_succ_of_le h
    · exact Nat.succ_le_succ h
theorem sel_lt {f : Ln → Bool} {rs : List Rec} {i : Nat} (h : i < rs.length) : (sel f (rs.take i)).length < 1000 + rs.length := by
  have h1 := sel_len f 0 (rs.take i)
  rw [List.length_take] at h1
  show (selFrom f 0 (rs.take i)).length < _
  omega
abbrev fIdle (l : Ln) : Bool := decide (l.mark ≠ .closed) && !l.lent
abbrev fLent (l : Ln) : Bool := l.lent
abbrev nums (ns : List Nat) : List V := ns.map fun i => .int (i : Nat)
theorem nums_snoc (ns : List Nat) (i : Nat) : nums (ns ++ [i]) = nums ns ++ [.int i] := List.map_append
def pf (d L t : Addr) (th : Int) (c : Addr) : List (Str × V) := [("door", .ref d), ("lines", .ref L), ("lost", .ref t), ("thrown", .int th), ("counts", .ref c)]
def sp_Pool_init (K : PySem.W.Frag) : Sp := fun vs H Q _ => ∃ (p dp d0 dx o : Addr) (e f c u0 u1 : Dw), vs = [.ref p, .ref d0] ∧ H p = some (.ins (CP K) dp []) ∧ DoorAt K H d0 dx e f c o (two u0 u1) ∧
  ∀ H' d dd o' L t c', Fr2 H H' p p → H d = none → H o' = none → H L = none → H t = none → H c' = none → H' p = some (.ins (CP K) dp (pf d L t 0 c')) → DoorAt K H' d dd e f c o' (two u0 u1) → H' L = some (.lst []) → H' t = some (.tup []) → Q .non H'
def sp_Pool_len (K : PySem.W.Frag) : Sp := fun vs H Q _ => ∃ (p dp d L t c : Addr) (th : Int) (xs : List V), vs = [.ref p] ∧ H p = some (.ins (CP K) dp (pf d L t th c)) ∧ H L = some (.lst xs) ∧ Q (.int xs.length) H
def sp_sel (K : PySem.W.Frag) (f : Ln → Bool) : Sp := fun vs H Q _ => ∃ (p dp d L t c : Addr) (th : Int) (rs : List Rec), vs = [.ref p] ∧ H p = some (.ins (CP K) dp (pf d L t th c)) ∧ H L = some (.lst (rs.map fun r => .ref r.a)) ∧ LnsAt K H rs ∧ rs.length ≤ 1000 ∧
  ∀ H' b, Same H H' → H b = none → H' b = some (.lst (nums (sel f rs))) → Q (.ref b) H'
section
variable {P : Program} {w : World} {K : PySem.W.Frag} {mg : Str → Option Value} {base : Heap}
theorem sc_Pool_len : FnScope ["self"] ["self"] (defScope (inClass (topS 29) 1)) := ⟨rfl, rfl, rfl, by decide +kernel, rfl, by decide +kernel, by decide +kernel⟩
theorem ok_Pool_len (T : Tx P K mg) : SOk P w K mg base CX0 1 (CP K) "__len__" (sp_Pool_len K) := by
  obtain ⟨f, fd, F, M, fi⟩ := T.me ⟨"Pool", 29, 1, "__len__", "Pool.__len__"⟩ (by decide +kernel)
  have b := F.binds (ps := ["self"]) fun _ _ _ _ _ _ us hl => match us, hl with | [_], _ => rfl
  suffices G : FnOk P w K mg base CX0 1 f fd ["self"] (sp_Pool_len K) from ⟨f, FnR.imp (G.raw b .nil) (fun vs H Q E h => by rw [List.append_nil]; exact h), M.at_, M.fn, fi⟩
  refine F.ok sc_Pool_len (fun vs H Q E h => ?_) (fun cdv A outer s H vs Q E hr h => ?_)
  · obtain ⟨_, _, _, _, _, _, _, _, rfl, _⟩ := h
    rfl
  have hu := hu_of hr
  refine ⟨_, (pss_one (ps_ret (pe_callB call_len_seq (by rfl) T.len PySem.boot_len (pa_cons (pe_fld (pv 0) rfl) pa_nil)))), ?_⟩
  obtain ⟨p, dp, d, L, t, c, th, xs, rfl, hp, hL, k⟩ := h
  exact ⟨_, rfl, p, _, _, _, _, rfl, hp, T.clP, T.n_lines, rfl, L, _, rfl, .inl (SqL.of hL), k⟩
theorem sc_Pool_idle : FnScope ["self", "line"] ["self"] (defScope (inClass (topS 29) 5)) := ⟨rfl, rfl, rfl, by decide +kernel, rfl, by decide +kernel, by decide +kernel⟩
theorem ok_Pool_idle (T : Tx P K mg) : MOk P w K mg base CX0 3 (CP K) "idle" ["self"] (sp_sel K fIdle) := by
  obtain ⟨pa_Line_is_open, f_Line_is_open, fd_Line_is_open, G_Line_is_open, p_Line_is_open, b_Line_is_open⟩ := ok_Line_is_open (P := P) (w := w) (base := base) T
  obtain ⟨f, fd, F, M, fi⟩ := T.me ⟨"Pool", 29, 5, "idle", "Pool.idle"⟩ (by decide +kernel)
  refine ⟨f, fd, ?_, M, F.binds fun _ _ _ _ _ _ us hl => match us, hl with | [_], _ => rfl⟩
  refine F.ok sc_Pool_idle (fun vs H Q E h => ?_) (fun cdv A outer s H vs Q E hr h => ?_)
  · obtain ⟨_, _, _, _, _, _, _, _, rfl, _⟩ := h
    rfl
  have hu := hu_of hr
  refine ⟨_, (pss_one (ps_ret (pe_lc (own := [("line", 1)]) (by rfl) sc_Pool_idle.nd (pi_list (pe_fld (pv 0) rfl)) (blkOk_by (own := [("line", 1)]) (N := ["self", "line"]) (sc := defScope (inClass (topS 29) 5)) (by decide +kernel)) (fun _ _ _ _ _ => (pg_name (i := 1) sc_Pool_idle.nd rfl (Or.inl rfl))) (fun _ _ _ _ _ => (pts_one (PW.pt (pw_and (pt_val (pe_prop (pv 1) T.clL p_Line_is_open G_Line_is_open (hr.mono (by decide)) b_Line_is_open .nil pass0 rfl)) (pw_and1 (pt_not (pt_val (pe_fld (pv 1) rfl : PE _ _ (tFld K _ _))))))))) (fun _ _ _ _ _ => (pe_fld (pv 1) rfl : PE _ _ (tFld K _ _)))))), ?_⟩
  obtain ⟨p, dp, d, L, t, c, th, rs, rfl, hp, hL, hl, hz, k⟩ := h
  refine ⟨_, rfl, p, _, _, _, _, rfl, hp, T.clP, T.n_lines, rfl, L, rfl, ⟨_, SqL.of hL⟩, fun D hD => ?_⟩
  refine lc_it (walk_list (xs := rs.map fun r => V.ref r.a)) (fun i H' => Same H H' ∧ H' D = some (.lst (nums (sel fIdle (rs.take i))))) ⟨Same.new hD, upd_same⟩ (fun i H1 _ h1 => SqL.of (h1.1 _ _ hL)) ?_ ?_
  · rintro i x H1 H2 hi ⟨sm, hat⟩ ⟨rfl, hx⟩
    rw [List.getElem?_map] at hx
    obtain ⟨r, hr1, rfl⟩ := Option.map_eq_some_iff.mp hx
    have Li := (hl i r hr1).same sm
    have hin : i < rs.length := by simpa using hi
    have hlt : (nums (sel fIdle (rs.take i))).length < sizeLine := by
      rw [List.length_map, sizeLine_eq]
      have := sel_lt (f := fIdle) hin
      omega
    refine ⟨rfl, ?_⟩
    refine ⟨_, rfl, r.a, r.dx, _, rfl, Li.obj, r.a, r.dx, r.qa, i, r.l, rfl, Li, ?_⟩
    rw [sel_take hr1]
    cases hc : decide (r.l.mark ≠ .closed)
    · refine ⟨_, rfl, iteF' hc ?_⟩
      have e : fIdle r.l = false := by
        show (decide (r.l.mark ≠ .closed) && !r.l.lent) = false
        rw [hc]
        rfl
      rw [if_neg (by rw [e]; decide)]
      exact ⟨sm, hat⟩
    · refine ⟨_, rfl, iteT' hc ⟨_, rfl, r.a, _, _, _, _, rfl, Li.obj, T.clL, T.n_is_lent, rfl, _, rfl, ?_⟩⟩
      have e : fIdle r.l = !r.l.lent := by
        show (decide (r.l.mark ≠ .closed) && !r.l.lent) = _
        rw [hc]
        rfl
      rw [e]
      cases hd : r.l.lent
      · rw [if_pos (by rfl)]
        refine iteT' rfl ⟨_, rfl, r.a, _, _, _, _, rfl, Li.obj, T.clL, T.n_number, rfl, _, hat, hlt, same_put sm hD, ?_⟩
        rw [upd_same, nums_snoc]
      · rw [if_neg (by decide)]
        exact iteF' rfl ⟨sm, hat⟩
  · rintro H1 ⟨sm, hat⟩
    rw [List.length_map, List.take_length] at hat
    exact k H1 D sm hD hat
theorem sc_Pool_lent : FnScope ["self", "line"] ["self"] (defScope (inClass (topS 29) 6)) := ⟨rfl, rfl, rfl, by decide +kernel, rfl, by decide +kernel, by decide +kernel⟩
theorem ok_Pool_lent (T : Tx P K mg) : MOk P w K mg base CX0 2 (CP K) "lent" ["self"] (sp_sel K fLent) := by
  obtain ⟨f, fd, F, M, fi⟩ := T.me ⟨"Pool", 29, 6, "lent", "Pool.lent"⟩ (by decide +kernel)
  refine ⟨f, fd, ?_, M, F.binds fun _ _ _ _ _ _ us hl => match us, hl with | [_], _ => rfl⟩
  refine F.ok sc_Pool_lent (fun vs H Q E h => ?_) (fun cdv A outer s H vs Q E hr h => ?_)
  · obtain ⟨_, _, _, _, _, _, _, _, rfl, _⟩ := h
    rfl
  have hu := hu_of hr
  refine ⟨_, (pss_one (ps_ret (pe_lc (own := [("line", 1)]) (by rfl) sc_Pool_lent.nd (pi_list (pe_fld (pv 0) rfl)) (blkOk_by (own := [("line", 1)]) (N := ["self", "line"]) (sc := defScope (inClass (topS 29) 6)) (by decide +kernel)) (fun _ _ _ _ _ => (pg_name (i := 1) sc_Pool_lent.nd rfl (Or.inl rfl))) (fun _ _ _ _ _ => (pts_one (pt_val (pe_fld (pv 1) rfl : PE _ _ (tFld K _ _))))) (fun _ _ _ _ _ => (pe_fld (pv 1) rfl : PE _ _ (tFld K _ _)))))), ?_⟩
  obtain ⟨p, dp, d, L, t, c, th, rs, rfl, hp, hL, hl, hz, k⟩ := h
  refine ⟨_, rfl, p, _, _, _, _, rfl, hp, T.clP, T.n_lines, rfl, L, rfl, ⟨_, SqL.of hL⟩, fun D hD => ?_⟩
  refine lc_it (walk_list (xs := rs.map fun r => V.ref r.a)) (fun i H' => Same H H' ∧ H' D = some (.lst (nums (sel fLent (rs.take i))))) ⟨Same.new hD, upd_same⟩ (fun i H1 _ h1 => SqL.of (h1.1 _ _ hL)) ?_ ?_
  · rintro i x H1 H2 hi ⟨sm, hat⟩ ⟨rfl, hx⟩
    rw [List.getElem?_map] at hx
    obtain ⟨r, hr1, rfl⟩ := Option.map_eq_some_iff.mp hx
    have Li := (hl i r hr1).same sm
    have hin : i < rs.length := by simpa using hi
    have hlt : (nums (sel fLent (rs.take i))).length < sizeLine := by
      rw [List.length_map, sizeLine_eq]
      have := sel_lt (f := fLent) hin
      omega
    refine ⟨rfl, _, rfl, r.a, _, _, _, _, rfl, Li.obj, T.clL, T.n_is_lent, rfl, _, rfl, ?_⟩
    rw [sel_take hr1]
    show if r.l.lent = true then _ else _
    cases hd : r.l.lent
    · rw [if_neg (by decide), if_neg (by show ¬ r.l.lent = true; rw [hd]; decide)]
      exact ⟨sm, hat⟩
    · rw [if_pos rfl, if_pos hd]
      refine ⟨_, rfl, r.a, _, _, _, _, rfl, Li.obj, T.clL, T.n_number, rfl, _, hat, hlt, same_put sm hD, ?_⟩
      rw [upd_same, nums_snoc]
  · rintro H1 ⟨sm, hat⟩
    rw [List.length_map, List.take_length] at hat
    exact k H1 D sm hD hat
theorem sc_Pool_init : FnScope ["self", "door"] ["self", "door"] (defScope (inClass (topS 29) 0)) := ⟨rfl, rfl, rfl, by decide +kernel, rfl, by decide +kernel, by decide +kernel⟩
theorem ok_Pool_init (T : Tx P K mg) : MOk P w K mg base CX0 5 (CP K) "__init__" ["self", "door"] (sp_Pool_init K) := by
  obtain ⟨f_Door_copy, fd_Door_copy, G_Door_copy, M_Door_copy, b_Door_copy⟩ := ok_Door_copy (P := P) (w := w) (base := base) T
  obtain ⟨f, fd, F, M, fi⟩ := T.me ⟨"Pool", 29, 0, "__init__", "Pool.__init__"⟩ (by decide +kernel)
  refine ⟨f, fd, ?_, M, F.binds fun _ _ _ _ _ _ us hl => match us, hl with | [_, _], _ => rfl⟩
  refine F.ok sc_Pool_init (fun vs H Q E h => ?_) (fun cdv A outer s H vs Q E hr h => ?_)
  · obtain ⟨_, _, _, _, _, _, _, _, _, _, rfl, _⟩ := h
    rfl
  have hu := hu_of hr
  refine ⟨_, (pss_cons (ps_fld (pv 0) (pe_meth0 (pv 1) T.clD M_Door_copy G_Door_copy (hr.mono (by decide)) b_Door_copy .nil pass0) rfl)
      (pss_cons (ps_fld (pv 0) (pe_lst pa_nil) rfl)
      (pss_cons (ps_fld (pv 0) (pe_tup pa_nil) rfl)
      (pss_cons (ps_fld (pv 0) pe_int rfl)
      (pss_one (ps_fld (pv 0) pe_dnewK rfl)))))), ?_⟩
  obtain ⟨p, dp, d0, dx, o, e, f1, c, u0, u1, rfl, hp, D0, k⟩ := h
  refine ⟨_, rfl, d0, dx, _, rfl, D0.obj, rfl, d0, dx, o, e, f1, c, u0, u1, rfl, D0, ?_⟩
  intro H1 d dd o' s1 hd ho' D1
  have npd : p ≠ d := ne_of_none hp hd
  have npo : p ≠ o' := ne_of_none hp ho'
  refine ⟨_, rfl, p, _, dp, _, rfl, s1 _ _ hp, T.clP, T.n_door, (by show 0 < 1000; decide), ?_⟩
  refine ⟨Nat.zero_le _, fun L hL => ⟨_, rfl, p, _, dp, _, rfl, by rw [upd_ne (ne_of_none upd_same hL), upd_same], T.clP, T.n_lines, (by show 1 < 1000; decide), ?_⟩⟩
  have npL : p ≠ L := ne_of_none upd_same hL
  rw [upd_ne npL.symm] at hL
  refine ⟨Nat.zero_le _, fun t ht => ⟨_, rfl, p, _, dp, _, rfl, by rw [upd_ne (ne_of_none upd_same ht), upd_same], T.clP, T.n_lost, (by show 2 < 1000; decide), ?_⟩⟩
  have npt : p ≠ t := ne_of_none upd_same ht
  have nLt : L ≠ t := fun e => by
    rw [← e, upd_ne npL.symm, upd_same] at ht
    cases ht
  rw [upd_ne npt.symm, upd_ne nLt.symm, upd_ne npt.symm] at ht
  refine ⟨_, rfl, p, _, dp, _, rfl, upd_same, T.clP, T.n_thrown, (by show 3 < 1000; decide), ?_⟩
  intro c' hc'
  have npc : p ≠ c' := ne_of_none upd_same hc'
  have ntc : t ≠ c' := fun e => by
    rw [← e, upd_ne npt.symm, upd_ne npt.symm, upd_same] at hc'
    cases hc'
  have nLc : L ≠ c' := fun e => by
    rw [← e, upd_ne npL.symm, upd_ne npL.symm, upd_ne nLt, upd_ne npL.symm, upd_same] at hc'
    cases hc'
  rw [upd_ne npc.symm, upd_ne npc.symm, upd_ne ntc.symm, upd_ne npc.symm, upd_ne nLc.symm, upd_ne npc.symm] at hc'
  refine ⟨_, rfl, p, _, dp, _, rfl, by rw [upd_ne npc, upd_same], T.clP, T.n_counts, (by show 4 < 1000; decide), ?_⟩
  have back : ∀ x, H1 x = none → H x = none := fun x hx => by
    cases q : H x with
    | none => rfl
    | some u =>
      rw [s1 _ _ q] at hx
      cases hx
  have keep : ∀ {a1 a2 a3 a4 a5 a6 a7 a8 : HO} x u, x ≠ p → H1 x = some u → upd (upd (upd (upd (upd (upd (upd (upd H1 p a1) L a2) p a3) t a4) p a5) p a6) c' a7) p a8 x = some u := fun x u h1 q => by
    rw [upd_ne h1, upd_ne (ne_of_none q hc'), upd_ne h1, upd_ne h1, upd_ne (ne_of_none q ht), upd_ne h1, upd_ne (ne_of_none q hL), upd_ne h1]
    exact q
  refine k _ d dd o' L t c' (fun x u h1 _ q => keep x u h1 (s1 _ _ q)) hd ho' (back _ hL) (back _ ht) (back _ hc') ?_ ⟨keep _ _ npd.symm D1.obj, keep _ _ npo.symm D1.oth⟩ ?_ ?_
  · rw [upd_same]
    rfl
  · rw [upd_ne npL.symm, upd_ne nLc, upd_ne npL.symm, upd_ne npL.symm, upd_ne nLt, upd_ne npL.symm, upd_same]
  · rw [upd_ne npt.symm, upd_ne ntc, upd_ne npt.symm, upd_ne npt.symm, upd_same]
end
end OA

set_option maxHeartbeats 4000000
/-! A pool: lending a line, taking it back. -/
namespace OA
open PySem PySem.Spec PyProof.Rows L2 OW
theorem sel_mem {f : Ln → Bool} : ∀ {k : Nat} {rs : List Rec} {i : Nat}, i ∈ selFrom f k rs → ∃ j r, i = k + j ∧ rs[j]? = some r ∧ f r.l = true
  | k, [], i, h => by cases h
  | k, r :: rs, i, h => by
    by_cases hf : f r.l = true
    · have e : selFrom f k (r :: rs) = k :: selFrom f (k + 1) rs := if_pos hf
      rw [e] at h
      rcases List.mem_cons.mp h with rfl | h
      · exact ⟨0, r, rfl, rfl, hf⟩
      · obtain ⟨j, r', e1, e2, e3⟩ := sel_mem h
        exact ⟨j + 1, r', by omega, e2, e3⟩
    · have e : selFrom f k (r :: rs) = selFrom f (k + 1) rs := if_neg hf
      rw [e] at h
      obtain ⟨j, r', e1, e2, e3⟩ := sel_mem h
      exact ⟨j + 1, r', by omega, e2, e3⟩
theorem sel_at {f : Ln → Bool} {rs : List Rec} {i : Nat} (h : i ∈ sel f rs) : ∃ r, rs[i]? = some r ∧ f r.l = true := by
  obtain ⟨j, r, e1, e2, e3⟩ := sel_mem h
  have e : i = j := by omega
  subst e
  exact ⟨r, e2, e3⟩
abbrev refs (rs : List Rec) : List V := rs.map fun r => .ref r.a
abbrev newLent : Ln := ⟨.whole, [], "", .non, .non, true⟩
def sp_Pool_lend (K : PySem.W.Frag) : Sp := fun vs H Q _ => ∃ (p dp d L t c : Addr) (th : Int) (rs : List Rec) (ch : Nat), vs = [.ref p, .str ⟨#[ch]⟩] ∧ 97 ≤ ch ∧ ch ≤ 122 ∧ H p = some (.ins (CP K) dp (pf d L t th c)) ∧ H L = some (.lst (refs rs)) ∧ LnsAt K H rs ∧ rs.length ≤ 900 ∧
  (∀ i r is, sel fIdle rs = i :: is → rs[i]? = some r → ∀ H', Fr2 H H' r.a r.a → LineAt K H' r.a r.dx i { r.l with lent := true } r.qa → Q (.ref r.a) H') ∧
  (sel fIdle rs = [] → ∀ H' a dx qa, Fr2 H H' L L → H a = none → H qa = none → H' L = some (.lst (refs rs ++ [.ref a])) → LineAt K H' a dx rs.length newLent qa → Q (.ref a) H')
theorem ne_lp {H : Hp} {a b C C' dx dx' qa d L t c : Addr} {n : Nat} {l : Ln} {th : Int} (h : H a = some (.ins C dx (lnF n l qa))) (h' : H b = some (.ins C' dx' (pf d L t th c))) : a ≠ b := ne_of h h' (fun z => by
  injection z with _ _ z
  exact absurd (congrArg List.length z) (by show ¬ (6 = 5); decide))
abbrev unlent (l : Ln) : Ln := { l with lent := false }
def sp_Pool_take (K : PySem.W.Frag) : Sp := fun vs H Q _ => ∃ (p dp d L t c dd o wp : Addr) (th : Int) (rs : List Rec) (e f g u0 u1 : Dw) (y : Wy) (lost : List Nat) (i : Nat) (r : Rec), vs = [.ref p, .ref r.a, .ref wp] ∧ H p = some (.ins (CP K) dp (pf d L t th c)) ∧ DoorAt K H d dd e f g o (two u0 u1) ∧
  H L = some (.lst (refs rs)) ∧ LnsAt K H rs ∧ H t = some (.tup (nums lost)) ∧ lost.length ≤ 1000 ∧ H wp = some (.tup y.t) ∧ rs[i]? = some r ∧ r.l.lent = true ∧ r.l.q.length ≤ 100000 ∧
  ∀ H' q' t', (∀ x v, x ≠ r.a → x ≠ r.qa → x ≠ p → H x = some v → H' x = some v) → (q' = r.qa ∨ H q' = none) → (t' = t ∨ H t' = none) → LineAt K H' r.a r.dx i (giveL (wordOf e f g u0 u1 y) (.ref wp) (unlent r.l)) q' →
    H' p = some (.ins (CP K) dp (pf d L t' (th + (giveN (wordOf e f g u0 u1 y) (unlent r.l) : Nat)) c)) → H' t' = some (.tup (nums (if wordOf e f g u0 u1 y = .close ∧ clean r.l = true then lost ++ [i] else lost))) → Q (.int (giveN (wordOf e f g u0 u1 y) (unlent r.l) : Nat)) H'
section
variable {P : Program} {w : World} {K : PySem.W.Frag} {mg : Str → Option Value} {base : Heap}
theorem sc_Pool_lend : FnScope ["self", "name", "numbers", "line"] ["self", "name"] (defScope (inClass (topS 29) 8)) := ⟨rfl, rfl, rfl, by decide +kernel, rfl, by decide +kernel, by decide +kernel⟩
theorem ok_Pool_lend (T : Tx P K mg) : MOk P w K mg base CX0 4 (CP K) "lend" ["self", "name"] (sp_Pool_lend K) := by
  obtain ⟨f_check_name, fd_check_name, G_check_name, m_check_name, k_check_name, b_check_name⟩ := ok_check_name (P := P) (w := w) (base := base) T
  obtain ⟨f_Pool_idle, fd_Pool_idle, G_Pool_idle, M_Pool_idle, b_Pool_idle⟩ := ok_Pool_idle (P := P) (w := w) (base := base) T
  obtain ⟨f_Line_init, fd_Line_init, G_Line_init, mk_Line, b_Line_init⟩ := ok_Line_init (P := P) (w := w) (base := base) T
  obtain ⟨f, fd, F, M, fi⟩ := T.me ⟨"Pool", 29, 8, "lend", "Pool.lend"⟩ (by decide +kernel)
  refine ⟨f, fd, ?_, M, F.binds fun _ _ _ _ _ _ us hl => match us, hl with | [_, _], _ => rfl⟩
  refine F.ok sc_Pool_lend (fun vs H Q E h => ?_) (fun cdv A outer s H vs Q E hr h => ?_)
  · obtain ⟨_, _, _, _, _, _, _, _, _, rfl, _⟩ := h
    rfl
  have hu := hu_of hr
  refine ⟨_, (pss_cons (ps_expr (pe_call G_check_name (hr.mono (by decide)) rfl m_check_name k_check_name b_check_name .nil pass0 (pa_cons (pv 1) pa_nil)))
      (pss_cons (ps_set (i := 2) sc_Pool_lend.nd rfl (Or.inl rfl) (pe_meth0 (pv 0) T.clP M_Pool_idle G_Pool_idle (hr.mono (by decide)) b_Pool_idle .nil pass0))
      (pss_cons (ps_if (pt_cmpR op_eq (pe_callB call_len_seq (by rfl) T.len PySem.boot_len (pa_cons (pv 2) pa_nil)) pe_int (nomark _))
      (pss_cons (ps_set (i := 2) sc_Pool_lend.nd rfl (Or.inl rfl) (pe_lst (pa_cons (pe_callB call_len_seq (by rfl) T.len PySem.boot_len (pa_cons (pe_fld (pv 0) rfl) pa_nil)) pa_nil)))
      (pss_one (ps_expr (pe_bm PySem.F.plainAttrs_list PySem.F.slot_list_append PySem.F.type_list_append mt_append (pe_fld (pv 0) rfl) (pa_cons (pe_make mk_Line G_Line_init (hr.mono (by decide)) rfl T.g_Line b_Line_init .nil pass0 (pa_cons (pe_ix ix_list (pv 2) pe_int (fun _ _ => rfl)) pa_nil)) pa_nil)))))
      pss_nil)
      (pss_cons (ps_set (i := 3) sc_Pool_lend.nd rfl (Or.inl rfl) (pe_ix ix_list (pe_fld (pv 0) rfl) (pe_ix ix_list (pv 2) pe_int (fun _ _ => rfl)) (fun _ _ => rfl)))
      (pss_cons (ps_fld (pv 3) pe_bl rfl)
      (pss_one (ps_ret (pv 3)))))))), ?_⟩
  obtain ⟨p, dp, d, L, t, c, th, rs, ch, rfl, c1, c2, hp, hL, hl, hz, kA, kB⟩ := h
  refine ⟨_, rfl, ch, rfl, c1, c2, fun H1 s1 => ?_⟩
  refine ⟨_, rfl, p, dp, _, rfl, s1 _ _ hp, rfl, p, dp, d, L, t, c, th, rs, rfl, s1 _ _ hp, s1 _ _ hL, hl.same s1, by omega, fun H2 b s2 hb hat => ?_⟩
  refine ⟨_, rfl, b, _, rfl, .inl (SqL.of hat), rfl, _, rfl, ?_⟩
  have s12 := s1.trans s2
  cases hs : sel fIdle rs with
  | nil =>
    rw [hs] at hat
    refine iteT' rfl ⟨_, rfl, p, _, _, _, _, rfl, s12 _ _ hp, T.clP, T.n_lines, rfl, L, _, rfl, .inl (SqL.of (s12 _ _ hL)), ?_⟩
    rw [List.length_map]
    refine ⟨by show 1 ≤ sizeLine; decide, fun n1 hn1 => ?_⟩
    have e3 : Same H (upd H2 n1 (.lst [.int rs.length])) := same_put s12 (by
      cases q : H n1 with
      | none => rfl
      | some u =>
        rw [s12 _ _ q] at hn1
        cases hn1)
    refine ⟨_, rfl, p, _, _, _, _, rfl, e3 _ _ hp, T.clP, T.n_lines, rfl, .inl ⟨rfl, _, SqL.of (e3 _ _ hL)⟩, _, rfl, n1, _, _, _, rfl, rfl, SqL.of upd_same, atI_nat (j := 0) rfl, ?_⟩
    intro x dx hx hdx hne
    have e4 : Same (upd H2 n1 (.lst [.int rs.length])) (upd (upd (upd H2 n1 (.lst [.int rs.length])) dx (.own x)) x (.ins (CL K) dx [])) := fun z u q => by
      rw [upd_ne (ne_of_none q hx), upd_ne (ne_of_none q hdx)]
      exact q
    refine ⟨x, dx, rs.length, rfl, upd_same, fun H5 q' fr hq' Lx => ?_⟩
    have e5 : Same (upd H2 n1 (.lst [.int rs.length])) H5 := fun z u q => fr z u (ne_of_none q hx) (ne_of_none q hx) (e4 z u q)
    have e05 := e3.trans e5
    have hL5 : H5 L = some (.lst (refs rs)) := e05 _ _ hL
    have nxL : x ≠ L := fun z => by
      have := e3 _ _ hL
      rw [← z, hx] at this
      cases this
    have nLq : L ≠ q' := fun z => by
      have := e4 _ _ (e3 _ _ hL)
      rw [z, hq'] at this
      cases this
    have hn5 : H5 n1 = some (.lst [.int rs.length]) := e5 _ _ upd_same
    have nnL : n1 ≠ L := fun z => by
      have := s12 _ _ hL
      rw [← z, hn1] at this
      cases this
    refine ⟨rfl, L, refs rs, .ref x, rfl, rfl, hL5, by rw [List.length_map, sizeLine_eq]; omega, ?_⟩
    have hpL : p ≠ L := ne_of hp hL (fun z => nomatch z)
    refine ⟨_, rfl, p, _, _, _, _, rfl, by rw [upd_ne hpL]; exact e05 _ _ hp, T.clP, T.n_lines, rfl, _, rfl, n1, _, _, _, rfl, rfl, SqL.of (by rw [upd_ne nnL]; exact hn5), atI_nat (j := 0) rfl, ?_⟩
    refine ⟨L, _, _, .ref x, rfl, rfl, SqL.of upd_same, atI_nat (j := rs.length) (by rw [List.getElem?_append_right (by rw [List.length_map]; exact Nat.le_refl _), List.length_map, Nat.sub_self]; rfl), ?_⟩
    refine ⟨_, rfl, x, _, dx, _, rfl, by rw [upd_ne nxL]; exact Lx.obj, T.clL, T.n_is_lent, (by show 6 < 1000; decide), _, rfl, ?_⟩
    have nxq : x ≠ q' := Lx.ne
    refine kB hs _ x dx q' (fun z u h1 _ q => ?_) ?_ ?_ ?_ ⟨?_, ?_⟩
    · rw [upd_ne (ne_of_none (e3 _ _ q) hx), upd_ne h1]
      exact e05 _ _ q
    · cases q : H x with
      | none => rfl
      | some u =>
        rw [e3 _ _ q] at hx
        cases hx
    · cases q : H q' with
      | none => rfl
      | some u =>
        rw [e4 _ _ (e3 _ _ q)] at hq'
        cases hq'
    · rw [upd_ne nxL.symm, upd_same]
    · rw [upd_same]
      rfl
    · rw [upd_ne nxq.symm, upd_ne nLq.symm]
      exact Lx.que
  | cons i is =>
    rw [hs] at hat
    refine iteF' rfl ?_
    obtain ⟨r, hr1, _⟩ := sel_at (f := fIdle) (rs := rs) (i := i) (by rw [hs]; exact List.mem_cons_self)
    have Li := (hl i r hr1).same s12
    refine ⟨_, rfl, p, _, _, _, _, rfl, s12 _ _ hp, T.clP, T.n_lines, rfl, _, rfl, b, _, _, _, rfl, rfl, SqL.of hat, atI_nat (j := 0) rfl, ?_⟩
    refine ⟨L, _, _, .ref r.a, rfl, rfl, SqL.of (s12 _ _ hL), atI_nat (j := i) (by rw [List.getElem?_map, hr1]; rfl), ?_⟩
    refine ⟨_, rfl, r.a, _, r.dx, _, rfl, Li.obj, T.clL, T.n_is_lent, (by show 6 < 1000; decide), _, rfl, ?_⟩
    refine kA i r is hs hr1 _ (fun z u h1 _ q => ?_) ⟨?_, ?_⟩
    · rw [upd_ne h1]
      exact s12 _ _ q
    · rw [upd_same]
      rfl
    · rw [upd_ne Li.ne.symm]
      exact Li.que
theorem sc_Pool_take : FnScope ["self", "line", "way", "word", "was_clean", "thrown"] ["self", "line", "way"] (defScope (inClass (topS 29) 9)) := ⟨rfl, rfl, rfl, by decide +kernel, rfl, by decide +kernel, by decide +kernel⟩
theorem ok_Pool_take (T : Tx P K mg) : MOk P w K mg base CX0 8 (CP K) "take" ["self", "line", "way"] (sp_Pool_take K) := by
  obtain ⟨pa_Line_is_clean, f_Line_is_clean, fd_Line_is_clean, G_Line_is_clean, p_Line_is_clean, b_Line_is_clean⟩ := ok_Line_is_clean (P := P) (w := w) (base := base) T
  obtain ⟨f_Door_getitem, R_Door_getitem, m_Door_getitem⟩ := ok_Door_getitem (P := P) (w := w) (base := base) T
  obtain ⟨mf_Door_getitem, mi_Door_getitem, mn_Door_getitem⟩ := m_Door_getitem
  obtain ⟨f_give_back, fd_give_back, G_give_back, m_give_back, k_give_back, b_give_back⟩ := ok_give_back (P := P) (w := w) (base := base) T
  obtain ⟨f, fd, F, M, fi⟩ := T.me ⟨"Pool", 29, 9, "take", "Pool.take"⟩ (by decide +kernel)
  refine ⟨f, fd, ?_, M, F.binds fun _ _ _ _ _ _ us hl => match us, hl with | [_, _, _], _ => rfl⟩
  refine F.ok sc_Pool_take (fun vs H Q E h => ?_) (fun cdv A outer s H vs Q E hr h => ?_)
  · obtain ⟨_, _, _, _, _, _, _, _, _, _, _, _, _, _, _, _, _, _, _, _, rfl, _⟩ := h
    rfl
  have hu := hu_of hr
  refine ⟨_, (pss_cons (ps_if (PW.pt (pw_or (pt_cmpR (OW.op_notInI hu) (pv 1) (pe_fld (pv 0) rfl) (by rfl)) (pw_or1 (pt_not (pt_val (pe_fld (pv 1) rfl))))))
      (pss_one ps_never)
      pss_nil)
      (pss_cons (ps_par (i := 3) (j := 4) (by rfl) sc_Pool_take.nd rfl rfl (by decide) rfl rfl (pa_cons (OW.pe_ixO mf_Door_getitem mi_Door_getitem mn_Door_getitem R_Door_getitem (hr.mono (by decide)) pass0 (pe_fld (pv 0) rfl) (pv 2) (fun _ _ => rfl)) (pa_cons (pe_prop (pv 1) T.clL p_Line_is_clean G_Line_is_clean (hr.mono (by decide)) b_Line_is_clean .nil pass0 rfl) pa_nil)) (by rfl))
      (pss_cons (ps_fld (pv 1) pe_bl rfl)
      (pss_cons (ps_if (PW.pt (pw_and (pt_cmpR op_eq (pv 3) pe_str (nomark _)) (pw_and1 (pt_val (pv 4)))))
      (pss_one (ps_fld (pv 0) (pe_op op_catA (pe_fld (pv 0) rfl) (pe_tup (pa_cons (pe_fld (pv 1) rfl) pa_nil))) rfl))
      pss_nil)
      (pss_cons (ps_set (i := 5) sc_Pool_take.nd rfl (Or.inl rfl) (pe_call G_give_back (hr.mono (by decide)) rfl m_give_back k_give_back b_give_back .nil pass0 (pa_cons (pv 1) (pa_cons (pv 3) (pa_cons (pv 2) pa_nil)))))
      (pss_cons (ps_fldaug (pv 0) (pv 5) in_add)
      (pss_one (ps_ret (pv 5))))))))), ?_⟩
  obtain ⟨p, dp, d, L, t, c, dd, o, wp, th, rs, e, f1, g, u0, u1, y, lost, i, r, rfl, hp, D, hL, hl, ht, hz, hw, hr1, hlent, hq, k⟩ := h
  have Li := hl i r hr1
  refine ⟨_, rfl, _, rfl, p, _, _, _, _, rfl, hp, T.clP, T.n_lines, rfl, CL K, L, r.a, rs.map Rec.a, rfl, rfl, ?_, T.q_Line, ⟨_, _, Li.obj⟩, ?_, _, rfl, ?_⟩
  · rw [List.map_map]
    exact SqL.of hL
  · intro b hb
    obtain ⟨r', hm, rfl⟩ := List.mem_map.mp hb
    obtain ⟨j, hj⟩ := List.mem_iff_getElem?.mp hm
    exact ⟨_, _, (hl j r' hj).obj⟩
  have hin : r.a ∈ rs.map Rec.a := List.mem_map.mpr ⟨r, List.mem_of_getElem? hr1, rfl⟩
  refine iteF' (by rw [decide_eq_true hin]; rfl) ⟨_, rfl, r.a, _, _, _, _, rfl, Li.obj, T.clL, T.n_is_lent, rfl, _, rfl, ?_⟩
  refine iteF' (by rw [hlent]; rfl) ?_
  refine ⟨_, rfl, p, _, _, _, _, rfl, hp, T.clP, T.n_door, rfl, _, rfl, d, _, _, rfl, D.obj, d, dd, o, wp, e, f1, g, u0, u1, y, rfl, D, hw, ?_⟩
  generalize hu0 : wordOf e f1 g u0 u1 y = u at k ⊢
  refine ⟨_, rfl, r.a, r.dx, _, rfl, Li.obj, r.a, r.dx, r.qa, i, r.l, rfl, Li, ?_⟩
  refine ⟨_, _, rfl, ?_⟩
  refine ⟨_, rfl, r.a, _, r.dx, _, rfl, Li.obj, T.clL, T.n_is_lent, (by show 6 < 1000; decide), ?_⟩
  have e1 : putF "is_lent" (.bl false) (lnF i r.l r.qa) = lnF i (unlent r.l) r.qa := rfl
  rw [e1]
  have nap : r.a ≠ p := ne_lp Li.obj hp
  have naq : r.a ≠ r.qa := Li.ne
  have nat : r.a ≠ t := ne_of Li.obj ht (fun z => nomatch z)
  have npt : p ≠ t := ne_of hp ht (fun z => nomatch z)
  have npq : p ≠ r.qa := ne_of hp Li.que (fun z => nomatch z)
  have ew : decide (V.str u.s = V.str "close") = decide (u = .close) := by cases u <;> decide +kernel
  refine ⟨_, rfl, rfl, _, rfl, ?_⟩
  rw [ew]
  have tail : ∀ lost', (lost' = if u = .close ∧ clean r.l = true then lost ++ [i] else lost) → ∀ H2 t2, H2 p = some (.ins (CP K) dp (pf d L t2 th c)) → H2 t2 = some (.tup (nums lost')) → (t2 = t ∨ H t2 = none) → (∀ x v, x ≠ r.a → x ≠ p → H x = some v → H2 x = some v) → LineAt K H2 r.a r.dx i (unlent r.l) r.qa →
      tSeq (tAsg (tCall (sp_give_back K) [] E0 (tCons (tVar 1) (tCons (tVar 3) (tCons (tVar 2) tNil)))) (gName 5)) (tSeq (sFldAug K (tVar 0) (tVar 5) rAdd "thrown") (tRet (tVar 5))) { nx := fun x H' => Q .non H', rt := Q } [some (.ref p), some (.ref r.a), some (.ref wp), some (.str u.s), some (.bl (clean r.l)), none] H2 := by
    intro lost' el H2 t2 p2 T2 ft fr2 L2
    have nat2 : r.a ≠ t2 := ne_of L2.obj T2 (fun z => nomatch z)
    have nqt2 : r.qa ≠ t2 := ne_of L2.que T2 (fun z => nomatch z)
    have npt2 : p ≠ t2 := ne_of p2 T2 (fun z => nomatch z)
    refine ⟨_, rfl, _, rfl, _, rfl, r.a, r.dx, r.qa, i, unlent r.l, u, .ref wp, rfl, L2, hq, fun H3 q' fr3 hq3 L3 => ?_⟩
    have p3 : H3 p = some (.ins (CP K) dp (pf d L t2 th c)) := fr3 _ _ nap.symm npq p2
    refine ⟨_, rfl, p, _, _, _, _, rfl, p3, T.clP, T.n_thrown, rfl, _, rfl, _, _, rfl, rfl, dp, _, p3, (by show 5 < 1000; decide), _, rfl, ?_⟩
    have npq' : p ≠ q' := ne_of p3 L3.que (fun z => nomatch z)
    have hq0 : q' = r.qa ∨ H q' = none := by
      rcases hq3 with h | h
      · exact Or.inl h
      · right
        cases q : H q' with
        | none => rfl
        | some v =>
          by_cases h1 : q' = r.a
          · rw [h1, L2.obj] at h
            cases h
          · by_cases h2 : q' = p
            · rw [h2, p2] at h
              cases h
            · rw [fr2 _ _ h1 h2 q] at h
              cases h
    refine k _ q' t2 (fun x v h1 h2 h3 q => ?_) hq0 ft ⟨?_, ?_⟩ ?_ ?_
    · rw [upd_ne h3]
      exact fr3 _ _ h1 h2 (fr2 _ _ h1 h3 q)
    · rw [upd_ne nap]
      exact L3.obj
    · rw [upd_ne npq'.symm]
      exact L3.que
    · rw [upd_same]
      rfl
    · rw [upd_ne npt2.symm, ← el]
      exact fr3 _ _ nat2.symm nqt2.symm T2
  by_cases hc : u = .close ∧ clean r.l = true
  · refine iteT' (decide_eq_true hc.1) ⟨_, rfl, _, rfl, ?_⟩
    refine iteT' hc.2 ⟨_, rfl, p, _, _, _, _, rfl, by rw [upd_ne nap.symm]; exact hp, T.clP, T.n_lost, rfl, _, rfl, r.a, _, _, _, _, rfl, upd_same, T.clL, T.n_number, rfl, ?_⟩
    refine ⟨by show 1 ≤ sizeLine; decide, fun t1 ht1 => ?_⟩
    have na1 : r.a ≠ t1 := ne_of_none upd_same ht1
    rw [upd_ne na1.symm] at ht1
    have np1 : p ≠ t1 := ne_of_none hp ht1
    have ntt1 : t ≠ t1 := ne_of_none ht ht1
    have nq1 : r.qa ≠ t1 := ne_of_none Li.que ht1
    refine ⟨t, t1, nums lost, [.int i], rfl, rfl, SqT.of (by rw [upd_ne ntt1, upd_ne nat.symm]; exact ht), SqT.of upd_same, by show (nums lost).length + 1 ≤ sizeLine; rw [List.length_map, sizeLine_eq]; omega, fun e0 => ?_, fun _ e0 => (nomatch e0), fun ne0 _ t2 ht2 => ?_⟩
    · have e9 : lost = [] := List.map_eq_nil_iff.mp e0
      subst e9
      refine ⟨_, rfl, p, _, dp, _, rfl, by rw [upd_ne np1, upd_ne nap.symm]; exact hp, T.clP, T.n_lost, (by show 5 < 1000; decide), ?_⟩
      refine tail [i] (if_pos hc).symm _ t1 ?_ ?_ (Or.inr ht1) ?_ ⟨?_, ?_⟩
      · rw [upd_same]
        rfl
      · rw [upd_ne np1.symm, upd_same]
        rfl
      · intro x v h1 h2 q
        rw [upd_ne h2, upd_ne (ne_of_none q ht1), upd_ne h1]
        exact q
      · rw [upd_ne nap, upd_ne na1, upd_same]
      · rw [upd_ne npq.symm, upd_ne nq1, upd_ne naq.symm]
        exact Li.que
    · have na2 : r.a ≠ t2 := ne_of_none (by rw [upd_ne na1, upd_same]) ht2
      have n12 : t1 ≠ t2 := ne_of_none upd_same ht2
      rw [upd_ne n12.symm, upd_ne na2.symm] at ht2
      have np2 : p ≠ t2 := ne_of_none hp ht2
      have nq2 : r.qa ≠ t2 := ne_of_none Li.que ht2
      refine ⟨_, rfl, p, _, dp, _, rfl, by rw [upd_ne np2, upd_ne np1, upd_ne nap.symm]; exact hp, T.clP, T.n_lost, (by show 5 < 1000; decide), ?_⟩
      refine tail (lost ++ [i]) (if_pos hc).symm _ t2 ?_ ?_ (Or.inr ht2) ?_ ⟨?_, ?_⟩
      · rw [upd_same]
        rfl
      · rw [upd_ne np2.symm, upd_same, nums_snoc]
      · intro x v h1 h2 q
        rw [upd_ne h2, upd_ne (ne_of_none q ht2), upd_ne (ne_of_none q ht1), upd_ne h1]
        exact q
      · rw [upd_ne nap, upd_ne na2, upd_ne na1, upd_same]
      · rw [upd_ne npq.symm, upd_ne nq2, upd_ne nq1, upd_ne naq.symm]
        exact Li.que
  · have fin := tail lost (if_neg hc).symm (upd H r.a (.ins (CL K) r.dx (lnF i (unlent r.l) r.qa))) t ?_ ?_ (Or.inl rfl) ?_ ⟨?_, ?_⟩
    · by_cases h1 : u = .close
      · refine iteT' (decide_eq_true h1) ⟨_, rfl, _, rfl, iteF' ?_ fin⟩
        cases h2 : clean r.l
        · exact h2
        · exact absurd ⟨h1, h2⟩ hc
      · exact iteF' (decide_eq_false h1) fin
    · rw [upd_ne nap.symm]
      exact hp
    · rw [upd_ne nat.symm]
      exact ht
    · intro x v h1 h2 q
      rw [upd_ne h1]
      exact q
    · exact upd_same
    · rw [upd_ne naq.symm]
      exact Li.que
end
end OA

set_option maxHeartbeats 4000000
/-! The law's source of numbers. -/
namespace OA
open PySem PySem.Spec PyProof.Rows L2 OW
/-- nothing that stood is changed but at a -/
abbrev Fr1 (H H' : Hp) (a : Addr) : Prop := Fr2 H H' a a
structure SrcAt (H : Hp) (s : Addr) (c : Nat) : Prop where
  at_ : ∃ L M T : Int, H s = some (.lst [.int L, .int M, .int T]) ∧ 0 ≤ T ∧ T ≤ c
theorem SrcAt.keep {H H' : Hp} {s : Addr} {c : Nat} (h : SrcAt H s c) (k : ∀ o, H s = some o → H' s = some o) : SrcAt H' s c := by
  obtain ⟨L, M, T, e, h1, h2⟩ := h.at_
  exact ⟨L, M, T, k _ e, h1, h2⟩
theorem SrcAt.mono {H : Hp} {s : Addr} {c d : Nat} (h : SrcAt H s c) (k : c ≤ d) : SrcAt H s d := by
  obtain ⟨L, M, T, e, h1, h2⟩ := h.at_
  exact ⟨L, M, T, e, h1, by omega⟩
def sp_source (K : PySem.W.Frag) : Sp := fun vs H Q _ => ∃ (a : Addr) (ns : List Int) (i : Nat), vs = [.ref a, .int i] ∧ SqL K H a (ns.map V.int) ∧ i ≤ 10 ∧ ∀ H' b, Same H H' → H b = none → SrcAt H' b 0 → Q (.ref b) H'
def sp_draw : Sp := fun vs H Q _ => ∃ (s : Addr) (n c : Nat), vs = [.ref s, .int n] ∧ SrcAt H s c ∧ c ≤ 1000000 ∧ 1 ≤ n ∧ n ≤ 1000 ∧ ∀ H' (i : Nat), i < n → Fr1 H H' s → SrcAt H' s (c + 1) → Q (.int i) H'
def sp_of : Sp := fun vs H Q _ => ∃ (s p : Addr) (xs : List V) (c : Nat), vs = [.ref s, .ref p] ∧ SrcAt H s c ∧ c ≤ 1000000 ∧ H p = some (.lst xs) ∧ s ≠ p ∧ 1 ≤ xs.length ∧ xs.length ≤ 1000 ∧ ∀ (H' : Hp) (i : Nat) (v : V), xs[i]? = some v → Fr1 H H' s → SrcAt H' s (c + 1) → Q v H'
/-- a conditional value that is known -/
theorem tif_v {tt : TT} {ta tb : TE} {σ : L2.St} {H : Hp} {Q : VK} {c : Bool} (v : V) (ht : ∀ R : Bool → Hp → Prop, R c H → tt σ H R) (h1 : c = true → ∀ R : VK, R v H → ta σ H R) (h2 : c = false → ∀ R : VK, R v H → tb σ H R) (q : Q v H) : tIf tt ta tb σ H Q := by
  refine ht _ ?_
  cases c
  · rw [if_neg (by decide)]
    exact h2 rfl Q q
  · rw [if_pos rfl]
    exact h1 rfl Q q
theorem emod_nat {x : Int} {n : Nat} (h : 1 ≤ n) : ∃ i : Nat, x % (n : Int) = i ∧ i < n := by
  have h1 : (0 : Int) ≤ x % n := Int.emod_nonneg _ (by omega)
  have h2 : x % (n : Int) < n := Int.emod_lt_of_pos _ (by omega)
  exact ⟨(x % n).toNat, by omega, by omega⟩
section
variable {P : Program} {w : World} {K : PySem.W.Frag} {mg : Str → Option Value} {base : Heap}
theorem sc__law_draw : FnScope ["_law_source_here", "_law_many", "_law_digit", "_law_turn", "_law_mixed"] ["_law_source_here", "_law_many"] (defScope (topS 32)) := ⟨rfl, rfl, rfl, by decide +kernel, rfl, by decide +kernel, by decide +kernel⟩
theorem ok__law_draw (T : Tx P K mg) : GOk P w K mg base CX0 1 "_law_draw" ["_law_source_here", "_law_many"] sp_draw := by
  obtain ⟨f, fd, F, gm⟩ := T.fn (32, "_law_draw") (by decide +kernel)
  refine ⟨f, fd, ?_, gm, F.kp, F.binds fun _ _ _ _ _ _ us hl => match us, hl with | [_, _], _ => rfl⟩
  refine F.ok sc__law_draw (fun vs H Q E h => ?_) (fun cdv A outer s H vs Q E hr h => ?_)
  · obtain ⟨_, _, _, rfl, _⟩ := h
    rfl
  have hu := hu_of hr
  refine ⟨_, (pss_cons (ps_if (pt_cmpR op_gt (pe_ix ix_list (pv 0) pe_int (fun _ _ => rfl)) pe_int (nomark _))
      (pss_cons (ps_set (i := 2) sc__law_draw.nd rfl (Or.inl rfl) (pe_op op_mod (pe_callTy call_int1 (by rfl) T.int (by decide +kernel) (pa_cons (pe_ix ix_list (pv 0) pe_int (fun _ _ => rfl)) pa_nil)) (pv 1)))
      (pss_cons (ps_asg (pe_op op_fdiv (pe_ix ix_list (pv 0) pe_int (fun _ _ => rfl)) (pv 1)) (pg_sub (pv 0) pe_int set_list (fun _ => rfl)))
      (pss_one (ps_ret (pv 2)))))
      pss_nil)
      (pss_cons (ps_set (i := 3) sc__law_draw.nd rfl (Or.inl rfl) (pe_op op_add (pe_ix ix_list (pv 0) pe_int (fun _ _ => rfl)) pe_int))
      (pss_cons (ps_asg (pv 3) (pg_sub (pv 0) pe_int set_list (fun _ => rfl)))
      (pss_cons (ps_set (i := 4) sc__law_draw.nd rfl (Or.inl rfl) (pe_op op_mod (pe_callTy call_int1 (by rfl) T.int (by decide +kernel) (pa_cons (pe_op op_add (pe_op op_add (pe_op op_mul (pe_ix ix_list (pv 0) pe_int (fun _ _ => rfl)) pe_int) (pe_op op_mul (pe_op op_mul pe_int (pv 3)) (pv 3))) pe_int) pa_nil)) pe_int))
      (pss_cons (ps_asg (pv 4) (pg_sub (pv 0) pe_int set_list (fun _ => rfl)))
      (pss_one (ps_ret (pe_op op_mod (pe_op op_mod (pe_callTy call_int1 (by rfl) T.int (by decide +kernel) (pa_cons (pe_op op_add (pe_op op_pow (pe_op op_fdiv (pv 4) pe_int) pe_int) (pe_op op_fdiv (pv 4) pe_int)) pa_nil)) pe_int) (pv 1))))))))), ?_⟩
  obtain ⟨s1, n, c, rfl, S, hc, h1, h2, k⟩ := h
  obtain ⟨L, M, T0, hs, hT0, hT1⟩ := S.at_
  refine ⟨_, rfl, s1, _, _, _, rfl, rfl, SqL.of hs, atI_nat (j := 0) rfl, _, _, rfl, rfl, _, rfl, ?_⟩
  by_cases hL : 0 < L
  · refine iteT' (decide_eq_true hL) ?_
    obtain ⟨i, ei, hi⟩ := emod_nat (x := L) h1
    refine ⟨_, rfl, s1, _, _, _, rfl, rfl, SqL.of hs, atI_nat (j := 0) rfl, .inl ⟨_, rfl, _, rfl, _, _, rfl, rfl, (by omega), ?_⟩⟩
    refine ⟨_, rfl, s1, _, _, _, rfl, rfl, SqL.of hs, atI_nat (j := 0) rfl, _, rfl, _, _, rfl, rfl, (by show 0 < (n : Int) ∧ (n : Int) < 1073741824; omega), ?_⟩
    refine ⟨_, rfl, s1, _, _, 0, rfl, rfl, hs, rfl, _, rfl, ?_⟩
    have z := fun M T (h1 : 0 ≤ T) (h2 : T ≤ ((c + 1 : Nat) : Int)) => k (upd H s1 (.lst [.int (L / n), .int M, .int T])) i hi fr_upd ⟨_, _, _, upd_same, h1, h2⟩
    rw [← ei] at z
    exact z _ _ hT0 (by omega)
  · refine iteF' (decide_eq_false hL) ?_
    refine ⟨_, rfl, s1, _, _, _, rfl, rfl, SqL.of hs, atI_nat (j := 2) rfl, _, _, rfl, rfl, ?_⟩
    refine ⟨_, rfl, _, rfl, s1, _, _, 2, rfl, rfl, hs, rfl, ?_⟩
    refine ⟨_, rfl, s1, _, _, _, rfl, rfl, SqL.of upd_same, atI_nat (j := 1) rfl, _, _, rfl, rfl, (Or.inr (by constructor <;> decide)), ?_⟩
    refine ⟨_, rfl, _, _, rfl, rfl, Or.inl (by constructor <;> decide), _, rfl, _, _, rfl, rfl, Or.inr (by constructor <;> omega), ?_⟩
    refine ⟨_, _, rfl, rfl, _, _, rfl, rfl, .inl ⟨_, rfl, _, _, rfl, rfl, (by show (0 : Int) < 2147483399; decide), ?_⟩⟩
    obtain ⟨M', hM⟩ : ∃ M', M' = (M * 40692 + 12211 * (T0 + 1) * (T0 + 1) + 77) % 2147483399 := ⟨_, rfl⟩
    have m0 : 0 ≤ M' := by omega
    have m1 : M' < 2147483399 := by omega
    refine ⟨_, rfl, _, rfl, s1, _, _, 1, rfl, rfl, upd_same, rfl, ?_⟩
    refine ⟨_, rfl, _, _, rfl, rfl, (by show (0 : Int) < 32 ∧ (32 : Int) < 1073741824; decide), _, _, rfl, rfl, ⟨by decide, by decide, by show ((M * 40692 + 12211 * (T0 + 1) * (T0 + 1) + 77) % 2147483399 / 32).natAbs < 2 ^ 64; rw [← hM]; omega⟩, _, rfl, _, _, rfl, rfl, (by show (0 : Int) < 7 ∧ (7 : Int) < 1073741824; decide), _, _, rfl, rfl, .inl ⟨_, rfl, _, _, rfl, rfl, (by show (0 : Int) < 1073741789; decide), _, rfl, _, _, rfl, rfl, (by show (0 : Int) < n; omega), ?_⟩⟩
    obtain ⟨i, ei, hi⟩ := emod_nat (x := ((M' / 32) ^ (2 : Int).toNat + M' / 7) % 1073741789) h1
    have z := fun L M T (h1 : 0 ≤ T) (h2 : T ≤ ((c + 1 : Nat) : Int)) => k (upd (upd H s1 (.lst [.int L, .int M, .int T])) s1 (.lst [.int L, .int M', .int T])) i hi (by rw [upd_upd]; exact fr_upd) ⟨_, _, _, upd_same, h1, h2⟩
    rw [← ei] at z
    rw [hM] at z
    exact z L M (T0 + 1) (by omega) (by omega)
theorem sc__law_source : FnScope ["_law_script", "_law_place", "_law_cell", "_law_large"] ["_law_script", "_law_place"] (defScope (topS 31)) := ⟨rfl, rfl, rfl, by decide +kernel, rfl, by decide +kernel, by decide +kernel⟩
theorem ok__law_source (T : Tx P K mg) : GOk P w K mg base CX0 1 "_law_source" ["_law_script", "_law_place"] (sp_source K) := by
  obtain ⟨f, fd, F, gm⟩ := T.fn (31, "_law_source") (by decide +kernel)
  refine ⟨f, fd, ?_, gm, F.kp, F.binds fun _ _ _ _ _ _ us hl => match us, hl with | [_, _], _ => rfl⟩
  refine F.ok sc__law_source (fun vs H Q E h => ?_) (fun cdv A outer s H vs Q E hr h => ?_)
  · obtain ⟨_, _, _, rfl, _⟩ := h
    rfl
  have hu := hu_of hr
  refine ⟨_, (pss_cons (ps_set (i := 2) sc__law_source.nd rfl (Or.inl rfl) (pe_ifExp (pt_cmpR op_lt (pv 1) (pe_callB call_len_seq (by rfl) T.len PySem.boot_len (pa_cons (pv 0) pa_nil)) (nomark _)) (pe_callTy call_int1 (by rfl) T.int (by decide +kernel) (pa_cons (pe_ix ix_list (pv 0) (pv 1) (fun _ _ => rfl)) pa_nil)) pe_int))
      (pss_cons (ps_set (i := 3) sc__law_source.nd rfl (Or.inl rfl) (pe_ifExp (pt_cmpR op_ge (pe_callB call_abs (by rfl) T.abs (by decide +kernel) (pa_cons (pv 2) pa_nil)) (pe_op op_pow pe_int pe_int) (nomark _)) (pe_callB call_abs (by rfl) T.abs (by decide +kernel) (pa_cons (pv 2) pa_nil)) pe_int))
      (pss_one (ps_ret (pe_lst (pa_cons (pv 3) (pa_cons (pe_op op_add (pe_op op_add (pe_op op_mod (pe_callTy call_int1 (by rfl) T.int (by decide +kernel) (pa_cons (pv 2) pa_nil)) pe_int) (pe_op op_mul pe_int (pv 1))) pe_int) (pa_cons pe_int pa_nil)))))))), ?_⟩
  obtain ⟨a, ns, i, rfl, hS, hi, k⟩ := h
  obtain ⟨cell, hcell⟩ : ∃ cell : Int, (i < ns.length → ns[i]? = some cell) ∧ (¬ i < ns.length → cell = 0) := by
    by_cases hl : i < ns.length
    · exact ⟨ns[i], fun _ => by simp [hl], fun z => absurd hl z⟩
    · exact ⟨0, fun z => absurd z hl, fun _ => rfl⟩
  refine tif_v (c := decide ((i : Int) < ((ns.map V.int).length : Nat))) (.int cell) (fun R q => ⟨_, rfl, _, rfl, a, _, rfl, .inl hS, _, _, rfl, rfl, _, rfl, q⟩) (fun hc R q => ?_) (fun hc R q => ?_) ?_
  · have hl : i < ns.length := by
      have := of_decide_eq_true hc
      rw [List.length_map] at this
      omega
    exact ⟨_, rfl, _, rfl, a, _, _, _, rfl, rfl, hS, atI_nat (j := i) (by rw [List.getElem?_map, hcell.1 hl]; rfl), .inl ⟨_, rfl, q⟩⟩
  · have hl : ¬ i < ns.length := by
      have := of_decide_eq_false hc
      rw [List.length_map] at this
      omega
    rw [hcell.2 hl] at q
    exact q
  dsimp only [gName, tSeq, tAsg]
  refine tif_v (c := decide ((10 : Int) ^ 18 ≤ if cell < 0 then -cell else cell)) (.int (if (10 : Int) ^ 18 ≤ if cell < 0 then -cell else cell then (if cell < 0 then -cell else cell) else 0)) (fun R q => ⟨_, rfl, _, rfl, _, _, rfl, rfl, ⟨by decide, by decide, by decide⟩, _, _, rfl, rfl, _, rfl, q⟩) (fun hc R q => ?_) (fun hc R q => ?_) ?_
  · rw [if_pos (of_decide_eq_true hc)] at q
    exact ⟨_, rfl, _, rfl, q⟩
  · rw [if_neg (of_decide_eq_false hc)] at q
    exact q
  refine ⟨_, rfl, _, rfl, .inl ⟨_, rfl, _, _, rfl, rfl, (by show (0 : Int) < 2147483579; decide), _, rfl, _, _, rfl, rfl, Or.inl (by constructor <;> decide), _, _, rfl, rfl, _, _, rfl, rfl, (by show 3 ≤ sizeLine; decide), fun b hb => ?_⟩⟩
  exact k _ b (Same.new hb) hb ⟨_, _, _, upd_same, by decide, by decide⟩
theorem sc__law_of : FnScope ["_law_source_here", "_law_some"] ["_law_source_here", "_law_some"] (defScope (topS 33)) := ⟨rfl, rfl, rfl, by decide +kernel, rfl, by decide +kernel, by decide +kernel⟩
theorem ok__law_of (T : Tx P K mg) : GOk P w K mg base CX0 2 "_law_of" ["_law_source_here", "_law_some"] sp_of := by
  obtain ⟨f__law_draw, fd__law_draw, G__law_draw, m__law_draw, k__law_draw, b__law_draw⟩ := ok__law_draw (P := P) (w := w) (base := base) T
  obtain ⟨f, fd, F, gm⟩ := T.fn (33, "_law_of") (by decide +kernel)
  refine ⟨f, fd, ?_, gm, F.kp, F.binds fun _ _ _ _ _ _ us hl => match us, hl with | [_, _], _ => rfl⟩
  refine F.ok sc__law_of (fun vs H Q E h => ?_) (fun cdv A outer s H vs Q E hr h => ?_)
  · obtain ⟨_, _, _, _, rfl, _⟩ := h
    rfl
  have hu := hu_of hr
  refine ⟨_, (pss_one (ps_ret (pe_ix ix_list (pv 1) (pe_call G__law_draw (hr.mono (by decide)) rfl m__law_draw k__law_draw b__law_draw .nil pass0 (pa_cons (pv 0) (pa_cons (pe_callB call_len_seq (by rfl) T.len PySem.boot_len (pa_cons (pv 1) pa_nil)) pa_nil))) (fun _ _ => rfl)))), ?_⟩
  obtain ⟨s1, p, xs, c, rfl, S, hc, hp, hne, h1, h2, k⟩ := h
  refine ⟨_, rfl, _, rfl, _, rfl, p, _, rfl, .inl (SqL.of hp), s1, xs.length, c, rfl, S, hc, h1, h2, fun H' i hi fr S' => ?_⟩
  exact ⟨p, xs, i, xs[i], rfl, rfl, SqL.of (fr _ _ hne.symm hne.symm hp), atI_nat (by simp [hi]), k H' i _ (by simp [hi]) fr S'⟩
end
end OA

set_option maxHeartbeats 4000000
/-! The law's comparison, and its own table of the rows. -/
namespace OA
open PySem PySem.Spec PyProof.Rows L2 OW
def sca : V → Bool
  | .non => true | .bl _ => true | .int _ => true | .str _ => true | _ => false
/-- data that is the same, of depth below k -/
def Eqv : Nat → Hp → V → V → Prop
  | 0, _, _, _ => False
  | k + 1, H, x, y => (x = y ∧ sca y = true) ∨ ∃ (a b : Addr) (xs ys : List V), x = .ref a ∧ y = .ref b ∧ xs.length = ys.length ∧ ys.length ≤ 100000 ∧ (∀ (i : Nat) (u v : V), xs[i]? = some u → ys[i]? = some v → Eqv k H u v) ∧ ((H a = some (.lst xs) ∧ H b = some (.lst ys)) ∨ (H a = some (.tup xs) ∧ H b = some (.tup ys)))
theorem Eqv.same {H H' : Hp} (s : Same H H') : ∀ {k : Nat} {x y : V}, Eqv k H x y → Eqv k H' x y
  | 0, _, _, h => h.elim
  | k + 1, x, y, h => by
    rcases h with h | ⟨a, b, xs, ys, h1, h2, h3, h4, h5, h6⟩
    · exact Or.inl h
    · refine Or.inr ⟨a, b, xs, ys, h1, h2, h3, h4, fun i u v e1 e2 => (h5 i u v e1 e2).same s, ?_⟩
      rcases h6 with ⟨p, q⟩ | ⟨p, q⟩
      · exact Or.inl ⟨s _ _ p, s _ _ q⟩
      · exact Or.inr ⟨s _ _ p, s _ _ q⟩
def sp_same : Nat → Sp
  | 0 => fun _ _ _ _ => False
  | k + 1 => fun vs H Q _ => ∃ x y : V, vs = [x, y] ∧ Eqv (k + 1) H x y ∧ ∀ H', Same H H' → Q (.bl true) H'
theorem isi {K : PySem.W.Frag} {H : Hp} {Q : VK} {x : V} {a b : String} {r : Bool} (ty : TyX K H x (.type a)) (h : kitB a b = some r) (q : Q (.bl r) H) : rIsi K [x, .ty b] H Q := ⟨x, _, _, _, r, rfl, .ty b, ty, kit_ty h, q⟩
theorem isiT2 {K : PySem.W.Frag} {H : Hp} {Q : VK} {x : V} {tp : Addr} {a b c : String} {r r1 r2 : Bool} (ht : H tp = some (.tup [.ty b, .ty c])) (ty : TyX K H x (.type a)) (h1 : kitB a b = some r1) (h2 : kitB a c = some r2) (e : (r1 || r2) = r) (q : Q (.bl r) H) : rIsiT K [x, .ref tp] H Q := by
  refine ⟨x, tp, _, _, [.type b, .type c], r, rfl, ht, .cons (.ty b) (.cons (.ty c) .nil), ty, ?_, q⟩
  subst e
  refine kitAny_cons (kit_ty h1) (fun e => ?_) (fun e => by rw [e]; rfl)
  subst e
  refine kitAny_cons (kit_ty h2) (fun e => by rw [e]; rfl) (fun e => by rw [e]; rfl)
section
variable {K : PySem.W.Frag} {σ : L2.St} {H : Hp} {x y : V} {i j : Nat} {a a' b c : String} {r r' r1 r2 : Bool}
abbrev tIs (K : PySem.W.Frag) (i : Nat) (b : String) : TE := tCB (rIsi K) (tCons (tVar i) (tCons (tC (.ty b)) tNil))
theorem tv_isi {Q : VK} (hv : σ[i]? = some (some x)) (ty : TyX K H x (.type a)) (h : kitB a b = some r) (q : Q (.bl r) H) : tIs K i b σ H Q := ⟨x, hv, x, _, _, _, r, rfl, .ty b, ty, kit_ty h, q⟩
theorem tb_isi {R : Bool → Hp → Prop} (hv : σ[i]? = some (some x)) (ty : TyX K H x (.type a)) (h : kitB a b = some r) (q : R r H) : tB (tIs K i b) σ H R := ⟨x, hv, x, _, _, _, r, rfl, .ty b, ty, kit_ty h, _, rfl, q⟩
theorem tne_isi {R : Bool → Hp → Prop} (hv : σ[i]? = some (some x)) (hw : σ[j]? = some (some y)) (ty : TyX K H x (.type a)) (ty' : TyX K H y (.type a')) (h : kitB a b = some r) (h' : kitB a' b = some r) (q : R false H) : tTest (tOp rNe (tIs K i b) (tIs K j b)) σ H R := by
  refine ⟨x, hv, x, _, _, _, r, rfl, .ty b, ty, kit_ty h, y, hw, y, _, _, _, r, rfl, .ty b, ty', kit_ty h', rfl, _, rfl, ?_⟩
  have e : (!decide (V.bl r = V.bl r)) = false := by simp
  rw [e]
  exact q
theorem tb_isiT {R : Bool → Hp → Prop} (hv : σ[i]? = some (some x)) (ty : ∀ H', Same H H' → TyX K H' x (.type a)) (h1 : kitB a b = some r1) (h2 : kitB a c = some r2) (e : (r1 || r2) = r) (q : ∀ H', Same H H' → R r H') : tB (tCB (rIsiT K) (tCons (tVar i) (tCons (tTup (tCons (tC (.ty b)) (tCons (tC (.ty c)) tNil))) tNil))) σ H R :=
  ⟨x, hv, (by show 2 ≤ sizeLine; decide), fun tp htp => (show rIsiT K [x, .ref tp] _ (fun x H1 => ∃ c, x = V.bl c ∧ R c H1) from isiT2 upd_same (ty _ (Same.new htp)) h1 h2 e ⟨_, rfl, q _ (Same.new htp)⟩)⟩
/-- isinstance(x, T) and x == y -/
theorem ret_isi {Q : VK} (hv : σ[i]? = some (some x)) (hw : σ[j]? = some (some x)) (hs : scal x x = true) (ty : TyX K H x (.type a)) (h : kitB a b = some true) (q : Q (.bl true) H) : tAndV (tIs K i b) (tOp rEq (tVar i) (tVar j)) σ H Q := by
  refine ⟨x, hv, x, _, _, _, true, rfl, .ty b, ty, kit_ty h, true, rfl, iteT ⟨x, hv, x, hw, hs, ?_⟩⟩
  rw [decide_eq_true rfl]
  exact q
/-- isinstance(x, T) and not isinstance(x, U) and x == y -/
theorem ret_isi3 {Q : VK} (hv : σ[i]? = some (some x)) (hw : σ[j]? = some (some x)) (hs : scal x x = true) (ty : TyX K H x (.type a)) (h : kitB a b = some true) (h' : kitB a c = some false) (q : Q (.bl true) H) : tAndV (tIs K i b) (tAndV (tNotV (tIs K i c)) (tOp rEq (tVar i) (tVar j))) σ H Q := by
  refine ⟨x, hv, x, _, _, _, true, rfl, .ty b, ty, kit_ty h, true, rfl, iteT ⟨x, hv, x, _, _, _, false, rfl, .ty c, ty, kit_ty h', false, rfl, true, rfl, iteT ⟨x, hv, x, hw, hs, ?_⟩⟩⟩
  rw [decide_eq_true rfl]
  exact q
end
theorem walk_zipT {K : PySem.W.Frag} {a b : Addr} {xs ys : List V} {n : Nat} (hn : n = min xs.length ys.length) : Walk (RZ.ItzT K a b) n (fun H => SqT K H a xs ∧ SqT K H b ys) (YPair (fun i => xs[i]?) (fun i => ys[i]?)) := by
  subst hn
  refine ⟨fun i _ hi q => ?_, fun _ q => ⟨xs, ys, q.1, q.2, by omega⟩, fun i H v H' _ q y => ?_⟩
  · have h1 : i < xs.length := by omega
    have h2 : i < ys.length := by omega
    exact ⟨xs, ys, xs[i], ys[i], q.1, q.2, by simp [h1], by simp [h2]⟩
  · obtain ⟨T, x, z, h1, h2, h3, h4, h5⟩ := y
    exact ⟨T, x, z, h1, h2, h3, h4 xs q.1, h5 ys q.2⟩
theorem all_true (n : Nat) : (List.replicate n true).all id = true := by
  induction n with
  | zero => rfl
  | succ n ih => exact ih
theorem rep_bl (n : Nat) : List.replicate n (V.bl true) = (List.replicate n true).map V.bl := (List.map_replicate).symm
theorem rep_snoc (i : Nat) : List.replicate i (V.bl true) ++ [V.bl true] = List.replicate (i + 1) (V.bl true) := by
  rw [List.replicate_succ']
section
variable {P : Program} {w : World} {K : PySem.W.Frag} {mg : Str → Option Value} {base : Heap}
theorem sc__law_same : FnScope ["_law_actual", "_law_due_here", "_law_one", "_law_two"] ["_law_actual", "_law_due_here"] (defScope (topS 34)) := ⟨rfl, rfl, rfl, by decide +kernel, rfl, by decide +kernel, by decide +kernel⟩
theorem ok__law_same (T : Tx P K mg) : ∀ k, GOk P w K mg base CX0 (k + 1) "_law_same" ["_law_actual", "_law_due_here"] (sp_same k)
  | 0 => by
    obtain ⟨f, fd, F, gm⟩ := T.fn (34, "_law_same") (by decide +kernel)
    refine ⟨f, fd, ?_, gm, F.kp, F.binds fun _ _ _ _ _ _ us hl => match us, hl with | [_, _], _ => rfl⟩
    exact F.ok sc__law_same (fun vs H Q E h => h.elim) (fun cdv A outer s H vs Q E hr h => h.elim)
  | k + 1 => by
    obtain ⟨f__law_same, fd__law_same, G__law_same, m__law_same, k__law_same, b__law_same⟩ := ok__law_same T k
    obtain ⟨f, fd, F, gm⟩ := T.fn (34, "_law_same") (by decide +kernel)
    refine ⟨f, fd, ?_, gm, F.kp, F.binds fun _ _ _ _ _ _ us hl => match us, hl with | [_, _], _ => rfl⟩
    refine F.ok sc__law_same (fun vs H Q E h => ?_) (fun cdv A outer s H vs Q E hr h => ?_)
    · obtain ⟨_, _, rfl, _⟩ := h
      rfl
    have hu := hu_of hr
    refine ⟨_, (pss_cons (ps_if (PW.pt (pw_or (pt_cmpR op_isN (pv 1) pe_non (nomark _)) (pw_or1 (pt_val (pe_callB call_isi (by rfl) T.isinstance (by decide +kernel) (pa_cons (pv 1) (pa_cons (pe_bltn (v := .ty "bool") (by rfl) T.bool (by decide +kernel) rfl) pa_nil)))))))
      (pss_one (ps_ret (pe_ifExp (pt_cmpR op_isN (pv 1) pe_non (nomark _)) (pe_cmpR op_isN (pv 0) pe_non (nomark _)) (pe_and (pe_callB call_isi (by rfl) T.isinstance (by decide +kernel) (pa_cons (pv 0) (pa_cons (pe_bltn (v := .ty "bool") (by rfl) T.bool (by decide +kernel) rfl) pa_nil))) (pe_one (pe_cmpR op_eq (pv 0) (pv 1) (nomark _)))))))
      pss_nil)
      (pss_cons (ps_if (pt_cmpR op_ne (pe_callB call_isi (by rfl) T.isinstance (by decide +kernel) (pa_cons (pv 1) (pa_cons (pe_bltn (v := .ty "tuple") (by rfl) T.tuple (by decide +kernel) rfl) pa_nil))) (pe_callB call_isi (by rfl) T.isinstance (by decide +kernel) (pa_cons (pv 0) (pa_cons (pe_bltn (v := .ty "tuple") (by rfl) T.tuple (by decide +kernel) rfl) pa_nil))) (nomark _))
      (pss_one (ps_ret pe_bl))
      pss_nil)
      (pss_cons (ps_if (pt_cmpR op_ne (pe_callB call_isi (by rfl) T.isinstance (by decide +kernel) (pa_cons (pv 1) (pa_cons (pe_bltn (v := .ty "list") (by rfl) T.list (by decide +kernel) rfl) pa_nil))) (pe_callB call_isi (by rfl) T.isinstance (by decide +kernel) (pa_cons (pv 0) (pa_cons (pe_bltn (v := .ty "list") (by rfl) T.list (by decide +kernel) rfl) pa_nil))) (nomark _))
      (pss_one (ps_ret pe_bl))
      pss_nil)
      (pss_cons (ps_if (pt_val (pe_callB call_isiT (by rfl) T.isinstance (by decide +kernel) (pa_cons (pv 1) (pa_cons (pe_tup ((pa_cons (pe_bltn (v := .ty "tuple") (by rfl) T.tuple (by decide +kernel) rfl) (pa_cons (pe_bltn (v := .ty "list") (by rfl) T.list (by decide +kernel) rfl) pa_nil)))) pa_nil))))
      (pss_one (ps_ret (pe_and (pe_cmpR op_eq (pe_callB call_len_seq (by rfl) T.len PySem.boot_len (pa_cons (pv 0) pa_nil)) (pe_callB call_len_seq (by rfl) T.len PySem.boot_len (pa_cons (pv 1) pa_nil)) (nomark _)) (pe_one (pe_callB (cr_all rfl) (by rfl) T.all (by decide +kernel) (pa_cons (pe_lc (own := [("_law_one", 2), ("_law_two", 3)]) (by rfl) sc__law_same.nd (RZ.pi_zipA (by rfl) T.zip (pa_cons (pv 0) (pa_cons (pv 1) pa_nil))) (blkOk_by (own := [("_law_one", 2), ("_law_two", 3)]) (N := ["_law_actual", "_law_due_here", "_law_one", "_law_two"]) (sc := defScope (topS 34)) (by decide +kernel)) (fun _ _ _ _ _ => (pg_tup rfl (pgs_cons (pg_name (i := 2) sc__law_same.nd rfl (Or.inl rfl)) (pgs_cons (pg_name (i := 3) sc__law_same.nd rfl (Or.inl rfl)) pgs_nil)) : PG _ _ (gTup K 2 _))) (fun _ _ _ _ _ => pts_nil) (fun _ _ _ _ _ => (pe_call G__law_same (hr.mono (by omega)) rfl m__law_same k__law_same b__law_same .nil pass0 (pa_cons (pv 2) (pa_cons (pv 3) pa_nil))))) pa_nil))))))
      pss_nil)
      (pss_cons (ps_if (pt_val (pe_callB call_isi (by rfl) T.isinstance (by decide +kernel) (pa_cons (pv 1) (pa_cons (pe_bltn (v := .ty "int") (by rfl) T.int (by decide +kernel) rfl) pa_nil))))
      (pss_one (ps_ret (pe_and (pe_callB call_isi (by rfl) T.isinstance (by decide +kernel) (pa_cons (pv 0) (pa_cons (pe_bltn (v := .ty "int") (by rfl) T.int (by decide +kernel) rfl) pa_nil))) (pe_and (pe_not (pe_callB call_isi (by rfl) T.isinstance (by decide +kernel) (pa_cons (pv 0) (pa_cons (pe_bltn (v := .ty "bool") (by rfl) T.bool (by decide +kernel) rfl) pa_nil)))) (pe_one (pe_cmpR op_eq (pv 0) (pv 1) (nomark _)))))))
      pss_nil)
      (pss_one (ps_ret (pe_and (pe_callB call_isi (by rfl) T.isinstance (by decide +kernel) (pa_cons (pv 0) (pa_cons (pe_bltn (v := .ty "str") (by rfl) T.str (by decide +kernel) rfl) pa_nil))) (pe_one (pe_cmpR op_eq (pv 0) (pv 1) (nomark _))))))))))), ?_⟩
    obtain ⟨x, y, rfl, e, q⟩ := h
    have q0 := q H (fun _ _ h => h)
    rcases e with ⟨rfl, hs⟩ | ⟨a, b, xs, ys, rfl, rfl, hn, hz, hp, h6⟩
    · cases x with
      | non => exact ⟨_, rfl, rfl, _, rfl, iteT' rfl ⟨_, rfl, rfl, _, rfl, iteT' rfl ⟨_, rfl, rfl, q0⟩⟩⟩
      | bl c =>
        have ty : ∀ H, TyX K H (.bl c) (.type "bool") := fun _ => .base (.bl c)
        refine ⟨_, rfl, rfl, _, rfl, iteF' rfl (tb_isi rfl (ty _) (by decide +kernel) (iteT' rfl ?_))⟩
        refine ⟨_, rfl, rfl, _, rfl, iteF' rfl (ret_isi rfl rfl rfl (ty _) (by decide +kernel) q0)⟩
      | int c =>
        have ty : ∀ H, TyX K H (.int c) (.type "int") := fun _ => .base (.int c)
        refine ⟨_, rfl, rfl, _, rfl, iteF' rfl (tb_isi rfl (ty _) (by decide +kernel) (iteF' rfl ?_))⟩
        refine tne_isi (r := false) rfl rfl (ty _) (ty _) (by decide +kernel) (by decide +kernel) (iteF' rfl ?_)
        refine tne_isi (r := false) rfl rfl (ty _) (ty _) (by decide +kernel) (by decide +kernel) (iteF' rfl ?_)
        refine tb_isiT (r1 := false) (r2 := false) rfl (fun _ _ => ty _) (by decide +kernel) (by decide +kernel) rfl (fun H1 s1 => iteF' rfl ?_)
        refine tb_isi rfl (ty _) (by decide +kernel) (iteT' rfl ?_)
        exact ret_isi3 rfl rfl rfl (ty _) (by decide +kernel) (by decide +kernel) (q _ s1)
      | str c =>
        have ty : ∀ H, TyX K H (.str c) (.type "str") := fun _ => .base (.str c)
        refine ⟨_, rfl, rfl, _, rfl, iteF' rfl (tb_isi rfl (ty _) (by decide +kernel) (iteF' rfl ?_))⟩
        refine tne_isi (r := false) rfl rfl (ty _) (ty _) (by decide +kernel) (by decide +kernel) (iteF' rfl ?_)
        refine tne_isi (r := false) rfl rfl (ty _) (ty _) (by decide +kernel) (by decide +kernel) (iteF' rfl ?_)
        refine tb_isiT (r1 := false) (r2 := false) rfl (fun _ _ => ty _) (by decide +kernel) (by decide +kernel) rfl (fun H1 s1 => iteF' rfl ?_)
        refine tb_isi rfl (ty _) (by decide +kernel) (iteF' rfl ?_)
        exact ret_isi rfl rfl rfl (ty _) (by decide +kernel) (q _ s1)
      | _ => cases hs
    · rcases h6 with ⟨ha, hb⟩ | ⟨ha, hb⟩
      · have ta : ∀ H', Same H H' → TyX K H' (.ref a) (.type "list") := fun _ s => .base (.lst (s _ _ ha))
        have tb : ∀ H', Same H H' → TyX K H' (.ref b) (.type "list") := fun _ s => .base (.lst (s _ _ hb))
        have s0 : Same H H := fun _ _ h => h
        refine ⟨_, rfl, rfl, _, rfl, iteF' rfl (tb_isi rfl (tb _ s0) (by decide +kernel) (iteF' rfl ?_))⟩
        refine tne_isi (r := false) rfl rfl (tb _ s0) (ta _ s0) (by decide +kernel) (by decide +kernel) (iteF' rfl ?_)
        refine tne_isi (r := true) rfl rfl (tb _ s0) (ta _ s0) (by decide +kernel) (by decide +kernel) (iteF' rfl ?_)
        refine tb_isiT (r1 := false) (r2 := true) rfl tb (by decide +kernel) (by decide +kernel) rfl (fun H1 s1 => iteT' rfl ?_)
        have ha1 := s1 _ _ ha
        have hb1 := s1 _ _ hb
        refine ⟨_, rfl, a, _, rfl, .inl (SqL.of ha1), _, rfl, b, _, rfl, .inl (SqL.of hb1), rfl, _, rfl, iteT' (by rw [hn]; exact decide_eq_true rfl) ?_⟩
        refine ⟨_, rfl, _, rfl, a, b, xs, ys, rfl, .inl ⟨SqL.of ha1, SqL.of hb1, fun D hD => ?_⟩⟩
        have hn' : ys.length = min xs.length ys.length := by omega
        refine lc_it (walk_zip (xs := xs) (ys := ys) hn') (fun i H' => Same H1 H' ∧ H' D = some (.lst (List.replicate i (.bl true)))) ⟨Same.new hD, upd_same⟩ (fun i H1 _ h1 => ⟨SqL.of (h1.1 _ _ ha1), SqL.of (h1.1 _ _ hb1)⟩) ?_ ?_
        · rintro i x1 H2 H3 hi ⟨sm, hat⟩ ⟨t1, u, v, rfl, ht1, rfl, eu, ev⟩
          have s2 := sm.trans (Same.new (o := .tup [u, v]) ht1)
          have hat2 := Same.new (o := .tup [u, v]) ht1 _ _ hat
          refine ⟨t1, _, rfl, SqT.of upd_same, rfl, ?_⟩
          have ee := (hp i u v eu ev).same (s1.trans s2)
          cases k with
          | zero => exact ee.elim
          | succ k =>
            refine ⟨_, _, rfl, _, _, rfl, rfl, rfl, ?_⟩
            unfold tYes
            dsimp only
            rw [if_pos rfl]
            refine ⟨_, rfl, _, rfl, u, v, rfl, ee, fun H4 s4 => ?_⟩
            refine ⟨_, s4 _ _ hat2, by rw [List.length_replicate, sizeLine_eq]; omega, same_put (s2.trans s4) (hD), ?_⟩
            rw [upd_same, rep_snoc]
        · rintro H2 ⟨sm, hat⟩
          rw [rep_bl] at hat
          exact ⟨D, _, rfl, SqL.of hat, qbl (all_true _) (q _ (s1.trans sm))⟩
      · have ta : ∀ H', Same H H' → TyX K H' (.ref a) (.type "tuple") := fun _ s => .base (.tup (s _ _ ha))
        have tb : ∀ H', Same H H' → TyX K H' (.ref b) (.type "tuple") := fun _ s => .base (.tup (s _ _ hb))
        have s0 : Same H H := fun _ _ h => h
        refine ⟨_, rfl, rfl, _, rfl, iteF' rfl (tb_isi rfl (tb _ s0) (by decide +kernel) (iteF' rfl ?_))⟩
        refine tne_isi (r := true) rfl rfl (tb _ s0) (ta _ s0) (by decide +kernel) (by decide +kernel) (iteF' rfl ?_)
        refine tne_isi (r := false) rfl rfl (tb _ s0) (ta _ s0) (by decide +kernel) (by decide +kernel) (iteF' rfl ?_)
        refine tb_isiT (r1 := true) (r2 := false) rfl tb (by decide +kernel) (by decide +kernel) rfl (fun H1 s1 => iteT' rfl ?_)
        have ha1 := s1 _ _ ha
        have hb1 := s1 _ _ hb
        refine ⟨_, rfl, a, _, rfl, .inr (SqT.of ha1), _, rfl, b, _, rfl, .inr (SqT.of hb1), rfl, _, rfl, iteT' (by rw [hn]; exact decide_eq_true rfl) ?_⟩
        refine ⟨_, rfl, _, rfl, a, b, xs, ys, rfl, .inr ⟨SqT.of ha1, SqT.of hb1, fun D hD => ?_⟩⟩
        have hn' : ys.length = min xs.length ys.length := by omega
        refine lc_it (walk_zipT (xs := xs) (ys := ys) hn') (fun i H' => Same H1 H' ∧ H' D = some (.lst (List.replicate i (.bl true)))) ⟨Same.new hD, upd_same⟩ (fun i H1 _ h1 => ⟨SqT.of (h1.1 _ _ ha1), SqT.of (h1.1 _ _ hb1)⟩) ?_ ?_
        · rintro i x1 H2 H3 hi ⟨sm, hat⟩ ⟨t1, u, v, rfl, ht1, rfl, eu, ev⟩
          have s2 := sm.trans (Same.new (o := .tup [u, v]) ht1)
          have hat2 := Same.new (o := .tup [u, v]) ht1 _ _ hat
          refine ⟨t1, _, rfl, SqT.of upd_same, rfl, ?_⟩
          have ee := (hp i u v eu ev).same (s1.trans s2)
          cases k with
          | zero => exact ee.elim
          | succ k =>
            refine ⟨_, _, rfl, _, _, rfl, rfl, rfl, ?_⟩
            unfold tYes
            dsimp only
            rw [if_pos rfl]
            refine ⟨_, rfl, _, rfl, u, v, rfl, ee, fun H4 s4 => ?_⟩
            refine ⟨_, s4 _ _ hat2, by rw [List.length_replicate, sizeLine_eq]; omega, same_put (s2.trans s4) (hD), ?_⟩
            rw [upd_same, rep_snoc]
        · rintro H2 ⟨sm, hat⟩
          rw [rep_bl] at hat
          exact ⟨D, _, rfl, SqL.of hat, qbl (all_true _) (q _ (s1.trans sm))⟩
end
end OA

set_option maxHeartbeats 4000000
/-! The law's own table of the rows. -/
namespace OA
open PySem PySem.Spec PyProof.Rows L2 OW
theorem sput {H H1 : Hp} {p : Addr} {o : HO} (s : Same H H1) (h : H1 p = none) : Same H (upd H1 p o) := s.trans (Same.new h)
theorem sback {H H1 : Hp} {p : Addr} (s : Same H H1) (h : H1 p = none) : H p = none := by
  cases e : H p with
  | none => rfl
  | some u =>
    rw [s _ _ e] at h
    cases h
theorem sput2 {H H1 : Hp} {p : Addr} {o u : HO} (s : Same H H1) (h : H1 p = none) : Same H (upd (upd H1 p o) p u) := same_put (sput s h) (sback s h)
theorem same_refl {H : Hp} : Same H H := fun _ _ h => h
theorem at_ff {a b : V} {c : Bool} (h : c = false) : atI [a, b] (if c = true then 1 else 0) = some a := by
  subst h
  rfl
theorem at_tt {a b : V} {c : Bool} (h : c = true) : atI [a, b] (if c = true then 1 else 0) = some b := by
  subst h
  rfl
theorem in_out (m : Mk') : inV (.str m.s) [.str "out", .str "both"] = isOut m := by cases m <;> decide +kernel
theorem in_inn (m : Mk') : inV (.str m.s) [.str "in", .str "both"] = isIn m := by cases m <;> decide +kernel
/-- sending, reading = mark in ('out', 'both'), mark in ('in', 'both') -/
theorem par_in {K : PySem.W.Frag} {σ : L2.St} {H : Hp} {D : Ends} {i j l : Nat} {m : Mk'} (hv : σ[l]? = some (some (.str m.s))) (q : ∀ H', Same H H' → D.nx ((σ.set i (some (.bl (isOut m)))).set j (some (.bl (isIn m)))) H') :
    tPar i j (tCons (tOp (rIn K false) (tVar l) (tTup (tCons (tC (.str "out")) (tCons (tC (.str "both")) tNil)))) (tCons (tOp (rIn K false) (tVar l) (tTup (tCons (tC (.str "in")) (tCons (tC (.str "both")) tNil)))) tNil)) D σ H := by
  refine ⟨_, hv, (by show 2 ≤ sizeLine; decide), fun t1 h1 => ⟨t1, _, rfl, .inr (SqT.of upd_same), rfl, by decide +kernel, _, hv, (by show 2 ≤ sizeLine; decide), fun t2 h2 => ⟨t2, _, rfl, .inr (SqT.of upd_same), rfl, by decide +kernel, _, _, rfl, ?_⟩⟩⟩
  have z := q _ (sput (o := .tup [.str "in", .str "both"]) (sput (o := .tup [.str "out", .str "both"]) same_refl h1) h2)
  rw [← in_out m, ← in_inn m] at z
  exact z
def sp_law_fault : Sp := fun vs H Q _ => ∃ (v : Wd) (m : Mk') (n : Nat), vs = [.str v.s, .str m.s, .int n] ∧ ∀ H', Same H H' → Q (ftV (fault v m n)) H'
def sp_law_mark : Sp := fun vs H Q _ => ∃ (v : Wd) (m : Mk'), vs = [.str v.s, .str m.s] ∧ ∀ H', Same H H' → Q (.str (after v m).s) H'
/-- the law's entry of a line -/
def nf (n : Nat) (l : Ln) (kq : Addr) : List (Key × V) := [(.inr "number", .int n), (.inr "mark", .str l.mark.s), (.inr "queue", .ref kq), (.inr "begun", l.bgn), (.inr "cause", l.cause), (.inr "lent", .bl l.lent)]
structure NowAt (H : Hp) (nw : Addr) (n : Nat) (l : Ln) (kq : Addr) : Prop where
  obj : H nw = some (.dK (nf n l kq))
  que : H kq = some (.lst (l.q.map V.str))
theorem NowAt.same {H H' : Hp} {nw kq : Addr} {n : Nat} {l : Ln} (N : NowAt H nw n l kq) (s : Same H H') : NowAt H' nw n l kq := ⟨s _ _ N.obj, s _ _ N.que⟩
theorem NowAt.ne {H : Hp} {nw kq : Addr} {n : Nat} {l : Ln} (N : NowAt H nw n l kq) : nw ≠ kq := ne_of N.obj N.que (fun z => nomatch z)
def sp_law_new : Sp := fun vs H Q _ => ∃ n : Nat, vs = [.int n] ∧ ∀ H' nw kq, Same H H' → H nw = none → H kq = none → NowAt H' nw n ⟨.whole, [], "", .non, .non, false⟩ kq → Q (.ref nw) H'
section
variable {P : Program} {w : World} {K : PySem.W.Frag} {mg : Str → Option Value} {base : Heap}
theorem sc__law_fault : FnScope ["_law_word", "_law_mark_here", "_law_owed", "_law_sending", "_law_reading", "_law_amid"] ["_law_word", "_law_mark_here", "_law_owed"] (defScope (topS 35)) := ⟨rfl, rfl, rfl, by decide +kernel, rfl, by decide +kernel, by decide +kernel⟩
theorem ok__law_fault (T : Tx P K mg) : GOk P w K mg base CX0 1 "_law_fault" ["_law_word", "_law_mark_here", "_law_owed"] sp_law_fault := by
  obtain ⟨f, fd, F, gm⟩ := T.fn (35, "_law_fault") (by decide +kernel)
  refine ⟨f, fd, ?_, gm, F.kp, F.binds fun _ _ _ _ _ _ us hl => match us, hl with | [_, _, _], _ => rfl⟩
  refine F.ok sc__law_fault (fun vs H Q E h => ?_) (fun cdv A outer s H vs Q E hr h => ?_)
  · obtain ⟨_, _, _, rfl, _⟩ := h
    rfl
  have hu := hu_of hr
  refine ⟨_, (pss_cons (ps_if (pt_cmpR op_notIn_seq (pv 0) (pe_tup (pa_cons pe_str (pa_cons pe_str (pa_cons pe_str (pa_cons pe_str (pa_cons pe_str (pa_cons pe_str pa_nil))))))) (by rfl))
      (pss_one (ps_ret pe_non))
      pss_nil)
      (pss_cons (ps_if (pt_cmpR op_eq (pv 1) pe_str (nomark _))
      (pss_one (ps_ret pe_str))
      pss_nil)
      (pss_cons (ps_par (i := 3) (j := 4) (by rfl) sc__law_fault.nd rfl rfl (by decide) rfl rfl (pa_cons (pe_cmpR op_in_seq (pv 1) (pe_tup (pa_cons pe_str (pa_cons pe_str pa_nil))) (by rfl)) (pa_cons (pe_cmpR op_in_seq (pv 1) (pe_tup (pa_cons pe_str (pa_cons pe_str pa_nil))) (by rfl)) pa_nil)) (by rfl))
      (pss_cons (ps_set (i := 5) sc__law_fault.nd rfl (Or.inl rfl) (pe_disp (pps_cons pe_str (pv 3) (pps_cons pe_str (pv 3) (pps_cons pe_str (pe_not (pv 3)) (pps_cons pe_str (pv 4) (pps_cons pe_str (pv 4) pps_nil))))) (by rfl) (by rfl) (fun z => by cases z) (by decide)))
      (pss_cons (ps_if (pt_val (pe_dget2 hu (pv 5) (pv 0) (pe_not (pv 4)) ⟨by rfl, by rfl, by rfl, by rfl⟩))
      (pss_one (ps_ret pe_str))
      pss_nil)
      (pss_one (ps_ret (pe_ifExp (PW.pt (pw_and (pt_cmpR op_in_seq (pv 0) (pe_tup (pa_cons pe_str (pa_cons pe_str pa_nil))) (by rfl)) (pw_and1 (pt_cmpR op_eq (pv 2) pe_int (nomark _))))) pe_str pe_non)))))))), ?_⟩
  obtain ⟨v, m, n, rfl, k⟩ := h
  refine ⟨_, rfl, (by show 6 ≤ sizeLine; decide), fun tp htp => ⟨tp, _, rfl, .inr (SqT.of upd_same), rfl, by decide +kernel, _, rfl, ?_⟩⟩
  have s1 : Same H (upd H tp (.tup [.str "ask", .str "begin", .str "finish", .str "read", .str "head", .str "body"])) := Same.new htp
  by_cases hv : lineWd v = true
  · refine iteF' (by cases v <;> first | decide +kernel | cases hv) ?_
    refine ⟨_, rfl, rfl, _, rfl, ?_⟩
    by_cases hm : m = .closed
    · subst hm
      refine iteT' (by decide +kernel) ?_
      have z := k _ s1
      cases v <;> first | exact z | cases hv
    · refine iteF' (by cases m <;> first | decide +kernel | exact absurd rfl hm) ?_
      refine par_in rfl (fun H3 s13 => ?_)
      have s3 := s1.trans s13
      intro p hp
      refine ⟨_, rfl, _, rfl, _, rfl, _, rfl, _, rfl, _, rfl, upd_same, [(.inr "ask", .bl (isOut m)), (.inr "begin", .bl (isOut m)), (.inr "finish", .bl (!isOut m)), (.inr "read", .bl (isIn m)), (.inr "head", .bl (isIn m))], rfl, (by show 5 ≤ 15; decide), ?_⟩
      have s5 := sput2 (o := .dK []) (u := .dK (mergeK [] [(.inr "ask", .bl (isOut m)), (.inr "begin", .bl (isOut m)), (.inr "finish", .bl (!isOut m)), (.inr "read", .bl (isIn m)), (.inr "head", .bl (isIn m))])) s3 hp
      have e : fault v m n = if amid v m then some .amid else if (v = .read ∨ v = .head) ∧ n = 0 then some .starved else none := by
        unfold fault
        rw [hv, if_neg (by decide), if_neg hm]
      rw [e] at k
      refine ⟨_, rfl, p, rfl, .inl ⟨_, .inl upd_same⟩, _, rfl, _, rfl, _, rfl, valV (mergeK [] [(.inr "ask", .bl (isOut m)), (.inr "begin", .bl (isOut m)), (.inr "finish", .bl (!isOut m)), (.inr "read", .bl (isIn m)), (.inr "head", .bl (isIn m))]) (.inr v.s), DGet.k (k := .inr v.s) upd_same, amid v m, (by cases v <;> first | rfl | cases hv), ?_⟩
      cases ha : amid v m with
      | true =>
        rw [ha] at k
        exact iteT (k _ s5)
      | false =>
        rw [ha] at k
        refine iteF ?_
        refine ⟨_, rfl, (by show 2 ≤ sizeLine; decide), fun t9 h9 => ⟨t9, _, rfl, .inr (SqT.of upd_same), rfl, by decide +kernel, _, rfl, ?_⟩⟩
        have s6 := sput (o := .tup [.str "read", .str "head"]) s5 h9
        by_cases hr2 : v = .read ∨ v = .head
        · refine iteT' (by rcases hr2 with rfl | rfl <;> decide +kernel) ⟨_, rfl, rfl, _, rfl, ?_⟩
          by_cases hn : n = 0
          · subst hn
            rw [if_neg Bool.false_ne_true, if_pos ⟨hr2, rfl⟩] at k
            exact iteT' rfl (k _ s6)
          · rw [if_neg Bool.false_ne_true, if_neg (fun z => hn z.2)] at k
            refine iteF' (decide_eq_false (fun z => hn ?_)) (k _ s6)
            cases z
            rfl
        · rw [if_neg Bool.false_ne_true, if_neg (fun z => hr2 z.1)] at k
          refine iteF' (by cases v <;> first | decide +kernel | exact absurd (by simp) hr2) (k _ s6)
  · have hv' : lineWd v = false := by simpa using hv
    refine iteT' (by cases v <;> first | decide +kernel | cases hv') ?_
    have z := k _ s1
    unfold fault at z
    rw [if_pos hv'] at z
    exact z
theorem sc__law_mark : FnScope ["_law_word", "_law_mark_here", "_law_sending", "_law_reading"] ["_law_word", "_law_mark_here"] (defScope (topS 36)) := ⟨rfl, rfl, rfl, by decide +kernel, rfl, by decide +kernel, by decide +kernel⟩
theorem ok__law_mark (T : Tx P K mg) : GOk P w K mg base CX0 1 "_law_mark" ["_law_word", "_law_mark_here"] sp_law_mark := by
  obtain ⟨f, fd, F, gm⟩ := T.fn (36, "_law_mark") (by decide +kernel)
  refine ⟨f, fd, ?_, gm, F.kp, F.binds fun _ _ _ _ _ _ us hl => match us, hl with | [_, _], _ => rfl⟩
  refine F.ok sc__law_mark (fun vs H Q E h => ?_) (fun cdv A outer s H vs Q E hr h => ?_)
  · obtain ⟨_, _, rfl, _⟩ := h
    rfl
  have hu := hu_of hr
  refine ⟨_, (pss_cons (ps_if (PW.pt (pw_or (pt_cmpR op_eq (pv 1) pe_str (nomark _)) (pw_or1 (pt_cmpR op_eq (pv 0) pe_str (nomark _)))))
      (pss_one (ps_ret pe_str))
      pss_nil)
      (pss_cons (ps_par (i := 2) (j := 3) (by rfl) sc__law_mark.nd rfl rfl (by decide) rfl rfl (pa_cons (pe_cmpR op_in_seq (pv 1) (pe_tup (pa_cons pe_str (pa_cons pe_str pa_nil))) (by rfl)) (pa_cons (pe_cmpR op_in_seq (pv 1) (pe_tup (pa_cons pe_str (pa_cons pe_str pa_nil))) (by rfl)) pa_nil)) (by rfl))
      (pss_cons (ps_if (pt_cmpR op_in_seq (pv 0) (pe_tup (pa_cons pe_str (pa_cons pe_str pa_nil))) (by rfl))
      (pss_one (ps_set (i := 2) sc__law_mark.nd rfl (Or.inl rfl) (pe_cmpR op_eq (pv 0) pe_str (nomark _))))
      pss_nil)
      (pss_cons (ps_if (pt_cmpR op_in_seq (pv 0) (pe_tup (pa_cons pe_str (pa_cons pe_str (pa_cons pe_str pa_nil)))) (by rfl))
      (pss_one (ps_set (i := 3) sc__law_mark.nd rfl (Or.inl rfl) (pe_cmpR op_eq (pv 0) pe_str (nomark _))))
      pss_nil)
      (pss_one (ps_ret (pe_ix ix_list (pe_ix ix_list (pe_lst (pa_cons (pe_lst (pa_cons pe_str (pa_cons pe_str pa_nil))) (pa_cons (pe_lst (pa_cons pe_str (pa_cons pe_str pa_nil))) pa_nil))) (pe_callTy call_int1 (by rfl) T.int (by decide +kernel) (pa_cons (pv 2) pa_nil)) (fun _ _ => rfl)) (pe_callTy call_int1 (by rfl) T.int (by decide +kernel) (pa_cons (pv 3) pa_nil)) (fun _ _ => rfl)))))))), ?_⟩
  obtain ⟨v, m, rfl, k⟩ := h
  refine ⟨_, rfl, rfl, _, rfl, ?_⟩
  by_cases hm : m = .closed
  · subst hm
    exact iteT' (by decide +kernel) (k _ same_refl)
  refine iteF' (by cases m <;> first | decide +kernel | exact absurd rfl hm) ⟨_, rfl, rfl, _, rfl, ?_⟩
  by_cases hc : v = .close
  · subst hc
    refine iteT' (by decide +kernel) ?_
    have e : after .close m = .closed := by
      unfold after
      rw [if_pos (Or.inr rfl)]
    rw [e] at k
    exact k _ same_refl
  refine iteF' (by cases v <;> first | decide +kernel | exact absurd rfl hc) ?_
  refine par_in rfl (fun H1 s1 => ?_)
  cases v <;> cases m
  all_goals first | exact absurd rfl hc | exact absurd rfl hm | skip
  all_goals refine ⟨_, rfl, (by show 2 ≤ sizeLine; decide), fun t2 h2 => ⟨t2, _, rfl, .inr (SqT.of upd_same), rfl, by decide +kernel, _, rfl, ?_⟩⟩
  all_goals first
    | refine iteT' (by decide +kernel) ⟨_, rfl, rfl, ?_⟩
    | refine iteF' (by decide +kernel) ?_
  all_goals refine ⟨_, rfl, (by show 3 ≤ sizeLine; decide), fun t3 h3 => ⟨t3, _, rfl, .inr (SqT.of upd_same), rfl, by decide +kernel, _, rfl, ?_⟩⟩
  all_goals first
    | refine iteT' (by decide +kernel) ⟨_, rfl, rfl, ?_⟩
    | refine iteF' (by decide +kernel) ?_
  all_goals
    refine ⟨(by show 2 ≤ sizeLine; decide), fun l1 e1 => ⟨(by show 2 ≤ sizeLine; decide), fun l2 e2 => ⟨(by show 2 ≤ sizeLine; decide), fun l3 e3 => ?_⟩⟩⟩
    have n12 : l1 ≠ l2 := ne_of_none upd_same e2
    have n23 : l2 ≠ l3 := ne_of_none upd_same e3
    have n13 : l1 ≠ l3 := fun z => by
      rw [← z, upd_ne n12, upd_same] at e3
      cases e3
    first
    | exact ⟨_, rfl, .inr ⟨_, rfl, l3, _, _, .ref l1, rfl, rfl, SqL.of upd_same, at_ff (by decide +kernel), _, rfl, .inr ⟨_, rfl, l1, _, _, _, rfl, rfl, SqL.of (by rw [upd_ne n13, upd_ne n12]; exact upd_same), by decide +kernel, k _ (sput (sput (sput (sput (sput s1 h2) h3) e1) e2) e3)⟩⟩⟩
    | exact ⟨_, rfl, .inr ⟨_, rfl, l3, _, _, .ref l2, rfl, rfl, SqL.of upd_same, at_tt (by decide +kernel), _, rfl, .inr ⟨_, rfl, l2, _, _, _, rfl, rfl, SqL.of (by rw [upd_ne n23]; exact upd_same), by decide +kernel, k _ (sput (sput (sput (sput (sput s1 h2) h3) e1) e2) e3)⟩⟩⟩
theorem sc__law_new : FnScope ["_law_number"] ["_law_number"] (defScope (topS 37)) := ⟨rfl, rfl, rfl, by decide +kernel, rfl, by decide +kernel, by decide +kernel⟩
theorem ok__law_new (T : Tx P K mg) : GOk P w K mg base CX0 1 "_law_new" ["_law_number"] sp_law_new := by
  obtain ⟨f, fd, F, gm⟩ := T.fn (37, "_law_new") (by decide +kernel)
  refine ⟨f, fd, ?_, gm, F.kp, F.binds fun _ _ _ _ _ _ us hl => match us, hl with | [_], _ => rfl⟩
  refine F.ok sc__law_new (fun vs H Q E h => ?_) (fun cdv A outer s H vs Q E hr h => ?_)
  · obtain ⟨_, rfl, _⟩ := h
    rfl
  have hu := hu_of hr
  refine ⟨_, (pss_one (ps_ret (pe_disp (pps_cons pe_str (pv 0) (pps_cons pe_str pe_str (pps_cons pe_str (pe_lst pa_nil) (pps_cons pe_str pe_non (pps_cons pe_str pe_non (pps_cons pe_str pe_bl pps_nil)))))) (by rfl) (by rfl) (fun z => by cases z) (by decide)))), ?_⟩
  obtain ⟨n, rfl, k⟩ := h
  intro p hp
  refine ⟨_, rfl, (by show 0 ≤ sizeLine; decide), fun kq hkq => ?_⟩
  have hne : p ≠ kq := ne_of_none upd_same hkq
  have hk0 : H kq = none := by
    rw [upd_ne hne.symm] at hkq
    exact hkq
  refine ⟨by rw [upd_ne hne]; exact upd_same, nf n ⟨.whole, [], "", .non, .non, false⟩ kq, rfl, (by show 6 ≤ 15; decide), ?_⟩
  refine k _ p kq (same_put (sput (Same.new hp) hkq) hp) hp hk0 ⟨?_, ?_⟩
  · rw [upd_same]
    rfl
  · rw [upd_ne hne.symm, upd_same]
    rfl
end
end OA

set_option maxHeartbeats 4000000
/-! The law's model of a row. -/
namespace OA
open PySem PySem.Spec PyProof.Rows L2 OW
/-- what a row tells -/
def ResAt (p : Addr → Prop) (H : Hp) (t : Addr) (v : Wd) (l : Ln) (n : Nat) : Prop := match fault v l.mark l.q.length with
  | some .closed => H t = some (.tup [.str "closed", .int n])
  | some .amid => H t = some (.tup [.str "amid", .str l.mark.s])
  | some .starved => H t = some (.tup [.str "starved", .int n])
  | none => match v with
    | .drain => ∃ u, p u ∧ H t = some (.tup [.str "told", .ref u]) ∧ H u = some (.lst (l.q.map V.str))
    | .read | .head | .body => H t = some (.tup [.str "told", .str (l.q.headD "")])
    | _ => H t = some (.tup [.str "told", .non])
def toldV (v : Wd) (l : Ln) : V := match v with
  | .read | .head | .body => .str (l.q.headD "")
  | _ => .non
/-- what a row makes of a line, if it may -/
def stepIf (v : Wd) (tags : List Str) (why : V) (l : Ln) : Ln := match fault v l.mark l.q.length with
  | none => l.step v tags why
  | some _ => l
def sp_law_due : Sp := fun vs H Q _ => ∃ (nw kq tg : Addr) (n : Nat) (l : Ln) (v : Wd) (tags : List Str) (why : V), vs = [.ref nw, .str v.s, .ref tg, why] ∧ NowAt H nw n l kq ∧ H tg = some (.lst (tags.map V.str)) ∧ tags ≠ [] ∧ tags.length ≤ 5 ∧ l.q.length ≤ 90000 ∧ (isOut l.mark = true → l.bgn = .str l.snd) ∧ (isIn l.mark = true → l.q ≠ []) ∧
  ∀ H' kq' t, Fr1 H H' nw → (kq' = kq ∨ H kq' = none) → H t = none → NowAt H' nw n (stepIf v tags why l) kq' → ResAt (fun u => H u = none) H' t v l n → Q (.ref t) H'
theorem fal {H H1 : Hp} {a b p : Addr} {o : HO} (f : Fr2 H H1 a b) (h : H1 p = none) : Fr2 H (upd H1 p o) a b := fun x u h1 h2 e => by
  rw [upd_ne (ne_of_none (f x u h1 h2 e) h)]
  exact f x u h1 h2 e
theorem fup {H H1 : Hp} {a b : Addr} {o : HO} (f : Fr2 H H1 a b) : Fr2 H (upd H1 a o) a b := fun x u h1 h2 e => by
  rw [upd_ne h1]
  exact f x u h1 h2 e
theorem fback {H H1 : Hp} {a p : Addr} {o : HO} (f : Fr1 H H1 a) (ha : H1 a = some o) (h : H1 p = none) : H p = none := by
  cases e : H p with
  | none => rfl
  | some u =>
    by_cases hp : p = a
    · rw [hp, ha] at h
      cases h
    · rw [f p u hp hp e] at h
      cases h
theorem cut_one (xs : List V) : cutV xs (some 1) none = xs.tail := by
  cases xs with
  | nil => rfl
  | cons x xs =>
    show ((x :: xs).drop (HT.sIx (xs.length + 1) 0 (some 1))).take (HT.sIx (xs.length + 1) (xs.length + 1) none - HT.sIx (xs.length + 1) 0 (some 1)) = xs
    have e : HT.sIx (xs.length + 1) 0 (some 1) = 1 := by
      simp [HT.sIx]
    have e2 : HT.sIx (xs.length + 1) (xs.length + 1) none = xs.length + 1 := rfl
    rw [e, e2]
    show xs.take (xs.length + 1 - 1) = xs
    rw [Nat.add_sub_cancel, List.take_length]
section
variable {H : Hp} {nw kq : Addr} {n : Nat} {l : Ln}
theorem g_mark (N : NowAt H nw n l kq) : DGet H nw (.str "mark") (some (.str l.mark.s)) := DGet.k (k := .inr "mark") N.obj
theorem g_queue (N : NowAt H nw n l kq) : DGet H nw (.str "queue") (some (.ref kq)) := DGet.k (k := .inr "queue") N.obj
theorem g_number (N : NowAt H nw n l kq) : DGet H nw (.str "number") (some (.int n)) := DGet.k (k := .inr "number") N.obj
theorem g_begun (N : NowAt H nw n l kq) : DGet H nw (.str "begun") (some l.bgn) := DGet.k (k := .inr "begun") N.obj
theorem g_cause (N : NowAt H nw n l kq) : DGet H nw (.str "cause") (some l.cause) := DGet.k (k := .inr "cause") N.obj
theorem g_lent (N : NowAt H nw n l kq) : DGet H nw (.str "lent") (some (.bl l.lent)) := DGet.k (k := .inr "lent") N.obj
theorem p_mark (N : H nw = some (.dK (nf n l kq))) (m : Mk') : DPut H nw (.str "mark") (.str m.s) (upd H nw (.dK (nf n { l with mark := m } kq))) := DPut.k (k := .inr "mark") N (by show 6 < sizeLine; decide)
theorem p_queue (N : H nw = some (.dK (nf n l kq))) (q : Addr) : DPut H nw (.str "queue") (.ref q) (upd H nw (.dK (nf n l q))) := DPut.k (k := .inr "queue") N (by show 6 < sizeLine; decide)
theorem p_begun (N : H nw = some (.dK (nf n l kq))) (b : V) : DPut H nw (.str "begun") b (upd H nw (.dK (nf n { l with bgn := b } kq))) := DPut.k (k := .inr "begun") N (by show 6 < sizeLine; decide)
theorem p_cause (N : H nw = some (.dK (nf n l kq))) (b : V) : DPut H nw (.str "cause") b (upd H nw (.dK (nf n { l with cause := b } kq))) := DPut.k (k := .inr "cause") N (by show 6 < sizeLine; decide)
theorem p_lent (N : H nw = some (.dK (nf n l kq))) (b : Bool) : DPut H nw (.str "lent") (.bl b) (upd H nw (.dK (nf n { l with lent := b } kq))) := DPut.k (k := .inr "lent") N (by show 6 < sizeLine; decide)
end
section
variable {P : Program} {w : World} {K : PySem.W.Frag} {mg : Str → Option Value} {base : Heap}
theorem sc__law_due : FnScope ["_law_now", "_law_word", "_law_tags", "_law_why", "_law_queue", "_law_mark_here", "_law_fault_here"] ["_law_now", "_law_word", "_law_tags", "_law_why"] (defScope (topS 38)) := ⟨rfl, rfl, rfl, by decide +kernel, rfl, by decide +kernel, by decide +kernel⟩
theorem ok__law_due (T : Tx P K mg) : GOk P w K mg base CX0 2 "_law_due" ["_law_now", "_law_word", "_law_tags", "_law_why"] sp_law_due := by
  obtain ⟨f__law_mark, fd__law_mark, G__law_mark, m__law_mark, k__law_mark, b__law_mark⟩ := ok__law_mark (P := P) (w := w) (base := base) T
  obtain ⟨f__law_fault, fd__law_fault, G__law_fault, m__law_fault, k__law_fault, b__law_fault⟩ := ok__law_fault (P := P) (w := w) (base := base) T
  obtain ⟨f, fd, F, gm⟩ := T.fn (38, "_law_due") (by decide +kernel)
  refine ⟨f, fd, ?_, gm, F.kp, F.binds fun _ _ _ _ _ _ us hl => match us, hl with | [_, _, _, _], _ => rfl⟩
  refine F.ok sc__law_due (fun vs H Q E h => ?_) (fun cdv A outer s H vs Q E hr h => ?_)
  · obtain ⟨_, _, _, _, _, _, _, _, rfl, _⟩ := h
    rfl
  have hu := hu_of hr
  refine ⟨_, (pss_cons (ps_par (i := 4) (j := 5) (by rfl) sc__law_due.nd rfl rfl (by decide) rfl rfl (pa_cons (pe_dget hu (pv 0) pe_str (fun _ _ => rfl)) (pa_cons (pe_dget hu (pv 0) pe_str (fun _ _ => rfl)) pa_nil)) (by rfl))
      (pss_cons (ps_if (pt_cmpR op_eq (pv 1) pe_str (nomark _))
      (pss_cons (ps_if (pt_cmpR op_ne (pv 5) pe_str (nomark _))
      (pss_one (ps_asg (pe_tup (pa_cons pe_str (pa_cons (pv 3) (pa_cons (pe_lst pa_nil) pa_nil)))) (pg_tup (by rfl) (pgs_cons (pg_sub (pv 0) pe_str (set_dict hu) (fun _ => rfl)) (pgs_cons (pg_sub (pv 0) pe_str (set_dict hu) (fun _ => rfl)) (pgs_cons (pg_sub (pv 0) pe_str (set_dict hu) (fun _ => rfl)) pgs_nil))))))
      pss_nil)
      (pss_one (ps_ret (pe_tup (pa_cons pe_str (pa_cons pe_non pa_nil))))))
      pss_nil)
      (pss_cons (ps_if (pt_cmpR op_eq (pv 1) pe_str (nomark _))
      (pss_cons (ps_asg (pe_tup (pa_cons (pe_call G__law_mark (hr.mono (by decide)) rfl m__law_mark k__law_mark b__law_mark .nil pass0 (pa_cons (pv 1) (pa_cons (pv 5) pa_nil))) (pa_cons (pe_lst pa_nil) pa_nil))) (pg_tup (by rfl) (pgs_cons (pg_sub (pv 0) pe_str (set_dict hu) (fun _ => rfl)) (pgs_cons (pg_sub (pv 0) pe_str (set_dict hu) (fun _ => rfl)) pgs_nil))))
      (pss_one (ps_ret (pe_tup (pa_cons pe_str (pa_cons (pe_callTy call_list_of (by rfl) T.list (by decide +kernel) (pa_cons (pv 4) pa_nil)) pa_nil))))))
      pss_nil)
      (pss_cons (ps_set (i := 6) sc__law_due.nd rfl (Or.inl rfl) (pe_call G__law_fault (hr.mono (by decide)) rfl m__law_fault k__law_fault b__law_fault .nil pass0 (pa_cons (pv 1) (pa_cons (pv 5) (pa_cons (pe_callB call_len_seq (by rfl) T.len PySem.boot_len (pa_cons (pv 4) pa_nil)) pa_nil)))))
      (pss_cons (ps_if (pt_cmpR op_notN (pv 6) pe_non (nomark _))
      (pss_one (ps_ret (pe_tup (pa_cons (pv 6) (pa_cons (pe_ifExp (pt_cmpR op_eq (pv 6) pe_str (nomark _)) (pv 5) (pe_dget hu (pv 0) pe_str (fun _ _ => rfl))) pa_nil)))))
      pss_nil)
      (pss_cons (ps_asg (pe_call G__law_mark (hr.mono (by decide)) rfl m__law_mark k__law_mark b__law_mark .nil pass0 (pa_cons (pv 1) (pa_cons (pv 5) pa_nil))) (pg_sub (pv 0) pe_str (set_dict hu) (fun _ => rfl)))
      (pss_cons (ps_if (pt_cmpR op_eq (pv 1) pe_str (nomark _))
      (pss_one (ps_asg (pe_op op_cat (pv 4) (pv 2)) (pg_sub (pv 0) pe_str (set_dict hu) (fun _ => rfl))))
      pss_nil)
      (pss_cons (ps_if (pt_cmpR op_eq (pv 1) pe_str (nomark _))
      (pss_one (ps_asg (pe_ix ix_list (pv 2) pe_int (fun _ _ => rfl)) (pg_sub (pv 0) pe_str (set_dict hu) (fun _ => rfl))))
      pss_nil)
      (pss_cons (ps_if (pt_cmpR op_eq (pv 1) pe_str (nomark _))
      (pss_one (ps_asg (pe_op op_cat (pv 4) (pe_lst (pa_cons (pe_dget hu (pv 0) pe_str (fun _ _ => rfl)) pa_nil))) (pg_sub (pv 0) pe_str (set_dict hu) (fun _ => rfl))))
      pss_nil)
      (pss_cons (ps_if (pt_cmpR op_in_seq (pv 1) (pe_tup (pa_cons pe_str (pa_cons pe_str pa_nil))) (by rfl))
      (pss_one (ps_asg (pe_slice sl_list (pv 4) (po_some pe_int) po_none) (pg_sub (pv 0) pe_str (set_dict hu) (fun _ => rfl))))
      pss_nil)
      (pss_one (ps_ret (pe_tup (pa_cons pe_str (pa_cons (pe_ifExp (pt_cmpR op_in_seq (pv 1) (pe_tup (pa_cons pe_str (pa_cons pe_str (pa_cons pe_str pa_nil)))) (by rfl)) (pe_ix ix_list (pv 4) pe_int (fun _ _ => rfl)) pe_non) pa_nil))))))))))))))), ?_⟩
  obtain ⟨nw, kq, tg, n, l, v, tags, why, rfl, N, ht, hne, htl, hql, hob, hib, k⟩ := h
  refine ⟨_, rfl, nw, _, rfl, g_queue N, _, rfl, nw, _, rfl, g_mark N, _, _, rfl, _, rfl, rfl, _, rfl, ?_⟩
  by_cases hv : v = .close
  · subst hv
    have ef : fault .close l.mark l.q.length = none := rfl
    refine iteT' (by decide +kernel) ⟨_, rfl, rfl, _, rfl, ?_⟩
    by_cases hm : l.mark = .closed
    · have es : stepIf .close tags why l = l := by
        show l.step .close tags why = l
        exact if_pos hm
      rw [es] at k
      refine iteF' (by rw [hm]; decide +kernel) ⟨(by show 2 ≤ sizeLine; decide), fun t ht => ?_⟩
      exact k _ kq t (fal (fun _ _ _ _ h => h) ht) (Or.inl rfl) ht (N.same (Same.new ht)) upd_same
    · have es : stepIf .close tags why l = { l with mark := .closed, q := [], cause := why } := by
        show l.step .close tags why = _
        exact if_neg hm
      rw [es] at k
      refine iteT' (by cases e : l.mark <;> first | decide +kernel | exact absurd e hm) ?_
      refine ⟨_, rfl, Nat.zero_le _, fun q' hq' => ⟨(by show 3 ≤ sizeLine; decide), fun tp htp => ⟨tp, _, rfl, SqT.of upd_same, rfl, _, _, rfl, ?_⟩⟩⟩
      have N2 := N.same (sput (o := .tup [.str "closed", why, .ref q']) (Same.new (o := .lst []) hq') htp)
      refine ⟨_, rfl, nw, _, rfl, p_mark N2.obj .closed, _, _, rfl, _, rfl, nw, _, rfl, p_cause upd_same why, _, _, rfl, _, rfl, nw, _, rfl, p_queue upd_same q', rfl, ?_⟩
      refine ⟨(by show 2 ≤ sizeLine; decide), fun t ht => ?_⟩
      have nq : nw ≠ q' := ne_of_none N.obj hq'
      have qt : q' ≠ tp := ne_of_none upd_same htp
      have nt : nw ≠ t := ne_of_none upd_same ht
      have q5 : upd (upd (upd (upd (upd H q' (.lst [])) tp (.tup [.str "closed", why, .ref q'])) nw (.dK (nf n { l with mark := .closed } kq))) nw (.dK (nf n { l with mark := .closed, cause := why } kq))) nw (.dK (nf n { l with mark := .closed, cause := why } q')) q' = some (.lst []) := by
        rw [upd_ne nq.symm, upd_ne nq.symm, upd_ne nq.symm, upd_ne qt, upd_same]
      have fr := fup (o := .dK (nf n { l with mark := .closed, cause := why } q')) (fup (o := .dK (nf n { l with mark := .closed, cause := why } kq)) (fup (o := .dK (nf n { l with mark := .closed } kq)) (fal (o := .tup [.str "closed", why, .ref q']) (fal (o := .lst []) (fr_refl (H := H) (a := nw) (b := nw)) hq') htp)))
      refine k _ q' t (fal fr ht) (Or.inr hq') (fback fr upd_same ht) ⟨?_, ?_⟩ upd_same
      · rw [upd_ne nt, upd_same]
        rfl
      · rw [upd_ne (ne_of_none q5 ht)]
        exact q5
  refine iteF' (by cases v <;> first | decide +kernel | exact absurd rfl hv) ⟨_, rfl, rfl, _, rfl, ?_⟩
  by_cases hd : v = .drain
  · subst hd
    have es : stepIf .drain tags why l = { l with mark := after .drain l.mark, q := [] } := rfl
    rw [es] at k
    refine iteT' (by decide +kernel) ⟨_, rfl, _, rfl, .drain, l.mark, rfl, fun H1 s1 => ⟨Nat.zero_le _, fun q' hq' => ⟨(by show 2 ≤ sizeLine; decide), fun tp htp => ⟨tp, _, rfl, SqT.of upd_same, rfl, _, _, rfl, ?_⟩⟩⟩⟩
    have N1 := N.same s1
    have N2 := N1.same (sput (o := .tup [.str (after .drain l.mark).s, .ref q']) (Same.new (o := .lst []) hq') htp)
    refine ⟨_, rfl, nw, _, rfl, p_mark N2.obj (after .drain l.mark), _, _, rfl, _, rfl, nw, _, rfl, p_queue upd_same q', rfl, ?_⟩
    have nq : nw ≠ q' := ne_of_none N1.obj hq'
    have qt : q' ≠ tp := ne_of_none upd_same htp
    have kn : kq ≠ nw := N1.ne.symm
    have fr1 : Fr1 H H1 nw := fun x u _ _ e => s1 _ _ e
    have fr := fup (o := .dK (nf n { l with mark := after .drain l.mark } q')) (fup (o := .dK (nf n { l with mark := after .drain l.mark } kq)) (fal (o := .tup [.str (after .drain l.mark).s, .ref q']) (fal (o := .lst []) fr1 hq') htp))
    have hk : upd (upd (upd (upd H1 q' (.lst [])) tp (.tup [.str (after .drain l.mark).s, .ref q'])) nw (.dK (nf n { l with mark := after .drain l.mark } kq))) nw (.dK (nf n { l with mark := after .drain l.mark } q')) kq = some (.lst (l.q.map V.str)) := fr _ _ kn kn N.que
    have q5 : upd (upd (upd (upd H1 q' (.lst [])) tp (.tup [.str (after .drain l.mark).s, .ref q'])) nw (.dK (nf n { l with mark := after .drain l.mark } kq))) nw (.dK (nf n { l with mark := after .drain l.mark } q')) q' = some (.lst []) := by
      rw [upd_ne nq.symm, upd_ne nq.symm, upd_ne qt, upd_same]
    refine ⟨_, rfl, kq, _, rfl, .inl (SqL.of hk), fun u hu => ⟨(by show 2 ≤ sizeLine; decide), fun t ht => ?_⟩⟩
    have fru := fal (o := .lst (l.q.map V.str)) fr hu
    have nu : nw ≠ u := ne_of_none upd_same hu
    have nwu : upd (upd (upd (upd (upd H1 q' (.lst [])) tp (.tup [.str (after .drain l.mark).s, .ref q'])) nw (.dK (nf n { l with mark := after .drain l.mark } kq))) nw (.dK (nf n { l with mark := after .drain l.mark } q'))) u (.lst (l.q.map V.str)) nw = some (.dK (nf n { l with mark := after .drain l.mark } q')) := by
      rw [upd_ne nu, upd_same]
    have qu : upd (upd (upd (upd (upd H1 q' (.lst [])) tp (.tup [.str (after .drain l.mark).s, .ref q'])) nw (.dK (nf n { l with mark := after .drain l.mark } kq))) nw (.dK (nf n { l with mark := after .drain l.mark } q'))) u (.lst (l.q.map V.str)) q' = some (.lst []) := by
      rw [upd_ne (ne_of_none q5 hu)]
      exact q5
    refine k _ q' t (fal fru ht) (Or.inr (s1.free hq')) (fback fru nwu ht) ⟨?_, ?_⟩ ⟨u, fback fr upd_same hu, upd_same, ?_⟩
    · rw [upd_ne (ne_of_none nwu ht)]
      exact nwu
    · rw [upd_ne (ne_of_none qu ht)]
      exact qu
    · rw [upd_ne (ne_of_none upd_same ht), upd_same]
  refine iteF' (by cases v <;> first | decide +kernel | exact absurd rfl hd) ?_
  refine ⟨_, rfl, _, rfl, _, rfl, kq, _, rfl, .inl (SqL.of N.que), v, l.mark, l.q.length, (by rw [List.length_map]; rfl), fun H1 s1 => ?_⟩
  have N1 := N.same s1
  refine ⟨_, rfl, rfl, _, rfl, ?_⟩
  cases hf : fault v l.mark l.q.length with
  | some f =>
    have es : stepIf v tags why l = l := by
      unfold stepIf
      rw [hf]
    have er : ∀ H' t, H' t = some (.tup [.str f.s, match f with | .amid => .str l.mark.s | _ => .int n]) → ResAt (fun u => H u = none) H' t v l n := fun H' t e => by
      unfold ResAt
      rw [hf]
      cases f <;> exact e
    rw [es] at k
    refine iteT' rfl ⟨_, rfl, _, rfl, rfl, _, rfl, ?_⟩
    cases f with
    | amid => exact iteT' (by decide +kernel) ⟨_, rfl, (by show 2 ≤ sizeLine; decide), fun t ht => k _ kq t (fun x u _ _ e => sput s1 ht _ _ e) (Or.inl rfl) (s1.free ht) (N.same (sput s1 ht)) (er _ t upd_same)⟩
    | closed => exact iteF' (by decide +kernel) ⟨_, rfl, nw, _, rfl, g_number N1, (by show 2 ≤ sizeLine; decide), fun t ht => k _ kq t (fun x u _ _ e => sput s1 ht _ _ e) (Or.inl rfl) (s1.free ht) (N.same (sput s1 ht)) (er _ t upd_same)⟩
    | starved => exact iteF' (by decide +kernel) ⟨_, rfl, nw, _, rfl, g_number N1, (by show 2 ≤ sizeLine; decide), fun t ht => k _ kq t (fun x u _ _ e => sput s1 ht _ _ e) (Or.inl rfl) (s1.free ht) (N.same (sput s1 ht)) (er _ t upd_same)⟩
  | none =>
    have es : stepIf v tags why l = l.step v tags why := by
      unfold stepIf
      rw [hf]
    rw [es] at k
    refine iteF' rfl ⟨_, rfl, _, rfl, v, l.mark, rfl, fun H2 s2 => ⟨_, rfl, nw, _, rfl, p_mark (N1.same s2).obj (after v l.mark), ?_⟩⟩
    have s12 := s1.trans s2
    have N2 := N.same s12
    have hm : l.mark ≠ .closed := fun e => by
      have hl : lineWd v = true := by cases v <;> first | rfl | exact absurd rfl hv | exact absurd rfl hd
      unfold fault at hf
      rw [hl, if_neg (by decide), if_pos e] at hf
      cases hf
    have fr3 : Fr1 H (upd H2 nw (.dK (nf n { l with mark := after v l.mark } kq))) nw := fup (fun x u _ _ e => s12 _ _ e)
    have k3 : upd H2 nw (.dK (nf n { l with mark := after v l.mark } kq)) kq = some (.lst (l.q.map V.str)) := by
      rw [upd_ne N.ne.symm]
      exact N2.que
    have t3 : upd H2 nw (.dK (nf n { l with mark := after v l.mark } kq)) tg = some (.lst (tags.map V.str)) := by
      rw [upd_ne (ne_of ht N.obj (fun z => nomatch z))]
      exact s12 _ _ ht
    have n3 : upd H2 nw (.dK (nf n { l with mark := after v l.mark } kq)) nw = some (.dK (nf n { l with mark := after v l.mark } kq)) := upd_same
    have er : ∀ H' t, H' t = some (.tup [.str "told", toldV v l]) → ResAt (fun u => H u = none) H' t v l n := fun H' t e => by
      unfold ResAt
      rw [hf]
      cases v <;> first | exact e | exact absurd rfl hv | exact absurd rfl hd
    generalize upd H2 nw (.dK (nf n { l with mark := after v l.mark } kq)) = H3 at fr3 k3 t3 n3 ⊢
    have fin : ∀ H4 q', Fr1 H H4 nw → H4 nw = some (.dK (nf n (l.step v tags why) q')) → H4 q' = some (.lst ((l.step v tags why).q.map V.str)) → (q' = kq ∨ H q' = none) → ∀ t2 o t, H4 t2 = none → upd H4 t2 o t = none → Q (.ref t) (upd (upd H4 t2 o) t (.tup [.str "told", toldV v l])) := fun H4 q' fr h1 h2 h3 t2 o t e2 e => by
      have fr2 := fal (o := o) fr e2
      have n2 : upd H4 t2 o nw = some (.dK (nf n (l.step v tags why) q')) := by
        rw [upd_ne (ne_of_none h1 e2)]
        exact h1
      have q2 : upd H4 t2 o q' = some (.lst ((l.step v tags why).q.map V.str)) := by
        rw [upd_ne (ne_of_none h2 e2)]
        exact h2
      exact k _ q' t (fal fr2 e) h3 (fback fr2 n2 e) ⟨by rw [upd_ne (ne_of_none n2 e)]; exact n2, by rw [upd_ne (ne_of_none q2 e)]; exact q2⟩ (er _ t upd_same)
    have hd0 : l.q ≠ [] → (l.q.map V.str)[0]? = some (.str (l.q.headD "")) := fun h => by
      cases e : l.q with
      | nil => exact absurd e h
      | cons x xs => rfl
    have ea : ∀ u : Wd, u ≠ .close → (u ≠ .begin) → (u ≠ .finish) → (u ≠ .head) → (u ≠ .body) → u ≠ .drain → after u l.mark = l.mark := fun u h1 h2 h3 h4 h5 h6 => by
      unfold after
      rw [if_neg (fun z => z.elim hm h1)]
      cases u <;> first | rfl | exact absurd rfl h2 | exact absurd rfl h3 | exact absurd rfl h4 | exact absurd rfl h5 | exact absurd rfl h6 | exact absurd rfl h1
    cases v with
    | close => exact absurd rfl hv
    | drain => exact absurd rfl hd
    | ask =>
      rw [ea .ask (by decide) (by decide) (by decide) (by decide) (by decide) (by decide)] at n3
      refine ⟨_, rfl, rfl, _, rfl, iteT' (by decide +kernel) ⟨_, rfl, _, rfl, kq, tg, _, _, rfl, rfl, k3, t3, (by rw [List.length_map, List.length_map, sizeLine_eq]; omega), fun q' hq' => ?_⟩⟩
      have n4 : upd H3 q' (.lst (l.q.map V.str ++ tags.map V.str)) nw = some (.dK (nf n l kq)) := by
        rw [upd_ne (ne_of_none n3 hq')]
        exact n3
      refine ⟨_, rfl, nw, _, rfl, p_queue n4 q', ?_⟩
      have nq : q' ≠ nw := fun z => by
        rw [z, n3] at hq'
        cases hq'
      have fr5 := fup (o := .dK (nf n l q')) (fal (o := .lst (l.q.map V.str ++ tags.map V.str)) fr3 hq')
      refine ⟨_, rfl, rfl, _, rfl, iteF' (by decide +kernel) ⟨_, rfl, rfl, _, rfl, iteF' (by decide +kernel) ?_⟩⟩
      refine ⟨_, rfl, (by show 2 ≤ sizeLine; decide), fun t1 e1 => ⟨t1, _, rfl, .inr (SqT.of upd_same), rfl, by decide +kernel, _, rfl, iteF' (by decide +kernel) ?_⟩⟩
      refine ⟨_, rfl, (by show 3 ≤ sizeLine; decide), fun t2 e2 => ⟨t2, _, rfl, .inr (SqT.of upd_same), rfl, by decide +kernel, _, rfl, iteF' (by decide +kernel) ⟨(by show 2 ≤ sizeLine; decide), fun t e => ?_⟩⟩⟩
      refine fin _ q' (fal fr5 e1) (by rw [upd_ne (ne_of_none upd_same e1)]; exact upd_same) ?_ (Or.inr (fback fr3 n3 hq')) _ _ _ e2 e
      have q5 : upd (upd H3 q' (.lst (l.q.map V.str ++ tags.map V.str))) nw (.dK (nf n l q')) q' = some (.lst ((l.q ++ tags).map V.str)) := by
        rw [upd_ne nq, upd_same, List.map_append]
      rw [upd_ne (ne_of_none q5 e1)]
      exact q5
    | begin =>
      refine ⟨_, rfl, rfl, _, rfl, iteF' (by decide +kernel) ⟨_, rfl, rfl, _, rfl, iteT' (by decide +kernel) ?_⟩⟩
      obtain ⟨x, xs, rfl⟩ : ∃ x xs, tags = x :: xs := by
        cases tags with
        | nil => exact absurd rfl hne
        | cons x xs => exact ⟨x, xs, rfl⟩
      refine ⟨_, rfl, tg, _, _, _, rfl, rfl, SqL.of t3, atI_nat (j := 0) rfl, _, rfl, nw, _, rfl, p_begun n3 (.str x), ?_⟩
      have fr5 := fup (o := .dK (nf n { l with mark := after .begin l.mark, bgn := .str x } kq)) fr3
      refine ⟨_, rfl, rfl, _, rfl, iteF' (by decide +kernel) ?_⟩
      refine ⟨_, rfl, (by show 2 ≤ sizeLine; decide), fun t1 e1 => ⟨t1, _, rfl, .inr (SqT.of upd_same), rfl, by decide +kernel, _, rfl, iteF' (by decide +kernel) ?_⟩⟩
      refine ⟨_, rfl, (by show 3 ≤ sizeLine; decide), fun t2 e2 => ⟨t2, _, rfl, .inr (SqT.of upd_same), rfl, by decide +kernel, _, rfl, iteF' (by decide +kernel) ⟨(by show 2 ≤ sizeLine; decide), fun t e => ?_⟩⟩⟩
      have k5 : upd H3 nw (.dK (nf n { l with mark := after .begin l.mark, bgn := .str x } kq)) kq = some (.lst (l.q.map V.str)) := by
        rw [upd_ne N.ne.symm]
        exact k3
      refine fin _ kq (fal fr5 e1) (by rw [upd_ne (ne_of_none upd_same e1)]; exact upd_same) ?_ (Or.inl rfl) _ _ _ e2 e
      rw [upd_ne (ne_of_none k5 e1)]
      exact k5
    | finish =>
      have ho : isOut l.mark = true := by
        unfold fault at hf
        rw [if_neg (by decide), if_neg hm] at hf
        cases e : isOut l.mark with
        | true => rfl
        | false =>
          have e2 : amid .finish l.mark = true := by
            show (!isOut l.mark) = true
            rw [e]
            rfl
          rw [if_pos e2] at hf
          cases hf
      have hb := hob ho
      refine ⟨_, rfl, rfl, _, rfl, iteF' (by decide +kernel) ⟨_, rfl, rfl, _, rfl, iteF' (by decide +kernel) ⟨_, rfl, rfl, _, rfl, iteT' (by decide +kernel) ?_⟩⟩⟩
      refine ⟨_, rfl, _, rfl, nw, _, rfl, DGet.k (k := .inr "begun") n3, (by show 1 ≤ sizeLine; decide), fun b1 h1 => ?_⟩
      have k4 : upd H3 b1 (.lst [l.bgn]) kq = some (.lst (l.q.map V.str)) := by
        rw [upd_ne (ne_of_none k3 h1)]
        exact k3
      refine ⟨kq, b1, _, _, rfl, rfl, k4, upd_same, (by rw [List.length_map, sizeLine_eq]; show l.q.length + 1 ≤ _; omega), fun q' hq' => ?_⟩
      have n4 : upd (upd H3 b1 (.lst [l.bgn])) q' (.lst (l.q.map V.str ++ [l.bgn])) nw = some (.dK (nf n { l with mark := after .finish l.mark } kq)) := by
        have z : upd H3 b1 (.lst [l.bgn]) nw = some (.dK (nf n { l with mark := after .finish l.mark } kq)) := by
          rw [upd_ne (ne_of_none n3 h1)]
          exact n3
        rw [upd_ne (ne_of_none z hq')]
        exact z
      refine ⟨_, rfl, nw, _, rfl, p_queue n4 q', ?_⟩
      have fr4 := fal (o := .lst [l.bgn]) fr3 h1
      have nq : q' ≠ nw := fun z => by
        rw [z, upd_ne (ne_of_none n3 h1), n3] at hq'
        cases hq'
      have fr5 := fup (o := .dK (nf n { l with mark := after .finish l.mark } q')) (fal (o := .lst (l.q.map V.str ++ [l.bgn])) fr4 hq')
      refine ⟨_, rfl, (by show 2 ≤ sizeLine; decide), fun t1 e1 => ⟨t1, _, rfl, .inr (SqT.of upd_same), rfl, by decide +kernel, _, rfl, iteF' (by decide +kernel) ?_⟩⟩
      refine ⟨_, rfl, (by show 3 ≤ sizeLine; decide), fun t2 e2 => ⟨t2, _, rfl, .inr (SqT.of upd_same), rfl, by decide +kernel, _, rfl, iteF' (by decide +kernel) ⟨(by show 2 ≤ sizeLine; decide), fun t e => ?_⟩⟩⟩
      have hq0 : H q' = none := fback fr4 (by rw [upd_ne (ne_of_none n3 h1)]; exact n3) hq'
      refine fin _ q' (fal fr5 e1) (by rw [upd_ne (ne_of_none upd_same e1)]; exact upd_same) ?_ (Or.inr hq0) _ _ _ e2 e
      have q5 : upd (upd (upd H3 b1 (.lst [l.bgn])) q' (.lst (l.q.map V.str ++ [l.bgn]))) nw (.dK (nf n { l with mark := after .finish l.mark } q')) q' = some (.lst ((l.q ++ [l.snd]).map V.str)) := by
        rw [upd_ne nq, upd_same, List.map_append, hb]
        rfl
      rw [upd_ne (ne_of_none q5 e1)]
      exact q5
    | read =>
      rw [ea .read (by decide) (by decide) (by decide) (by decide) (by decide) (by decide)] at n3
      have hne' : l.q ≠ [] := fun z => by
        unfold fault at hf
        rw [if_neg (by decide), if_neg hm] at hf
        by_cases ha : amid .read l.mark = true
        · rw [if_pos ha] at hf
          cases hf
        · rw [if_neg ha, if_pos ⟨Or.inl rfl, by rw [z]; rfl⟩] at hf
          cases hf
      refine ⟨_, rfl, rfl, _, rfl, iteF' (by decide +kernel) ⟨_, rfl, rfl, _, rfl, iteF' (by decide +kernel) ⟨_, rfl, rfl, _, rfl, iteF' (by decide +kernel) ?_⟩⟩⟩
      refine ⟨_, rfl, (by show 2 ≤ sizeLine; decide), fun t1 e1 => ⟨t1, _, rfl, .inr (SqT.of upd_same), rfl, by decide +kernel, _, rfl, iteT' (by decide +kernel) ?_⟩⟩
      have fr4 := fal (o := .tup [.str "read", .str "body"]) fr3 e1
      have k4 : upd H3 t1 (.tup [.str "read", .str "body"]) kq = some (.lst (l.q.map V.str)) := by
        rw [upd_ne (ne_of_none k3 e1)]
        exact k3
      have n4 : upd H3 t1 (.tup [.str "read", .str "body"]) nw = some (.dK (nf n l kq)) := by
        rw [upd_ne (ne_of_none n3 e1)]
        exact n3
      generalize upd H3 t1 (.tup [.str "read", .str "body"]) = H4 at fr4 k4 n4 ⊢
      refine ⟨_, rfl, 1, rfl, kq, _, rfl, SqL.of k4, fun q' hq' => ?_⟩
      rw [cut_one]
      have fr5 := fal (o := .lst (l.q.map V.str).tail) fr4 hq'
      have k5 : upd H4 q' (.lst (l.q.map V.str).tail) kq = some (.lst (l.q.map V.str)) := by
        rw [upd_ne (ne_of_none k4 hq')]
        exact k4
      have n5 : upd H4 q' (.lst (l.q.map V.str).tail) nw = some (.dK (nf n l kq)) := by
        rw [upd_ne (ne_of_none n4 hq')]
        exact n4
      have q5 : upd H4 q' (.lst (l.q.map V.str).tail) q' = some (.lst (l.q.map V.str).tail) := upd_same
      have q0 := fback fr4 n4 hq'
      generalize upd H4 q' (.lst (l.q.map V.str).tail) = H5 at fr5 k5 n5 q5 ⊢
      refine ⟨_, rfl, nw, _, rfl, p_queue n5 q', ?_⟩
      have fr6 := fup (o := .dK (nf n l q')) fr5
      have k6 : upd H5 nw (.dK (nf n l q')) kq = some (.lst (l.q.map V.str)) := by
        rw [upd_ne N.ne.symm]
        exact k5
      have q6 : upd H5 nw (.dK (nf n l q')) q' = some (.lst (l.q.map V.str).tail) := by
        rw [upd_ne (ne_of q5 n5 (fun z => nomatch z))]
        exact q5
      have n6 : upd H5 nw (.dK (nf n l q')) nw = some (.dK (nf n l q')) := upd_same
      generalize upd H5 nw (.dK (nf n l q')) = H6 at fr6 k6 n6 q6 ⊢
      refine ⟨_, rfl, (by show 3 ≤ sizeLine; decide), fun t2 e2 => ⟨t2, _, rfl, .inr (SqT.of upd_same), rfl, by decide +kernel, _, rfl, iteT' (by decide +kernel) ⟨_, rfl, kq, _, _, _, rfl, rfl, SqL.of (by rw [upd_ne (ne_of_none k6 e2)]; exact k6), atI_nat (j := 0) (hd0 hne'), (by show 2 ≤ sizeLine; decide), fun t e => ?_⟩⟩⟩
      exact fin _ q' fr6 n6 (q6.trans (by show _ = some (HO.lst (l.q.tail.map V.str)); rw [List.map_tail])) (Or.inr q0) _ _ _ e2 e
    | head =>
      have hne' : l.q ≠ [] := fun z => by
        unfold fault at hf
        rw [if_neg (by decide), if_neg hm] at hf
        by_cases ha : amid .head l.mark = true
        · rw [if_pos ha] at hf
          cases hf
        · rw [if_neg ha, if_pos ⟨Or.inr rfl, by rw [z]; rfl⟩] at hf
          cases hf
      refine ⟨_, rfl, rfl, _, rfl, iteF' (by decide +kernel) ⟨_, rfl, rfl, _, rfl, iteF' (by decide +kernel) ⟨_, rfl, rfl, _, rfl, iteF' (by decide +kernel) ?_⟩⟩⟩
      refine ⟨_, rfl, (by show 2 ≤ sizeLine; decide), fun t1 e1 => ⟨t1, _, rfl, .inr (SqT.of upd_same), rfl, by decide +kernel, _, rfl, iteF' (by decide +kernel) ?_⟩⟩
      have fr4 := fal (o := .tup [.str "read", .str "body"]) fr3 e1
      have k4 : upd H3 t1 (.tup [.str "read", .str "body"]) kq = some (.lst (l.q.map V.str)) := by
        rw [upd_ne (ne_of_none k3 e1)]
        exact k3
      have n4 : upd H3 t1 (.tup [.str "read", .str "body"]) nw = some (.dK (nf n { l with mark := after .head l.mark } kq)) := by
        rw [upd_ne (ne_of_none n3 e1)]
        exact n3
      generalize upd H3 t1 (.tup [.str "read", .str "body"]) = H4 at fr4 k4 n4 ⊢
      refine ⟨_, rfl, (by show 3 ≤ sizeLine; decide), fun t2 e2 => ⟨t2, _, rfl, .inr (SqT.of upd_same), rfl, by decide +kernel, _, rfl, iteT' (by decide +kernel) ⟨_, rfl, kq, _, _, _, rfl, rfl, SqL.of (by rw [upd_ne (ne_of_none k4 e2)]; exact k4), atI_nat (j := 0) (hd0 hne'), (by show 2 ≤ sizeLine; decide), fun t e => ?_⟩⟩⟩
      exact fin _ kq fr4 n4 k4 (Or.inl rfl) _ _ _ e2 e
    | body =>
      have hne' : l.q ≠ [] := by
        unfold fault at hf
        rw [if_neg (by decide), if_neg hm] at hf
        cases e : isIn l.mark with
        | true => exact hib e
        | false =>
          have e2 : amid .body l.mark = true := by
            show (!isIn l.mark) = true
            rw [e]
            rfl
          rw [if_pos e2] at hf
          cases hf
      refine ⟨_, rfl, rfl, _, rfl, iteF' (by decide +kernel) ⟨_, rfl, rfl, _, rfl, iteF' (by decide +kernel) ⟨_, rfl, rfl, _, rfl, iteF' (by decide +kernel) ?_⟩⟩⟩
      refine ⟨_, rfl, (by show 2 ≤ sizeLine; decide), fun t1 e1 => ⟨t1, _, rfl, .inr (SqT.of upd_same), rfl, by decide +kernel, _, rfl, iteT' (by decide +kernel) ?_⟩⟩
      have fr4 := fal (o := .tup [.str "read", .str "body"]) fr3 e1
      have k4 : upd H3 t1 (.tup [.str "read", .str "body"]) kq = some (.lst (l.q.map V.str)) := by
        rw [upd_ne (ne_of_none k3 e1)]
        exact k3
      have n4 : upd H3 t1 (.tup [.str "read", .str "body"]) nw = some (.dK (nf n { l with mark := after .body l.mark } kq)) := by
        rw [upd_ne (ne_of_none n3 e1)]
        exact n3
      generalize upd H3 t1 (.tup [.str "read", .str "body"]) = H4 at fr4 k4 n4 ⊢
      refine ⟨_, rfl, 1, rfl, kq, _, rfl, SqL.of k4, fun q' hq' => ?_⟩
      rw [cut_one]
      have fr5 := fal (o := .lst (l.q.map V.str).tail) fr4 hq'
      have k5 : upd H4 q' (.lst (l.q.map V.str).tail) kq = some (.lst (l.q.map V.str)) := by
        rw [upd_ne (ne_of_none k4 hq')]
        exact k4
      have n5 : upd H4 q' (.lst (l.q.map V.str).tail) nw = some (.dK (nf n { l with mark := after .body l.mark } kq)) := by
        rw [upd_ne (ne_of_none n4 hq')]
        exact n4
      have q5 : upd H4 q' (.lst (l.q.map V.str).tail) q' = some (.lst (l.q.map V.str).tail) := upd_same
      have q0 := fback fr4 n4 hq'
      generalize upd H4 q' (.lst (l.q.map V.str).tail) = H5 at fr5 k5 n5 q5 ⊢
      refine ⟨_, rfl, nw, _, rfl, p_queue n5 q', ?_⟩
      have fr6 := fup (o := .dK (nf n { l with mark := after .body l.mark } q')) fr5
      have k6 : upd H5 nw (.dK (nf n { l with mark := after .body l.mark } q')) kq = some (.lst (l.q.map V.str)) := by
        rw [upd_ne N.ne.symm]
        exact k5
      have q6 : upd H5 nw (.dK (nf n { l with mark := after .body l.mark } q')) q' = some (.lst (l.q.map V.str).tail) := by
        rw [upd_ne (ne_of q5 n5 (fun z => nomatch z))]
        exact q5
      have n6 : upd H5 nw (.dK (nf n { l with mark := after .body l.mark } q')) nw = some (.dK (nf n { l with mark := after .body l.mark } q')) := upd_same
      generalize upd H5 nw (.dK (nf n { l with mark := after .body l.mark } q')) = H6 at fr6 k6 n6 q6 ⊢
      refine ⟨_, rfl, (by show 3 ≤ sizeLine; decide), fun t2 e2 => ⟨t2, _, rfl, .inr (SqT.of upd_same), rfl, by decide +kernel, _, rfl, iteT' (by decide +kernel) ⟨_, rfl, kq, _, _, _, rfl, rfl, SqL.of (by rw [upd_ne (ne_of_none k6 e2)]; exact k6), atI_nat (j := 0) (hd0 hne'), (by show 2 ≤ sizeLine; decide), fun t e => ?_⟩⟩⟩
      exact fin _ q' fr6 n6 (q6.trans (by show _ = some (HO.lst (l.q.tail.map V.str)); rw [List.map_tail])) (Or.inr q0) _ _ _ e2 e
end
end OA

set_option maxHeartbeats 4000000
/-! The law's rows on the program's line. -/
namespace OA
open PySem PySem.Spec PyProof.Rows L2 OW
def sp_law_ask (K : PySem.W.Frag) : Sp := fun vs H Q E => ∃ (a dx qa tg : Addr) (n : Nat) (l : Ln) (tags : List Str), vs = [.ref a, .ref tg] ∧ LineAt K H a dx n l qa ∧ H tg = some (.lst (tags.map V.str)) ∧ tags.length ≤ 3 ∧ l.q.length ≤ 90000 ∧
  (fault .ask l.mark l.q.length = none → ∀ H', Fr2 H H' a qa → LineAt K H' a dx n (l.step .ask tags .non) qa → Q .non H') ∧ Rz K H l n (fault .ask l.mark l.q.length) E
/-- what a row gives -/
def DoRes (H : Hp) (v : Wd) (l : Ln) (x : V) : Prop := match v with
  | .drain => ∃ u, x = .ref u ∧ H u = some (.lst (l.q.map V.str))
  | .read | .head | .body => x = .str (l.q.headD "")
  | _ => x = .non
def sp_law_do (K : PySem.W.Frag) : Sp := fun vs H Q E => ∃ (a dx qa tg : Addr) (n : Nat) (l : Ln) (v : Wd) (tags : List Str) (why : Str), vs = [.ref a, .str v.s, .ref tg, .str why] ∧ LineAt K H a dx n l qa ∧ H tg = some (.lst (tags.map V.str)) ∧ tags ≠ [] ∧ tags.length ≤ 3 ∧ l.q.length ≤ 90000 ∧ (isIn l.mark = true → l.q ≠ []) ∧
  (fault v l.mark l.q.length = none → ∀ H' q' x, Fr2 H H' a qa → (q' = qa ∨ H q' = none) → LineAt K H' a dx n (l.step v tags (.str why)) q' → DoRes H' v l x → Q x H') ∧ Rz K H l n (fault v l.mark l.q.length) E
theorem ne_read {v : Wd} {l : Ln} (hv : v = .read ∨ v = .head) (hf : fault v l.mark l.q.length = none) : l.q ≠ [] := fun z => by
  unfold fault at hf
  have h1 : lineWd v = true := by rcases hv with rfl | rfl <;> rfl
  rw [h1, if_neg (by decide)] at hf
  by_cases hm : l.mark = .closed
  · rw [if_pos hm] at hf
    cases hf
  · rw [if_neg hm] at hf
    by_cases ha : amid v l.mark = true
    · rw [if_pos ha] at hf
      cases hf
    · rw [if_neg ha, if_pos ⟨hv, by rw [z]; rfl⟩] at hf
      cases hf
theorem ne_body {l : Ln} (hf : fault .body l.mark l.q.length = none) (hib : isIn l.mark = true → l.q ≠ []) : l.q ≠ [] := by
  unfold fault at hf
  rw [if_neg (by decide)] at hf
  by_cases hm : l.mark = .closed
  · rw [if_pos hm] at hf
    cases hf
  · rw [if_neg hm] at hf
    cases e : isIn l.mark with
    | true => exact hib e
    | false =>
      have e2 : amid .body l.mark = true := by
        show (!isIn l.mark) = true
        rw [e]
        rfl
      rw [if_pos e2] at hf
      cases hf
def sp_law_call (K : PySem.W.Frag) : Sp := fun vs H Q _ => ∃ (a dx qa tg : Addr) (n : Nat) (l : Ln) (v : Wd) (tags : List Str) (why : Str), vs = [.ref a, .str v.s, .ref tg, .str why] ∧ LineAt K H a dx n l qa ∧ H tg = some (.lst (tags.map V.str)) ∧ tags ≠ [] ∧ tags.length ≤ 3 ∧ l.q.length ≤ 90000 ∧ (isIn l.mark = true → l.q ≠ []) ∧
  ∀ H' q' t, Fr2 H H' a qa → (q' = qa ∨ H q' = none) → LineAt K H' a dx n (stepIf v tags (.str why) l) q' → ResAt (fun _ => True) H' t v l n → Q (.ref t) H'
theorem takes0 {X : Cx} : Takes X (fun _ _ _ _ => False) := fun u s' x => by
  obtain ⟨_, _, _, _, _, _, _, _, _, _, _, _, _, _, _, _, w⟩ := x
  exact w.elim
section
variable {P : Program} {w : World} {K : PySem.W.Frag} {mg : Str → Option Value} {base : Heap}
theorem sc__law_ask : FnScope ["_law_line", "_law_tags"] ["_law_line", "_law_tags"] (defScope (topS 39)) := ⟨rfl, rfl, rfl, by decide +kernel, rfl, by decide +kernel, by decide +kernel⟩
theorem ok__law_ask (T : Tx P K mg) : GOk P w K mg base (L2.CX P w) 6 "_law_ask" ["_law_line", "_law_tags"] (sp_law_ask K) := by
  obtain ⟨f_Line_ask, R_Line_ask, m3_Line_ask⟩ := ok_Line_ask (P := P) (w := w) (base := base) T
  obtain ⟨f, fd, F, gm⟩ := T.fn (39, "_law_ask") (by decide +kernel)
  refine ⟨f, fd, ?_, gm, F.kp, F.binds fun _ _ _ _ _ _ us hl => match us, hl with | [_, _], _ => rfl⟩
  refine F.okX sc__law_ask (fun vs H Q E h => ?_) (fun cdv A outer s H vs Q E hr h => ?_)
  · obtain ⟨_, _, _, _, _, _, _, rfl, _⟩ := h
    rfl
  have hu := hu_of hr
  refine ⟨_, (pss_one (ps_if (pt_cmpR op_eq (pe_callB call_len_seq (by rfl) T.len PySem.boot_len (pa_cons (pv 1) pa_nil)) pe_int (nomark _))
      (pss_one (ps_expr (OW.pe_methR0 (pv 0) T.clL m3_Line_ask R_Line_ask (hr.mono (by decide)) (passes_call (takes_of rfl rfl rfl rfl) (fun _ _ _ _ z => z)))))
      (pss_one (ps_if (pt_cmpR op_eq (pe_callB call_len_seq (by rfl) T.len PySem.boot_len (pa_cons (pv 1) pa_nil)) pe_int (nomark _))
      (pss_one (ps_expr (pe_methR (pv 0) T.clL m3_Line_ask R_Line_ask (hr.mono (by decide)) (passes_call (takes_of rfl rfl rfl rfl) (fun _ _ _ _ z => z)) (pa_cons (pe_ix ix_list (pv 1) pe_int (fun _ _ => rfl)) pa_nil))))
      (pss_one (ps_if (pt_cmpR op_eq (pe_callB call_len_seq (by rfl) T.len PySem.boot_len (pa_cons (pv 1) pa_nil)) pe_int (nomark _))
      (pss_one (ps_expr (pe_methR (pv 0) T.clL m3_Line_ask R_Line_ask (hr.mono (by decide)) (passes_call (takes_of rfl rfl rfl rfl) (fun _ _ _ _ z => z)) (pa_cons (pe_ix ix_list (pv 1) pe_int (fun _ _ => rfl)) (pa_cons (pe_ix ix_list (pv 1) pe_int (fun _ _ => rfl)) pa_nil)))))
      (pss_one (ps_expr (pe_methR (pv 0) T.clL m3_Line_ask R_Line_ask (hr.mono (by decide)) (passes_call (takes_of rfl rfl rfl rfl) (fun _ _ _ _ z => z)) (pa_cons (pe_ix ix_list (pv 1) pe_int (fun _ _ => rfl)) (pa_cons (pe_ix ix_list (pv 1) pe_int (fun _ _ => rfl)) (pa_cons (pe_ix ix_list (pv 1) pe_int (fun _ _ => rfl)) pa_nil)))))))))))), ?_⟩
  obtain ⟨a, dx, qa, tg, n, l, tags, rfl, L, ht, hl, hq, k, z⟩ := h
  have hq' : l.q.length ≤ 100000 := by omega
  rcases tags with _ | ⟨x, _ | ⟨y, _ | ⟨v, _ | ⟨u, us⟩⟩⟩⟩
  · exact ⟨_, rfl, tg, _, rfl, .inl (SqL.of ht), rfl, _, rfl, iteT' rfl ⟨_, rfl, a, dx, _, rfl, L.obj, rfl, [], a, dx, qa, n, l, rfl, L, hq', (by decide), k, z⟩⟩
  · exact ⟨_, rfl, tg, _, rfl, .inl (SqL.of ht), rfl, _, rfl, iteF' rfl ⟨_, rfl, tg, _, rfl, .inl (SqL.of ht), rfl, _, rfl, iteT' rfl ⟨_, rfl, a, dx, _, rfl, L.obj, rfl, _, rfl, tg, _, _, _, rfl, rfl, SqL.of ht, atI_nat (j := 0) rfl, [x], a, dx, qa, n, l, rfl, L, hq', (by show 1 ≤ 5; decide), k, z⟩⟩⟩
  · exact ⟨_, rfl, tg, _, rfl, .inl (SqL.of ht), rfl, _, rfl, iteF' rfl ⟨_, rfl, tg, _, rfl, .inl (SqL.of ht), rfl, _, rfl, iteF' rfl ⟨_, rfl, tg, _, rfl, .inl (SqL.of ht), rfl, _, rfl, iteT' rfl ⟨_, rfl, a, dx, _, rfl, L.obj, rfl, _, rfl, tg, _, _, _, rfl, rfl, SqL.of ht, atI_nat (j := 0) rfl, _, rfl, tg, _, _, _, rfl, rfl, SqL.of ht, atI_nat (j := 1) rfl, [x, y], a, dx, qa, n, l, rfl, L, hq', (by show 2 ≤ 5; decide), k, z⟩⟩⟩⟩
  · exact ⟨_, rfl, tg, _, rfl, .inl (SqL.of ht), rfl, _, rfl, iteF' rfl ⟨_, rfl, tg, _, rfl, .inl (SqL.of ht), rfl, _, rfl, iteF' rfl ⟨_, rfl, tg, _, rfl, .inl (SqL.of ht), rfl, _, rfl, iteF' rfl ⟨_, rfl, a, dx, _, rfl, L.obj, rfl, _, rfl, tg, _, _, _, rfl, rfl, SqL.of ht, atI_nat (j := 0) rfl, _, rfl, tg, _, _, _, rfl, rfl, SqL.of ht, atI_nat (j := 1) rfl, _, rfl, tg, _, _, _, rfl, rfl, SqL.of ht, atI_nat (j := 2) rfl, [x, y, v], a, dx, qa, n, l, rfl, L, hq', (by show 3 ≤ 5; decide), k, z⟩⟩⟩⟩
  · exact absurd hl (by show ¬ (us.length + 4 ≤ 3); omega)
theorem sc__law_do : FnScope ["_law_line", "_law_word", "_law_tags", "_law_why"] ["_law_line", "_law_word", "_law_tags", "_law_why"] (defScope (topS 40)) := ⟨rfl, rfl, rfl, by decide +kernel, rfl, by decide +kernel, by decide +kernel⟩
theorem ok__law_do (T : Tx P K mg) : GOk P w K mg base (L2.CX P w) 7 "_law_do" ["_law_line", "_law_word", "_law_tags", "_law_why"] (sp_law_do K) := by
  obtain ⟨f_Line_drain, fd_Line_drain, G_Line_drain, M_Line_drain, b_Line_drain⟩ := ok_Line_drain (P := P) (w := w) (base := base) T
  obtain ⟨f_Line_read, fd_Line_read, G_Line_read, M_Line_read, b_Line_read⟩ := ok_Line_read (P := P) (w := w) (base := base) T
  obtain ⟨f_Line_head, fd_Line_head, G_Line_head, M_Line_head, b_Line_head⟩ := ok_Line_head (P := P) (w := w) (base := base) T
  obtain ⟨f_Line_body, fd_Line_body, G_Line_body, M_Line_body, b_Line_body⟩ := ok_Line_body (P := P) (w := w) (base := base) T
  obtain ⟨f__law_ask, fd__law_ask, G__law_ask, m__law_ask, k__law_ask, b__law_ask⟩ := ok__law_ask (P := P) (w := w) (base := base) T
  obtain ⟨f_Line_begin, fd_Line_begin, G_Line_begin, M_Line_begin, b_Line_begin⟩ := ok_Line_begin (P := P) (w := w) (base := base) T
  obtain ⟨f_Line_finish, fd_Line_finish, G_Line_finish, M_Line_finish, b_Line_finish⟩ := ok_Line_finish (P := P) (w := w) (base := base) T
  obtain ⟨f_Line_close, fd_Line_close, G_Line_close, M_Line_close, b0_Line_close, b1_Line_close⟩ := ok_Line_close (P := P) (w := w) (base := base) T
  obtain ⟨f, fd, F, gm⟩ := T.fn (40, "_law_do") (by decide +kernel)
  refine ⟨f, fd, ?_, gm, F.kp, F.binds fun _ _ _ _ _ _ us hl => match us, hl with | [_, _, _, _], _ => rfl⟩
  refine F.okX sc__law_do (fun vs H Q E h => ?_) (fun cdv A outer s H vs Q E hr h => ?_)
  · obtain ⟨_, _, _, _, _, _, _, _, _, rfl, _⟩ := h
    rfl
  have hu := hu_of hr
  refine ⟨_, (pss_cons (ps_if (pt_cmpR op_eq (pv 1) pe_str (nomark _))
      (pss_one (ps_ret (pe_meth0 (pv 0) T.clL M_Line_drain G_Line_drain (hr.mono (by decide)) b_Line_drain .nil pass0)))
      pss_nil)
      (pss_cons (ps_if (pt_cmpR op_eq (pv 1) pe_str (nomark _))
      (pss_one (ps_ret (pe_meth0 (pv 0) T.clL M_Line_read G_Line_read (hr.mono (by decide)) b_Line_read .nil (passes_call (takes_of rfl rfl rfl rfl) (fun _ _ _ _ z => z)))))
      pss_nil)
      (pss_cons (ps_if (pt_cmpR op_eq (pv 1) pe_str (nomark _))
      (pss_one (ps_ret (pe_meth0 (pv 0) T.clL M_Line_head G_Line_head (hr.mono (by decide)) b_Line_head .nil (passes_call (takes_of rfl rfl rfl rfl) (fun _ _ _ _ z => z)))))
      pss_nil)
      (pss_cons (ps_if (pt_cmpR op_eq (pv 1) pe_str (nomark _))
      (pss_one (ps_ret (pe_meth0 (pv 0) T.clL M_Line_body G_Line_body (hr.mono (by decide)) b_Line_body .nil (passes_call (takes_of rfl rfl rfl rfl) (fun _ _ _ _ z => z)))))
      pss_nil)
      (pss_cons (ps_if (pt_cmpR op_eq (pv 1) pe_str (nomark _))
      (pss_one (ps_expr (pe_call G__law_ask (hr.mono (by decide)) rfl m__law_ask k__law_ask b__law_ask .nil (passes_call (takes_of rfl rfl rfl rfl) (fun _ _ _ _ z => z)) (pa_cons (pv 0) (pa_cons (pv 2) pa_nil)))))
      (pss_one (ps_if (pt_cmpR op_eq (pv 1) pe_str (nomark _))
      (pss_one (ps_expr (pe_meth (pv 0) T.clL M_Line_begin G_Line_begin (hr.mono (by decide)) b_Line_begin .nil (passes_call (takes_of rfl rfl rfl rfl) (fun _ _ _ _ z => z)) (pa_cons (pe_ix ix_list (pv 2) pe_int (fun _ _ => rfl)) pa_nil))))
      (pss_one (ps_if (pt_cmpR op_eq (pv 1) pe_str (nomark _))
      (pss_one (ps_expr (pe_meth0 (pv 0) T.clL M_Line_finish G_Line_finish (hr.mono (by decide)) b_Line_finish .nil (passes_call (takes_of rfl rfl rfl rfl) (fun _ _ _ _ z => z)))))
      (pss_one (ps_if (pt_cmpR op_isN (pv 3) pe_non (nomark _))
      (pss_one (ps_expr (pe_meth0 (pv 0) T.clL M_Line_close G_Line_close (hr.mono (by decide)) b0_Line_close (show L2.Vals [V.non] [Value.none] from .cons rfl .nil) pass0)))
      (pss_one (ps_expr (pe_meth (pv 0) T.clL M_Line_close G_Line_close (hr.mono (by decide)) b1_Line_close .nil pass0 (pa_cons (pv 3) pa_nil)))))))))))
      (pss_one (ps_ret pe_non))))))), ?_⟩
  obtain ⟨a, dx, qa, tg, n, l, v, tags, why, rfl, L, ht, hne, hl, hq, hib, k, z⟩ := h
  have hq' : l.q.length ≤ 100000 := by omega
  cases v with
  | drain => exact ⟨_, rfl, rfl, _, rfl, iteT' (by decide +kernel) ⟨_, rfl, a, dx, _, rfl, L.obj, rfl, a, dx, qa, n, l, rfl, L, fun H' t q' fr hq0 ht0 ntq L' hT => k rfl H' q' _ (fr_left fr) (Or.inr hq0) L' ⟨t, rfl, hT⟩⟩⟩
  | read => exact ⟨_, rfl, rfl, _, rfl, iteF' (by decide +kernel) ⟨_, rfl, rfl, _, rfl, iteT' (by decide +kernel) ⟨_, rfl, a, dx, _, rfl, L.obj, rfl, a, dx, qa, n, l, rfl, L, fun hf => ne_read (Or.inl rfl) hf, fun hf H' fr L' => k hf H' qa _ fr (Or.inl rfl) L' rfl, z⟩⟩⟩
  | head => exact ⟨_, rfl, rfl, _, rfl, iteF' (by decide +kernel) ⟨_, rfl, rfl, _, rfl, iteF' (by decide +kernel) ⟨_, rfl, rfl, _, rfl, iteT' (by decide +kernel) ⟨_, rfl, a, dx, _, rfl, L.obj, rfl, a, dx, qa, n, l, rfl, L, fun hf => ne_read (Or.inr rfl) hf, fun hf H' fr L' => k hf H' qa _ fr (Or.inl rfl) L' rfl, z⟩⟩⟩⟩
  | body => exact ⟨_, rfl, rfl, _, rfl, iteF' (by decide +kernel) ⟨_, rfl, rfl, _, rfl, iteF' (by decide +kernel) ⟨_, rfl, rfl, _, rfl, iteF' (by decide +kernel) ⟨_, rfl, rfl, _, rfl, iteT' (by decide +kernel) ⟨_, rfl, a, dx, _, rfl, L.obj, rfl, a, dx, qa, n, l, rfl, L, fun hf => ne_body hf hib, fun hf H' fr L' => k hf H' qa _ fr (Or.inl rfl) L' rfl, z⟩⟩⟩⟩⟩
  | ask => exact ⟨_, rfl, rfl, _, rfl, iteF' (by decide +kernel) ⟨_, rfl, rfl, _, rfl, iteF' (by decide +kernel) ⟨_, rfl, rfl, _, rfl, iteF' (by decide +kernel) ⟨_, rfl, rfl, _, rfl, iteF' (by decide +kernel) ⟨_, rfl, rfl, _, rfl, iteT' (by decide +kernel) ⟨_, rfl, _, rfl, a, dx, qa, tg, n, l, tags, rfl, L, ht, hl, hq, fun hf H' fr L' => k hf H' qa _ fr (Or.inl rfl) L' rfl, z⟩⟩⟩⟩⟩⟩
  | begin =>
    obtain ⟨x, xs, rfl⟩ : ∃ x xs, tags = x :: xs := by
      cases tags with
      | nil => exact absurd rfl hne
      | cons x xs => exact ⟨x, xs, rfl⟩
    exact ⟨_, rfl, rfl, _, rfl, iteF' (by decide +kernel) ⟨_, rfl, rfl, _, rfl, iteF' (by decide +kernel) ⟨_, rfl, rfl, _, rfl, iteF' (by decide +kernel) ⟨_, rfl, rfl, _, rfl, iteF' (by decide +kernel) ⟨_, rfl, rfl, _, rfl, iteF' (by decide +kernel) ⟨_, rfl, rfl, _, rfl, iteT' (by decide +kernel) ⟨_, rfl, a, dx, _, rfl, L.obj, rfl, _, rfl, tg, _, _, _, rfl, rfl, SqL.of ht, atI_nat (j := 0) rfl, x, a, dx, qa, n, l, rfl, L, hq', (by show 1 ≤ 5; decide), fun hf H' fr L' => k hf H' qa _ fr (Or.inl rfl) L' rfl, z⟩⟩⟩⟩⟩⟩⟩
  | finish => exact ⟨_, rfl, rfl, _, rfl, iteF' (by decide +kernel) ⟨_, rfl, rfl, _, rfl, iteF' (by decide +kernel) ⟨_, rfl, rfl, _, rfl, iteF' (by decide +kernel) ⟨_, rfl, rfl, _, rfl, iteF' (by decide +kernel) ⟨_, rfl, rfl, _, rfl, iteF' (by decide +kernel) ⟨_, rfl, rfl, _, rfl, iteF' (by decide +kernel) ⟨_, rfl, rfl, _, rfl, iteT' (by decide +kernel) ⟨_, rfl, a, dx, _, rfl, L.obj, rfl, a, dx, qa, n, l, rfl, L, hq', (by show 0 ≤ 5; decide), fun hf H' fr L' => k hf H' qa _ fr (Or.inl rfl) L' rfl, z⟩⟩⟩⟩⟩⟩⟩⟩
  | close =>
    refine ⟨_, rfl, rfl, _, rfl, iteF' (by decide +kernel) ⟨_, rfl, rfl, _, rfl, iteF' (by decide +kernel) ⟨_, rfl, rfl, _, rfl, iteF' (by decide +kernel) ⟨_, rfl, rfl, _, rfl, iteF' (by decide +kernel) ⟨_, rfl, rfl, _, rfl, iteF' (by decide +kernel) ⟨_, rfl, rfl, _, rfl, iteF' (by decide +kernel) ⟨_, rfl, rfl, _, rfl, iteF' (by decide +kernel) ⟨_, rfl, rfl, _, rfl, iteF' rfl ⟨_, rfl, a, dx, _, rfl, L.obj, rfl, _, rfl, a, dx, qa, n, l, _, rfl, L, fun hm => ?_, fun hm H' q' fr hq0 L' => ?_⟩⟩⟩⟩⟩⟩⟩⟩⟩
    · have e : l.step .close tags (.str why) = l := if_pos hm
      have k2 := k rfl H qa .non fr_refl (Or.inl rfl)
      rw [e] at k2
      exact k2 L rfl
    · have e : l.step .close tags (.str why) = { l with mark := .closed, q := [], cause := .str why } := if_neg hm
      have k2 := k rfl H' q' .non (fr_left fr) (Or.inr hq0)
      rw [e] at k2
      exact k2 L' rfl
theorem sc__law_call : FnScope ["_law_line", "_law_word", "_law_tags", "_law_why", "_law_told", "e"] ["_law_line", "_law_word", "_law_tags", "_law_why"] (defScope (topS 41)) := ⟨rfl, rfl, rfl, by decide +kernel, rfl, by decide +kernel, by decide +kernel⟩
theorem ok__law_call (T : Tx P K mg) : GOk P w K mg base CX0 8 "_law_call" ["_law_line", "_law_word", "_law_tags", "_law_why"] (sp_law_call K) := by
  obtain ⟨f__law_do, fd__law_do, G__law_do, m__law_do, k__law_do, b__law_do⟩ := ok__law_do (P := P) (w := w) (base := base) T
  obtain ⟨f, fd, F, gm⟩ := T.fn (41, "_law_call") (by decide +kernel)
  refine ⟨f, fd, ?_, gm, F.kp, F.binds fun _ _ _ _ _ _ us hl => match us, hl with | [_, _, _, _], _ => rfl⟩
  refine F.ok sc__law_call (fun vs H Q E h => ?_) (fun cdv A outer s H vs Q E hr h => ?_)
  · obtain ⟨_, _, _, _, _, _, _, _, _, rfl, _⟩ := h
    rfl
  have hu := hu_of hr
  refine ⟨_, (pss_cons (OW.ps_try_manyAs (i := 5) rfl rfl sc__law_call.nd rfl rfl takes0 (fun W pn xe tk _ => (pss_one (ps_set (i := 4) sc__law_call.nd rfl (Or.inl rfl) (pe_tup (pa_cons pe_str (pa_cons (pe_callS G__law_do (hr.mono (by decide)) rfl m__law_do k__law_do b__law_do (fun σ => passAt tk σ) (pa_cons (pv 0) (pa_cons (pv 1) (pa_cons (pv 2) (pa_cons (pv 3) pa_nil))))) pa_nil))))))
      (OW.HdsAs.cons (c := .ref _) ⟨rfl, by decide, Or.inl T.g_Closed⟩ (fun a oe cls d pn hz hf => (pss_one (ps_set (i := 4) sc__law_call.nd rfl (Or.inl rfl) (pe_tup (pa_cons pe_str (pa_cons (OW.Xc.pe_getX T.x_Closed hz hf (pv 5)) pa_nil))))))
      (OW.HdsAs.cons (c := .ref _) ⟨rfl, by decide, Or.inl T.g_Amid⟩ (fun a oe cls d pn hz hf => (pss_one (ps_set (i := 4) sc__law_call.nd rfl (Or.inl rfl) (pe_tup (pa_cons pe_str (pa_cons (OW.Xa.pe_getX T.x_Amid hz hf (pv 5)) pa_nil))))))
      (OW.HdsAs.cons (c := .ref _) ⟨rfl, by decide, Or.inl T.g_Starved⟩ (fun a oe cls d pn hz hf => (pss_one (ps_set (i := 4) sc__law_call.nd rfl (Or.inl rfl) (pe_tup (pa_cons pe_str (pa_cons (OW.Xs.pe_getX T.x_Starved hz hf (pv 5)) pa_nil))))))
      OW.HdsAs.nil))))
      (pss_one (ps_ret (pv 4)))), ?_⟩
  obtain ⟨a, dx, qa, tg, n, l, v, tags, why, rfl, L, ht, hne, hl, hq, hib, k⟩ := h
  have xx : ∀ x ∈ (["Closed", "Amid", "Starved"] : List Str), ∀ y ∈ (["Closed", "Amid", "Starved"] : List Str), PySem.W.exmOne K (.ref (He.ga K x)) (.ref (He.ga K y)) = some (decide (x = y)) := T.xm
  have st : ∀ f, fault v l.mark l.q.length = some f → stepIf v tags (.str why) l = l := fun f hf => by
    unfold stepIf
    rw [hf]
  refine ⟨_, rfl, _, rfl, _, rfl, _, rfl, a, dx, qa, tg, n, l, v, tags, why, rfl, L, ht, hne, hl, hq, hib, fun hf H' q' x fr hq0 L' dr => ⟨(by show 2 ≤ sizeLine; decide), fun t ht => ?_⟩, ⟨fun hf H' d s hd hx => ?_, fun hf H' d s hd hx => ?_, fun hf H' d s hd hx => ?_⟩⟩
  · have es : stepIf v tags (.str why) l = l.step v tags (.str why) := by
      unfold stepIf
      rw [hf]
    rw [es] at k
    refine ⟨_, rfl, k _ q' t (fal fr ht) hq0 (L'.same (Same.new ht)) ?_⟩
    unfold ResAt
    rw [hf]
    cases v
    case drain =>
      obtain ⟨u, rfl, hu2⟩ := dr
      exact ⟨u, trivial, upd_same, Same.new ht _ _ hu2⟩
    all_goals
      cases (show x = _ from dr)
      exact upd_same
  · rw [st _ hf] at k
    refine ⟨true, xx _ (by decide) _ (by decide), fun _ e he => ?_, fun z => (nomatch z)⟩
    refine ⟨_, rfl, rfl, rfl, d, _, rfl, hx, (by show 2 ≤ sizeLine; decide), fun t ht => ⟨_, rfl, k _ qa t (fun x u _ _ q => sput s ht _ _ q) (Or.inl rfl) (L.same (sput s ht)) ?_⟩⟩
    unfold ResAt
    rw [hf]
    exact upd_same
  · rw [st _ hf] at k
    refine ⟨false, xx _ (by decide) _ (by decide), fun z => (nomatch z), fun _ => ⟨true, xx _ (by decide) _ (by decide), fun _ e he => ?_, fun z => (nomatch z)⟩⟩
    refine ⟨_, rfl, rfl, rfl, d, _, rfl, hx, (by show 2 ≤ sizeLine; decide), fun t ht => ⟨_, rfl, k _ qa t (fun x u _ _ q => sput s ht _ _ q) (Or.inl rfl) (L.same (sput s ht)) ?_⟩⟩
    unfold ResAt
    rw [hf]
    exact upd_same
  · rw [st _ hf] at k
    refine ⟨false, xx _ (by decide) _ (by decide), fun z => (nomatch z), fun _ => ⟨false, xx _ (by decide) _ (by decide), fun z => (nomatch z), fun _ => ⟨true, xx _ (by decide) _ (by decide), fun _ e he => ?_, fun z => (nomatch z)⟩⟩⟩
    refine ⟨_, rfl, rfl, rfl, d, _, rfl, hx, (by show 2 ≤ sizeLine; decide), fun t ht => ⟨_, rfl, k _ qa t (fun x u _ _ q => sput s ht _ _ q) (Or.inl rfl) (L.same (sput s ht)) ?_⟩⟩
    unfold ResAt
    rw [hf]
    exact upd_same
end
end OA

set_option maxHeartbeats 4000000
/-! The law's look at a line, and what it says of giving back. -/
namespace OA
open PySem PySem.Spec PyProof.Rows L2 OW
def sp_law_stands (K : PySem.W.Frag) : Sp := fun vs H Q _ => ∃ (a dx qa nw kq : Addr) (n : Nat) (l : Ln) (tag : Str), vs = [.ref a, .ref nw, .str tag] ∧ LineAt K H a dx n l qa ∧ NowAt H nw n l kq ∧ Eqv 3 H l.cause l.cause ∧ l.q.length ≤ 90000 ∧ ∀ H', Same H H' → Q (.bl true) H'
theorem eqv_sc {k : Nat} {H : Hp} {x y : V} (e : x = y) (h : sca y = true) : Eqv (k + 1) H x y := Or.inl ⟨e, h⟩
theorem eqv_strs {k : Nat} {H : Hp} {a b : Addr} {q : List Str} (ha : H a = some (.lst (q.map V.str))) (hb : H b = some (.lst (q.map V.str))) (hz : q.length ≤ 100000) : Eqv (k + 2) H (.ref a) (.ref b) := by
  refine Or.inr ⟨a, b, _, _, rfl, rfl, rfl, by rw [List.length_map]; exact hz, fun i u v e1 e2 => ?_, Or.inl ⟨ha, hb⟩⟩
  have e : u = v := Option.some.inj (e1.symm.trans e2)
  rw [List.getElem?_map] at e2
  obtain ⟨x, _, rfl⟩ := Option.map_eq_some_iff.mp e2
  exact eqv_sc e rfl
def sp_law_back : Sp := fun vs H Q _ => ∃ (nw kq : Addr) (n : Nat) (l : Ln) (u : Dw) (why : V), vs = [.ref nw, .str u.s, why] ∧ NowAt H nw n l kq ∧ l.q.length ≤ 90000 ∧
  ∀ H' kq' t, Fr1 H H' nw → (kq' = kq ∨ H kq' = none) → H t = none → NowAt H' nw n (giveL u why l) kq' → H' t = some (.tup [.int (giveN u l : Nat), .bl (decide (u = .close ∧ clean l = true))]) → Q (.ref t) H'
theorem tv_clean {K : PySem.W.Frag} {σ : L2.St} {H : Hp} {Q : VK} {i j : Nat} {kq : Addr} {l : Ln} (hi : σ[i]? = some (some (.str l.mark.s))) (hj : σ[j]? = some (some (.ref kq))) (hq : H kq = some (.lst (l.q.map V.str))) (q : ∀ H', Same H H' → Q (.bl (clean l)) H') :
    tAndV (tOp rEq (tVar i) (tC (.str "whole"))) (tOp (rEqNil K) (tVar j) (tLst tNil)) σ H Q := by
  refine ⟨_, hi, rfl, _, rfl, ?_⟩
  rw [mark_whole]
  by_cases hm : l.mark = .whole
  · refine iteT' (decide_eq_true hm) ⟨_, hj, Nat.zero_le _, fun p hp => ⟨kq, p, _, rfl, rfl, SqL.of (Same.new hp _ _ hq), SqL.of upd_same, ?_⟩⟩
    have z := q _ (Same.new (o := .lst []) hp)
    have e : clean l = (l.q.map V.str).isEmpty := by
      show decide (l.mark = .whole ∧ l.q = []) = _
      cases l.q <;> simp [hm]
    rw [e] at z
    exact z
  · have e : clean l = false := by
      show decide (l.mark = .whole ∧ l.q = []) = _
      simp [hm]
    have z := q _ same_refl
    rw [e] at z
    exact iteF' (decide_eq_false hm) z
section
variable {P : Program} {w : World} {K : PySem.W.Frag} {mg : Str → Option Value} {base : Heap}
theorem sc__law_stands : FnScope ["_law_line", "_law_now", "_law_tag", "_law_queue", "_law_mark_here"] ["_law_line", "_law_now", "_law_tag"] (defScope (topS 42)) := ⟨rfl, rfl, rfl, by decide +kernel, rfl, by decide +kernel, by decide +kernel⟩
theorem ok__law_stands (T : Tx P K mg) : GOk P w K mg base CX0 8 "_law_stands" ["_law_line", "_law_now", "_law_tag"] (sp_law_stands K) := by
  obtain ⟨f__law_same, fd__law_same, G__law_same, m__law_same, k__law_same, b__law_same⟩ := ok__law_same (P := P) (w := w) (base := base) T 3
  obtain ⟨f_Line_tags, fd_Line_tags, G_Line_tags, M_Line_tags, b_Line_tags⟩ := ok_Line_tags (P := P) (w := w) (base := base) T
  obtain ⟨pa_Line_mark, f_Line_mark, fd_Line_mark, G_Line_mark, p_Line_mark, b_Line_mark⟩ := ok_Line_mark (P := P) (w := w) (base := base) T
  obtain ⟨f_Line_len, R_Line_len, m_Line_len⟩ := ok_Line_len (P := P) (w := w) (base := base) T
  obtain ⟨mf_Line_len, mi_Line_len, mn_Line_len⟩ := m_Line_len
  obtain ⟨pa_Line_owed, f_Line_owed, fd_Line_owed, G_Line_owed, p_Line_owed, b_Line_owed⟩ := ok_Line_owed (P := P) (w := w) (base := base) T
  obtain ⟨f_Line_contains, R_Line_contains, m_Line_contains⟩ := ok_Line_contains (P := P) (w := w) (base := base) T
  obtain ⟨mf_Line_contains, mi_Line_contains, mn_Line_contains⟩ := m_Line_contains
  obtain ⟨pa_Line_is_clean, f_Line_is_clean, fd_Line_is_clean, G_Line_is_clean, p_Line_is_clean, b_Line_is_clean⟩ := ok_Line_is_clean (P := P) (w := w) (base := base) T
  obtain ⟨pa_Line_is_open, f_Line_is_open, fd_Line_is_open, G_Line_is_open, p_Line_is_open, b_Line_is_open⟩ := ok_Line_is_open (P := P) (w := w) (base := base) T
  obtain ⟨f, fd, F, gm⟩ := T.fn (42, "_law_stands") (by decide +kernel)
  refine ⟨f, fd, ?_, gm, F.kp, F.binds fun _ _ _ _ _ _ us hl => match us, hl with | [_, _, _], _ => rfl⟩
  refine F.ok sc__law_stands (fun vs H Q E h => ?_) (fun cdv A outer s H vs Q E hr h => ?_)
  · obtain ⟨_, _, _, _, _, _, _, _, rfl, _⟩ := h
    rfl
  have hu := hu_of hr
  refine ⟨_, (pss_cons (ps_par (i := 3) (j := 4) (by rfl) sc__law_stands.nd rfl rfl (by decide) rfl rfl (pa_cons (pe_dget hu (pv 1) pe_str (fun _ _ => rfl)) (pa_cons (pe_dget hu (pv 1) pe_str (fun _ _ => rfl)) pa_nil)) (by rfl))
      (pss_cons (ps_if (PW.pt (pw_or (pt_not (pt_val (pe_call G__law_same (hr.mono (by decide)) rfl m__law_same k__law_same b__law_same .nil pass0 (pa_cons (pe_prop (pv 0) T.clL p_Line_mark G_Line_mark (hr.mono (by decide)) b_Line_mark .nil pass0 rfl) (pa_cons (pv 4) pa_nil))))) (pw_or1 (pt_not (pt_val (pe_call G__law_same (hr.mono (by decide)) rfl m__law_same k__law_same b__law_same .nil pass0 (pa_cons (pe_meth0 (pv 0) T.clL M_Line_tags G_Line_tags (hr.mono (by decide)) b_Line_tags .nil pass0) (pa_cons (pv 3) pa_nil))))))))
      (pss_one (ps_ret pe_bl))
      pss_nil)
      (pss_cons (ps_if (PW.pt (pw_or (pt_not (pt_val (pe_call G__law_same (hr.mono (by decide)) rfl m__law_same k__law_same b__law_same .nil pass0 (pa_cons (pe_prop (pv 0) T.clL p_Line_owed G_Line_owed (hr.mono (by decide)) b_Line_owed .nil pass0 rfl) (pa_cons (pe_callB call_len_seq (by rfl) T.len PySem.boot_len (pa_cons (pv 3) pa_nil)) pa_nil))))) (pw_or1 (pt_not (pt_val (pe_call G__law_same (hr.mono (by decide)) rfl m__law_same k__law_same b__law_same .nil pass0 (pa_cons (pe_callB (OW.call_lenO mf_Line_len mi_Line_len R_Line_len (hr.mono (by decide)) pass0) (by rfl) T.len PySem.boot_len (pa_cons (pv 0) pa_nil)) (pa_cons (pe_callB call_len_seq (by rfl) T.len PySem.boot_len (pa_cons (pv 3) pa_nil)) pa_nil))))))))
      (pss_one (ps_ret pe_bl))
      pss_nil)
      (pss_cons (ps_if (PW.pt (pw_or (pt_not (pt_val (pe_call G__law_same (hr.mono (by decide)) rfl m__law_same k__law_same b__law_same .nil pass0 (pa_cons (pe_fld (pv 0) rfl) (pa_cons (pe_dget hu (pv 1) pe_str (fun _ _ => rfl)) pa_nil))))) (pw_or1 (pt_not (pt_val (pe_call G__law_same (hr.mono (by decide)) rfl m__law_same k__law_same b__law_same .nil pass0 (pa_cons (pe_fld (pv 0) rfl) (pa_cons (pe_dget hu (pv 1) pe_str (fun _ _ => rfl)) pa_nil))))))))
      (pss_one (ps_ret pe_bl))
      pss_nil)
      (pss_cons (ps_if (pt_cmpR op_ne (pe_callTy call_bool1 (by rfl) T.bool (by decide +kernel) (pa_cons (pe_cmpR (OW.op_inO mf_Line_contains mi_Line_contains R_Line_contains (hr.mono (by decide)) pass0) (pv 2) (pv 0) (by rfl)) pa_nil)) (pe_cmpR op_in_seq (pv 2) (pv 3) (by rfl)) (nomark _))
      (pss_one (ps_ret pe_bl))
      pss_nil)
      (pss_one (ps_ret (pe_and (pe_call G__law_same (hr.mono (by decide)) rfl m__law_same k__law_same b__law_same .nil pass0 (pa_cons (pe_prop (pv 0) T.clL p_Line_is_open G_Line_is_open (hr.mono (by decide)) b_Line_is_open .nil pass0 rfl) (pa_cons (pe_cmpR op_ne (pv 4) pe_str (nomark _)) pa_nil))) (pe_one (pe_call G__law_same (hr.mono (by decide)) rfl m__law_same k__law_same b__law_same .nil pass0 (pa_cons (pe_prop (pv 0) T.clL p_Line_is_clean G_Line_is_clean (hr.mono (by decide)) b_Line_is_clean .nil pass0 rfl) (pa_cons (pe_and (pe_cmpR op_eq (pv 4) pe_str (nomark _)) (pe_one (pe_cmpR (OW.op_eqNil hr.units0) (pv 3) (pe_lst pa_nil) (nomark _)))) pa_nil)))))))))))), ?_⟩
  obtain ⟨a, dx, qa, nw, kq, n, l, tag, rfl, L, N, hc, hz, k⟩ := h
  refine ⟨_, rfl, nw, _, rfl, g_queue N, _, rfl, nw, _, rfl, g_mark N, _, _, rfl, ?_⟩
  refine ⟨_, rfl, a, dx, _, rfl, L.obj, a, dx, qa, n, l, rfl, L, _, rfl, _, _, rfl, eqv_sc rfl rfl, fun H1 s1 => ⟨_, rfl, iteF' rfl ?_⟩⟩
  have L1 := L.same s1
  refine ⟨_, rfl, a, dx, _, rfl, L1.obj, rfl, a, dx, qa, n, l, rfl, L1, fun H2 t s2 _ hat => ⟨_, rfl, _, _, rfl, eqv_strs hat ((N.same s1).same s2).que (by omega), fun H3 s3 => ⟨_, rfl, iteF' rfl ?_⟩⟩⟩
  have s03 := (s1.trans s2).trans s3
  have L3 := L.same s03
  have N3 := N.same s03
  have lenE : V.int ((l.q.map V.str).length : Nat) = V.int (l.q.length : Nat) := by rw [List.length_map]
  refine ⟨_, rfl, a, dx, _, rfl, L3.obj, a, dx, qa, n, l, rfl, L3, _, rfl, kq, _, rfl, .inl (SqL.of N3.que), _, _, rfl, eqv_sc lenE.symm rfl, fun H4 s4 => ⟨_, rfl, iteF' rfl ?_⟩⟩
  have L4 := L3.same s4
  have N4 := N3.same s4
  refine ⟨_, rfl, a, dx, _, rfl, L4.obj, a, dx, qa, n, l, rfl, L4, _, rfl, ⟨by omega, by omega⟩, _, rfl, kq, _, rfl, .inl (SqL.of N4.que), _, _, rfl, eqv_sc lenE.symm rfl, fun H5 s5 => ⟨_, rfl, iteF' rfl ?_⟩⟩
  have L5 := L4.same s5
  have N5 := N4.same s5
  refine ⟨_, rfl, a, _, _, _, _, rfl, L5.obj, T.clL, T.n_number, rfl, _, rfl, nw, _, rfl, g_number N5, _, _, rfl, eqv_sc rfl rfl, fun H6 s6 => ⟨_, rfl, iteF' rfl ?_⟩⟩
  have L6 := L5.same s6
  have N6 := N5.same s6
  have s06 := ((s03.trans s4).trans s5).trans s6
  refine ⟨_, rfl, a, _, _, _, _, rfl, L6.obj, T.clL, T.n_cause, rfl, _, rfl, nw, _, rfl, g_cause N6, _, _, rfl, hc.same s06, fun H7 s7 => ⟨_, rfl, iteF' rfl ?_⟩⟩
  have L7 := L6.same s7
  have N7 := N6.same s7
  refine ⟨_, rfl, _, rfl, a, dx, _, rfl, L7.obj, a, dx, qa, n, l, tag, rfl, L7, _, rfl, .inr ⟨_, rfl, ?_⟩⟩
  refine ⟨_, rfl, _, rfl, kq, _, rfl, .inl (SqL.of N7.que), rfl, flat_strs _, rfl, _, rfl, iteF' ?_ ?_⟩
  · show (!decide (V.bl (decide (tag ∈ l.q)) = V.bl (inV (.str tag) (l.q.map V.str)))) = false
    rw [ln_mem]
    simp
  have e1 : gOpen l = .bl (!decide (V.str l.mark.s = V.str "closed")) := by
    rw [mark_closed]
    simp [gOpen]
  refine ⟨_, rfl, a, dx, _, rfl, L7.obj, a, dx, qa, n, l, rfl, L7, _, rfl, rfl, _, _, rfl, eqv_sc e1 rfl, fun H8 s8 => ⟨_, rfl, iteT' rfl ?_⟩⟩
  have L8 := L7.same s8
  have N8 := N7.same s8
  refine ⟨_, rfl, a, dx, _, rfl, L8.obj, a, dx, qa, n, l, rfl, L8, _, rfl, rfl, _, rfl, ?_⟩
  have s08 := (s06.trans s7).trans s8
  rw [mark_whole]
  by_cases hm : l.mark = .whole
  · refine iteT' (decide_eq_true hm) ⟨_, rfl, Nat.zero_le _, fun p hp => ?_⟩
    have N9 := N8.same (Same.new (o := .lst []) hp)
    refine ⟨kq, p, _, rfl, rfl, SqL.of N9.que, SqL.of upd_same, _, _, rfl, eqv_sc ?_ rfl, fun H9 s9 => k _ ((sput s08 hp).trans s9)⟩
    show V.bl (decide (l.mark = .whole ∧ l.q = [])) = .bl ((l.q.map V.str).isEmpty)
    cases l.q <;> simp [hm]
  · refine iteF' (decide_eq_false hm) ⟨_, _, rfl, eqv_sc ?_ rfl, fun H9 s9 => k _ (s08.trans s9)⟩
    show V.bl (decide (l.mark = .whole ∧ l.q = [])) = .bl false
    simp [hm]
theorem sc__law_back : FnScope ["_law_now", "_law_word", "_law_way", "_law_mark_here", "_law_queue", "_law_clean", "_law_shut"] ["_law_now", "_law_word", "_law_way"] (defScope (topS 43)) := ⟨rfl, rfl, rfl, by decide +kernel, rfl, by decide +kernel, by decide +kernel⟩
theorem ok__law_back (T : Tx P K mg) : GOk P w K mg base CX0 1 "_law_back" ["_law_now", "_law_word", "_law_way"] sp_law_back := by
  obtain ⟨f, fd, F, gm⟩ := T.fn (43, "_law_back") (by decide +kernel)
  refine ⟨f, fd, ?_, gm, F.kp, F.binds fun _ _ _ _ _ _ us hl => match us, hl with | [_, _, _], _ => rfl⟩
  refine F.ok sc__law_back (fun vs H Q E h => ?_) (fun cdv A outer s H vs Q E hr h => ?_)
  · obtain ⟨_, _, _, _, _, _, rfl, _⟩ := h
    rfl
  have hu := hu_of hr
  refine ⟨_, (pss_cons (ps_par (i := 3) (j := 4) (by rfl) sc__law_back.nd rfl rfl (by decide) rfl rfl (pa_cons (pe_dget hu (pv 0) pe_str (fun _ _ => rfl)) (pa_cons (pe_dget hu (pv 0) pe_str (fun _ _ => rfl)) pa_nil)) (by rfl))
      (pss_cons (ps_set (i := 5) sc__law_back.nd rfl (Or.inl rfl) (pe_and (pe_cmpR op_eq (pv 3) pe_str (nomark _)) (pe_one (pe_cmpR (OW.op_eqNil hr.units0) (pv 4) (pe_lst pa_nil) (nomark _)))))
      (pss_cons (ps_if (PW.pt (pw_or (pt_cmpR op_eq (pv 3) pe_str (nomark _)) (pw_or (pt_cmpR op_eq (pv 1) pe_str (nomark _)) (pw_or1 (PW.pt (pw_and (pt_cmpR op_eq (pv 1) pe_str (nomark _)) (pw_and1 (pt_val (pv 5)))))))))
      (pss_one (ps_ret (pe_tup (pa_cons pe_int (pa_cons pe_bl pa_nil)))))
      pss_nil)
      (pss_cons (ps_set (i := 6) sc__law_back.nd rfl (Or.inl rfl) (pe_or (pe_and (pe_cmpR op_eq (pv 1) pe_str (nomark _)) (pe_one (pe_cmpR op_in_seq (pv 3) (pe_tup (pa_cons pe_str (pa_cons pe_str pa_nil))) (by rfl)))) (pe_one (pe_and (pe_cmpR op_eq (pv 1) pe_str (nomark _)) (pe_one (pe_cmpR op_ne (pv 3) pe_str (nomark _)))))))
      (pss_cons (ps_if (PW.pt (pw_or (pt_cmpR op_in_seq (pv 1) (pe_tup (pa_cons pe_str (pa_cons pe_str pa_nil))) (by rfl)) (pw_or1 (pt_val (pv 6)))))
      (pss_cons (ps_asg (pe_tup (pa_cons pe_str (pa_cons (pe_lst pa_nil) (pa_cons (pv 2) pa_nil)))) (pg_tup (by rfl) (pgs_cons (pg_sub (pv 0) pe_str (set_dict hu) (fun _ => rfl)) (pgs_cons (pg_sub (pv 0) pe_str (set_dict hu) (fun _ => rfl)) (pgs_cons (pg_sub (pv 0) pe_str (set_dict hu) (fun _ => rfl)) pgs_nil)))))
      (pss_one (ps_ret (pe_tup (pa_cons pe_int (pa_cons (pe_and (pe_cmpR op_eq (pv 1) pe_str (nomark _)) (pe_one (pv 5))) pa_nil))))))
      pss_nil)
      (pss_cons (ps_asg (pe_tup (pa_cons pe_str (pa_cons (pe_lst pa_nil) pa_nil))) (pg_tup (by rfl) (pgs_cons (pg_sub (pv 0) pe_str (set_dict hu) (fun _ => rfl)) (pgs_cons (pg_sub (pv 0) pe_str (set_dict hu) (fun _ => rfl)) pgs_nil))))
      (pss_one (ps_ret (pe_tup (pa_cons (pe_op op_add (pe_callB call_len_seq (by rfl) T.len PySem.boot_len (pa_cons (pv 4) pa_nil)) (pe_callTy call_int1 (by rfl) T.int (by decide +kernel) (pa_cons (pe_cmpR op_eq (pv 1) pe_str (nomark _)) pa_nil))) (pa_cons pe_bl pa_nil))))))))))), ?_⟩
  obtain ⟨nw, kq, n, l, u, why, rfl, N, hz, k⟩ := h
  refine ⟨_, rfl, nw, _, rfl, g_mark N, _, rfl, nw, _, rfl, g_queue N, _, _, rfl, ?_⟩
  dsimp only [tSeq, tAsg]
  refine tv_clean rfl rfl N.que (fun H1 s1 => ?_)
  have N1 := N.same s1
  have A : giveL u why l = l → giveN u l = 0 → ¬ (u = .close ∧ clean l = true) → ∀ t, H1 t = none → Q (.ref t) (upd H1 t (.tup [.int 0, .bl false])) := fun e1 e2 e3 t ht => by
    have z := k (upd H1 t (.tup [.int 0, .bl false])) kq t (fun x u _ _ e => sput s1 ht _ _ e) (Or.inl rfl) (s1.free ht)
    rw [e1, e2, decide_eq_false e3] at z
    exact z (N.same (sput s1 ht)) upd_same
  have B : (l.mark ≠ .closed ∧ u ≠ .keep) → mustClose u l = true → ∀ (D : Ends), D.rt = Q → ∀ H2 sh, Same H H2 → tSeq (tAsg (tTup (tCons (tC (.str "closed")) (tCons (tLst tNil) (tCons (tVar 2) tNil)))) (gTup K 3 (gCons (gSub (tVar 0) (tC (.str "mark")) rSetD) (gCons (gSub (tVar 0) (tC (.str "queue")) rSetD) (gCons (gSub (tVar 0) (tC (.str "cause")) rSetD) gNil)))))
      (tRet (tTup (tCons (tC (.int 0)) (tCons (tAndV (tOp rEq (tVar 1) (tC (.str "close"))) (tVar 5)) tNil)))) D [some (.ref nw), some (.str u.s), some why, some (.str l.mark.s), some (.ref kq), some (.bl (clean l)), some sh] H2 := by
    intro hA hB D hD H2 sh s2
    have N2 := N.same s2
    have e1 : giveL u why l = { l with mark := .closed, q := [], cause := why } := by
      unfold giveL
      rw [if_neg (fun z => z.elim hA.1 hA.2), if_pos hB]
    have e2 : giveN u l = 0 := by
      unfold giveN
      rw [if_neg (fun z => z.elim hA.1 hA.2), if_pos hB]
    rw [e1, e2] at k
    refine ⟨Nat.zero_le _, fun q' hq' => ⟨_, rfl, (by show 3 ≤ sizeLine; decide), fun tp htp => ⟨tp, _, rfl, SqT.of upd_same, rfl, _, _, rfl, ?_⟩⟩⟩
    have s3 := sput (o := .tup [.str "closed", .ref q', why]) (sput (o := .lst []) s2 hq') htp
    have N3 := N.same s3
    refine ⟨_, rfl, nw, _, rfl, p_mark N3.obj .closed, _, _, rfl, _, rfl, nw, _, rfl, p_queue upd_same q', _, _, rfl, _, rfl, nw, _, rfl, p_cause upd_same why, rfl, ?_⟩
    have nq : q' ≠ nw := fun z => by
      rw [z, N2.obj] at hq'
      cases hq'
    have qt : q' ≠ tp := ne_of_none upd_same htp
    have fr : Fr1 H (upd (upd (upd (upd (upd H2 q' (.lst [])) tp (.tup [.str "closed", .ref q', why])) nw (.dK (nf n { l with mark := .closed } kq))) nw (.dK (nf n { l with mark := .closed } q'))) nw (.dK (nf n { l with mark := .closed, cause := why } q'))) nw := fup (fup (fup (fun x u _ _ e => s3 _ _ e)))
    have q5 : upd (upd (upd (upd (upd H2 q' (.lst [])) tp (.tup [.str "closed", .ref q', why])) nw (.dK (nf n { l with mark := .closed } kq))) nw (.dK (nf n { l with mark := .closed } q'))) nw (.dK (nf n { l with mark := .closed, cause := why } q')) q' = some (.lst []) := by
      rw [upd_ne nq, upd_ne nq, upd_ne nq, upd_ne qt, upd_same]
    have n5 : upd (upd (upd (upd (upd H2 q' (.lst [])) tp (.tup [.str "closed", .ref q', why])) nw (.dK (nf n { l with mark := .closed } kq))) nw (.dK (nf n { l with mark := .closed } q'))) nw (.dK (nf n { l with mark := .closed, cause := why } q')) nw = some (.dK (nf n { l with mark := .closed, cause := why } q')) := upd_same
    have fin : ∀ b t, b = decide (u = .close ∧ clean l = true) → upd (upd (upd (upd (upd H2 q' (.lst [])) tp (.tup [.str "closed", .ref q', why])) nw (.dK (nf n { l with mark := .closed } kq))) nw (.dK (nf n { l with mark := .closed } q'))) nw (.dK (nf n { l with mark := .closed, cause := why } q')) t = none → D.rt (.ref t) (upd (upd (upd (upd (upd (upd H2 q' (.lst [])) tp (.tup [.str "closed", .ref q', why])) nw (.dK (nf n { l with mark := .closed } kq))) nw (.dK (nf n { l with mark := .closed } q'))) nw (.dK (nf n { l with mark := .closed, cause := why } q'))) t (.tup [.int 0, .bl b])) := fun b t eb ht => by
      rw [hD]
      subst eb
      exact k _ q' t (fal fr ht) (Or.inr (s2.free hq')) (fback fr n5 ht) ⟨by rw [upd_ne (ne_of_none n5 ht)]; exact n5, by rw [upd_ne (ne_of_none q5 ht)]; exact q5⟩ upd_same
    refine ⟨_, rfl, rfl, _, rfl, ?_⟩
    by_cases hu' : u = .close
    · refine iteT' (by rw [hu']; decide +kernel) ⟨_, rfl, (by show 2 ≤ sizeLine; decide), fun t ht => fin _ t ?_ ht⟩
      cases hc : clean l
      · exact (decide_eq_false (fun z => nomatch z.2)).symm
      · exact (decide_eq_true ⟨hu', rfl⟩).symm
    · exact iteF' (by cases u <;> first | decide +kernel | exact absurd rfl hu') ⟨(by show 2 ≤ sizeLine; decide), fun t ht => fin _ t (decide_eq_false (fun z => hu' z.1)).symm ht⟩
  have C : (l.mark ≠ .closed ∧ u ≠ .keep) → mustClose u l = false → u ≠ .check → ∀ (D : Ends), D.rt = Q → ∀ H2 sh, Same H H2 → tSeq (tAsg (tTup (tCons (tC (.str "whole")) (tCons (tLst tNil) tNil))) (gTup K 2 (gCons (gSub (tVar 0) (tC (.str "mark")) rSetD) (gCons (gSub (tVar 0) (tC (.str "queue")) rSetD) gNil))))
      (tRet (tTup (tCons (tOp (rI0 fun i j => .int (i + j)) (tCB (fun xs H Q => ∃ p ys, xs = [V.ref p] ∧ (SqL K H p ys ∨ SqT K H p ys) ∧ Q (.int ys.length) H) (tCons (tVar 4) tNil)) (tCB (fun xs H Q => (∃ i, xs = [V.int i] ∧ Q (.int i) H) ∨ ∃ k, xs = [.bl k] ∧ Q (.int (if k = true then 1 else 0)) H) (tCons (tOp rEq (tVar 1) (tC (.str "ping"))) tNil))) (tCons (tC (.bl false)) tNil)))) D
      [some (.ref nw), some (.str u.s), some why, some (.str l.mark.s), some (.ref kq), some (.bl (clean l)), some sh] H2 := by
    intro hA hB hC D hD H2 sh s2
    have N2 := N.same s2
    have nB : ¬ mustClose u l = true := by rw [hB]; decide
    have e1 : giveL u why l = { l with mark := .whole, q := [] } := by
      unfold giveL
      rw [if_neg (fun z => z.elim hA.1 hA.2), if_neg nB, if_neg hC]
    have e2 : giveN u l = if u = .ping then l.q.length + 1 else l.q.length := by
      unfold giveN
      rw [if_neg (fun z => z.elim hA.1 hA.2), if_neg nB, if_neg hC]
    have hu' : u ≠ .close := fun z => by
      rw [z] at hB
      cases hB
    rw [e1, e2, decide_eq_false (fun z => hu' z.1)] at k
    refine ⟨Nat.zero_le _, fun q' hq' => ⟨(by show 2 ≤ sizeLine; decide), fun tp htp => ⟨tp, _, rfl, SqT.of upd_same, rfl, _, _, rfl, ?_⟩⟩⟩
    have s3 := sput (o := .tup [.str "whole", .ref q']) (sput (o := .lst []) s2 hq') htp
    have N3 := N.same s3
    refine ⟨_, rfl, nw, _, rfl, p_mark N3.obj .whole, _, _, rfl, _, rfl, nw, _, rfl, p_queue upd_same q', rfl, ?_⟩
    have nq : q' ≠ nw := fun z => by
      rw [z, N2.obj] at hq'
      cases hq'
    have qt : q' ≠ tp := ne_of_none upd_same htp
    have fr : Fr1 H (upd (upd (upd (upd H2 q' (.lst [])) tp (.tup [.str "whole", .ref q'])) nw (.dK (nf n { l with mark := .whole } kq))) nw (.dK (nf n { l with mark := .whole } q'))) nw := fup (fup (fun x u _ _ e => s3 _ _ e))
    have q5 : upd (upd (upd (upd H2 q' (.lst [])) tp (.tup [.str "whole", .ref q'])) nw (.dK (nf n { l with mark := .whole } kq))) nw (.dK (nf n { l with mark := .whole } q')) q' = some (.lst []) := by
      rw [upd_ne nq, upd_ne nq, upd_ne qt, upd_same]
    have n5 : upd (upd (upd (upd H2 q' (.lst [])) tp (.tup [.str "whole", .ref q'])) nw (.dK (nf n { l with mark := .whole } kq))) nw (.dK (nf n { l with mark := .whole } q')) nw = some (.dK (nf n { l with mark := .whole } q')) := upd_same
    have k5 : upd (upd (upd (upd H2 q' (.lst [])) tp (.tup [.str "whole", .ref q'])) nw (.dK (nf n { l with mark := .whole } kq))) nw (.dK (nf n { l with mark := .whole } q')) kq = some (.lst (l.q.map V.str)) := fr _ _ N.ne.symm N.ne.symm N.que
    refine ⟨_, rfl, kq, _, rfl, .inl (SqL.of k5), _, rfl, rfl, .inr ⟨_, rfl, _, _, rfl, rfl, (by show 2 ≤ sizeLine; decide), fun t ht => ?_⟩⟩
    rw [hD]
    have z := k _ q' t (fal (o := .tup [.int (if u = .ping then l.q.length + 1 else l.q.length : Nat), .bl false]) fr ht) (Or.inr (s2.free hq')) (fback fr n5 ht) ⟨by rw [upd_ne (ne_of_none n5 ht)]; exact n5, by rw [upd_ne (ne_of_none q5 ht)]; exact q5⟩ upd_same
    have en : ((if u = .ping then l.q.length + 1 else l.q.length : Nat) : Int) = ((l.q.map V.str).length : Int) + (if decide (V.str u.s = V.str "ping") = true then 1 else 0) := by
      rw [List.length_map]
      cases u <;> first | exact absurd rfl hA.2 | exact absurd rfl hC | exact absurd rfl hu' | rfl | (show ((l.q.length : Nat) : Int) = _; simp; decide +kernel)
    rw [en] at z
    exact z
  refine ⟨_, rfl, rfl, _, rfl, ?_⟩
  rw [mark_closed]
  by_cases hm : l.mark = .closed
  · have hnc : clean l = false := by
      show decide (l.mark = .whole ∧ l.q = []) = _
      rw [hm]
      rfl
    exact iteT' (decide_eq_true hm) (iteT ⟨(by show 2 ≤ sizeLine; decide), fun t ht => A (if_pos (Or.inl hm)) (if_pos (Or.inl hm)) (fun z => by rw [hnc] at z; exact nomatch z.2) t ht⟩)
  refine iteF' (decide_eq_false hm) ⟨_, rfl, rfl, _, rfl, ?_⟩
  cases u with
  | keep => exact iteT' (by decide +kernel) (iteT ⟨(by show 2 ≤ sizeLine; decide), fun t ht => A (if_pos (Or.inr rfl)) (if_pos (Or.inr rfl)) (fun z => nomatch z.1) t ht⟩)
  | close =>
    refine iteF' (by decide +kernel) ⟨_, rfl, rfl, _, rfl, iteF' (by decide +kernel) (iteF ?_)⟩
    refine ⟨_, rfl, rfl, _, rfl, iteF' (by decide +kernel) ⟨_, rfl, iteF' rfl ⟨_, rfl, rfl, _, rfl, iteF' (by decide +kernel) ?_⟩⟩⟩
    refine ⟨_, rfl, (by show 2 ≤ sizeLine; decide), fun tp htp => ⟨tp, _, rfl, .inr (SqT.of upd_same), rfl, by decide +kernel, _, rfl, iteT' (by decide +kernel) (iteT ?_)⟩⟩
    exact B ⟨hm, by decide⟩ rfl _ rfl _ _ (sput s1 htp)
  | check =>
    refine iteF' (by decide +kernel) ⟨_, rfl, rfl, _, rfl, iteT' (by decide +kernel) ⟨_, rfl, _, rfl, ?_⟩⟩
    cases hc : clean l with
    | true =>
      have hmc : ¬ mustClose .check l = true := by
        show ¬ (!clean l) = true
        rw [hc]
        decide
      exact iteT' rfl ⟨(by show 2 ≤ sizeLine; decide), fun t ht => A (by unfold giveL; rw [if_neg (fun z => z.elim hm (fun w => nomatch w)), if_neg hmc]; rfl) (by unfold giveN; rw [if_neg (fun z => z.elim hm (fun w => nomatch w)), if_neg hmc]; rfl) (fun z => nomatch z.1) t ht⟩
    | false =>
      have hmc : mustClose .check l = true := by
        show (!clean l) = true
        rw [hc]
        rfl
      refine iteF' rfl ?_
      refine ⟨_, rfl, rfl, _, rfl, iteF' (by decide +kernel) ⟨_, rfl, iteF' rfl ⟨_, rfl, rfl, _, rfl, iteF' (by decide +kernel) ?_⟩⟩⟩
      refine ⟨_, rfl, (by show 2 ≤ sizeLine; decide), fun tp htp => ⟨tp, _, rfl, .inr (SqT.of upd_same), rfl, by decide +kernel, _, rfl, iteT' (by decide +kernel) (iteT ?_)⟩⟩
      rw [← hc]
      exact B ⟨hm, by decide⟩ hmc _ rfl _ _ (sput s1 htp)
  | drain =>
    refine iteF' (by decide +kernel) ⟨_, rfl, rfl, _, rfl, iteF' (by decide +kernel) (iteF ?_)⟩
    refine ⟨_, rfl, rfl, _, rfl, iteT' (by decide +kernel) ⟨_, rfl, (by show 2 ≤ sizeLine; decide), fun t9 h9 => ⟨t9, _, rfl, .inr (SqT.of upd_same), rfl, by decide +kernel, ?_⟩⟩⟩
    have s9 := sput (o := .tup [.str "out", .str "both"]) s1 h9
    cases ho : isOut l.mark with
    | true =>
      refine ⟨_, rfl, iteT' ((in_out l.mark).trans ho) ?_⟩
      refine ⟨_, rfl, (by show 2 ≤ sizeLine; decide), fun tp htp => ⟨tp, _, rfl, .inr (SqT.of upd_same), rfl, by decide +kernel, _, rfl, iteF' (by decide +kernel) ⟨_, rfl, _, rfl, iteT' rfl ?_⟩⟩⟩
      exact B ⟨hm, by decide⟩ ho _ rfl _ _ (sput s9 htp)
    | false =>
      refine ⟨_, rfl, iteF' ((in_out l.mark).trans ho) ⟨_, rfl, rfl, _, rfl, iteF' (by decide +kernel) ?_⟩⟩
      refine ⟨_, rfl, (by show 2 ≤ sizeLine; decide), fun tp htp => ⟨tp, _, rfl, .inr (SqT.of upd_same), rfl, by decide +kernel, _, rfl, iteF' (by decide +kernel) ⟨_, rfl, _, rfl, iteF' rfl ?_⟩⟩⟩
      exact C ⟨hm, by decide⟩ ho (by decide) _ rfl _ _ (sput s9 htp)
  | ping =>
    refine iteF' (by decide +kernel) ⟨_, rfl, rfl, _, rfl, iteF' (by decide +kernel) (iteF ?_)⟩
    refine ⟨_, rfl, rfl, _, rfl, iteF' (by decide +kernel) ⟨_, rfl, iteF' rfl ⟨_, rfl, rfl, _, rfl, iteT' (by decide +kernel) ⟨_, rfl, rfl, ?_⟩⟩⟩⟩
    refine ⟨_, rfl, (by show 2 ≤ sizeLine; decide), fun tp htp => ⟨tp, _, rfl, .inr (SqT.of upd_same), rfl, by decide +kernel, _, rfl, iteF' (by decide +kernel) ⟨_, rfl, _, rfl, ?_⟩⟩⟩
    have ew : (!decide (V.str l.mark.s = V.str "whole")) = mustClose .ping l := by
      rw [mark_whole]
      rfl
    cases ho : mustClose .ping l with
    | true => exact iteT' (ew.trans ho) (B ⟨hm, by decide⟩ ho _ rfl _ _ (sput s1 htp))
    | false => exact iteF' (ew.trans ho) (C ⟨hm, by decide⟩ ho (by decide) _ rfl _ _ (sput s1 htp))
end
end OA

set_option maxHeartbeats 4000000
/-! What stands between two turns: every cell that matters is owned by a role. -/
namespace OA
open PySem PySem.Spec PyProof.Rows L2 OW
inductive Ro | ln (i : Nat) | qu (i : Nat) | nw (i : Nat) | kq (i : Nat) | lo (i : Nat) | P | L | LL | LO | SU | SR | st
deriving DecidableEq
abbrev Gh := Addr → Option Ro
structure Own (g : Gh) (H : Hp) (x : Addr) (r : Ro) (o : HO) : Prop where
  g : g x = some r
  h : H x = some o
theorem Own.ne {g : Gh} {H : Hp} {x y : Addr} {r s : Ro} {o : HO} (a : Own g H x r o) (b : g y = some s) (d : r ≠ s) : x ≠ y := fun e => by
  have := a.g
  rw [e, b] at this
  exact d (Option.some.inj this).symm
/-- what is fixed for one run -/
structure Sta where
  p : Addr
  dp : Addr
  d : Addr
  dd : Addr
  o : Addr
  c : Addr
  L : Addr
  LL : Addr
  LO : Addr
  SU : Addr
  SR : Addr
  WL : Addr
  WD : Addr
  e : Dw
  f : Dw
  w : Dw
  u0 : Dw
  u1 : Dw
  ext : List (Addr × HO)
/-- a loan -/
structure Lo where
  a : Addr
  i : Nat
  start : Str
  cnt : Nat
structure Sv where
  rs : List Rec
  los : List Lo
  lost : List Nat
  th : Nat
  sc : Nat
  t : Addr
  ts : Addr
def CauseOk (g : Gh) (H : Hp) (v : V) : Prop := sca v = true ∨ ∃ p y, v = .ref p ∧ Own g H p .st (.tup (Wy.t y))
structure RecOk (K : PySem.W.Frag) (g : Gh) (H : Hp) (i : Nat) (r : Rec) : Prop where
  a : Own g H r.a (.ln i) (.ins (CL K) r.dx (lnF i r.l r.qa))
  qa : Own g H r.qa (.qu i) (.lst (r.l.q.map V.str))
  nw : Own g H r.nw (.nw i) (.dK (nf i r.l r.kq))
  kq : Own g H r.kq (.kq i) (.lst (r.l.q.map V.str))
  cause : CauseOk g H r.l.cause
theorem RecOk.line {K : PySem.W.Frag} {g : Gh} {H : Hp} {i : Nat} {r : Rec} (h : RecOk K g H i r) : LineAt K H r.a r.dx i r.l r.qa := ⟨h.a.h, h.qa.h⟩
theorem RecOk.now {K : PySem.W.Frag} {g : Gh} {H : Hp} {i : Nat} {r : Rec} (h : RecOk K g H i r) : NowAt H r.nw i r.l r.kq := ⟨h.nw.h, h.kq.h⟩
abbrev loanL (r : Rec) (x : Lo) : List V := [.ref r.a, .ref r.nw, .str x.start, .int (x.cnt : Nat)]
abbrev nws (rs : List Rec) : List V := rs.map fun r => .ref r.nw
abbrev loas (los : List Lo) : List V := los.map fun x => .ref x.a
structure GI (K : PySem.W.Frag) (g : Gh) (H : Hp) (B : Sta) (S : Sv) : Prop where
  gn : ∀ x r, g x = some r → ∃ o, H x = some o
  P : Own g H B.p .P (.ins (CP K) B.dp (pf B.d B.L S.t (S.th : Nat) B.c))
  D : Own g H B.d .st (.ins (CD K) B.dd (df B.e.s B.f.s B.w.s B.o))
  O : Own g H B.o .st (.dT (two B.u0 B.u1))
  L : Own g H B.L .L (.lst (refs S.rs))
  LL : Own g H B.LL .LL (.lst (nws S.rs))
  LO : Own g H B.LO .LO (.lst (loas S.los))
  SU : Own g H B.SU .SU (.lst [.int (S.th : Nat), .ref S.ts])
  T : Own g H S.t .st (.tup (nums S.lost))
  TS : Own g H S.ts .st (.tup (nums S.lost))
  SRg : g B.SR = some .SR
  SR : SrcAt H B.SR S.sc
  WL : Own g H B.WL .st (.lst [.str B.e.s, .str B.f.s, .str B.w.s, .ref B.WD])
  WD : Own g H B.WD .st (.dT (two B.u0 B.u1))
  ln : ∀ i r, S.rs[i]? = some r → RecOk K g H i r
  lo : ∀ (j : Nat) (x : Lo), S.los[j]? = some x → ∃ r, S.rs[x.i]? = some r ∧ r.l.lent = true ∧ Own g H x.a (.lo x.i) (.lst (loanL r x))
  dj : ∀ (j j' : Nat) (x x' : Lo), S.los[j]? = some x → S.los[j']? = some x' → x.i = x'.i → j = j'
  xt : ∀ q ∈ B.ext, Own g H q.1 .st q.2
/-- owned cells of other roles are kept -/
def Keep (g : Gh) (H : Hp) (g' : Gh) (H' : Hp) (R0 : Ro → Prop) : Prop := ∀ x r o, g x = some r → ¬ R0 r → H x = some o → g' x = some r ∧ H' x = some o
theorem Keep.own {g g' : Gh} {H H' : Hp} {R0 : Ro → Prop} (k : Keep g H g' H' R0) {x : Addr} {r : Ro} {o : HO} (h : Own g H x r o) (n : ¬ R0 r) : Own g' H' x r o := ⟨(k x r o h.g n h.h).1, (k x r o h.g n h.h).2⟩
theorem Keep.cause {g g' : Gh} {H H' : Hp} {R0 : Ro → Prop} (k : Keep g H g' H' R0) {v : V} (h : CauseOk g H v) (n : ¬ R0 .st) : CauseOk g' H' v := by
  rcases h with h | ⟨p, y, e, h⟩
  · exact Or.inl h
  · exact Or.inr ⟨p, y, e, k.own h n⟩
theorem Keep.rec {K : PySem.W.Frag} {g g' : Gh} {H H' : Hp} {R0 : Ro → Prop} (k : Keep g H g' H' R0) {i : Nat} {r : Rec} (h : RecOk K g H i r) (n1 : ¬ R0 (.ln i)) (n2 : ¬ R0 (.qu i)) (n3 : ¬ R0 (.nw i)) (n4 : ¬ R0 (.kq i)) (n5 : ¬ R0 .st) : RecOk K g' H' i r :=
  ⟨k.own h.a n1, k.own h.qa n2, k.own h.nw n3, k.own h.kq n4, k.cause h.cause n5⟩
/-- from a frame -/
theorem keep_same {g : Gh} {H H' : Hp} {R0 : Ro → Prop} (s : Same H H') : Keep g H g H' R0 := fun x r o h1 _ h2 => ⟨h1, s _ _ h2⟩
theorem GI.same {K : PySem.W.Frag} {g : Gh} {H H' : Hp} {B : Sta} {S : Sv} (G : GI K g H B S) (s : Same H H') : GI K g H' B S := by
  have k : Keep g H g H' (fun _ => False) := keep_same s
  exact ⟨fun x r e => by obtain ⟨o, ho⟩ := G.gn x r e; exact ⟨o, s _ _ ho⟩, k.own G.P (fun h => h), k.own G.D (fun h => h), k.own G.O (fun h => h), k.own G.L (fun h => h), k.own G.LL (fun h => h), k.own G.LO (fun h => h), k.own G.SU (fun h => h), k.own G.T (fun h => h), k.own G.TS (fun h => h), G.SRg, G.SR.keep (fun o h => s _ _ h), k.own G.WL (fun h => h), k.own G.WD (fun h => h),
    fun i r e => k.rec (G.ln i r e) (fun h => h) (fun h => h) (fun h => h) (fun h => h) (fun h => h), fun j x e => by obtain ⟨r, e1, e2, e3⟩ := G.lo j x e; exact ⟨r, e1, e2, k.own e3 (fun h => h)⟩, G.dj, fun q hq => k.own (G.xt q hq) (fun h => h)⟩
/-- only the source has changed -/
theorem GI.src {K : PySem.W.Frag} {g : Gh} {H H' : Hp} {B : Sta} {S : Sv} {c : Nat} (G : GI K g H B S) (f : Fr1 H H' B.SR) (s : SrcAt H' B.SR c) : GI K g H' B { S with sc := c } := by
  have k : Keep g H g H' (fun r => r = .SR) := fun x r o h1 h2 h3 => ⟨h1, by
    have hx : x ≠ B.SR := fun e => by
      rw [e, G.SRg] at h1
      exact h2 (Option.some.inj h1).symm
    exact f _ _ hx hx h3⟩
  exact ⟨fun x r e => by
      by_cases h : r = .SR
      · obtain ⟨o, ho⟩ := G.gn x r e
        by_cases hx : x = B.SR
        · obtain ⟨_, _, _, q, _⟩ := s.at_
          exact ⟨_, hx ▸ q⟩
        · exact ⟨o, f _ _ hx hx ho⟩
      · obtain ⟨o, ho⟩ := G.gn x r e
        exact ⟨o, (k x r o e h ho).2⟩,
    k.own G.P (by decide), k.own G.D (by decide), k.own G.O (by decide), k.own G.L (by decide), k.own G.LL (by decide), k.own G.LO (by decide), k.own G.SU (by decide), k.own G.T (by decide), k.own G.TS (by decide), G.SRg, s, k.own G.WL (by decide), k.own G.WD (by decide),
    fun i r e => k.rec (G.ln i r e) (fun h => nomatch h) (fun h => nomatch h) (fun h => nomatch h) (fun h => nomatch h) (fun h => nomatch h), fun j x e => by obtain ⟨r, e1, e2, e3⟩ := G.lo j x e; exact ⟨r, e1, e2, k.own e3 (fun h => nomatch h)⟩, G.dj, fun q hq => k.own (G.xt q hq) (by decide)⟩
end OA

set_option maxHeartbeats 4000000
/-! The law's look at the pool. -/
namespace OA
open PySem PySem.Spec PyProof.Rows L2 OW
theorem eqv_nums {k : Nat} {H : Hp} {a b : Addr} {ns : List Nat} (h : (H a = some (.lst (nums ns)) ∧ H b = some (.lst (nums ns))) ∨ (H a = some (.tup (nums ns)) ∧ H b = some (.tup (nums ns)))) (hz : ns.length ≤ 100000) : Eqv (k + 2) H (.ref a) (.ref b) := by
  refine Or.inr ⟨a, b, _, _, rfl, rfl, rfl, by rw [List.length_map]; exact hz, fun i u v e1 e2 => ?_, h⟩
  have e : u = v := Option.some.inj (e1.symm.trans e2)
  rw [List.getElem?_map] at e2
  obtain ⟨x, _, rfl⟩ := Option.map_eq_some_iff.mp e2
  exact eqv_sc e rfl
theorem GI.lns {K : PySem.W.Frag} {g : Gh} {H : Hp} {B : Sta} {S : Sv} (G : GI K g H B S) : LnsAt K H S.rs := fun i r e => (G.ln i r e).line
def sp_law_shows (K : PySem.W.Frag) : Sp := fun vs H Q _ => ∃ (g : Gh) (B : Sta) (S : Sv), vs = [.ref B.p, .ref B.LL, .ref B.SU] ∧ GI K g H B S ∧ S.rs.length ≤ 900 ∧ S.lost.length ≤ 900 ∧ ∀ H', Same H H' → Q (.bl true) H'
section
variable {P : Program} {w : World} {K : PySem.W.Frag} {mg : Str → Option Value} {base : Heap}
theorem sc__law_shows : FnScope ["_law_pool", "_law_lines", "_law_sums", "_law_idle", "_law_now", "_law_lent"] ["_law_pool", "_law_lines", "_law_sums"] (defScope (topS 47)) := ⟨rfl, rfl, rfl, by decide +kernel, rfl, by decide +kernel, by decide +kernel⟩
theorem ok__law_shows (T : Tx P K mg) : GOk P w K mg base CX0 6 "_law_shows" ["_law_pool", "_law_lines", "_law_sums"] (sp_law_shows K) := by
  obtain ⟨f__law_same, fd__law_same, G__law_same, m__law_same, k__law_same, b__law_same⟩ := ok__law_same (P := P) (w := w) (base := base) T 3
  obtain ⟨f_Pool_len, R_Pool_len, m_Pool_len⟩ := ok_Pool_len (P := P) (w := w) (base := base) T
  obtain ⟨mf_Pool_len, mi_Pool_len, mn_Pool_len⟩ := m_Pool_len
  obtain ⟨f_Pool_lent, fd_Pool_lent, G_Pool_lent, M_Pool_lent, b_Pool_lent⟩ := ok_Pool_lent (P := P) (w := w) (base := base) T
  obtain ⟨f_Pool_idle, fd_Pool_idle, G_Pool_idle, M_Pool_idle, b_Pool_idle⟩ := ok_Pool_idle (P := P) (w := w) (base := base) T
  obtain ⟨f, fd, F, gm⟩ := T.fn (47, "_law_shows") (by decide +kernel)
  refine ⟨f, fd, ?_, gm, F.kp, F.binds fun _ _ _ _ _ _ us hl => match us, hl with | [_, _, _], _ => rfl⟩
  refine F.ok sc__law_shows (fun vs H Q E h => ?_) (fun cdv A outer s H vs Q E hr h => ?_)
  · obtain ⟨_, _, _, rfl, _⟩ := h
    rfl
  have hu := hu_of hr
  refine ⟨_, (pss_cons (ps_setLc (i := 3) (own := [("_law_now", 4)]) (by rfl) sc__law_shows.nd rfl rfl (by rfl) (pi_list (pv 1)) (blkOk_by (own := [("_law_now", 4)]) (N := ["_law_pool", "_law_lines", "_law_sums", "_law_idle", "_law_now", "_law_lent"]) (sc := defScope (topS 47)) (by decide +kernel)) (fun _ _ _ _ _ => (pg_name (i := 4) sc__law_shows.nd rfl (Or.inl rfl))) (fun _ _ _ _ _ => (pts_one (PW.pt (pw_and (pt_cmpR op_ne (pe_dget hu (pv 4) pe_str (fun _ _ => rfl)) pe_str (nomark _)) (pw_and1 (pt_not (pt_val (pe_dget hu (pv 4) pe_str (fun _ _ => rfl))))))))) (fun _ _ _ _ _ => (pe_dget hu (pv 4) pe_str (fun _ _ => rfl))))
      (pss_cons (ps_setLc (i := 5) (own := [("_law_now", 4)]) (by rfl) sc__law_shows.nd rfl rfl (by rfl) (pi_list (pv 1)) (blkOk_by (own := [("_law_now", 4)]) (N := ["_law_pool", "_law_lines", "_law_sums", "_law_idle", "_law_now", "_law_lent"]) (sc := defScope (topS 47)) (by decide +kernel)) (fun _ _ _ _ _ => (pg_name (i := 4) sc__law_shows.nd rfl (Or.inl rfl))) (fun _ _ _ _ _ => (pts_one (pt_val (pe_dget hu (pv 4) pe_str (fun _ _ => rfl))))) (fun _ _ _ _ _ => (pe_dget hu (pv 4) pe_str (fun _ _ => rfl))))
      (pss_cons (ps_if (PW.pt (pw_or (pt_not (pt_val (pe_call G__law_same (hr.mono (by decide)) rfl m__law_same k__law_same b__law_same .nil pass0 (pa_cons (pe_meth0 (pv 0) T.clP M_Pool_idle G_Pool_idle (hr.mono (by decide)) b_Pool_idle .nil pass0) (pa_cons (pv 3) pa_nil))))) (pw_or (pt_not (pt_val (pe_call G__law_same (hr.mono (by decide)) rfl m__law_same k__law_same b__law_same .nil pass0 (pa_cons (pe_meth0 (pv 0) T.clP M_Pool_lent G_Pool_lent (hr.mono (by decide)) b_Pool_lent .nil pass0) (pa_cons (pv 5) pa_nil))))) (pw_or1 (pt_not (pt_val (pe_call G__law_same (hr.mono (by decide)) rfl m__law_same k__law_same b__law_same .nil pass0 (pa_cons (pe_callB (OW.call_lenO mf_Pool_len mi_Pool_len R_Pool_len (hr.mono (by decide)) pass0) (by rfl) T.len PySem.boot_len (pa_cons (pv 0) pa_nil)) (pa_cons (pe_callB call_len_seq (by rfl) T.len PySem.boot_len (pa_cons (pv 1) pa_nil)) pa_nil)))))))))
      (pss_one (ps_ret pe_bl))
      pss_nil)
      (pss_one (ps_ret (pe_and (pe_call G__law_same (hr.mono (by decide)) rfl m__law_same k__law_same b__law_same .nil pass0 (pa_cons (pe_fld (pv 0) rfl) (pa_cons (pe_ix ix_list (pv 2) pe_int (fun _ _ => rfl)) pa_nil))) (pe_one (pe_call G__law_same (hr.mono (by decide)) rfl m__law_same k__law_same b__law_same .nil pass0 (pa_cons (pe_fld (pv 0) rfl) (pa_cons (pe_ix ix_list (pv 2) pe_int (fun _ _ => rfl)) pa_nil)))))))))), ?_⟩
  obtain ⟨g, B, S, rfl, G, hz, hz2, k⟩ := h
  refine ⟨_, rfl, B.LL, rfl, ⟨_, SqL.of G.LL.h⟩, fun D hD => ?_⟩
  refine lc_it (walk_list (xs := nws S.rs)) (fun i H' => Same H H' ∧ H' D = some (.lst (nums (sel fIdle (S.rs.take i))))) ⟨Same.new hD, upd_same⟩ (fun i H1 _ h1 => SqL.of (h1.1 _ _ G.LL.h)) ?_ ?_
  · rintro i x H1 H2 hi ⟨sm, hat⟩ ⟨rfl, hx⟩
    rw [List.getElem?_map] at hx
    obtain ⟨r, hr1, rfl⟩ := Option.map_eq_some_iff.mp hx
    have N := ((G.ln i r hr1).now).same sm
    have hin : i < S.rs.length := by simpa using hi
    have hlt : (nums (sel fIdle (S.rs.take i))).length < sizeLine := by
      rw [List.length_map, sizeLine_eq]
      have := sel_lt (f := fIdle) hin
      omega
    refine ⟨rfl, _, rfl, r.nw, _, rfl, g_mark N, rfl, _, rfl, ?_⟩
    rw [mark_closed, sel_take hr1]
    cases hc : decide (r.l.mark = .closed)
    · refine iteT' rfl ⟨_, rfl, r.nw, _, rfl, g_lent N, _, rfl, ?_⟩
      have e : fIdle r.l = !r.l.lent := by
        show (decide (r.l.mark ≠ .closed) && !r.l.lent) = _
        have := of_decide_eq_false hc
        simp [this]
      rw [e]
      cases hd : r.l.lent
      · rw [if_pos (by rfl)]
        refine iteT' rfl ⟨_, rfl, r.nw, _, rfl, g_number N, _, hat, hlt, same_put sm hD, ?_⟩
        rw [upd_same, nums_snoc]
      · rw [if_neg (by decide)]
        exact iteF' rfl ⟨sm, hat⟩
    · refine iteF' rfl ?_
      have e : fIdle r.l = false := by
        show (decide (r.l.mark ≠ .closed) && !r.l.lent) = false
        have := of_decide_eq_true hc
        simp [this]
      rw [if_neg (by rw [e]; decide)]
      exact ⟨sm, hat⟩
  rintro H1 ⟨sm, hat⟩
  rw [List.length_map, List.take_length] at hat
  have G1 := G.same sm
  refine ⟨_, rfl, B.LL, rfl, ⟨_, SqL.of G1.LL.h⟩, fun E hE => ?_⟩
  refine lc_it (walk_list (xs := nws S.rs)) (fun i H' => Same H1 H' ∧ H' E = some (.lst (nums (sel fLent (S.rs.take i))))) ⟨Same.new hE, upd_same⟩ (fun i H2 _ h1 => SqL.of (h1.1 _ _ G1.LL.h)) ?_ ?_
  · rintro i x H2 H3 hi ⟨sm2, hat2⟩ ⟨rfl, hx⟩
    rw [List.getElem?_map] at hx
    obtain ⟨r, hr1, rfl⟩ := Option.map_eq_some_iff.mp hx
    have N := ((G1.ln i r hr1).now).same sm2
    have hin : i < S.rs.length := by simpa using hi
    have hlt : (nums (sel fLent (S.rs.take i))).length < sizeLine := by
      rw [List.length_map, sizeLine_eq]
      have := sel_lt (f := fLent) hin
      omega
    refine ⟨rfl, _, rfl, r.nw, _, rfl, g_lent N, _, rfl, ?_⟩
    rw [sel_take hr1]
    show if r.l.lent = true then _ else _
    cases hd : r.l.lent
    · rw [if_neg (by decide), if_neg (by show ¬ r.l.lent = true; rw [hd]; decide)]
      exact ⟨sm2, hat2⟩
    · rw [if_pos rfl, if_pos hd]
      refine ⟨_, rfl, r.nw, _, rfl, g_number N, _, hat2, hlt, same_put sm2 hE, ?_⟩
      rw [upd_same, nums_snoc]
  rintro H2 ⟨sm2, hat2⟩
  rw [List.length_map, List.take_length] at hat2
  have G2 := G1.same sm2
  refine ⟨_, rfl, B.p, _, _, rfl, G2.P.h, rfl, B.p, B.dp, B.d, B.L, S.t, B.c, _, S.rs, rfl, G2.P.h, G2.L.h, G2.lns, by omega, fun H3 b s3 _ hb3 => ?_⟩
  have hl1 := sel_len fIdle 0 S.rs
  have hl2 := sel_len fLent 0 S.rs
  refine ⟨_, rfl, _, _, rfl, eqv_nums (Or.inl ⟨hb3, s3 _ _ (sm2 _ _ hat)⟩) (by show (selFrom fIdle 0 S.rs).length ≤ _; omega), fun H4 s4 => ⟨_, rfl, iteF' rfl ?_⟩⟩
  have s24 := s3.trans s4
  have G4 := G2.same s24
  refine ⟨_, rfl, B.p, _, _, rfl, G4.P.h, rfl, B.p, B.dp, B.d, B.L, S.t, B.c, _, S.rs, rfl, G4.P.h, G4.L.h, G4.lns, by omega, fun H5 b2 s5 _ hb5 => ?_⟩
  refine ⟨_, rfl, _, _, rfl, eqv_nums (Or.inl ⟨hb5, s5 _ _ (s24 _ _ hat2)⟩) (by show (selFrom fLent 0 S.rs).length ≤ _; omega), fun H6 s6 => ⟨_, rfl, iteF' rfl ?_⟩⟩
  have G6 := G4.same (s5.trans s6)
  refine ⟨_, rfl, B.p, _, _, rfl, G6.P.h, B.p, B.dp, B.d, B.L, S.t, B.c, _, refs S.rs, rfl, G6.P.h, G6.L.h, _, rfl, ⟨by omega, by rw [List.length_map]; omega⟩, ?_⟩
  refine ⟨_, rfl, B.LL, _, rfl, .inl (SqL.of G6.LL.h), _, _, rfl, eqv_sc (by rw [List.length_map, List.length_map]) rfl, fun H7 s7 => ⟨_, rfl, iteF' rfl ?_⟩⟩
  have G7 := G6.same s7
  refine ⟨_, rfl, B.p, _, _, _, _, rfl, G7.P.h, T.clP, T.n_thrown, rfl, _, rfl, B.SU, _, _, _, rfl, rfl, SqL.of G7.SU.h, atI_nat (j := 0) rfl, _, _, rfl, eqv_sc rfl rfl, fun H8 s8 => ⟨_, rfl, iteT' rfl ?_⟩⟩
  have G8 := G7.same s8
  refine ⟨_, rfl, B.p, _, _, _, _, rfl, G8.P.h, T.clP, T.n_lost, rfl, _, rfl, B.SU, _, _, _, rfl, rfl, SqL.of G8.SU.h, atI_nat (j := 1) rfl, _, _, rfl, eqv_nums (Or.inr ⟨G8.T.h, G8.TS.h⟩) (by omega), fun H9 s9 => ?_⟩
  exact k _ ((((((sm.trans sm2).trans s24).trans (s5.trans s6)).trans s7).trans s8).trans s9)
end
end OA

set_option maxHeartbeats 4000000
/-! What a turn does to what stands between two turns. -/
namespace OA
open PySem PySem.Spec PyProof.Rows L2 OW
def TagOk (start s : Str) : Prop := ∃ x : Str, s = start ++ x ∧ x.length ≤ 10
structure PureOk (kept : Bool) (n : Nat) (S : Sv) : Prop where
  rsn : S.rs.length ≤ n
  losn : S.los.length ≤ n
  lostn : S.lost.length ≤ n
  ln : ∀ (i : Nat) (r : Rec), S.rs[i]? = some r → r.l.q.length ≤ 2 * n ∧ (isIn r.l.mark = true → r.l.q ≠ []) ∧ (isOut r.l.mark = true → r.l.bgn = .str r.l.snd)
  cn : ∀ (j : Nat) (x : Lo), S.los[j]? = some x → x.cnt ≤ 2 * n ∧ x.start.length ≤ 100
  cl : kept = false → ∀ (i : Nat) (r : Rec), S.rs[i]? = some r → r.l.lent = false → r.l.mark ≠ .closed → clean r.l = true
  tg : kept = false → ∀ (j : Nat) (x : Lo) (r : Rec), S.los[j]? = some x → S.rs[x.i]? = some r → (∀ s ∈ r.l.q, TagOk x.start s) ∧ (isOut r.l.mark = true → TagOk x.start r.l.snd)
/-- nothing that stood is changed but where p says -/
def FrP (p : Addr → Prop) (H H' : Hp) : Prop := ∀ x o, ¬ p x → H x = some o → H' x = some o
theorem FrP.refl {p : Addr → Prop} {H : Hp} : FrP p H H := fun _ _ _ h => h
theorem FrP.same {p : Addr → Prop} {H H1 H2 : Hp} (f : FrP p H H1) (s : Same H1 H2) : FrP p H H2 := fun x o h1 h2 => s _ _ (f x o h1 h2)
theorem FrP.upd {p : Addr → Prop} {H H1 : Hp} {y : Addr} {o : HO} (f : FrP p H H1) (h : p y) : FrP p H (upd H1 y o) := fun x u h1 h2 => by
  rw [upd_ne (fun e => h1 (by rw [e]; exact h))]
  exact f x u h1 h2
theorem FrP.new {p : Addr → Prop} {H H1 : Hp} {y : Addr} {o : HO} (f : FrP p H H1) (h : H1 y = none) : FrP p H (L2.upd H1 y o) := f.same (Same.new h)
theorem FrP.fr2 {p : Addr → Prop} {H H1 H2 : Hp} {a b : Addr} (f : FrP p H H1) (F : Fr2 H1 H2 a b) (ha : p a) (hb : p b) : FrP p H H2 := fun x u h1 h2 => F x u (fun e => h1 (by rw [e]; exact ha)) (fun e => h1 (by rw [e]; exact hb)) (f x u h1 h2)
theorem FrP.back {p : Addr → Prop} {H H1 : Hp} {y : Addr} (f : FrP p H H1) (hp : ∀ x, p x → ∃ o, H1 x = some o) (h : H1 y = none) : H y = none := by
  cases e : H y with
  | none => rfl
  | some u =>
    by_cases q : p y
    · obtain ⟨o, ho⟩ := hp y q
      rw [ho] at h
      cases h
    · rw [f y u q e] at h
      cases h
def gset (g : Gh) (x : Addr) (r : Ro) : Gh := fun y => if y = x then some r else g y
theorem gset_same {g : Gh} {x : Addr} {r : Ro} : gset g x r x = some r := if_pos rfl
theorem gset_ne {g : Gh} {x y : Addr} {r : Ro} (h : y ≠ x) : gset g x r y = g y := if_neg h
theorem gset_old {g : Gh} {x y : Addr} {r s : Ro} (h : g x = none) (e : g y = some s) : gset g x r y = some s := by
  rw [gset_ne (fun z => by rw [z, h] at e; cases e)]
  exact e
theorem GI.free {K : PySem.W.Frag} {g : Gh} {H : Hp} {B : Sta} {S : Sv} (G : GI K g H B S) {x : Addr} (h : H x = none) : g x = none := by
  cases e : g x with
  | none => rfl
  | some r =>
    obtain ⟨o, q⟩ := G.gn x r e
    rw [h] at q
    cases q

theorem gset_inv {g : Gh} {x y : Addr} {r s : Ro} (e : gset g x r y = some s) : g y = some s ∨ y = x := by
  by_cases h : y = x
  · exact Or.inr h
  · rw [gset_ne h] at e
    exact Or.inl e
/-- the queues of line i are replaced -/
def gsw (g : Gh) (i : Nat) (qa kq : Addr) : Gh := fun y => if y = qa then some (.qu i) else if y = kq then some (.kq i) else if g y = some (.qu i) ∨ g y = some (.kq i) then none else g y
structure Sw (g g' : Gh) (i : Nat) (qa kq : Addr) : Prop where
  old : ∀ y s, g y = some s → s ≠ .qu i → s ≠ .kq i → g' y = some s
  inv : ∀ y s, g' y = some s → y = qa ∨ y = kq ∨ (g y = some s ∧ s ≠ .qu i ∧ s ≠ .kq i)
  q : g' qa = some (.qu i)
  k : g' kq = some (.kq i)
theorem gsw_ok {g : Gh} {i : Nat} {qa kq : Addr} (d : qa ≠ kq) (h1 : g qa = some (.qu i) ∨ g qa = none) (h2 : g kq = some (.kq i) ∨ g kq = none) : Sw g (gsw g i qa kq) i qa kq := by
  refine ⟨fun y s e n1 n2 => ?_, fun y s e => ?_, if_pos rfl, ?_⟩
  · have y1 : y ≠ qa := fun z => by
      rw [← z, e] at h1
      rcases h1 with h | h
      · exact n1 (Option.some.inj h)
      · cases h
    have y2 : y ≠ kq := fun z => by
      rw [← z, e] at h2
      rcases h2 with h | h
      · exact n2 (Option.some.inj h)
      · cases h
    unfold gsw
    rw [if_neg y1, if_neg y2, if_neg, e]
    rw [e]
    rintro (h | h)
    · exact n1 (Option.some.inj h)
    · exact n2 (Option.some.inj h)
  · unfold gsw at e
    by_cases y1 : y = qa
    · exact Or.inl y1
    · rw [if_neg y1] at e
      by_cases y2 : y = kq
      · exact Or.inr (Or.inl y2)
      · rw [if_neg y2] at e
        by_cases y3 : g y = some (.qu i) ∨ g y = some (.kq i)
        · rw [if_pos y3] at e
          cases e
        · rw [if_neg y3] at e
          exact Or.inr (Or.inr ⟨e, fun z => y3 (Or.inl (by rw [e, z])), fun z => y3 (Or.inr (by rw [e, z]))⟩)
  · unfold gsw
    rw [if_neg d.symm, if_pos rfl]
theorem keep_of {g g' : Gh} {H H' : Hp} {p : Addr → Prop} {R0 : Ro → Prop} (f : FrP p H H') (h1 : ∀ x r, g x = some r → p x → R0 r) (h2 : ∀ x r, g x = some r → g' x = some r) : Keep g H g' H' R0 :=
  fun x r o e n h => ⟨h2 x r e, f x o (fun q => n (h1 x r e q)) h⟩
theorem gn_of {g g' : Gh} {H H' : Hp} {p : Addr → Prop} (gn : ∀ x r, g x = some r → ∃ o, H x = some o) (f : FrP p H H') (hp : ∀ x, p x → ∃ o, H' x = some o) (hg : ∀ x r, g' x = some r → g x = some r ∨ ∃ o, H' x = some o) : ∀ x r, g' x = some r → ∃ o, H' x = some o := fun x r e => by
  rcases hg x r e with h | h
  · by_cases q : p x
    · exact hp x q
    · obtain ⟨o, ho⟩ := gn x r h
      exact ⟨o, f x o q ho⟩
  · exact h
theorem get_set_eq {α : Type} {xs : List α} {i : Nat} {x y : α} (h : xs[i]? = some x) : (xs.set i y)[i]? = some y := by
  have hi := (List.getElem?_eq_some_iff.mp h).1
  simp [hi]
theorem get_set_ne {α : Type} {xs : List α} {i j : Nat} {y : α} (h : i ≠ j) : (xs.set i y)[j]? = xs[j]? := by
  simp [List.getElem?_set, h]
theorem set_same {α : Type} {xs : List α} {i : Nat} {x : α} (h : xs[i]? = some x) : xs.set i x = xs := by
  obtain ⟨h1, h2⟩ := List.getElem?_eq_some_iff.mp h
  rw [← h2]
  exact List.set_getElem_self h1
theorem get_app {α : Type} {xs : List α} {y z : α} {j : Nat} (h : (xs ++ [y])[j]? = some z) : xs[j]? = some z ∨ (j = xs.length ∧ z = y) := by
  by_cases hj : j < xs.length
  · rw [List.getElem?_append_left hj] at h
    exact Or.inl h
  · rw [List.getElem?_append_right (by omega)] at h
    have hl := (List.getElem?_eq_some_iff.mp h).1
    have : j = xs.length := by
      simp at hl
      omega
    subst this
    rw [Nat.sub_self] at h
    exact Or.inr ⟨rfl, (Option.some.inj h).symm⟩
theorem get_lt {α : Type} {xs : List α} {y z : α} {j : Nat} (h : xs[j]? = some z) : (xs ++ [y])[j]? = some z := by
  rw [List.getElem?_append_left (List.getElem?_eq_some_iff.mp h).1]
  exact h
section
variable {K : PySem.W.Frag} {g : Gh} {H H' : Hp} {B : Sta} {S : Sv}
/-- a new line is lent -/
theorem GI.lendNew (G : GI K g H B S) {a dx qa nw kq lo : Addr} {start : Str} (fr : FrP (fun x => x = B.LL ∨ x = B.L ∨ x = B.LO) H H')
    (ha : H a = none) (hqa : H qa = none) (hnw : H nw = none) (hkq : H kq = none) (hlo : H lo = none)
    (L : LineAt K H' a dx S.rs.length ⟨.whole, [], "", .non, .non, true⟩ qa) (N : NowAt H' nw S.rs.length ⟨.whole, [], "", .non, .non, true⟩ kq) (dqk : qa ≠ kq) (dlq : lo ≠ qa) (dlk : lo ≠ kq)
    (hL : H' B.L = some (.lst (refs S.rs ++ [.ref a]))) (hLL : H' B.LL = some (.lst (nws S.rs ++ [.ref nw]))) (hLO : H' B.LO = some (.lst (loas S.los ++ [.ref lo]))) (hl : H' lo = some (.lst [.ref a, .ref nw, .str start, .int (0 : Nat)])) :
    ∃ g', GI K g' H' B { S with rs := S.rs ++ [⟨a, dx, qa, nw, kq, ⟨.whole, [], "", .non, .non, true⟩⟩], los := S.los ++ [⟨lo, S.rs.length, start, 0⟩] } := by
  have d1 : a ≠ nw := ne_of L.obj N.obj (fun z => nomatch z)
  have d2 : a ≠ kq := ne_of L.obj N.que (fun z => nomatch z)
  have d3 : a ≠ lo := ne_of L.obj hl (fun z => nomatch z)
  have d4 : nw ≠ qa := ne_of N.obj L.que (fun z => nomatch z)
  have d5 : nw ≠ lo := ne_of N.obj hl (fun z => nomatch z)
  have d6 := L.ne
  have d7 := N.ne
  have fa := G.free ha
  have fq := G.free hqa
  have fn := G.free hnw
  have fk := G.free hkq
  have fl := G.free hlo
  generalize hN : S.rs.length = N0 at L N ⊢
  refine ⟨gset (gset (gset (gset (gset g a (.ln N0)) qa (.qu N0)) nw (.nw N0)) kq (.kq N0)) lo (.lo N0), ?_⟩
  have ga : gset (gset (gset (gset (gset g a (.ln N0)) qa (.qu N0)) nw (.nw N0)) kq (.kq N0)) lo (.lo N0) a = some (.ln N0) := by simp [gset, d1, d2, d3, d6]
  have gq : gset (gset (gset (gset (gset g a (.ln N0)) qa (.qu N0)) nw (.nw N0)) kq (.kq N0)) lo (.lo N0) qa = some (.qu N0) := by simp [gset, d4.symm, dqk, dlq.symm]
  have gw : gset (gset (gset (gset (gset g a (.ln N0)) qa (.qu N0)) nw (.nw N0)) kq (.kq N0)) lo (.lo N0) nw = some (.nw N0) := by simp [gset, d7, d5]
  have gk : gset (gset (gset (gset (gset g a (.ln N0)) qa (.qu N0)) nw (.nw N0)) kq (.kq N0)) lo (.lo N0) kq = some (.kq N0) := by simp [gset, dlk.symm]
  have gl : gset (gset (gset (gset (gset g a (.ln N0)) qa (.qu N0)) nw (.nw N0)) kq (.kq N0)) lo (.lo N0) lo = some (.lo N0) := gset_same
  have old : ∀ x r, g x = some r → gset (gset (gset (gset (gset g a (.ln N0)) qa (.qu N0)) nw (.nw N0)) kq (.kq N0)) lo (.lo N0) x = some r := fun x r e => by
    have n1 : x ≠ a := fun z => by rw [z, fa] at e; cases e
    have n2 : x ≠ qa := fun z => by rw [z, fq] at e; cases e
    have n3 : x ≠ nw := fun z => by rw [z, fn] at e; cases e
    have n4 : x ≠ kq := fun z => by rw [z, fk] at e; cases e
    have n5 : x ≠ lo := fun z => by rw [z, fl] at e; cases e
    rw [gset_ne n5, gset_ne n4, gset_ne n3, gset_ne n2, gset_ne n1]
    exact e
  have inv : ∀ x r, gset (gset (gset (gset (gset g a (.ln N0)) qa (.qu N0)) nw (.nw N0)) kq (.kq N0)) lo (.lo N0) x = some r → g x = some r ∨ ∃ o, H' x = some o := fun x r e => by
    rcases gset_inv e with e | rfl
    · rcases gset_inv e with e | rfl
      · rcases gset_inv e with e | rfl
        · rcases gset_inv e with e | rfl
          · rcases gset_inv e with e | rfl
            · exact Or.inl e
            · exact Or.inr ⟨_, L.obj⟩
          · exact Or.inr ⟨_, L.que⟩
        · exact Or.inr ⟨_, N.obj⟩
      · exact Or.inr ⟨_, N.que⟩
    · exact Or.inr ⟨_, hl⟩
  generalize gset (gset (gset (gset (gset g a (.ln N0)) qa (.qu N0)) nw (.nw N0)) kq (.kq N0)) lo (.lo N0) = g' at ga gq gw gk gl old inv ⊢
  have kk : Keep g H g' H' (fun r => r = .LL ∨ r = .L ∨ r = .LO) := keep_of fr (fun x r e q => by
    rcases q with rfl | rfl | rfl
    · exact Or.inl (Option.some.inj (e.symm.trans G.LL.g))
    · exact Or.inr (Or.inl (Option.some.inj (e.symm.trans G.L.g)))
    · exact Or.inr (Or.inr (Option.some.inj (e.symm.trans G.LO.g)))) old
  have gn := gn_of G.gn fr (fun x q => by
    rcases q with rfl | rfl | rfl
    · exact ⟨_, hLL⟩
    · exact ⟨_, hL⟩
    · exact ⟨_, hLO⟩) inv
  have sr := kk
  have eR : refs (S.rs ++ [⟨a, dx, qa, nw, kq, ⟨.whole, [], "", .non, .non, true⟩⟩]) = refs S.rs ++ [.ref a] := List.map_append
  have eN : nws (S.rs ++ [⟨a, dx, qa, nw, kq, ⟨.whole, [], "", .non, .non, true⟩⟩]) = nws S.rs ++ [.ref nw] := List.map_append
  have eO : loas (S.los ++ [⟨lo, N0, start, 0⟩]) = loas S.los ++ [.ref lo] := List.map_append
  refine ⟨gn, kk.own G.P (by simp), kk.own G.D (by simp), kk.own G.O (by simp), ⟨old _ _ G.L.g, by rw [eR]; exact hL⟩, ⟨old _ _ G.LL.g, by rw [eN]; exact hLL⟩, ⟨old _ _ G.LO.g, by rw [eO]; exact hLO⟩, kk.own G.SU (by simp), kk.own G.T (by simp), kk.own G.TS (by simp), old _ _ G.SRg, G.SR.keep (fun o h => (kk _ _ _ G.SRg (by simp) h).2), kk.own G.WL (by simp), kk.own G.WD (by simp), fun i r e => ?_, fun j x e => ?_, fun j j' x x' e e' ei => ?_, fun q hq => kk.own (G.xt q hq) (by simp)⟩
  · rcases get_app e with e | ⟨rfl, rfl⟩
    · exact kk.rec (G.ln i r e) (by simp) (by simp) (by simp) (by simp) (by simp)
    · rw [hN]
      exact ⟨⟨ga, L.obj⟩, ⟨gq, L.que⟩, ⟨gw, N.obj⟩, ⟨gk, N.que⟩, Or.inl rfl⟩
  · rcases get_app e with e | ⟨rfl, rfl⟩
    · obtain ⟨r, e1, e2, e3⟩ := G.lo j x e
      exact ⟨r, get_lt e1, e2, kk.own e3 (by simp)⟩
    · refine ⟨⟨a, dx, qa, nw, kq, ⟨.whole, [], "", .non, .non, true⟩⟩, ?_, rfl, gl, hl⟩
      show (S.rs ++ [_])[N0]? = _
      rw [← hN, List.getElem?_append_right (Nat.le_refl _), Nat.sub_self]
      rfl
  · have lt : ∀ {j : Nat} {x : Lo}, S.los[j]? = some x → x.i < N0 := fun e => by
      obtain ⟨r, e1, _⟩ := G.lo _ _ e
      have := (List.getElem?_eq_some_iff.mp e1).1
      omega
    rcases get_app e with e | ⟨rfl, rfl⟩ <;> rcases get_app e' with e' | ⟨rfl, rfl⟩
    · exact G.dj j j' x x' e e' ei
    · have := lt e
      have ei' : x.i = N0 := ei
      omega
    · have := lt e'
      have ei' : N0 = x'.i := ei
      omega
    · rfl
/-- an idle line is lent -/
theorem GI.lendOld (G : GI K g H B S) {i : Nat} {r : Rec} {lo : Addr} {start : Str} (hr : S.rs[i]? = some r) (hlent : r.l.lent = false) (fr : FrP (fun x => x = r.nw ∨ x = r.a ∨ x = B.LO) H H') (hlo : H lo = none)
    (L : LineAt K H' r.a r.dx i { r.l with lent := true } r.qa) (N : NowAt H' r.nw i { r.l with lent := true } r.kq)
    (hLO : H' B.LO = some (.lst (loas S.los ++ [.ref lo]))) (hl : H' lo = some (.lst [.ref r.a, .ref r.nw, .str start, .int (0 : Nat)])) :
    ∃ g', GI K g' H' B { S with rs := S.rs.set i { r with l := { r.l with lent := true } }, los := S.los ++ [⟨lo, i, start, 0⟩] } := by
  have R := G.ln i r hr
  have fl := G.free hlo
  refine ⟨gset g lo (.lo i), ?_⟩
  have old : ∀ x r, g x = some r → gset g lo (.lo i) x = some r := fun x r e => gset_old fl e
  have gl : gset g lo (.lo i) lo = some (.lo i) := gset_same
  have inv : ∀ x r, gset g lo (.lo i) x = some r → g x = some r ∨ ∃ o, H' x = some o := fun x r e => by
    rcases gset_inv e with e | rfl
    · exact Or.inl e
    · exact Or.inr ⟨_, hl⟩
  generalize gset g lo (.lo i) = g' at old gl inv ⊢
  have kk : Keep g H g' H' (fun r => r = .nw i ∨ r = .ln i ∨ r = .LO) := keep_of fr (fun x r e q => by
    rcases q with rfl | rfl | rfl
    · exact Or.inl (Option.some.inj (e.symm.trans R.nw.g))
    · exact Or.inr (Or.inl (Option.some.inj (e.symm.trans R.a.g)))
    · exact Or.inr (Or.inr (Option.some.inj (e.symm.trans G.LO.g)))) old
  have gn := gn_of G.gn fr (fun x q => by
    rcases q with rfl | rfl | rfl
    · exact ⟨_, N.obj⟩
    · exact ⟨_, L.obj⟩
    · exact ⟨_, hLO⟩) inv
  have il : i < S.rs.length := (List.getElem?_eq_some_iff.mp hr).1
  have eR : refs (S.rs.set i { r with l := { r.l with lent := true } }) = refs S.rs := by
    show (S.rs.set i _).map _ = _
    rw [List.map_set]
    exact set_same (by rw [List.getElem?_map, hr]; rfl)
  have eN : nws (S.rs.set i { r with l := { r.l with lent := true } }) = nws S.rs := by
    show (S.rs.set i _).map _ = _
    rw [List.map_set]
    exact set_same (by rw [List.getElem?_map, hr]; rfl)
  have eO : loas (S.los ++ [⟨lo, i, start, 0⟩]) = loas S.los ++ [.ref lo] := List.map_append
  have ne : ∀ {j : Nat} {x : Lo}, S.los[j]? = some x → x.i ≠ i := fun e z => by
    obtain ⟨r', e1, e2, _⟩ := G.lo _ _ e
    rw [z, hr] at e1
    cases e1
    rw [hlent] at e2
    cases e2
  refine ⟨gn, kk.own G.P (by simp), kk.own G.D (by simp), kk.own G.O (by simp), (by show Own g' H' B.L .L (.lst (refs (S.rs.set i _))); rw [eR]; exact kk.own G.L (by simp)), (by show Own g' H' B.LL .LL (.lst (nws (S.rs.set i _))); rw [eN]; exact kk.own G.LL (by simp)), ⟨old _ _ G.LO.g, by rw [eO]; exact hLO⟩, kk.own G.SU (by simp), kk.own G.T (by simp), kk.own G.TS (by simp), old _ _ G.SRg, G.SR.keep (fun o h => (kk _ _ _ G.SRg (by simp) h).2), kk.own G.WL (by simp), kk.own G.WD (by simp), fun j r' e => ?_, fun j x e => ?_, fun j j' x x' e e' ei => ?_, fun q hq => kk.own (G.xt q hq) (by simp)⟩
  · by_cases hj : i = j
    · subst hj
      rw [get_set_eq hr] at e
      cases e
      exact ⟨⟨old _ _ R.a.g, L.obj⟩, kk.own R.qa (by simp), ⟨old _ _ R.nw.g, N.obj⟩, kk.own R.kq (by simp), kk.cause R.cause (by simp)⟩
    · rw [get_set_ne hj] at e
      have hj' : ¬ j = i := fun z => hj z.symm
      exact kk.rec (G.ln j r' e) (by simp [hj']) (by simp) (by simp [hj']) (by simp) (by simp)
  · rcases get_app e with e | ⟨rfl, rfl⟩
    · obtain ⟨r', e1, e2, e3⟩ := G.lo j x e
      exact ⟨r', by rw [get_set_ne (fun z => ne e z.symm)]; exact e1, e2, kk.own e3 (by simp)⟩
    · exact ⟨_, get_set_eq hr, rfl, gl, hl⟩
  · rcases get_app e with e | ⟨rfl, rfl⟩ <;> rcases get_app e' with e' | ⟨rfl, rfl⟩
    · exact G.dj j j' x x' e e' ei
    · exact absurd ei (ne e)
    · exact absurd ei.symm (ne e')
    · rfl
/-- a turn on a loan -/
theorem GI.act (G : GI K g H B S) {i j cnt c : Nat} {r : Rec} {x : Lo} {qa kq : Addr} {l : Ln} (hj : S.los[j]? = some x) (hr : S.rs[x.i]? = some r) (hi : x.i = i)
    (fr : FrP (fun y => y = B.SR ∨ y = x.a ∨ y = r.nw ∨ y = r.a ∨ y = r.qa) H H') (hqa : qa = r.qa ∨ H qa = none) (hkq : kq = r.kq ∨ H kq = none) (dqk : qa ≠ kq)
    (L : LineAt K H' r.a r.dx i l qa) (N : NowAt H' r.nw i l kq) (hlent : l.lent = true) (hc : sca l.cause = true ∨ l.cause = r.l.cause)
    (hl : H' x.a = some (.lst [.ref r.a, .ref r.nw, .str x.start, .int (cnt : Nat)])) (hs : SrcAt H' B.SR c) :
    ∃ g', GI K g' H' B { S with rs := S.rs.set i { r with qa := qa, kq := kq, l := l }, los := S.los.set j { x with cnt := cnt }, sc := c } := by
  subst hi
  have R := G.ln x.i r hr
  obtain ⟨r0, er0, hl0, X⟩ := G.lo j x hj
  rw [hr] at er0
  cases er0
  have hlo' : H' x.a = some (.lst (loanL r { x with cnt := cnt })) := hl
  have S1 : Sw g (gsw g x.i qa kq) x.i qa kq := gsw_ok dqk (hqa.imp (fun h => by rw [h]; exact R.qa.g) (fun h => G.free h)) (hkq.imp (fun h => by rw [h]; exact R.kq.g) (fun h => G.free h))
  refine ⟨gsw g x.i qa kq, ?_⟩
  generalize gsw g x.i qa kq = g' at S1 ⊢
  have kk : Keep g H g' H' (fun s => s = .SR ∨ s = .lo x.i ∨ s = .nw x.i ∨ s = .ln x.i ∨ s = .qu x.i ∨ s = .kq x.i) := fun y s o e n h => ⟨S1.old y s e (fun z => n (by simp [z])) (fun z => n (by simp [z])), fr y o (fun q => by
    rcases q with rfl | rfl | rfl | rfl | rfl
    · exact n (Or.inl (Option.some.inj (e.symm.trans G.SRg)))
    · exact n (Or.inr (Or.inl (Option.some.inj (e.symm.trans X.g))))
    · exact n (Or.inr (Or.inr (Or.inl (Option.some.inj (e.symm.trans R.nw.g)))))
    · exact n (Or.inr (Or.inr (Or.inr (Or.inl (Option.some.inj (e.symm.trans R.a.g))))))
    · exact n (Or.inr (Or.inr (Or.inr (Or.inr (Or.inl (Option.some.inj (e.symm.trans R.qa.g)))))))) h⟩
  have gn : ∀ y s, g' y = some s → ∃ o, H' y = some o := fun y s e => by
    rcases S1.inv y s e with rfl | rfl | ⟨e, n1, n2⟩
    · exact ⟨_, L.que⟩
    · exact ⟨_, N.que⟩
    · by_cases hp : y = B.SR ∨ y = x.a ∨ y = r.nw ∨ y = r.a ∨ y = r.qa
      · rcases hp with rfl | rfl | rfl | rfl | rfl
        · obtain ⟨_, _, _, q, _⟩ := hs.at_
          exact ⟨_, q⟩
        · exact ⟨_, hl⟩
        · exact ⟨_, N.obj⟩
        · exact ⟨_, L.obj⟩
        · exact absurd (Option.some.inj (e.symm.trans R.qa.g)) n1
      · obtain ⟨o, ho⟩ := G.gn y s e
        exact ⟨o, fr y o hp ho⟩
  have go : ∀ {y : Addr} {s : Ro}, g y = some s → s ≠ .qu x.i → s ≠ .kq x.i → g' y = some s := fun e n1 n2 => S1.old _ _ e n1 n2
  have eR : refs (S.rs.set x.i { r with qa := qa, kq := kq, l := l }) = refs S.rs := by
    show (S.rs.set x.i _).map _ = _
    rw [List.map_set]
    exact set_same (by rw [List.getElem?_map, hr]; rfl)
  have eN : nws (S.rs.set x.i { r with qa := qa, kq := kq, l := l }) = nws S.rs := by
    show (S.rs.set x.i _).map _ = _
    rw [List.map_set]
    exact set_same (by rw [List.getElem?_map, hr]; rfl)
  have eO : loas (S.los.set j { x with cnt := cnt }) = loas S.los := by
    show (S.los.set j _).map _ = _
    rw [List.map_set]
    exact set_same (by rw [List.getElem?_map, hj]; rfl)
  have ne : ∀ {j' : Nat} {x' : Lo}, j' ≠ j → S.los[j']? = some x' → x'.i ≠ x.i := fun hn e z => hn (G.dj _ _ _ _ e hj z)
  have at_ : ∀ {j' : Nat} {x' : Lo}, (S.los.set j { x with cnt := cnt })[j']? = some x' → (j' = j ∧ x' = { x with cnt := cnt }) ∨ (j' ≠ j ∧ S.los[j']? = some x') := fun {j' x'} e => by
    by_cases h : j = j'
    · subst h
      rw [get_set_eq hj] at e
      exact Or.inl ⟨rfl, (Option.some.inj e).symm⟩
    · rw [get_set_ne h] at e
      exact Or.inr ⟨fun z => h z.symm, e⟩
  refine ⟨gn, kk.own G.P (by simp), kk.own G.D (by simp), kk.own G.O (by simp), (by show Own g' H' B.L .L (.lst (refs (S.rs.set x.i _))); rw [eR]; exact kk.own G.L (by simp)), (by show Own g' H' B.LL .LL (.lst (nws (S.rs.set x.i _))); rw [eN]; exact kk.own G.LL (by simp)), (by show Own g' H' B.LO .LO (.lst (loas (S.los.set j _))); rw [eO]; exact kk.own G.LO (by simp)), kk.own G.SU (by simp), kk.own G.T (by simp), kk.own G.TS (by simp), go G.SRg (by simp) (by simp), hs, kk.own G.WL (by simp), kk.own G.WD (by simp), fun i' r' e => ?_, fun j' x' e => ?_, fun j1 j2 x1 x2 e1 e2 ei => ?_, fun q hq => kk.own (G.xt q hq) (by simp)⟩
  · by_cases h : x.i = i'
    · subst h
      rw [get_set_eq hr] at e
      cases e
      exact ⟨⟨go R.a.g (by simp) (by simp), L.obj⟩, ⟨S1.q, L.que⟩, ⟨go R.nw.g (by simp) (by simp), N.obj⟩, ⟨S1.k, N.que⟩, hc.elim Or.inl (fun h => by show CauseOk g' H' l.cause; rw [h]; exact kk.cause R.cause (by simp))⟩
    · rw [get_set_ne h] at e
      have h' : ¬ i' = x.i := fun z => h z.symm
      exact kk.rec (G.ln i' r' e) (by simp [h']) (by simp [h']) (by simp [h']) (by simp [h']) (by simp)
  · rcases at_ e with ⟨rfl, rfl⟩ | ⟨hn, e⟩
    · exact ⟨_, get_set_eq hr, hlent, go X.g (by simp) (by simp), hl⟩
    · obtain ⟨r', e1, e2, e3⟩ := G.lo j' x' e
      have hx := ne hn e
      exact ⟨r', by rw [get_set_ne (fun z => hx z.symm)]; exact e1, e2, kk.own e3 (by simp [hx])⟩
  · rcases at_ e1 with ⟨rfl, rfl⟩ | ⟨hn1, f1⟩ <;> rcases at_ e2 with ⟨rfl, rfl⟩ | ⟨hn2, f2⟩
    · rfl
    · exact absurd ei.symm (ne hn2 f2)
    · exact absurd ei (ne hn1 f1)
    · exact G.dj _ _ _ _ f1 f2 ei
/-- a line is given back -/
theorem GI.give (G : GI K g H B S) {i c th : Nat} {r : Rec} {qa kq t ts wp : Addr} {l : Ln} {lost : List Nat} {y : Wy} (hr : S.rs[i]? = some r) (hout : ∀ (j : Nat) (x : Lo), S.los[j]? = some x → x.i ≠ i)
    (fr : FrP (fun z => z = B.SR ∨ z = r.nw ∨ z = r.a ∨ z = r.qa ∨ z = B.p ∨ z = B.SU) H H') (hqa : qa = r.qa ∨ H qa = none) (hkq : kq = r.kq ∨ H kq = none) (dqk : qa ≠ kq)
    (ht : t = S.t ∨ H t = none) (hts : ts = S.ts ∨ H ts = none) (hwp : H wp = none)
    (L : LineAt K H' r.a r.dx i l qa) (N : NowAt H' r.nw i l kq) (hc : l.cause = .ref wp ∨ l.cause = r.l.cause) (hW : H' wp = some (.tup (Wy.t y)))
    (hP : H' B.p = some (.ins (CP K) B.dp (pf B.d B.L t (th : Nat) B.c))) (hSU : H' B.SU = some (.lst [.int (th : Nat), .ref ts])) (hT : H' t = some (.tup (nums lost))) (hTS : H' ts = some (.tup (nums lost))) (hs : SrcAt H' B.SR c) :
    ∃ g', GI K g' H' B { S with rs := S.rs.set i { r with qa := qa, kq := kq, l := l }, lost := lost, th := th, sc := c, t := t, ts := ts } := by
  have R := G.ln i r hr
  have S1 : Sw g (gsw g i qa kq) i qa kq := gsw_ok dqk (hqa.imp (fun h => by rw [h]; exact R.qa.g) (fun h => G.free h)) (hkq.imp (fun h => by rw [h]; exact R.kq.g) (fun h => G.free h))
  generalize gsw g i qa kq = g1 at S1
  -- the tuples
  have m1 : ∀ {z : Addr} {v w : V} {xs : List V}, H' z = some (.tup xs) → z ≠ qa ∧ z ≠ kq := fun e => ⟨ne_of e L.que (fun z => nomatch z), ne_of e N.que (fun z => nomatch z)⟩
  have tq := (m1 (v := .non) (w := .non) hT)
  have tsq := (m1 (v := .non) (w := .non) hTS)
  have wq := (m1 (v := .non) (w := .non) hW)
  have c1 : ∀ {z : Addr} {s : Ro}, (z = S.t ∨ H z = none) → g z = some s → s = .st := fun {z s} h e => by
    rcases h with h | h
    · rw [h, G.T.g] at e
      exact (Option.some.inj e).symm
    · rw [G.free h] at e
      cases e
  have c2 : ∀ {z : Addr} {s : Ro}, (z = S.ts ∨ H z = none) → g z = some s → s = .st := fun {z s} h e => by
    rcases h with h | h
    · rw [h, G.TS.g] at e
      exact (Option.some.inj e).symm
    · rw [G.free h] at e
      cases e
  refine ⟨gset (gset (gset g1 t .st) ts .st) wp .st, ?_⟩
  have stO : ∀ z s, g z = some s → s ≠ .qu i → s ≠ .kq i → gset (gset (gset g1 t .st) ts .st) wp .st z = some s := fun z s e n1 n2 => by
    have nw : z ≠ wp := fun q => by
      rw [q, G.free hwp] at e
      cases e
    rw [gset_ne nw]
    by_cases h2 : z = ts
    · have e9 : g ts = some s := h2 ▸ e
      rw [h2, gset_same, c2 hts e9]
    · rw [gset_ne h2]
      by_cases h1 : z = t
      · have e9 : g t = some s := h1 ▸ e
        rw [h1, gset_same, c1 ht e9]
      · rw [gset_ne h1]
        exact S1.old z s e n1 n2
  have gq : gset (gset (gset g1 t .st) ts .st) wp .st qa = some (.qu i) := by
    rw [gset_ne wq.1.symm, gset_ne tsq.1.symm, gset_ne tq.1.symm]
    exact S1.q
  have gk : gset (gset (gset g1 t .st) ts .st) wp .st kq = some (.kq i) := by
    rw [gset_ne wq.2.symm, gset_ne tsq.2.symm, gset_ne tq.2.symm]
    exact S1.k
  have gw : gset (gset (gset g1 t .st) ts .st) wp .st wp = some .st := gset_same
  have gts : gset (gset (gset g1 t .st) ts .st) wp .st ts = some .st := by
    by_cases h : ts = wp
    · rw [h]
      exact gset_same
    · rw [gset_ne h, gset_same]
  have gt : gset (gset (gset g1 t .st) ts .st) wp .st t = some .st := by
    by_cases h : t = wp
    · rw [h]
      exact gset_same
    · rw [gset_ne h]
      by_cases h2 : t = ts
      · rw [h2, gset_same]
      · rw [gset_ne h2, gset_same]
  have inv : ∀ z s, gset (gset (gset g1 t .st) ts .st) wp .st z = some s → (∃ o, H' z = some o) ∨ (g z = some s ∧ s ≠ .qu i ∧ s ≠ .kq i) := fun z s e => by
    rcases gset_inv e with e | rfl
    · rcases gset_inv e with e | rfl
      · rcases gset_inv e with e | rfl
        · rcases S1.inv z s e with rfl | rfl | h
          · exact Or.inl ⟨_, L.que⟩
          · exact Or.inl ⟨_, N.que⟩
          · exact Or.inr h
        · exact Or.inl ⟨_, hT⟩
      · exact Or.inl ⟨_, hTS⟩
    · exact Or.inl ⟨_, hW⟩
  generalize gset (gset (gset g1 t .st) ts .st) wp .st = g' at stO gq gk gw gts gt inv ⊢
  have kk : Keep g H g' H' (fun s => s = .SR ∨ s = .nw i ∨ s = .ln i ∨ s = .qu i ∨ s = .kq i ∨ s = .P ∨ s = .SU) := fun z s o e n h => ⟨stO z s e (fun q => n (by simp [q])) (fun q => n (by simp [q])), fr z o (fun q => n (by
    rcases q with rfl | rfl | rfl | rfl | rfl | rfl
    · exact Or.inl (Option.some.inj (e.symm.trans G.SRg))
    · exact Or.inr (Or.inl (Option.some.inj (e.symm.trans R.nw.g)))
    · exact Or.inr (Or.inr (Or.inl (Option.some.inj (e.symm.trans R.a.g))))
    · exact Or.inr (Or.inr (Or.inr (Or.inl (Option.some.inj (e.symm.trans R.qa.g)))))
    · exact Or.inr (Or.inr (Or.inr (Or.inr (Or.inr (Or.inl (Option.some.inj (e.symm.trans G.P.g)))))))
    · exact Or.inr (Or.inr (Or.inr (Or.inr (Or.inr (Or.inr (Option.some.inj (e.symm.trans G.SU.g))))))))) h⟩
  have gn : ∀ z s, g' z = some s → ∃ o, H' z = some o := fun z s e => by
    rcases inv z s e with h | ⟨e, n1, n2⟩
    · exact h
    · by_cases hp : z = B.SR ∨ z = r.nw ∨ z = r.a ∨ z = r.qa ∨ z = B.p ∨ z = B.SU
      · rcases hp with rfl | rfl | rfl | rfl | rfl | rfl
        · obtain ⟨_, _, _, q, _⟩ := hs.at_
          exact ⟨_, q⟩
        · exact ⟨_, N.obj⟩
        · exact ⟨_, L.obj⟩
        · exact absurd (Option.some.inj (e.symm.trans R.qa.g)) n1
        · exact ⟨_, hP⟩
        · exact ⟨_, hSU⟩
      · obtain ⟨o, ho⟩ := G.gn z s e
        exact ⟨o, fr z o hp ho⟩
  have go : ∀ {z : Addr} {s : Ro}, g z = some s → s ≠ .qu i → s ≠ .kq i → g' z = some s := fun e n1 n2 => stO _ _ e n1 n2
  have eR : refs (S.rs.set i { r with qa := qa, kq := kq, l := l }) = refs S.rs := by
    show (S.rs.set i _).map _ = _
    rw [List.map_set]
    exact set_same (by rw [List.getElem?_map, hr]; rfl)
  have eN : nws (S.rs.set i { r with qa := qa, kq := kq, l := l }) = nws S.rs := by
    show (S.rs.set i _).map _ = _
    rw [List.map_set]
    exact set_same (by rw [List.getElem?_map, hr]; rfl)
  refine ⟨gn, ⟨go G.P.g (by simp) (by simp), hP⟩, kk.own G.D (by simp), kk.own G.O (by simp), (by show Own g' H' B.L .L (.lst (refs (S.rs.set i _))); rw [eR]; exact kk.own G.L (by simp)), (by show Own g' H' B.LL .LL (.lst (nws (S.rs.set i _))); rw [eN]; exact kk.own G.LL (by simp)), kk.own G.LO (by simp), ⟨go G.SU.g (by simp) (by simp), hSU⟩, ⟨gt, hT⟩, ⟨gts, hTS⟩, go G.SRg (by simp) (by simp), hs, kk.own G.WL (by simp), kk.own G.WD (by simp), fun i' r' e => ?_, fun j' x' e => ?_, G.dj, fun q hq => kk.own (G.xt q hq) (by simp)⟩
  · by_cases h : i = i'
    · subst h
      rw [get_set_eq hr] at e
      cases e
      refine ⟨⟨go R.a.g (by simp) (by simp), L.obj⟩, ⟨gq, L.que⟩, ⟨go R.nw.g (by simp) (by simp), N.obj⟩, ⟨gk, N.que⟩, ?_⟩
      show CauseOk g' H' l.cause
      rcases hc with h | h
      · exact Or.inr ⟨wp, y, h, ⟨gw, hW⟩⟩
      · rw [h]
        exact kk.cause R.cause (by simp)
    · rw [get_set_ne h] at e
      have h' : ¬ i' = i := fun z => h z.symm
      exact kk.rec (G.ln i' r' e) (by simp [h']) (by simp [h']) (by simp [h']) (by simp [h']) (by simp)
  · obtain ⟨r', e1, e2, e3⟩ := G.lo j' x' e
    have hx := hout j' x' e
    exact ⟨r', by rw [get_set_ne (fun z => hx z.symm)]; exact e1, e2, kk.own e3 (by simp)⟩
end
end OA

set_option maxHeartbeats 4000000
/-! The law lends a line. -/
namespace OA
open PySem PySem.Spec PyProof.Rows L2 OW
/-- the lines that f takes, and their numbers -/
theorem pick (f : Ln → Bool) : ∀ (k : Nat) (rs : List Rec), (rs.filter (fun r => f r.l) = [] ∧ selFrom f k rs = []) ∨ ∃ j r rest is, rs.filter (fun r => f r.l) = r :: rest ∧ selFrom f k rs = (k + j) :: is ∧ rs[j]? = some r ∧ f r.l = true
  | k, [] => Or.inl ⟨rfl, rfl⟩
  | k, r :: rs => by
    by_cases h : f r.l = true
    · exact Or.inr ⟨0, r, rs.filter (fun r => f r.l), selFrom f (k + 1) rs, by rw [List.filter_cons, if_pos h], if_pos h, rfl, h⟩
    · have e1 : (r :: rs).filter (fun r => f r.l) = rs.filter (fun r => f r.l) := by rw [List.filter_cons, if_neg h]
      have e2 : selFrom f k (r :: rs) = selFrom f (k + 1) rs := if_neg h
      rw [e1, e2]
      rcases pick f (k + 1) rs with h1 | ⟨j, r', rest, is, h1, h2, h3, h4⟩
      · exact Or.inl h1
      · exact Or.inr ⟨j + 1, r', rest, is, h1, by rw [h2, show k + 1 + j = k + (j + 1) by omega], h3, h4⟩
abbrev idleNw (rs : List Rec) : List V := (rs.filter fun r => fIdle r.l).map fun r => .ref r.nw
theorem idle_take {rs : List Rec} {i : Nat} {r : Rec} (h : rs[i]? = some r) : idleNw (rs.take (i + 1)) = if fIdle r.l = true then idleNw (rs.take i) ++ [.ref r.nw] else idleNw (rs.take i) := by
  show ((rs.take (i + 1)).filter fun r => fIdle r.l).map _ = _
  rw [take_one h, List.filter_append, List.map_append]
  cases e : fIdle r.l
  · rw [if_neg (by decide)]
    have : ([r].filter fun r => fIdle r.l) = [] := by rw [List.filter_cons, if_neg (by rw [e]; decide)]; rfl
    rw [this]
    simp
  · rw [if_pos rfl]
    have : ([r].filter fun r => fIdle r.l) = [r] := by rw [List.filter_cons, if_pos e]; rfl
    rw [this]
    rfl
theorem alpha : ∀ j < 12, (("abcdefghijkl" : Str).cps[j]? = some (97 + j)) := by decide +kernel
theorem num_len {n : Nat} (h : n < 1000000) : (Str.ofString (toString ((n : Nat) : Int))).length ≤ 10 := by
  have e := int_text_length_le10 (a := ((n : Nat) : Int)) (k := 6) (by decide) (by omega)
  rw [PySem.ofString_length]
  omega
theorem str_len (a b : Str) : (a ++ b).length = a.length + b.length := Array.size_append
theorem cause_at {g : Gh} {H H' : Hp} {p : Addr → Prop} {v : V} (h : CauseOk g H v) (f : FrP p H H') (hp : ∀ x, p x → g x ≠ some .st) : Eqv 3 H' v v := by
  rcases h with h | ⟨q, y, rfl, e⟩
  · exact eqv_sc rfl h
  · have e' := f q _ (fun z => hp q z e.g) e.h
    refine Or.inr ⟨q, q, _, _, rfl, rfl, rfl, by cases y <;> decide, fun i u v e1 e2 => ?_, Or.inr ⟨e', e'⟩⟩
    have euv : u = v := Option.some.inj (e1.symm.trans e2)
    refine eqv_sc euv ?_
    have hm := List.mem_of_getElem? e2
    cases y <;> simp [Wy.t, Wy.k, kV] at hm <;> rcases hm with rfl | rfl <;> rfl
theorem pure_lendOld {kept : Bool} {n i : Nat} {S : Sv} {r : Rec} {lo : Addr} {start : Str} (Pu : PureOk kept n S) (hr : S.rs[i]? = some r) (hlent : r.l.lent = false) (hm : r.l.mark ≠ .closed) (hx : start.length ≤ 100) (hne : ∀ (j : Nat) (x : Lo), S.los[j]? = some x → x.i ≠ i) :
    PureOk kept (n + 1) { S with rs := S.rs.set i { r with l := { r.l with lent := true } }, los := S.los ++ [⟨lo, i, start, 0⟩] } := by
  obtain ⟨p1, p2, p3, p4, p5, p6, p7⟩ := Pu
  have at_ : ∀ {j : Nat} {r' : Rec}, (S.rs.set i { r with l := { r.l with lent := true } })[j]? = some r' → (j = i ∧ r' = { r with l := { r.l with lent := true } }) ∨ (j ≠ i ∧ S.rs[j]? = some r') := fun {j r'} e => by
    by_cases h : i = j
    · subst h
      rw [get_set_eq hr] at e
      exact Or.inl ⟨rfl, (Option.some.inj e).symm⟩
    · rw [get_set_ne h] at e
      exact Or.inr ⟨fun z => h z.symm, e⟩
  refine ⟨?_, ?_, Nat.le_succ_of_le p3, fun j r' e => ?_, fun j x e => ?_, fun hk j r' e hl hm' => ?_, fun hk j x r' e e' => ?_⟩
  · show (S.rs.set i _).length ≤ _
    rw [List.length_set]
    omega
  · show (S.los ++ [_]).length ≤ _
    rw [List.length_append]
    show S.los.length + 1 ≤ _
    omega
  · rcases at_ e with ⟨rfl, rfl⟩ | ⟨_, e⟩
    · obtain ⟨a1, a2, a3⟩ := p4 _ r hr
      exact ⟨by show r.l.q.length ≤ _; omega, a2, a3⟩
    · obtain ⟨a1, a2, a3⟩ := p4 j r' e
      exact ⟨by omega, a2, a3⟩
  · rcases get_app e with e | ⟨_, rfl⟩
    · obtain ⟨a1, a2⟩ := p5 j x e
      exact ⟨by omega, a2⟩
    · exact ⟨Nat.zero_le _, hx⟩
  · rcases at_ e with ⟨rfl, rfl⟩ | ⟨_, e⟩
    · exact absurd hl (by show ¬ true = false; decide)
    · exact p6 hk j r' e hl hm'
  · rcases get_app e with e | ⟨_, rfl⟩
    · rcases at_ e' with ⟨h, _⟩ | ⟨_, e'⟩
      · exact absurd h (hne j x e)
      · exact p7 hk j x r' e e'
    · rcases at_ e' with ⟨_, rfl⟩ | ⟨h, _⟩
      · have hc := of_decide_eq_true (p6 hk i r hr hlent hm)
        constructor
        · intro s hs
          have hs' : s ∈ r.l.q := hs
          rw [hc.2] at hs'
          cases hs'
        · intro ho
          have ho' : isOut r.l.mark = true := ho
          rw [hc.1] at ho'
          cases ho'
      · exact absurd rfl h
theorem pure_lendNew {kept : Bool} {n : Nat} {S : Sv} {a dx qa nw kq lo : Addr} {start : Str} (Pu : PureOk kept n S) (hx : start.length ≤ 100) (hlt : ∀ (j : Nat) (x : Lo), S.los[j]? = some x → x.i < S.rs.length) :
    PureOk kept (n + 1) { S with rs := S.rs ++ [⟨a, dx, qa, nw, kq, ⟨.whole, [], "", .non, .non, true⟩⟩], los := S.los ++ [⟨lo, S.rs.length, start, 0⟩] } := by
  obtain ⟨p1, p2, p3, p4, p5, p6, p7⟩ := Pu
  refine ⟨?_, ?_, Nat.le_succ_of_le p3, fun j r' e => ?_, fun j x e => ?_, fun hk j r' e hl hm' => ?_, fun hk j x r' e e' => ?_⟩
  · show (S.rs ++ [_]).length ≤ _
    rw [List.length_append]
    show S.rs.length + 1 ≤ _
    omega
  · show (S.los ++ [_]).length ≤ _
    rw [List.length_append]
    show S.los.length + 1 ≤ _
    omega
  · rcases get_app e with e | ⟨_, rfl⟩
    · obtain ⟨a1, a2, a3⟩ := p4 j r' e
      exact ⟨by omega, a2, a3⟩
    · exact ⟨Nat.zero_le _, fun h => (nomatch h), fun h => (nomatch h)⟩
  · rcases get_app e with e | ⟨_, rfl⟩
    · obtain ⟨a1, a2⟩ := p5 j x e
      exact ⟨by omega, a2⟩
    · exact ⟨Nat.zero_le _, hx⟩
  · rcases get_app e with e | ⟨_, rfl⟩
    · exact p6 hk j r' e hl hm'
    · exact absurd hl (by show ¬ true = false; decide)
  · rcases get_app e with e | ⟨_, rfl⟩
    · rcases get_app e' with e' | ⟨h, _⟩
      · exact p7 hk j x r' e e'
      · have := hlt j x e
        omega
    · rcases get_app e' with e' | ⟨_, rfl⟩
      · have := (List.getElem?_eq_some_iff.mp e').1
        exact absurd this (Nat.lt_irrefl _)
      · exact ⟨fun s hs => (nomatch hs), fun h => (nomatch h)⟩
def sp_law_lend (K : PySem.W.Frag) : Sp := fun vs H Q _ => ∃ (g : Gh) (B : Sta) (S : Sv) (kept : Bool) (n cnt : Nat), vs = [.ref B.p, .ref B.LL, .ref B.LO, .int cnt] ∧ GI K g H B S ∧ PureOk kept n S ∧ n ≤ 300 ∧ cnt ≤ 1000 ∧
  ∀ H' g' S', GI K g' H' B S' → PureOk kept (n + 1) S' → S'.sc = S.sc → S'.los ≠ [] → Q (.bl true) H'
section
variable {P : Program} {w : World} {K : PySem.W.Frag} {mg : Str → Option Value} {base : Heap}
theorem sc__law_lend : FnScope ["_law_pool", "_law_lines", "_law_loans", "_law_count", "_law_idle", "_law_now", "_law_name", "_law_line"] ["_law_pool", "_law_lines", "_law_loans", "_law_count"] (defScope (topS 44)) := ⟨rfl, rfl, rfl, by decide +kernel, rfl, by decide +kernel, by decide +kernel⟩
theorem ok__law_lend (T : Tx P K mg) : GOk P w K mg base CX0 9 "_law_lend" ["_law_pool", "_law_lines", "_law_loans", "_law_count"] (sp_law_lend K) := by
  obtain ⟨f__law_new, fd__law_new, G__law_new, m__law_new, k__law_new, b__law_new⟩ := ok__law_new (P := P) (w := w) (base := base) T
  obtain ⟨f_Pool_lend, fd_Pool_lend, G_Pool_lend, M_Pool_lend, b_Pool_lend⟩ := ok_Pool_lend (P := P) (w := w) (base := base) T
  obtain ⟨f__law_stands, fd__law_stands, G__law_stands, m__law_stands, k__law_stands, b__law_stands⟩ := ok__law_stands (P := P) (w := w) (base := base) T
  obtain ⟨f, fd, F, gm⟩ := T.fn (44, "_law_lend") (by decide +kernel)
  refine ⟨f, fd, ?_, gm, F.kp, F.binds fun _ _ _ _ _ _ us hl => match us, hl with | [_, _, _, _], _ => rfl⟩
  refine F.ok sc__law_lend (fun vs H Q E h => ?_) (fun cdv A outer s H vs Q E hr h => ?_)
  · obtain ⟨_, _, _, _, _, _, rfl, _⟩ := h
    rfl
  have hu := hu_of hr
  refine ⟨_, (pss_cons (ps_setLc (i := 4) (own := [("_law_now", 5)]) (by rfl) sc__law_lend.nd rfl rfl (by rfl) (pi_list (pv 1)) (blkOk_by (own := [("_law_now", 5)]) (N := ["_law_pool", "_law_lines", "_law_loans", "_law_count", "_law_idle", "_law_now", "_law_name", "_law_line"]) (sc := defScope (topS 44)) (by decide +kernel)) (fun _ _ _ _ _ => (pg_name (i := 5) sc__law_lend.nd rfl (Or.inl rfl))) (fun _ _ _ _ _ => (pts_one (PW.pt (pw_and (pt_cmpR op_ne (pe_dget hu (pv 5) pe_str (fun _ _ => rfl)) pe_str (nomark _)) (pw_and1 (pt_not (pt_val (pe_dget hu (pv 5) pe_str (fun _ _ => rfl))))))))) (fun _ _ _ _ _ => (pv 5)))
      (pss_cons (ps_if (pt_cmpR (OW.op_eqNil hr.units0) (pv 4) (pe_lst pa_nil) (nomark _))
      (pss_cons (ps_set (i := 5) sc__law_lend.nd rfl (Or.inl rfl) (pe_call G__law_new (hr.mono (by decide)) rfl m__law_new k__law_new b__law_new .nil pass0 (pa_cons (pe_callB call_len_seq (by rfl) T.len PySem.boot_len (pa_cons (pv 1) pa_nil)) pa_nil)))
      (pss_one (ps_expr (pe_bm PySem.F.plainAttrs_list PySem.F.slot_list_append PySem.F.type_list_append mt_append (pv 1) (pa_cons (pv 5) pa_nil)))))
      (pss_one (ps_set (i := 5) sc__law_lend.nd rfl (Or.inl rfl) (pe_ix ix_list (pv 4) pe_int (fun _ _ => rfl)))))
      (pss_cons (ps_asg pe_bl (pg_sub (pv 5) pe_str (set_dict hu) (fun _ => rfl)))
      (pss_cons (ps_set (i := 6) sc__law_lend.nd rfl (Or.inl rfl) (pe_item_str pe_str (pe_op op_mod (pv 3) pe_int) (fun _ _ => rfl)))
      (pss_cons (ps_set (i := 7) sc__law_lend.nd rfl (Or.inl rfl) (pe_meth (pv 0) T.clP M_Pool_lend G_Pool_lend (hr.mono (by decide)) b_Pool_lend .nil pass0 (pa_cons (pv 6) pa_nil)))
      (pss_cons (ps_expr (pe_bm PySem.F.plainAttrs_list PySem.F.slot_list_append PySem.F.type_list_append mt_append (pv 2) (pa_cons (pe_lst (pa_cons (pv 7) (pa_cons (pv 5) (pa_cons (pe_op op_add_str (pe_op op_add_str (pv 6) (pe_callTy call_str_int (by rfl) T.str (by decide +kernel) (pa_cons (pv 3) pa_nil))) pe_str) (pa_cons pe_int pa_nil))))) pa_nil)))
      (pss_one (ps_ret (pe_call G__law_stands (hr.mono (by decide)) rfl m__law_stands k__law_stands b__law_stands .nil pass0 (pa_cons (pv 7) (pa_cons (pv 5) (pa_cons pe_str pa_nil)))))))))))), ?_⟩
  obtain ⟨g, B, S, kept, n, cnt, rfl, G, Pu, hn, hc, k⟩ := h
  have hrs := Pu.rsn
  refine ⟨_, rfl, B.LL, rfl, ⟨_, SqL.of G.LL.h⟩, fun D hD => ?_⟩
  refine lc_it (walk_list (xs := nws S.rs)) (fun i H' => Same H H' ∧ H' D = some (.lst (idleNw (S.rs.take i)))) ⟨Same.new hD, upd_same⟩ (fun i H1 _ h1 => SqL.of (h1.1 _ _ G.LL.h)) ?_ ?_
  · rintro i x H1 H2 hi ⟨sm, hat⟩ ⟨rfl, hx⟩
    rw [List.getElem?_map] at hx
    obtain ⟨r, hr1, rfl⟩ := Option.map_eq_some_iff.mp hx
    have N := ((G.ln i r hr1).now).same sm
    have hin : i < S.rs.length := by simpa using hi
    have hlt : (idleNw (S.rs.take i)).length < sizeLine := by
      rw [List.length_map, sizeLine_eq]
      have h1 := List.length_filter_le (fun r : Rec => fIdle r.l) (S.rs.take i)
      rw [List.length_take] at h1
      omega
    refine ⟨rfl, _, rfl, r.nw, _, rfl, g_mark N, rfl, _, rfl, ?_⟩
    rw [mark_closed, idle_take hr1]
    cases hc : decide (r.l.mark = .closed)
    · refine iteT' rfl ⟨_, rfl, r.nw, _, rfl, g_lent N, _, rfl, ?_⟩
      have e : fIdle r.l = !r.l.lent := by
        show (decide (r.l.mark ≠ .closed) && !r.l.lent) = _
        have := of_decide_eq_false hc
        simp [this]
      rw [e]
      cases hd : r.l.lent
      · rw [if_pos (by rfl)]
        refine iteT' rfl ⟨_, rfl, _, hat, hlt, same_put sm hD, ?_⟩
        rw [upd_same]
      · rw [if_neg (by decide)]
        exact iteF' rfl ⟨sm, hat⟩
    · refine iteF' rfl ?_
      have e : fIdle r.l = false := by
        show (decide (r.l.mark ≠ .closed) && !r.l.lent) = false
        have := of_decide_eq_true hc
        simp [this]
      rw [if_neg (by rw [e]; decide)]
      exact ⟨sm, hat⟩
  rintro H1 ⟨sm, hat⟩
  rw [List.length_map, List.take_length] at hat
  refine ⟨_, rfl, Nat.zero_le _, fun p0 hp0 => ⟨D, p0, _, rfl, rfl, SqL.of (Same.new hp0 _ _ hat), SqL.of upd_same, _, rfl, ?_⟩⟩
  have s1 := sput (o := .lst []) sm hp0
  have hat1 := Same.new (o := .lst []) hp0 _ _ hat
  generalize upd H1 p0 (.lst []) = H2 at s1 hat1 ⊢
  have G2 := G.same s1
  have jlt : cnt % 12 < 12 := Nat.mod_lt _ (by decide)
  have ej : ((cnt : Int) % 12).toNat = cnt % 12 := by omega
  have zl : (("abcdefghijkl" : Str).length : Int) = ((12 : Nat) : Int) := by decide +kernel
  have lg : ((cnt : Nat) : Int).natAbs.log2 < 1920 := Nat.lt_of_le_of_lt (Nat.log2_le_self _) (by omega)
  have nl := num_len (n := cnt) (by omega)
  have c1 : ((⟨#[97 + cnt % 12]⟩ : Str).length) = 1 := rfl
  have st1 : (((⟨#[97 + cnt % 12]⟩ : Str) ++ Str.ofString (toString (cnt : Int))) ++ ".").length ≤ 100 := by
    rw [str_len, str_len, c1]
    have : ("." : Str).length = 1 := rfl
    omega
  have szs : (⟨#[97 + cnt % 12]⟩ : Str).length + (Str.ofString (toString (cnt : Int))).length ≤ sizeLine := by
    rw [sizeLine_eq, c1]
    omega
  have szs2 : ((⟨#[97 + cnt % 12]⟩ : Str) ++ Str.ofString (toString (cnt : Int))).length + ("." : Str).length ≤ sizeLine := by
    rw [sizeLine_eq, str_len, c1]
    have : ("." : Str).length = 1 := rfl
    omega
  generalize hst : (((⟨#[97 + cnt % 12]⟩ : Str) ++ Str.ofString (toString (cnt : Int))) ++ ".") = start at st1
  rcases pick fIdle 0 S.rs with ⟨f1, f2⟩ | ⟨i, r, rest, is, f1, f2, hr, hf⟩
  · have f2 : sel fIdle S.rs = [] := f2
    have f1' : idleNw S.rs = [] := by
      show (S.rs.filter _).map _ = []
      rw [f1]
      rfl
    refine iteT' (by rw [f1']; rfl) ?_
    refine ⟨_, rfl, B.LL, _, rfl, .inl (SqL.of G2.LL.h), S.rs.length, (by rw [List.length_map]; rfl), fun H3 nw kq s3 hnw hkq N3 => ?_⟩
    have G3 := G2.same s3
    have s03 := s1.trans s3
    refine ⟨_, rfl, .inl ⟨rfl, _, SqL.of G3.LL.h⟩, _, rfl, B.LL, _, _, rfl, rfl, G3.LL.h, (by rw [List.length_map, sizeLine_eq]; omega), ?_⟩
    have fr4 : FrP (fun x => x = B.LL ∨ x = B.L ∨ x = B.LO) H (upd H3 B.LL (.lst (nws S.rs ++ [.ref nw]))) := FrP.upd (FrP.same FrP.refl s03) (Or.inl rfl)
    have nLL : nw ≠ B.LL := ne_of N3.obj G3.LL.h (fun z => nomatch z)
    have kLL : kq ≠ B.LL := fun z => by
      rw [z, G2.LL.h] at hkq
      cases hkq
    have N4 : NowAt (upd H3 B.LL (.lst (nws S.rs ++ [.ref nw]))) nw S.rs.length ⟨.whole, [], "", .non, .non, false⟩ kq := ⟨by rw [upd_ne nLL]; exact N3.obj, by rw [upd_ne kLL]; exact N3.que⟩
    have LL4 : upd H3 B.LL (.lst (nws S.rs ++ [.ref nw])) B.LL = some (.lst (nws S.rs ++ [.ref nw])) := upd_same
    have hnw0 := s1.free hnw
    have hkq0 := s1.free hkq
    have pP : ∀ {x : Addr} {r : Ro} {o : HO} {X : Hp}, FrP (fun x => x = B.LL ∨ x = B.L ∨ x = B.LO) H X → Own g H x r o → r ≠ .LL → r ≠ .L → r ≠ .LO → X x = some o := fun f h n1 n2 n3 => f _ _ (fun z => by
      rcases z with rfl | rfl | rfl
      · exact n1 (Option.some.inj (h.g.symm.trans G.LL.g))
      · exact n2 (Option.some.inj (h.g.symm.trans G.L.g))
      · exact n3 (Option.some.inj (h.g.symm.trans G.LO.g))) h.h
    have L4 : upd H3 B.LL (.lst (nws S.rs ++ [.ref nw])) B.L = some (.lst (refs S.rs)) := by
      rw [upd_ne (G.L.ne G.LL.g (by decide))]
      exact s03 _ _ G.L.h
    have LO4 : upd H3 B.LL (.lst (nws S.rs ++ [.ref nw])) B.LO = some (.lst (loas S.los)) := by
      rw [upd_ne (G.LO.ne G.LL.g (by decide))]
      exact s03 _ _ G.LO.h
    generalize upd H3 B.LL (.lst (nws S.rs ++ [.ref nw])) = H4 at fr4 N4 LL4 L4 LO4 ⊢
    refine ⟨_, rfl, nw, _, rfl, p_lent N4.obj true, ?_⟩
    have fr5 : FrP (fun x => x = B.LL ∨ x = B.L ∨ x = B.LO) H (upd H4 nw (.dK (nf S.rs.length ⟨.whole, [], "", .non, .non, true⟩ kq))) := fun x o n h => by
      rw [upd_ne (ne_of_none h hnw0)]
      exact fr4 x o n h
    have N5 : NowAt (upd H4 nw (.dK (nf S.rs.length ⟨.whole, [], "", .non, .non, true⟩ kq))) nw S.rs.length ⟨.whole, [], "", .non, .non, true⟩ kq := ⟨upd_same, by rw [upd_ne N4.ne.symm]; exact N4.que⟩
    have LL5 : upd H4 nw (.dK (nf S.rs.length ⟨.whole, [], "", .non, .non, true⟩ kq)) B.LL = some (.lst (nws S.rs ++ [.ref nw])) := by
      rw [upd_ne nLL.symm]
      exact LL4
    have L5 : upd H4 nw (.dK (nf S.rs.length ⟨.whole, [], "", .non, .non, true⟩ kq)) B.L = some (.lst (refs S.rs)) := by
      rw [upd_ne (ne_of L4 N4.obj (fun z => nomatch z))]
      exact L4
    have LO5 : upd H4 nw (.dK (nf S.rs.length ⟨.whole, [], "", .non, .non, true⟩ kq)) B.LO = some (.lst (loas S.los)) := by
      rw [upd_ne (ne_of LO4 N4.obj (fun z => nomatch z))]
      exact LO4
    generalize upd H4 nw (.dK (nf S.rs.length ⟨.whole, [], "", .non, .non, true⟩ kq)) = H5 at fr5 N5 LL5 L5 LO5 ⊢
    refine ⟨_, rfl, _, _, rfl, rfl, (by show (0 : Int) < 12; decide), _, _, 97 + cnt % 12, rfl, rfl, (by show (0 : Int) ≤ (cnt : Int) % 12; omega), (by show (cnt : Int) % 12 < 2 ^ 63; omega), (by rw [zl]; show (cnt : Int) % 12 < ((12 : Nat) : Int); omega), (by show ("abcdefghijkl" : Str).cps[((cnt : Int) % 12).toNat]? = _; rw [ej]; exact alpha _ jlt), ?_⟩
    have P5 := pP fr5 G.P (by decide) (by decide) (by decide)
    have lns5 : LnsAt K H5 S.rs := fun i r e => ⟨pP fr5 (G.ln i r e).a (fun z => nomatch z) (fun z => nomatch z) (fun z => nomatch z), pP fr5 (G.ln i r e).qa (fun z => nomatch z) (fun z => nomatch z) (fun z => nomatch z)⟩
    refine ⟨_, rfl, B.p, _, _, rfl, P5, rfl, _, rfl, B.p, B.dp, B.d, B.L, S.t, B.c, _, S.rs, 97 + cnt % 12, rfl, by omega, by omega, P5, L5, lns5, by omega, fun i r is e => (by rw [f2] at e; cases e), fun _ H6 a dx qa f6 ha hqa L6 La => ?_⟩
    have fr6 := FrP.fr2 fr5 f6 (Or.inr (Or.inl rfl)) (Or.inr (Or.inl rfl))
    have nwL : nw ≠ B.L := ne_of N5.obj L5 (fun z => nomatch z)
    have kqL : kq ≠ B.L := fun z => by
      have := s1 _ _ G.L.h
      rw [← z, hkq] at this
      cases this
    have N6 : NowAt H6 nw S.rs.length ⟨.whole, [], "", .non, .non, true⟩ kq := ⟨f6 _ _ nwL nwL N5.obj, f6 _ _ kqL kqL N5.que⟩
    have LO6 := f6 _ _ (G.LO.ne G.L.g (by decide)) (G.LO.ne G.L.g (by decide)) LO5
    have LL6 := f6 _ _ (G.LL.ne G.L.g (by decide)) (G.LL.ne G.L.g (by decide)) LL5
    have ex5 : ∀ x, (x = B.LL ∨ x = B.L ∨ x = B.LO) → ∃ o, H5 x = some o := fun x z => by
      rcases z with rfl | rfl | rfl
      · exact ⟨_, LL5⟩
      · exact ⟨_, L5⟩
      · exact ⟨_, LO5⟩
    have ex6 : ∀ x, (x = B.LL ∨ x = B.L ∨ x = B.LO) → ∃ o, H6 x = some o := fun x z => by
      rcases z with rfl | rfl | rfl
      · exact ⟨_, LL6⟩
      · exact ⟨_, L6⟩
      · exact ⟨_, LO6⟩
    have ha0 := FrP.back fr5 ex5 ha
    have hqa0 := FrP.back fr5 ex5 hqa
    have dqk : qa ≠ kq := fun z => by
      have := N5.que
      rw [← z, hqa] at this
      cases this
    refine ⟨_, rfl, .inl ⟨rfl, _, SqL.of LO6⟩, _, rfl, _, rfl, _, rfl, _, rfl, cnt, rfl, lg, _, _, rfl, rfl, szs, _, _, rfl, rfl, szs2, (by show 4 ≤ sizeLine; decide), fun lo hlo => ⟨B.LO, loas S.los, .ref lo, rfl, rfl, (Same.new hlo _ _ LO6), (by have := Pu.losn; rw [List.length_map, sizeLine_eq]; omega), ?_⟩⟩
    have hlo0 := FrP.back fr6 ex6 hlo
    have nlo : lo ≠ B.LO := fun z => by
      rw [z, LO6] at hlo
      cases hlo
    have keepO : ∀ {x : Addr} {o : HO} {u v : HO}, H6 x = some o → x ≠ B.LO → upd (upd H6 lo u) B.LO v x = some o := fun h n => by
      rw [upd_ne n, upd_ne (ne_of_none h hlo)]
      exact h
    have dlq : lo ≠ qa := fun z => by
      rw [z, La.que] at hlo
      cases hlo
    have dlk : lo ≠ kq := fun z => by
      rw [z, N6.que] at hlo
      cases hlo
    have qLO : qa ≠ B.LO := fun z => by
      rw [z, LO5] at hqa
      cases hqa
    have kLO : kq ≠ B.LO := fun z => by
      have := s1 _ _ G.LO.h
      rw [← z, hkq] at this
      cases this
    have L8 : LineAt K (upd (upd H6 lo (.lst [.ref a, .ref nw, .str start, .int (0 : Nat)])) B.LO (.lst (loas S.los ++ [.ref lo]))) a dx S.rs.length newLent qa := ⟨keepO La.obj (ne_of La.obj LO6 (fun z => nomatch z)), keepO La.que qLO⟩
    have N8 : NowAt (upd (upd H6 lo (.lst [.ref a, .ref nw, .str start, .int (0 : Nat)])) B.LO (.lst (loas S.los ++ [.ref lo]))) nw S.rs.length ⟨.whole, [], "", .non, .non, true⟩ kq := ⟨keepO N6.obj (ne_of N6.obj LO6 (fun z => nomatch z)), keepO N6.que kLO⟩
    have fr8 : FrP (fun x => x = B.LL ∨ x = B.L ∨ x = B.LO) H (upd (upd H6 lo (.lst [.ref a, .ref nw, .str start, .int (0 : Nat)])) B.LO (.lst (loas S.los ++ [.ref lo]))) := FrP.upd (FrP.new fr6 hlo) (Or.inr (Or.inr rfl))
    obtain ⟨g', G'⟩ := G.lendNew (start := start) fr8 ha0 hqa0 hnw0 hkq0 hlo0 L8 N8 dqk dlq dlk (keepO L6 (G.L.ne G.LO.g (by decide))) (keepO LL6 (G.LL.ne G.LO.g (by decide))) upd_same (by rw [upd_ne nlo, upd_same])
    have Pu' := pure_lendNew (a := a) (dx := dx) (qa := qa) (nw := nw) (kq := kq) (lo := lo) Pu st1 (fun j x e => by
      obtain ⟨r, e1, _⟩ := G.lo j x e
      exact (List.getElem?_eq_some_iff.mp e1).1)
    subst hst
    exact ⟨_, rfl, _, rfl, a, dx, qa, nw, kq, S.rs.length, newLent, "x", rfl, L8, N8, eqv_sc rfl rfl, Nat.zero_le _, fun H9 s9 => k H9 g' _ (G'.same s9) Pu' rfl (by simp)⟩
  · refine iteF' ?_ ?_
    · show (idleNw S.rs).isEmpty = false
      show ((S.rs.filter _).map _).isEmpty = false
      rw [f1]
      rfl
    have f1' : idleNw S.rs = .ref r.nw :: rest.map (fun r => .ref r.nw) := by
      show (S.rs.filter _).map _ = _
      rw [f1]
      rfl
    rw [Nat.zero_add] at f2
    have f2 : sel fIdle S.rs = i :: is := f2
    have R := G2.ln i r hr
    refine ⟨_, rfl, D, _, _, _, rfl, rfl, SqL.of hat1, atI_nat (j := 0) (by rw [f1']; rfl), ?_⟩
    refine ⟨_, rfl, r.nw, _, rfl, p_lent R.nw.h true, ?_⟩
    have hm : r.l.mark ≠ .closed ∧ r.l.lent = false := by
      have z : (decide (r.l.mark ≠ .closed) && !r.l.lent) = true := hf
      simpa using z
    have fr3 : FrP (fun x => x = r.nw ∨ x = r.a ∨ x = B.LO) H (upd H2 r.nw (.dK (nf i { r.l with lent := true } r.kq))) := FrP.upd (FrP.same FrP.refl s1) (Or.inl rfl)
    have pP : ∀ {x : Addr} {q : Ro} {o : HO} {X : Hp}, FrP (fun x => x = r.nw ∨ x = r.a ∨ x = B.LO) H X → Own g H x q o → q ≠ .nw i → q ≠ .ln i → q ≠ .LO → X x = some o := fun f h n1 n2 n3 => f _ _ (fun z => by
      rcases z with rfl | rfl | rfl
      · exact n1 (Option.some.inj (h.g.symm.trans R.nw.g))
      · exact n2 (Option.some.inj (h.g.symm.trans R.a.g))
      · exact n3 (Option.some.inj (h.g.symm.trans G.LO.g))) h.h
    have N3 : NowAt (upd H2 r.nw (.dK (nf i { r.l with lent := true } r.kq))) r.nw i { r.l with lent := true } r.kq := ⟨upd_same, by rw [upd_ne (R.now).ne.symm]; exact R.kq.h⟩
    have lns3 : LnsAt K (upd H2 r.nw (.dK (nf i { r.l with lent := true } r.kq))) S.rs := fun i' r' e => ⟨by rw [upd_ne (ne_of (G2.ln i' r' e).a.h R.nw.h (fun z => nomatch z))]; exact (G2.ln i' r' e).a.h, by rw [upd_ne (ne_of (G2.ln i' r' e).qa.h R.nw.h (fun z => nomatch z))]; exact (G2.ln i' r' e).qa.h⟩
    have LO3 : upd H2 r.nw (.dK (nf i { r.l with lent := true } r.kq)) B.LO = some (.lst (loas S.los)) := by
      rw [upd_ne (ne_of G2.LO.h R.nw.h (fun z => nomatch z))]
      exact G2.LO.h
    generalize upd H2 r.nw (.dK (nf i { r.l with lent := true } r.kq)) = H3 at fr3 N3 lns3 LO3 ⊢
    have P3 := pP fr3 G.P (fun z => nomatch z) (fun z => nomatch z) (fun z => nomatch z)
    have L3 := pP fr3 G.L (fun z => nomatch z) (fun z => nomatch z) (fun z => nomatch z)
    refine ⟨_, rfl, _, _, rfl, rfl, (by show (0 : Int) < 12; decide), _, _, 97 + cnt % 12, rfl, rfl, (by show (0 : Int) ≤ (cnt : Int) % 12; omega), (by show (cnt : Int) % 12 < 2 ^ 63; omega), (by rw [zl]; show (cnt : Int) % 12 < ((12 : Nat) : Int); omega), (by show ("abcdefghijkl" : Str).cps[((cnt : Int) % 12).toNat]? = _; rw [ej]; exact alpha _ jlt), ?_⟩
    refine ⟨_, rfl, B.p, _, _, rfl, P3, rfl, _, rfl, B.p, B.dp, B.d, B.L, S.t, B.c, _, S.rs, 97 + cnt % 12, rfl, by omega, by omega, P3, L3, lns3, by omega, fun i' r' is' e e' => ?_, fun e => (by rw [f2] at e; cases e)⟩
    rw [f2] at e
    cases e
    rw [hr] at e'
    cases e'
    intro H6 f6 La
    have nwa : r.nw ≠ r.a := ne_of R.nw.h R.a.h (fun z => nomatch z)
    have kqa : r.kq ≠ r.a := ne_of R.kq.h R.a.h (fun z => nomatch z)
    have fr6 := FrP.fr2 fr3 f6 (Or.inr (Or.inl rfl)) (Or.inr (Or.inl rfl))
    have N6 : NowAt H6 r.nw i { r.l with lent := true } r.kq := ⟨f6 _ _ nwa nwa N3.obj, f6 _ _ kqa kqa N3.que⟩
    have LOa : B.LO ≠ r.a := ne_of G2.LO.h R.a.h (fun z => nomatch z)
    have LO6 := f6 _ _ LOa LOa LO3
    have ex6 : ∀ x, (x = r.nw ∨ x = r.a ∨ x = B.LO) → ∃ o, H6 x = some o := fun x z => by
      rcases z with rfl | rfl | rfl
      · exact ⟨_, N6.obj⟩
      · exact ⟨_, La.obj⟩
      · exact ⟨_, LO6⟩
    refine ⟨_, rfl, .inl ⟨rfl, _, SqL.of LO6⟩, _, rfl, _, rfl, _, rfl, _, rfl, cnt, rfl, lg, _, _, rfl, rfl, szs, _, _, rfl, rfl, szs2, (by show 4 ≤ sizeLine; decide), fun lo hlo => ⟨B.LO, loas S.los, .ref lo, rfl, rfl, (Same.new hlo _ _ LO6), (by have := Pu.losn; rw [List.length_map, sizeLine_eq]; omega), ?_⟩⟩
    have hlo0 := FrP.back fr6 ex6 hlo
    have nlo : lo ≠ B.LO := fun z => by
      rw [z, LO6] at hlo
      cases hlo
    have keepO : ∀ {x : Addr} {o : HO} {u v : HO}, H6 x = some o → x ≠ B.LO → upd (upd H6 lo u) B.LO v x = some o := fun h n => by
      rw [upd_ne n, upd_ne (ne_of_none h hlo)]
      exact h
    have L8 : LineAt K (upd (upd H6 lo (.lst [.ref r.a, .ref r.nw, .str start, .int (0 : Nat)])) B.LO (.lst (loas S.los ++ [.ref lo]))) r.a r.dx i { r.l with lent := true } r.qa := ⟨keepO La.obj LOa.symm, keepO La.que (R.qa.ne G.LO.g (fun z => nomatch z))⟩
    have N8 : NowAt (upd (upd H6 lo (.lst [.ref r.a, .ref r.nw, .str start, .int (0 : Nat)])) B.LO (.lst (loas S.los ++ [.ref lo]))) r.nw i { r.l with lent := true } r.kq := ⟨keepO N6.obj (R.nw.ne G.LO.g (fun z => nomatch z)), keepO N6.que (R.kq.ne G.LO.g (fun z => nomatch z))⟩
    have fr8 : FrP (fun x => x = r.nw ∨ x = r.a ∨ x = B.LO) H (upd (upd H6 lo (.lst [.ref r.a, .ref r.nw, .str start, .int (0 : Nat)])) B.LO (.lst (loas S.los ++ [.ref lo]))) := FrP.upd (FrP.new fr6 hlo) (Or.inr (Or.inr rfl))
    obtain ⟨g', G'⟩ := G.lendOld (start := start) hr hm.2 fr8 hlo0 L8 N8 upd_same (by rw [upd_ne nlo, upd_same])
    have Pu' := pure_lendOld (lo := lo) Pu hr hm.2 hm.1 st1 (fun j x e z => by
      obtain ⟨r', e1, e2, _⟩ := G.lo _ _ e
      rw [z, hr] at e1
      cases e1
      rw [hm.2] at e2
      cases e2)
    have hq := (Pu.ln i r hr).1
    have cz : Eqv 3 (upd (upd H6 lo (.lst [.ref r.a, .ref r.nw, .str start, .int (0 : Nat)])) B.LO (.lst (loas S.los ++ [.ref lo]))) r.l.cause r.l.cause := cause_at (G.ln i r hr).cause fr8 (fun x z e => by
      rcases z with rfl | rfl | rfl
      · exact (fun q => nomatch q) (Option.some.inj (e.symm.trans R.nw.g))
      · exact (fun q => nomatch q) (Option.some.inj (e.symm.trans R.a.g))
      · exact (fun q => nomatch q) (Option.some.inj (e.symm.trans G.LO.g)))
    subst hst
    exact ⟨_, rfl, _, rfl, r.a, r.dx, r.qa, r.nw, r.kq, i, { r.l with lent := true }, "x", rfl, L8, N8, cz, (by show r.l.q.length ≤ 90000; omega), fun H9 s9 => k H9 g' _ (G'.same s9) Pu' rfl (by simp)⟩
end
end OA

set_option maxHeartbeats 4000000
/-! What a row does to what is known of a line. -/
namespace OA
open PySem PySem.Spec PyProof.Rows L2 OW
theorem isIn_mkOf (a b : Bool) : isIn (mkOf a b) = b := by cases a <;> cases b <;> rfl
theorem isOut_mkOf (a b : Bool) : isOut (mkOf a b) = a := by cases a <;> cases b <;> rfl
theorem after_of {v : Wd} {m : Mk'} (h1 : m ≠ .closed) (h2 : v ≠ .close) : after v m = match v with
  | .begin => mkOf true (isIn m)
  | .finish => mkOf false (isIn m)
  | .head => mkOf (isOut m) true
  | .body | .drain => mkOf (isOut m) false
  | _ => m := by
  unfold after
  rw [if_neg (fun z => z.elim h1 h2)]
  cases v <;> rfl
theorem fault_open {v : Wd} {m : Mk'} {n : Nat} (hl : lineWd v = true) (h : fault v m n = none) : m ≠ .closed ∧ amid v m = false := by
  unfold fault at h
  rw [hl, if_neg (by decide)] at h
  by_cases hm : m = .closed
  · rw [if_pos hm] at h
    cases h
  · rw [if_neg hm] at h
    cases ha : amid v m with
    | true =>
      rw [ha, if_pos rfl] at h
      cases h
    | false => exact ⟨hm, rfl⟩
/-- what is known of a line -/
structure LnOk (l : Ln) (P : Str → Prop) : Prop where
  ii : isIn l.mark = true → l.q ≠ []
  oo : isOut l.mark = true → l.bgn = .str l.snd
  qq : ∀ s ∈ l.q, P s
  ss : isOut l.mark = true → P l.snd
theorem step_ok {v : Wd} {tags : List Str} {why : V} {l : Ln} {P : Str → Prop} (h : LnOk l P) (hne : tags ≠ []) (ht : ∀ s ∈ tags, P s) (hz : tags.length ≤ 2) : LnOk (stepIf v tags why l) P ∧ (stepIf v tags why l).lent = l.lent ∧ (stepIf v tags why l).q.length ≤ l.q.length + 2 := by
  unfold stepIf
  cases hf : fault v l.mark l.q.length with
  | some f => exact ⟨h, rfl, by show l.q.length ≤ _; omega⟩
  | none =>
    show LnOk (l.step v tags why) P ∧ (l.step v tags why).lent = l.lent ∧ (l.step v tags why).q.length ≤ l.q.length + 2
    obtain ⟨x, xs, rfl⟩ : ∃ x xs, tags = x :: xs := by
      cases tags with
      | nil => exact absurd rfl hne
      | cons x xs => exact ⟨x, xs, rfl⟩
    cases v with
    | ask =>
      refine ⟨⟨fun _ => ?_, h.oo, fun s hs => ?_, h.ss⟩, rfl, ?_⟩
      · show l.q ++ x :: xs ≠ []
        simp
      · rcases List.mem_append.mp (show s ∈ l.q ++ x :: xs from hs) with hs | hs
        · exact h.qq s hs
        · exact ht s hs
      · show (l.q ++ x :: xs).length ≤ _
        rw [List.length_append]
        omega
    | begin =>
      obtain ⟨hm, ha⟩ := fault_open rfl hf
      have e : after .begin l.mark = mkOf true (isIn l.mark) := after_of hm (by decide)
      refine ⟨⟨fun hi => ?_, fun _ => rfl, h.qq, fun _ => ht x (by simp)⟩, rfl, by show l.q.length ≤ _; omega⟩
      have hi' : isIn (after .begin l.mark) = true := hi
      rw [e, isIn_mkOf] at hi'
      exact h.ii hi'
    | finish =>
      obtain ⟨hm, ha⟩ := fault_open rfl hf
      have e : after .finish l.mark = mkOf false (isIn l.mark) := after_of hm (by decide)
      have ho : isOut l.mark = true := by
        have z : (!isOut l.mark) = false := ha
        simpa using z
      refine ⟨⟨fun _ => ?_, fun ho' => ?_, fun s hs => ?_, fun ho' => ?_⟩, rfl, ?_⟩
      · show l.q ++ [l.snd] ≠ []
        simp
      · have z : isOut (after .finish l.mark) = true := ho'
        rw [e, isOut_mkOf] at z
        cases z
      · rcases List.mem_append.mp (show s ∈ l.q ++ [l.snd] from hs) with hs | hs
        · exact h.qq s hs
        · have : s = l.snd := by simpa using hs
          rw [this]
          exact h.ss ho
      · have z : isOut (after .finish l.mark) = true := ho'
        rw [e, isOut_mkOf] at z
        cases z
      · show (l.q ++ [l.snd]).length ≤ _
        rw [List.length_append]
        show l.q.length + 1 ≤ _
        omega
    | read =>
      obtain ⟨hm, ha⟩ := fault_open rfl hf
      refine ⟨⟨fun hi => ?_, h.oo, fun s hs => h.qq s (List.mem_of_mem_tail hs), h.ss⟩, rfl, ?_⟩
      · have z : isIn l.mark = false := ha
        have hi' : isIn l.mark = true := hi
        rw [z] at hi'
        cases hi'
      · show l.q.tail.length ≤ _
        rw [List.length_tail]
        omega
    | head =>
      obtain ⟨hm, ha⟩ := fault_open rfl hf
      have e : after .head l.mark = mkOf (isOut l.mark) true := after_of hm (by decide)
      refine ⟨⟨fun _ => (ne_read (v := .head) (l := l) (Or.inr rfl) hf), fun ho => ?_, h.qq, fun ho => ?_⟩, rfl, by show l.q.length ≤ _; omega⟩
      · have z : isOut (after .head l.mark) = true := ho
        rw [e, isOut_mkOf] at z
        exact h.oo z
      · have z : isOut (after .head l.mark) = true := ho
        rw [e, isOut_mkOf] at z
        exact h.ss z
    | body =>
      obtain ⟨hm, ha⟩ := fault_open rfl hf
      have e : after .body l.mark = mkOf (isOut l.mark) false := after_of hm (by decide)
      refine ⟨⟨fun hi => ?_, fun ho => ?_, fun s hs => h.qq s (List.mem_of_mem_tail hs), fun ho => ?_⟩, rfl, ?_⟩
      · have z : isIn (after .body l.mark) = true := hi
        rw [e, isIn_mkOf] at z
        cases z
      · have z : isOut (after .body l.mark) = true := ho
        rw [e, isOut_mkOf] at z
        exact h.oo z
      · have z : isOut (after .body l.mark) = true := ho
        rw [e, isOut_mkOf] at z
        exact h.ss z
      · show l.q.tail.length ≤ _
        rw [List.length_tail]
        omega
    | drain =>
      refine ⟨⟨fun hi => ?_, fun ho => ?_, fun s hs => (nomatch hs), fun ho => ?_⟩, rfl, Nat.zero_le _⟩
      · by_cases hm : l.mark = .closed
        · have z : isIn (after .drain l.mark) = true := hi
          rw [hm] at z
          cases z
        · have z : isIn (after .drain l.mark) = true := hi
          rw [after_of hm (by decide)] at z
          have z : isIn (mkOf (isOut l.mark) false) = true := z
          rw [isIn_mkOf] at z
          cases z
      · by_cases hm : l.mark = .closed
        · have z : isOut (after .drain l.mark) = true := ho
          rw [hm] at z
          cases z
        · have z : isOut (after .drain l.mark) = true := ho
          rw [after_of hm (by decide)] at z
          have z : isOut (mkOf (isOut l.mark) false) = true := z
          rw [isOut_mkOf] at z
          exact h.oo z
      · by_cases hm : l.mark = .closed
        · have z : isOut (after .drain l.mark) = true := ho
          rw [hm] at z
          cases z
        · have z : isOut (after .drain l.mark) = true := ho
          rw [after_of hm (by decide)] at z
          have z : isOut (mkOf (isOut l.mark) false) = true := z
          rw [isOut_mkOf] at z
          exact h.ss z
    | close =>
      by_cases hm : l.mark = .closed
      · have e : l.step .close (x :: xs) why = l := if_pos hm
        rw [e]
        exact ⟨h, rfl, by omega⟩
      · have e : l.step .close (x :: xs) why = { l with mark := .closed, q := [], cause := why } := if_neg hm
        rw [e]
        exact ⟨⟨fun hi => (nomatch hi), fun ho => (nomatch ho), fun s hs => (nomatch hs), fun ho => (nomatch ho)⟩, rfl, Nat.zero_le _⟩
theorem step_cause {v : Wd} {tags : List Str} {why : Str} {l : Ln} : sca (stepIf v tags (.str why) l).cause = true ∨ (stepIf v tags (.str why) l).cause = l.cause := by
  unfold stepIf
  cases fault v l.mark l.q.length with
  | some f => exact Or.inr rfl
  | none =>
    show sca (l.step v tags (.str why)).cause = true ∨ (l.step v tags (.str why)).cause = l.cause
    cases v
    case close =>
      by_cases hm : l.mark = .closed
      · have e : l.step .close tags (.str why) = l := if_pos hm
        rw [e]
        exact Or.inr rfl
      · have e : l.step .close tags (.str why) = { l with mark := .closed, q := [], cause := .str why } := if_neg hm
        rw [e]
        exact Or.inl rfl
    all_goals exact Or.inr rfl
theorem pure_act {kept : Bool} {n j cnt c : Nat} {S : Sv} {x : Lo} {r : Rec} {qa kq : Addr} {v : Wd} {tags : List Str} {why : V} (Pu : PureOk kept n S) (hj : S.los[j]? = some x) (hr : S.rs[x.i]? = some r) (hd : ∀ (j' : Nat) (x' : Lo), S.los[j']? = some x' → x'.i = x.i → j' = j) (hlent : r.l.lent = true)
    (hne : tags ≠ []) (ht : ∀ s ∈ tags, TagOk x.start s) (hz : tags.length ≤ 2) (hc : cnt ≤ x.cnt + 2) :
    PureOk kept (n + 1) { S with rs := S.rs.set x.i { r with qa := qa, kq := kq, l := stepIf v tags why r.l }, los := S.los.set j { x with cnt := cnt }, sc := c } := by
  obtain ⟨p1, p2, p3, p4, p5, p6, p7⟩ := Pu
  obtain ⟨a1, a2, a3⟩ := p4 _ r hr
  obtain ⟨b1, b2⟩ := p5 j x hj
  have A := step_ok (v := v) (why := why) (P := fun _ => True) ⟨a2, a3, fun _ _ => trivial, fun _ => trivial⟩ hne (fun _ _ => trivial) hz
  have at_ : ∀ {j' : Nat} {r' : Rec}, (S.rs.set x.i { r with qa := qa, kq := kq, l := stepIf v tags why r.l })[j']? = some r' → (j' = x.i ∧ r' = { r with qa := qa, kq := kq, l := stepIf v tags why r.l }) ∨ (j' ≠ x.i ∧ S.rs[j']? = some r') := fun {j' r'} e => by
    by_cases h : x.i = j'
    · subst h
      rw [get_set_eq hr] at e
      exact Or.inl ⟨rfl, (Option.some.inj e).symm⟩
    · rw [get_set_ne h] at e
      exact Or.inr ⟨fun z => h z.symm, e⟩
  have lat_ : ∀ {j' : Nat} {x' : Lo}, (S.los.set j { x with cnt := cnt })[j']? = some x' → (j' = j ∧ x' = { x with cnt := cnt }) ∨ (j' ≠ j ∧ S.los[j']? = some x') := fun {j' x'} e => by
    by_cases h : j = j'
    · subst h
      rw [get_set_eq hj] at e
      exact Or.inl ⟨rfl, (Option.some.inj e).symm⟩
    · rw [get_set_ne h] at e
      exact Or.inr ⟨fun z => h z.symm, e⟩
  refine ⟨?_, ?_, Nat.le_succ_of_le p3, fun j' r' e => ?_, fun j' x' e => ?_, fun hk j' r' e hl hm' => ?_, fun hk j' x' r' e e' => ?_⟩
  · show (S.rs.set _ _).length ≤ _
    rw [List.length_set]
    omega
  · show (S.los.set _ _).length ≤ _
    rw [List.length_set]
    omega
  · rcases at_ e with ⟨rfl, rfl⟩ | ⟨_, e⟩
    · refine ⟨?_, A.1.ii, A.1.oo⟩
      have := A.2.2
      show (stepIf v tags why r.l).q.length ≤ _
      omega
    · obtain ⟨a1, a2, a3⟩ := p4 j' r' e
      exact ⟨by omega, a2, a3⟩
  · rcases lat_ e with ⟨rfl, rfl⟩ | ⟨_, e⟩
    · exact ⟨by show cnt ≤ _; omega, b2⟩
    · obtain ⟨b1, b2⟩ := p5 j' x' e
      exact ⟨by omega, b2⟩
  · rcases at_ e with ⟨rfl, rfl⟩ | ⟨_, e⟩
    · have z : (stepIf v tags why r.l).lent = false := hl
      rw [A.2.1, hlent] at z
      cases z
    · exact p6 hk j' r' e hl hm'
  · rcases lat_ e with ⟨rfl, rfl⟩ | ⟨hn, e⟩
    · rcases at_ e' with ⟨_, rfl⟩ | ⟨h, _⟩
      · obtain ⟨c1, c2⟩ := p7 hk _ x r hj hr
        have Z := step_ok (v := v) (why := why) (P := TagOk x.start) ⟨a2, a3, c1, c2⟩ hne ht hz
        exact ⟨Z.1.qq, Z.1.ss⟩
      · exact absurd rfl h
    · rcases at_ e' with ⟨h, _⟩ | ⟨_, e'⟩
      · exact absurd (hd j' x' e h) hn
      · exact p7 hk j' x' r' e e'
end OA

set_option maxHeartbeats 4000000
/-! The law acts on a loan. -/
namespace OA
open PySem PySem.Spec PyProof.Rows L2 OW
theorem seq_if_asg {tt : TT} {te : TE} {i : Nat} {REST : TS} {D : Ends} {σ : L2.St} {H : Hp} {v0 : V} (Pc : Bool → Hp → Prop) (Pv : V → Hp → Prop) (hσ : σ.set i (some v0) = σ)
    (htt : ∀ R : Bool → Hp → Prop, (∀ c H1, Pc c H1 → R c H1) → tt σ H R) (hte : ∀ H1, Pc true H1 → ∀ R : VK, (∀ v H2, Pv v H2 → R v H2) → te σ H1 R) (hno : ∀ H1, Pc false H1 → Pv v0 H1)
    (rest : ∀ v H2, Pv v H2 → REST D (σ.set i (some v)) H2) : tSeq (tIfS tt (tAsg te (gName i)) tNext) REST D σ H := by
  refine htt _ (fun c H1 hc => ?_)
  cases c with
  | false =>
    refine iteF ?_
    have z := rest v0 H1 (hno H1 hc)
    rw [hσ] at z
    exact z
  | true => exact iteT (hte H1 hc _ (fun v H2 hv => rest v H2 hv))
theorem eqv_pair {k : Nat} {H : Hp} {t t' : Addr} {a b a' b' : V} (h : H t = some (.tup [a, b])) (h' : H t' = some (.tup [a', b'])) (e1 : Eqv k H a a') (e2 : Eqv k H b b') : Eqv (k + 1) H (.ref t) (.ref t') := by
  refine Or.inr ⟨t, t', [a, b], [a', b'], rfl, rfl, rfl, (by show 2 ≤ 100000; decide), fun i u v hu hv => ?_, Or.inr ⟨h, h'⟩⟩
  match i, hu, hv with
  | 0, hu, hv =>
    cases hu
    cases hv
    exact e1
  | 1, hu, hv =>
    cases hu
    cases hv
    exact e2
theorem eqv_res {p p' : Addr → Prop} {H : Hp} {t t' : Addr} {v : Wd} {l : Ln} {n : Nat} (R : ResAt p H t v l n) (R' : ResAt p' H t' v l n) (hz : l.q.length ≤ 100000) : Eqv 3 H (.ref t) (.ref t') := by
  unfold ResAt at R R'
  cases hf : fault v l.mark l.q.length with
  | some f =>
    rw [hf] at R R'
    cases f <;> exact eqv_pair R R' (eqv_sc rfl rfl) (eqv_sc rfl rfl)
  | none =>
    rw [hf] at R R'
    cases v
    case drain =>
      obtain ⟨u, _, e1, e2⟩ := R
      obtain ⟨u', _, e1', e2'⟩ := R'
      exact eqv_pair e1 e1' (eqv_sc rfl rfl) (eqv_strs e2 e2' hz)
    all_goals exact eqv_pair R R' (eqv_sc rfl rfl) (eqv_sc rfl rfl)
theorem ResAt.keep {p : Addr → Prop} {H H' : Hp} {t a b C dx : Addr} {v : Wd} {l : Ln} {n : Nat} {fs : List (Str × V)} {xs : List V} (R : ResAt p H t v l n) (f : Fr2 H H' a b) (ha : H a = some (.ins C dx fs)) (hb : H b = some (.lst xs)) (hp : ∀ u, p u → u ≠ b) : ResAt p H' t v l n := by
  have T : ∀ {o : List V}, H t = some (.tup o) → H' t = some (.tup o) := fun e => f _ _ (ne_of e ha (fun z => nomatch z)) (ne_of e hb (fun z => nomatch z)) e
  unfold ResAt at R ⊢
  cases hf : fault v l.mark l.q.length with
  | some f =>
    rw [hf] at R
    cases f <;> exact T R
  | none =>
    rw [hf] at R
    cases v
    case drain =>
      obtain ⟨u, hu, e1, e2⟩ := R
      exact ⟨u, hu, T e1, f _ _ (ne_of e2 ha (fun z => nomatch z)) (hp u hu) e2⟩
    all_goals exact T R
theorem ResAt.same {p : Addr → Prop} {H H' : Hp} {t : Addr} {v : Wd} {l : Ln} {n : Nat} (R : ResAt p H t v l n) (s : Same H H') : ResAt p H' t v l n := by
  unfold ResAt at R ⊢
  cases hf : fault v l.mark l.q.length with
  | some f =>
    rw [hf] at R
    cases f <;> exact s _ _ R
  | none =>
    rw [hf] at R
    cases v
    case drain =>
      obtain ⟨u, hu, e1, e2⟩ := R
      exact ⟨u, hu, s _ _ e1, s _ _ e2⟩
    all_goals exact s _ _ R
theorem words10 : ∀ (i : Nat) (v : V), ([V.str "ask", .str "ask", .str "begin", .str "finish", .str "read", .str "read", .str "head", .str "body", .str "ask", .str "read"] : List V)[i]? = some v → ∃ w : Wd, v = .str w.s := by
  intro i v h
  match i, h with
  | 0, h => exact ⟨.ask, (Option.some.inj h).symm⟩
  | 1, h => exact ⟨.ask, (Option.some.inj h).symm⟩
  | 2, h => exact ⟨.begin, (Option.some.inj h).symm⟩
  | 3, h => exact ⟨.finish, (Option.some.inj h).symm⟩
  | 4, h => exact ⟨.read, (Option.some.inj h).symm⟩
  | 5, h => exact ⟨.read, (Option.some.inj h).symm⟩
  | 6, h => exact ⟨.head, (Option.some.inj h).symm⟩
  | 7, h => exact ⟨.body, (Option.some.inj h).symm⟩
  | 8, h => exact ⟨.ask, (Option.some.inj h).symm⟩
  | 9, h => exact ⟨.read, (Option.some.inj h).symm⟩
theorem words2 : ∀ (i : Nat) (v : V), ([V.str "drain", .str "close"] : List V)[i]? = some v → ∃ w : Wd, v = .str w.s := by
  intro i v h
  match i, h with
  | 0, h => exact ⟨.drain, (Option.some.inj h).symm⟩
  | 1, h => exact ⟨.close, (Option.some.inj h).symm⟩
theorem cut_tags {a b : Str} {d : Nat} {c : Bool} (hd : d < 2) : ∃ tags : List Str, cutV [.str a, .str b] none (some (1 + (d : Int) * (if c = true then 1 else 0))) = tags.map V.str ∧ tags.length ≤ 2 ∧ (∀ s ∈ tags, s = a ∨ s = b) ∧ tags[0]? = some a := by
  match d, c, hd with
  | 0, true, _ => exact ⟨[a], rfl, (by show 1 ≤ 2; decide), by simp, rfl⟩
  | 0, false, _ => exact ⟨[a], rfl, (by show 1 ≤ 2; decide), by simp, rfl⟩
  | 1, true, _ => exact ⟨[a, b], rfl, (by show 2 ≤ 2; decide), by simp, rfl⟩
  | 1, false, _ => exact ⟨[a], rfl, (by show 1 ≤ 2; decide), by simp, rfl⟩
theorem cut_start {a x : Str} : cutS (a ++ x) none (some (a.length : Nat)) = a := by
  have e1 : HT.sIx (a ++ x).length (a ++ x).length (some ((a.length : Nat) : Int)) = a.length := by
    rw [HT.sIx_nat, str_len]
    omega
  show (⟨(((a ++ x).cps.toList.drop 0).take (HT.sIx (a ++ x).length (a ++ x).length (some ((a.length : Nat) : Int)) - 0)).toArray⟩ : Str) = a
  rw [e1]
  have e2 : (a ++ x).cps.toList = a.cps.toList ++ x.cps.toList := Array.toList_append
  rw [e2, List.drop_zero, Nat.sub_zero]
  have e3 : a.length = a.cps.toList.length := (Array.length_toList).symm
  rw [e3, List.take_left']
  rfl
def sp_law_act (K : PySem.W.Frag) : Sp := fun vs H Q _ => ∃ (g : Gh) (B : Sta) (S : Sv) (kept : Bool) (n j : Nat) (x : Lo), vs = [.ref B.SR, .ref x.a, .bl kept] ∧ GI K g H B S ∧ PureOk kept n S ∧ S.los[j]? = some x ∧ n ≤ 300 ∧ S.sc ≤ 900000 ∧
  ∀ H' g' S', GI K g' H' B S' → PureOk kept (n + 1) S' → S'.sc ≤ S.sc + 4 → S'.los ≠ [] → Q (.bl true) H'
section
variable {P : Program} {w : World} {K : PySem.W.Frag} {mg : Str → Option Value} {base : Heap}
theorem sc__law_act : FnScope ["_law_source_here", "_law_loan", "_law_is_kept", "_law_line", "_law_now", "_law_start", "_law_count", "_law_word", "_law_tags", "_law_due_here"] ["_law_source_here", "_law_loan", "_law_is_kept"] (defScope (topS 45)) := ⟨rfl, rfl, rfl, by decide +kernel, rfl, by decide +kernel, by decide +kernel⟩
theorem ok__law_act (T : Tx P K mg) : GOk P w K mg base CX0 9 "_law_act" ["_law_source_here", "_law_loan", "_law_is_kept"] (sp_law_act K) := by
  obtain ⟨f__law_of, fd__law_of, G__law_of, m__law_of, k__law_of, b__law_of⟩ := ok__law_of (P := P) (w := w) (base := base) T
  obtain ⟨f__law_draw, fd__law_draw, G__law_draw, m__law_draw, k__law_draw, b__law_draw⟩ := ok__law_draw (P := P) (w := w) (base := base) T
  obtain ⟨f__law_due, fd__law_due, G__law_due, m__law_due, k__law_due, b__law_due⟩ := ok__law_due (P := P) (w := w) (base := base) T
  obtain ⟨f__law_same, fd__law_same, G__law_same, m__law_same, k__law_same, b__law_same⟩ := ok__law_same (P := P) (w := w) (base := base) T 3
  obtain ⟨f__law_call, fd__law_call, G__law_call, m__law_call, k__law_call, b__law_call⟩ := ok__law_call (P := P) (w := w) (base := base) T
  obtain ⟨f__law_stands, fd__law_stands, G__law_stands, m__law_stands, k__law_stands, b__law_stands⟩ := ok__law_stands (P := P) (w := w) (base := base) T
  obtain ⟨f, fd, F, gm⟩ := T.fn (45, "_law_act") (by decide +kernel)
  refine ⟨f, fd, ?_, gm, F.kp, F.binds fun _ _ _ _ _ _ us hl => match us, hl with | [_, _, _], _ => rfl⟩
  refine F.ok sc__law_act (fun vs H Q E h => ?_) (fun cdv A outer s H vs Q E hr h => ?_)
  · obtain ⟨_, _, _, _, _, _, _, rfl, _⟩ := h
    rfl
  have hu := hu_of hr
  refine ⟨_, (pss_cons (ps_asg (pv 1) (pg_unl (by rfl) (pgs_cons (pg_name (i := 3) sc__law_act.nd rfl (Or.inl rfl)) (pgs_cons (pg_name (i := 4) sc__law_act.nd rfl (Or.inl rfl)) (pgs_cons (pg_name (i := 5) sc__law_act.nd rfl (Or.inl rfl)) (pgs_cons (pg_name (i := 6) sc__law_act.nd rfl (Or.inl rfl)) pgs_nil))))))
      (pss_cons (ps_set (i := 7) sc__law_act.nd rfl (Or.inl rfl) (pe_call G__law_of (hr.mono (by decide)) rfl m__law_of k__law_of b__law_of .nil pass0 (pa_cons (pv 0) (pa_cons (pe_lst (pa_cons pe_str (pa_cons pe_str (pa_cons pe_str (pa_cons pe_str (pa_cons pe_str (pa_cons pe_str (pa_cons pe_str (pa_cons pe_str (pa_cons pe_str (pa_cons pe_str pa_nil))))))))))) pa_nil))))
      (pss_cons (ps_if (pt_cmpR op_eq (pe_call G__law_draw (hr.mono (by decide)) rfl m__law_draw k__law_draw b__law_draw .nil pass0 (pa_cons (pv 0) (pa_cons pe_int pa_nil))) pe_int (nomark _))
      (pss_one (ps_set (i := 7) sc__law_act.nd rfl (Or.inl rfl) (pe_call G__law_of (hr.mono (by decide)) rfl m__law_of k__law_of b__law_of .nil pass0 (pa_cons (pv 0) (pa_cons (pe_lst (pa_cons pe_str (pa_cons pe_str pa_nil))) pa_nil)))))
      pss_nil)
      (pss_cons (ps_set (i := 8) sc__law_act.nd rfl (Or.inl rfl) (pe_slice sl_list (pe_lst (pa_cons (pe_op op_add_str (pv 5) (pe_callTy call_str_int (by rfl) T.str (by decide +kernel) (pa_cons (pv 6) pa_nil))) (pa_cons (pe_op op_add_str (pv 5) (pe_callTy call_str_int (by rfl) T.str (by decide +kernel) (pa_cons (pe_op op_add (pv 6) pe_int) pa_nil))) pa_nil))) po_none (po_some (pe_op op_add pe_int (pe_op op_mul (pe_call G__law_draw (hr.mono (by decide)) rfl m__law_draw k__law_draw b__law_draw .nil pass0 (pa_cons (pv 0) (pa_cons pe_int pa_nil))) (pe_callTy call_int1 (by rfl) T.int (by decide +kernel) (pa_cons (pe_cmpR op_eq (pv 7) pe_str (nomark _)) pa_nil)))))))
      (pss_cons (ps_asg (pe_op op_add (pv 6) pe_int) (pg_sub (pv 1) pe_int set_list (fun _ => rfl)))
      (pss_cons (ps_set (i := 9) sc__law_act.nd rfl (Or.inl rfl) (pe_call G__law_due (hr.mono (by decide)) rfl m__law_due k__law_due b__law_due .nil pass0 (pa_cons (pv 4) (pa_cons (pv 7) (pa_cons (pv 8) (pa_cons pe_str pa_nil))))))
      (pss_cons (ps_if (pt_not (pt_val (pe_call G__law_same (hr.mono (by decide)) rfl m__law_same k__law_same b__law_same .nil pass0 (pa_cons (pe_call G__law_call (hr.mono (by decide)) rfl m__law_call k__law_call b__law_call .nil pass0 (pa_cons (pv 3) (pa_cons (pv 7) (pa_cons (pv 8) (pa_cons pe_str pa_nil))))) (pa_cons (pv 9) pa_nil)))))
      (pss_one (ps_ret pe_bl))
      pss_nil)
      (pss_cons (ps_if (PW.pt (pw_and (pt_cmpR op_in_seq (pv 7) (pe_tup (pa_cons pe_str (pa_cons pe_str (pa_cons pe_str pa_nil)))) (by rfl)) (pw_and (pt_cmpR op_eq (pe_ix ix_tup (pv 9) pe_int (fun _ _ => rfl)) pe_str (nomark _)) (pw_and1 (pt_not (pt_val (pv 2)))))))
      (pss_one (ps_if (pt_cmpR op_ne (pe_slice sl_str (pe_ix ix_tup (pv 9) pe_int (fun _ _ => rfl)) po_none (po_some (pe_callB call_len_str (by rfl) T.len PySem.boot_len (pa_cons (pv 5) pa_nil)))) (pv 5) (nomark _))
      (pss_one (ps_ret pe_bl))
      pss_nil))
      pss_nil)
      (pss_one (ps_ret (pe_call G__law_stands (hr.mono (by decide)) rfl m__law_stands k__law_stands b__law_stands .nil pass0 (pa_cons (pv 3) (pa_cons (pv 4) (pa_cons (pe_ix ix_list (pv 8) pe_int (fun _ _ => rfl)) pa_nil)))))))))))))), ?_⟩
  obtain ⟨g, B, S, kept, n, j, x, rfl, G, Pu, hj, hn, hsc, k⟩ := h
  obtain ⟨r, hr, hlent, X⟩ := G.lo j x hj
  obtain ⟨hcn, hst⟩ := Pu.cn j x hj
  refine ⟨_, rfl, x.a, _, rfl, SqL.of X.h, rfl, _, _, rfl, _, _, rfl, _, _, rfl, _, _, rfl, rfl, ?_⟩
  refine ⟨_, rfl, (by show 10 ≤ sizeLine; decide), fun p hp => ⟨B.SR, p, _, S.sc, rfl, (G.same (Same.new hp)).SR, by omega, upd_same, (fun z => ?_), (by show 1 ≤ 10; decide), (by show 10 ≤ 1000; decide), fun H2 i v hv fr S2 => ?_⟩⟩
  · obtain ⟨_, _, _, q, _⟩ := G.SR.at_
    rw [z, hp] at q
    cases q
  have G2 := (G.same (Same.new hp)).src fr S2
  obtain ⟨w0, rfl⟩ := words10 i v hv
  dsimp only [gName]
  refine seq_if_asg (i := 7) (Pc := fun _ H => GI K g H B { S with sc := S.sc + 2 }) (Pv := fun v H => ∃ w : Wd, v = .str w.s ∧ ∃ c, c ≤ S.sc + 3 ∧ GI K g H B { S with sc := c }) (v0 := .str w0.s) (by rfl) (fun R h => ?_) (fun H3 G3 R h => ?_) (fun H3 G3 => ⟨w0, rfl, S.sc + 2, by omega, G3⟩) ?_
  · exact ⟨_, rfl, B.SR, 12, S.sc + 1, rfl, G2.SR, by omega, by decide, by decide, fun H3 i hi fr S3 => ⟨rfl, _, rfl, h _ H3 (G2.src fr S3)⟩⟩
  · refine ⟨_, rfl, (by show 2 ≤ sizeLine; decide), fun p hp => ⟨B.SR, p, _, S.sc + 2, rfl, (G3.same (Same.new hp)).SR, by omega, upd_same, (fun z => ?_), (by show 1 ≤ 2; decide), (by show 2 ≤ 1000; decide), fun H4 i v hv fr S4 => ?_⟩⟩
    · obtain ⟨_, _, _, q, _⟩ := G3.SR.at_
      rw [z, hp] at q
      cases q
    · obtain ⟨w1, e1⟩ := words2 i v hv
      exact h _ _ ⟨w1, e1, S.sc + 3, by omega, (G3.same (Same.new hp)).src fr S4⟩
  rintro v H4 ⟨wd, rfl, c4, hc4, G4⟩
  have lg1 : ((x.cnt : Nat) : Int).natAbs.log2 < 1920 := Nat.lt_of_le_of_lt (Nat.log2_le_self _) (by omega)
  have lg2 : (((x.cnt : Nat) : Int) + 1).natAbs.log2 < 1920 := Nat.lt_of_le_of_lt (Nat.log2_le_self _) (by omega)
  have nl1 := num_len (n := x.cnt) (by omega)
  have nl2 : (Str.ofString (toString (((x.cnt : Nat) : Int) + 1))).length ≤ 10 := num_len (n := x.cnt + 1) (by omega)
  refine ⟨_, rfl, _, rfl, _, rfl, lg1, _, _, rfl, rfl, (by rw [sizeLine_eq]; omega), _, rfl, _, rfl, _, _, rfl, rfl, _, rfl, lg2, _, _, rfl, rfl, (by rw [sizeLine_eq]; omega), (by show 2 ≤ sizeLine; decide), fun tp htp => ?_⟩
  have T1 : TagOk x.start (x.start ++ Str.ofString (toString ((x.cnt : Nat) : Int))) := ⟨_, rfl, nl1⟩
  have T2 : TagOk x.start (x.start ++ Str.ofString (toString (((x.cnt : Nat) : Int) + 1))) := ⟨_, rfl, nl2⟩
  generalize x.start ++ Str.ofString (toString ((x.cnt : Nat) : Int)) = t1 at T1 ⊢
  generalize x.start ++ Str.ofString (toString (((x.cnt : Nat) : Int) + 1)) = t2 at T2 ⊢
  have Gp := G4.same (Same.new (o := .lst [.str t1, .str t2]) htp)
  have tpR : tp ≠ B.SR := fun z => by
    obtain ⟨_, _, _, q, _⟩ := G4.SR.at_
    rw [← z, htp] at q
    cases q
  refine ⟨_, rfl, B.SR, 2, c4, rfl, Gp.SR, by omega, by decide, by decide, fun H5 d hd fr5 S5 => ?_⟩
  have G5 := Gp.src fr5 S5
  have tp5 : H5 tp = some (.lst [.str t1, .str t2]) := fr5 _ _ tpR tpR upd_same
  refine ⟨_, rfl, rfl, .inr ⟨_, rfl, _, _, rfl, rfl, (Or.inl ⟨by omega, by omega⟩), _, _, rfl, rfl, _, rfl, tp, _, rfl, SqL.of tp5, fun tg htg => ?_⟩⟩
  obtain ⟨tags, et, hlen, hall, h0⟩ := cut_tags (a := t1) (b := t2) (d := d) (c := decide (V.str wd.s = V.str "ask")) hd
  have hne : tags ≠ [] := fun z => by
    rw [z] at h0
    cases h0
  have hT : ∀ s ∈ tags, TagOk x.start s := fun s hs => by
    rcases hall s hs with rfl | rfl
    · exact T1
    · exact T2
  have e6 : upd H5 tg (.lst (cutV [.str t1, .str t2] none (some (1 + (d : Int) * (if decide (V.str wd.s = V.str "ask") = true then 1 else 0))))) = upd H5 tg (.lst (tags.map V.str)) := by rw [et]
  refine Eq.mpr (congrArg (fun Z => tSeq _ _ _ _ Z) e6) ?_
  clear e6 et
  have tgx : H5 tg = none := htg
  have s56 : Same H5 (upd H5 tg (.lst (tags.map V.str))) := Same.new htg
  have tg6 : upd H5 tg (.lst (tags.map V.str)) tg = some (.lst (tags.map V.str)) := upd_same
  generalize upd H5 tg (.lst (tags.map V.str)) = H6 at s56 tg6 ⊢
  have G6 := G5.same s56
  obtain ⟨r6, hr6, _, X6⟩ := G6.lo j x hj
  have hr6' : S.rs[x.i]? = some r6 := hr6
  rw [hr] at hr6'
  cases hr6'
  have R6 := G6.ln x.i r hr
  have nxtg : tg ≠ x.a := fun z => by
    obtain ⟨_, _, _, q⟩ := G5.lo j x hj
    rw [z, q.h] at tgx
    cases tgx
  have tgqa : tg ≠ r.qa := fun z => by
    have q := (G5.ln x.i r hr).qa.h
    rw [← z, tgx] at q
    cases q
  refine ⟨_, rfl, _, _, rfl, rfl, _, rfl, x.a, _, _, 3, rfl, rfl, X6.h, rfl, ?_⟩
  have f7 : FrP (fun y => y = B.SR ∨ y = x.a ∨ y = r.nw ∨ y = r.a ∨ y = r.qa) H5 (upd H6 x.a (.lst [.ref r.a, .ref r.nw, .str x.start, .int ((x.cnt + 2 : Nat) : Int)])) := FrP.upd (FrP.same FrP.refl s56) (Or.inr (Or.inl rfl))
  have keep7 : ∀ {y : Addr} {s : Ro} {o : HO}, Own g H6 y s o → s ≠ .lo x.i → upd H6 x.a (.lst [.ref r.a, .ref r.nw, .str x.start, .int ((x.cnt + 2 : Nat) : Int)]) y = some o := fun h n => by
    rw [upd_ne (h.ne X6.g n)]
    exact h.h
  have L7 : LineAt K (upd H6 x.a (.lst [.ref r.a, .ref r.nw, .str x.start, .int ((x.cnt + 2 : Nat) : Int)])) r.a r.dx x.i r.l r.qa := ⟨keep7 R6.a (fun z => nomatch z), keep7 R6.qa (fun z => nomatch z)⟩
  have N7 : NowAt (upd H6 x.a (.lst [.ref r.a, .ref r.nw, .str x.start, .int ((x.cnt + 2 : Nat) : Int)])) r.nw x.i r.l r.kq := ⟨keep7 R6.nw (fun z => nomatch z), keep7 R6.kq (fun z => nomatch z)⟩
  have tg7 : upd H6 x.a (.lst [.ref r.a, .ref r.nw, .str x.start, .int ((x.cnt + 2 : Nat) : Int)]) tg = some (.lst (tags.map V.str)) := by
    rw [upd_ne nxtg]
    exact tg6
  have X7 : upd H6 x.a (.lst [.ref r.a, .ref r.nw, .str x.start, .int ((x.cnt + 2 : Nat) : Int)]) x.a = some (.lst [.ref r.a, .ref r.nw, .str x.start, .int ((x.cnt + 2 : Nat) : Int)]) := upd_same
  have S7 : SrcAt (upd H6 x.a (.lst [.ref r.a, .ref r.nw, .str x.start, .int ((x.cnt + 2 : Nat) : Int)])) B.SR (c4 + 1) := G6.SR.keep (fun o h => by
    rw [upd_ne (fun z => by
      have q := X6.g
      rw [← z, G6.SRg] at q
      cases q)]
    exact h)
  refine (show tSeq _ _ _ _ (upd H6 x.a (.lst [.ref r.a, .ref r.nw, .str x.start, .int ((x.cnt + 2 : Nat) : Int)])) from ?_)
  generalize upd H6 x.a (.lst [.ref r.a, .ref r.nw, .str x.start, .int ((x.cnt + 2 : Nat) : Int)]) = H7 at f7 L7 N7 tg7 X7 S7 ⊢
  obtain ⟨hq, hib, hob⟩ := Pu.ln x.i r hr
  refine ⟨_, rfl, _, rfl, _, rfl, r.nw, r.kq, tg, x.i, r.l, wd, tags, .str "own", rfl, N7, tg7, hne, by omega, by omega, hob, hib, fun H8 kq t f8 hkq ht N8 R8 => ?_⟩
  have awn : r.a ≠ r.nw := ne_of L7.obj N7.obj (fun z => nomatch z)
  have qwn : r.qa ≠ r.nw := ne_of L7.que N7.obj (fun z => nomatch z)
  have L8 : LineAt K H8 r.a r.dx x.i r.l r.qa := ⟨f8 _ _ awn awn L7.obj, f8 _ _ qwn qwn L7.que⟩
  have tgn : tg ≠ r.nw := ne_of tg7 N7.obj (fun z => nomatch z)
  have tg8 := f8 _ _ tgn tgn tg7
  have xn : x.a ≠ r.nw := ne_of X7 N7.obj (fun z => nomatch z)
  have X8 := f8 _ _ xn xn X7
  have S8 : SrcAt H8 B.SR (c4 + 1) := S7.keep (fun o h => by
    have hn : B.SR ≠ r.nw := fun z => by
      obtain ⟨_, _, _, q, _⟩ := S7.at_
      rw [z, N7.obj] at q
      cases q
    exact f8 _ _ hn hn h)
  have F8 := FrP.fr2 f7 f8 (Or.inr (Or.inr (Or.inl rfl))) (Or.inr (Or.inr (Or.inl rfl)))
  refine ⟨_, rfl, _, rfl, _, rfl, r.a, r.dx, r.qa, tg, x.i, r.l, wd, tags, "own", rfl, L8, tg8, hne, by omega, by omega, hib, fun H9 qa t2 f9 hqa L9 R9 => ?_⟩
  have una : ∀ u, H7 u = none → u ≠ r.qa := fun u hu z => by
    rw [z, L7.que] at hu
    cases hu
  have R89 := R8.keep f9 L8.obj L8.que una
  refine ⟨_, rfl, _, _, rfl, eqv_res R9 R89 (by omega), fun H10 s10 => ⟨_, rfl, iteF' rfl ?_⟩⟩
  have kqq : kq ≠ r.qa := by
    rcases hkq with h | h
    · rw [h]
      exact R6.kq.ne R6.qa.g (fun z => nomatch z)
    · exact una kq h
  have dqk : qa ≠ kq := by
    rcases hqa with h | h
    · rw [h]
      exact kqq.symm
    · intro z
      rw [z, N8.que] at h
      cases h
  have N9 : NowAt H9 r.nw x.i (stepIf wd tags (.str "own") r.l) kq := ⟨f9 _ _ awn.symm qwn.symm N8.obj, f9 _ _ (ne_of N8.que L8.obj (fun z => nomatch z)) kqq N8.que⟩
  have tg9 := f9 _ _ (ne_of tg8 L8.obj (fun z => nomatch z)) tgqa tg8
  have xq : x.a ≠ r.qa := X6.ne R6.qa.g (fun z => nomatch z)
  have X9 := f9 _ _ (ne_of X8 L8.obj (fun z => nomatch z)) xq X8
  have S9 : SrcAt H9 B.SR (c4 + 1) := S8.keep (fun o h => by
    have hq9 : B.SR ≠ r.qa := fun z => by
      have q := R6.qa.g
      rw [← z, G6.SRg] at q
      cases q
    have ha9 : B.SR ≠ r.a := fun z => by
      have q := R6.a.g
      rw [← z, G6.SRg] at q
      cases q
    exact f9 _ _ ha9 hq9 h)
  have F9 := FrP.fr2 F8 f9 (Or.inr (Or.inr (Or.inr (Or.inl rfl)))) (Or.inr (Or.inr (Or.inr (Or.inr rfl))))
  have ex7 : ∀ y, (y = B.SR ∨ y = x.a ∨ y = r.nw ∨ y = r.a ∨ y = r.qa) → ∃ o, H7 y = some o := fun y z => by
    rcases z with rfl | rfl | rfl | rfl | rfl
    · obtain ⟨_, _, _, q, _⟩ := S7.at_
      exact ⟨_, q⟩
    · exact ⟨_, X7⟩
    · exact ⟨_, N7.obj⟩
    · exact ⟨_, L7.obj⟩
    · exact ⟨_, L7.que⟩
  have ex8 : ∀ y, (y = B.SR ∨ y = x.a ∨ y = r.nw ∨ y = r.a ∨ y = r.qa) → ∃ o, H8 y = some o := fun y z => by
    rcases z with rfl | rfl | rfl | rfl | rfl
    · obtain ⟨_, _, _, q, _⟩ := S8.at_
      exact ⟨_, q⟩
    · exact ⟨_, X8⟩
    · exact ⟨_, N8.obj⟩
    · exact ⟨_, L8.obj⟩
    · exact ⟨_, L8.que⟩
  have hkq0 : kq = r.kq ∨ H5 kq = none := hkq.imp id (fun h => FrP.back f7 ex7 h)
  have hqa0 : qa = r.qa ∨ H5 qa = none := hqa.imp id (fun h => FrP.back F8 ex8 h)
  have st := step_ok (v := wd) (why := .str "own") (P := fun _ => True) (l := r.l) ⟨hib, hob, fun _ _ => trivial, fun _ => trivial⟩ hne (fun _ _ => trivial) hlen
  obtain ⟨g', G9⟩ := G5.act (cnt := x.cnt + 2) (c := c4 + 1) hj hr rfl F9 hqa0 hkq0 dqk L9 N9 (st.2.1.trans hlent) step_cause X9 S9
  have Pu' := pure_act (qa := qa) (kq := kq) (v := wd) (why := .str "own") (cnt := x.cnt + 2) (c := c4 + 1) Pu hj hr (fun j' x' e z => G.dj _ _ _ _ e hj z) hlent hne hT hlen (Nat.le_refl _)
  have cz : Eqv 3 H9 (stepIf wd tags (.str "own") r.l).cause (stepIf wd tags (.str "own") r.l).cause := by
    rcases step_cause (v := wd) (tags := tags) (why := "own") (l := r.l) with h | h
    · exact eqv_sc rfl h
    · rw [h]
      have R5 := G5.ln x.i r hr
      obtain ⟨_, _, _, X5⟩ := G5.lo j x hj
      exact cause_at R5.cause F9 (fun y z e => by
        rcases z with rfl | rfl | rfl | rfl | rfl
        · exact (fun q => nomatch q) (Option.some.inj (e.symm.trans G5.SRg))
        · exact (fun q => nomatch q) (Option.some.inj (e.symm.trans X5.g))
        · exact (fun q => nomatch q) (Option.some.inj (e.symm.trans R5.nw.g))
        · exact (fun q => nomatch q) (Option.some.inj (e.symm.trans R5.a.g))
        · exact (fun q => nomatch q) (Option.some.inj (e.symm.trans R5.qa.g)))
  have fin : ∀ H11, Same H9 H11 → ∀ D : Ends, D.rt = Q → ∀ σ : L2.St, σ[3]? = some (some (.ref r.a)) → σ[4]? = some (some (.ref r.nw)) → σ[8]? = some (some (.ref tg)) →
      tRet (tCall (sp_law_stands K) [] E0 (tCons (tVar 3) (tCons (tVar 4) (tCons (tOp (rIxL K) (tVar 8) (tC (.int 0))) tNil)))) D σ H11 := by
    intro H11 s11 D hD σ h3 h4 h8
    refine ⟨_, h3, _, h4, _, h8, tg, _, _, .str t1, rfl, rfl, SqL.of (s11 _ _ tg9), atI_nat (j := 0) (by rw [List.getElem?_map, h0]; rfl), ?_⟩
    refine ⟨r.a, r.dx, qa, r.nw, kq, x.i, stepIf wd tags (.str "own") r.l, t1, rfl, L9.same s11, N9.same s11, cz.same s11, (by have := st.2.2; omega), fun H12 s12 => ?_⟩
    rw [hD]
    refine k H12 g' _ (G9.same (s11.trans s12)) Pu' (by show c4 + 1 ≤ _; omega) ?_
    show S.los.set j _ ≠ []
    intro z
    have := congrArg List.length z
    rw [List.length_set] at this
    have hjl := (List.getElem?_eq_some_iff.mp hj).1
    simp at this
    rw [this] at hjl
    cases hjl
  refine ⟨_, rfl, (by show 3 ≤ sizeLine; decide), fun t3 e3 => ⟨t3, _, rfl, .inr (SqT.of upd_same), rfl, by decide +kernel, _, rfl, ?_⟩⟩
  have s11 := sput (o := .tup [.str "read", .str "head", .str "body"]) s10 e3
  by_cases hw : wd = .read ∨ wd = .head ∨ wd = .body
  · refine iteT' (by rcases hw with rfl | rfl | rfl <;> decide +kernel) ?_
    have R11 := R89.same s11
    cases hf : fault wd r.l.mark r.l.q.length with
    | some f =>
      obtain ⟨v2, hv2⟩ : ∃ v2, upd H10 t3 (.tup [.str "read", .str "head", .str "body"]) t = some (.tup [.str f.s, v2]) := by
        unfold ResAt at R11
        rw [hf] at R11
        cases f <;> exact ⟨_, R11⟩
      refine ⟨_, rfl, t, _, _, .str f.s, rfl, rfl, SqT.of hv2, atI_nat (j := 0) rfl, rfl, _, rfl, iteF' (by cases f <;> decide +kernel) ?_⟩
      exact fin _ s11 _ rfl _ rfl rfl rfl
    | none =>
      have hv2 : upd H10 t3 (.tup [.str "read", .str "head", .str "body"]) t = some (.tup [.str "told", .str (r.l.q.headD "")]) := by
        unfold ResAt at R11
        rw [hf] at R11
        rcases hw with rfl | rfl | rfl <;> exact R11
      refine ⟨_, rfl, t, _, _, .str "told", rfl, rfl, SqT.of hv2, atI_nat (j := 0) rfl, rfl, _, rfl, iteT' (by decide +kernel) ⟨_, rfl, _, rfl, ?_⟩⟩
      cases kept with
      | true => exact iteF' rfl (fin _ s11 _ rfl _ rfl rfl rfl)
      | false =>
        obtain ⟨q1, q2⟩ := Pu.tg rfl j x r hj hr
        have hqn : r.l.q ≠ [] := by
          rcases hw with rfl | rfl | rfl
          · exact ne_read (Or.inl rfl) hf
          · exact ne_read (Or.inr rfl) hf
          · exact ne_body hf hib
        have hmem : r.l.q.headD "" ∈ r.l.q := by
          cases e : r.l.q with
          | nil => exact absurd e hqn
          | cons y ys => simp
        obtain ⟨y, ey, hy⟩ := q1 _ hmem
        rw [ey] at hv2
        refine iteT' rfl ⟨_, rfl, t, _, _, .str (x.start ++ y), rfl, rfl, SqT.of hv2, atI_nat (j := 1) rfl, _, rfl, _, rfl, (by rw [sizeLine_eq]; omega), _, rfl, _, rfl, (by rw [str_len, sizeLine_eq]; omega), ?_⟩
        rw [cut_start]
        refine ⟨_, rfl, rfl, _, rfl, iteF' (by simp) ?_⟩
        exact fin _ s11 _ rfl _ rfl rfl rfl
  · refine iteF' (by cases wd <;> first | decide +kernel | exact absurd (by simp) hw) ?_
    exact fin _ s11 _ rfl _ rfl rfl rfl
end
end OA

set_option maxHeartbeats 4000000
/-! The law gives a line back. -/
namespace OA
open PySem PySem.Spec PyProof.Rows L2 OW
def WOk (kept : Bool) (B : Sta) : Prop := kept = false → B.e ≠ .keep ∧ B.f ≠ .keep ∧ B.w ≠ .keep ∧ B.u0 ≠ .keep ∧ B.u1 ≠ .keep
theorem giveN_un (u : Dw) (l : Ln) : giveN u (unlent l) = giveN u l := rfl
theorem giveL_un (u : Dw) (why : V) (l : Ln) : giveL u why (unlent l) = unlent (giveL u why l) := by
  have e : mustClose u (unlent l) = mustClose u l := rfl
  unfold giveL
  rw [e]
  by_cases h1 : l.mark = .closed ∨ u = .keep
  · rw [if_pos h1, if_pos (show (unlent l).mark = .closed ∨ u = .keep from h1)]
  · rw [if_neg h1, if_neg (show ¬ ((unlent l).mark = .closed ∨ u = .keep) from h1)]
    cases mustClose u l
    · rw [if_neg Bool.false_ne_true, if_neg Bool.false_ne_true]
      by_cases h2 : u = .check
      · rw [if_pos h2, if_pos h2]
      · rw [if_neg h2, if_neg h2]
    · rw [if_pos rfl, if_pos rfl]
/-- the four ways a line may leave a giving back -/
theorem giveL_cases (u : Dw) (why : V) (l : Ln) : (giveL u why l = l ∧ (l.mark = .closed ∨ u = .keep ∨ clean l = true)) ∨ giveL u why l = { l with mark := .closed, q := [], cause := why } ∨ giveL u why l = { l with mark := .whole, q := [] } := by
  unfold giveL
  by_cases h1 : l.mark = .closed ∨ u = .keep
  · rw [if_pos h1]
    exact Or.inl ⟨rfl, h1.elim Or.inl (fun h => Or.inr (Or.inl h))⟩
  · rw [if_neg h1]
    cases hm : mustClose u l
    · rw [if_neg Bool.false_ne_true]
      by_cases h2 : u = .check
      · rw [if_pos h2]
        subst h2
        have z : (!clean l) = false := hm
        exact Or.inl ⟨rfl, Or.inr (Or.inr (by simpa using z))⟩
      · rw [if_neg h2]
        exact Or.inr (Or.inr rfl)
    · rw [if_pos rfl]
      exact Or.inr (Or.inl rfl)
theorem pure_give {kept : Bool} {n i c th : Nat} {S : Sv} {r : Rec} {qa kq t ts : Addr} {u : Dw} {why : V} {lost : List Nat} (Pu : PureOk kept n S) (hr : S.rs[i]? = some r) (hout : ∀ (j : Nat) (x' : Lo), S.los[j]? = some x' → x'.i ≠ i) (hu : kept = false → u ≠ .keep) (hl : lost.length ≤ S.lost.length + 1) :
    PureOk kept (n + 1) { S with rs := S.rs.set i { r with qa := qa, kq := kq, l := giveL u why (unlent r.l) }, lost := lost, th := th, sc := c, t := t, ts := ts } := by
  obtain ⟨p1, p2, p3, p4, p5, p6, p7⟩ := Pu
  obtain ⟨a1, a2, a3⟩ := p4 _ r hr
  have at_ : ∀ {j' : Nat} {r' : Rec}, (S.rs.set i { r with qa := qa, kq := kq, l := giveL u why (unlent r.l) })[j']? = some r' → (j' = i ∧ r' = { r with qa := qa, kq := kq, l := giveL u why (unlent r.l) }) ∨ (j' ≠ i ∧ S.rs[j']? = some r') := fun {j' r'} e => by
    by_cases h : i = j'
    · subst h
      rw [get_set_eq hr] at e
      exact Or.inl ⟨rfl, (Option.some.inj e).symm⟩
    · rw [get_set_ne h] at e
      exact Or.inr ⟨fun z => h z.symm, e⟩
  refine ⟨?_, by show S.los.length ≤ _; omega, by show lost.length ≤ _; omega, fun j' r' e => ?_, fun j' x' e => ?_, fun hk j' r' e hl hm' => ?_, fun hk j' x' r' e e' => ?_⟩
  · show (S.rs.set _ _).length ≤ _
    rw [List.length_set]
    omega
  · rcases at_ e with ⟨rfl, rfl⟩ | ⟨_, e⟩
    · show (giveL u why (unlent r.l)).q.length ≤ _ ∧ (isIn (giveL u why (unlent r.l)).mark = true → (giveL u why (unlent r.l)).q ≠ []) ∧ (isOut (giveL u why (unlent r.l)).mark = true → (giveL u why (unlent r.l)).bgn = .str (giveL u why (unlent r.l)).snd)
      rcases giveL_cases u why (unlent r.l) with ⟨h, _⟩ | h | h <;> rw [h]
      · exact ⟨by show r.l.q.length ≤ _; omega, a2, a3⟩
      · exact ⟨Nat.zero_le _, fun h => (nomatch h), fun h => (nomatch h)⟩
      · exact ⟨Nat.zero_le _, fun h => (nomatch h), fun h => (nomatch h)⟩
    · obtain ⟨a1, a2, a3⟩ := p4 j' r' e
      exact ⟨by omega, a2, a3⟩
  · obtain ⟨b1, b2⟩ := p5 j' x' e
    exact ⟨by omega, b2⟩
  · rcases at_ e with ⟨rfl, rfl⟩ | ⟨_, e⟩
    · have hm2 : (giveL u why (unlent r.l)).mark ≠ .closed := hm'
      show clean (giveL u why (unlent r.l)) = true
      rcases giveL_cases u why (unlent r.l) with ⟨h, h2⟩ | h | h
      · rw [h] at hm2 ⊢
        rcases h2 with h2 | h2 | h2
        · exact absurd h2 hm2
        · exact absurd h2 (hu hk)
        · exact h2
      · rw [h] at hm2
        exact absurd rfl hm2
      · rw [h]
        exact decide_eq_true ⟨rfl, rfl⟩
    · exact p6 hk j' r' e hl hm'
  · rcases at_ e' with ⟨h, _⟩ | ⟨_, e'⟩
    · exact absurd h (hout j' x' e)
    · exact p7 hk j' x' r' e e'
def rsn : Wy → Nat
  | .done | .ret1 => 0 | .fail2 => 1 | .cut2 | .cut3 => 2
theorem word_get (e f w u0 u1 : Dw) (y : Wy) : (valV (two u0 u1) y.k).getD (.str (byReason e f w y).s) = .str (wordOf e f w u0 u1 y).s := by cases y <;> rfl
theorem reason_v {K : PySem.W.Frag} {σ : L2.St} {H : Hp} {Q : VK} {i : Nat} {wp : Addr} {y : Wy} (hv : σ[i]? = some (some (.ref wp))) (hW : H wp = some (.tup (Wy.t y))) (q : ∀ H', Same H H' → Q (.int (rsn y : Nat)) H') :
    tIf (tOr (tTest (tOp (rEqNilT K) (tVar i) (tTup tNil))) (tTest (tOp rEq (tOp (rIxT K) (tVar i) (tC (.int 0))) (tC (.str "return"))))) (tC (.int 0))
      (tBM K "list" (rIndex K) (tLst (tCons (tC (.str "")) (tCons (tC (.str "fail")) (tCons (tC (.str "cut")) tNil)))) (tCons (tOp (rIxT K) (tVar i) (tC (.int 0))) tNil)) σ H Q := by
  refine ⟨_, hv, Nat.zero_le _, fun e0 he0 => ⟨wp, e0, _, rfl, rfl, SqT.of (Same.new he0 _ _ hW), SqT.of upd_same, _, rfl, ?_⟩⟩
  have s0 := Same.new (o := .tup []) he0
  have hW0 := s0 _ _ hW
  have idx : ∀ (w0 : Str) (j : Nat) (z : List V), Wy.t y = .str w0 :: z → ([V.str "", .str "fail", .str "cut"] : List V)[j]? = some (.str w0) → (∀ m z', m < j → ([V.str "", .str "fail", .str "cut"] : List V)[m]? = some z' → eqV z' (.str w0) = false) → eqV (.str w0) (.str w0) = true → rsn y = j →
      tBM K "list" (rIndex K) (tLst (tCons (tC (.str "")) (tCons (tC (.str "fail")) (tCons (tC (.str "cut")) tNil)))) (tCons (tOp (rIxT K) (tVar i) (tC (.int 0))) tNil) σ (upd H e0 (.tup [])) Q := by
    intro w0 j z ey hj hno he hr
    refine ⟨(by show 3 ≤ sizeLine; decide), fun l hl => ⟨.inl ⟨rfl, _, SqL.of upd_same⟩, _, hv, wp, _, _, .str w0, rfl, rfl, SqT.of (Same.new hl _ _ hW0), atI_nat (j := 0) (by rw [ey]; rfl), ?_⟩⟩
    refine ⟨l, _, .str w0, j, .str w0, rfl, rfl, SqL.of upd_same, rfl, by decide +kernel, hj, he, hno, ?_⟩
    rw [← hr]
    exact q _ (sput s0 hl)
  cases y with
  | done =>
    refine iteT' rfl ?_
    refine iteT ?_
    exact q _ s0
  | ret1 =>
    refine iteF' rfl ⟨_, hv, wp, _, _, .str "return", rfl, rfl, SqT.of hW0, atI_nat (j := 0) rfl, rfl, _, rfl, iteT' (by decide +kernel) ?_⟩
    exact q _ s0
  | fail2 => exact iteF' rfl ⟨_, hv, wp, _, _, .str "fail", rfl, rfl, SqT.of hW0, atI_nat (j := 0) rfl, rfl, _, rfl, iteF' (by decide +kernel) (idx "fail" 1 _ rfl rfl (fun m z' hm hz => by
      match m, hm, hz with
      | 0, _, hz =>
        cases hz
        decide +kernel) (by decide +kernel) rfl)⟩
  | cut2 => exact iteF' rfl ⟨_, hv, wp, _, _, .str "cut", rfl, rfl, SqT.of hW0, atI_nat (j := 0) rfl, rfl, _, rfl, iteF' (by decide +kernel) (idx "cut" 2 _ rfl rfl (fun m z' hm hz => by
      match m, hm, hz with
      | 0, _, hz =>
        cases hz
        decide +kernel
      | 1, _, hz =>
        cases hz
        decide +kernel) (by decide +kernel) rfl)⟩
  | cut3 => exact iteF' rfl ⟨_, hv, wp, _, _, .str "cut", rfl, rfl, SqT.of hW0, atI_nat (j := 0) rfl, rfl, _, rfl, iteF' (by decide +kernel) (idx "cut" 2 _ rfl rfl (fun m z' hm hz => by
      match m, hm, hz with
      | 0, _, hz =>
        cases hz
        decide +kernel
      | 1, _, hz =>
        cases hz
        decide +kernel) (by decide +kernel) rfl)⟩
def sp_law_give (K : PySem.W.Frag) : Sp := fun vs H Q _ => ∃ (g : Gh) (B : Sta) (S : Sv) (kept : Bool) (n : Nat) (x : Lo) (r : Rec), vs = [.ref B.SR, .ref B.p, .ref x.a, .ref B.WL, .ref B.SU] ∧ GI K g H B S ∧ PureOk kept n S ∧ WOk kept B ∧ S.rs[x.i]? = some r ∧ r.l.lent = true ∧ Own g H x.a (.lo x.i) (.lst (loanL r x)) ∧
  (∀ (j : Nat) (x' : Lo), S.los[j]? = some x' → x'.i ≠ x.i) ∧ n ≤ 300 ∧ S.sc ≤ 900000 ∧
  ∀ H' g' S', GI K g' H' B S' → PureOk kept (n + 1) S' → S'.sc ≤ S.sc + 4 → Q (.bl true) H'
section
variable {P : Program} {w : World} {K : PySem.W.Frag} {mg : Str → Option Value} {base : Heap}
theorem sc__law_give : FnScope ["_law_source_here", "_law_pool", "_law_loan", "_law_words", "_law_sums", "_law_line", "_law_now", "_law_way", "_law_reason", "_law_away", "_law_is_lost"] ["_law_source_here", "_law_pool", "_law_loan", "_law_words", "_law_sums"] (defScope (topS 46)) := ⟨rfl, rfl, rfl, by decide +kernel, rfl, by decide +kernel, by decide +kernel⟩
theorem ok__law_give (T : Tx P K mg) : GOk P w K mg base CX0 9 "_law_give" ["_law_source_here", "_law_pool", "_law_loan", "_law_words", "_law_sums"] (sp_law_give K) := by
  obtain ⟨f__law_of, fd__law_of, G__law_of, m__law_of, k__law_of, b__law_of⟩ := ok__law_of (P := P) (w := w) (base := base) T
  obtain ⟨f__law_back, fd__law_back, G__law_back, m__law_back, k__law_back, b__law_back⟩ := ok__law_back (P := P) (w := w) (base := base) T
  obtain ⟨f__law_stands, fd__law_stands, G__law_stands, m__law_stands, k__law_stands, b__law_stands⟩ := ok__law_stands (P := P) (w := w) (base := base) T
  obtain ⟨f__law_same, fd__law_same, G__law_same, m__law_same, k__law_same, b__law_same⟩ := ok__law_same (P := P) (w := w) (base := base) T 3
  obtain ⟨f_Pool_take, fd_Pool_take, G_Pool_take, M_Pool_take, b_Pool_take⟩ := ok_Pool_take (P := P) (w := w) (base := base) T
  obtain ⟨f, fd, F, gm⟩ := T.fn (46, "_law_give") (by decide +kernel)
  refine ⟨f, fd, ?_, gm, F.kp, F.binds fun _ _ _ _ _ _ us hl => match us, hl with | [_, _, _, _, _], _ => rfl⟩
  refine F.ok sc__law_give (fun vs H Q E h => ?_) (fun cdv A outer s H vs Q E hr h => ?_)
  · obtain ⟨_, _, _, _, _, _, _, rfl, _⟩ := h
    rfl
  have hu := hu_of hr
  refine ⟨_, (pss_cons (ps_par (i := 5) (j := 6) (by rfl) sc__law_give.nd rfl rfl (by decide) rfl rfl (pa_cons (pe_ix ix_list (pv 2) pe_int (fun _ _ => rfl)) (pa_cons (pe_ix ix_list (pv 2) pe_int (fun _ _ => rfl)) pa_nil)) (by rfl))
      (pss_cons (ps_set (i := 7) sc__law_give.nd rfl (Or.inl rfl) (pe_call G__law_of (hr.mono (by decide)) rfl m__law_of k__law_of b__law_of .nil pass0 (pa_cons (pv 0) (pa_cons (pe_lst (pa_cons (pe_tup pa_nil) (pa_cons (pe_tup (pa_cons pe_str (pa_cons pe_int pa_nil))) (pa_cons (pe_tup (pa_cons pe_str (pa_cons pe_int pa_nil))) (pa_cons (pe_tup (pa_cons pe_str (pa_cons pe_int pa_nil))) (pa_cons (pe_tup (pa_cons pe_str (pa_cons pe_int pa_nil))) pa_nil)))))) pa_nil))))
      (pss_cons (ps_set (i := 8) sc__law_give.nd rfl (Or.inl rfl) (pe_ifExp (PW.pt (pw_or (pt_cmpR (OW.op_eqNilT hr.units0) (pv 7) (pe_tup pa_nil) (nomark _)) (pw_or1 (pt_cmpR op_eq (pe_ix ix_tup (pv 7) pe_int (fun _ _ => rfl)) pe_str (nomark _))))) pe_int (pe_bm PySem.F.plainAttrs_list PySem.F.slot_list_index PySem.F.type_list_index mt_index (pe_lst (pa_cons pe_str (pa_cons pe_str (pa_cons pe_str pa_nil)))) (pa_cons (pe_ix ix_tup (pv 7) pe_int (fun _ _ => rfl)) pa_nil))))
      (pss_cons (ps_asg (pe_call G__law_back (hr.mono (by decide)) rfl m__law_back k__law_back b__law_back .nil pass0 (pa_cons (pv 6) (pa_cons (pe_dget2 hu (pe_ix ix_list (pv 3) pe_int (fun _ _ => rfl)) (pv 7) (pe_ix ix_list (pv 3) (pv 8) (fun _ _ => rfl)) ⟨by rfl, by rfl, by rfl, by rfl⟩) (pa_cons (pv 7) pa_nil)))) (pg_tup (by rfl) (pgs_cons (pg_name (i := 9) sc__law_give.nd rfl (Or.inl rfl)) (pgs_cons (pg_name (i := 10) sc__law_give.nd rfl (Or.inl rfl)) pgs_nil))))
      (pss_cons (ps_asg pe_bl (pg_sub (pv 6) pe_str (set_dict hu) (fun _ => rfl)))
      (pss_cons (ps_asg (pe_op op_add (pe_ix ix_list (pv 4) pe_int (fun _ _ => rfl)) (pv 9)) (pg_sub (pv 4) pe_int set_list (fun _ => rfl)))
      (pss_cons (ps_asg (pe_op op_catA (pe_ix ix_list (pv 4) pe_int (fun _ _ => rfl)) (pe_op OW.op_rep01 (pe_tup (pa_cons (pe_dget hu (pv 6) pe_str (fun _ _ => rfl)) pa_nil)) (pe_callTy call_int1 (by rfl) T.int (by decide +kernel) (pa_cons (pv 10) pa_nil)))) (pg_sub (pv 4) pe_int set_list (fun _ => rfl)))
      (pss_one (ps_ret (pe_and (pe_call G__law_same (hr.mono (by decide)) rfl m__law_same k__law_same b__law_same .nil pass0 (pa_cons (pe_meth (pv 1) T.clP M_Pool_take G_Pool_take (hr.mono (by decide)) b_Pool_take .nil pass0 (pa_cons (pv 5) (pa_cons (pv 7) pa_nil))) (pa_cons (pv 9) pa_nil))) (pe_one (pe_call G__law_stands (hr.mono (by decide)) rfl m__law_stands k__law_stands b__law_stands .nil pass0 (pa_cons (pv 5) (pa_cons (pv 6) (pa_cons pe_str pa_nil))))))))))))))), ?_⟩
  obtain ⟨g, B, S, kept, n, x, r, rfl, G, Pu, hW, hr, hlent, X, hout, hn, hsc, k⟩ := h
  have R := G.ln x.i r hr
  obtain ⟨hq, hib, hob⟩ := Pu.ln x.i r hr
  refine ⟨_, rfl, x.a, _, _, _, rfl, rfl, SqL.of X.h, atI_nat (j := 0) rfl, _, rfl, x.a, _, _, _, rfl, rfl, SqL.of X.h, atI_nat (j := 1) rfl, _, _, rfl, ?_⟩
  refine ⟨_, rfl, (by show 0 ≤ sizeLine; decide), fun a0 h0 => ⟨(by show 2 ≤ sizeLine; decide), fun a1 h1 => ⟨(by show 2 ≤ sizeLine; decide), fun a2 h2 => ⟨(by show 2 ≤ sizeLine; decide), fun a3 h3 => ⟨(by show 2 ≤ sizeLine; decide), fun a4 h4 => ⟨(by show 5 ≤ sizeLine; decide), fun p hp => ?_⟩⟩⟩⟩⟩⟩
  have s0 : Same H (upd H a0 (.tup [])) := Same.new h0
  have s1 := sput (o := .tup [.str "return", .int 1]) s0 h1
  have s2 := sput (o := .tup [.str "fail", .int 2]) s1 h2
  have s3 := sput (o := .tup [.str "cut", .int 2]) s2 h3
  have s4 := sput (o := .tup [.str "cut", .int 3]) s3 h4
  have s5 := sput (o := .lst [.ref a0, .ref a1, .ref a2, .ref a3, .ref a4]) s4 hp
  have pS : B.SR ≠ p := fun z => by
    obtain ⟨_, _, _, q, _⟩ := (G.same s4).SR.at_
    rw [z, hp] at q
    cases q
  refine ⟨B.SR, p, _, S.sc, rfl, (G.same s5).SR, by omega, upd_same, pS, (by show 1 ≤ 5; decide), (by show 5 ≤ 1000; decide), fun H2 i v hv fr S2 => ?_⟩
  have c4 : Same _ _ := Same.new (o := .lst [.ref a0, .ref a1, .ref a2, .ref a3, .ref a4]) hp
  have c3 : Same _ _ := sput (o := .lst [.ref a0, .ref a1, .ref a2, .ref a3, .ref a4]) (Same.new (o := .tup [.str "cut", .int 3]) h4) hp
  have c2 : Same _ _ := sput (o := .lst [.ref a0, .ref a1, .ref a2, .ref a3, .ref a4]) (sput (o := .tup [.str "cut", .int 3]) (Same.new (o := .tup [.str "cut", .int 2]) h3) h4) hp
  have c1 : Same _ _ := sput (o := .lst [.ref a0, .ref a1, .ref a2, .ref a3, .ref a4]) (sput (o := .tup [.str "cut", .int 3]) (sput (o := .tup [.str "cut", .int 2]) (Same.new (o := .tup [.str "fail", .int 2]) h2) h3) h4) hp
  have c0 : Same _ _ := sput (o := .lst [.ref a0, .ref a1, .ref a2, .ref a3, .ref a4]) (sput (o := .tup [.str "cut", .int 3]) (sput (o := .tup [.str "cut", .int 2]) (sput (o := .tup [.str "fail", .int 2]) (Same.new (o := .tup [.str "return", .int 1]) h1) h2) h3) h4) hp
  have nSR : ∀ z, H z = none → z ≠ B.SR := fun z hz e => by
    obtain ⟨_, _, _, q, _⟩ := G.SR.at_
    rw [← e, hz] at q
    cases q
  obtain ⟨y, wp, rfl, hwp, hW2⟩ : ∃ (y : Wy) (wp : Addr), v = .ref wp ∧ H wp = none ∧ H2 wp = some (.tup (Wy.t y)) := by
    have go : ∀ (z : Addr) (o : HO), H z = none → _ = some o → H2 z = some o := fun z o hz e => fr z o (nSR z hz) (nSR z hz) e
    match i, hv with
    | 0, hv => exact ⟨.done, a0, (Option.some.inj hv).symm, h0, go _ _ h0 (c0 _ _ upd_same)⟩
    | 1, hv => exact ⟨.ret1, a1, (Option.some.inj hv).symm, s0.free h1, go _ _ (s0.free h1) (c1 _ _ upd_same)⟩
    | 2, hv => exact ⟨.fail2, a2, (Option.some.inj hv).symm, s1.free h2, go _ _ (s1.free h2) (c2 _ _ upd_same)⟩
    | 3, hv => exact ⟨.cut2, a3, (Option.some.inj hv).symm, s2.free h3, go _ _ (s2.free h3) (c3 _ _ upd_same)⟩
    | 4, hv => exact ⟨.cut3, a4, (Option.some.inj hv).symm, s3.free h4, go _ _ (s3.free h4) (c4 _ _ upd_same)⟩
  clear c0 c1 c2 c3 c4 hv
  have G2 := (G.same s5).src fr S2
  have F2 : FrP (fun z => z = B.SR ∨ z = r.nw ∨ z = B.SU) H H2 := FrP.fr2 (FrP.same FrP.refl s5) fr (Or.inl rfl) (Or.inl rfl)
  dsimp only [gName, tSeq, tAsg]
  refine reason_v rfl hW2 (fun H3 s23 => ?_)
  have G3 := G2.same s23
  have F3 := FrP.same F2 s23
  have hW3 := s23 _ _ hW2
  have R3 := G3.ln x.i r hr
  have wl : ([.str B.e.s, .str B.f.s, .str B.w.s, .ref B.WD] : List V)[rsn y]? = some (.str (byReason B.e B.f B.w y).s) := by cases y <;> rfl
  refine ⟨_, rfl, _, rfl, B.WL, _, _, _, rfl, rfl, SqL.of G3.WL.h, atI_nat (j := 3) rfl, B.WD, rfl, .inr ⟨_, .inl G3.WD.h⟩, _, rfl, _, rfl, _, rfl, B.WL, _, _, _, rfl, rfl, SqL.of G3.WL.h, atI_nat (j := rsn y) wl, _, DGet.t (k := y.k) G3.WD.h hW3, _, rfl, ?_⟩
  obtain ⟨u, hu'⟩ : ∃ u, u = wordOf B.e B.f B.w B.u0 B.u1 y := ⟨_, rfl⟩
  have hk : kept = false → u ≠ .keep := fun e => by
    obtain ⟨k1, k2, k3, k4, k5⟩ := hW e
    rw [hu']
    cases y <;> assumption
  refine ⟨r.nw, r.kq, x.i, r.l, u, .ref wp, (by rw [word_get, ← hu']; rfl), R3.now, by omega, fun H4 kq t f4 hkq ht N4 ht4 => ?_⟩
  have F4 := FrP.fr2 F3 f4 (Or.inr (Or.inl rfl)) (Or.inr (Or.inl rfl))
  have hkq0 : kq = r.kq ∨ H kq = none := hkq.imp id (fun h => FrP.back F3 (fun z hz => by
    rcases hz with rfl | rfl | rfl
    · obtain ⟨_, _, _, q, _⟩ := G3.SR.at_
      exact ⟨_, q⟩
    · exact ⟨_, R3.nw.h⟩
    · exact ⟨_, G3.SU.h⟩) h)
  have nkSU : kq ≠ B.SU := by
    rcases hkq with h | h
    · rw [h]
      exact R.kq.ne G.SU.g (fun z => nomatch z)
    · intro z
      rw [z, G3.SU.h] at h
      cases h
  have S4 : SrcAt H4 B.SR (S.sc + 1) := G3.SR.keep (fun o h => by
    have hn : B.SR ≠ r.nw := fun z => by
      have q := R3.nw.g
      rw [← z, G3.SRg] at q
      cases q
    exact f4 _ _ hn hn h)
  have SU4 : H4 B.SU = some (.lst [.int (S.th : Nat), .ref S.ts]) := f4 _ _ (ne_of G3.SU.h R3.nw.h (fun z => nomatch z)) (ne_of G3.SU.h R3.nw.h (fun z => nomatch z)) G3.SU.h
  have W4 : H4 wp = some (.tup (Wy.t y)) := f4 _ _ (ne_of hW3 R3.nw.h (fun z => nomatch z)) (ne_of hW3 R3.nw.h (fun z => nomatch z)) hW3
  refine ⟨t, _, rfl, SqT.of ht4, rfl, _, _, rfl, _, _, rfl, rfl, ?_⟩
  refine ⟨_, rfl, r.nw, _, rfl, p_lent N4.obj false, ?_⟩
  have N5 : NowAt (upd H4 r.nw (.dK (nf x.i { giveL u (.ref wp) r.l with lent := false } kq))) r.nw x.i (unlent (giveL u (.ref wp) r.l)) kq := ⟨upd_same, by rw [upd_ne N4.ne.symm]; exact N4.que⟩
  have F5 : FrP (fun z => z = B.SR ∨ z = r.nw ∨ z = B.SU) H (upd H4 r.nw (.dK (nf x.i { giveL u (.ref wp) r.l with lent := false } kq))) := FrP.upd F4 (Or.inr (Or.inl rfl))
  have S5 : SrcAt (upd H4 r.nw (.dK (nf x.i { giveL u (.ref wp) r.l with lent := false } kq))) B.SR (S.sc + 1) := S4.keep (fun o h => by
    rw [upd_ne (fun z => by
      obtain ⟨_, _, _, q, _⟩ := S4.at_
      rw [z, N4.obj] at q
      cases q)]
    exact h)
  have SU5 : upd H4 r.nw (.dK (nf x.i { giveL u (.ref wp) r.l with lent := false } kq)) B.SU = some (.lst [.int (S.th : Nat), .ref S.ts]) := by
    rw [upd_ne (ne_of SU4 N4.obj (fun z => nomatch z))]
    exact SU4
  have W5 : upd H4 r.nw (.dK (nf x.i { giveL u (.ref wp) r.l with lent := false } kq)) wp = some (.tup (Wy.t y)) := by
    rw [upd_ne (ne_of W4 N4.obj (fun z => nomatch z))]
    exact W4
  refine (show _ from ?_)
  generalize upd H4 r.nw (.dK (nf x.i { giveL u (.ref wp) r.l with lent := false } kq)) = H5 at N5 F5 S5 SU5 W5 ⊢
  refine ⟨_, rfl, B.SU, _, _, _, rfl, rfl, SqL.of SU5, atI_nat (j := 0) rfl, _, rfl, _, _, rfl, rfl, _, rfl, B.SU, _, _, 0, rfl, rfl, SU5, rfl, ?_⟩
  have N6 : NowAt (upd H5 B.SU (.lst [.int ((S.th + giveN u r.l : Nat) : Int), .ref S.ts])) r.nw x.i (unlent (giveL u (.ref wp) r.l)) kq := ⟨by rw [upd_ne (ne_of N5.obj SU5 (fun z => nomatch z))]; exact N5.obj, by rw [upd_ne nkSU]; exact N5.que⟩
  have F6 : FrP (fun z => z = B.SR ∨ z = r.nw ∨ z = B.SU) H (upd H5 B.SU (.lst [.int ((S.th + giveN u r.l : Nat) : Int), .ref S.ts])) := FrP.upd F5 (Or.inr (Or.inr rfl))
  have nSU : ∀ {z : Addr} {s : Ro} {o : HO}, g z = some s → s ≠ .SU → z ≠ B.SU := fun e n q => n (by
    rw [q, G.SU.g] at e
    exact (Option.some.inj e).symm)
  have S6 : SrcAt (upd H5 B.SU (.lst [.int ((S.th + giveN u r.l : Nat) : Int), .ref S.ts])) B.SR (S.sc + 1) := S5.keep (fun o h => by
    rw [upd_ne (nSU (o := .tup []) G.SRg (fun z => nomatch z))]
    exact h)
  have SU6 : upd H5 B.SU (.lst [.int ((S.th + giveN u r.l : Nat) : Int), .ref S.ts]) B.SU = some (.lst [.int ((S.th + giveN u r.l : Nat) : Int), .ref S.ts]) := upd_same
  have W6 : upd H5 B.SU (.lst [.int ((S.th + giveN u r.l : Nat) : Int), .ref S.ts]) wp = some (.tup (Wy.t y)) := by
    rw [upd_ne (ne_of W5 SU5 (fun z => nomatch z))]
    exact W5
  refine (show tSeq _ _ _ _ (upd H5 B.SU (.lst [.int ((S.th + giveN u r.l : Nat) : Int), .ref S.ts])) from ?_)
  generalize upd H5 B.SU (.lst [.int ((S.th + giveN u r.l : Nat) : Int), .ref S.ts]) = H6 at N6 F6 S6 SU6 W6 ⊢
  have pP : ∀ {z : Addr} {s : Ro} {o : HO} {Z : Hp}, FrP (fun z => z = B.SR ∨ z = r.nw ∨ z = B.SU) H Z → Own g H z s o → s ≠ .SR → s ≠ .nw x.i → s ≠ .SU → Z z = some o := fun f h n1 n2 n3 => f _ _ (fun q => by
    rcases q with rfl | rfl | rfl
    · exact n1 (Option.some.inj (h.g.symm.trans G.SRg))
    · exact n2 (Option.some.inj (h.g.symm.trans R.nw.g))
    · exact n3 (Option.some.inj (h.g.symm.trans G.SU.g))) h.h
  have tail : ∀ (lost' : List Nat) (H8 : Hp) (ts : Addr), (lost' = if u = .close ∧ clean r.l = true then S.lost ++ [x.i] else S.lost) → FrP (fun z => z = B.SR ∨ z = r.nw ∨ z = B.SU) H H8 → NowAt H8 r.nw x.i (unlent (giveL u (.ref wp) r.l)) kq → SrcAt H8 B.SR (S.sc + 1) →
      H8 B.SU = some (.lst [.int ((S.th + giveN u r.l : Nat) : Int), .ref ts]) → H8 wp = some (.tup (Wy.t y)) → (ts = S.ts ∨ H ts = none) → H8 ts = some (.tup (nums lost')) → ∀ D : Ends, D.rt = Q → ∀ σ : L2.St, σ[1]? = some (some (.ref B.p)) → σ[5]? = some (some (.ref r.a)) → σ[6]? = some (some (.ref r.nw)) → σ[7]? = some (some (.ref wp)) → σ[9]? = some (some (.int (giveN u r.l : Nat))) →
      tRet (tAndV (tCall (sp_same 3) [] E0 (tCons (tMeth (CP K) "take" (sp_Pool_take K) [] E0 (tVar 1) (tCons (tVar 5) (tCons (tVar 7) tNil))) (tCons (tVar 9) tNil))) (tCall (sp_law_stands K) [] E0 (tCons (tVar 5) (tCons (tVar 6) (tCons (tC (.str "x")) tNil))))) D σ H8 := by
    intro lost' H8 ts el F8 N8 S8 SU8 W8 hts T8 D hD σ h1 h5 h6 h7 h9
    have P8 := pP F8 G.P (fun z => nomatch z) (fun z => nomatch z) (fun z => nomatch z)
    have D8 : DoorAt K H8 B.d B.dd B.e B.f B.w B.o (two B.u0 B.u1) := ⟨pP F8 G.D (fun z => nomatch z) (fun z => nomatch z) (fun z => nomatch z), pP F8 G.O (fun z => nomatch z) (fun z => nomatch z) (fun z => nomatch z)⟩
    have L8 := pP F8 G.L (fun z => nomatch z) (fun z => nomatch z) (fun z => nomatch z)
    have lns8 : LnsAt K H8 S.rs := fun i r e => ⟨pP F8 (G.ln i r e).a (fun z => nomatch z) (fun z => nomatch z) (fun z => nomatch z), pP F8 (G.ln i r e).qa (fun z => nomatch z) (fun z => nomatch z) (fun z => nomatch z)⟩
    have TT8 := pP F8 G.T (fun z => nomatch z) (fun z => nomatch z) (fun z => nomatch z)
    have hlost := Pu.lostn
    refine ⟨_, h1, B.p, _, _, rfl, P8, rfl, _, h5, _, h7, B.p, B.dp, B.d, B.L, S.t, B.c, B.dd, B.o, wp, _, S.rs, B.e, B.f, B.w, B.u0, B.u1, y, S.lost, x.i, r, rfl, P8, D8, L8, lns8, TT8, by omega, W8, hr, hlent, by omega, fun H9 qa t9 f9 hqa ht9 La P9 T9 => ?_⟩
    rw [← hu', giveL_un] at La
    rw [← hu'] at P9 T9
    rw [← hu']
    refine ⟨_, h9, _, _, rfl, eqv_sc rfl rfl, fun H10 s10 => ⟨_, rfl, iteT' rfl ?_⟩⟩
    have nqk : kq ≠ r.qa := by
      rcases hkq0 with h | h
      · rw [h]
        exact R.kq.ne R.qa.g (fun z => nomatch z)
      · intro z
        rw [z, R.qa.h] at h
        cases h
    have la8 := lns8 x.i r hr
    have N9 : NowAt H9 r.nw x.i (unlent (giveL u (.ref wp) r.l)) kq := ⟨f9 _ _ (ne_of N8.obj la8.obj (fun z => nomatch z)) (ne_of N8.obj la8.que (fun z => nomatch z)) (ne_of N8.obj P8 (fun z => nomatch z)) N8.obj, f9 _ _ (ne_of N8.que la8.obj (fun z => nomatch z)) nqk (ne_of N8.que P8 (fun z => nomatch z)) N8.que⟩
    have SU9 := f9 _ _ (ne_of SU8 la8.obj (fun z => nomatch z)) (G.SU.ne R.qa.g (fun z => nomatch z)) (ne_of SU8 P8 (fun z => nomatch z)) SU8
    have W9 := f9 _ _ (ne_of W8 la8.obj (fun z => nomatch z)) (ne_of W8 la8.que (fun z => nomatch z)) (ne_of W8 P8 (fun z => nomatch z)) W8
    have TS9 := f9 _ _ (ne_of T8 la8.obj (fun z => nomatch z)) (ne_of T8 la8.que (fun z => nomatch z)) (ne_of T8 P8 (fun z => nomatch z)) T8
    have nS : ∀ {z : Addr} {s : Ro}, g z = some s → s ≠ .SR → B.SR ≠ z := fun e n q => n (by
      rw [← q, G.SRg] at e
      exact (Option.some.inj e).symm)
    have S9 : SrcAt H9 B.SR (S.sc + 1) := S8.keep (fun o h => f9 _ _ (nS R.a.g (fun z => nomatch z)) (nS R.qa.g (fun z => nomatch z)) (nS G.P.g (fun z => nomatch z)) h)
    have F9 : FrP (fun z => z = B.SR ∨ z = r.nw ∨ z = r.a ∨ z = r.qa ∨ z = B.p ∨ z = B.SU) H H9 := fun z o n h => f9 z o (fun q => n (by simp [q])) (fun q => n (by simp [q])) (fun q => n (by simp [q])) (F8 z o (fun q => n (by
      rcases q with q | q | q <;> simp [q])) h)
    have ex8 : ∀ z, (z = B.SR ∨ z = r.nw ∨ z = B.SU) → ∃ o, H8 z = some o := fun z q => by
      rcases q with rfl | rfl | rfl
      · obtain ⟨_, _, _, q, _⟩ := S8.at_
        exact ⟨_, q⟩
      · exact ⟨_, N8.obj⟩
      · exact ⟨_, SU8⟩
    have hqa0 : qa = r.qa ∨ H qa = none := hqa.imp id (fun h => FrP.back F8 ex8 h)
    have ht0 : t9 = S.t ∨ H t9 = none := ht9.imp id (fun h => FrP.back F8 ex8 h)
    have dqk : qa ≠ kq := by
      rcases hqa with h | h
      · rw [h]
        exact nqk.symm
      · intro z
        rw [z, N8.que] at h
        cases h
    have hc : (unlent (giveL u (.ref wp) r.l)).cause = .ref wp ∨ (unlent (giveL u (.ref wp) r.l)).cause = r.l.cause := by
      rcases giveL_cases u (.ref wp) r.l with ⟨h, _⟩ | h | h <;> rw [h]
      · exact Or.inr rfl
      · exact Or.inl rfl
      · exact Or.inr rfl
    rw [← el] at T9
    obtain ⟨g', G9⟩ := G.give (i := x.i) (c := S.sc + 1) (th := S.th + giveN u r.l) hr hout F9 hqa0 hkq0 dqk ht0 hts hwp La N9 hc W9 P9 SU9 T9 TS9 S9
    have Pu' := pure_give (qa := qa) (kq := kq) (t := t9) (ts := ts) (th := S.th + giveN u r.l) (c := S.sc + 1) (why := .ref wp) (lost := lost') Pu hr hout hk (by
      rw [el]
      by_cases q : u = .close ∧ clean r.l = true
      · rw [if_pos q, List.length_append]
        exact Nat.le_refl _
      · rw [if_neg q]
        exact Nat.le_succ _)
    rw [giveL_un] at Pu'
    have R9 := G9.ln x.i _ (get_set_eq hr)
    have cz := cause_at (H' := H10) R9.cause (FrP.same (p := fun _ => False) FrP.refl s10) (fun _ q => q.elim)
    have hqq : (unlent (giveL u (.ref wp) r.l)).q.length ≤ 90000 := by
      rcases giveL_cases u (.ref wp) r.l with ⟨h, _⟩ | h | h <;> rw [h]
      · show r.l.q.length ≤ _
        omega
      · exact Nat.zero_le _
      · exact Nat.zero_le _
    refine ⟨_, h5, _, h6, r.a, r.dx, qa, r.nw, kq, x.i, unlent (giveL u (.ref wp) r.l), "x", rfl, La.same s10, N9.same s10, cz, hqq, fun H11 s11 => ?_⟩
    rw [hD]
    exact k H11 g' _ (G9.same (s10.trans s11)) Pu' (by show S.sc + 1 ≤ _; omega)
  have ex6 : ∀ z, (z = B.SR ∨ z = r.nw ∨ z = B.SU) → ∃ o, H6 z = some o := fun z q => by
    rcases q with rfl | rfl | rfl
    · obtain ⟨_, _, _, q, _⟩ := S6.at_
      exact ⟨_, q⟩
    · exact ⟨_, N6.obj⟩
    · exact ⟨_, SU6⟩
  have fin2 : ∀ (lost' : List Nat) (H7 : Hp) (ts : Addr), (lost' = if u = .close ∧ clean r.l = true then S.lost ++ [x.i] else S.lost) → Same H6 H7 → (ts = S.ts ∨ H ts = none) → H7 ts = some (.tup (nums lost')) → ∀ D : Ends, D.rt = Q → ∀ σ : L2.St, σ[1]? = some (some (.ref B.p)) → σ[5]? = some (some (.ref r.a)) → σ[6]? = some (some (.ref r.nw)) → σ[7]? = some (some (.ref wp)) → σ[9]? = some (some (.int (giveN u r.l : Nat))) →
      tRet (tAndV (tCall (sp_same 3) [] E0 (tCons (tMeth (CP K) "take" (sp_Pool_take K) [] E0 (tVar 1) (tCons (tVar 5) (tCons (tVar 7) tNil))) (tCons (tVar 9) tNil))) (tCall (sp_law_stands K) [] E0 (tCons (tVar 5) (tCons (tVar 6) (tCons (tC (.str "x")) tNil))))) D σ (upd H7 B.SU (.lst [.int ((S.th + giveN u r.l : Nat) : Int), .ref ts])) := by
    intro lost' H7 ts el s67 hts T7 D hD σ h1 h5 h6 h7 h9
    have N7 := N6.same s67
    have SU7 := s67 _ _ SU6
    have W7 := s67 _ _ W6
    refine tail lost' _ ts el (FrP.upd (FrP.same F6 s67) (Or.inr (Or.inr rfl))) ⟨by rw [upd_ne (ne_of N7.obj SU7 (fun z => nomatch z))]; exact N7.obj, by rw [upd_ne nkSU]; exact N7.que⟩ ((S6.keep (fun o h => s67 _ _ h)).keep (fun o h => by
      rw [upd_ne (nSU (o := .tup []) G.SRg (fun z => nomatch z))]
      exact h)) upd_same (by rw [upd_ne (ne_of W7 SU7 (fun z => nomatch z))]; exact W7) hts (by rw [upd_ne (ne_of T7 SU7 (fun z => nomatch z))]; exact T7) D hD σ h1 h5 h6 h7 h9
  have TS6 := pP F6 G.TS (fun z => nomatch z) (fun z => nomatch z) (fun z => nomatch z)
  have hlost := Pu.lostn
  refine ⟨_, rfl, B.SU, _, _, _, rfl, rfl, SqL.of SU6, atI_nat (j := 1) rfl, _, rfl, r.nw, _, rfl, g_number N6, (by show 1 ≤ sizeLine; decide), fun t1 e1 => ⟨_, rfl, .inr ⟨_, rfl, t1, _, rfl, SqT.of upd_same, (fun z => nomatch z), ?_⟩⟩⟩
  have s1' : Same H6 (upd H6 t1 (.tup [.int x.i])) := Same.new e1
  have t1H := FrP.back F6 ex6 e1
  by_cases hf : u = .close ∧ clean r.l = true
  · refine .inl ⟨by rw [decide_eq_true hf]; rfl, ?_⟩
    refine ⟨S.ts, t1, nums S.lost, [.int x.i], rfl, rfl, SqT.of (s1' _ _ TS6), SqT.of upd_same, (by show (nums S.lost).length + 1 ≤ sizeLine; rw [List.length_map, sizeLine_eq]; omega), fun e0 => ?_, fun _ e0 => (nomatch e0), fun _ _ t2 e2 => ?_⟩
    · have e9 : S.lost = [] := List.map_eq_nil_iff.mp e0
      refine ⟨_, rfl, B.SU, _, _, 1, rfl, rfl, s1' _ _ SU6, rfl, ?_⟩
      exact fin2 [x.i] _ t1 (by rw [if_pos hf, e9]; rfl) s1' (Or.inr t1H) upd_same _ rfl _ rfl rfl rfl rfl rfl
    · have s2' := sput (o := .tup (nums S.lost ++ [.int x.i])) s1' e2
      refine ⟨_, rfl, B.SU, _, _, 1, rfl, rfl, s2' _ _ SU6, rfl, ?_⟩
      exact fin2 (S.lost ++ [x.i]) _ t2 (by rw [if_pos hf]) s2' (Or.inr (FrP.back F6 ex6 (s1'.free e2))) (by rw [upd_same, nums_snoc]) _ rfl _ rfl rfl rfl rfl rfl
  · refine .inr ⟨by rw [decide_eq_false hf]; rfl, fun p0 ep => ?_⟩
    have s2' := sput (o := .tup []) s1' ep
    refine ⟨S.ts, p0, nums S.lost, [], rfl, rfl, SqT.of (s2' _ _ TS6), SqT.of upd_same, (by show (nums S.lost).length + 0 ≤ sizeLine; rw [List.length_map, sizeLine_eq]; omega), fun e0 => ?_, fun _ _ => ?_, fun _ e0 => absurd rfl e0⟩
    · have e9 : S.lost = [] := List.map_eq_nil_iff.mp e0
      refine ⟨_, rfl, B.SU, _, _, 1, rfl, rfl, s2' _ _ SU6, rfl, ?_⟩
      exact fin2 [] _ p0 (by rw [if_neg hf, e9]) s2' (Or.inr (FrP.back F6 ex6 (s1'.free ep))) upd_same _ rfl _ rfl rfl rfl rfl rfl
    · refine ⟨_, rfl, B.SU, _, _, 1, rfl, rfl, s2' _ _ SU6, rfl, ?_⟩
      exact fin2 S.lost _ S.ts (by rw [if_neg hf]) s2' (Or.inl rfl) (s2' _ _ TS6) _ rfl _ rfl rfl rfl rfl rfl
end
end OA

set_option maxHeartbeats 4000000
/-! The start of a run; a loan taken out. -/
namespace OA
open PySem PySem.Spec PyProof.Rows L2 OW
section
variable {K : PySem.W.Frag} {g : Gh} {H H' : Hp} {B : Sta} {S : Sv}
/-- the first owner of each cell -/
def g0 (B : Sta) (t ts : Addr) : Gh := fun x => if x = B.p then some .P else if x = B.L then some .L else if x = B.LL then some .LL else if x = B.LO then some .LO else if x = B.SU then some .SU else if x = B.SR then some .SR else if x = B.d ∨ x = B.o ∨ x = t ∨ x = ts ∨ x = B.WL ∨ x = B.WD ∨ x ∈ B.ext.map (·.1) then some .st else none
structure Out (B : Sta) (x : Addr) : Prop where
  p : x ≠ B.p
  L : x ≠ B.L
  LL : x ≠ B.LL
  LO : x ≠ B.LO
  SU : x ≠ B.SU
  SR : x ≠ B.SR
theorem g0_st {t ts x : Addr} (o : Out B x) (h : x = B.d ∨ x = B.o ∨ x = t ∨ x = ts ∨ x = B.WL ∨ x = B.WD ∨ x ∈ B.ext.map (·.1)) : g0 B t ts x = some .st := by
  unfold g0
  rw [if_neg o.p, if_neg o.L, if_neg o.LL, if_neg o.LO, if_neg o.SU, if_neg o.SR, if_pos h]
theorem GI.start {t ts : Addr} {sc : Nat} (hP : H B.p = some (.ins (CP K) B.dp (pf B.d B.L t 0 B.c))) (hD : H B.d = some (.ins (CD K) B.dd (df B.e.s B.f.s B.w.s B.o))) (hO : H B.o = some (.dT (two B.u0 B.u1))) (hL : H B.L = some (.lst [])) (hLL : H B.LL = some (.lst [])) (hLO : H B.LO = some (.lst []))
    (hSU : H B.SU = some (.lst [.int 0, .ref ts])) (hT : H t = some (.tup [])) (hTS : H ts = some (.tup [])) (hSR : SrcAt H B.SR sc) (hWL : H B.WL = some (.lst [.str B.e.s, .str B.f.s, .str B.w.s, .ref B.WD])) (hWD : H B.WD = some (.dT (two B.u0 B.u1))) (hx : ∀ q ∈ B.ext, H q.1 = some q.2 ∧ Out B q.1)
    (n1 : B.L ≠ B.LL) (n2 : B.L ≠ B.LO) (n3 : B.L ≠ B.SU) (n4 : B.L ≠ B.SR) (n5 : B.LL ≠ B.LO) (n6 : B.LL ≠ B.SU) (n7 : B.LL ≠ B.SR) (n8 : B.LO ≠ B.SU) (n9 : B.LO ≠ B.SR) (n10 : B.SU ≠ B.SR) (oW : Out B B.WL) :
    ∃ g, GI K g H B ⟨[], [], [], 0, sc, t, ts⟩ := by
  obtain ⟨sL, sM, sT, hSRo, _, _⟩ := hSR.at_
  have pl : ∀ {x : Addr} {xs : List V}, H x = some (.lst xs) → x ≠ B.p := fun e => ne_of e hP (fun z => nomatch z)
  have od : Out B B.d := ⟨ne_of hD hP (fun z => by injection z with _ _ z; exact absurd (congrArg List.length z) (by show ¬ (4 = 5); decide)), ne_of hD hL (fun z => nomatch z), ne_of hD hLL (fun z => nomatch z), ne_of hD hLO (fun z => nomatch z), ne_of hD hSU (fun z => nomatch z), ne_of hD hSRo (fun z => nomatch z)⟩
  have oD : ∀ {x : Addr} {kvs : List (List Key × V)}, H x = some (.dT kvs) → Out B x := fun e => ⟨ne_of e hP (fun z => nomatch z), ne_of e hL (fun z => nomatch z), ne_of e hLL (fun z => nomatch z), ne_of e hLO (fun z => nomatch z), ne_of e hSU (fun z => nomatch z), ne_of e hSRo (fun z => nomatch z)⟩
  have oT : ∀ {x : Addr} {xs : List V}, H x = some (.tup xs) → Out B x := fun e => ⟨ne_of e hP (fun z => nomatch z), ne_of e hL (fun z => nomatch z), ne_of e hLL (fun z => nomatch z), ne_of e hLO (fun z => nomatch z), ne_of e hSU (fun z => nomatch z), ne_of e hSRo (fun z => nomatch z)⟩
  refine ⟨g0 B t ts, fun x r e => ?_, ⟨if_pos rfl, hP⟩, ⟨g0_st od (by simp), hD⟩, ⟨g0_st (oD hO) (by simp), hO⟩, ⟨?_, hL⟩, ⟨?_, hLL⟩, ⟨?_, hLO⟩, ⟨?_, hSU⟩, ⟨g0_st (oT hT) (by simp), hT⟩, ⟨g0_st (oT hTS) (by simp), hTS⟩, ?_, hSR, ⟨g0_st oW (by simp), hWL⟩, ⟨g0_st (oD hWD) (by simp), hWD⟩, fun i r e => (by cases e), fun j x e => (by cases e), fun j j' x x' e => (by cases e), fun q hq => ⟨g0_st (hx q hq).2 (by simp only [List.mem_map]; exact Or.inr (Or.inr (Or.inr (Or.inr (Or.inr (Or.inr ⟨q, hq, rfl⟩)))))), (hx q hq).1⟩⟩
  · unfold g0 at e
    by_cases h1 : x = B.p
    · exact ⟨_, h1 ▸ hP⟩
    · rw [if_neg h1] at e
      by_cases h2 : x = B.L
      · exact ⟨_, h2 ▸ hL⟩
      · rw [if_neg h2] at e
        by_cases h3 : x = B.LL
        · exact ⟨_, h3 ▸ hLL⟩
        · rw [if_neg h3] at e
          by_cases h4 : x = B.LO
          · exact ⟨_, h4 ▸ hLO⟩
          · rw [if_neg h4] at e
            by_cases h5 : x = B.SU
            · exact ⟨_, h5 ▸ hSU⟩
            · rw [if_neg h5] at e
              by_cases h6 : x = B.SR
              · exact ⟨_, h6 ▸ hSRo⟩
              · rw [if_neg h6] at e
                by_cases h7 : x = B.d ∨ x = B.o ∨ x = t ∨ x = ts ∨ x = B.WL ∨ x = B.WD ∨ x ∈ B.ext.map (·.1)
                · rcases h7 with h | h | h | h | h | h | h
                  · exact ⟨_, h ▸ hD⟩
                  · exact ⟨_, h ▸ hO⟩
                  · exact ⟨_, h ▸ hT⟩
                  · exact ⟨_, h ▸ hTS⟩
                  · exact ⟨_, h ▸ hWL⟩
                  · exact ⟨_, h ▸ hWD⟩
                  · obtain ⟨q, hq, rfl⟩ := List.mem_map.mp h
                    exact ⟨_, (hx q hq).1⟩
                · rw [if_neg h7] at e
                  cases e
  · unfold g0
    rw [if_neg (pl hL), if_pos rfl]
  · unfold g0
    rw [if_neg (pl hLL), if_neg n1.symm, if_pos rfl]
  · unfold g0
    rw [if_neg (pl hLO), if_neg n2.symm, if_neg n5.symm, if_pos rfl]
  · unfold g0
    rw [if_neg (pl hSU), if_neg n3.symm, if_neg n6.symm, if_neg n8.symm, if_pos rfl]
  · unfold g0
    rw [if_neg (pl hSRo), if_neg n4.symm, if_neg n7.symm, if_neg n9.symm, if_neg n10.symm, if_pos rfl]
theorem era {α : Type} {xs : List α} {j k : Nat} {y : α} (h : (xs.eraseIdx j)[k]? = some y) : xs[if k < j then k else k + 1]? = some y := by
  rw [List.getElem?_eraseIdx] at h
  by_cases hk : k < j
  · rw [if_pos hk] at h ⊢
    exact h
  · rw [if_neg hk] at h ⊢
    exact h
theorem era_map {α β : Type} (f : α → β) (xs : List α) (j : Nat) : (xs.map f).eraseIdx j = (xs.eraseIdx j).map f := by
  induction xs generalizing j with
  | nil => rfl
  | cons x xs ih =>
    cases j with
    | zero => rfl
    | succ j =>
      show f x :: (xs.map f).eraseIdx j = f x :: (xs.eraseIdx j).map f
      rw [ih]
theorem GI.pop (G : GI K g H B S) {j : Nat} {x : Lo} (hj : S.los[j]? = some x) : GI K g (upd H B.LO (.lst ((loas S.los).eraseIdx j))) B { S with los := S.los.eraseIdx j } ∧ (∀ (j' : Nat) (x' : Lo), (S.los.eraseIdx j)[j']? = some x' → x'.i ≠ x.i) := by
  have kk : Keep g H g (upd H B.LO (.lst ((loas S.los).eraseIdx j))) (fun r => r = .LO) := fun y r o e n h => ⟨e, by
    rw [upd_ne (fun z => n (by
      rw [z, G.LO.g] at e
      exact (Option.some.inj e).symm))]
    exact h⟩
  have ne : ∀ {k : Nat}, (if k < j then k else k + 1) ≠ j := fun {k} => by
    by_cases h : k < j
    · rw [if_pos h]
      omega
    · rw [if_neg h]
      omega
  refine ⟨⟨fun y r e => ?_, kk.own G.P (by simp), kk.own G.D (by simp), kk.own G.O (by simp), kk.own G.L (by simp), kk.own G.LL (by simp), ⟨G.LO.g, ?_⟩, kk.own G.SU (by simp), kk.own G.T (by simp), kk.own G.TS (by simp), G.SRg, G.SR.keep (fun o h => (kk _ _ _ G.SRg (by simp) h).2), kk.own G.WL (by simp), kk.own G.WD (by simp),
    fun i r e => kk.rec (G.ln i r e) (by simp) (by simp) (by simp) (by simp) (by simp), fun j' x' e => ?_, fun j1 j2 x1 x2 e1 e2 ei => ?_, fun q hq => kk.own (G.xt q hq) (by simp)⟩, fun j' x' e z => ne (G.dj _ _ _ _ (era e) hj z)⟩
  · by_cases h : y = B.LO
    · exact ⟨_, by rw [h]; exact upd_same⟩
    · obtain ⟨o, ho⟩ := G.gn y r e
      exact ⟨o, by rw [upd_ne h]; exact ho⟩
  · rw [upd_same]
    show some (HO.lst ((loas S.los).eraseIdx j)) = some (.lst (loas (S.los.eraseIdx j)))
    show some (HO.lst ((S.los.map _).eraseIdx j)) = some (.lst ((S.los.eraseIdx j).map _))
    rw [era_map]
  · obtain ⟨r, e1, e2, e3⟩ := G.lo _ x' (era e)
    exact ⟨r, e1, e2, kk.own e3 (by simp)⟩
  · have z := G.dj _ _ _ _ (era e1) (era e2) ei
    by_cases h1 : j1 < j <;> by_cases h2 : j2 < j <;> simp [h1, h2] at z <;> omega
theorem pure_pop {kept : Bool} {n j : Nat} (Pu : PureOk kept n S) : PureOk kept n { S with los := S.los.eraseIdx j } := by
  obtain ⟨p1, p2, p3, p4, p5, p6, p7⟩ := Pu
  refine ⟨p1, ?_, p3, p4, fun j' x e => p5 _ x (era e), p6, fun hk j' x r e e' => p7 hk _ x r (era e) e'⟩
  show (S.los.eraseIdx j).length ≤ n
  have := List.length_eraseIdx_le S.los j
  omega
end
end OA

set_option maxHeartbeats 4000000
/-! The law's one run, and the law. -/
namespace OA
open PySem PySem.Spec PyProof.Rows L2 OW
def kvsOf (us : List Dw) : List (List Key × V) := (([Wy.ret1, Wy.cut3].zip us).map fun p => (p.1.k, V.str p.2.s))
theorem kvs_put0 (u : Dw) : putK (kvsOf []) Wy.ret1.k (.str u.s) = kvsOf [u] := rfl
theorem kvs_put1 (u0 u : Dw) : putK (kvsOf [u0]) Wy.cut3.k (.str u.s) = kvsOf [u0, u] := rfl
theorem kvs_val0 (u : Dw) : valV (kvsOf [u]) Wy.ret1.k = some (.str u.s) := rfl
theorem kvs_val1 (u0 u : Dw) : valV (kvsOf [u0, u]) Wy.cut3.k = some (.str u.s) := rfl
theorem ixN_nat {n m : Nat} (h : m < n) : ixN n (m : Int) = some m := by
  unfold ixN
  rw [if_pos (by omega), if_pos (by omega)]
  rfl
theorem pure_sc {kept : Bool} {n c : Nat} {S : Sv} (Pu : PureOk kept n S) : PureOk kept n { S with sc := c } := ⟨Pu.rsn, Pu.losn, Pu.lostn, Pu.ln, Pu.cn, Pu.cl, Pu.tg⟩
def sp_law_holds (K : PySem.W.Frag) : Sp := fun vs H Q _ => ∃ (s : Addr) (ext : List (Addr × HO)), vs = [.ref s] ∧ SrcAt H s 0 ∧ (∀ q ∈ ext, H q.1 = some q.2 ∧ q.1 ≠ s) ∧ ∀ H', (∀ q ∈ ext, H' q.1 = some q.2) → Q (.bl true) H'
theorem sql_ext {K : PySem.W.Frag} {H : Hp} {a : Addr} {xs : List V} (h : SqL K H a xs) : ∃ ext : List (Addr × HO), (∀ q ∈ ext, H q.1 = some q.2) ∧ ∀ H' : Hp, (∀ q ∈ ext, H' q.1 = some q.2) → SqL K H' a xs := by
  rcases h with (h | ⟨ob, h⟩) | h
  · exact ⟨[(a, _)], fun q hq => by
      have : q = (a, .lst xs) := by simpa using hq
      rw [this]
      exact h, fun H' h' => Or.inl (Or.inl (h' (a, .lst xs) (by simp)))⟩
  · exact ⟨[(a, _)], fun q hq => by
      have : q = (a, .frz ob (.lst xs)) := by simpa using hq
      rw [this]
      exact h, fun H' h' => Or.inl (Or.inr ⟨ob, h' (a, .frz ob (.lst xs)) (by simp)⟩)⟩
  · exact ⟨[], fun q hq => (nomatch hq), fun H' _ => Or.inr h⟩
def sp_law (K : PySem.W.Frag) : Sp := fun vs H Q _ => ∃ (a : Addr) (ns : List Int), vs = [.ref a] ∧ ns.length ≤ 1000 ∧ SqL K H a (ns.map V.int) ∧ ∀ H', Q (.bl true) H'
section
variable {P : Program} {w : World} {K : PySem.W.Frag} {mg : Str → Option Value} {base : Heap}
theorem sc__law_holds : FnScope ["_law_source_here", "_law_some", "_law_words", "_law_door", "_law_way", "_law_is_kept", "_law_pool", "_law_lines", "_law_loans", "_law_sums", "_law_count", "_law_turn", "_law_deed", "_law_good"] ["_law_source_here"] (defScope (topS 48)) := ⟨rfl, rfl, rfl, by decide +kernel, rfl, by decide +kernel, by decide +kernel⟩
theorem ok__law_holds (T : Tx P K mg) : GOk P w K mg base CX0 10 "_law_holds" ["_law_source_here"] (sp_law_holds K) := by
  obtain ⟨f__law_of, fd__law_of, G__law_of, m__law_of, k__law_of, b__law_of⟩ := ok__law_of (P := P) (w := w) (base := base) T
  obtain ⟨f_Door_init, fd_Door_init, G_Door_init, mk_Door, kbg, kb_Door_init⟩ := ok_Door_init (P := P) (w := w) (base := base) T
  obtain ⟨f_Door_setitem, R_Door_setitem, m_Door_setitem⟩ := ok_Door_setitem (P := P) (w := w) (base := base) T
  obtain ⟨mf_Door_setitem, mi_Door_setitem, mn_Door_setitem⟩ := m_Door_setitem
  obtain ⟨f_Pool_init, fd_Pool_init, G_Pool_init, M_Pool_init, b_Pool_init⟩ := ok_Pool_init (P := P) (w := w) (base := base) T
  have mk_Pool := T.mkP _ M_Pool_init.at_
  obtain ⟨f__law_draw, fd__law_draw, G__law_draw, m__law_draw, k__law_draw, b__law_draw⟩ := ok__law_draw (P := P) (w := w) (base := base) T
  obtain ⟨f__law_lend, fd__law_lend, G__law_lend, m__law_lend, k__law_lend, b__law_lend⟩ := ok__law_lend (P := P) (w := w) (base := base) T
  obtain ⟨f__law_give, fd__law_give, G__law_give, m__law_give, k__law_give, b__law_give⟩ := ok__law_give (P := P) (w := w) (base := base) T
  obtain ⟨f__law_act, fd__law_act, G__law_act, m__law_act, k__law_act, b__law_act⟩ := ok__law_act (P := P) (w := w) (base := base) T
  obtain ⟨f__law_shows, fd__law_shows, G__law_shows, m__law_shows, k__law_shows, b__law_shows⟩ := ok__law_shows (P := P) (w := w) (base := base) T
  obtain ⟨f, fd, F, gm⟩ := T.fn (48, "_law_holds") (by decide +kernel)
  refine ⟨f, fd, ?_, gm, F.kp, F.binds fun _ _ _ _ _ _ us hl => match us, hl with | [_], _ => rfl⟩
  refine F.ok sc__law_holds (fun vs H Q E h => ?_) (fun cdv A outer s H vs Q E hr h => ?_)
  · obtain ⟨_, _, rfl, _⟩ := h
    rfl
  have hu := hu_of hr
  refine ⟨_, (pss_cons (ps_set (i := 1) sc__law_holds.nd rfl (Or.inl rfl) (pe_call G__law_of (hr.mono (by decide)) rfl m__law_of k__law_of b__law_of .nil pass0 (pa_cons (pv 0) (pa_cons (pe_lst (pa_cons (pe_lst (pa_cons pe_str (pa_cons pe_str (pa_cons pe_str (pa_cons pe_str pa_nil))))) (pa_cons (pe_lst (pa_cons pe_str (pa_cons pe_str (pa_cons pe_str (pa_cons pe_str (pa_cons pe_str pa_nil)))))) pa_nil))) pa_nil))))
      (pss_cons (ps_set (i := 2) sc__law_holds.nd rfl (Or.inl rfl) (pe_lst (pa_cons (pe_call G__law_of (hr.mono (by decide)) rfl m__law_of k__law_of b__law_of .nil pass0 (pa_cons (pv 0) (pa_cons (pv 1) pa_nil))) (pa_cons (pe_call G__law_of (hr.mono (by decide)) rfl m__law_of k__law_of b__law_of .nil pass0 (pa_cons (pv 0) (pa_cons (pv 1) pa_nil))) (pa_cons (pe_call G__law_of (hr.mono (by decide)) rfl m__law_of k__law_of b__law_of .nil pass0 (pa_cons (pv 0) (pa_cons (pv 1) pa_nil))) (pa_cons pe_dnewT pa_nil))))))
      (pss_cons (ps_set (i := 3) sc__law_holds.nd rfl (Or.inl rfl) (pe_makeK0 mk_Door G_Door_init (hr.mono (by decide)) rfl T.g_Door kb_Door_init pass0 (pk_cons (pe_ix ix_list (pv 2) pe_int (fun _ _ => rfl)) (pk_cons (pe_ix ix_list (pv 2) pe_int (fun _ _ => rfl)) (pk_cons (pe_ix ix_list (pv 2) pe_int (fun _ _ => rfl)) pk_nil)))))
      (pss_cons (ps_for PassesOwn.never rfl (pi_list (pe_lst (pa_cons (pe_tup (pa_cons pe_str (pa_cons pe_int pa_nil))) (pa_cons (pe_tup (pa_cons pe_str (pa_cons pe_int pa_nil))) pa_nil)))) (pg_name (i := 4) sc__law_holds.nd rfl (Or.inl rfl))
      (pss_cons (ps_asg (pe_call G__law_of (hr.mono (by decide)) rfl m__law_of k__law_of b__law_of .nil pass0 (pa_cons (pv 0) (pa_cons (pv 1) pa_nil))) (pg_sub (pe_ix ix_list (pv 2) pe_int (fun _ _ => rfl)) (pv 4) (set_dict hu) (fun _ => rfl)))
      (pss_one (ps_asg (pe_dget hu (pe_ix ix_list (pv 2) pe_int (fun _ _ => rfl)) (pv 4) (fun _ _ => rfl)) (pg_sub (pv 3) (pv 4) (OW.set_O T.q_Door mf_Door_setitem mi_Door_setitem R_Door_setitem (hr.mono (by decide)) pass0) (fun _ => rfl))))))
      (pss_cons (ps_set (i := 5) sc__law_holds.nd rfl (Or.inl rfl) (pe_cmpR op_in_seq pe_str (pv 1) (by rfl)))
      (pss_cons (ps_asg (pe_tup (pa_cons (pe_make mk_Pool G_Pool_init (hr.mono (by decide)) rfl T.g_Pool b_Pool_init .nil pass0 (pa_cons (pv 3) pa_nil)) (pa_cons (pe_lst pa_nil) (pa_cons (pe_lst pa_nil) (pa_cons (pe_lst (pa_cons pe_int (pa_cons (pe_tup pa_nil) pa_nil))) (pa_cons pe_int pa_nil)))))) (pg_tup (by rfl) (pgs_cons (pg_name (i := 6) sc__law_holds.nd rfl (Or.inl rfl)) (pgs_cons (pg_name (i := 7) sc__law_holds.nd rfl (Or.inl rfl)) (pgs_cons (pg_name (i := 8) sc__law_holds.nd rfl (Or.inl rfl)) (pgs_cons (pg_name (i := 9) sc__law_holds.nd rfl (Or.inl rfl)) (pgs_cons (pg_name (i := 10) sc__law_holds.nd rfl (Or.inl rfl)) pgs_nil)))))))
      (pss_cons (ps_for PassesOwn.never rfl (pi_range1 (by rfl) T.range (pa_cons (pe_op op_add pe_int (pe_call G__law_draw (hr.mono (by decide)) rfl m__law_draw k__law_draw b__law_draw .nil pass0 (pa_cons (pv 0) (pa_cons pe_int pa_nil)))) pa_nil)) (pg_name (i := 11) sc__law_holds.nd rfl (Or.inl rfl))
      (pss_cons (ps_set (i := 12) sc__law_holds.nd rfl (Or.inl rfl) (pe_call G__law_draw (hr.mono (by decide)) rfl m__law_draw k__law_draw b__law_draw .nil pass0 (pa_cons (pv 0) (pa_cons pe_int pa_nil))))
      (pss_cons (ps_if (PW.pt (pw_or (PW.pt (pw_and (pt_cmpR op_eq (pv 12) pe_int (nomark _)) (pw_and1 (pt_cmpR op_lt (pe_callB call_len_seq (by rfl) T.len PySem.boot_len (pa_cons (pv 8) pa_nil)) pe_int (nomark _))))) (pw_or1 (pt_cmpR (OW.op_eqNil hr.units0) (pv 8) (pe_lst pa_nil) (nomark _)))))
      (pss_one (ps_par (i := 13) (j := 10) (by rfl) sc__law_holds.nd rfl rfl (by decide) rfl rfl (pa_cons (pe_call G__law_lend (hr.mono (by decide)) rfl m__law_lend k__law_lend b__law_lend .nil pass0 (pa_cons (pv 6) (pa_cons (pv 7) (pa_cons (pv 8) (pa_cons (pv 10) pa_nil))))) (pa_cons (pe_op op_add (pv 10) pe_int) pa_nil)) (by rfl)))
      (pss_one (ps_if (pt_cmpR op_eq (pv 12) pe_int (nomark _))
      (pss_one (ps_set (i := 13) sc__law_holds.nd rfl (Or.inl rfl) (pe_call G__law_give (hr.mono (by decide)) rfl m__law_give k__law_give b__law_give .nil pass0 (pa_cons (pv 0) (pa_cons (pv 6) (pa_cons (pe_bm PySem.F.plainAttrs_list PySem.F.slot_list_pop PySem.F.type_list_pop mt_popAt (pv 8) (pa_cons (pe_call G__law_draw (hr.mono (by decide)) rfl m__law_draw k__law_draw b__law_draw .nil pass0 (pa_cons (pv 0) (pa_cons (pe_callB call_len_seq (by rfl) T.len PySem.boot_len (pa_cons (pv 8) pa_nil)) pa_nil))) pa_nil)) (pa_cons (pv 2) (pa_cons (pv 9) pa_nil))))))))
      (pss_one (ps_set (i := 13) sc__law_holds.nd rfl (Or.inl rfl) (pe_call G__law_act (hr.mono (by decide)) rfl m__law_act k__law_act b__law_act .nil pass0 (pa_cons (pv 0) (pa_cons (pe_ix ix_list (pv 8) (pe_call G__law_draw (hr.mono (by decide)) rfl m__law_draw k__law_draw b__law_draw .nil pass0 (pa_cons (pv 0) (pa_cons (pe_callB call_len_seq (by rfl) T.len PySem.boot_len (pa_cons (pv 8) pa_nil)) pa_nil))) (fun _ _ => rfl)) (pa_cons (pv 5) pa_nil)))))))))
      (pss_one (ps_if (PW.pt (pw_or (pt_not (pt_val (pv 13))) (pw_or1 (pt_not (pt_val (pe_call G__law_shows (hr.mono (by decide)) rfl m__law_shows k__law_shows b__law_shows .nil pass0 (pa_cons (pv 6) (pa_cons (pv 7) (pa_cons (pv 9) pa_nil)))))))))
      (pss_one (ps_ret pe_bl))
      pss_nil)))))
      (pss_one (ps_ret pe_bl))))))))), ?_⟩
  obtain ⟨s1, ext, rfl, Sr, he, k⟩ := h
  have hs1 : ∃ o, H s1 = some o := by
    obtain ⟨_, _, _, q, _⟩ := Sr.at_
    exact ⟨_, q⟩
  refine ⟨_, rfl, (by show 4 ≤ sizeLine; decide), fun l0 h0 => ⟨(by show 5 ≤ sizeLine; decide), fun l1 h1 => ⟨(by show 2 ≤ sizeLine; decide), fun p hp => ?_⟩⟩⟩
  have sA : Same H (upd H l0 (.lst [.str "close", .str "check", .str "drain", .str "ping"])) := Same.new h0
  have sB := sput (o := .lst [.str "keep", .str "keep", .str "drain", .str "ping", .str "check"]) sA h1
  have sC := sput (o := .lst [.ref l0, .ref l1]) sB hp
  have cB : Same (upd H l0 (.lst [.str "close", .str "check", .str "drain", .str "ping"])) _ := sput (o := .lst [.ref l0, .ref l1]) (Same.new (o := .lst [.str "keep", .str "keep", .str "drain", .str "ping", .str "check"]) h1) hp
  have cC := Same.new (o := .lst [.ref l0, .ref l1]) hp
  have nOld : ∀ z, H z = none → s1 ≠ z := fun z hz e => by
    obtain ⟨o, q⟩ := hs1
    rw [e, hz] at q
    cases q
  refine ⟨s1, p, _, 0, rfl, Sr.keep (fun o h => sC _ _ h), by decide, upd_same, nOld _ (sB.free hp), (by show 1 ≤ 2; decide), (by show 2 ≤ 1000; decide), fun H1 i v hv f1 S1 => ?_⟩
  obtain ⟨kept, sm, ws, rfl, hsm0, hsm, hne, hlen, hkp, hin⟩ : ∃ (kept : Bool) (sm : Addr) (ws : List Dw), v = .ref sm ∧ H sm = none ∧ H1 sm = some (.lst (ws.map fun u => .str u.s)) ∧ 1 ≤ ws.length ∧ ws.length ≤ 5 ∧ (kept = false → ∀ u ∈ ws, u ≠ .keep) ∧ inV (.str "keep") (ws.map fun u => .str u.s) = kept := by
    match i, hv with
    | 0, hv => exact ⟨false, l0, [.close, .check, .drain, .ping], (Option.some.inj hv).symm, h0, f1 _ _ (nOld _ h0).symm (nOld _ h0).symm (cB _ _ upd_same), by decide, by decide, fun _ => by decide, by decide +kernel⟩
    | 1, hv => exact ⟨true, l1, [.keep, .keep, .drain, .ping, .check], (Option.some.inj hv).symm, sA.free h1, f1 _ _ (nOld _ (sA.free h1)).symm (nOld _ (sA.free h1)).symm (cC _ _ upd_same), by decide, by decide, fun z => (nomatch z), by decide +kernel⟩
  have nsm := nOld _ hsm0
  -- a word
  have draw : ∀ {H2 : Hp} {c : Nat}, SrcAt H2 s1 c → c ≤ 100 → H2 sm = some (.lst (ws.map fun u => .str u.s)) → ∀ Q : VK, (∀ H' (u : Dw), (kept = false → u ≠ .keep) → Fr1 H2 H' s1 → SrcAt H' s1 (c + 1) → H' sm = some (.lst (ws.map fun u => .str u.s)) → Q (.str u.s) H') → sp_of [.ref s1, .ref sm] H2 Q E0 := by
    intro H2 c S2 hc h2 Q hQ
    refine ⟨s1, sm, _, c, rfl, S2, by omega, h2, nsm, by rw [List.length_map]; exact hne, by rw [List.length_map]; omega, fun H' i v hv fr S' => ?_⟩
    rw [List.getElem?_map] at hv
    obtain ⟨u, hu', rfl⟩ := Option.map_eq_some_iff.mp hv
    exact hQ H' u (fun e => hkp e u (List.mem_of_getElem? hu')) fr S' (fr _ _ nsm.symm nsm.symm h2)
  refine ⟨_, rfl, _, rfl, draw S1 (by omega) hsm _ (fun H2 e ke f2 S2 m2 => ?_)⟩
  refine ⟨_, rfl, _, rfl, draw S2 (by omega) m2 _ (fun H3 f kf f3 S3 m3 => ?_)⟩
  refine ⟨_, rfl, _, rfl, draw S3 (by omega) m3 _ (fun H4 w' kw f4 S4 m4 => ?_)⟩
  intro WD hWD
  refine ⟨(by show 4 ≤ sizeLine; decide), fun WL hWL => ?_⟩
  have F4 : FrP (fun x => x = s1) H H4 := FrP.fr2 (FrP.fr2 (FrP.fr2 (FrP.fr2 (FrP.same FrP.refl sC) f1 rfl rfl) f2 rfl rfl) f3 rfl rfl) f4 rfl rfl
  have x4 : ∀ x, x = s1 → ∃ o, H4 x = some o := fun x z => by
    obtain ⟨_, _, _, q, _⟩ := S4.at_
    exact ⟨_, z ▸ q⟩
  have s45 := sput (o := .lst [.str e.s, .str f.s, .str w'.s, .ref WD]) (Same.new (o := .dT []) hWD) hWL
  have hWD0 := FrP.back F4 x4 hWD
  have hWL4 := (Same.new (o := .dT []) hWD).free hWL
  have hWL0 := FrP.back F4 x4 hWL4
  have wd5 : upd (upd H4 WD (.dT [])) WL (.lst [.str e.s, .str f.s, .str w'.s, .ref WD]) WD = some (.dT []) := by
    rw [upd_ne (ne_of_none upd_same hWL), upd_same]
  have wl5 : upd (upd H4 WD (.dT [])) WL (.lst [.str e.s, .str f.s, .str w'.s, .ref WD]) WL = some (.lst [.str e.s, .str f.s, .str w'.s, .ref WD]) := upd_same
  refine (show tSeq _ _ _ _ (upd (upd H4 WD (.dT [])) WL (.lst [.str e.s, .str f.s, .str w'.s, .ref WD])) from ?_)
  generalize upd (upd H4 WD (.dT [])) WL (.lst [.str e.s, .str f.s, .str w'.s, .ref WD]) = H5 at s45 wd5 wl5 ⊢
  have F5 := FrP.same F4 s45
  have S5 := S4.keep (fun o h => s45 _ _ h)
  have m5 := s45 _ _ m4
  refine ⟨_, rfl, WL, _, _, _, rfl, rfl, SqL.of wl5, atI_nat (j := 0) rfl, _, rfl, WL, _, _, _, rfl, rfl, SqL.of wl5, atI_nat (j := 1) rfl, _, rfl, WL, _, _, _, rfl, rfl, SqL.of wl5, atI_nat (j := 2) rfl, rfl, rfl, ?_⟩
  intro b dy hb hdy hne2
  refine ⟨b, dy, e, f, w', rfl, upd_same, ?_⟩
  intro H6 o fr6 ho D6
  refine ⟨rfl, ?_⟩
  have s56' : Same H5 (upd (upd H5 dy (.own b)) b (.ins (CD K) dy [])) := fun z u q => by
    rw [upd_ne (ne_of_none q hb), upd_ne (ne_of_none q hdy)]
    exact q
  have s56 : Same H5 H6 := fun z u q => fr6 z u (ne_of_none q hb) (ne_of_none q hb) (s56' _ _ q)
  have F6 := FrP.same F5 s56
  have S6 := S5.keep (fun o h => s56 _ _ h)
  have m6 := s56 _ _ m5
  have wd6 := s56 _ _ wd5
  have wl6 := s56 _ _ wl5
  have nWDo : WD ≠ o := fun z => by
    have q := s56' _ _ wd5
    rw [z, ho] at q
    cases q
  have ho5 : H5 o = none := s56'.free ho
  clear fr6 s56'
  refine ⟨(by show 2 ≤ sizeLine; decide), fun w0 hw0 => ⟨(by show 2 ≤ sizeLine; decide), fun w1 hw1 => ⟨(by show 2 ≤ sizeLine; decide), fun wl hwl => ⟨wl, rfl, ⟨_, SqL.of upd_same⟩, ?_⟩⟩⟩⟩
  have s67 := sput (o := .lst [.ref w0, .ref w1]) (sput (o := .tup [.str "cut", .int 3]) (Same.new (o := .tup [.str "return", .int 1]) hw0) hw1) hwl
  have c67 := sput (o := .lst [.ref w0, .ref w1]) (Same.new (o := .tup [.str "cut", .int 3]) hw1) hwl
  have w07 : upd (upd (upd H6 w0 (.tup [.str "return", .int 1])) w1 (.tup [.str "cut", .int 3])) wl (.lst [.ref w0, .ref w1]) w0 = some (.tup (Wy.t .ret1)) := c67 _ _ upd_same
  have w17 : upd (upd (upd H6 w0 (.tup [.str "return", .int 1])) w1 (.tup [.str "cut", .int 3])) wl (.lst [.ref w0, .ref w1]) w1 = some (.tup (Wy.t .cut3)) := Same.new (o := .lst [.ref w0, .ref w1]) hwl _ _ upd_same
  have wl7 : upd (upd (upd H6 w0 (.tup [.str "return", .int 1])) w1 (.tup [.str "cut", .int 3])) wl (.lst [.ref w0, .ref w1]) wl = some (.lst [.ref w0, .ref w1]) := upd_same
  generalize upd (upd (upd H6 w0 (.tup [.str "return", .int 1])) w1 (.tup [.str "cut", .int 3])) wl (.lst [.ref w0, .ref w1]) = H7 at s67 w07 w17 wl7 ⊢
  have lWL : ∀ {X : Hp} {c : Nat}, SrcAt X s1 c → X WL = some (.lst [.str e.s, .str f.s, .str w'.s, .ref WD]) → s1 ≠ WL := fun S h z => by
    obtain ⟨_, _, _, q, _⟩ := S.at_
    rw [z, h] at q
    cases q
  refine for_it (walk_list (xs := [V.ref w0, .ref w1])) (fun i σ H' => ∃ (us : List Dw) (v : Option V), us.length = i ∧ (∀ u ∈ us, kept = false → u ≠ .keep) ∧ σ = [some (.ref s1), some (.ref sm), some (.ref WL), some (.ref b), v, none, none, none, none, none, none, none, none, none] ∧ SrcAt H' s1 (4 + i) ∧ H' sm = some (.lst (ws.map fun u => .str u.s)) ∧
    H' WL = some (.lst [.str e.s, .str f.s, .str w'.s, .ref WD]) ∧ H' WD = some (.dT (kvsOf us)) ∧ DoorAt K H' b dy e f w' o (kvsOf us) ∧ H' w0 = some (.tup (Wy.t .ret1)) ∧ H' w1 = some (.tup (Wy.t .cut3)) ∧ H' wl = some (.lst [.ref w0, .ref w1]) ∧ FrP (fun x => x = s1) H H') ?_ ?_ ?_ ?_
  · exact ⟨[], none, rfl, fun u hu => (nomatch hu), rfl, S6.keep (fun o h => s67 _ _ h), s67 _ _ m6, s67 _ _ wl6, s67 _ _ wd6, D6.same s67, w07, w17, wl7, FrP.same F6 s67⟩
  · rintro i σ H' hi ⟨us, v, _, _, _, _, _, _, _, _, _, _, h, _⟩
    exact SqL.of h
  · rintro i x σ H9 H8 hi ⟨us, v, hul, hus, rfl, S8, m8, wl8, wd8, D8, w08, w18, wll8, F8⟩ ⟨rfl, hx⟩
    have hi2 : i < 2 := hi
    obtain ⟨y, wX, rfl, hwX, hput, hval, hl10⟩ : ∃ (y : Wy) (wX : Addr), x = .ref wX ∧ H8 wX = some (.tup (Wy.t y)) ∧ (∀ u : Dw, putK (kvsOf us) y.k (.str u.s) = kvsOf (us ++ [u])) ∧ (∀ u : Dw, valV (kvsOf (us ++ [u])) y.k = some (.str u.s)) ∧ (kvsOf us).length ≤ 1 := by
      match i, hx, us, hul with
      | 0, hx, [], _ => exact ⟨.ret1, w0, (Option.some.inj hx).symm, w08, kvs_put0, kvs_val0, by decide⟩
      | 1, hx, [u0], _ => exact ⟨.cut3, w1, (Option.some.inj hx).symm, w18, kvs_put1 u0, kvs_val1 u0, by show 1 ≤ 1; decide⟩
    refine ⟨_, rfl, _, rfl, draw S8 (by omega) m8 _ (fun H10 u ku f10 S10 m10 => ?_)⟩
    have nWL := lWL S8 wl8
    have nX : ∀ {z : Addr} {t : List V}, H8 z = some (.tup t) → z ≠ s1 := fun h q => by
      obtain ⟨_, _, _, q2, _⟩ := S8.at_
      rw [← q, h] at q2
      cases q2
    have wl10 := f10 _ _ nWL.symm nWL.symm wl8
    have nD : ∀ {z : Addr} {t : List (List Key × V)}, H8 z = some (.dT t) → z ≠ s1 := fun h q => by
      obtain ⟨_, _, _, q2, _⟩ := S8.at_
      rw [← q, h] at q2
      cases q2
    have wd10 := f10 _ _ (nD wd8) (nD wd8) wd8
    have hwX10 := f10 _ _ (nX hwX) (nX hwX) hwX
    have w010 := f10 _ _ (nX w08) (nX w08) w08
    have w110 := f10 _ _ (nX w18) (nX w18) w18
    have nwl : wl ≠ s1 := fun q => by
      obtain ⟨_, _, _, q2, _⟩ := S8.at_
      rw [← q, wll8] at q2
      cases q2
    have wll10 := f10 _ _ nwl nwl wll8
    have nb : b ≠ s1 := fun q => by
      obtain ⟨_, _, _, q2, _⟩ := S8.at_
      rw [← q, D8.obj] at q2
      cases q2
    have D10 : DoorAt K H10 b dy e f w' o (kvsOf us) := ⟨f10 _ _ nb nb D8.obj, f10 _ _ (nD D8.oth) (nD D8.oth) D8.oth⟩
    refine ⟨_, rfl, WL, _, _, _, rfl, rfl, SqL.of wl10, atI_nat (j := 3) rfl, _, rfl, WD, _, rfl, DPut.t (k := y.k) wd10 hwX10 (Nat.lt_of_le_of_lt hl10 (by decide)), ?_⟩
    rw [hput u]
    have keep : ∀ {z : Addr} {q : HO}, H10 z = some q → z ≠ WD → upd H10 WD (.dT (kvsOf (us ++ [u]))) z = some q := fun h n => by
      rw [upd_ne n]
      exact h
    have hwX11 := keep hwX10 (ne_of hwX10 wd10 (fun z => nomatch z))
    have wl11 := keep wl10 (ne_of wl10 wd10 (fun z => nomatch z))
    have D11 : DoorAt K (upd H10 WD (.dT (kvsOf (us ++ [u])))) b dy e f w' o (kvsOf us) := ⟨keep D10.obj (ne_of D10.obj wd10 (fun z => nomatch z)), keep D10.oth nWDo.symm⟩
    have gD : DGet (upd H10 WD (.dT (kvsOf (us ++ [u])))) WD (.ref wX) (some (.str u.s)) := by
      have z := DGet.t (k := y.k) (H := upd H10 WD (.dT (kvsOf (us ++ [u])))) (a := WD) upd_same hwX11
      rw [hval u] at z
      exact z
    refine ⟨_, rfl, WL, _, _, _, rfl, rfl, SqL.of wl11, atI_nat (j := 3) rfl, _, rfl, WD, _, rfl, gD, ?_⟩
    refine ⟨_, rfl, _, rfl, b, _, _, rfl, D11.obj, b, dy, o, wX, e, f, w', u, y, kvsOf us, rfl, D11, hwX11, by omega, fun H12 fr12 D12 => ?_⟩
    rw [hput u] at D12
    have keep2 : ∀ {z : Addr} {q : HO}, H10 z = some q → z ≠ WD → z ≠ o → H12 z = some q := fun h n n2 => fr12 _ _ n2 n2 (keep h n)
    have hOo := D10.oth
    have lD : ∀ {z : Addr} {xs : List V}, H10 z = some (.lst xs) → H12 z = some (.lst xs) := fun h => keep2 h (ne_of h wd10 (fun z => nomatch z)) (ne_of h hOo (fun z => nomatch z))
    have tD : ∀ {z : Addr} {xs : List V}, H10 z = some (.tup xs) → H12 z = some (.tup xs) := fun h => keep2 h (ne_of h wd10 (fun z => nomatch z)) (ne_of h hOo (fun z => nomatch z))
    refine ⟨us ++ [u], _, by rw [List.length_append, hul]; rfl, fun u' hu' => ?_, rfl, S10.keep (fun q h => ?_), lD m10, lD wl10, fr12 _ _ nWDo nWDo upd_same, D12, tD w010, tD w110, lD wll10, ?_⟩
    · rcases List.mem_append.mp hu' with h | h
      · exact hus u' h
      · have : u' = u := by simpa using h
        rw [this]
        exact ku
    · obtain ⟨sL, sM, sT, q2, _⟩ := S10.at_
      rw [q2] at h
      cases h
      exact lD q2
    · have hx12 : ∀ z q, z ≠ s1 → H z = some q → H12 z = some q := fun z q n h => by
        have h8 := F8 z q n h
        have h10 := f10 z q n n h8
        refine keep2 h10 ?_ ?_
        · intro z2
          rw [z2, hWD0] at h
          cases h
        · intro z2
          have z3 := F5 z q n h
          have z4 : H5 o = none := ho5
          rw [z2, z4] at z3
          cases z3
      exact hx12
  rintro σ H8 ⟨us, v, hul, hus, rfl, S8, m8, wl8, wd8, D8, w08, w18, wll8, F8⟩
  obtain ⟨u0, u1, rfl⟩ : ∃ u0 u1, us = [u0, u1] := by
    match us, hul with
    | [u0, u1], _ => exact ⟨u0, u1, rfl⟩
  have wd8 : H8 WD = some (.dT (two u0 u1)) := wd8
  have D8 : DoorAt K H8 b dy e f w' o (two u0 u1) := D8
  subst hin
  refine ⟨_, rfl, sm, _, rfl, .inl (SqL.of m8), rfl, List.all_eq_true.mpr (fun x hx => by
    obtain ⟨u, _, rfl⟩ := List.mem_map.mp hx
    rfl), ?_⟩
  refine ⟨_, rfl, fun pp dp hpp hdp hne3 => ?_⟩
  have s8 : Same H8 (upd (upd H8 dp (.own pp)) pp (.ins (CP K) dp [])) := fun z u q => by
    rw [upd_ne (ne_of_none q hpp), upd_ne (ne_of_none q hdp)]
    exact q
  refine ⟨pp, dp, b, dy, o, e, f, w', u0, u1, rfl, upd_same, D8.same s8, fun H9 d dd o2 L t c fr9 hd ho2 hL ht hc P9 D9 L9 T9 => ⟨rfl, ?_⟩⟩
  have s89 : Same H8 H9 := fun z u q => fr9 z u (ne_of_none q hpp) (ne_of_none q hpp) (s8 _ _ q)
  have hL8 := s8.free hL
  clear fr9
  refine ⟨Nat.zero_le _, fun LL hLL => ⟨Nat.zero_le _, fun LO hLO => ⟨Nat.zero_le _, fun ts hts => ⟨(by show 2 ≤ sizeLine; decide), fun SU hSU => ⟨(by show 5 ≤ sizeLine; decide), fun tp htp => ⟨tp, _, rfl, SqT.of upd_same, rfl, _, _, rfl, _, _, rfl, _, _, rfl, _, _, rfl, _, _, rfl, rfl, ?_⟩⟩⟩⟩⟩⟩
  have x8 : ∀ x, x = s1 → ∃ o, H8 x = some o := fun x z => by
    obtain ⟨_, _, _, q, _⟩ := S8.at_
    exact ⟨_, z ▸ q⟩
  obtain ⟨sL8, sM8, sT8, sv8, _⟩ := S8.at_
  have e10 : Same H9 (upd H9 LL (.lst [])) := Same.new hLL
  have e11 := sput (o := .lst []) e10 hLO
  have e12 := sput (o := .tup []) e11 hts
  have e13 := sput (o := .lst [.int 0, .ref ts]) e12 hSU
  have e14 := sput (o := .tup [.ref pp, .ref LL, .ref LO, .ref SU, .int 0]) e13 htp
  have e8 := s89.trans e14
  have LL14 := sput (o := .tup [.ref pp, .ref LL, .ref LO, .ref SU, .int 0]) (sput (o := .lst [.int 0, .ref ts]) (sput (o := .tup []) (Same.new (o := .lst []) hLO) hts) hSU) htp _ _ upd_same
  have LO14 := sput (o := .tup [.ref pp, .ref LL, .ref LO, .ref SU, .int 0]) (sput (o := .lst [.int 0, .ref ts]) (Same.new (o := .tup []) hts) hSU) htp _ _ upd_same
  have ts14 := sput (o := .tup [.ref pp, .ref LL, .ref LO, .ref SU, .int 0]) (Same.new (o := .lst [.int 0, .ref ts]) hSU) htp _ _ upd_same
  have SU14 := Same.new (o := .tup [.ref pp, .ref LL, .ref LO, .ref SU, .int 0]) htp _ _ upd_same
  have hLL9 := hLL
  have hLO9 := e10.free hLO
  have hSU9 := e12.free hSU
  have fH : ∀ {z : Addr}, H8 z = none → H z = none := fun h => FrP.back F8 x8 h
  have n1 : L ≠ LL := ne_of_none L9 hLL
  have n2 : L ≠ LO := ne_of_none L9 hLO9
  have n3 : L ≠ SU := ne_of_none L9 hSU9
  have sv9 := s89 _ _ sv8
  have n4 : L ≠ s1 := fun z => by
    rw [z, sv8] at hL8
    cases hL8
  have n5 : LL ≠ LO := ne_of_none upd_same hLO
  have n6 : LL ≠ SU := ne_of_none (sput (o := .tup []) (Same.new (o := .lst []) hLO) hts _ _ upd_same) hSU
  have n7 : LL ≠ s1 := (ne_of_none sv9 hLL).symm
  have n8 : LO ≠ SU := ne_of_none (Same.new (o := .tup []) hts _ _ upd_same) hSU
  have n9 : LO ≠ s1 := (ne_of_none sv9 hLO9).symm
  have n10 : SU ≠ s1 := (ne_of_none sv9 hSU9).symm
  have wl9 := s89 _ _ wl8
  have oW : Out { p := pp, dp := dp, d := d, dd := dd, o := o2, c := c, L := L, LL := LL, LO := LO, SU := SU, SR := s1, WL := WL, WD := WD, e := e, f := f, w := w', u0 := u0, u1 := u1, ext := ext } WL :=
    ⟨ne_of_none wl8 hpp, ne_of_none wl8 hL8, ne_of_none wl9 hLL, ne_of_none wl9 hLO9, ne_of_none wl9 hSU9, (lWL S8 wl8).symm⟩
  have oX : ∀ q ∈ ext, upd (upd (upd (upd (upd H9 LL (.lst [])) LO (.lst [])) ts (.tup [])) SU (.lst [.int 0, .ref ts])) tp (.tup [.ref pp, .ref LL, .ref LO, .ref SU, .int 0]) q.1 = some q.2 ∧ Out { p := pp, dp := dp, d := d, dd := dd, o := o2, c := c, L := L, LL := LL, LO := LO, SU := SU, SR := s1, WL := WL, WD := WD, e := e, f := f, w := w', u0 := u0, u1 := u1, ext := ext } q.1 := fun q hq => by
    obtain ⟨h1, h2⟩ := he q hq
    have h8 := F8 _ _ h2 h1
    exact ⟨e8 _ _ h8, ne_of_none h8 hpp, ne_of_none h8 hL8, ne_of_none (s89 _ _ h8) hLL, ne_of_none (s89 _ _ h8) hLO9, ne_of_none (s89 _ _ h8) hSU9, h2⟩
  obtain ⟨g, G⟩ := GI.start (K := K) (H := upd (upd (upd (upd (upd H9 LL (.lst [])) LO (.lst [])) ts (.tup [])) SU (.lst [.int 0, .ref ts])) tp (.tup [.ref pp, .ref LL, .ref LO, .ref SU, .int 0])) (B := { p := pp, dp := dp, d := d, dd := dd, o := o2, c := c, L := L, LL := LL, LO := LO, SU := SU, SR := s1, WL := WL, WD := WD, e := e, f := f, w := w', u0 := u0, u1 := u1, ext := ext }) (t := t) (ts := ts) (sc := 6)
    (e14 _ _ P9) (e14 _ _ D9.obj) (e14 _ _ D9.oth) (e14 _ _ L9) LL14 LO14 SU14 (e14 _ _ T9) ts14 (S8.keep (fun o h => e8 _ _ h)) (e8 _ _ wl8) (e8 _ _ wd8) oX n1 n2 n3 n4 n5 n6 n7 n8 n9 n10 oW
  have S14 := G.SR
  have hW : WOk (inV (.str "keep") (ws.map fun u => .str u.s)) { p := pp, dp := dp, d := d, dd := dd, o := o2, c := c, L := L, LL := LL, LO := LO, SU := SU, SR := s1, WL := WL, WD := WD, e := e, f := f, w := w', u0 := u0, u1 := u1, ext := ext } := fun z => ⟨ke z, kf z, kw z, hus u0 (by simp) z, hus u1 (by simp) z⟩
  clear draw hkp ke kf kw hus
  generalize upd (upd (upd (upd (upd H9 LL (.lst [])) LO (.lst [])) ts (.tup [])) SU (.lst [.int 0, .ref ts])) tp (.tup [.ref pp, .ref LL, .ref LO, .ref SU, .int 0]) = H14 at G S14 ⊢
  generalize inV (.str "keep") (ws.map fun u => .str u.s) = kept at hW ⊢
  obtain ⟨B, hB⟩ : ∃ B : Sta, B = { p := pp, dp := dp, d := d, dd := dd, o := o2, c := c, L := L, LL := LL, LO := LO, SU := SU, SR := s1, WL := WL, WD := WD, e := e, f := f, w := w', u0 := u0, u1 := u1, ext := ext } := ⟨_, rfl⟩
  have bp : pp = B.p := by rw [hB]
  have bLL : LL = B.LL := by rw [hB]
  have bLO : LO = B.LO := by rw [hB]
  have bSU : SU = B.SU := by rw [hB]
  have bSR : s1 = B.SR := by rw [hB]
  have bWL : WL = B.WL := by rw [hB]
  have bx : ext = B.ext := by rw [hB]
  rw [← hB] at G hW
  refine ⟨_, rfl, s1, 111, 6, rfl, S14, by decide, by decide, by decide, fun H15 i15 hi15 fr15 S15 => ⟨_, _, rfl, rfl, _, rfl, by show -(2 ^ 62) ≤ (10 : Int) + i15; omega, by show (10 : Int) + i15 < 2 ^ 62; omega, ?_⟩⟩
  have G15 := G.src (bSR ▸ fr15) (bSR ▸ S15)
  have hn : ((10 : Int) + i15).toNat ≤ 121 := by omega
  refine for_it (walk_range (lo := 0) (n := ((10 : Int) + i15).toNat)) (fun i σ H' => ∃ (g : Gh) (S : Sv) (cnt : Nat) (v4 v11 v12 v13 : Option V), σ = [some (.ref s1), some (.ref sm), some (.ref WL), some (.ref b), v4, some (.bl kept), some (.ref pp), some (.ref LL), some (.ref LO), some (.ref SU), some (.int cnt), v11, v12, v13] ∧ GI K g H' B S ∧ PureOk kept i S ∧ S.sc ≤ 7 + 10 * i ∧ cnt ≤ i) ?_ (fun _ _ _ _ _ => trivial) ?_ ?_
  · exact ⟨g, _, 0, _, _, _, _, rfl, G15, ⟨Nat.le_refl _, Nat.le_refl _, Nat.le_refl _, fun i r e => (by cases e), fun j x e => (by cases e), fun _ i r e => (by cases e), fun _ j x r e => (by cases e)⟩, by show 6 + 1 ≤ _; omega, Nat.le_refl _⟩
  · rintro j x σ H1' H1 hj ⟨g, S, cnt, v4, v11, v12, v13, rfl, G, Pu, hsc, hcnt⟩ ⟨rfl, rfl⟩
    have hj2 : j < 121 := Nat.lt_of_lt_of_le hj hn
    have fin : ∀ (D : Ends) (H4 : Hp) (g4 : Gh) (S4 : Sv) (cnt4 : Nat) (v4 v11 v12 : Option V), (∀ H5, Same H4 H5 → D.nx [some (.ref s1), some (.ref sm), some (.ref WL), some (.ref b), v4, some (.bl kept), some (.ref pp), some (.ref LL), some (.ref LO), some (.ref SU), some (.int cnt4), v11, v12, some (.bl true)] H5) → GI K g4 H4 B S4 → S4.rs.length ≤ 900 → S4.lost.length ≤ 900 →
        tIfS (tOr (tNot (tB (tVar 13))) (tNot (tB (tCall (sp_law_shows K) [] E0 (tCons (tVar 6) (tCons (tVar 7) (tCons (tVar 9) tNil))))))) (tRet (tC (.bl false))) tNext D [some (.ref s1), some (.ref sm), some (.ref WL), some (.ref b), v4, some (.bl kept), some (.ref pp), some (.ref LL), some (.ref LO), some (.ref SU), some (.int cnt4), v11, v12, some (.bl true)] H4 := by
      intro D H4 g4 S4 cnt4 v4 v11 v12 hD G4 h1 h2
      refine ⟨_, rfl, _, rfl, iteF' rfl ⟨_, rfl, _, rfl, _, rfl, g4, B, S4, (by rw [bp, bLL, bSU]; rfl), G4, h1, h2, fun H5 s5 => ⟨_, rfl, iteF' rfl (hD H5 s5)⟩⟩⟩
    refine ⟨_, rfl, s1, 8, S.sc, rfl, bSR ▸ G.SR, by omega, by decide, by decide, fun H3 dd' hdd fr3 S3 => ?_⟩
    have G3 := G.src (bSR ▸ fr3) (bSR ▸ S3)
    have LO3 : H3 LO = some (.lst (loas S.los)) := bLO ▸ G3.LO.h
    have lend : ∀ H4, Same H3 H4 → GI K g H4 B { S with sc := S.sc + 1 } := fun H4 s => G3.same s
    have elif_ : ∀ (H4 : Hp) (v4 v11 v13 : Option V) (D : Ends), Same H3 H4 → S.los ≠ [] → (∀ H8 g8 S8, GI K g8 H8 B S8 → PureOk kept (j + 1) S8 → S8.sc ≤ 7 + 10 * (j + 1) → D.nx [some (.ref s1), some (.ref sm), some (.ref WL), some (.ref b), v4, some (.bl kept), some (.ref pp), some (.ref LL), some (.ref LO), some (.ref SU), some (.int cnt), v11, some (.int dd'), some (.bl true)] H8) →
        tIfS (tTest (tOp rEq (tVar 12) (tC (.int 1))))
          (tAsg (tCall (sp_law_give K) [] E0 (tCons (tVar 0) (tCons (tVar 6) (tCons (tBM K "list" rPopAt (tVar 8) (tCons (tCall sp_draw [] E0 (tCons (tVar 0) (tCons (tCB (fun xs H Q => ∃ p ys, xs = [V.ref p] ∧ (SqL K H p ys ∨ SqT K H p ys) ∧ Q (.int ys.length) H) (tCons (tVar 8) tNil)) tNil))) tNil)) (tCons (tVar 2) (tCons (tVar 9) tNil)))))) (gName 13))
          (tAsg (tCall (sp_law_act K) [] E0 (tCons (tVar 0) (tCons (tOp (rIxL K) (tVar 8) (tCall sp_draw [] E0 (tCons (tVar 0) (tCons (tCB (fun xs H Q => ∃ p ys, xs = [V.ref p] ∧ (SqL K H p ys ∨ SqT K H p ys) ∧ Q (.int ys.length) H) (tCons (tVar 8) tNil)) tNil)))) (tCons (tVar 5) tNil)))) (gName 13)) D
          [some (.ref s1), some (.ref sm), some (.ref WL), some (.ref b), v4, some (.bl kept), some (.ref pp), some (.ref LL), some (.ref LO), some (.ref SU), some (.int cnt), v11, some (.int dd'), v13] H4 := by
      intro H4 v4 v11 v13 D s4 hnn hD
      have G4 := G3.same s4
      have LO4 : H4 LO = some (.lst (loas S.los)) := bLO ▸ G4.LO.h
      have hlen1 : 1 ≤ S.los.length := by
        cases e : S.los with
        | nil => exact absurd e hnn
        | cons y ys => simp
      have hlos := Pu.losn
      refine ⟨_, rfl, rfl, _, rfl, ?_⟩
      by_cases hd1 : dd' = 1
      · refine iteT' (by rw [hd1]; rfl) ?_
        refine ⟨_, rfl, _, rfl, _, rfl, .inl ⟨rfl, _, SqL.of LO4⟩, _, rfl, _, rfl, LO, _, rfl, .inl (SqL.of LO4), s1, S.los.length, S.sc + 1, (by rw [List.length_map]; rfl), bSR ▸ G4.SR, by omega, hlen1, by omega, fun H6 m hm fr6 S6 => ?_⟩
        have G6 := G4.src (bSR ▸ fr6) (bSR ▸ S6)
        have hx : S.los[m]? = some S.los[m] := by simp [hm]
        obtain ⟨r, hr, hlent, X6⟩ := G6.lo m S.los[m] hx
        obtain ⟨G7, hout⟩ := G6.pop hx
        have X7 : Own g (upd H6 B.LO (.lst ((loas S.los).eraseIdx m))) (S.los[m]).a (.lo (S.los[m]).i) (.lst (loanL r S.los[m])) := ⟨X6.g, by rw [upd_ne (X6.ne G6.LO.g (fun z => nomatch z))]; exact X6.h⟩
        refine ⟨LO, _, _, m, .ref (S.los[m]).a, rfl, rfl, bLO ▸ G6.LO.h, by omega, by omega, (ixN_seq (ixN_nat (by rw [List.length_map]; exact hm))).1, (by rw [List.getElem?_map, hx]; rfl), _, rfl, _, rfl, ?_⟩
        refine ⟨g, B, { S with sc := S.sc + 1 + 1, los := S.los.eraseIdx m }, kept, j, S.los[m], r, (by rw [bSR, bp, bWL, bSU]; rfl), (by rw [bLO]; exact G7), pure_pop (pure_sc (c := S.sc + 1 + 1) Pu : PureOk kept j { S with sc := S.sc + 1 + 1 }), hW, hr, hlent, (by rw [bLO]; exact X7), hout, by omega, by show S.sc + 1 + 1 ≤ _; omega, fun H8 g8 S8 G8 Pu8 hsc8 => ?_⟩
        exact hD H8 g8 S8 G8 Pu8 (by have hh : S8.sc ≤ (S.sc + 1 + 1) + 4 := hsc8; omega)
      · refine iteF' (by
          refine decide_eq_false (fun z => hd1 ?_)
          injection z with z
          omega) ?_
        refine ⟨_, rfl, _, rfl, _, rfl, _, rfl, LO, _, rfl, .inl (SqL.of LO4), s1, S.los.length, S.sc + 1, (by rw [List.length_map]; rfl), bSR ▸ G4.SR, by omega, hlen1, by omega, fun H6 m hm fr6 S6 => ?_⟩
        have G6 := G4.src (bSR ▸ fr6) (bSR ▸ S6)
        have hx : S.los[m]? = some S.los[m] := by simp [hm]
        refine ⟨LO, _, _, .ref (S.los[m]).a, rfl, rfl, SqL.of (bLO ▸ G6.LO.h), atI_nat (j := m) (by rw [List.getElem?_map, hx]; rfl), _, rfl, g, B, _, kept, j, m, S.los[m], (by rw [bSR]; rfl), G6, (pure_sc (c := S.sc + 1 + 1) Pu : PureOk kept j { S with sc := S.sc + 1 + 1 }), hx, by omega, by show S.sc + 1 + 1 ≤ _; omega, fun H8 g8 S8 G8 Pu8 hsc8 _ => ?_⟩
        exact hD H8 g8 S8 G8 Pu8 (by have hh : S8.sc ≤ (S.sc + 1 + 1) + 4 := hsc8; omega)
    have X : ∀ (R : Bool → Hp → Prop) (σ : L2.St), σ[8]? = some (some (.ref LO)) → (∀ H4, Same H3 H4 → S.los = [] → R true H4) → (∀ H4, Same H3 H4 → S.los ≠ [] → R false H4) → tTest (tOp (rEqNil K) (tVar 8) (tLst tNil)) σ H3 R := by
      intro R σ h8 h1 h2
      refine ⟨_, h8, Nat.zero_le _, fun p0 hp0 => ⟨LO, p0, _, rfl, rfl, SqL.of (Same.new hp0 _ _ LO3), SqL.of upd_same, _, rfl, ?_⟩⟩
      cases e : S.los with
      | nil => exact h1 _ (Same.new hp0) e
      | cons y ys => exact h2 _ (Same.new hp0) (by rw [e]; simp)
    refine ⟨_, rfl, rfl, _, rfl, ?_⟩
    by_cases hd0 : dd' = 0
    · refine iteT' (by rw [hd0]; rfl) ⟨_, rfl, LO, _, rfl, .inl (SqL.of LO3), _, _, rfl, rfl, _, rfl, ?_⟩
      by_cases h12 : ((loas S.los).length : Int) < 12
      · refine iteT' (decide_eq_true h12) ?_
        refine iteT ?_
        exact ⟨_, rfl, _, rfl, _, rfl, _, rfl, g, B, { S with sc := S.sc + 1 }, kept, j, cnt, (by rw [bp, bLL, bLO]; rfl), G3, pure_sc Pu, by omega, by omega, fun H5 g5 S5 G5 Pu5 hsc5 _ => ⟨_, rfl, _, _, rfl, rfl, _, _, rfl, fin _ H5 g5 S5 (cnt + 1) _ _ _ (fun H6 s6 => ⟨g5, S5, cnt + 1, _, _, _, _, rfl, G5.same s6, Pu5, (by rw [hsc5]; show S.sc + 1 ≤ _; omega), by omega⟩) G5 (by have := Pu5.rsn; omega) (by have := Pu5.lostn; omega)⟩⟩
      · refine iteF' (decide_eq_false h12) ?_
        refine X _ _ rfl (fun H4 s4 _ => ?_) (fun H4 s4 hnn => ?_)
        · refine iteT ?_
          have G4 := G3.same s4
          exact ⟨_, rfl, _, rfl, _, rfl, _, rfl, g, B, { S with sc := S.sc + 1 }, kept, j, cnt, (by rw [bp, bLL, bLO]; rfl), G4, pure_sc Pu, by omega, by omega, fun H5 g5 S5 G5 Pu5 hsc5 _ => ⟨_, rfl, _, _, rfl, rfl, _, _, rfl, fin _ H5 g5 S5 (cnt + 1) _ _ _ (fun H6 s6 => ⟨g5, S5, cnt + 1, _, _, _, _, rfl, G5.same s6, Pu5, (by rw [hsc5]; show S.sc + 1 ≤ _; omega), by omega⟩) G5 (by have := Pu5.rsn; omega) (by have := Pu5.lostn; omega)⟩⟩
        · refine iteF ?_
          exact elif_ H4 _ _ _ _ s4 hnn (fun H8 g8 S8 G8 Pu8 hsc8 => fin _ H8 g8 S8 cnt _ _ _ (fun H9' s9 => ⟨g8, S8, cnt, _, _, _, _, rfl, G8.same s9, Pu8, hsc8, by omega⟩) G8 (by have := Pu8.rsn; omega) (by have := Pu8.lostn; omega))
    · refine iteF' (by
        show decide (V.int (dd' : Nat) = V.int 0) = false
        refine decide_eq_false (fun z => hd0 ?_)
        injection z with z
        omega) ?_
      refine iteF ?_
      refine X _ _ rfl (fun H4 s4 _ => ?_) (fun H4 s4 hnn => ?_)
      · refine iteT ?_
        have G4 := G3.same s4
        exact ⟨_, rfl, _, rfl, _, rfl, _, rfl, g, B, { S with sc := S.sc + 1 }, kept, j, cnt, (by rw [bp, bLL, bLO]; rfl), G4, pure_sc Pu, by omega, by omega, fun H5 g5 S5 G5 Pu5 hsc5 _ => ⟨_, rfl, _, _, rfl, rfl, _, _, rfl, fin _ H5 g5 S5 (cnt + 1) _ _ _ (fun H6 s6 => ⟨g5, S5, cnt + 1, _, _, _, _, rfl, G5.same s6, Pu5, (by rw [hsc5]; show S.sc + 1 ≤ _; omega), by omega⟩) G5 (by have := Pu5.rsn; omega) (by have := Pu5.lostn; omega)⟩⟩
      · refine iteF ?_
        exact elif_ H4 _ _ _ _ s4 hnn (fun H8 g8 S8 G8 Pu8 hsc8 => fin _ H8 g8 S8 cnt _ _ _ (fun H9' s9 => ⟨g8, S8, cnt, _, _, _, _, rfl, G8.same s9, Pu8, hsc8, by omega⟩) G8 (by have := Pu8.rsn; omega) (by have := Pu8.lostn; omega))
  · rintro σ H' ⟨g, S, cnt, v4, v11, v12, v13, rfl, G, _⟩
    exact k H' (fun q hq => (G.xt q (bx ▸ hq)).h)
theorem sc_law : FnScope ["_law_script", "_law_place"] ["_law_script"] (defScope (topS 49)) := ⟨rfl, rfl, rfl, by decide +kernel, rfl, by decide +kernel, by decide +kernel⟩
theorem ok_law (T : Tx P K mg) {f : Addr} {fd : FuncData} (F : Fun K "law" "law" (topS 49) f fd) : FnOk P w K mg base CX0 11 f fd ["_law_script"] (sp_law K) := by
  obtain ⟨f__law_holds, fd__law_holds, G__law_holds, m__law_holds, k__law_holds, b__law_holds⟩ := ok__law_holds (P := P) (w := w) (base := base) T
  obtain ⟨f__law_source, fd__law_source, G__law_source, m__law_source, k__law_source, b__law_source⟩ := ok__law_source (P := P) (w := w) (base := base) T
  refine F.ok sc_law (fun vs H Q E h => ?_) (fun cdv A outer s H vs Q E hr h => ?_)
  · obtain ⟨_, _, rfl, _⟩ := h
    rfl
  have hu := hu_of hr
  refine ⟨_, (pss_cons (ps_for PassesOwn.never rfl (pi_range1 (by rfl) T.range (pa_cons (pe_callB (call_max2 rfl) (by rfl) T.max (by decide +kernel) (pa_cons pe_int (pa_cons (pe_callB (call_min2 rfl) (by rfl) T.min (by decide +kernel) (pa_cons pe_int (pa_cons (pe_callB call_len_seq (by rfl) T.len PySem.boot_len (pa_cons (pv 0) pa_nil)) pa_nil))) pa_nil))) pa_nil)) (pg_name (i := 1) sc_law.nd rfl (Or.inl rfl))
      (pss_one (ps_if (pt_not (pt_val (pe_call G__law_holds (hr.mono (by decide)) rfl m__law_holds k__law_holds b__law_holds .nil pass0 (pa_cons (pe_call G__law_source (hr.mono (by decide)) rfl m__law_source k__law_source b__law_source .nil pass0 (pa_cons (pv 0) (pa_cons (pv 1) pa_nil))) pa_nil))))
      (pss_one (ps_ret pe_bl))
      pss_nil)))
      (pss_one (ps_ret pe_bl))), ?_⟩
  obtain ⟨a, ns, rfl, hz, hS, k⟩ := h
  refine ⟨_, rfl, a, _, rfl, .inl hS, _, _, rfl, _, _, rfl, _, rfl, ?_, ?_, ?_⟩
  · split <;> split <;> omega
  · split <;> split <;> omega
  refine for_it (walk_range (lo := 0)) (fun i σ H' => (∃ v, σ = [some (.ref a), v]) ∧ SqL K H' a (ns.map V.int)) ⟨⟨_, rfl⟩, hS⟩ (fun _ _ _ _ _ => trivial) ?_ ?_
  · rintro i x σ H1' H1 hi ⟨⟨v, rfl⟩, hS1⟩ ⟨rfl, rfl⟩
    have hi4 : i ≤ 10 := by
      refine Nat.le_trans (Nat.le_of_lt hi) ?_
      split <;> split <;> omega
    refine ⟨_, rfl, _, rfl, a, ns, i, (by show [V.ref a, V.int (0 + (i : Int))] = _; rw [Int.zero_add]), hS1, hi4, fun H2 b s2 hb Sb => ?_⟩
    obtain ⟨ext, e1, e2⟩ := sql_ext hS1
    refine ⟨b, ext, rfl, Sb, fun q hq => ⟨s2 _ _ (e1 q hq), ne_of_none (e1 q hq) hb⟩, fun H3 hx => ⟨_, rfl, iteF' rfl ⟨⟨_, rfl⟩, e2 H3 hx⟩⟩⟩
  · rintro σ H' ⟨⟨v, rfl⟩, _⟩
    exact k H'
end
end OA

set_option maxHeartbeats 0
/-! The head: what the top leaves, read off and handed to the walk. -/
namespace OA
open PySem PySem.Spec PyProof.Rows L2 OW
/-! ### reach -/
def asX (g : Addr → Option Obj) : Nat → List Addr
  | 0 => [mainGlobals, PySem.cStatics]
  | n + 1 => He.growD g (asX g n)
abbrev fx (n : Nat) (g : Addr → Option Obj) : PySem.W.Frag := He.frG g (asX g n)
/-! ### data -/
def dG (p : Nat × Str) : He.DefD := ⟨(p.2, none), p.2, p.2, defArgs (topS p.1), defBody (topS p.1), defScope (topS p.1), [], []⟩
def dM (p : Me) : He.DefD := ⟨(p.c, some p.m), p.m, p.q, defArgs p.st, defBody p.st, defScope p.st, [], []⟩
def dIL : He.DefD := ⟨("Line", some "__init__"), "__init__", "Line.__init__", defArgs (inClass (topS 20) 0), defBody (inClass (topS 20) 0), defScope (inClass (topS 20) 0), [.int 0], []⟩
def dCL : He.DefD := ⟨("Line", some "close"), "close", "Line.close", defArgs (inClass (topS 20) 15), defBody (inClass (topS 20) 15), defScope (inClass (topS 20) 15), [.non], []⟩
def dID : He.DefD := ⟨("Door", some "__init__"), "__init__", "Door.__init__", defArgs (inClass (topS 26) 0), defBody (inClass (topS 26) 0), defScope (inClass (topS 26) 0), [], [("end", .str "keep"), ("fail", .str "keep"), ("cut", .str "keep")]⟩
def fnL : List He.DefD := globs.map dG ++ (meths.map dM ++ [dIL, dCL, dID])
def excs : List Str := ["Closed", "Amid", "Starved"]
def faL : List He.Fa := ((["Line", "Door", "Pool", "Amid", "Closed", "Starved", "LINE_WORDS", "WORDS"] : List Str).map He.Fa.glo) ++ (globs.map fun p => He.Fa.glo p.2) ++ frees.map He.Fa.free ++ [.str "LETTERS" letters, .cls "Line", .cls "Door", .cls "Pool", .mkr "Line", .mkr "Door", .mkr "Pool", .meth "Line" "close"] ++
  (fieldsL.map fun f => .noat "Line" f) ++ (fieldsD.map fun f => .noat "Door" f) ++ (fieldsP.map fun f => .noat "Pool" f) ++ (meths.map fun p => .meth p.c p.m) ++ (excs.flatMap fun x => excs.map fun y => .exm x y (decide (x = y)))
/-! ### what the ready facts do not say -/
def gAd (K : PySem.W.Frag) (m : Str) : Addr := match PySem.W.recIn K (He.ma K (CL K) m) "property" with
  | some (.ref g :: _) => g
  | _ => 0
abbrev FnY : Type := Option (Str × Str × Arguments × FuncBody × Scope × Addr × Addr)
def fnY (K : PySem.W.Frag) (a : Addr) : FnY := match K.lookup a with
  | some ⟨_, _, .func fd, _⟩ => some (fd.name, fd.qualname, fd.params, fd.body, fd.scope, fd.globals, fd.builtins)
  | _ => none
def prB (K : PySem.W.Frag) (p : Nat × Str × Str) : Bool := He.eqO (PySem.W.findIn K (.ref (CL K)) p.2.1) (some (some (.ref (He.ma K (CL K) p.2.1)))) && (He.eqO (PySem.W.specialIn K (.ref (He.ma K (CL K) p.2.1)) "__get__") (some (some (.builtin "property.__get__"))) && (decide (PySem.W.takesIn K (.ref (He.ma K (CL K) p.2.1)) = some true) &&
  ((match PySem.W.recIn K (He.ma K (CL K) p.2.1) "property" with
    | some (.ref _ :: _) => true
    | _ => false) && (PySem.W.keepIn K (.ref (gAd K p.2.1)) && (match K.lookup (gAd K p.2.1) with
    | some ⟨_, _, .func fd, _⟩ => PySem.W.codeIn K fd.code p.2.2 && (decide (fd.closure = []) && (match fd.defaults with
      | .none => true
      | _ => false))
    | _ => false)))))
/-- an exception class: its name, its field, its maker's qualified name, its place -/
structure Xd where
  x : Str
  pn : Str
  q : Str
  i : Nat
def xds : List Xd := [⟨"Amid", "half", "Amid.__init__", 3⟩, ⟨"Closed", "number", "Closed.__init__", 4⟩, ⟨"Starved", "number", "Starved.__init__", 5⟩]
def xB (K : PySem.W.Frag) (d : Xd) : List Bool :=
  [(match K.lookup (He.ga K d.x) with
    | some ⟨.type "type", _, .cls cd, sl⟩ => (match cd.mro, sl.toList with
      | .ref C' :: bm, [_, _, _, _, some (.builtin n), _] => C' == He.ga K d.x && (n == "ValueError.__new__" && (!cd.hasDel && (cd.hasDict && HandSPX.refsVE bm)))
      | _, _ => false)
    | _ => false),
   He.eqO (PySem.W.findIn K (.ref (He.ga K d.x)) "__setattr__") (some (some (.builtin "object.__setattr__"))),
   He.eqO (PySem.W.findIn K (.ref (He.ga K d.x)) "__getattribute__") (some (some (.builtin "BaseException.__getattribute__"))),
   He.eqO (PySem.W.findIn K (.ref (He.ga K d.x)) "__getattr__") (some none),
   He.eqO (PySem.W.findIn K (.ref (He.ga K d.x)) d.pn) (some none),
   He.eqO (PySem.W.findIn K (.ref (He.ga K d.x)) "__init__") (some (some (.ref (He.ma K (He.ga K d.x) "__init__")))),
   decide (PySem.W.typeIn K (.ref (He.ma K (He.ga K d.x) "__init__")) = some (.type "function")),
   PySem.W.keepIn K (.ref (He.ga K d.x)),
   decide (PySem.W.subIn K (.ref (He.ga K d.x)) (.type "BaseException") = some true),
   decide (PySem.W.subIn K (.ref (He.ga K d.x)) (.type "ValueError") = some true),
   decide (PySem.W.typeIn K (.ref (He.ga K d.x)) = some (.type "type")),
   PySem.W.hasDictIn K (He.ga K d.x),
   decide (PySem.W.mroIn K (He.ga K d.x) (.ref (He.ga K d.x)) = some true),
   He.eqO (PySem.W.ks_superIn K (He.ga K d.x) (He.ga K d.x) "__init__") (some (some (.builtin "ValueError.__init__"))),
   He.eqO (PySem.W.nsIn K PySem.cStatics "thirdparty.any") (some none),
   (match K.lookup (He.ma K (He.ga K d.x) "__init__") with
    | some ⟨_, _, .func fd, _⟩ => (match fd.closure, fd.defaults, fd.code with
      | [(nm, cc)], .none, .ref cda => decide (nm = "__class__") && (PySem.W.codeIn K (.ref cda) d.q && ((match K.lookup cda with
        | some ⟨_, _, .fields vs, _⟩ => (match (vs[2]? : Option Value) with
          | some (Value.str file _) => decide (file = ("/claim/cut.py" : Str))
          | _ => false)
        | _ => false) && (match K.lookup cc with
        | some ⟨_, _, .cell (some (.ref C')), _⟩ => C' == He.ga K d.x
        | _ => false)))
      | _, _, _ => false)
    | _ => false)]
def exB (K : PySem.W.Frag) : Bool := He.tupB K "LINE_WORDS" (lineWords.map .str) && (He.tupB K "WORDS" (doorWords.map .str) && (cmpIn K (CL K) && (PySem.W.noSeq K (CD K) && ((props.all fun p => prB K p) && xds.all fun d => (xB K d).all id))))
def exF (K : PySem.W.Frag) : List FnY := (props.map fun p => fnY K (gAd K p.2.1)) ++ xds.map fun d => fnY K (He.ma K (He.ga K d.x) "__init__")
def fnv (n q : Str) (st : Stmt) : FnY := some (n, q, defArgs st, FuncBody.stmts (defBody st), defScope st, mainGlobals, builtinsNs)
def exV : List FnY := (props.map fun p => fnv p.2.1 p.2.2 (inClass (topS 20) p.1)) ++ xds.map fun d => fnv "__init__" d.q (inClass (topS d.i) 0)
/-! ### the hook -/
abbrev AlX : Type := He.AlD × Bool × List FnY
def obX (K : PySem.W.Frag) : AlX := (He.obsD faL fnL K, exB K, exF K)
def vaX : AlX := (He.valD fnL, true, exV)
def SaysX (K : PySem.W.Frag) : Prop := obX K = vaX
def hk : PySem.W.Hook where
  α := AlX
  obs := fun s => obX (fx 5 s.heap.get?)
  val := fun _ => vaX
  says := fun _ h => ∃ K : PySem.W.Frag, K.In h ∧ SaysX K
  of := fun _ _ e => ⟨_, He.frG_in, e⟩
  keeps := fun _ _ _ ⟨K, hK, c⟩ k => ⟨K, PySem.W.Frag.In.keeps hK k, c⟩
abbrev RR : PySem.W.OpenRow := PySem.W.OpenLaw.row PySem.Challenge.rw_owedanswers_k42_whole_pools_by_a_model
def ob (s : PySem.W.SharedT) : AlX := obX (fx 5 (HandSHeadRun.getT s))
theorem ob_eq (s : PySem.W.SharedT) : ob s = hk.obs s.abs := by
  have e : HandSHeadRun.getT s = s.abs.heap.get? := funext (HandSHeadRun.getT_eq s)
  show obX (fx 5 (HandSHeadRun.getT s)) = obX (fx 5 s.abs.heap.get?)
  rw [e]
def names1 : List Str := ["_wall", "OwedError", "Amid", "Closed", "Starved", "BadDoor", "BadName", "NotLent", "reason_of", "LINE_WORDS", "is_out", "is_in", "mark_of", "is_amid", "row_fault", "mark_after", "Line", "WORDS", "LETTERS", "check_word", "check_name", "Door", "must_close", "give_back", "Pool"]
def names2 : List Str := ["_law_source", "_law_draw", "_law_of", "_law_same", "_law_fault", "_law_mark", "_law_new", "_law_due", "_law_ask", "_law_do", "_law_call", "_law_stands", "_law_back", "_law_lend", "_law_act", "_law_give", "_law_shows", "_law_holds"]
def names : List Str := names1 ++ names2
theorem run (w : World) : HandSHeadRun.RunEq RR (PySem.W.view RR.prog [49]) hk ob 6000 names w := by
  intro os
  kernel_rfl
end OA

set_option maxHeartbeats 4000000
/-! From the head's facts to what the walk leans on. -/
namespace OA
open PySem PySem.Spec PyProof.Rows L2 OW
section
variable {K : PySem.W.Frag} (c : SaysX K)
include c
theorem sx_d : He.SaysD faL fnL K := congrArg (fun z : AlX => z.1) c
theorem sx_b : exB K = true := congrArg (fun z : AlX => z.2.1) c
theorem sx_f : exF K = exV := congrArg (fun z : AlX => z.2.2) c
theorem sx_fact {f : He.Fa} (h : f ∈ faL) : f.ok K = true := by
  have c1 := (He.ba (show ((faL.all fun f => f.ok K) && fnL.all fun d => d.ok K) = true from congrArg (fun z : He.AlD => z.1) (sx_d c))).1
  exact List.all_eq_true.mp c1 f h
theorem sx_def {d : He.DefD} (h : d ∈ fnL) : ∃ fd, FunD K d.name d.qual d.params d.body d.scope (d.dvs K) (d.kws K) (He.fAd K d.at_) fd := by
  obtain ⟨i, hi⟩ := List.mem_iff_getElem?.mp h
  exact (sx_d c).def_ i hi
end
theorem fun_of {K : PySem.W.Frag} {x q : Str} {st : Stmt} {f : Addr} {fd : FuncData} (F : FunD K x q (defArgs st) (defBody st) (defScope st) [] [] f fd) : Fun K x q st f fd := by
  obtain ⟨⟨oc, od, dV, kV, doc, pm, an, cdv, ct, osl, e1, e2, e3, e4, e5⟩, kp⟩ := F
  rcases e4 with ⟨_, rfl⟩ | ⟨h, _⟩
  · exact ⟨⟨oc, od, kV, doc, pm, an, cdv, ct, osl, e1, e2, e3⟩, kp⟩
  · exact absurd rfl h
theorem fnIn_of {K : PySem.W.Frag} {x q : Str} {st : Stmt} {f : Addr} {fd : FuncData} (F : Fun K x q st f fd) : PySem.W.fnIn K f = true := by
  obtain ⟨oc, od, kV, doc, pm, an, cdv, ct, osl, rfl, lk, _⟩ := F.ex
  unfold PySem.W.fnIn
  rw [lk]
theorem fnY_inv {K : PySem.W.Frag} {a : Addr} {n q : Str} {st : Stmt} (h : fnY K a = fnv n q st) : ∃ oc od fd sl, K.lookup a = some ⟨oc, od, .func fd, sl⟩ ∧ fd.name = n ∧ fd.qualname = q ∧ fd.params = defArgs st ∧ fd.body = .stmts (defBody st) ∧ fd.scope = defScope st ∧ fd.globals = mainGlobals ∧ fd.builtins = builtinsNs := by
  unfold fnY fnv at h
  cases e : K.lookup a with
  | none =>
    rw [e] at h
    cases h
  | some o =>
    obtain ⟨oc, od, dt, sl⟩ := o
    rw [e] at h
    cases dt with
    | func fd =>
      simp only [Option.some.injEq, Prod.mk.injEq] at h
      obtain ⟨h1, h2, h3, h4, h5, h6, h7⟩ := h
      exact ⟨oc, od, fd, sl, rfl, h1, h2, h3, h4, h5, h6, h7⟩
    | _ => cases h
theorem pr_ok {K : PySem.W.Frag} {p : Nat × Str × Str} (b : prB K p = true) (h : fnY K (gAd K p.2.1) = fnv p.2.1 p.2.2 (inClass (topS 20) p.1)) : ∃ pa f fd, Fun K p.2.1 p.2.2 (inClass (topS 20) p.1) f fd ∧ PropOf K (CL K) p.2.1 pa f := by
  obtain ⟨b1, b⟩ := He.ba b
  obtain ⟨b2, b⟩ := He.ba b
  obtain ⟨b3, b⟩ := He.ba b
  obtain ⟨b4, b⟩ := He.ba b
  obtain ⟨b5, b6⟩ := He.ba b
  obtain ⟨oc, od, fd, sl, lk, e1, e2, e3, e4, e5, e6, e7⟩ := fnY_inv h
  rw [lk] at b6
  obtain ⟨c6, b7⟩ := He.ba (show (PySem.W.codeIn K fd.code p.2.2 && (decide (fd.closure = []) && (match fd.defaults with
      | .none => true
      | _ => false))) = true from b6)
  obtain ⟨b7, b8⟩ := He.ba b7
  refine ⟨He.ma K (CL K) p.2.1, gAd K p.2.1, fd, ⟨?_, b5⟩, ⟨He.eqO_ok b1, He.eqO_ok b2, of_decide_eq_true b3, ?_⟩⟩
  · obtain ⟨n1, n2, n3, n4, n5, n6, n7, n8, n9, n10, n11, n12, n13, n14, n15⟩ := fd
    have hc : n7 = [] := of_decide_eq_true b7
    have hd : n8 = .none := by
      cases n8 <;> first | rfl | cases b8
    dsimp only at e1 e2 e3 e4 e5 e6 e7 c6
    subst e1 e2 e3 e4 e5 e6 e7 hc hd
    exact ⟨oc, od, n9, n10, n11, n12, n13, n14, sl, rfl, lk, c6⟩
  · unfold gAd
    cases e : PySem.W.recIn K (He.ma K (CL K) p.2.1) "property" with
    | none =>
      rw [e] at b4
      cases b4
    | some l =>
      rw [e] at b4
      cases l with
      | nil => cases b4
      | cons v vs =>
        cases v <;> first | exact ⟨_, rfl⟩ | cases b4
/-- the parts of an exception class's text, each from its check -/
theorem list_all {l : List Bool} (h : l.all id = true) {i : Nat} {b : Bool} (e : l[i]? = some b) : b = true := List.all_eq_true.mp h b (List.mem_of_getElem? e)
theorem cls_of {K : PySem.W.Frag} {C : Addr} (h : (match K.lookup C with
    | some ⟨.type "type", _, .cls cd, sl⟩ => (match cd.mro, sl.toList with
      | .ref C' :: bm, [_, _, _, _, some (.builtin n), _] => C' == C && (n == "ValueError.__new__" && (!cd.hasDel && (cd.hasDict && HandSPX.refsVE bm)))
      | _, _ => false)
    | _ => false) = true) : ∃ nm q N bs bm sn sub ab col dd k0 k1 k2 k3 k5, K.lookup C = some (excClassObj nm q C N bs bm true sn sub ab col dd k0 k1 k2 k3 k5 "ValueError.__new__") ∧ HandSPX.refsVE bm = true := by
  split at h
  · rename_i dd cd sl ho
    split at h
    · rename_i C' bm k0 k1 k2 k3 n k5 hm hs
      simp only [Bool.and_eq_true, beq_iff_eq, Bool.not_eq_true'] at h
      obtain ⟨rfl, rfl, hdel, hdict, hr⟩ := h
      obtain ⟨nm, bs, mro, ns, qn, hd, sn, sub, ab, col, del⟩ := cd
      dsimp only at hm hdel hdict
      subst hm hdel hdict
      have hsl : sl = #[k0, k1, k2, k3, some (.builtin "ValueError.__new__"), k5] := by
        obtain ⟨l⟩ := sl
        simp only at hs
        rw [hs]
      subst hsl
      exact ⟨nm, qn, ns, bs, bm, sn, sub, ab, col, dd, k0, k1, k2, k3, k5, ho, hr⟩
    · cases h
  · cases h
theorem mk_of {K : PySem.W.Frag} {fI C : Addr} {q : Str} {st : Stmt} (h : fnY K fI = fnv "__init__" q st) (b : (match K.lookup fI with
    | some ⟨_, _, .func fd, _⟩ => (match fd.closure, fd.defaults, fd.code with
      | [(nm, cc)], .none, .ref cda => decide (nm = "__class__") && (PySem.W.codeIn K (.ref cda) q && ((match K.lookup cda with
        | some ⟨_, _, .fields vs, _⟩ => (match (vs[2]? : Option Value) with
          | some (Value.str file _) => decide (file = ("/claim/cut.py" : Str))
          | _ => false)
        | _ => false) && (match K.lookup cc with
        | some ⟨_, _, .cell (some (.ref C')), _⟩ => C' == C
        | _ => false)))
      | _, _, _ => false)
    | _ => false) = true) : ∃ (oc : Value) (od : Option Addr) (kV doc pm : Value) (an : Option Addr) (ct : Value) (osl : Array (Option Value)) (cda cc : Addr) (ccl : Value) (cdd : Option Addr) (vs : Array Value) (ccs : Array (Option Value)) (file : Str) (tf : Tok)
      (cl : Value) (cld : Option Addr) (csl : Array (Option Value)),
    K.lookup fI = some ⟨oc, od, .func (PySem.W.ksFn "__init__" q (defArgs st) (defBody st) (defScope st) .none kV doc pm an (.ref cda) ct cc), osl⟩ ∧ PySem.W.codeIn K (.ref cda) q = true ∧
    K.lookup cda = some ⟨ccl, cdd, .fields vs, ccs⟩ ∧ vs[2]? = some (.str file tf) ∧ file = "/claim/cut.py" ∧ K.lookup cc = some ⟨cl, cld, .cell (some (.ref C)), csl⟩ := by
  obtain ⟨oc, od, fd, sl, lk, e1, e2, e3, e4, e5, e6, e7⟩ := fnY_inv h
  rw [lk] at b
  obtain ⟨n1, n2, n3, n4, n5, n6, n7, n8, n9, n10, n11, n12, n13, n14, n15⟩ := fd
  dsimp only at e1 e2 e3 e4 e5 e6 e7 b
  subst e1 e2 e3 e4 e5 e6 e7
  split at b
  · rename_i nm cc cda
    obtain ⟨b1, b⟩ := He.ba b
    obtain ⟨b2, b⟩ := He.ba b
    obtain ⟨b3, b4⟩ := He.ba b
    have hn := of_decide_eq_true b1
    subst hn
    split at b3
    · rename_i ccl cdd vs ccs h3
      split at b3
      · rename_i file tf h4
        split at b4
        · rename_i cl cld C' csl h5
          have hC := eq_of_beq b4
          subst hC
          exact ⟨oc, od, _, _, _, _, _, sl, cda, cc, ccl, cdd, vs, ccs, file, tf, cl, cld, csl, lk, b2, h3, h4, of_decide_eq_true b3, h5⟩
        · cases b4
      · cases b3
    · cases b3
  · cases b
abbrev PP : Program := (PySem.W.OpenLaw.row PySem.Challenge.rw_owedanswers_k42_whole_pools_by_a_model).prog
theorem top_super : (PP.main.scope.names.lookup ("super" : Str)).isSome = false := by kernel_rfl
theorem top_file : ((PP.main.file : Str) == "/claim/cut.py") = true := by kernel_rfl
end OA

set_option maxHeartbeats 4000000
/-! All that the walk leans on, together. -/
namespace OA
open PySem PySem.Spec PyProof.Rows L2 OW
theorem xd_b {K : PySem.W.Frag} (c : SaysX K) {d : Xd} (h : d ∈ xds) : (xB K d).all id = true := by
  have b := sx_b c
  obtain ⟨_, b⟩ := He.ba b
  obtain ⟨_, b⟩ := He.ba b
  obtain ⟨_, b⟩ := He.ba b
  obtain ⟨_, b⟩ := He.ba b
  obtain ⟨_, b⟩ := He.ba b
  exact List.all_eq_true.mp b d h
theorem pr_b {K : PySem.W.Frag} (c : SaysX K) {p : Nat × Str × Str} (h : p ∈ props) : prB K p = true := by
  have b := sx_b c
  obtain ⟨_, b⟩ := He.ba b
  obtain ⟨_, b⟩ := He.ba b
  obtain ⟨_, b⟩ := He.ba b
  obtain ⟨_, b⟩ := He.ba b
  obtain ⟨b, _⟩ := He.ba b
  exact List.all_eq_true.mp b p h
theorem pr_f {K : PySem.W.Frag} (c : SaysX K) {i : Nat} {p : Nat × Str × Str} (h : props[i]? = some p) : fnY K (gAd K p.2.1) = fnv p.2.1 p.2.2 (inClass (topS 20) p.1) := by
  have e : (exF K)[i]? = exV[i]? := by rw [sx_f c]
  have hi : i < props.length := (List.getElem?_eq_some_iff.mp h).1
  have e1 : (exF K)[i]? = some (fnY K (gAd K p.2.1)) := by
    unfold exF
    rw [List.getElem?_append_left (by rw [List.length_map]; exact hi), List.getElem?_map, h]
    rfl
  have e2 : exV[i]? = some (fnv p.2.1 p.2.2 (inClass (topS 20) p.1)) := by
    unfold exV
    rw [List.getElem?_append_left (by rw [List.length_map]; exact hi), List.getElem?_map, h]
    rfl
  rw [e1, e2] at e
  exact Option.some.inj e
theorem xd_f {K : PySem.W.Frag} (c : SaysX K) {i : Nat} {d : Xd} (h : xds[i]? = some d) : fnY K (He.ma K (He.ga K d.x) "__init__") = fnv "__init__" d.q (inClass (topS d.i) 0) := by
  have e : (exF K)[props.length + i]? = exV[props.length + i]? := by rw [sx_f c]
  have e1 : (exF K)[props.length + i]? = some (fnY K (He.ma K (He.ga K d.x) "__init__")) := by
    unfold exF
    rw [List.getElem?_append_right (by rw [List.length_map]; omega), List.length_map, Nat.add_sub_cancel_left, List.getElem?_map, h]
    rfl
  have e2 : exV[props.length + i]? = some (fnv "__init__" d.q (inClass (topS d.i) 0)) := by
    unfold exV
    rw [List.getElem?_append_right (by rw [List.length_map]; omega), List.length_map, Nat.add_sub_cancel_left, List.getElem?_map, h]
    rfl
  rw [e1, e2] at e
  exact Option.some.inj e
section
variable {K : PySem.W.Frag} (c : SaysX K)
include c
theorem x_amid : Xa.SupTxt PP K (CA K) (He.ma K (CA K) "__init__") := by
  have b := xd_b c (d := ⟨"Amid", "half", "Amid.__init__", 3⟩) (by simp [xds])
  have f := xd_f c (i := 0) (d := ⟨"Amid", "half", "Amid.__init__", 3⟩) rfl
  obtain ⟨oc, od, kV, doc, pm, an, ct, osl, cda, cc, ccl, cdd, vs, ccs, file, tf, cl, cld, csl, m1, m2, m3, m4, m5, m6⟩ := mk_of f (C := CA K) (list_all b (i := 15) rfl)
  subst m5
  exact ⟨cls_of (list_all b (i := 0) rfl), He.eqO_ok (list_all b (i := 1) rfl), He.eqO_ok (list_all b (i := 2) rfl), He.eqO_ok (list_all b (i := 3) rfl), He.eqO_ok (list_all b (i := 4) rfl), He.eqO_ok (list_all b (i := 5) rfl), of_decide_eq_true (list_all b (i := 6) rfl), list_all b (i := 7) rfl, of_decide_eq_true (list_all b (i := 8) rfl), of_decide_eq_true (list_all b (i := 9) rfl), of_decide_eq_true (list_all b (i := 10) rfl), list_all b (i := 11) rfl, He.exm_ok (sx_fact c (f := .exm "Amid" "Amid" true) (by simp [faL, excs])), of_decide_eq_true (list_all b (i := 12) rfl), He.eqO_ok (list_all b (i := 13) rfl), He.eqO_ok (list_all b (i := 14) rfl), top_super,
    ⟨oc, od, kV, doc, pm, an, ct, osl, cda, cc, ccl, cdd, vs, ccs, _, tf, cl, cld, csl, m1, m2, m3, m4, top_file, m6⟩⟩
theorem x_closed : Xc.SupTxt PP K (CC K) (He.ma K (CC K) "__init__") := by
  have b := xd_b c (d := ⟨"Closed", "number", "Closed.__init__", 4⟩) (by simp [xds])
  have f := xd_f c (i := 1) (d := ⟨"Closed", "number", "Closed.__init__", 4⟩) rfl
  obtain ⟨oc, od, kV, doc, pm, an, ct, osl, cda, cc, ccl, cdd, vs, ccs, file, tf, cl, cld, csl, m1, m2, m3, m4, m5, m6⟩ := mk_of f (C := CC K) (list_all b (i := 15) rfl)
  subst m5
  exact ⟨cls_of (list_all b (i := 0) rfl), He.eqO_ok (list_all b (i := 1) rfl), He.eqO_ok (list_all b (i := 2) rfl), He.eqO_ok (list_all b (i := 3) rfl), He.eqO_ok (list_all b (i := 4) rfl), He.eqO_ok (list_all b (i := 5) rfl), of_decide_eq_true (list_all b (i := 6) rfl), list_all b (i := 7) rfl, of_decide_eq_true (list_all b (i := 8) rfl), of_decide_eq_true (list_all b (i := 9) rfl), of_decide_eq_true (list_all b (i := 10) rfl), list_all b (i := 11) rfl, He.exm_ok (sx_fact c (f := .exm "Closed" "Closed" true) (by simp [faL, excs])), of_decide_eq_true (list_all b (i := 12) rfl), He.eqO_ok (list_all b (i := 13) rfl), He.eqO_ok (list_all b (i := 14) rfl), top_super,
    ⟨oc, od, kV, doc, pm, an, ct, osl, cda, cc, ccl, cdd, vs, ccs, _, tf, cl, cld, csl, m1, m2, m3, m4, top_file, m6⟩⟩
theorem x_starved : Xs.SupTxt PP K (CS K) (He.ma K (CS K) "__init__") := by
  have b := xd_b c (d := ⟨"Starved", "number", "Starved.__init__", 5⟩) (by simp [xds])
  have f := xd_f c (i := 2) (d := ⟨"Starved", "number", "Starved.__init__", 5⟩) rfl
  obtain ⟨oc, od, kV, doc, pm, an, ct, osl, cda, cc, ccl, cdd, vs, ccs, file, tf, cl, cld, csl, m1, m2, m3, m4, m5, m6⟩ := mk_of f (C := CS K) (list_all b (i := 15) rfl)
  subst m5
  exact ⟨cls_of (list_all b (i := 0) rfl), He.eqO_ok (list_all b (i := 1) rfl), He.eqO_ok (list_all b (i := 2) rfl), He.eqO_ok (list_all b (i := 3) rfl), He.eqO_ok (list_all b (i := 4) rfl), He.eqO_ok (list_all b (i := 5) rfl), of_decide_eq_true (list_all b (i := 6) rfl), list_all b (i := 7) rfl, of_decide_eq_true (list_all b (i := 8) rfl), of_decide_eq_true (list_all b (i := 9) rfl), of_decide_eq_true (list_all b (i := 10) rfl), list_all b (i := 11) rfl, He.exm_ok (sx_fact c (f := .exm "Starved" "Starved" true) (by simp [faL, excs])), of_decide_eq_true (list_all b (i := 12) rfl), He.eqO_ok (list_all b (i := 13) rfl), He.eqO_ok (list_all b (i := 14) rfl), top_super,
    ⟨oc, od, kV, doc, pm, an, ct, osl, cda, cc, ccl, cdd, vs, ccs, _, tf, cl, cld, csl, m1, m2, m3, m4, top_file, m6⟩⟩
theorem d_glob {p : Nat × Str} (h : p ∈ globs) : ∃ f fd, Fun K p.2 p.2 (topS p.1) f fd ∧ f = He.ga K p.2 := by
  obtain ⟨fd, F⟩ := sx_def c (d := dG p) (List.mem_append_left _ (List.mem_map.mpr ⟨p, h, rfl⟩))
  exact ⟨_, fd, fun_of F, rfl⟩
theorem d_meth {p : Me} (h : p ∈ meths) : ∃ f fd, Fun K p.m p.q p.st f fd ∧ f = He.ma K (He.ga K p.c) p.m := by
  obtain ⟨fd, F⟩ := sx_def c (d := dM p) (List.mem_append_right _ (List.mem_append_left _ (List.mem_map.mpr ⟨p, h, rfl⟩)))
  exact ⟨_, fd, fun_of F, rfl⟩
theorem f_glo {p : Nat × Str} (h : p ∈ globs) : He.Fa.glo p.2 ∈ faL := by
  have z : He.Fa.glo p.2 ∈ globs.map fun p => He.Fa.glo p.2 := List.mem_map.mpr ⟨p, h, rfl⟩
  simp only [faL, List.mem_append]
  simp [z]
theorem f_free {x : Str} (h : x ∈ frees) : He.Fa.free x ∈ faL := by
  have z : He.Fa.free x ∈ frees.map He.Fa.free := List.mem_map.mpr ⟨x, h, rfl⟩
  simp only [faL, List.mem_append]
  simp [z]
theorem f_meth {p : Me} (h : p ∈ meths) : He.Fa.meth p.c p.m ∈ faL := by
  have z : He.Fa.meth p.c p.m ∈ meths.map fun p => He.Fa.meth p.c p.m := List.mem_map.mpr ⟨p, h, rfl⟩
  simp only [faL, List.mem_append]
  simp [z]
theorem f_naL {f : Str} (h : f ∈ fieldsL) : He.Fa.noat "Line" f ∈ faL := by
  have z : He.Fa.noat "Line" f ∈ fieldsL.map fun f => He.Fa.noat "Line" f := List.mem_map.mpr ⟨f, h, rfl⟩
  simp only [faL, List.mem_append]
  simp [z]
theorem f_naD {f : Str} (h : f ∈ fieldsD) : He.Fa.noat "Door" f ∈ faL := by
  have z : He.Fa.noat "Door" f ∈ fieldsD.map fun f => He.Fa.noat "Door" f := List.mem_map.mpr ⟨f, h, rfl⟩
  simp only [faL, List.mem_append]
  simp [z]
theorem f_naP {f : Str} (h : f ∈ fieldsP) : He.Fa.noat "Pool" f ∈ faL := by
  have z : He.Fa.noat "Pool" f ∈ fieldsP.map fun f => He.Fa.noat "Pool" f := List.mem_map.mpr ⟨f, h, rfl⟩
  simp only [faL, List.mem_append]
  simp [z]
theorem f_exm {x y : Str} (hx : x ∈ excs) (hy : y ∈ excs) : He.Fa.exm x y (decide (x = y)) ∈ faL := by
  have z : He.Fa.exm x y (decide (x = y)) ∈ excs.flatMap fun x => excs.map fun y => He.Fa.exm x y (decide (x = y)) := List.mem_flatMap.mpr ⟨x, hx, List.mem_map.mpr ⟨y, hy, rfl⟩⟩
  simp only [faL, List.mem_append]
  simp [z]
theorem tx {h : Heap} {mg : Str → Option Value} (X : K.In h) (G : h.Ns mainGlobals mg) : Tx PP K mg := by
  have b := sx_b c
  obtain ⟨b1, b⟩ := He.ba b
  obtain ⟨b2, b⟩ := He.ba b
  obtain ⟨b3, b⟩ := He.ba b
  obtain ⟨b4, _⟩ := He.ba b
  have gl : ∀ x ∈ (["Line", "Door", "Pool", "Amid", "Closed", "Starved", "LINE_WORDS", "WORDS"] : List Str), mg x = some (.ref (He.ga K x)) := fun x hx => He.glo_ok X G (sx_fact c (by
    have z : He.Fa.glo x ∈ (["Line", "Door", "Pool", "Amid", "Closed", "Starved", "LINE_WORDS", "WORDS"] : List Str).map He.Fa.glo := List.mem_map.mpr ⟨x, hx, rfl⟩
    simp only [faL, List.mem_append]
    simp only [z, true_or]))
  have mkL := He.mkr_ok (sx_fact c (f := .mkr "Line") (by simp [faL]))
  have mkD := He.mkr_ok (sx_fact c (f := .mkr "Door") (by simp [faL]))
  have mkP := He.mkr_ok (sx_fact c (f := .mkr "Pool") (by simp [faL]))
  obtain ⟨fdi, Fi⟩ := sx_def c (d := dIL) (by simp [fnL])
  obtain ⟨fdc, Fc⟩ := sx_def c (d := dCL) (by simp [fnL])
  obtain ⟨fdd, Fd⟩ := sx_def c (d := dID) (by simp [fnL])
  refine { fn := fun p hp => ?_, me := fun p hp => ?_, pr := fun p hp => ?_, iL := ⟨_, fdi, Fi, mkL⟩, cL := ⟨_, fdc, Fc, He.meth_ok (sx_fact c (f := .meth "Line" "close") (by simp [faL]))⟩, iD := ⟨_, fdd, Fd, mkD⟩, mkP := fun f hf => ?_, clL := He.cls_ok (sx_fact c (f := .cls "Line") (by simp [faL])), clD := He.cls_ok (sx_fact c (f := .cls "Door") (by simp [faL])), clP := He.cls_ok (sx_fact c (f := .cls "Pool") (by simp [faL])), naL := fun f hf => He.noat_ok (sx_fact c (f_naL c hf)), naD := fun f hf => He.noat_ok (sx_fact c (f_naD c hf)), naP := fun f hf => He.noat_ok (sx_fact c (f_naP c hf)), g_Line := gl _ (by simp), g_Door := gl _ (by simp), g_Pool := gl _ (by simp), g_Amid := gl _ (by simp), g_Closed := gl _ (by simp), g_Starved := gl _ (by simp), g_LINE_WORDS := gl _ (by simp), g_WORDS := gl _ (by simp), g_LETTERS := He.str_ok X G (sx_fact c (f := .str "LETTERS" letters) (by simp [faL])), wL := fun H => He.tupB_ok b1 H, wD := fun H => He.tupB_ok b2 H, fr := fun x hx => He.free_ok X G (sx_fact c (f_free c hx)), q_Line := b3, q_Door := b4, x_Amid := x_amid c, x_Closed := x_closed c, x_Starved := x_starved c, xm := fun x hx y hy => He.exm_ok (sx_fact c (f_exm c hx hy)) }
  · obtain ⟨f, fd, F, e⟩ := d_glob c hp
    exact ⟨f, fd, F, by rw [e]; exact He.glo_ok X G (sx_fact c (f_glo c hp))⟩
  · obtain ⟨f, fd, F, e⟩ := d_meth c hp
    exact ⟨f, fd, F, by rw [e]; exact He.meth_ok (sx_fact c (f_meth c hp)), fnIn_of F⟩
  · obtain ⟨i, hi⟩ := List.mem_iff_getElem?.mp hp
    exact pr_ok (pr_b c hp) (pr_f c hi)
  · have e := mkP.init
    rw [hf] at e
    cases e
    exact mkP
end
end OA

set_option maxHeartbeats 0
/-! The law. -/
open PySem PySem.W PySem.Calls PyProof.Rows
theorem PySem.Challenge.cw_owedanswers_k42_whole_pools_by_a_model_holds : PySem.Challenge.rw_owedanswers_k42_whole_pools_by_a_model.Holds := by
  w_on; o_law
  refine HandSHeadRun.head_any (r := OpenLaw.row PySem.Challenge.rw_owedanswers_k42_whole_pools_by_a_model) (q := view (OpenLaw.row PySem.Challenge.rw_owedanswers_k42_whole_pools_by_a_model).prog [49]) (H := OA.hk) (ob := OA.ob) (M := 6000) (loose := OA.names) (d := HandSHeadRun.topDef (OpenLaw.row PySem.Challenge.rw_owedanswers_k42_whole_pools_by_a_model).prog 49) (kwd := []) OA.ob_eq
    (by kernel_rfl) (fun s => by kernel_rfl) OA.run (by kernel_rfl) (by kernel_rfl) (by kernel_rfl) (by rfl) (by first | assumption | decide +kernel) (by decide +kernel) ⟨rfl, rfl, rfl, rfl, rfl, by decide +kernel⟩ ?hw ?hc
  case hw => w_witness2
  case hc =>
    refine L2.walk_ofE (l := PySem.Challenge.rw_owedanswers_k42_whole_pools_by_a_model) (n := 63) (k := 11) (x := "_law_script") (CX := L2.CX0) rfl (by decide) (by kernel_rfl) ⟨rfl, by decide, by decide⟩ ?F (fun _ _ _ _ z => z)
    intro w mg fa h Y G hmg0
    obtain ⟨K, KX, c⟩ := Y
    have hmg : mg ("law" : PySem.Str) = some (.ref fa) := by
      have e : (HandSHeadRun.topDef (OpenLaw.row PySem.Challenge.rw_owedanswers_k42_whole_pools_by_a_model).prog 49).name = ("law" : PySem.Str) := by kernel_rfl
      rw [← e]
      exact hmg0
    have T := OA.tx c KX G
    obtain ⟨fd, F⟩ := OA.sx_def c (d := OA.dG (49, "law")) (List.mem_append_left _ (List.mem_map.mpr ⟨_, by decide +kernel, rfl⟩))
    have gm := He.glo_ok KX G (OA.sx_fact c (OA.f_glo c (p := (49, "law")) (by decide +kernel)))
    have e := hmg.symm.trans gm
    cases e
    have b := L2.FunD.bindsA (ps := ["_law_script"]) F fun _ _ _ _ _ _ us hl => match us, hl with | [_], _ => rfl
    exact ⟨K, fd, OA.sp_law K, KX, fun s v => b s [v] rfl, fun H a ns hl _ hS => ⟨a, ns, rfl, Nat.le_trans hl (by decide), hS, fun _ => rfl⟩, fun base _ _ => OA.ok_law (P := OA.PP) (w := w) (base := base) T (OA.fun_of F)⟩

