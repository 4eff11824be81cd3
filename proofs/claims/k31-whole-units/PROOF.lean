import PyProof.Rows.All
import Wide.All
import OpenK.AllK
import Wide.FinOn
import HandS.ForMost
import HandS.ForExc
import HandS.More
import HandS.Wide
import HandS.DictComp
import HandS.Property
import HandS.ClsMeth
import HandS.IsInst
import HandS.Style
import HandS.EndBits
import HandS.Finally
import HandS.ListItems
import HandS.Small
import HandS.SlotsOwn
import HandS.Zip
import HandS.Defaults
import HandS.Head0
import HandS.Head1
import HandS.Head2
import HandS.HeadEnd
import HandS.HeadHook1
import HandS.HeadHook2
import KE.KStateDown
import PySem.Challenge.RW_fewlabels_k31_whole_units
set_option Elab.async false
set_option linter.all false
set_option maxRecDepth 100000
set_option maxHeartbeats 4800000
/-! more rules: operators of an own class, bool of an instance, == of dicts, a display of two dicts. -/
namespace FLM
open PySem PySem.Calls Builtin PyProof.Rows
/-- bool(x) of an instance with __bool__ -/
theorem bool_own {prog : Program} {w : World} {A : Around} {E : Value → Shared → Prop} {s : Shared} {K : PySem.W.Frag} {x C L f : Addr} {h0 : Heap} {m : Str → Option Value} {ox : Obj} {od : Option Obj} {Q : Value → Shared → Prop}
    (hF : Fr h0 L s.heap m) (X1 : K.In h0) (I : PySem.W.InstAt s.heap x ox C od) (hs : PySem.W.findIn K (.ref C) "__bool__" = some (some (.ref f))) (hf : PySem.W.isFn K (.ref f) = true)
    (h : wpAny (model prog w) A.in1.in1 (call (.ref f) [.ref x]) (fun r s1 => ∃ b, r = Value.bool b ∧ Q r s1) E s) : wpAny (model prog w) A (call (.type "bool") [.ref x]) Q E s := by
  refine callType_codes (T := "bool") (Bi := Builtin.«object.__init__») (Q₁ := fun r s₁ => ∃ b, r = Value.bool b ∧ Q r s₁) PySem.F.called_bool (PySem.F.typeCall_bool_1 _) PySem.F.entry_object_init ?_ ?_
  · refine codeAny_of_tree ?_
    show wpAny _ A.in1.in1 (do checkBuiltinCall "bool.__new__" ⟨[.type "bool", .ref x], []⟩; again (.builtin "bool.__new__" ⟨[.type "bool", .ref x], []⟩)) _ _ s
    refine wpAny_bind (wpAny_of_eq (PySem.F.newCall_bool_1 _) (wpAny_pure ⟨plainId_quiet (by decide +kernel) _, codeAny_builtin PySem.F.entry_bool_new ?_⟩))
    rw [Around.under_plainId (by decide +kernel) _]
    have tr : ∀ {Q' : Bool → Shared → Prop} , (∀ b s1, Q (.bool b) s1 → Q' b s1) → wpAny (model prog w) A.in1.in1 (truthy (.ref x)) Q' E s := by
      intro Q' hQ
      refine PySem.W.truthy_K hF X1 I hs hf (wpAny_mono h (fun r s1 hr => ?_) fun _ _ y => y)
      obtain ⟨b, rfl, hq⟩ := hr
      exact hQ b s1 hq
    obtain ⟨hp, g, d, tk, os⟩ := s
    have f1 := F.conv_sub_bool
    repeat (any_goals (first | assumption | (with_reducible refine tr (fun b s1 hq => ?_)) | wp_step))
    all_goals first | exact ⟨_, rfl, hq⟩ | exact ⟨_, _, rfl, hq⟩ | (trace_state; skip)
  · rintro obj s₁ ⟨b, rfl, hq⟩
    exact ⟨PySem.typeIs_bool _ _, PySem.F.args_object_init_2 _ _, object_init_meets PySem.F.called_bool.init.lookup PySem.F.called_bool.made (by decide) prog w A.in1 _ s₁ ⟨PySem.typeIs_bool _ _, rfl, hq⟩⟩

theorem int_fills_pow : fillsNumberSlot (.type "int") "pow" = pure true := by
  show (do let f ← typeLookup (.type "int") (PySem.dunder "pow"); let r ← typeLookup (.type "int") (PySem.dunderR "pow"); pure ((f.isSome && !isSeqSlot f) || (r.isSome && !isSeqSlot r)) : Sem Bool) = pure true
  rw [typeLookup_type, typeLookup_type, builtinLookup_eq_fast]
  kernel_rfl
theorem int_rpow : ∃ v, typeLookup (.type "int") (PySem.dunderR "pow") = pure v := by
  rw [typeLookup_type]
  exact ⟨_, rfl⟩
theorem numInPy {M : Model} {K : PySem.W.Frag} {h : Heap} {C f : Addr} {nm : String} (X : K.In h) (hs : PySem.W.findIn K (.ref C) (PySem.dunder nm) = some (some (.ref f))) (hr : PySem.W.findIn K (.ref C) (PySem.dunderR nm) = some none) :
    PySem.W.Looks M h (numberSlotInPython (.ref C) nm) true := by
  intro A Q E s k q
  unfold numberSlotInPython
  refine wpAny_bind (PySem.W.looks_findIn X hs A _ E s k ?_)
  refine wpAny_bind (wpAny_pure ?_)
  refine wpAny_bind (PySem.W.looks_findIn X hr A _ E s k ?_)
  refine wpAny_bind (wpAny_pure ?_)
  rw [if_pos (by rfl)]
  exact wpAny_pure q
/-- a ** b, a an instance with the def, b an int -/
theorem pow_int {prog : Program} {w : World} {A : Around} {E : Value → Shared → Prop} {s : Shared} {K : PySem.W.Frag} {x C L f : Addr} {h0 : Heap} {m : Str → Option Value} {ox : Obj} {od : Option Obj} {n : Int} {t : Tok} {Q : Value → Shared → Prop}
    (F : Fr h0 L s.heap m) (X0 : K.In h0) (I : PySem.W.InstAt s.heap x ox C od) (hc : PySem.W.selfFirst K C = true)
    (hs : PySem.W.findIn K (.ref C) (PySem.dunder "pow") = some (some (.ref f))) (hf : PySem.W.isFn K (.ref f) = true)
    (hsub : PySem.W.subIn K (.type "int") (.ref C) = some false) (hnr : PySem.W.findIn K (.ref C) (PySem.dunderR "pow") = some none)
    (h : wpAny (model prog w) A (call (.ref f) [.ref x, .int n t]) (PySem.W.CmpBack Q) E s) : wpAny (model prog w) A (binaryOp .Pow (.ref x) (.int n t)) Q E s := by
  have X := X0.keeps F.keep
  obtain ⟨cd, hcd, first⟩ := PySem.W.any_some hc
  have hm : ∃ rest, cd.mro = .ref C :: rest := by
    generalize cd.mro = ms at first ⊢
    match ms, first with
    | m0 :: ms, z => exact ⟨ms, congrArg (· :: ms) (Option.some.inj (beq_iff_eq.mp z))⟩
  obtain ⟨rest, hm⟩ := hm
  obtain ⟨lv, hl⟩ := int_rpow
  unfold binaryOp
  refine wpAny_holding (wpAny_bind ?_)
  unfold binaryOp1
  refine wpAny_bind (I.type.here (wpAny_bind (wpAny_pure (wpAny_bind ((PySem.W.fills_K (nm := "pow") X hcd hm hs).here ?_)))))
  rw [if_neg (by simp)]
  have fin : ∀ {Q' : Option Value → Shared → Prop}, (∀ u s1, Q u s1 → Q' (some u) s1) → wpAny (model prog w) A (tryMethod (.ref x) (PySem.dunder "pow") (.int n t)) Q' E s := by
    intro Q' hQ
    unfold tryMethod
    refine wpAny_bind (PySem.W.special_fn X I hs (beq_iff_eq.mp hf) (wpAny_mono h (fun v s' hv => ?_) fun _ _ e => e))
    cases v <;> first | exact hv.elim | exact wpAny_pure (hQ _ _ hv)
  refine wpAny_bind (wpAny_of_eq int_fills_pow ?_)
  refine wpAny_bind ((PySem.W.looks_subIn X hsub).here ?_)
  simp only [Bool.false_eq_true, if_false, Bool.not_false, Bool.and_self, Bool.and_true, if_true]
  refine wpAny_bind ((numInPy X hs hnr).here ?_)
  simp only [Bool.false_eq_true, if_false, Bool.not_false, Bool.and_self, Bool.and_true, if_true]
  refine wpAny_bind (wpAny_of_eq (a := false) rfl ?_)
  simp only [Bool.false_eq_true, if_false, Bool.not_false, Bool.and_self, Bool.and_true, if_true]
  refine wpAny_bind (wpAny_of_eq hl ?_)
  refine wpAny_bind (fin fun u s1 hq => ?_)
  exact wpAny_pure (wpAny_pure hq)
end FLM

set_option Elab.async false
set_option linter.all false
set_option maxRecDepth 100000
set_option maxHeartbeats 4800000
namespace FL
open PySem L2 PySem.Spec PyProof.Rows
section
variable {X : Cx} {CX : CXT} {pins : List (Addr × Obj)} {σ : L2.St} {H : Hp} {s : Shared} {a C dx p g : Addr} {fs : List (Str × V)} {k : Nat} {sp : Sp} {E : XK}
theorem inst_of (I : Inv X pins σ H s) (e : H a = some (.ins C dx fs)) : ∃ ox od, PySem.W.InstAt s.heap a ox C (some od) := by
  obtain ⟨mA, O, _⟩ := ins_get I.hok e
  obtain ⟨od, J, _⟩ := O.look
  exact ⟨_, od, J⟩
/-- what is known of a def of the text called by position -/
structure Own (K : PySem.W.Frag) (C : Addr) (m : Str) (g : Addr) : Prop where
  at_ : PySem.W.findIn K (.ref C) m = some (some (.ref g))
  fn : PySem.W.isFn K (.ref g) = true
/-- x op y, both instances, the left one's class has the def -/
def rOwn2 (C : Addr) (sp : Sp) (E : XK) : R2 := fun x y H Q => ∃ a dx fs b dy gs, x = .ref a ∧ y = .ref b ∧ H a = some (.ins C dx fs) ∧ H b = some (.ins C dy gs) ∧ sp [x, y] H Q E
/-- the def is called with two values; what it hands back goes on -/
theorem back2 {v u : Value} {x y : V} {Q : VK} {R : Value → Shared → Prop} (F : FnR X.prog X.w X.K X.mg X.base CX k g sp) (hr : Room k X.A) (hx : Passes CX X E) (I : Inv X pins σ H s) (rx : RelV x v) (ry : RelV y u) (q : sp [x, y] H Q E)
    (go : ∀ z w H1 s1, RelV z w → Inv X pins σ H1 s1 → Q z H1 → R w s1) : wpAny (model X.prog X.w) X.A (call (.ref g) [v, u]) R X.xe s :=
  wpAny_mono (wpAny_call (run_fnR (us := [v, u]) (vs := [x, y]) F hr hx I (.cons rx (.cons ry .nil)) q)) (fun w s1 ⟨z, H1, J, r, e⟩ => go z w H1 s1 r J e) (fun _ _ => id)
theorem op_cmpO {op : CmpOp} (hop : ∀ a b, compareOp op a b = richCompare op a b) (o : Own X.K C (cmpInfo op).2.1 g) (hn : PySem.W.notFirst X.K C (.ref C) = true) (F : FnR X.prog X.w X.K X.mg X.base CX k g sp)
    (hr : Room k X.A) (hx : Passes CX X E) : OpR X (compareOp op) (rOwn2 C sp E) := fun pins σ s H x y v u Q I rx ry ⟨a, _, _, b, _, _, ex, ey, ea, eb, q⟩ => by
  subst ex ey
  have ev : v = .ref a := rx
  have eu : u = .ref b := ry
  let ⟨_, _, L⟩ := inst_of I ea
  let ⟨_, _, R⟩ := inst_of I eb
  let ⟨_, fr⟩ := I.fr
  rw [hop, ev, eu]
  exact PySem.W.cmp_K (op := op) (tb := .ref C) hr.units0 fr I.ok.mod.kin L R.type hn o.at_ o.fn (back2 (x := .ref a) (y := .ref b) F hr hx I rfl rfl q fun z _ H1 _ r J e => SlX.cmpback r ⟨z, H1, J, r, e⟩)
theorem op_binO {op : Operator} (o : Own X.K C (PySem.dunder op.info.2) g) (hc : PySem.W.selfFirst X.K C = true) (F : FnR X.prog X.w X.K X.mg X.base CX k g sp)
    (hr : Room k X.A) (hx : Passes CX X E) : OpR X (binaryOp op) (rOwn2 C sp E) := fun pins σ s H x y v u Q I rx ry ⟨a, _, _, b, _, _, ex, ey, ea, eb, q⟩ => by
  subst ex ey
  have ev : v = .ref a := rx
  have eu : u = .ref b := ry
  let ⟨_, _, L⟩ := inst_of I ea
  let ⟨_, _, R⟩ := inst_of I eb
  let ⟨_, fr⟩ := I.fr
  rw [ev, eu]
  exact PySem.W.binop_K fr I.ok.mod.kin L R.type hc o.at_ o.fn (back2 (x := .ref a) (y := .ref b) F hr hx I rfl rfl q fun z _ H1 _ r J e => SlX.cmpback r ⟨z, H1, J, r, e⟩)
/-- x ** n -/
def rOwnI (C : Addr) (sp : Sp) (E : XK) : R2 := fun x y H Q => ∃ a dx fs n, x = .ref a ∧ y = .int n ∧ H a = some (.ins C dx fs) ∧ sp [x, y] H Q E
theorem op_powO (o : Own X.K C (PySem.dunder "pow") g) (hc : PySem.W.selfFirst X.K C = true) (hsub : PySem.W.subIn X.K (.type "int") (.ref C) = some false) (hnr : PySem.W.findIn X.K (.ref C) (PySem.dunderR "pow") = some none)
    (F : FnR X.prog X.w X.K X.mg X.base CX k g sp) (hr : Room k X.A) (hx : Passes CX X E) : OpR X (binaryOp .Pow) (rOwnI C sp E) := fun pins σ s H x y v u Q I rx ry ⟨a, _, _, n, ex, ey, ea, q⟩ => by
  subst ex ey
  have ev : v = .ref a := rx
  let ⟨t, eu⟩ := (ry : ∃ t, u = Value.int n t)
  let ⟨_, _, L⟩ := inst_of I ea
  let ⟨_, fr⟩ := I.fr
  rw [ev, eu]
  exact FLM.pow_int fr I.ok.mod.kin L hc o.at_ o.fn hsub hnr (back2 (x := .ref a) (y := .int n) F hr hx I rfl ⟨t, rfl⟩ q fun z _ H1 _ r J e => SlX.cmpback r ⟨z, H1, J, r, e⟩)
/-- v in x -/
def rInO (neg : Bool) (C : Addr) (sp : Sp) (E : XK) : R2 := fun x y H Q => ∃ a dx fs, y = .ref a ∧ H a = some (.ins C dx fs) ∧ sp [y, x] H (fun z H' => ∃ b, z = .bl b ∧ Q (.bl (if neg then !b else b)) H') E
theorem op_inO (o : Own X.K C "__contains__" g) (F : FnR X.prog X.w X.K X.mg X.base CX k g sp) (hr : Room k X.A) (hx : Passes CX X E) : OpR X (compareOp .In) (rInO false C sp E) := fun pins σ s H x y v u Q I rx ry ⟨a, _, _, ey, ea, q⟩ => by
  subst ey
  have eu : u = .ref a := ry
  let ⟨_, _, L⟩ := inst_of I ea
  let ⟨_, fr⟩ := I.fr
  rw [eu]
  refine PySem.W.in_K fr I.ok.mod.kin L o.at_ o.fn (back2 (x := .ref a) F hr hx I rfl rx q fun z w H1 s1 r J ⟨t, ez, e⟩ => ?_)
  subst ez
  rw [show w = Value.bool t from r]
  exact wpAny_truthy_bool ⟨.bl _, _, J, rfl, e⟩
theorem op_notInO (o : Own X.K C "__contains__" g) (F : FnR X.prog X.w X.K X.mg X.base CX k g sp) (hr : Room k X.A) (hx : Passes CX X E) : OpR X (compareOp .NotIn) (rInO true C sp E) := fun pins σ s H x y v u Q I rx ry ⟨a, _, _, ey, ea, q⟩ => by
  subst ey
  have eu : u = .ref a := ry
  let ⟨_, _, L⟩ := inst_of I ea
  let ⟨_, fr⟩ := I.fr
  rw [eu]
  refine PySem.W.notIn_K fr I.ok.mod.kin L o.at_ o.fn (back2 (x := .ref a) F hr hx I rfl rx q fun z w H1 s1 r J ⟨t, ez, e⟩ => ?_)
  subst ez
  rw [show w = Value.bool t from r]
  exact wpAny_truthy_bool ⟨.bl _, _, J, rfl, e⟩
/-- bool(x) -/
def rBoolO (C : Addr) (sp : Sp) (E : XK) : List V → Hp → VK → Prop := fun xs H Q => ∃ a dx fs, xs = [.ref a] ∧ H a = some (.ins C dx fs) ∧ sp xs H (fun z H' => ∃ b, z = .bl b ∧ Q z H') E
theorem call_boolO (o : Own X.K C "__bool__" g) (F : FnR X.prog X.w X.K X.mg X.base CX k g sp) (hr : Room (k + 2) X.A) (hx : Passes CX X E) : CallR X (.type "bool") (rBoolO C sp E) := fun pins σ s H xs us Q I rs ⟨a, _, _, ex, ea, q⟩ => by
  subst ex
  let ⟨_, _, L⟩ := inst_of I ea
  let ⟨_, fr⟩ := I.fr
  have low : Room k X.A.in1.in1 := Room.in1 (Room.in1 (k := k + 1) hr)
  rw [Vals.ref1 rs]
  refine FLM.bool_own fr I.ok.mod.kin L o.at_ o.fn (wpAny_mono (wpAny_call (SlX.run_at (us := [Value.ref a]) (ws := [V.ref a]) F low I.env0.in1.in1 hx I (.cons rfl .nil) q)) (fun w s1 ⟨z, H1, J, r, t, ez, e⟩ => ?_) fun _ _ => id)
  subst ez
  exact ⟨t, r, _, _, J, r, e⟩
/-- x[i], x an instance -/
def rIxO (C : Addr) (sp : Sp) (E : XK) : R2 := fun x y H Q => ∃ a dx fs, x = .ref a ∧ H a = some (.ins C dx fs) ∧ sp [x, y] H Q E
theorem pe_ixO {o i : Expr} {to ti : TE} {pos : Pos} (w : Own X.K C "__getitem__" g) (hf : PySem.W.fnIn X.K g = true) (F : FnR X.prog X.w X.K X.mg X.base CX k g sp) (hr : Room (k + 1) X.A) (hx : Passes CX X E) (ho : PE X o to) (hi : PE X i ti)
    (hsl : ∀ x v, subscripted i true (.ref x) v = runValue (.builtin "lifetime.subscript" ⟨[.ref x, v], []⟩) := by (intro _ _; with_unfolding_all rfl)) :
    PE X (.Subscript o i pos) (tOp (rIxO C sp E) to ti) where
  run pins s σ H Q I h := Subscript_ <| binT ho hi I h fun v u s2 x y H2 I2 rx ry ⟨a, _, _, ex, ea, q⟩ => by
    subst ex
    let ⟨_, _, L⟩ := inst_of I2 ea
    let ⟨_, fr⟩ := I2.fr
    rw [show v = Value.ref a from rx]
    exact PySem.W.sub_K fr I2.ok.mod.kin L w.at_ hf w.fn (wpAny_call (SlX.run_at (us := [Value.ref a, u]) (ws := [V.ref a, y]) F hr.in1 I2.env0.in1 hx I2 (.cons rfl (.cons ry .nil)) q)) (hsl _ _)
end
/-! ### dicts of ints -/
section
variable {X : Cx}
def isI : V → Bool
  | .int _ => true
  | _ => false
theorem isI_of {v : V} (h : isI v = true) : ∃ i, v = .int i := by
  cases v <;> first | exact ⟨_, rfl⟩ | cases h
theorem hits_int {A : Around} {s : Shared} {ls : List (Key × V)} {vb : List (Key × Value)} (rb : KV ls vb) (hl : ∀ p ∈ ls, isI p.2 = true) {ks : List (Key × V)} {va : List (Key × Value)} (ra : KV ks va) :
    (∀ p ∈ ks, isI p.2 = true) → PySem.W.KeqHits A s vb va (ks.all fun p => decide (valV ls p.1 = some p.2)) := by
  unfold KV at ra
  induction ra with
  | nil => intro _; exact .nil
  | @cons p q ps qs h t ih =>
    intro hp
    obtain ⟨h1, h2⟩ := h
    obtain ⟨k, v⟩ := q
    have h1' : p.1 = k := h1
    have ih := ih fun p' hm => hp p' (List.mem_cons_of_mem _ hm)
    obtain ⟨i, hi⟩ := isI_of (hp p List.mem_cons_self)
    rw [List.all_cons]
    have hv := rb.val p.1
    cases e : valV ls p.1 with
    | none =>
      rw [e] at hv
      rw [decide_eq_false (by simp), Bool.false_and]
      exact .miss (by rw [← h1']; exact hv.none_of)
    | some y =>
      rw [e] at hv
      obtain ⟨u, hu, ru⟩ := hv.some_of
      obtain ⟨j, hj⟩ : ∃ j, y = V.int j := by
        unfold valV at e
        obtain ⟨z, hz, ez⟩ := Option.map_eq_some_iff.mp e
        obtain ⟨j, hj⟩ := isI_of (hl z (List.mem_of_find?_eq_some hz))
        exact ⟨j, by rw [← ez, hj]⟩
      subst hj
      rw [hi] at h2
      obtain ⟨t1, e1⟩ := (show ∃ t, v = Value.int i t from h2)
      obtain ⟨t2, e2⟩ := (show ∃ t, u = Value.int j t from ru)
      subst e1 e2
      have q := SeqAt.EqAt.int_int (A := A) (s := s) i t1 j t2
      have eb : (i == j) = decide ((some (V.int j) : Option V) = some p.2) := by
        rw [hi]
        by_cases z : i = j
        · subst z; simp
        · rw [decide_eq_false (by intro w; exact z (by cases w; rfl))]
          simp [z]
      rw [eb] at q
      exact .hit (by rw [← h1']; exact hu) q ih
def dEq (ks ls : List (Key × V)) : Bool := ks.length == ls.length && ks.all fun p => decide (valV ls p.1 = some p.2)
def rEqDI (neg : Bool) : R2 := fun x y H Q => ∃ a b ks ls, x = .ref a ∧ y = .ref b ∧ H a = some (.dK ks) ∧ H b = some (.dK ls) ∧ (∀ p ∈ ks, isI p.2 = true) ∧ (∀ p ∈ ls, isI p.2 = true) ∧ Q (.bl (if neg then !dEq ks ls else dEq ks ls)) H
theorem eqDI {pins : List (Addr × Obj)} {σ : L2.St} {H : Hp} {s : Shared} {a b : Addr} {ks ls : List (Key × V)} (I : Inv X pins σ H s) (ea : H a = some (.dK ks)) (eb : H b = some (.dK ls)) (ia : ∀ p ∈ ks, isI p.2 = true) (ib : ∀ p ∈ ls, isI p.2 = true) :
    ∃ va vb, (a == sysModules) = false ∧ (b == sysModules) = false ∧ s.heap.DictOf (mixKind X.prog X.w) a va ∧ s.heap.DictOf (mixKind X.prog X.w) b vb ∧ PySem.W.KeqHits X.A.in1 s vb va (ks.all fun p => decide (valV ls p.1 = some p.2)) ∧ va.length = ks.length ∧ vb.length = ls.length := by
  have ⟨_, y1, va, r1, d1⟩ := (I.hok a _ ea : ObjOk X.prog X.w H s.heap a (.dK ks))
  have ⟨_, y2, vb, r2, d2⟩ := (I.hok b _ eb : ObjOk X.prog X.w H s.heap b (.dK ls))
  exact ⟨va, vb, y1, y2, d1, d2, hits_int r2 ib r1 ia, r1.length.symm, r2.length.symm⟩
theorem op_eqDI (hu : X.A.units < cLine) : OpR X (compareOp .Eq) (rEqDI false) := fun pins σ s H x y v u Q I rx ry ⟨a, b, ks, ls, ex, ey, ea, eb, ia, ib, q⟩ => by
  subst ex ey
  have ⟨va, vb, y1, y2, d1, d2, hh, n1, n2⟩ := eqDI I ea eb ia ib
  rw [show v = Value.ref a from rx, show u = Value.ref b from ry]
  exact PySem.W.keq_eq (knd := mixKind X.prog X.w) y1 y2 d1 d2 hu (fun _ => hh) (fin_bl I q (by rw [n1, n2]; rfl))
theorem op_neDI (hu : X.A.units < cLine) : OpR X (compareOp .NotEq) (rEqDI true) := fun pins σ s H x y v u Q I rx ry ⟨a, b, ks, ls, ex, ey, ea, eb, ia, ib, q⟩ => by
  subst ex ey
  have ⟨va, vb, y1, y2, d1, d2, hh, n1, n2⟩ := eqDI I ea eb ia ib
  rw [show v = Value.ref a from rx, show u = Value.ref b from ry]
  exact PySem.W.keq_ne (knd := mixKind X.prog X.w) y1 y2 d1 d2 hu (fun _ => hh) (fin_bl I q (by rw [n1, n2]; rfl))
end
end FL

set_option Elab.async false
set_option linter.all false
set_option maxRecDepth 100000
set_option maxHeartbeats 4800000
namespace FLM
open PySem PySem.Calls Builtin PyProof.Rows
section
variable {prog : Program} {w : World} {A : Around} {E : Value → Shared → Prop} {s : Shared} {K : Type} [DecidableEq K] {knd : KeyKind prog w K}
theorem dictPut_pairs {d : Addr} {kvs : List (K × Value)} {k : K} {key v : Value} {Q : Unit → Shared → Prop} (hkey : knd.is k key = true) (hm : s.heap.DictOf knd d kvs)
    (hQ : ∀ h', h'.DictOf knd d (stored kvs k v) → Heap.SameBut d s.heap h' → Q () { s with heap := h' }) (hsz : kvs.length ≤ sizeLine) : wpAny (model prog w) A (dictPut d (knd.hash k) key v) Q E s := by
  have ⟨ob, es, ep, at0, isd, dat, ks, ps, nd⟩ := hm
  have small : es.size ≤ sizeLine := Nat.le_trans (Nat.le_of_eq (Array.length_toList.symm.trans ps.length)) hsz
  have place : kvs.findIdx? (fun z => decide (z.1 = k)) = es.findIdx? (fun z => knd.is k z.key) := by
    rw [← ps.findIdx k]
    cases es
    simp
  unfold dictPut
  refine wpAny_bind (wpAny_dictFind_of hkey at0 dat ks ?_)
  cases found : es.findIdx? (fun z => knd.is k z.key) with
  | some i =>
    have as : stored kvs k v = kvs.map (fun z => if z.1 = k then (z.1, v) else z) := if_pos (any_of_findIdx_some (place.trans found))
    rw [as] at hQ
    have inl : es.toList.findIdx? (fun z => knd.is k z.key) = some i := found ▸ (by cases es; simp)
    refine wpAny_updateDict at0 dat (hQ _ ⟨_, _, ep, Heap.get?_update_self _ at0 (Obj.isFreed_of_dict (Obj.data_mapDict dat _)), isd.mapDict _, Obj.data_mapDict dat _, ks.modify _ _, ?_, ?_⟩ (Heap.SameBut.update ..))
    · have z := ps.modify nd inl v
      cases es
      simpa using z
    · exact by rw [keys_map_store]; exact nd
  | none =>
    have away := not_mem_of_findIdx_none (place.trans found)
    have as : stored kvs k v = kvs ++ [(k, v)] := if_neg fun z => let ⟨y, m, e⟩ := List.any_eq_true.mp z; away (List.mem_map.mpr ⟨y, m, of_decide_eq_true e⟩)
    rw [as] at hQ
    refine wpAny_updateDictKeys (hz := small) at0 dat (hQ _ ⟨_, _, ep + 1, Heap.get?_update_self _ at0 (Obj.isFreed_of_dict (Obj.data_mapDictKeys dat _)), isd.mapDictKeys _, Obj.data_mapDictKeys dat _, ks.push hkey _, ?_, ?_⟩ (Heap.SameBut.update ..))
    · have z := ps.append hkey (knd.hash k) v
      cases es
      simpa using z
    · rw [List.map_append]
      exact List.nodup_append.mpr ⟨nd, by simp, fun y my z mz e => away (by rw [e, List.mem_singleton.mp mz] at my; exact my)⟩
/-- a walk over the numbers from i, n of them -/
theorem turns_from {M : Model} {β : Type} {f : Nat → β → Sem (ForInStep β)} {N : Nat} {I : Nat → Shared → Prop} {b : β} {R : β → Shared → Prop} (turn : ∀ i s, i < N → I i s → wpAny M A (f i b) (fun r s1 => r = .yield b ∧ I (i + 1) s1) E s)
    (fin : ∀ s, I N s → R b s) : ∀ n i s, i + n = N → I i s → wpAny M A (forIn (List.range' i n) b f) R E s
  | 0, i, s, e, h => by
    rw [List.range'_zero, List.forIn_nil]
    exact wpAny_pure (fin s (by rw [← e]; exact h))
  | n + 1, i, s, e, h => by
    rw [List.range'_succ, List.forIn_cons]
    refine wpAny_bind (wpAny_mono (turn i s (by omega) h) (fun r s1 ⟨er, h1⟩ => ?_) fun _ _ => id)
    subst er
    exact turns_from turn fin n (i + 1) s1 (by omega) h1
theorem merge_pairs {d a : Addr} {kd ka : List (K × Value)} {Q : Unit → Shared → Prop} (hne : d ≠ a) (ha : (a == sysModules) = false) (hnoref : ∀ k v, knd.is k v = true → ∀ b, v ≠ .ref b)
    (da : s.heap.DictOf knd a ka) (dd : s.heap.DictOf knd d kd) (hz : kd.length + ka.length ≤ sizeLine)
    (hQ : ∀ h', h'.DictOf knd d (merged kd ka) → Heap.SameBut d s.heap h' → Q () { s with heap := h' }) :
    wpAny (model prog w) A (mergeMapping d (.ref a) false) Q E s := by
  have ty := da.typeIs
  have ⟨oa, es, ep, atA, _, datA, ksA, psA, _⟩ := da
  have ⟨od, _, _, atD, _, datD, _⟩ := dd
  have len : ka.length = es.size := psA.length.symm.trans Array.length_toList
  unfold mergeMapping
  refine wpAny_bind (m := isInstance (.ref a) (.type "dict")) (wpAny_isInstance (T := "dict") ty PySem.F.sub_dict_dict ?_)
  rw [if_pos rfl]
  refine wpAny_bind (m := specialOf (.ref a) "__iter__") (wpAny_specialOf ty PySem.F.slot_dict_iter.lookup (wpAny_bind (wpAny_pure ?_)))
  have same : (some (Value.builtin "dict.__iter__") == some (Value.builtin "dict.__iter__")) = true := beq_self_eq_true _
  rw [same]
  dsimp only
  rw [if_neg (ha ▸ Bool.false_ne_true)]
  refine wpAny_bind (wpAny_dictEntries atD datD ?_)
  split
  refine wpAny_bind (wpAny_dictEntries atA datA (wpAny_bind ?_))
  rw [← Array.forIn_toList]
  refine wpAny_forIn_list _ (fun r _ t => s = t ∧ ∀ z ∈ r, z ∈ es) _ (fun z r _ t ⟨et, inn⟩ => ?_) (fun _ t ⟨et, _⟩ => ?_) _ _ ⟨rfl, fun z m => Array.mem_def.mpr m⟩
  · have ⟨kz, isz, _⟩ := ksA z (inn z (.head _))
    split
    · exact absurd ‹_› (hnoref kz z.key isz _)
    · exact wpAny_pure ⟨et, fun y m => inn y (.tail _ m)⟩
  subst et
  all_goals
    refine wpAny_bind (wpAny_dictEntries atA datA (wpAny_bind (wpAny_dictEpoch atA datA (wpAny_bind ?_))))
    rw [List.range_eq_range']
    refine turns_from (I := fun i t => ∃ h1, t = { s with heap := h1 } ∧ h1.DictOf knd d (merged kd (ka.take i)) ∧ Heap.SameBut d s.heap h1) (N := es.size) (fun i t lt ⟨h1, et, d1, sb⟩ => ?_) (fun t ⟨h1, et, d1, sb⟩ => ?_) es.size 0 s (Nat.zero_add _) ⟨s.heap, rfl, dd, Heap.SameBut.refl _ _⟩
    · have at1 : h1.get? a = some oa := (sb.2 a hne.symm).trans atA
      have lt' : i < ka.length := len ▸ lt
      have ⟨isk, val⟩ := psA.get? (i := i) (e := es[i]) (k := ka[i].1) (v := ka[i].2) (Array.getElem?_toList.trans (Array.getElem?_eq_getElem lt)) (List.getElem?_eq_getElem lt')
      have ⟨k1, isk1, hash1⟩ := ksA es[i] (Array.getElem_mem lt)
      rw [knd.inj _ _ _ isk1 isk] at hash1
      subst et
      refine wpAny_bind (wpAny_dictEntries (s := { s with heap := h1 }) at1 datA ?_)
      rw [Array.getElem?_eq_getElem lt]
      dsimp only
      rw [hash1]
      refine wpAny_bind (wpAny_holding (dictPut_pairs isk d1 (fun h2 d2 sb2 => wpAny_bind (wpAny_dictEpoch (s := { s with heap := h2 }) ((sb2.2 a hne.symm).trans at1) datA ?_)) ?_))
      · rw [if_neg (by simp)]
        exact wpAny_pure ⟨rfl, h2, rfl, by rw [merged_take_succ kd ka i ka[i] (List.getElem?_eq_getElem lt'), ← val]; exact d2, sb.trans sb2⟩
      · exact Nat.le_trans (merged_length_le _ _) (Nat.le_trans (Nat.add_le_add_left (List.length_take_le' _ _) _) hz)
    · subst et
      exact wpAny_pure (hQ h1 (by rw [← len, List.take_length] at d1; exact d1) sb)
end
end FLM
namespace FL
open PySem L2 PySem.Spec PyProof.Rows
/-- {**a, **b} -/
def tD2 (ta tb : TE) : TE := fun σ H Q => ∀ p, H p = none → ta σ (upd H p (.dK [])) fun x H1 => ∃ a ks, x = .ref a ∧ a ≠ p ∧ H1 a = some (.dK ks) ∧ H1 p = some (.dK []) ∧
  tb σ (upd H1 p (.dK (mergeK [] ks))) fun y H2 => ∃ b ls ms, y = .ref b ∧ b ≠ p ∧ H2 b = some (.dK ls) ∧ H2 p = some (.dK ms) ∧ ms.length + ls.length ≤ sizeLine ∧ Q (.ref p) (upd H2 p (.dK (mergeK ms ls)))
section
variable {X : Cx}
theorem kv_noref {P : Program} {w : World} (k : Key) (v : Value) (h : (mixKind P w).is k v = true) : ∀ b, v ≠ .ref b := by
  intro b e
  subst e
  rcases keyIs_shape h with ⟨i, t, _, e⟩ | ⟨x, t, _, e⟩ <;> cases e
theorem merge_ok {pins : List (Addr × Obj)} {σ : L2.St} {H : Hp} {s : Shared} {E : Value → Shared → Prop} {p a : Addr} {ks ls : List (Key × V)} {Q : Unit → Shared → Prop} (I : Inv X pins σ H s) (hne : a ≠ p) (hp : H p = some (.dK ks)) (ha : H a = some (.dK ls))
    (hz : ks.length + ls.length ≤ sizeLine) (h : ∀ s', Inv X pins σ (upd H p (.dK (mergeK ks ls))) s' → Q () s') : wpAny (model X.prog X.w) X.A (mergeMapping p (.ref a) false) Q E s := by
  obtain ⟨_, yp, vp, rp, dp⟩ := dk_of I.hok hp
  obtain ⟨_, ya, va, ra, da⟩ := dk_of I.hok ha
  refine FLM.merge_pairs (knd := mixKind X.prog X.w) (Ne.symm hne) ya kv_noref da dp (by rw [← rp.length, ← ra.length]; exact hz) fun h' dd' hs => h _ ?_
  have hl : (mergeK ks ls).length ≤ sizeLine := Nat.le_trans (length_mergeK ls ks) hz
  have he : ∃ q, h'.get? p = some q := let ⟨q, _, _, hq, _⟩ := dd'; ⟨q, hq⟩
  exact d_write (t' := s.toks) I (by rw [hp]; exact True.intro) hs he (dk_new hl yp (ra.merge rp) dd')
theorem pe_d2 {a b : Expr} {ta tb : TE} {pos : Pos} (ha : PE X a ta) (hb : PE X b tb) : PE X (.Dict [none, none] [a, b] pos) (tD2 ta tb) where
  run pins s σ H Q I q := by
    have new : H s.heap.objs.size = none := I.hok.fresh (Nat.le_refl _)
    have J := I.laid (a := s.heap.objs.size) (o := .dK []) (h' := s.heap.push { cls := .type "dict", data := .dict #[] }) (t' := s.toks) (fun _ _ z => Heap.get?_push_of_some _ z) (Nat.le_refl _) (dk_empty s.heap I.big)
    rw [arm_eval_Dict]
    apply wpAny_bind; apply wpAny_standAt
    show wpAny _ _ (dictDisplay [(none, do let x ← eval a X.env; standAt pos; pure x), (none, do let x ← eval b X.env; standAt pos; pure x)]) _ _ s
    unfold dictDisplay
    simp only [List.forIn_cons, List.forIn_nil, List.isEmpty_nil, if_true]
    refine wpAny_bind (wpAny_bind (wpAny_bind (wpAny_pure ?_)))
    refine wpAny_bind (wpAny_alloc (wpAny_bind (wpAny_holding (wpAny_bind (thn (ha.run pins _ σ _ _ J (q _ new)) fun u s1 ⟨x, H1, J1, rx, ea, ks, ex, nea, h1, hp1, q1⟩ => wpAny_bind (wpAny_standAt (wpAny_pure ?_)))))))
    subst ex
    rw [show u = Value.ref ea from rx]
    have z1 : ks.length ≤ sizeLine := (dk_of J1.hok h1).1
    refine wpAny_bind (wpAny_onRaise (wpAny_tryCatch (wpAny_onRaise (wpAny_holding (merge_ok J1 nea hp1 h1 (by rw [List.length_nil]; omega) fun s2 J2 => wpAny_pure ?_)))))
    dsimp only
    simp only [List.isEmpty_nil, if_true]
    refine wpAny_bind (wpAny_bind (wpAny_pure (wpAny_bind (wpAny_pure (wpAny_bind (wpAny_holding (wpAny_bind (thn (hb.run pins _ σ _ _ J2 q1) fun u s3 ⟨y, H2, J3, ry, eb, ls, ms, ey, neb, h2, hp2, hz, q2⟩ => wpAny_bind (wpAny_standAt (wpAny_pure ?_))))))))))
    subst ey
    rw [show u = Value.ref eb from ry]
    refine wpAny_bind (wpAny_onRaise (wpAny_tryCatch (wpAny_onRaise (wpAny_holding (merge_ok J3 neb hp2 h2 hz fun s4 J4 => wpAny_pure (wpAny_pure ?_))))))
    rw [if_pos (by rfl)]
    exact wpAny_bind (wpAny_pure (wpAny_pure ⟨.ref s.heap.objs.size, _, J4, rfl, q2⟩))
end
end FL

set_option Elab.async false
set_option linter.all false
set_option maxRecDepth 100000
set_option maxHeartbeats 4800000
/-! exponents as lists of pairs: normal form, its laws. -/
namespace UX
open PySem L2 PySem.Spec PyProof.Rows
abbrev U := List (Str × Int)
def keys (u : U) : List Str := u.map (·.1)
def lk : U → Str → Int
  | [], _ => 0
  | p :: r, k => if p.1 = k then p.2 else lk r k
def has (u : U) (k : Str) : Bool := u.any fun p => decide (p.1 = k)
def le (a b : Str) : Prop := a.cps.toList ≤ b.cps.toList
theorem le_anti {a b : Str} (h1 : le a b) (h2 : le b a) : a = b := by
  have h := List.le_antisymm h1 h2
  obtain ⟨⟨x⟩⟩ := a
  obtain ⟨⟨y⟩⟩ := b
  simpa using h
theorem pw_of_sorted : ∀ (l : List Str), sortedS l = true → l.Pairwise le
  | [], _ => .nil
  | [x], _ => List.pairwise_singleton _ _
  | x :: y :: r, h => by
    have h : (!ltCps y.cps.toList x.cps.toList && risingS y r) = true := h
    rw [Bool.and_eq_true] at h
    have ih := pw_of_sorted (y :: r) h.2
    have hxy : le x y := by
      have h1 := h.1
      rw [ltCps_eq] at h1
      have h2 : ¬ y.cps.toList < x.cps.toList := by simpa using h1
      exact h2
    refine List.pairwise_cons.mpr ⟨fun z hz => ?_, ih⟩
    rcases List.mem_cons.mp hz with e | hz
    · subst e; exact hxy
    · exact List.le_trans hxy ((List.pairwise_cons.mp ih).1 z hz)
theorem sorted_unique {xs ys : List Str} (h : xs.Perm ys) (h1 : sortedS xs = true) (h2 : sortedS ys = true) : xs = ys :=
  List.Perm.eq_of_pairwise (fun _ _ _ _ => le_anti) (pw_of_sorted _ h1) (pw_of_sorted _ h2) h
/-! ### look-ups -/
theorem lk_not {u : U} {k : Str} (h : k ∉ keys u) : lk u k = 0 := by
  induction u with
  | nil => rfl
  | cons p r ih =>
    unfold keys at h
    rw [List.map_cons, List.mem_cons, not_or] at h
    unfold lk
    rw [if_neg (Ne.symm h.1)]
    exact ih h.2
theorem lk_mem {u : U} (nd : (keys u).Nodup) {p : Str × Int} (h : p ∈ u) : lk u p.1 = p.2 := by
  induction u with
  | nil => cases h
  | cons q r ih =>
    unfold keys at nd
    rw [List.map_cons, List.nodup_cons] at nd
    unfold lk
    rcases List.mem_cons.mp h with e | h
    · rw [e, if_pos rfl]
    · rw [if_neg fun z => nd.1 (by rw [z]; exact List.mem_map_of_mem h)]
      exact ih nd.2 h
theorem mem_lk {u : U} {k : Str} (h : k ∈ keys u) : (k, lk u k) ∈ u := by
  induction u with
  | nil => cases h
  | cons q r ih =>
    unfold lk
    by_cases e : q.1 = k
    · rw [if_pos e, ← e]; exact List.mem_cons_self
    · rw [if_neg e]
      unfold keys at h
      rw [List.map_cons, List.mem_cons] at h
      rcases h with h | h
      · exact absurd h.symm e
      · exact List.mem_cons_of_mem _ (ih h)
theorem has_iff {u : U} {k : Str} : has u k = true ↔ k ∈ keys u := by
  unfold has keys
  rw [List.any_eq_true, List.mem_map]
  constructor
  · rintro ⟨p, hp, e⟩; exact ⟨p, hp, of_decide_eq_true e⟩
  · rintro ⟨p, hp, e⟩; exact ⟨p, hp, decide_eq_true e⟩
/-! ### normal form -/
/-- sorted by name, no name twice, no 0 -/
structure Canon (u : U) : Prop where
  pw : (keys u).Pairwise le
  nd : (keys u).Nodup
  nz : ∀ p ∈ u, p.2 ≠ 0
theorem canon_nil : Canon [] := ⟨.nil, .nil, fun _ h => nomatch h⟩
def norm (ys : List Str) (p : U) : U := (ys.filter fun k => decide (lk p k ≠ 0)).map fun k => (k, lk p k)
theorem keys_norm (ys : List Str) (p : U) : keys (norm ys p) = ys.filter fun k => decide (lk p k ≠ 0) := by
  unfold keys norm
  rw [List.map_map]
  exact List.map_id' _
theorem norm_canon {ys : List Str} {p : U} (hs : sortedS ys = true) (nd : ys.Nodup) : Canon (norm ys p) := by
  refine ⟨?_, ?_, fun q hq => ?_⟩
  · rw [keys_norm]; exact (pw_of_sorted _ hs).filter _
  · rw [keys_norm]; exact nd.filter _
  · obtain ⟨k, hk, e⟩ := List.mem_map.mp hq
    rw [← e]
    exact of_decide_eq_true (List.mem_filter.mp hk).2
theorem lk_norm {ys : List Str} {p : U} (hp : ys.Perm (keys p)) (nd : (keys p).Nodup) (k : Str) : lk (norm ys p) k = lk p k := by
  have ndy : ys.Nodup := hp.nodup_iff.mpr nd
  have nk : (keys (norm ys p)).Nodup := by rw [keys_norm]; exact ndy.filter _
  by_cases h : k ∈ keys (norm ys p)
  · have h1 := mem_lk h
    obtain ⟨j, hj, e⟩ := List.mem_map.mp h1
    injection e with e1 e2
    rw [← e2, e1]
  · rw [lk_not h]
    rw [keys_norm, List.mem_filter, not_and] at h
    by_cases hk : k ∈ ys
    · have h2 := h hk
      have h3 : ¬ lk p k ≠ 0 := fun z => h2 (decide_eq_true z)
      omega
    · exact (lk_not fun z => hk (hp.mem_iff.mpr z)).symm
theorem canon_mem {u : U} (c : Canon u) (k : Str) : k ∈ keys u ↔ lk u k ≠ 0 := by
  constructor
  · intro h
    exact c.nz _ (mem_lk h)
  · intro h
    by_cases z : k ∈ keys u
    · exact z
    · exact absurd (lk_not z) h
theorem u_of_keys {u : U} (nd : (keys u).Nodup) : u = (keys u).map fun k => (k, lk u k) := by
  unfold keys
  rw [List.map_map]
  have : ∀ p ∈ u, ((fun k => (k, lk u k)) ∘ fun (x : Str × Int) => x.1) p = p := fun p hp => by
    show (p.1, lk u p.1) = p
    rw [lk_mem nd hp]
  exact ((List.map_congr_left this).trans (List.map_id' u)).symm
theorem canon_ext {u v : U} (cu : Canon u) (cv : Canon v) (h : ∀ k, lk u k = lk v k) : u = v := by
  have hk : keys u = keys v := by
    refine List.Perm.eq_of_pairwise (fun _ _ _ _ => le_anti) cu.pw cv.pw ((List.perm_ext_iff_of_nodup cu.nd cv.nd).mpr fun k => ?_)
    rw [canon_mem cu, canon_mem cv, h]
  rw [u_of_keys cu.nd, u_of_keys cv.nd, hk]
  exact List.map_congr_left fun k _ => by rw [h]
/-! ### as a dict -/
def enc (u : U) : List (Key × V) := u.map fun p => ((Sum.inr p.1 : Key), V.int p.2)
theorem enc_isI {u : U} : ∀ p ∈ enc u, FL.isI p.2 = true := fun p hp => by
  obtain ⟨q, _, e⟩ := List.mem_map.mp hp
  rw [← e]; rfl
theorem enc_length (u : U) : (enc u).length = u.length := List.length_map ..
theorem enc_keys (u : U) : (enc u).map (·.1) = (keys u).map Sum.inr := by
  unfold enc keys
  rw [List.map_map, List.map_map]
  rfl
theorem inr_eq {a b : Str} : ((Sum.inr a : Key) = Sum.inr b) = (a = b) := propext ⟨Sum.inr.inj, fun e => by rw [e]⟩
theorem valV_enc (u : U) (k : Str) : valV (enc u) (Sum.inr k : Key) = if has u k then some (V.int (lk u k)) else none := by
  induction u with
  | nil => rfl
  | cons p r ih =>
    by_cases e : p.1 = k
    · rw [show enc (p :: r) = ((Sum.inr p.1 : Key), V.int p.2) :: enc r from rfl, valV_pos (by rw [e])]
      unfold has lk
      simp [e]
    · rw [show enc (p :: r) = ((Sum.inr p.1 : Key), V.int p.2) :: enc r from rfl, valV_neg (by rw [inr_eq]; exact e), ih]
      have h1 : has (p :: r) k = has r k := by unfold has; rw [List.any_cons, decide_eq_false e, Bool.false_or]
      have h2 : lk (p :: r) k = lk r k := by rw [show lk (p :: r) k = if p.1 = k then p.2 else lk r k from rfl, if_neg e]
      rw [h1, h2]
def put (u : U) (k : Str) (i : Int) : U := if has u k then u.map fun p => if p.1 = k then (p.1, i) else p else u ++ [(k, i)]
theorem putK_enc (u : U) (k : Str) (i : Int) : putK (enc u) (Sum.inr k : Key) (V.int i) = enc (put u k i) := by
  unfold putK put
  have e1 : ((enc u).any fun kv => decide (kv.1 = (Sum.inr k : Key))) = has u k := by
    unfold enc has
    rw [List.any_map]
    congr 1
    funext p
    simp
  rw [e1]
  cases has u k with
  | true =>
    simp only [if_true]
    unfold enc
    rw [List.map_map, List.map_map]
    refine List.map_congr_left fun p _ => ?_
    simp only [Function.comp, inr_eq]
    by_cases e : p.1 = k
    · rw [if_pos e, if_pos e]
    · rw [if_neg e, if_neg e]
  | false =>
    simp only [Bool.false_eq_true, if_false]
    unfold enc
    rw [List.map_append]
    rfl
theorem keys_put (u : U) (k : Str) (i : Int) : keys (put u k i) = if has u k then keys u else keys u ++ [k] := by
  unfold put
  cases has u k with
  | true =>
    simp only [if_true]
    unfold keys
    rw [List.map_map]
    refine List.map_congr_left fun p _ => ?_
    simp only [Function.comp]
    by_cases e : p.1 = k
    · rw [if_pos e]
    · rw [if_neg e]
  | false =>
    simp only [Bool.false_eq_true, if_false]
    unfold keys
    rw [List.map_append]
    rfl
theorem nd_put {u : U} (nd : (keys u).Nodup) (k : Str) (i : Int) : (keys (put u k i)).Nodup := by
  rw [keys_put]
  cases h : has u k with
  | true => exact nd
  | false =>
    simp only [Bool.false_eq_true, if_false]
    have hk : k ∉ keys u := fun z => by rw [has_iff.mpr z] at h; cases h
    rw [List.nodup_append]
    refine ⟨nd, by simp, fun a ha b hb => ?_⟩
    rw [List.mem_singleton] at hb
    rw [hb]
    exact fun e => hk (e ▸ ha)
theorem lk_map (k j : Str) (i : Int) : ∀ u : U, lk (u.map fun p => if p.1 = k then (p.1, i) else p) j = if has u j ∧ j = k then i else lk u j
  | [] => by simp [lk, has]
  | p :: r => by
    have ih := lk_map k j i r
    rw [List.map_cons]
    by_cases e : p.1 = k
    · rw [if_pos e]
      unfold lk
      by_cases ej : p.1 = j
      · rw [if_pos ej, if_pos ⟨by unfold has; simp [ej], ej.symm.trans e⟩]
      · rw [if_neg ej, if_neg ej, ih]
        have : has (p :: r) j = has r j := by unfold has; simp [ej]
        rw [this]
    · rw [if_neg e]
      unfold lk
      by_cases ej : p.1 = j
      · rw [if_pos ej, if_neg fun z => e (ej.trans z.2), if_pos ej]
      · rw [if_neg ej, if_neg ej, ih]
        have : has (p :: r) j = has r j := by unfold has; simp [ej]
        rw [this]
theorem lk_append (k j : Str) (i : Int) : ∀ u : U, has u k = false → lk (u ++ [(k, i)]) j = if j = k then i else lk u j
  | [], _ => by
    show (if k = j then i else 0) = _
    by_cases e : j = k
    · rw [if_pos e, if_pos e.symm]
    · rw [if_neg e, if_neg (Ne.symm e)]; rfl
  | p :: r, h => by
    have h2 : (decide (p.1 = k) || has r k) = false := h
    rw [Bool.or_eq_false_iff] at h2
    have hp : ¬ p.1 = k := of_decide_eq_false h2.1
    rw [List.cons_append]
    unfold lk
    rw [lk_append k j i r h2.2]
    by_cases ej : p.1 = j
    · rw [if_pos ej, if_pos ej, if_neg fun z => hp (ej.trans z)]
    · rw [if_neg ej, if_neg ej]
theorem lk_put (u : U) (k j : Str) (i : Int) : lk (put u k i) j = if j = k then i else lk u j := by
  unfold put
  cases h : has u k with
  | true =>
    simp only [if_true]
    rw [lk_map]
    by_cases e : j = k
    · subst e
      rw [if_pos ⟨h, rfl⟩, if_pos rfl]
    · rw [if_neg fun z => e z.2, if_neg e]
  | false =>
    simp only [Bool.false_eq_true, if_false]
    exact lk_append k j i u h
/-! ### == of two dicts of exponents -/
theorem dEq_enc {u v : U} (ndu : (keys u).Nodup) (ndv : (keys v).Nodup) : FL.dEq (enc u) (enc v) = true ↔ (u.length = v.length ∧ ∀ p ∈ u, p ∈ v) := by
  unfold FL.dEq
  rw [Bool.and_eq_true, enc_length, enc_length, beq_iff_eq, List.all_eq_true]
  refine and_congr_right fun _ => ?_
  constructor
  · intro h p hp
    have h1 := of_decide_eq_true (h ((Sum.inr p.1 : Key), V.int p.2) (List.mem_map.mpr ⟨p, hp, rfl⟩))
    rw [valV_enc] at h1
    cases e : has v p.1 with
    | false => rw [e] at h1; cases h1
    | true =>
      rw [e] at h1
      have h2 : lk v p.1 = p.2 := by
        simp only [if_true, Option.some.injEq, V.int.injEq] at h1
        exact h1
      have h3 := mem_lk (has_iff.mp e)
      rw [h2] at h3
      exact h3
  · intro h q hq
    obtain ⟨p, hp, e⟩ := List.mem_map.mp hq
    subst e
    have hv := h p hp
    refine decide_eq_true ?_
    rw [valV_enc, if_pos (has_iff.mpr (List.mem_map_of_mem hv)), lk_mem ndv hv]
theorem dEq_refl {u : U} (nd : (keys u).Nodup) : FL.dEq (enc u) (enc u) = true := (dEq_enc nd nd).mpr ⟨rfl, fun _ h => h⟩
theorem perm_of_sub : ∀ {a b : List Str}, a.Nodup → (∀ k ∈ a, k ∈ b) → b.length ≤ a.length → a.Perm b
  | [], b, _, _, h => by
    have : b = [] := List.eq_nil_of_length_eq_zero (Nat.le_zero.mp h)
    rw [this]
  | x :: r, b, nd, hs, h => by
    rw [List.nodup_cons] at nd
    have hx := hs x List.mem_cons_self
    have hp : b.Perm (x :: b.erase x) := List.perm_cons_erase hx
    have hl := hp.length_eq
    rw [List.length_cons] at h hl
    refine (List.Perm.cons x (perm_of_sub nd.2 (fun k hk => ?_) (by omega))).trans hp.symm
    have h1 := hp.mem_iff.mp (hs k (List.mem_cons_of_mem _ hk))
    rcases List.mem_cons.mp h1 with e | h2
    · exact absurd (e ▸ hk) nd.1
    · exact h2
theorem dEq_canon {u v : U} (cu : Canon u) (cv : Canon v) : FL.dEq (enc u) (enc v) = decide (u = v) := by
  rw [Bool.eq_iff_iff, decide_eq_true_iff]
  constructor
  · intro h
    obtain ⟨hl, hm⟩ := (dEq_enc cu.nd cv.nd).mp h
    have hk : (keys u).Perm (keys v) := by
      have hsub : ∀ k ∈ keys u, k ∈ keys v := fun k hk => by
        obtain ⟨p, hp, e⟩ := List.mem_map.mp hk
        rw [← e]; exact List.mem_map_of_mem (hm p hp)
      have hlen : (keys v).length ≤ (keys u).length := by unfold keys; rw [List.length_map, List.length_map]; omega
      exact perm_of_sub cu.nd hsub hlen
    refine canon_ext cu cv fun k => ?_
    by_cases h1 : k ∈ keys u
    · have h2 := hm _ (mem_lk h1)
      exact (lk_mem cv.nd h2).symm
    · rw [lk_not h1, lk_not fun z => h1 (hk.mem_iff.mpr z)]
  · intro e
    subst e
    exact dEq_refl cu.nd
end UX

set_option Elab.async false
set_option linter.all false
set_option maxRecDepth 100000
set_option maxHeartbeats 4800000
/-! virtual values, objects, heap; how they stand for the real ones. -/
namespace SV
open PySem L2 PySem.Spec PyProof.Rows

/-- built-in types -/
inductive Tn where
  | int | bool | str | list | tuple | dict | none | set | valueError | typeError
def Tn.nm : Tn → String
  | .int => "int" | .bool => "bool" | .str => "str" | .list => "list" | .tuple => "tuple" | .dict => "dict" | .none => "NoneType" | .set => "set" | .valueError => "ValueError" | .typeError => "TypeError"
/-- fn: a def, a class of the text, by number -/
inductive Vx where
  | non | bl (b : Bool) | int (i : Int) | str (s : Str) | ty (n : Tn) | fn (a : Nat) | ref (i : Nat)
abbrev Kx := Sum Int Str
inductive Ox where
  | lst (xs : List Vx) | tup (xs : List Vx) | dK (kvs : List (Kx × Vx)) | ins (C : Nat) (fs : List (Str × Vx)) | lk (o : Ox)
/-- a tree by number -/
inductive Tx where
  | e | l (i : Nat) (o : Ox) (t : Tx) | n (a : Tx) (v : Option Ox) (b : Tx)
theorem nbeq {i j : Nat} (h : i ≠ j) : Nat.beq i j = false := by
  cases e : Nat.beq i j with
  | false => rfl
  | true => exact absurd (Nat.eq_of_beq_eq_true e) h
namespace Tx
def get : Tx → Nat → Option Ox
  | e, _ => none
  | l j o t, i => bif Nat.beq i j then some o else get t i
  | n a v b, i => bif Nat.beq i 0 then v else bif Nat.beq (i % 2) 1 then get a (i / 2) else get b (i / 2 - 1)
def set : Nat → Tx → Nat → Ox → Tx
  | 0, t, i, o => l i o t
  | f + 1, e, i, o => bif Nat.beq i 0 then n e (some o) e else bif Nat.beq (i % 2) 1 then n (set f e (i / 2) o) none e else n e none (set f e (i / 2 - 1) o)
  | f + 1, n a v b, i, o => bif Nat.beq i 0 then n a (some o) b else bif Nat.beq (i % 2) 1 then n (set f a (i / 2) o) v b else n a v (set f b (i / 2 - 1) o)
  | _ + 1, l j p t, i, o => l i o (l j p t)
theorem get_l (i j : Nat) (o : Ox) (t : Tx) : get (l i o t) j = if i = j then some o else get t j := by
  show (bif Nat.beq j i then some o else get t j) = _
  by_cases h : i = j
  · subst h; rw [if_pos rfl, Nat.beq_refl]; rfl
  · rw [if_neg h, nbeq (Ne.symm h)]; rfl
theorem get_n (a b : Tx) (v : Option Ox) (j : Nat) : get (n a v b) j = if j = 0 then v else if j % 2 = 1 then get a (j / 2) else get b (j / 2 - 1) := by
  show (bif Nat.beq j 0 then v else bif Nat.beq (j % 2) 1 then get a (j / 2) else get b (j / 2 - 1)) = _
  by_cases h : j = 0
  · subst h; rfl
  · rw [if_neg h, nbeq h, cond_false]
    by_cases h2 : j % 2 = 1
    · rw [if_pos h2, h2]; rfl
    · rw [if_neg h2, nbeq h2, cond_false]
theorem set_n (f : Nat) (a b : Tx) (v : Option Ox) (i : Nat) (o : Ox) : set (f + 1) (n a v b) i o = if i = 0 then n a (some o) b else if i % 2 = 1 then n (set f a (i / 2) o) v b else n a v (set f b (i / 2 - 1) o) := by
  show (bif Nat.beq i 0 then n a (some o) b else bif Nat.beq (i % 2) 1 then n (set f a (i / 2) o) v b else n a v (set f b (i / 2 - 1) o)) = _
  by_cases h : i = 0
  · subst h; rfl
  · rw [if_neg h, nbeq h, cond_false]
    by_cases h2 : i % 2 = 1
    · rw [if_pos h2, h2]; rfl
    · rw [if_neg h2, nbeq h2, cond_false]
theorem set_e (f : Nat) (i : Nat) (o : Ox) : set (f + 1) e i o = set (f + 1) (n e none e) i o := rfl
theorem get_e2 (j : Nat) : get (n e none e) j = none := by
  rw [get_n]
  split
  · rfl
  · split <;> rfl
theorem get_set : ∀ (f : Nat) (t : Tx) (i : Nat) (o : Ox) (j : Nat), get (set f t i o) j = if i = j then some o else get t j
  | 0, t, i, o, j => get_l i j o t
  | f + 1, l k p t, i, o, j => get_l i j o (l k p t)
  | f + 1, n a v b, i, o, j => by
    rw [set_n]
    by_cases h : i = 0
    · rw [if_pos h, get_n, get_n]
      subst h
      by_cases h2 : j = 0
      · subst h2; rfl
      · rw [if_neg h2, if_neg (Ne.symm h2), if_neg h2]
    · rw [if_neg h]
      by_cases h2 : i % 2 = 1
      · rw [if_pos h2, get_n, get_n, get_set f a]
        by_cases h3 : j = 0
        · subst h3; rw [if_pos rfl, if_neg h]; rfl
        · rw [if_neg h3, if_neg h3]
          by_cases h4 : j % 2 = 1
          · rw [if_pos h4, if_pos h4]
            by_cases h5 : i = j
            · rw [if_pos h5, if_pos (by rw [h5])]
            · rw [if_neg h5, if_neg (by omega)]
          · rw [if_neg h4, if_neg h4, if_neg (by omega)]
      · rw [if_neg h2, get_n, get_n, get_set f b]
        by_cases h3 : j = 0
        · subst h3; rw [if_pos rfl, if_neg h]; rfl
        · rw [if_neg h3, if_neg h3]
          by_cases h4 : j % 2 = 1
          · rw [if_pos h4, if_pos h4, if_neg (by omega)]
          · rw [if_neg h4, if_neg h4]
            by_cases h5 : i = j
            · rw [if_pos h5, if_pos (by rw [h5])]
            · rw [if_neg h5, if_neg (by omega)]
  | f + 1, e, i, o, j => by
    have h := get_set (f + 1) (n e none e) i o j
    rw [set_e, h, get_e2]; rfl
  termination_by f t => (f, match t with | e => 1 | _ => 0)
end Tx
structure Hx where
  n : Nat
  t : Tx
namespace Hx
def get (h : Hx) (i : Nat) : Option Ox := h.t.get i
def put (h : Hx) (i : Nat) (o : Ox) : Hx := ⟨h.n, h.t.set 40 i o⟩
def new (h : Hx) (o : Ox) : Hx := ⟨h.n.succ, h.t.set 40 h.n o⟩
theorem get_put (h : Hx) (i j : Nat) (o : Ox) : (h.put i o).get j = if i = j then some o else h.get j := Tx.get_set 40 h.t i o j
theorem get_new (h : Hx) (j : Nat) (o : Ox) : (h.new o).get j = if h.n = j then some o else h.get j := Tx.get_set 40 h.t h.n o j
theorem n_put (h : Hx) (i : Nat) (o : Ox) : (h.put i o).n = h.n := rfl
theorem n_new (h : Hx) (o : Ox) : (h.new o).n = h.n + 1 := rfl
end Hx
/-! ### relations -/
/-- where the text's defs and classes stand -/
class GA where
  g : Nat → Addr
variable [GA]
/-- the addresses of the virtual objects; what is locked (and stays so) -/
structure Al where
  a : List Addr
  φ : List (Addr × Obj × HO)
def Al.snoc (α : Al) (p : Addr) : Al := ⟨α.a ++ [p], α.φ⟩
def RV (α : Al) : Vx → V → Prop
  | .non, v => v = .non
  | .bl b, v => v = .bl b
  | .int i, v => v = .int i
  | .str s, v => v = .str s
  | .ty n, v => v = .ty n.nm
  | .fn a, v => v = .ref (GA.g a)
  | .ref i, v => ∃ a, α.a[i]? = some a ∧ v = .ref a
abbrev RVs (α : Al) : List Vx → List V → Prop := Paired (RV α)
def RP (α : Al) {κ : Type} (p : κ × Vx) (q : κ × V) : Prop := p.1 = q.1 ∧ RV α p.2 q.2
abbrev RPs (α : Al) {κ : Type} : List (κ × Vx) → List (κ × V) → Prop := Paired (RP α)
def RO (α : Al) : Ox → HO → Prop
  | .lst xs, o => ∃ vs, RVs α xs vs ∧ o = .lst vs
  | .tup xs, o => ∃ vs, RVs α xs vs ∧ o = .tup vs
  | .dK kvs, o => ∃ vs, RPs α kvs vs ∧ o = .dK vs
  | .ins C fs, o => ∃ dx vs, RPs α fs vs ∧ o = .ins (GA.g C) dx vs
  | .lk u, o => ∃ ob p, o = .frz ob p ∧ RO α u p
/-- more addresses are known -/
def Ext (α β : Al) : Prop := ∃ l m, β = ⟨α.a ++ l, m ++ α.φ⟩
theorem Ext.refl (α : Al) : Ext α α := ⟨[], [], by rw [List.append_nil]; rfl⟩
theorem Ext.trans {α β γ : Al} (a : Ext α β) (b : Ext β γ) : Ext α γ := by
  obtain ⟨l, p, rfl⟩ := a
  obtain ⟨m, q, rfl⟩ := b
  exact ⟨l ++ m, q ++ p, by rw [List.append_assoc, List.append_assoc]⟩
theorem Ext.snoc (α : Al) (a : Addr) : Ext α (α.snoc a) := ⟨[a], [], rfl⟩
theorem Ext.get {α β : Al} (e : Ext α β) {i : Nat} {a : Addr} (h : α.a[i]? = some a) : β.a[i]? = some a := by
  obtain ⟨l, m, rfl⟩ := e
  show (α.a ++ l)[i]? = some a
  rw [List.getElem?_append_left (List.getElem?_eq_some_iff.mp h).1]
  exact h
theorem RV.ext {α β : Al} (e : Ext α β) : ∀ {w : Vx} {v : V}, RV α w v → RV β w v
  | .non, _, r => r
  | .bl _, _, r => r
  | .int _, _, r => r
  | .str _, _, r => r
  | .ty _, _, r => r
  | .fn _, _, r => r
  | .ref _, _, ⟨a, h, r⟩ => ⟨a, e.get h, r⟩
theorem RVs.ext {α β : Al} (e : Ext α β) {ws : List Vx} {vs : List V} (r : RVs α ws vs) : RVs β ws vs := Paired.mono (fun _ _ h => h.ext e) r
theorem RP.ext {α β : Al} (e : Ext α β) {κ : Type} {p : κ × Vx} {q : κ × V} (r : RP α p q) : RP β p q := ⟨r.1, r.2.ext e⟩
theorem RPs.ext {α β : Al} (e : Ext α β) {κ : Type} {ws : List (κ × Vx)} {vs : List (κ × V)} (r : RPs α ws vs) : RPs β ws vs := Paired.mono (fun _ _ h => RP.ext e h) r
theorem RO.ext {α β : Al} (e : Ext α β) : ∀ {o : Ox} {p : HO}, RO α o p → RO β o p
  | .lst _, _, ⟨vs, r, h⟩ => ⟨vs, RVs.ext e r, h⟩
  | .tup _, _, ⟨vs, r, h⟩ => ⟨vs, RVs.ext e r, h⟩
  | .dK _, _, ⟨vs, r, h⟩ => ⟨vs, RPs.ext e r, h⟩
  | .ins _ _, _, ⟨dx, vs, r, h⟩ => ⟨dx, vs, RPs.ext e r, h⟩
  | .lk u, _, ⟨ob, p, h, r⟩ => ⟨ob, p, h, RO.ext e (o := u) r⟩
/-- the same addresses -/
theorem RV.same {α β : Al} {w : Vx} {v : V} (r : RV α w v) (e : α.a = β.a) : RV β w v := by
  cases w with
  | ref i =>
    obtain ⟨a, h, q⟩ := r
    exact ⟨a, by rw [← e]; exact h, q⟩
  | _ => exact r
theorem RO.same {α β : Al} (e : α.a = β.a) : ∀ {o : Ox} {p : HO}, RO α o p → RO β o p
  | .lst _, _, ⟨vs, r, h⟩ => ⟨vs, Paired.mono (fun _ _ k => RV.same k e) r, h⟩
  | .tup _, _, ⟨vs, r, h⟩ => ⟨vs, Paired.mono (fun _ _ k => RV.same k e) r, h⟩
  | .dK _, _, ⟨vs, r, h⟩ => ⟨vs, Paired.mono (fun _ _ k => ⟨k.1, RV.same k.2 e⟩) r, h⟩
  | .ins _ _, _, ⟨dx, vs, r, h⟩ => ⟨dx, vs, Paired.mono (fun _ _ k => ⟨k.1, RV.same k.2 e⟩) r, h⟩
  | .lk u, _, ⟨ob, p, h, r⟩ => ⟨ob, p, h, RO.same e (o := u) r⟩
/-- the virtual heap stands for the real one -/
structure HR (α : Al) (h : Hx) (H : Hp) : Prop where
  len : α.a.length = h.n
  nd : α.a.Nodup
  obj : ∀ i a, α.a[i]? = some a → ∃ o p, h.get i = some o ∧ H a = some p ∧ RO α o p
  frz : ∀ p ∈ α.φ, H p.1 = some (.frz p.2.1 p.2.2)
  lk : ∀ i a u, α.a[i]? = some a → h.get i = some (.lk u) → ∃ ob q, H a = some (.frz ob q) ∧ (a, ob, q) ∈ α.φ
theorem HR.at {α : Al} {h : Hx} {H : Hp} (r : HR α h H) {i : Nat} {a : Addr} {o : Ox} (ha : α.a[i]? = some a) (ho : h.get i = some o) : ∃ p, H a = some p ∧ RO α o p := by
  obtain ⟨o', p, h1, h2, h3⟩ := r.obj i a ha
  rw [ho] at h1; cases h1
  exact ⟨p, h2, h3⟩
theorem HR.inj {α : Al} {h : Hx} {H : Hp} (r : HR α h H) {i j : Nat} {a : Addr} (hi : α.a[i]? = some a) (hj : α.a[j]? = some a) : i = j := by
  obtain ⟨li, ei⟩ := List.getElem?_eq_some_iff.mp hi
  obtain ⟨lj, ej⟩ := List.getElem?_eq_some_iff.mp hj
  have p := List.pairwise_iff_getElem.mp r.nd
  rcases Nat.lt_trichotomy i j with q | q | q
  · exact absurd (ei.trans ej.symm) (p i j li lj q)
  · exact q
  · exact absurd (ej.trans ei.symm) (p j i lj li q)
theorem HR.free {α : Al} {h : Hx} {H : Hp} (r : HR α h H) {p : Addr} (hp : H p = none) : p ∉ α.a := fun hm => by
  obtain ⟨i, l, e⟩ := List.getElem_of_mem hm
  obtain ⟨_, q, _, h2, _⟩ := r.obj i p (List.getElem?_eq_some_iff.mpr ⟨l, e⟩)
  rw [hp] at h2; cases h2
/-- a heap that has the same where we look -/
theorem HR.more {α : Al} {h : Hx} {H H' : Hp} (r : HR α h H) (k : ∀ b o, H b = some o → H' b = some o) : HR α h H' :=
  ⟨r.len, r.nd, fun i a ha => by
    obtain ⟨o, p, h1, h2, h3⟩ := r.obj i a ha
    exact ⟨o, p, h1, k _ _ h2, h3⟩, fun p hp => k _ _ (r.frz p hp), fun i a u ha hu => by
    obtain ⟨ob, q, h1, h2⟩ := r.lk i a u ha hu
    exact ⟨ob, q, k _ _ h1, h2⟩⟩
/-- a new object -/
theorem HR.new {α : Al} {h : Hx} {H : Hp} (r : HR α h H) {p : Addr} {o : Ox} {u : HO} (hp : H p = none) (ro : RO α o u) (nl : ∀ v, o ≠ .lk v) : HR (α.snoc p) (h.new o) (upd H p u) := by
  have np := r.free hp
  refine ⟨by show (α.a ++ [p]).length = _; rw [List.length_append, r.len]; rfl, ?_, fun i a ha => ?_, fun q hq => ?_, fun i a v ha hv => ?_⟩
  · show (α.a ++ [p]).Nodup
    rw [List.nodup_append]
    refine ⟨r.nd, by simp, fun x hx y hy => ?_⟩
    rw [List.mem_singleton] at hy
    rw [hy]
    exact fun e => np (e ▸ hx)
  · have ha : (α.a ++ [p])[i]? = some a := ha
    rw [Hx.get_new]
    by_cases hi : i < α.a.length
    · rw [List.getElem?_append_left hi] at ha
      obtain ⟨o', q, h1, h2, h3⟩ := r.obj i a ha
      rw [if_neg (by rw [← r.len]; omega)]
      refine ⟨o', q, h1, ?_, h3.ext (Ext.snoc α p)⟩
      rw [upd_ne fun e => np (by rw [← e]; exact List.mem_of_getElem? ha)]
      exact h2
    · rw [List.getElem?_append_right (Nat.le_of_not_lt hi)] at ha
      have hi2 : i - α.a.length = 0 := by
        cases e : i - α.a.length with
        | zero => rfl
        | succ m => rw [e] at ha; simp at ha
      rw [hi2] at ha
      have hii : i = α.a.length := by omega
      rw [if_pos (by rw [← r.len]; exact hii.symm)]
      injection ha with ha
      subst ha
      exact ⟨o, u, rfl, upd_same, ro.ext (Ext.snoc α p)⟩
  · have z := r.frz q hq
    rw [upd_ne fun e => by rw [e, hp] at z; cases z]
    exact z
  · have ha : (α.a ++ [p])[i]? = some a := ha
    rw [Hx.get_new] at hv
    by_cases hi : i < α.a.length
    · rw [List.getElem?_append_left hi] at ha
      rw [if_neg (by rw [← r.len]; omega)] at hv
      obtain ⟨ob, q, h1, h2⟩ := r.lk i a v ha hv
      refine ⟨ob, q, ?_, h2⟩
      rw [upd_ne fun e => np (by rw [← e]; exact List.mem_of_getElem? ha)]
      exact h1
    · have hii : i = α.a.length := by
        have := (List.getElem?_eq_some_iff.mp ha).1
        rw [List.length_append, List.length_singleton] at this
        omega
      rw [if_pos (by rw [← r.len]; exact hii.symm)] at hv
      cases hv
      exact absurd rfl (nl v)
/-- a changed object -/
theorem HR.put {α : Al} {h : Hx} {H : Hp} (r : HR α h H) {i : Nat} {a : Addr} {o : Ox} {u u0 : HO} (ha : α.a[i]? = some a) (h0 : H a = some u0) (nf : ∀ ob p, u0 ≠ .frz ob p) (ro : RO α o u) (nl : ∀ v, o ≠ .lk v) : HR α (h.put i o) (upd H a u) := by
  refine ⟨r.len, r.nd, fun j b hb => ?_, fun q hq => ?_, fun j b v hb hv => ?_⟩
  · rw [Hx.get_put]
    by_cases e : i = j
    · rw [if_pos e]
      subst e
      rw [ha] at hb
      cases hb
      exact ⟨o, u, rfl, upd_same, ro⟩
    · rw [if_neg e]
      obtain ⟨o', q, h1, h2, h3⟩ := r.obj j b hb
      refine ⟨o', q, h1, ?_, h3⟩
      rw [upd_ne fun z => e (r.inj ha (by rw [← z]; exact hb))]
      exact h2
  · have z := r.frz q hq
    rw [upd_ne fun e => by rw [e, h0] at z; cases z; exact nf _ _ rfl]
    exact z
  · rw [Hx.get_put] at hv
    by_cases e : i = j
    · rw [if_pos e] at hv
      cases hv
      exact absurd rfl (nl v)
    · rw [if_neg e] at hv
      obtain ⟨ob, q, h1, h2⟩ := r.lk j b v hb hv
      refine ⟨ob, q, ?_, h2⟩
      rw [upd_ne fun z => e (r.inj ha (by rw [← z]; exact hb))]
      exact h1
/-! ### slots -/
abbrev Lx := List (Option Vx)
def ROp (α : Al) : Option Vx → Option V → Prop
  | none, _ => True
  | some w, o => ∃ v, o = some v ∧ RV α w v
abbrev RL (α : Al) : Lx → L2.St → Prop := Paired (ROp α)
theorem ROp.ext {α β : Al} (e : Ext α β) : ∀ {w : Option Vx} {v : Option V}, ROp α w v → ROp β w v
  | none, _, r => r
  | some _, _, ⟨v, h, r⟩ => ⟨v, h, r.ext e⟩
theorem RL.ext {α β : Al} (e : Ext α β) {l : Lx} {σ : L2.St} (r : RL α l σ) : RL β l σ := Paired.mono (fun _ _ h => ROp.ext e h) r
theorem RL.same {α β : Al} {l : Lx} {σ : L2.St} (r : RL α l σ) (e : α.a = β.a) : RL β l σ := Paired.mono (fun a b k => by
  cases a with
  | none => exact trivial
  | some w => obtain ⟨v, h, q⟩ := k; exact ⟨v, h, RV.same q e⟩) r
theorem pget {A B : Type} {F : A → B → Prop} : ∀ {xs : List A} {ys : List B} {i : Nat} {x : A}, Paired F xs ys → xs[i]? = some x → ∃ y, ys[i]? = some y ∧ F x y
  | _, _, _, _, .nil, h => by cases h
  | _, _, 0, _, .cons r _, h => by cases h; exact ⟨_, rfl, r⟩
  | _, _, i + 1, _, .cons _ t, h => by
    rw [List.getElem?_cons_succ] at h ⊢
    exact pget t h
theorem pset {A B : Type} {F : A → B → Prop} {x : A} {y : B} (q : F x y) : ∀ {xs : List A} {ys : List B} (i : Nat), Paired F xs ys → Paired F (xs.set i x) (ys.set i y)
  | _, _, _, .nil => .nil
  | _, _, 0, .cons _ t => .cons q t
  | _, _, i + 1, .cons r t => .cons r (pset q i t)
theorem papp {A B : Type} {F : A → B → Prop} : ∀ {xs xs' : List A} {ys ys' : List B}, Paired F xs ys → Paired F xs' ys' → Paired F (xs ++ xs') (ys ++ ys')
  | _, _, _, _, .nil, r => r
  | _, _, _, _, .cons a t, r => .cons a (papp t r)
theorem RL.get {α : Al} {l : Lx} {σ : L2.St} (r : RL α l σ) {i : Nat} {w : Vx} (h : l[i]? = some (some w)) : ∃ v, σ[i]? = some (some v) ∧ RV α w v := by
  obtain ⟨y, h1, v, h2, h3⟩ := pget r h
  exact ⟨v, by rw [h1, h2], h3⟩
theorem RL.set {α : Al} {l : Lx} {σ : L2.St} (r : RL α l σ) (i : Nat) {w : Vx} {v : V} (h : RV α w v) : RL α (l.set i (some w)) (σ.set i (some v)) := pset ⟨v, rfl, h⟩ i r
/-! ### results -/
inductive Rx (A : Type) where
  | ok (a : A) (h : Hx) | exc (c : Vx) (d : Option (List (Str × Vx))) (h : Hx) | stuck
/-- what an exception is -/
def RX (α : Al) (c : Vx) (d : Option (List (Str × Vx))) (cv : Value) (da : Option Addr) (H : Hp) : Prop :=
  (match c with | .fn a => cv = .ref (GA.g a) | .ty n => cv = .type n.nm | _ => False) ∧
  (match d with | none => da = none | some fs => ∃ a vs, da = some a ∧ H a = some (.xd vs) ∧ RPs α fs vs ∧ a ∉ α.a)
/-- what a run with result r wants of the ends -/
def OKg {A B : Type} (R : Al → A → B → Prop) (α : Al) (σ : L2.St) (W : WX) (r : Rx A) (Q : B → Hp → Prop) : Prop :=
  match r with
  | .ok w h => ∀ β v H, Ext α β → HR β h H → R β w v → Q v H
  | .exc c d h => ∀ β cv da H, Ext α β → HR β h H → RX β c d cv da H → W cv da σ H
  | .stuck => False
abbrev OK := OKg (A := Vx) (B := V) RV
abbrev OKs := OKg (A := List Vx) (B := List V) RVs
abbrev OKt := OKg (A := Bool) (B := Bool) (fun _ a b => b = a)
abbrev Ex := Lx → Hx → Rx Vx
abbrev Es := Lx → Hx → Rx (List Vx)
abbrev Et := Lx → Hx → Rx Bool
def tI (W : WX) (m : Ex) : TE := fun σ H Q => ∃ α l h, RL α l σ ∧ HR α h H ∧ OK α σ W (m l h) Q
def tIs (W : WX) (m : Es) : TA := fun σ H Q => ∃ α l h, RL α l σ ∧ HR α h H ∧ OKs α σ W (m l h) Q
def tIt (W : WX) (m : Et) : TT := fun σ H Q => ∃ α l h, RL α l σ ∧ HR α h H ∧ OKt α σ W (m l h) Q
/-- m is what e does -/
abbrev PV (X : Cx) (W : WX) (e : Expr) (m : Ex) : Prop := PE X e (tI W m)
abbrev PVs (X : Cx) (W : WX) (es : List Expr) (m : Es) : Prop := PA X es (tIs W m)
abbrev PVt (X : Cx) (W : WX) (e : Expr) (m : Et) : Prop := PT X e (tIt W m)
abbrev PVw (X : Cx) (W : WX) (e : Expr) (m : Et) : Prop := PW X e (tIt W m)
def Rx.bind {A B : Type} (r : Rx A) (f : A → Hx → Rx B) : Rx B :=
  match r with
  | .ok a h => f a h
  | .exc c d h => .exc c d h
  | .stuck => .stuck
theorem OKg.ext {A B : Type} {R : Al → A → B → Prop} {α β : Al} {σ : L2.St} {W : WX} {r : Rx A} {Q : B → Hp → Prop} (e : Ext α β) (h : OKg R α σ W r Q) : OKg R β σ W r Q := by
  cases r with
  | ok w hx => exact fun γ v H e2 => h γ v H (e.trans e2)
  | exc c d hx => exact fun γ v da H e2 => h γ v da H (e.trans e2)
  | stuck => exact h
/-- the first of two runs -/
theorem OKg.fst {A B C D : Type} {R : Al → A → B → Prop} {R' : Al → C → D → Prop} {α : Al} {σ : L2.St} {W : WX} {r : Rx A} {f : A → Hx → Rx C} {Q : D → Hp → Prop} (ok : OKg R' α σ W (r.bind f) Q) :
    OKg R α σ W r fun v H1 => ∃ w h1 β, r = .ok w h1 ∧ Ext α β ∧ HR β h1 H1 ∧ R β w v ∧ OKg R' β σ W (f w h1) Q := by
  cases e1 : r with
  | ok w h1 =>
    rw [e1] at ok
    exact fun β v H1 x r rv => ⟨w, h1, β, rfl, x, r, rv, OKg.ext x ok⟩
  | exc c d h1 =>
    rw [e1] at ok
    exact ok
  | stuck =>
    rw [e1] at ok
    exact ok
section
variable {X : Cx} {W : WX} {e : Expr} {pins : List (Addr × Obj)} {s : Shared} {σ : L2.St} {H : Hp} {α : Al} {l : Lx} {h : Hx} {C D : Type} {R' : Al → C → D → Prop}
/-- run e, then go on -/
theorem goV {m : Ex} (he : PV X W e m) (I : Inv X pins σ H s) (rl : RL α l σ) (hr : HR α h H) {f : Vx → Hx → Rx C} {Q : D → Hp → Prop} (ok : OKg R' α σ W ((m l h).bind f) Q) {Z : Value → Shared → Prop}
    (k : ∀ w h1 β v H1 s1 u, m l h = .ok w h1 → Ext α β → RL β l σ → HR β h1 H1 → RV β w v → RelV v u → Inv X pins σ H1 s1 → OKg R' β σ W (f w h1) Q → Z u s1) :
    wpAny (model X.prog X.w) X.A (eval e X.env) Z X.xe s := by
  refine thn (he.run pins s σ H _ I ⟨α, l, h, rl, hr, ok.fst⟩) ?_
  rintro u s1 ⟨v, H1, I1, ru, w, h1, β, e1, x, r, rv, ok1⟩
  exact k w h1 β v H1 s1 u e1 x (RL.ext x rl) r rv ru I1 ok1
theorem goVs {es : List Expr} {m : Es} {pos : Pos} (he : PVs X W es m) (I : Inv X pins σ H s) (rl : RL α l σ) (hr : HR α h H) {f : List Vx → Hx → Rx C} {Q : D → Hp → Prop} (ok : OKg R' α σ W ((m l h).bind f) Q) {Z : List Value → Shared → Prop}
    (k : ∀ w h1 β v H1 s1 u, m l h = .ok w h1 → Ext α β → RL β l σ → HR β h1 H1 → RVs β w v → Vals v u → Inv X pins σ H1 s1 → OKg R' β σ W (f w h1) Q → Z u s1) :
    wpAny (model X.prog X.w) X.A (spliced (backTo pos (starEach es X.env))) Z X.xe s := by
  refine thn (he.run pos pins s σ H _ I ⟨α, l, h, rl, hr, ok.fst⟩) ?_
  rintro u s1 ⟨v, H1, I1, ru, w, h1, β, e1, x, r, rv, ok1⟩
  exact k w h1 β v H1 s1 u e1 x (RL.ext x rl) r rv ru I1 ok1
theorem goVt {m : Et} (he : PVt X W e m) (I : Inv X pins σ H s) (rl : RL α l σ) (hr : HR α h H) {f : Bool → Hx → Rx C} {Q : D → Hp → Prop} (ok : OKg R' α σ W ((m l h).bind f) Q) {Z : Bool → Shared → Prop}
    (k : ∀ b h1 β H1 s1, m l h = .ok b h1 → Ext α β → RL β l σ → HR β h1 H1 → Inv X pins σ H1 s1 → OKg R' β σ W (f b h1) Q → Z b s1) :
    wpAny (model X.prog X.w) X.A (PySem.isTrue e X.env (eval e X.env)) Z X.xe s := by
  refine thn (he.run pins s σ H _ I ⟨α, l, h, rl, hr, ok.fst⟩) ?_
  rintro b s1 ⟨H1, I1, w, h1, β, e1, x, r, rfl, ok1⟩
  exact k b h1 β H1 s1 e1 x (RL.ext x rl) r I1 ok1
/-- a value is there -/
theorem fin {w : Vx} {h' : Hx} {H' : Hp} {v : V} {u : Value} {s' : Shared} {Q : VK} (ok : OK α σ W (.ok w h') Q) (I : Inv X pins σ H' s') (hr : HR α h' H') (rv : RV α w v) (ru : RelV v u) : EP X pins σ Q u s' :=
  ⟨v, H', I, ru, ok α v H' (Ext.refl α) hr rv⟩
end
end SV

set_option Elab.async false
set_option linter.all false
set_option maxRecDepth 100000
set_option maxHeartbeats 4800000
/-! expressions and tests: their virtual meaning. -/
namespace SV
open PySem L2 PySem.Spec PyProof.Rows
variable [GA]
/-! ### kinds of operations -/
def Op1 (X : Cx) (W : WX) (f : Value → Sem Value) (g : Vx → Hx → Option (Rx Vx)) : Prop :=
  ∀ (pins : List (Addr × Obj)) (s : Shared) (σ : L2.St) (H : Hp) (Q : VK) (α : Al) (h : Hx) (w : Vx) (v : V) (u : Value) (r : Rx Vx), Inv X pins σ H s → HR α h H → RV α w v → RelV v u → g w h = some r → OK α σ W r Q →
    wpAny (model X.prog X.w) X.A (f u) (EP X pins σ Q) X.xe s
def Op2 (X : Cx) (W : WX) (f : Value → Value → Sem Value) (g : Vx → Vx → Hx → Option (Rx Vx)) : Prop :=
  ∀ (pins : List (Addr × Obj)) (s : Shared) (σ : L2.St) (H : Hp) (Q : VK) (α : Al) (h : Hx) (w w' : Vx) (v v' : V) (u u' : Value) (r : Rx Vx), Inv X pins σ H s → HR α h H → RV α w v → RV α w' v' → RelV v u → RelV v' u' → g w w' h = some r → OK α σ W r Q →
    wpAny (model X.prog X.w) X.A (f u u') (EP X pins σ Q) X.xe s
def OpN (X : Cx) (W : WX) (f : List Value → Sem Value) (g : List Vx → Hx → Option (Rx Vx)) : Prop :=
  ∀ (pins : List (Addr × Obj)) (s : Shared) (σ : L2.St) (H : Hp) (Q : VK) (α : Al) (h : Hx) (w : List Vx) (v : List V) (u : List Value) (r : Rx Vx), Inv X pins σ H s → HR α h H → RVs α w v → Vals v u → g w h = some r → OK α σ W r Q →
    wpAny (model X.prog X.w) X.A (f u) (EP X pins σ Q) X.xe s
/-- the first that fits -/
def pick1 : List (Vx → Hx → Option (Rx Vx)) → Vx → Hx → Rx Vx
  | [], _, _ => .stuck
  | g :: gs, x, h => match g x h with | some r => r | none => pick1 gs x h
def pick2 : List (Vx → Vx → Hx → Option (Rx Vx)) → Vx → Vx → Hx → Rx Vx
  | [], _, _, _ => .stuck
  | g :: gs, x, y, h => match g x y h with | some r => r | none => pick2 gs x y h
def pickN : List (List Vx → Hx → Option (Rx Vx)) → List Vx → Hx → Rx Vx
  | [], _, _ => .stuck
  | g :: gs, x, h => match g x h with | some r => r | none => pickN gs x h
section
variable {X : Cx} {W : WX}
theorem pick1_ok {f : Value → Sem Value} : ∀ {gs : List (Vx → Hx → Option (Rx Vx))}, (∀ g ∈ gs, Op1 X W f g) → Op1 X W f (fun x h => some (pick1 gs x h))
  | [], _ => fun pins s σ H Q α h w v u r _ _ _ _ e ok => by cases e; exact False.elim ok
  | g :: gs, hg => fun pins s σ H Q α h w v u r I hr rv ru e ok => by
    cases e
    cases q : g w h with
    | some r =>
      refine hg g List.mem_cons_self pins s σ H Q α h w v u r I hr rv ru q ?_
      have : pick1 (g :: gs) w h = r := by unfold pick1; rw [q]
      rw [this] at ok
      exact ok
    | none =>
      refine pick1_ok (fun g' m => hg g' (List.mem_cons_of_mem _ m)) pins s σ H Q α h w v u _ I hr rv ru rfl ?_
      have : pick1 (g :: gs) w h = pick1 gs w h := by rw [show pick1 (g :: gs) w h = (match g w h with | some r => r | none => pick1 gs w h) from rfl, q]
      rw [this] at ok
      exact ok
theorem pick2_ok {f : Value → Value → Sem Value} : ∀ {gs : List (Vx → Vx → Hx → Option (Rx Vx))}, (∀ g ∈ gs, Op2 X W f g) → Op2 X W f (fun x y h => some (pick2 gs x y h))
  | [], _ => fun pins s σ H Q α h w w' v v' u u' r _ _ _ _ _ _ e ok => by cases e; exact False.elim ok
  | g :: gs, hg => fun pins s σ H Q α h w w' v v' u u' r I hr rv rv' ru ru' e ok => by
    cases e
    cases q : g w w' h with
    | some r =>
      refine hg g List.mem_cons_self pins s σ H Q α h w w' v v' u u' r I hr rv rv' ru ru' q ?_
      have : pick2 (g :: gs) w w' h = r := by unfold pick2; rw [q]
      rw [this] at ok
      exact ok
    | none =>
      refine pick2_ok (fun g' m => hg g' (List.mem_cons_of_mem _ m)) pins s σ H Q α h w w' v v' u u' _ I hr rv rv' ru ru' rfl ?_
      have : pick2 (g :: gs) w w' h = pick2 gs w w' h := by rw [show pick2 (g :: gs) w w' h = (match g w w' h with | some r => r | none => pick2 gs w w' h) from rfl, q]
      rw [this] at ok
      exact ok
theorem pickN_ok {f : List Value → Sem Value} : ∀ {gs : List (List Vx → Hx → Option (Rx Vx))}, (∀ g ∈ gs, OpN X W f g) → OpN X W f (fun x h => some (pickN gs x h))
  | [], _ => fun pins s σ H Q α h w v u r _ _ _ _ e ok => by cases e; exact False.elim ok
  | g :: gs, hg => fun pins s σ H Q α h w v u r I hr rv ru e ok => by
    cases e
    cases q : g w h with
    | some r =>
      refine hg g List.mem_cons_self pins s σ H Q α h w v u r I hr rv ru q ?_
      have : pickN (g :: gs) w h = r := by unfold pickN; rw [q]
      rw [this] at ok
      exact ok
    | none =>
      refine pickN_ok (fun g' m => hg g' (List.mem_cons_of_mem _ m)) pins s σ H Q α h w v u _ I hr rv ru rfl ?_
      have : pickN (g :: gs) w h = pickN gs w h := by rw [show pickN (g :: gs) w h = (match g w h with | some r => r | none => pickN gs w h) from rfl, q]
      rw [this] at ok
      exact ok
theorem all0 {A : Type} {P : A → Prop} : ∀ g ∈ ([] : List A), P g := fun _ m => nomatch m
theorem allC {A : Type} {P : A → Prop} {x : A} {r : List A} (h : P x) (t : ∀ g ∈ r, P g) : ∀ g ∈ x :: r, P g := fun g m => (List.mem_cons.mp m).elim (fun e => e ▸ h) (t g)
end
/-! ### names, constants -/
def sl : Lx → Nat → Option Vx
  | [], _ => none
  | a :: _, 0 => a
  | _ :: r, i + 1 => sl r i
theorem sl_get : ∀ {l : Lx} {i : Nat} {w : Vx}, sl l i = some w → l[i]? = some (some w)
  | [], _, _, h => by cases h
  | a :: _, 0, w, h => by
    rw [show sl (a :: _) 0 = a from rfl] at h
    rw [h]; rfl
  | _ :: r, i + 1, w, h => by
    rw [List.getElem?_cons_succ]
    exact sl_get h
def var (i : Nat) : Ex := fun l h => match sl l i with | some w => .ok w h | none => .stuck
def cst (w : Vx) : Ex := fun _ h => .ok w h
section
variable {X : Cx} {W : WX} {a b c e : Expr} {ma mb mc : Ex} {pos : Pos}
theorem pv_var (i : Nat) {x : Str} {pos : Pos} (hN : X.N[i]? = some x := by rfl) (hv : Vis X.env.scope x := by first | exact Or.inl rfl | exact Or.inr (Or.inl rfl) | exact Or.inr (Or.inr rfl)) (hd : (x == ("__debug__" : Str)) = false := by decide)
    (hcd : (x == ("__classdict__" : Str)) = false := by decide) : PV X W (.Name x pos) (var i) := by
  refine ⟨fun pins s σ H Q I ⟨α, l, h, rl, hr, ok⟩ => ?_⟩
  refine (pe_var (i := i) hN hv hd hcd).run pins s σ H Q I ?_
  unfold var at ok
  cases e1 : sl l i with
  | none => rw [e1] at ok; exact False.elim ok
  | some w =>
    rw [e1] at ok
    obtain ⟨v, h1, h2⟩ := rl.get (sl_get e1)
    exact ⟨v, h1, ok α v H (Ext.refl α) hr h2⟩
theorem pv_cst {w : Vx} {v : V} (he : PE X e (tC v)) (hv : ∀ α, RV α w v) : PV X W e (cst w) :=
  ⟨fun pins s σ H Q I ⟨α, l, h, rl, hr, ok⟩ => he.run pins s σ H Q I (ok α v H (Ext.refl α) hr (hv α))⟩
theorem pv_int {i : Int} {j pos} : PV X W (.Constant (.int i) j pos) (cst (.int i)) := pv_cst pe_int fun _ => rfl
theorem pv_bl {b : Bool} {j pos} : PV X W (.Constant (.bool b) j pos) (cst (.bl b)) := pv_cst pe_bl fun _ => rfl
theorem pv_non {j pos} : PV X W (.Constant .none j pos) (cst .non) := pv_cst pe_non fun _ => rfl
theorem pv_str {x : Str} {j pos} : PV X W (.Constant (.str x) j pos) (cst (.str x)) := pv_cst pe_str fun _ => rfl
theorem pv_glob {x : Str} {w : Vx} {v : V} {u : Value} (hg : Gl X x) (hm : X.mg x = some u) (r : RelV v u) (hv : ∀ α, RV α w v) (hd : (x == ("__debug__" : Str)) = false := by decide) : PV X W (.Name x pos) (cst w) := pv_cst (pe_glob hg hm r hd) hv
/-- a built-in class as a value -/
theorem pv_ty {x : Str} {T : Tn} (hg : Gl X x) (hm : X.mg x = none) (hv : bootBuiltins x = some (.type T.nm)) (hn : x ≠ "__name__" := by decide) (hd : (x == ("__debug__" : Str)) = false := by decide) : PV X W (.Name x pos) (cst (.ty T)) :=
  pv_cst (pe_bltn (v := .ty T.nm) hg hm hv rfl hn hd) fun _ => rfl
/-! ### operators -/
def un (g : Vx → Hx → Rx Vx) (a : Ex) : Ex := fun l h => (a l h).bind fun x h1 => g x h1
def bin (g : Vx → Vx → Hx → Rx Vx) (a b : Ex) : Ex := fun l h => (a l h).bind fun x h1 => (b l h1).bind fun y h2 => g x y h2
theorem go2 {α : Al} {l : Lx} {h : Hx} {pins : List (Addr × Obj)} {s : Shared} {σ : L2.St} {H : Hp} {g : Vx → Vx → Hx → Rx Vx} {f : Value → Value → Sem Value} {Q : VK} (ho : Op2 X W f fun x y h => some (g x y h)) (ha : PV X W a ma) (hb : PV X W b mb)
    (I : Inv X pins σ H s) (rl : RL α l σ) (hr : HR α h H) (ok : OK α σ W (bin g ma mb l h) Q) :
    wpAny (model X.prog X.w) X.A (eval a X.env) (fun u s₁ => wpAny (model X.prog X.w) X.A (eval b X.env) (fun u' s₂ => wpAny (model X.prog X.w) X.A (f u u') (EP X pins σ Q) X.xe s₂) X.xe s₁) X.xe s := by
  refine goV ha I rl hr ok fun w h1 β v H1 s1 u e1 x1 rl1 hr1 rv1 ru1 I1 ok1 => ?_
  refine goV hb I1 rl1 hr1 ok1 fun w' h2 γ v' H2 s2 u' e2 x2 rl2 hr2 rv2 ru2 I2 ok2 => ?_
  exact ho pins s2 σ H2 Q γ h2 w w' v v' u u' _ I2 hr2 (rv1.ext x2) rv2 ru1 ru2 rfl ok2
theorem pv_op {op : Operator} {g : Vx → Vx → Hx → Rx Vx} (ho : Op2 X W (binaryOp op) fun x y h => some (g x y h)) (ha : PV X W a ma) (hb : PV X W b mb) : PV X W (.BinOp a op b pos) (bin g ma mb) :=
  ⟨fun pins s σ H Q I ⟨α, l, h, rl, hr, ok⟩ => wpAny_BinOp (go2 ho ha hb I rl hr ok)⟩
theorem pv_un {op : UnaryOp} {g : Vx → Hx → Rx Vx} (ho : Op1 X W (unaryOp op) fun x h => some (g x h)) (ha : PV X W a ma) : PV X W (.UnaryOp op a pos) (un g ma) :=
  ⟨fun pins s σ H Q I ⟨α, l, h, rl, hr, ok⟩ => UnaryOp_ (goV ha I rl hr ok fun w h1 β v H1 s1 u e1 x1 rl1 hr1 rv1 ru1 I1 ok1 => ho pins s1 σ H1 Q β h1 w v u _ I1 hr1 rv1 ru1 rfl ok1)⟩
theorem pv_cmp {op : CmpOp} {g : Vx → Vx → Hx → Rx Vx} (ho : Op2 X W (compareOp op) fun x y h => some (g x y h)) (ha : PV X W a ma) (hb : PV X W b mb) (hm : behindInMarks op b = false) : PV X W (.Compare a [op] [b] pos) (bin g ma mb) :=
  ⟨fun pins s σ H Q I ⟨α, l, h, rl, hr, ok⟩ => wpAny_Compare1 (go2 ho ha hb I rl hr ok) hm⟩
/-! ### truth -/
def sline : Nat := 16777216
theorem sline_is : sizeLine = sline := sizeLine_eq
def truO : Ox → Option Bool
  | .lst xs => some (!xs.isEmpty)
  | .tup xs => some (!xs.isEmpty)
  | .dK kvs => some (!kvs.isEmpty)
  | _ => none
def tru : Vx → Hx → Option Bool
  | .non, _ => some false
  | .bl b, _ => some b
  | .int i, _ => some (i != 0)
  | .str y, _ => bif Nat.ble y.length sline then some ((y.length : Int) != 0) else none
  | .ref i, h => match h.get i with | some o => truO o | none => none
  | _, _ => none
theorem emp {A B : Type} {F : A → B → Prop} {xs : List A} {ys : List B} (r : Paired F xs ys) : xs.isEmpty = ys.isEmpty := by cases r <;> rfl
theorem tru_is {α : Al} {h : Hx} {H : Hp} {K : PySem.W.Frag} (hr : HR α h H) : ∀ {w : Vx} {v : V} {k : Bool}, RV α w v → tru w h = some k → TruV K v H k
  | .non, _, _, r, e => by cases r; cases e; rfl
  | .bl _, _, _, r, e => by cases r; cases e; rfl
  | .int _, _, _, r, e => by cases r; cases e; rfl
  | .str y, _, _, r, e => by
    cases r
    have e : (bif Nat.ble y.length sline then some ((y.length : Int) != 0) else none) = some _ := e
    cases q : Nat.ble y.length sline with
    | false => rw [q] at e; cases e
    | true =>
      rw [q] at e
      cases e
      exact ⟨by rw [sline_is]; exact Nat.le_of_ble_eq_true q, rfl⟩
  | .ref i, _, _, r, e => by
    obtain ⟨a, ha, rfl⟩ := r
    have e : (match h.get i with | some o => truO o | none => none) = some _ := e
    cases q : h.get i with
    | none => (rw [q] at e; cases e)
    | some o =>
      rw [q] at e
      obtain ⟨p, hp, ro⟩ := hr.at ha q
      cases o with
      | lst xs =>
        cases e
        obtain ⟨vs, rs, rfl⟩ := ro
        exact .inl ⟨vs, SqL.of hp, by rw [emp rs]⟩
      | tup xs =>
        cases e
        obtain ⟨vs, rs, rfl⟩ := ro
        exact .inr (.inl ⟨vs, SqT.of hp, by rw [emp rs]⟩)
      | dK xs =>
        cases e
        obtain ⟨vs, rs, rfl⟩ := ro
        exact .inr (.inr ⟨vs, hp, by rw [emp rs]⟩)
      | ins C fs => cases e
      | lk u => cases e
  | .fn _, _, _, _, e => by cases e
  | .ty _, _, _, _, e => by cases e
def tv (m : Ex) : Et := fun l h => (m l h).bind fun x h1 => match tru x h1 with | some k => .ok k h1 | none => .stuck
theorem truthy_V {pins : List (Addr × Obj)} {s : Shared} {σ : L2.St} {H : Hp} {α : Al} {h : Hx} {w : Vx} {v : V} {u : Value} {C D : Type} {R : Al → C → D → Prop} {r : Bool → Rx C} {Q : D → Hp → Prop} {Z : Bool → Shared → Prop} (I : Inv X pins σ H s) (hr : HR α h H) (rv : RV α w v) (ru : RelV v u)
    (ok : OKg R α σ W (match tru w h with | some k => r k | none => .stuck) Q) (k : ∀ b s1, Inv X pins σ H s1 → OKg R α σ W (r b) Q → Z b s1) : wpAny (model X.prog X.w) X.A (truthy u) Z X.xe s := by
  cases q : tru w h with
  | none => rw [q] at ok; exact False.elim ok
  | some b =>
    rw [q] at ok
    refine thn (tru_ok pins s σ H v u (fun c H2 => c = b ∧ H2 = H) I ru ⟨b, tru_is hr rv q, rfl, rfl⟩) ?_
    rintro c s1 ⟨H2, I2, rfl, rfl⟩
    exact k c s1 I2 ok
theorem tt_val (he : PV X W e ma) (hp : ∀ whole, isTrue e X.env whole = (do let v ← whole; standAt e.pos; holding [v] (truthy v)) := by intro _; rfl) : PVt X W e (tv ma) :=
  ⟨fun pins s σ H Q I ⟨α, l, h, rl, hr, ok⟩ => isTrue_plain (goV he I rl hr ok fun w h1 β v H1 s1 u e1 x1 rl1 hr1 rv1 ru1 I1 ok1 =>
    truthy_V I1 hr1 rv1 ru1 ok1 fun b s2 I2 ok2 => ⟨H1, I2, ok2 β b H1 (Ext.refl β) hr1 rfl⟩) (hp _)⟩
theorem tt_cmp {op : CmpOp} {g : Vx → Vx → Hx → Rx Vx} (ho : Op2 X W (compareOp op) fun x y h => some (g x y h)) (ha : PV X W a ma) (hb : PV X W b mb) (hm : behindInMarks op b = false) : PVt X W (.Compare a [op] [b] pos) (tv (bin g ma mb)) := by
  refine ⟨fun pins s σ H Q I ⟨α, l, h, rl, hr, ok⟩ => ?_⟩
  have ok' := OKg.fst (R := RV) ok
  refine wpAny_isTrue_Compare1 (thn (go2 ho ha hb I rl hr ok') fun u s1 h1 => thn h1 fun u' s2 h2 => thn h2 fun z s3 q3 => ?_) hm
  obtain ⟨v, H1, I1, ru, w, hx, β, e1, x, hr1, rv, ok1⟩ := q3
  exact truthy_V I1 hr1 rv ru ok1 fun b s2 I2 ok2 => ⟨H1, I2, ok2 β b H1 (Ext.refl β) hr1 rfl⟩
def tand (t u : Et) : Et := fun l h => (t l h).bind fun b h1 => bif b then u l h1 else .ok false h1
def tor (t u : Et) : Et := fun l h => (t l h).bind fun b h1 => bif b then .ok true h1 else u l h1
def tnot (t : Et) : Et := fun l h => (t l h).bind fun b h1 => .ok (!b) h1
variable {ta tb : Et} {rest : List Expr}
theorem tw_and1 (ha : PVt X W a ta) : PVw X W (.BoolOp .And [a] pos) ta := pw_and1 ha
theorem tw_or1 (ha : PVt X W a ta) : PVw X W (.BoolOp .Or [a] pos) ta := pw_or1 ha
theorem tw_and (ha : PVt X W a ta) (hb : PVw X W (.BoolOp .And (b :: rest) pos) tb) : PVw X W (.BoolOp .And (a :: b :: rest) pos) (tand ta tb) := by
  refine ⟨fun wh pins s σ H Q I ⟨α, l, h, rl, hr, ok⟩ => isTrue_and (goVt ha I rl hr ok fun d h1 β H1 s1 e1 x1 rl1 hr1 I1 ok1 => ?_)⟩
  cases d with
  | true => exact hb.run wh pins s1 σ H1 Q I1 ⟨β, l, h1, rl1, hr1, ok1⟩
  | false => exact ⟨H1, I1, ok1 β false H1 (Ext.refl β) hr1 rfl⟩
theorem tw_or (ha : PVt X W a ta) (hb : PVw X W (.BoolOp .Or (b :: rest) pos) tb) : PVw X W (.BoolOp .Or (a :: b :: rest) pos) (tor ta tb) := by
  refine ⟨fun wh pins s σ H Q I ⟨α, l, h, rl, hr, ok⟩ => isTrue_or (goVt ha I rl hr ok fun d h1 β H1 s1 e1 x1 rl1 hr1 I1 ok1 => ?_)⟩
  cases d with
  | false => exact hb.run wh pins s1 σ H1 Q I1 ⟨β, l, h1, rl1, hr1, ok1⟩
  | true => exact ⟨H1, I1, ok1 β true H1 (Ext.refl β) hr1 rfl⟩
theorem tt_w (h : PVw X W e ta) : PVt X W e ta := h.pt
theorem tt_not (ha : PVt X W a ta) : PVt X W (.UnaryOp .Not a pos) (tnot ta) :=
  ⟨fun pins s σ H Q I ⟨α, l, h, rl, hr, ok⟩ => isTrue_not (goVt ha I rl hr ok fun d h1 β H1 s1 e1 x1 rl1 hr1 I1 ok1 => ⟨H1, I1, ok1 β (!d) H1 (Ext.refl β) hr1 rfl⟩)⟩
/-! ### and, or, not, if-else as values -/
def vand (a b : Ex) : Ex := fun l h => (a l h).bind fun x h1 => match tru x h1 with | some k => bif k then b l h1 else .ok x h1 | none => .stuck
def vor (a b : Ex) : Ex := fun l h => (a l h).bind fun x h1 => match tru x h1 with | some k => bif k then .ok x h1 else b l h1 | none => .stuck
def vnot (a : Ex) : Ex := fun l h => (a l h).bind fun x h1 => match tru x h1 with | some k => .ok (.bl (!k)) h1 | none => .stuck
def vif (t : Et) (a b : Ex) : Ex := fun l h => (t l h).bind fun k h1 => bif k then a l h1 else b l h1
theorem pv_one {op} (h : PV X W a ma) : PV X W (.BoolOp op [a] pos) ma := pe_one h
theorem pv_and (ha : PV X W a ma) (hb : PV X W (.BoolOp .And (b :: rest) pos) mb) : PV X W (.BoolOp .And (a :: b :: rest) pos) (vand ma mb) := by
  refine ⟨fun pins s σ H Q I ⟨α, l, h, rl, hr, ok⟩ => BoolOp_and (goV ha I rl hr ok fun w h1 β v H1 s1 u e1 x1 rl1 hr1 rv1 ru1 I1 ok1 => ?_)⟩
  refine truthy_V (r := fun k => bif k then mb l h1 else .ok w h1) I1 hr1 rv1 ru1 ok1 fun k s2 I2 ok2 => ?_
  cases k with
  | true => exact hb.run pins s2 σ H1 Q I2 ⟨β, l, h1, rl1, hr1, ok2⟩
  | false => exact fin ok2 I2 hr1 rv1 ru1
theorem pv_or (ha : PV X W a ma) (hb : PV X W (.BoolOp .Or (b :: rest) pos) mb) : PV X W (.BoolOp .Or (a :: b :: rest) pos) (vor ma mb) := by
  refine ⟨fun pins s σ H Q I ⟨α, l, h, rl, hr, ok⟩ => BoolOp_or (goV ha I rl hr ok fun w h1 β v H1 s1 u e1 x1 rl1 hr1 rv1 ru1 I1 ok1 => ?_)⟩
  refine truthy_V (r := fun k => bif k then .ok w h1 else mb l h1) I1 hr1 rv1 ru1 ok1 fun k s2 I2 ok2 => ?_
  cases k with
  | false => exact hb.run pins s2 σ H1 Q I2 ⟨β, l, h1, rl1, hr1, ok2⟩
  | true => exact fin ok2 I2 hr1 rv1 ru1
theorem pv_not (ha : PV X W a ma) : PV X W (.UnaryOp .Not a pos) (vnot ma) := by
  refine ⟨fun pins s σ H Q I ⟨α, l, h, rl, hr, ok⟩ => UnaryOp_ (goV ha I rl hr ok fun w h1 β v H1 s1 u e1 x1 rl1 hr1 rv1 ru1 I1 ok1 => not_of ?_)⟩
  exact truthy_V (R := RV) (r := fun k => Rx.ok (Vx.bl (!k)) h1) I1 hr1 rv1 ru1 ok1 fun k s2 I2 ok2 => fin (w := Vx.bl (!k)) (v := V.bl (!k)) ok2 I2 hr1 rfl rfl
theorem pv_if (ht : PVt X W c ta) (ha : PV X W a ma) (hb : PV X W b mb) : PV X W (.IfExp c a b pos) (vif ta ma mb) := by
  refine ⟨fun pins s σ H Q I ⟨α, l, h, rl, hr, ok⟩ => wpAny_IfExp (goVt ht I rl hr ok fun d h1 β H1 s1 e1 x1 rl1 hr1 I1 ok1 => ?_)⟩
  cases d with
  | true => exact ha.run pins s1 σ H1 Q I1 ⟨β, l, h1, rl1, hr1, ok1⟩
  | false => exact hb.run pins s1 σ H1 Q I1 ⟨β, l, h1, rl1, hr1, ok1⟩
/-! ### a < b < c -/
def chain (g g' : Vx → Vx → Hx → Rx Vx) (a b c : Ex) : Ex := fun l h => (a l h).bind fun x h1 => (b l h1).bind fun y h2 => (g x y h2).bind fun z h3 => match tru z h3 with
  | some k => bif k then (c l h3).bind fun w h4 => g' y w h4 else .ok z h3
  | none => .stuck
theorem pv_chain {op op' : CmpOp} {g g' : Vx → Vx → Hx → Rx Vx} (ho : Op2 X W (compareOp op) fun x y h => some (g x y h)) (ho' : Op2 X W (compareOp op') fun x y h => some (g' x y h)) (ha : PV X W a ma) (hb : PV X W b mb) (hc : PV X W c mc)
    (hm : lastMarks [op, op'] [b, c] = false := by with_unfolding_all rfl) : PV X W (.Compare a [op, op'] [b, c] pos) (chain g g' ma mb mc) := by
  refine ⟨fun pins s σ H Q I ⟨α, l, h, rl, hr, ok⟩ => Compare_chain (goV ha I rl hr ok fun w h1 β v H1 s1 u e1 x1 rl1 hr1 rv1 ru1 I1 ok1 => chain_link (goV hb I1 rl1 hr1 ok1 fun w' h2 γ v' H2 s2 u' e2 x2 rl2 hr2 rv2 ru2 I2 ok2 => ?_)) hm⟩
  refine thn (ho pins s2 σ H2 _ γ h2 w w' v v' u u' _ I2 hr2 (rv1.ext x2) rv2 ru1 ru2 rfl (OKg.fst (R := RV) ok2)) fun d s3 q3 => ?_
  obtain ⟨z, H3, I3, rz, wz, h3, δ, e3, x3, hr3, rvz, ok3⟩ := q3
  refine truthy_V (r := fun k => bif k then (mc l h3).bind fun w h4 => g' w' w h4 else .ok wz h3) I3 hr3 rvz rz ok3 fun k s4 I4 ok4 => ?_
  cases k with
  | false => exact ite_ff (fin ok4 I4 hr3 rvz rz)
  | true =>
    refine ite_tt (chain_last (goV hc I4 (RL.ext x3 rl2) hr3 ok4 fun w5 h5 ε v5 H5 s5 u5 e5 x5 rl5 hr5 rv5 ru5 I5 ok5 => ?_))
    exact ho' pins s5 σ H5 Q ε h5 w' w5 v' v5 u' u5 _ I5 hr5 (rv2.ext (x3.trans x5)) rv5 ru2 ru5 rfl ok5
def tvr (x : Vx) (h : Hx) : Rx Bool := match tru x h with | some k => .ok k h | none => .stuck
def tchain (g g' : Vx → Vx → Hx → Rx Vx) (a b c : Ex) : Et := fun l h => (a l h).bind fun x h1 => (b l h1).bind fun y h2 => (g x y h2).bind fun z h3 => match tru z h3 with
  | some k => bif k then (c l h3).bind fun w h4 => (g' y w h4).bind tvr else .ok false h3
  | none => .stuck
theorem tt_chain {op op' : CmpOp} {g g' : Vx → Vx → Hx → Rx Vx} (ho : Op2 X W (compareOp op) fun x y h => some (g x y h)) (ho' : Op2 X W (compareOp op') fun x y h => some (g' x y h)) (ha : PV X W a ma) (hb : PV X W b mb) (hc : PV X W c mc)
    (hm : lastMarks [op, op'] [b, c] = false := by with_unfolding_all rfl) : PVt X W (.Compare a [op, op'] [b, c] pos) (tchain g g' ma mb mc) := by
  refine ⟨fun pins s σ H Q I ⟨α, l, h, rl, hr, ok⟩ => ?_⟩
  refine isTrue_chain (goV ha I rl hr ok fun w h1 β v H1 s1 u e1 x1 rl1 hr1 rv1 ru1 I1 ok1 => test_link (goV hb I1 rl1 hr1 ok1 fun w' h2 γ v' H2 s2 u' e2 x2 rl2 hr2 rv2 ru2 I2 ok2 => ?_)) hm
  refine thn (ho pins s2 σ H2 _ γ h2 w w' v v' u u' _ I2 hr2 (rv1.ext x2) rv2 ru1 ru2 rfl (OKg.fst (R := RV) ok2)) fun d s3 q3 => ?_
  obtain ⟨z, H3, I3, rz, wz, h3, δ, e3, x3, hr3, rvz, ok3⟩ := q3
  refine truthy_V (r := fun k => bif k then (mc l h3).bind fun w h4 => (g' w' w h4).bind tvr else .ok false h3) I3 hr3 rvz rz ok3 fun k s4 I4 ok4 => ?_
  cases k with
  | false => exact ite_ff ⟨H3, I4, ok4 δ false H3 (Ext.refl δ) hr3 rfl⟩
  | true =>
    refine ite_tt (test_last (goV hc I4 (RL.ext x3 rl2) hr3 ok4 fun w5 h5 ε v5 H5 s5 u5 e5 x5 rl5 hr5 rv5 ru5 I5 ok5 => ?_))
    refine thn (ho' pins s5 σ H5 _ ε h5 w' w5 v' v5 u' u5 _ I5 hr5 (rv2.ext (x3.trans x5)) rv5 ru2 ru5 rfl (OKg.fst (R := RV) ok5)) fun d' s6 q6 => ?_
    obtain ⟨z6, H6, I6, rz6, wz6, h6, δ6, e6, x6, hr6, rvz6, ok6⟩ := q6
    exact truthy_V I6 hr6 rvz6 rz6 ok6 fun b s7 I7 ok7 => ⟨H6, I7, ok7 δ6 b H6 (Ext.refl δ6) hr6 rfl⟩
end
end SV

set_option Elab.async false
set_option linter.all false
set_option maxRecDepth 100000
set_option maxHeartbeats 4800000
/-! statements: their virtual meaning. -/
namespace SV
open PySem L2 PySem.Spec PyProof.Rows
variable [GA]
theorem OKg.mono {A B : Type} {R : Al → A → B → Prop} {α : Al} {σ : L2.St} {W : WX} {r : Rx A} {Q Q' : B → Hp → Prop} (h : OKg R α σ W r Q) (m : ∀ v H, Q v H → Q' v H) : OKg R α σ W r Q' := by
  cases r with
  | ok w hx => exact fun β v H e r1 r2 => m _ _ (h β v H e r1 r2)
  | exc c d hx => exact h
  | stuck => exact h
inductive Sx where
  | nx (l : Lx) (h : Hx) | ret (w : Vx) (h : Hx) | brk (l : Lx) (h : Hx) | cont (l : Lx) (h : Hx) | exc (c : Vx) (d : Option (List (Str × Vx))) (l : Lx) (h : Hx) | stuck
def OKS (α : Al) (W : WX) (r : Sx) (D : Ends) : Prop :=
  match r with
  | .nx l h => ∀ β σ H, Ext α β → RL β l σ → HR β h H → D.nx σ H
  | .ret w h => ∀ β v H, Ext α β → HR β h H → RV β w v → D.rt v H
  | .brk l h => ∀ β σ H, Ext α β → RL β l σ → HR β h H → D.bk σ H
  | .cont l h => ∀ β σ H, Ext α β → RL β l σ → HR β h H → D.ct σ H
  | .exc c d l h => ∀ β σ cv da H, Ext α β → RL β l σ → HR β h H → RX β c d cv da H → W cv da σ H
  | .stuck => False
abbrev Ms := Lx → Hx → Sx
def tS (W : WX) (m : Ms) : TS := fun D σ H => ∃ α l h, RL α l σ ∧ HR α h H ∧ OKS α W (m l h) D
abbrev PVS (X : Cx) (W : WX) (st : Stmt) (m : Ms) : Prop := PS X st (tS W m)
abbrev PVSs (X : Cx) (W : WX) (st : List Stmt) (m : Ms) : Prop := PSs X st (tS W m)
theorem OKS.ext {α β : Al} {W : WX} {r : Sx} {D : Ends} (e : Ext α β) (h : OKS α W r D) : OKS β W r D := by
  cases r with
  | nx l hx => exact fun γ σ H e2 => h γ σ H (e.trans e2)
  | ret w hx => exact fun γ v H e2 => h γ v H (e.trans e2)
  | brk l hx => exact fun γ σ H e2 => h γ σ H (e.trans e2)
  | cont l hx => exact fun γ σ H e2 => h γ σ H (e.trans e2)
  | exc c d l hx => exact fun γ σ cv da H e2 => h γ σ cv da H (e.trans e2)
  | stuck => exact h
/-- an expression's run in a statement -/
def Rx.st {A : Type} (r : Rx A) (l : Lx) (f : A → Hx → Sx) : Sx :=
  match r with
  | .ok a h => f a h
  | .exc c d h => .exc c d l h
  | .stuck => .stuck
theorem OKS.fst {A B : Type} {R : Al → A → B → Prop} {α : Al} {σ : L2.St} {l : Lx} {W : WX} {r : Rx A} {f : A → Hx → Sx} {D : Ends} (rl : RL α l σ) (ok : OKS α W (r.st l f) D) :
    OKg R α σ W r fun v H1 => ∃ w h1 β, r = .ok w h1 ∧ Ext α β ∧ HR β h1 H1 ∧ R β w v ∧ OKS β W (f w h1) D := by
  cases e1 : r with
  | ok w h1 =>
    rw [e1] at ok
    exact fun β v H1 x r rv => ⟨w, h1, β, rfl, x, r, rv, OKS.ext x ok⟩
  | exc c d h1 =>
    rw [e1] at ok
    exact fun β cv da H1 x r rx => ok β σ cv da H1 x (RL.ext x rl) r rx
  | stuck =>
    rw [e1] at ok
    exact ok
section
variable {X : Cx} {W : WX} {e : Expr} {pins : List (Addr × Obj)} {s : Shared} {σ : L2.St} {H : Hp} {α : Al} {l : Lx} {h : Hx}
theorem goS {m : Ex} (he : PV X W e m) (I : Inv X pins σ H s) (rl : RL α l σ) (hr : HR α h H) {f : Vx → Hx → Sx} {D : Ends} (ok : OKS α W ((m l h).st l f) D) {Z : Value → Shared → Prop}
    (k : ∀ w h1 β v H1 s1 u, Ext α β → RL β l σ → HR β h1 H1 → RV β w v → RelV v u → Inv X pins σ H1 s1 → OKS β W (f w h1) D → Z u s1) :
    wpAny (model X.prog X.w) X.A (eval e X.env) Z X.xe s := by
  refine thn (he.run pins s σ H _ I ⟨α, l, h, rl, hr, ok.fst rl⟩) ?_
  rintro u s1 ⟨v, H1, I1, ru, w, h1, β, e1, x, r, rv, ok1⟩
  exact k w h1 β v H1 s1 u x (RL.ext x rl) r rv ru I1 ok1
theorem goSt {m : Et} (he : PVt X W e m) (I : Inv X pins σ H s) (rl : RL α l σ) (hr : HR α h H) {f : Bool → Hx → Sx} {D : Ends} (ok : OKS α W ((m l h).st l f) D) {Z : Bool → Shared → Prop}
    (k : ∀ b h1 β H1 s1, Ext α β → RL β l σ → HR β h1 H1 → Inv X pins σ H1 s1 → OKS β W (f b h1) D → Z b s1) :
    wpAny (model X.prog X.w) X.A (PySem.isTrue e X.env (eval e X.env)) Z X.xe s := by
  refine thn (he.run pins s σ H _ I ⟨α, l, h, rl, hr, ok.fst rl⟩) ?_
  rintro b s1 ⟨H1, I1, w, h1, β, e1, x, r, rfl, ok1⟩
  exact k b h1 β H1 s1 x (RL.ext x rl) r I1 ok1
end
/-- the same reading, more wanted -/
theorem ps_weak {X : Cx} {st : Stmt} {t t' : TS} (h : PS X st t) (w : ∀ D σ H, t' D σ H → t D σ H) : PS X st t' := ⟨fun pins s σ H D I q => h.run pins s σ H D I (w D σ H q)⟩
theorem pe_weak {X : Cx} {e : Expr} {t t' : TE} (h : PE X e t) (w : ∀ σ H Q, t' σ H Q → t σ H Q) : PE X e t' := ⟨fun pins s σ H Q I q => h.run pins s σ H Q I (w σ H Q q)⟩
/-! ### blocks -/
def mnx : Ms := fun l h => .nx l h
def mseq (m n : Ms) : Ms := fun l h => match m l h with
  | .nx l1 h1 => n l1 h1
  | .ret w h1 => .ret w h1
  | .brk l1 h1 => .brk l1 h1
  | .cont l1 h1 => .cont l1 h1
  | .exc c d l1 h1 => .exc c d l1 h1
  | .stuck => .stuck
section
variable {X : Cx} {W : WX} {st : Stmt} {rest : List Stmt} {m n : Ms} {e : Expr} {me : Ex} {pos : Pos}
theorem svs_nil : PVSs X W [] mnx := ⟨fun pins s σ H D I ⟨α, l, h, rl, hr, ok⟩ => wpAny_execs_nil ⟨σ, H, I, ok α σ H (Ext.refl α) rl hr⟩⟩
theorem seq_read {D : Ends} {σ : L2.St} {H : Hp} (q : tS W (mseq m n) D σ H) : tSeq (tS W m) (tS W n) D σ H := by
  obtain ⟨α, l, h, rl, hr, ok⟩ := q
  refine ⟨α, l, h, rl, hr, ?_⟩
  unfold mseq at ok
  cases e1 : m l h with
  | nx l1 h1 => rw [e1] at ok; exact fun β σ1 H1 x rl1 hr1 => ⟨β, l1, h1, rl1, hr1, OKS.ext x ok⟩
  | ret w h1 => rw [e1] at ok; exact ok
  | brk l1 h1 => rw [e1] at ok; exact ok
  | cont l1 h1 => rw [e1] at ok; exact ok
  | exc c d l1 h1 => rw [e1] at ok; exact ok
  | stuck => rw [e1] at ok; exact ok
theorem svs_cons (h1 : PVS X W st m) (h2 : PVSs X W rest n) : PVSs X W (st :: rest) (mseq m n) :=
  ⟨fun pins s σ H D I q => (pss_cons h1 h2).run pins s σ H D I (seq_read q)⟩
theorem svs_one (h1 : PVS X W st m) : PVSs X W [st] m := pss_one h1
theorem sv_pass : PVS X W (.Pass pos) mnx := ps_weak ps_pass fun D σ H ⟨α, l, h, rl, hr, ok⟩ => ok α σ H (Ext.refl α) rl hr
def mbrk : Ms := fun l h => .brk l h
def mcont : Ms := fun l h => .cont l h
theorem sv_break : PVS X W (.Break pos) mbrk := ps_weak ps_break fun D σ H ⟨α, l, h, rl, hr, ok⟩ => ok α σ H (Ext.refl α) rl hr
theorem sv_cont : PVS X W (.Continue pos) mcont := ps_weak ps_continue fun D σ H ⟨α, l, h, rl, hr, ok⟩ => ok α σ H (Ext.refl α) rl hr
def mexp (m : Ex) : Ms := fun l h => (m l h).st l fun _ h1 => .nx l h1
theorem sv_expr (he : PV X W e me) (hs : swapsWith e none pos.line X.env = pure false := by rfl) : PVS X W (.Expr e pos) (mexp me) := by
  refine ps_weak (ps_expr he hs) fun D σ H ⟨α, l, h, rl, hr, ok⟩ => ⟨α, l, h, rl, hr, OKg.mono (ok.fst (R := RV) rl) ?_⟩
  rintro v H1 ⟨w, h1, β, e1, x, r, rv, ok1⟩
  exact ok1 β σ H1 (Ext.refl β) (RL.ext x rl) r
def mret (m : Ex) : Ms := fun l h => (m l h).st l fun w h1 => .ret w h1
theorem sv_ret (he : PV X W e me) : PVS X W (.Return (some e) pos) (mret me) := by
  refine ps_weak (ps_ret he) fun D σ H ⟨α, l, h, rl, hr, ok⟩ => ⟨α, l, h, rl, hr, OKg.mono (ok.fst (R := RV) rl) ?_⟩
  rintro v H1 ⟨w, h1, β, e1, x, r, rv, ok1⟩
  exact ok1 β v H1 (Ext.refl β) r rv
def mretN : Ms := fun l h => .ret .non h
theorem sv_retN : PVS X W (.Return none pos) mretN := ps_weak ps_retN fun D σ H ⟨α, l, h, rl, hr, ok⟩ => ok α .non H (Ext.refl α) hr rfl
def mif (t : Et) (m n : Ms) : Ms := fun l h => (t l h).st l fun b h1 => bif b then m l h1 else n l h1
theorem sv_if {c : Expr} {a b : List Stmt} {t : Et} (hc : PVt X W c t) (ha : PVSs X W a m) (hb : PVSs X W b n) : PVS X W (.If c a b pos) (mif t m n) := by
  refine ps_weak (ps_if hc ha hb) fun D σ H ⟨α, l, h, rl, hr, ok⟩ => ⟨α, l, h, rl, hr, OKg.mono (ok.fst (R := fun _ a b => b = a) rl) ?_⟩
  rintro v H1 ⟨w, h1, β, e1, x, r, rfl, ok1⟩
  cases v with
  | true => rw [if_pos rfl]; exact ⟨β, l, h1, RL.ext x rl, r, ok1⟩
  | false => rw [if_neg (Bool.false_ne_true)]; exact ⟨β, l, h1, RL.ext x rl, r, ok1⟩
/-! ### targets -/
abbrev Gx := Vx → Ms
def tG (W : WX) (g : Gx) : TG := fun v σ H Q => ∃ α l h w, RL α l σ ∧ HR α h H ∧ RV α w v ∧ OKS α W (g w l h) { nx := Q, rt := fun _ _ => False }
abbrev PVG (X : Cx) (W : WX) (tg : Expr) (g : Gx) : Prop := PG X tg (tG W g)
def gset (i : Nat) : Gx := fun w l h => .nx (l.set i (some w)) h
theorem pg_weak {tg : Expr} {t t' : TG} (h : PG X tg t) (w : ∀ v σ H Q, t' v σ H Q → t v σ H Q) : PG X tg t' := ⟨fun pins s σ H v u Q I r q => h.run pins s σ H v u Q I r (w v σ H Q q)⟩
theorem gv_name {i : Nat} {x : Str} (hN : X.N.Nodup) (hi : X.N[i]? = some x) (hx : L2.Loc X.env.scope x) (hf : X.fn x = true ∨ X.env.scope.names.lookup x = some .local := by first | exact .inl rfl | exact .inr rfl | assumption) : PVG X W (.Name x pos) (gset i) :=
  pg_weak (pg_name hN hi hx hf) fun v σ H Q ⟨α, l, h, w, rl, hr, rv, ok⟩ => ok α _ H (Ext.refl α) (RL.set rl i rv) hr
/-- several targets -/
abbrev Gxs := List Vx → Ms
def tGs (W : WX) (g : Gxs) : TGs := fun v σ H Q => ∃ α l h w, RL α l σ ∧ HR α h H ∧ RVs α w v ∧ OKS α W (g w l h) { nx := Q, rt := fun _ _ => False }
abbrev PVGs (X : Cx) (W : WX) (tg : List Expr) (g : Gxs) : Prop := PGs X tg (tGs W g)
theorem pgs_weak {tg : List Expr} {t t' : TGs} (h : PGs X tg t) (w : ∀ v σ H Q, t' v σ H Q → t v σ H Q) : PGs X tg t' := ⟨fun pins s σ H v u Q I r q => h.run pins s σ H v u Q I r (w v σ H Q q)⟩
def gnil : Gxs := fun w l h => match w with | [] => .nx l h | _ => .stuck
def gcons (g : Gx) (gs : Gxs) : Gxs := fun w l h => match w with | x :: r => mseq (g x) (gs r) l h | [] => .stuck
theorem gvs_nil : PVGs X W [] gnil := by
  refine pgs_weak pgs_nil fun v σ H Q ⟨α, l, h, w, rl, hr, rv, ok⟩ => ?_
  cases rv with
  | nil => exact ⟨rfl, ok α σ H (Ext.refl α) rl hr⟩
  | cons _ _ => exact False.elim ok
theorem gvs_cons {e : Expr} {es : List Expr} {g : Gx} {gs : Gxs} (h1 : PVG X W e g) (h2 : PVGs X W es gs) (hs : (assignEach (e :: es) X.env).map (·.2) = assign e X.env :: (assignEach es X.env).map (·.2) := by rfl) : PVGs X W (e :: es) (gcons g gs) := by
  refine pgs_weak (pgs_cons h1 h2 hs) fun v σ H Q ⟨α, l, h, w, rl, hr, rv, ok⟩ => ?_
  cases rv with
  | nil => exact False.elim ok
  | @cons a b l1 l2 ra rr =>
    refine ⟨b, l2, rfl, α, l, h, a, rl, hr, ra, ?_⟩
    have ok : OKS α W (mseq (g a) (gs l1) l h) _ := ok
    unfold mseq at ok
    cases e1 : g a l h with
    | nx l3 h3 => rw [e1] at ok; exact fun β σ1 H1 x rl1 hr1 => ⟨β, l3, h3, l1, rl1, hr1, RVs.ext x rr, OKS.ext x ok⟩
    | ret w h1 => rw [e1] at ok; exact ok
    | brk l1 h1 => rw [e1] at ok; exact ok
    | cont l1 h1 => rw [e1] at ok; exact ok
    | exc c d l1 h1 => rw [e1] at ok; exact ok
    | stuck => rw [e1] at ok; exact ok
end
/-! ### reading objects, locked or not -/
def Ox.un : Ox → Ox
  | .lk o => o
  | o => o
def Hx.rd (h : Hx) (i : Nat) : Option Ox := match h.get i with | some o => some o.un | none => none
theorem HR.rd {α : Al} {h : Hx} {H : Hp} (r : HR α h H) {i : Nat} {a : Addr} {o : Ox} (ha : α.a[i]? = some a) (ho : h.rd i = some o) : ∃ p, Rd H a p ∧ RO α o p := by
  unfold Hx.rd at ho
  cases q : h.get i with
  | none => rw [q] at ho; cases ho
  | some u =>
    rw [q] at ho
    cases ho
    obtain ⟨p, hp, ro⟩ := r.at ha q
    cases u with
    | lk u =>
      obtain ⟨ob, p', rfl, ro'⟩ := ro
      exact ⟨p', .inr ⟨ob, hp⟩, ro'⟩
    | lst xs => exact ⟨p, .inl hp, ro⟩
    | tup xs => exact ⟨p, .inl hp, ro⟩
    | dK xs => exact ⟨p, .inl hp, ro⟩
    | ins C fs => exact ⟨p, .inl hp, ro⟩
/-- the list behind a value -/
def asL (w : Vx) (h : Hx) : Option (List Vx) := match w with | .ref i => (match h.rd i with | some (.lst xs) => some xs | _ => none) | _ => none
def asT (w : Vx) (h : Hx) : Option (List Vx) := match w with | .ref i => (match h.rd i with | some (.tup xs) => some xs | _ => none) | _ => none
def asD (w : Vx) (h : Hx) : Option (List (Kx × Vx)) := match w with | .ref i => (match h.rd i with | some (.dK xs) => some xs | _ => none) | _ => none
def asI (w : Vx) (h : Hx) : Option (Nat × List (Str × Vx)) := match w with | .ref i => (match h.get i with | some (.ins C fs) => some (C, fs) | _ => none) | _ => none
section
variable {α : Al} {h : Hx} {H : Hp} {K : PySem.W.Frag} {w : Vx} {v : V}
theorem asL_is (hr : HR α h H) (rv : RV α w v) {xs : List Vx} (e : asL w h = some xs) : ∃ a vs, v = .ref a ∧ SqL K H a vs ∧ RVs α xs vs := by
  cases w with
  | ref i =>
    obtain ⟨a, ha, rfl⟩ := rv
    have e : (match h.rd i with | some (.lst xs) => some xs | _ => none) = some xs := e
    cases q : h.rd i with
    | none => (rw [q] at e; cases e)
    | some o =>
      rw [q] at e
      obtain ⟨p, hp, ro⟩ := hr.rd ha q
      cases o with
      | lst ys =>
        cases e
        obtain ⟨vs, rs, rfl⟩ := ro
        exact ⟨a, vs, rfl, .inl hp, rs⟩
      | _ => cases e
  | _ => cases e
theorem asT_is (hr : HR α h H) (rv : RV α w v) {xs : List Vx} (e : asT w h = some xs) : ∃ a vs, v = .ref a ∧ SqT K H a vs ∧ RVs α xs vs := by
  cases w with
  | ref i =>
    obtain ⟨a, ha, rfl⟩ := rv
    have e : (match h.rd i with | some (.tup xs) => some xs | _ => none) = some xs := e
    cases q : h.rd i with
    | none => (rw [q] at e; cases e)
    | some o =>
      rw [q] at e
      obtain ⟨p, hp, ro⟩ := hr.rd ha q
      cases o with
      | tup ys =>
        cases e
        obtain ⟨vs, rs, rfl⟩ := ro
        exact ⟨a, vs, rfl, .inl hp, rs⟩
      | _ => cases e
  | _ => cases e
theorem asD_is (hr : HR α h H) (rv : RV α w v) {xs : List (Kx × Vx)} (e : asD w h = some xs) : ∃ a vs, v = .ref a ∧ Rd H a (.dK vs) ∧ RPs α xs vs := by
  cases w with
  | ref i =>
    obtain ⟨a, ha, rfl⟩ := rv
    have e : (match h.rd i with | some (.dK xs) => some xs | _ => none) = some xs := e
    cases q : h.rd i with
    | none => (rw [q] at e; cases e)
    | some o =>
      rw [q] at e
      obtain ⟨p, hp, ro⟩ := hr.rd ha q
      cases o with
      | dK ys =>
        cases e
        obtain ⟨vs, rs, rfl⟩ := ro
        exact ⟨a, vs, rfl, hp, rs⟩
      | _ => cases e
  | _ => cases e
theorem asI_is (hr : HR α h H) (rv : RV α w v) {C : Nat} {fs : List (Str × Vx)} (e : asI w h = some (C, fs)) : ∃ i a dx vs, w = .ref i ∧ α.a[i]? = some a ∧ v = .ref a ∧ H a = some (.ins (GA.g C) dx vs) ∧ RPs α fs vs := by
  cases w with
  | ref i =>
    obtain ⟨a, ha, rfl⟩ := rv
    have e : (match h.get i with | some (.ins C fs) => some (C, fs) | _ => none) = some (C, fs) := e
    cases q : h.get i with
    | none => (rw [q] at e; cases e)
    | some o =>
      rw [q] at e
      obtain ⟨p, hp, ro⟩ := hr.at ha q
      cases o with
      | ins D gs =>
        cases e
        obtain ⟨dx, vs, rs, rfl⟩ := ro
        exact ⟨i, a, dx, vs, rfl, ha, rfl, hp, rs⟩
      | _ => cases e
  | _ => cases e
end
/-! ### tuple targets, stores -/
section
variable {X : Cx} {W : WX} {m : Ms} {e o i : Expr} {me mo mi : Ex} {pos : Pos}
def gtup (n : Nat) (gs : Gxs) : Gx := fun w l h => match asT w h with | some xs => (bif Nat.beq xs.length n then gs xs l h else .stuck) | none => .stuck
theorem plen {A B : Type} {F : A → B → Prop} {xs : List A} {ys : List B} (r : Paired F xs ys) : ys.length = xs.length := (Paired.length r).symm
theorem gv_tup {es : List Expr} {k : Nat} {gs : Gxs} {n : Nat} (hc : X.calm = true) (hg : PVGs X W es gs) (hn : (assignEach es X.env).length = n := by rfl) (hst : (assignEach es X.env).findIdx? (·.1) = none := by rfl) : PVG X W (.Tuple es k pos) (gtup n gs) := by
  refine pg_weak (pg_tup hc hg hn hst) fun v σ H Q ⟨α, l, h, w, rl, hr, rv, ok⟩ => ?_
  unfold gtup at ok
  cases q : asT w h with
  | none => rw [q] at ok; exact False.elim ok
  | some xs =>
    rw [q] at ok
    dsimp only at ok
    obtain ⟨a, vs, e1, sq, rs⟩ := asT_is (K := X.K) hr rv q
    cases q2 : Nat.beq xs.length n with
    | false => rw [q2] at ok; exact False.elim ok
    | true =>
      rw [q2] at ok
      exact ⟨a, vs, e1, sq, (plen rs).trans (Nat.eq_of_beq_eq_true q2), α, l, h, xs, rl, hr, rs, ok⟩
/-- target = value -/
def masg (m : Ex) (g : Gx) : Ms := fun l h => (m l h).st l fun w h1 => g w l h1
/-- a target's run stays a target's -/
theorem tG_of {g : Gx} {D : Ends} {α : Al} {l : Lx} {h : Hx} {w : Vx} {v : V} {σ : L2.St} {H : Hp} (hg : ∀ w l h, match g w l h with | .ret _ _ => False | .brk _ _ => False | .cont _ _ => False | _ => True) (rl : RL α l σ) (hr : HR α h H) (rv : RV α w v) (ok : OKS α W (g w l h) D) : tG W g v σ H D.nx := by
  refine ⟨α, l, h, w, rl, hr, rv, ?_⟩
  have z := hg w l h
  cases e1 : g w l h with
  | nx l1 h1 => rw [e1] at ok; exact ok
  | exc c d l1 h1 => rw [e1] at ok; exact ok
  | stuck => rw [e1] at ok; exact ok
  | ret _ _ => rw [e1] at z; exact z.elim
  | brk _ _ => rw [e1] at z; exact z.elim
  | cont _ _ => rw [e1] at z; exact z.elim
/-- a target never returns -/
def Plain (g : Gx) : Prop := ∀ w l h, match g w l h with | .ret _ _ => False | .brk _ _ => False | .cont _ _ => False | _ => True
def Plains (g : Gxs) : Prop := ∀ w l h, match g w l h with | .ret _ _ => False | .brk _ _ => False | .cont _ _ => False | _ => True
theorem plain_set {i : Nat} : Plain (gset i) := fun _ _ _ => trivial
theorem plains_nil : Plains gnil := fun w l h => by cases w <;> exact trivial
theorem plains_cons {g : Gx} {gs : Gxs} (p : Plain g) (q : Plains gs) : Plains (gcons g gs) := fun w l h => by
  cases w with
  | nil => exact trivial
  | cons x r =>
    show match mseq (g x) (gs r) l h with | .ret _ _ => False | .brk _ _ => False | .cont _ _ => False | _ => True
    unfold mseq
    have z := p x l h
    cases e1 : g x l h with
    | nx l1 h1 => exact q r l1 h1
    | exc c d l1 h1 => exact trivial
    | stuck => exact trivial
    | ret _ _ => rw [e1] at z; exact z.elim
    | brk _ _ => rw [e1] at z; exact z.elim
    | cont _ _ => rw [e1] at z; exact z.elim
theorem plain_tup {n : Nat} {gs : Gxs} (q : Plains gs) : Plain (gtup n gs) := fun w l h => by
  unfold gtup
  cases asT w h with
  | none => exact trivial
  | some xs =>
    dsimp only
    cases Nat.beq xs.length n with
    | false => exact trivial
    | true => exact q xs l h
theorem sv_asg {tg : Expr} {g : Gx} (he : PV X W e me) (hg : PVG X W tg g) (pl : Plain g) (hs : swapsWithSole [tg] e pos.line X.env = pure false := by rfl) (hw : swappedStores [tg] e X.env = pure none := by rfl) (h1 : (assignEach [tg] X.env).map (·.2) = [assign tg X.env] := by rfl) :
    PVS X W (.Assign [tg] e pos) (masg me g) := by
  refine ps_weak (ps_asg he hg hs hw h1) fun D σ H ⟨α, l, h, rl, hr, ok⟩ => ⟨α, l, h, rl, hr, OKg.mono (ok.fst (R := RV) rl) ?_⟩
  rintro v H1 ⟨w, h2, β, e1, x, r, rv, ok1⟩
  exact tG_of pl (RL.ext x rl) r rv ok1
def mset (i : Nat) (m : Ex) : Ms := fun l h => (m l h).st l fun w h1 => .nx (l.set i (some w)) h1
theorem sv_set {i : Nat} {x : Str} {pos' : Pos} (hN : X.N.Nodup) (hi : X.N[i]? = some x) (hx : L2.Loc X.env.scope x) (he : PV X W e me) (hs : swapsWith e (some (.Name x pos')) pos.line X.env = pure false := by rfl)
    (hf : X.fn x = true ∨ X.env.scope.names.lookup x = some .local := by first | exact .inl rfl | exact .inr rfl | assumption) : PVS X W (.Assign [.Name x pos'] e pos) (mset i me) := by
  refine ps_weak (ps_set hN hi hx he hs hf) fun D σ H ⟨α, l, h, rl, hr, ok⟩ => ⟨α, l, h, rl, hr, OKg.mono (ok.fst (R := RV) rl) ?_⟩
  rintro v H1 ⟨w, h2, β, e1, x, r, rv, ok1⟩
  exact ok1 β _ H1 (Ext.refl β) (RL.set (RL.ext x rl) i rv) r
/-- a, b = x, y: two plain names -/
def mpar (i j : Nat) (a b : Ex) : Ms := fun l h => (a l h).st l fun x h1 => (b l h1).st l fun y h2 => .nx ((l.set i (some x)).set j (some y)) h2
end
end SV

set_option Elab.async false
set_option linter.all false
set_option maxRecDepth 100000
set_option maxHeartbeats 4800000
/-! displays, loops, comprehensions. -/
namespace SV
open PySem L2 PySem.Spec PyProof.Rows
variable [GA]
/-! ### argument lists, displays -/
def esn : Es := fun _ h => .ok [] h
def esc (m : Ex) (ms : Es) : Es := fun l h => (m l h).bind fun x h1 => (ms l h1).bind fun xs h2 => .ok (x :: xs) h2
section
variable {X : Cx} {W : WX} {e : Expr} {es : List Expr} {m : Ex} {ms : Es} {pos : Pos}
theorem pa_weak {t t' : TA} (h : PA X es t) (w : ∀ σ H Q, t' σ H Q → t σ H Q) : PA X es t' := ⟨fun pos pins s σ H Q I q => h.run pos pins s σ H Q I (w σ H Q q)⟩
theorem av_nil : PVs X W [] esn := pa_weak pa_nil fun σ H Q ⟨α, l, h, rl, hr, ok⟩ => ok α [] H (Ext.refl α) hr .nil
theorem av_cons (h1 : PV X W e m) (h2 : PVs X W es ms) (hs : starEach (e :: es) X.env = (false, eval e X.env) :: starEach es X.env := by rfl) : PVs X W (e :: es) (esc m ms) := by
  refine pa_weak (pa_cons h1 h2 hs) fun σ H Q ⟨α, l, h, rl, hr, ok⟩ => ⟨α, l, h, rl, hr, OKg.mono (OKg.fst (R := RV) ok) ?_⟩
  rintro v H1 ⟨w, h1, β, e1, x, r, rv, ok1⟩
  refine ⟨β, l, h1, RL.ext x rl, r, OKg.mono (OKg.fst (R := RVs) ok1) ?_⟩
  rintro vs H2 ⟨ws, h2, γ, e2, x2, r2, rvs, ok2⟩
  exact ok2 γ (v :: vs) H2 (Ext.refl γ) r2 (.cons (rv.ext x2) rvs)
def vtup (ms : Es) : Ex := fun l h => (ms l h).bind fun xs h1 => bif Nat.ble xs.length sline then .ok (.ref h1.n) (h1.new (.tup xs)) else .stuck
def vlst (ms : Es) : Ex := fun l h => (ms l h).bind fun xs h1 => bif Nat.ble xs.length sline then .ok (.ref h1.n) (h1.new (.lst xs)) else .stuck
theorem snoc_at {α : Al} {h : Hx} {H : Hp} (r : HR α h H) (p : Addr) : (α.snoc p).a[h.n]? = some p := by
  show (α.a ++ [p])[h.n]? = _
  rw [← r.len]; simp
/-- a new object is the value -/
theorem newV {α : Al} {h : Hx} {H : Hp} {σ : L2.St} {Q : VK} {o : Ox} {u : HO} {p : Addr} (hr : HR α h H) (ok : OK α σ W (.ok (.ref h.n) (h.new o)) Q) (hp : H p = none) (ro : RO α o u) (nl : ∀ v, o ≠ .lk v := by intro _ z; cases z) : Q (.ref p) (upd H p u) :=
  ok (α.snoc p) (.ref p) _ (Ext.snoc α p) (hr.new hp ro nl) ⟨p, snoc_at hr p, rfl⟩
theorem pv_tup {k : Nat} (h : PVs X W es ms) : PV X W (.Tuple es k pos) (vtup ms) := by
  refine pe_weak (pe_tup h) fun σ H Q ⟨α, l, h, rl, hr, ok⟩ => ⟨α, l, h, rl, hr, OKg.mono (OKg.fst (R := RVs) ok) ?_⟩
  rintro vs H1 ⟨ws, h1, β, e1, x, r, rv, ok1⟩
  cases q : Nat.ble ws.length sline with
  | false => rw [q] at ok1; exact False.elim ok1
  | true =>
    rw [q] at ok1
    exact ⟨by rw [plen rv, sline_is]; exact Nat.le_of_ble_eq_true q, fun p hp => newV r ok1 hp ⟨vs, rv, rfl⟩⟩
theorem pv_lst (h : PVs X W es ms) : PV X W (.List es pos) (vlst ms) := by
  refine pe_weak (pe_lst h) fun σ H Q ⟨α, l, h, rl, hr, ok⟩ => ⟨α, l, h, rl, hr, OKg.mono (OKg.fst (R := RVs) ok) ?_⟩
  rintro vs H1 ⟨ws, h1, β, e1, x, r, rv, ok1⟩
  cases q : Nat.ble ws.length sline with
  | false => rw [q] at ok1; exact False.elim ok1
  | true =>
    rw [q] at ok1
    exact ⟨by rw [plen rv, sline_is]; exact Nat.le_of_ble_eq_true q, fun p hp => newV r ok1 hp ⟨vs, rv, rfl⟩⟩
end
/-! ### a, b = x, y -/
section
variable {X : Cx} {W : WX} {a b c : Expr} {ma mb mc : Ex} {pos : Pos}
theorem sv_par {i j : Nat} {x y : Str} {px py pt : Pos} {kt k2 pt2} (hc : X.calm = true) (hN : X.N.Nodup) (hi : X.N[i]? = some x) (hj : X.N[j]? = some y) (hij : i ≠ j)
    (hx : X.env.scope.names.lookup x = some .local) (hy : X.env.scope.names.lookup y = some .local) (ha : PV X W a ma) (hb : PV X W b mb) (sa : starEach [a, b] X.env = (false, eval a X.env) :: starEach [b] X.env) (sb : starEach [b] X.env = (false, eval b X.env) :: starEach [] X.env)
    (hw : swappedStores [.Tuple [.Name x px, .Name y py] kt pt] (.Tuple [a, b] k2 pt2) X.env = pure (some [x, y])) (hs : swapsWithSole [.Tuple [.Name x px, .Name y py] kt pt] (.Tuple [a, b] k2 pt2) pos.line X.env = pure false) :
    PVS X W (.Assign [.Tuple [.Name x px, .Name y py] kt pt] (.Tuple [a, b] k2 pt2) pos) (mpar i j ma mb) := by
  refine ps_weak (ps_par hc hN hi hj hij hx hy (pa_cons ha (pa_cons hb pa_nil sb) sa) hw hs) fun D σ H ⟨α, l, h, rl, hr, ok⟩ => ⟨α, l, h, rl, hr, OKg.mono (OKS.fst (R := RV) rl ok) ?_⟩
  rintro v H1 ⟨w, h1, β, e1, x1, r1, rv1, ok1⟩
  refine ⟨β, l, h1, RL.ext x1 rl, r1, OKg.mono (OKS.fst (R := RV) (RL.ext x1 rl) ok1) ?_⟩
  rintro v2 H2 ⟨w2, h2, γ, e2, x2, r2, rv2, ok2⟩
  exact ⟨v, v2, rfl, ok2 γ _ H2 (Ext.refl γ) (RL.set (RL.set (RL.ext (x1.trans x2) rl) i (rv1.ext x2)) j rv2) r2⟩
def mpar3 (i j k : Nat) (a b c : Ex) : Ms := fun l h => (a l h).st l fun x h1 => (b l h1).st l fun y h2 => (c l h2).st l fun z h3 => .nx (((l.set i (some x)).set j (some y)).set k (some z)) h3
theorem sv_par3 {i j k : Nat} {x y z : Str} {px py pz pt : Pos} {kt k2 pt2} (hc : X.calm = true) (hN : X.N.Nodup) (hi : X.N[i]? = some x) (hj : X.N[j]? = some y) (hk : X.N[k]? = some z) (hij : i ≠ j) (hik : i ≠ k) (hjk : j ≠ k)
    (hx : X.env.scope.names.lookup x = some .local) (hy : X.env.scope.names.lookup y = some .local) (hz : X.env.scope.names.lookup z = some .local) (ha : PV X W a ma) (hb : PV X W b mb) (hc' : PV X W c mc)
    (sa : starEach [a, b, c] X.env = (false, eval a X.env) :: starEach [b, c] X.env) (sb : starEach [b, c] X.env = (false, eval b X.env) :: starEach [c] X.env) (sc : starEach [c] X.env = (false, eval c X.env) :: starEach [] X.env)
    (hw : swappedStores [.Tuple [.Name x px, .Name y py, .Name z pz] kt pt] (.Tuple [a, b, c] k2 pt2) X.env = pure (some [x, y, z])) (hs : swapsWithSole [.Tuple [.Name x px, .Name y py, .Name z pz] kt pt] (.Tuple [a, b, c] k2 pt2) pos.line X.env = pure false) :
    PVS X W (.Assign [.Tuple [.Name x px, .Name y py, .Name z pz] kt pt] (.Tuple [a, b, c] k2 pt2) pos) (mpar3 i j k ma mb mc) := by
  refine ps_weak (ps_par3 hc hN hi hj hk hij hik hjk hx hy hz (pa_cons ha (pa_cons hb (pa_cons hc' pa_nil sc) sb) sa) hw hs) fun D σ H ⟨α, l, h, rl, hr, ok⟩ => ⟨α, l, h, rl, hr, OKg.mono (OKS.fst (R := RV) rl ok) ?_⟩
  rintro v H1 ⟨w, h1, β, e1, x1, r1, rv1, ok1⟩
  refine ⟨β, l, h1, RL.ext x1 rl, r1, OKg.mono (OKS.fst (R := RV) (RL.ext x1 rl) ok1) ?_⟩
  rintro v2 H2 ⟨w2, h2, γ, e2, x2, r2, rv2, ok2⟩
  refine ⟨γ, l, h2, RL.ext (x1.trans x2) rl, r2, OKg.mono (OKS.fst (R := RV) (RL.ext (x1.trans x2) rl) ok2) ?_⟩
  rintro v3 H3 ⟨w3, h3, δ, e3, x3, r3, rv3, ok3⟩
  exact ⟨v, v2, v3, rfl, ok3 δ _ H3 (Ext.refl δ) (RL.set (RL.set (RL.set (RL.ext ((x1.trans x2).trans x3) rl) i (rv1.ext (x2.trans x3))) j (rv2.ext x3)) k rv3) r3⟩
end
/-! ### targets of loops: names, tuples of such -/
mutual
inductive Tgt where
  | nm (i : Nat) | tup (ts : Tgts)
inductive Tgts where
  | nil | cons (t : Tgt) (r : Tgts)
end
def Tgts.len : Tgts → Nat
  | .nil => 0
  | .cons _ r => r.len + 1
mutual
def Tgt.bd : Tgt → Vx → Hx → Option (List (Nat × Vx))
  | .nm i, w, _ => some [(i, w)]
  | .tup ts, w, h => match asT w h with | some xs => ts.bd xs h | none => none
def Tgts.bd : Tgts → List Vx → Hx → Option (List (Nat × Vx))
  | .nil, [], _ => some []
  | .nil, _ :: _, _ => none
  | .cons _ _, [], _ => none
  | .cons t r, x :: xs, h => match t.bd x h with | some a => (match r.bd xs h with | some b => some (a ++ b) | none => none) | none => none
end
mutual
def Tgt.slots : Tgt → List Nat
  | .nm i => [i]
  | .tup ts => ts.slots
def Tgts.slots : Tgts → List Nat
  | .nil => []
  | .cons t r => t.slots ++ r.slots
end
mutual
def ASG (K : PySem.W.Frag) (H : Hp) : Tgt → V → List (Nat × V) → Prop
  | .nm i, v, asg => asg = [(i, v)]
  | .tup ts, v, asg => ∃ a xs, v = .ref a ∧ SqT K H a xs ∧ ASGs K H ts xs asg
def ASGs (K : PySem.W.Frag) (H : Hp) : Tgts → List V → List (Nat × V) → Prop
  | .nil, xs, asg => xs = [] ∧ asg = []
  | .cons t r, xs, asg => ∃ x xr a1 a2, xs = x :: xr ∧ ASG K H t x a1 ∧ ASGs K H r xr a2 ∧ asg = a1 ++ a2
end
theorem ASGs.len {K : PySem.W.Frag} {H : Hp} : ∀ {ts : Tgts} {xs : List V} {asg : List (Nat × V)}, ASGs K H ts xs asg → xs.length = ts.len
  | .nil, xs, asg, h => by
    have h : xs = [] ∧ asg = [] := by simpa only [ASGs] using h
    rw [h.1]; rfl
  | .cons t r, xs, asg, h => by
    have h : ∃ x xr a1 a2, xs = x :: xr ∧ ASG K H t x a1 ∧ ASGs K H r xr a2 ∧ asg = a1 ++ a2 := by simpa only [ASGs] using h
    obtain ⟨x, xr, a1, a2, rfl, _, h2, _⟩ := h
    rw [List.length_cons, ASGs.len h2]; rfl
def sto (σ : L2.St) (asg : List (Nat × V)) : L2.St := asg.foldl (fun σ p => σ.set p.1 (some p.2)) σ
def stoL (l : Lx) (asg : List (Nat × Vx)) : Lx := asg.foldl (fun l p => l.set p.1 (some p.2)) l
theorem sto_app (σ : L2.St) (a b : List (Nat × V)) : sto σ (a ++ b) = sto (sto σ a) b := List.foldl_append ..
abbrev RA (α : Al) : List (Nat × Vx) → List (Nat × V) → Prop := RPs α
theorem stoL_ok {α : Al} : ∀ {va : List (Nat × Vx)} {asg : List (Nat × V)} {l : Lx} {σ : L2.St}, RA α va asg → RL α l σ → RL α (stoL l va) (sto σ asg)
  | _, _, _, _, .nil, rl => rl
  | _, _, l, σ, .cons (a := p) (b := q) ⟨e, rv⟩ t, rl => by
    refine stoL_ok (l := l.set p.1 (some p.2)) (σ := σ.set q.1 (some q.2)) t ?_
    rw [← e]
    exact RL.set rl p.1 rv
theorem papp' {α : Al} {a b : List (Nat × Vx)} {c d : List (Nat × V)} (r : RA α a c) (q : RA α b d) : RA α (a ++ b) (c ++ d) := papp r q
mutual
theorem bd_is {α : Al} {h : Hx} {H : Hp} {K : PySem.W.Frag} (hr : HR α h H) : ∀ {t : Tgt} {w : Vx} {v : V} {va : List (Nat × Vx)}, RV α w v → t.bd w h = some va → ∃ asg, ASG K H t v asg ∧ RA α va asg
  | .nm i, w, v, va, rv, e => by
    have e : some [(i, w)] = some va := by simpa only [Tgt.bd] using e
    cases e
    exact ⟨[(i, v)], by simp only [ASG], .cons ⟨rfl, rv⟩ .nil⟩
  | .tup ts, w, v, va, rv, e => by
    have e : (match asT w h with | some xs => ts.bd xs h | none => none) = some va := by simpa only [Tgt.bd] using e
    cases q : asT w h with
    | none => (rw [q] at e; cases e)
    | some xs =>
      rw [q] at e
      obtain ⟨a, vs, rfl, sq, rs⟩ := asT_is (K := K) hr rv q
      obtain ⟨asg, h1, h2⟩ := bds_is (K := K) hr rs e
      exact ⟨asg, by simp only [ASG]; exact ⟨a, vs, rfl, sq, h1⟩, h2⟩
theorem bds_is {α : Al} {h : Hx} {H : Hp} {K : PySem.W.Frag} (hr : HR α h H) : ∀ {ts : Tgts} {ws : List Vx} {vs : List V} {va : List (Nat × Vx)}, RVs α ws vs → ts.bd ws h = some va → ∃ asg, ASGs K H ts vs asg ∧ RA α va asg
  | .nil, [], _, va, .nil, e => by
    have e : some [] = some va := by simpa only [Tgts.bd] using e
    cases e
    exact ⟨[], by simp only [ASGs]; exact ⟨trivial, trivial⟩, .nil⟩
  | .nil, _ :: _, _, va, _, e => by simp only [Tgts.bd] at e; cases e
  | .cons t r, [], _, va, _, e => by simp only [Tgts.bd] at e; cases e
  | .cons t r, x :: xs, _, va, .cons (b := v) (l₂ := vs) rx rs, e => by
    have e : (match t.bd x h with | some a => (match r.bd xs h with | some b => some (a ++ b) | none => none) | none => none) = some va := by simpa only [Tgts.bd] using e
    cases q1 : t.bd x h with
    | none => rw [q1] at e; cases e
    | some a =>
      rw [q1] at e
      dsimp only at e
      cases q2 : r.bd xs h with
      | none => rw [q2] at e; cases e
      | some b =>
        rw [q2] at e
        cases e
        obtain ⟨a1, h1, h2⟩ := bd_is (K := K) hr rx q1
        obtain ⟨a2, h3, h4⟩ := bds_is (K := K) hr rs q2
        exact ⟨a1 ++ a2, by simp only [ASGs]; exact ⟨v, vs, a1, a2, rfl, h1, h3, rfl⟩, papp' h2 h4⟩
end
mutual
theorem ASG.slots {K : PySem.W.Frag} {H : Hp} : ∀ {t : Tgt} {v : V} {asg : List (Nat × V)}, ASG K H t v asg → ∀ p ∈ asg, p.1 ∈ t.slots
  | .nm i, v, asg, h, p, m => by
    have h : asg = [(i, v)] := by simpa only [ASG] using h
    rw [h, List.mem_singleton] at m
    rw [m]; simp [Tgt.slots]
  | .tup ts, v, asg, h, p, m => by
    have h : ∃ a xs, v = .ref a ∧ SqT K H a xs ∧ ASGs K H ts xs asg := by simpa only [ASG] using h
    obtain ⟨a, xs, _, _, h⟩ := h
    simpa only [Tgt.slots] using ASGs.slots h p m
theorem ASGs.slots {K : PySem.W.Frag} {H : Hp} : ∀ {ts : Tgts} {vs : List V} {asg : List (Nat × V)}, ASGs K H ts vs asg → ∀ p ∈ asg, p.1 ∈ ts.slots
  | .nil, vs, asg, h, p, m => by
    have h : vs = [] ∧ asg = [] := by simpa only [ASGs] using h
    rw [h.2] at m; cases m
  | .cons t r, vs, asg, h, p, m => by
    have h : ∃ x xr a1 a2, vs = x :: xr ∧ ASG K H t x a1 ∧ ASGs K H r xr a2 ∧ asg = a1 ++ a2 := by simpa only [ASGs] using h
    obtain ⟨x, xr, a1, a2, _, h1, h2, rfl⟩ := h
    simp only [Tgts.slots]
    rcases List.mem_append.mp m with m | m
    · exact List.mem_append_left _ (ASG.slots h1 p m)
    · exact List.mem_append_right _ (ASGs.slots h2 p m)
end
def tgT (K : PySem.W.Frag) (t : Tgt) : TG := fun v σ H Q => ∃ asg, ASG K H t v asg ∧ Q (sto σ asg) H
def tgTs (K : PySem.W.Frag) (ts : Tgts) : TGs := fun vs σ H Q => ∃ asg, ASGs K H ts vs asg ∧ Q (sto σ asg) H
section
variable {X : Cx} {e : Expr} {es : List Expr} {pos : Pos}
theorem gt_name {i : Nat} {x : Str} (hN : X.N.Nodup) (hi : X.N[i]? = some x) (hx : L2.Loc X.env.scope x) (hf : X.fn x = true ∨ X.env.scope.names.lookup x = some .local := by first | exact .inl rfl | exact .inr rfl | assumption) : PG X (.Name x pos) (tgT X.K (.nm i)) := by
  refine pg_weak (pg_name hN hi hx hf) fun v σ H Q ⟨asg, h, q⟩ => ?_
  have h : asg = [(i, v)] := by simpa only [ASG] using h
  subst h
  exact q
theorem gts_nil : PGs X [] (tgTs X.K .nil) := by
  refine pgs_weak pgs_nil fun v σ H Q ⟨asg, h, q⟩ => ?_
  have h : v = [] ∧ asg = [] := by simpa only [ASGs] using h
  obtain ⟨rfl, rfl⟩ := h
  exact ⟨rfl, q⟩
theorem gts_cons {t : Tgt} {ts : Tgts} (h1 : PG X e (tgT X.K t)) (h2 : PGs X es (tgTs X.K ts)) (hs : (assignEach (e :: es) X.env).map (·.2) = assign e X.env :: (assignEach es X.env).map (·.2) := by rfl) : PGs X (e :: es) (tgTs X.K (.cons t ts)) := by
  refine pgs_weak (pgs_cons h1 h2 hs) fun v σ H Q ⟨asg, h, q⟩ => ?_
  have h : ∃ x xr a1 a2, v = x :: xr ∧ ASG X.K H t x a1 ∧ ASGs X.K H ts xr a2 ∧ asg = a1 ++ a2 := by simpa only [ASGs] using h
  obtain ⟨x, xr, a1, a2, rfl, h3, h4, rfl⟩ := h
  exact ⟨x, xr, rfl, a1, h3, a2, h4, by rw [sto_app] at q; exact q⟩
theorem gt_tup {k : Nat} {ts : Tgts} (hc : X.calm = true) (hg : PGs X es (tgTs X.K ts)) (hn : (assignEach es X.env).length = ts.len := by rfl) (hst : (assignEach es X.env).findIdx? (·.1) = none := by rfl) : PG X (.Tuple es k pos) (tgT X.K (.tup ts)) := by
  refine pg_weak (pg_tup hc hg hn hst) fun v σ H Q ⟨asg, h, q⟩ => ?_
  have h : ∃ a xs, v = .ref a ∧ SqT X.K H a xs ∧ ASGs X.K H ts xs asg := by simpa only [ASG] using h
  obtain ⟨a, xs, rfl, sq, h⟩ := h
  exact ⟨a, xs, rfl, sq, ASGs.len h, asg, h, q⟩
end
/-! ### forgetting slots -/
theorem set_set_out (σ : L2.St) (i : Nat) (x y : Option V) : ∀ vs : List Nat, (L2.wipe (σ.set i x) vs).set i y = (L2.wipe σ vs).set i y
  | [] => by show (σ.set i x).set i y = σ.set i y; rw [List.set_set]
  | v :: vs => by
    show ((L2.wipe (σ.set i x) vs).set v none).set i y = ((L2.wipe σ vs).set v none).set i y
    by_cases h : v = i
    · subst h
      rw [List.set_set, List.set_set]
      exact set_set_out σ v x y vs
    · rw [List.set_comm _ _ h, set_set_out σ i x y vs, List.set_comm _ _ (Ne.symm h)]
theorem wipe_set (σ : L2.St) {i : Nat} (x : Option V) : ∀ {vs : List Nat}, i ∈ vs → L2.wipe (σ.set i x) vs = L2.wipe σ vs
  | [], h => by cases h
  | v :: vs, h => by
    show (L2.wipe (σ.set i x) vs).set v none = (L2.wipe σ vs).set v none
    rcases List.mem_cons.mp h with e | m
    · subst e; exact set_set_out σ i x none vs
    · rw [wipe_set σ x m]
theorem wipe_sto {vs : List Nat} : ∀ {asg : List (Nat × V)} {σ : L2.St}, (∀ p ∈ asg, p.1 ∈ vs) → L2.wipe (sto σ asg) vs = L2.wipe σ vs
  | [], _, _ => rfl
  | p :: r, σ, h => by
    show L2.wipe (sto (σ.set p.1 (some p.2)) r) vs = _
    rw [wipe_sto fun q m => h q (List.mem_cons_of_mem _ m), wipe_set σ _ (h p List.mem_cons_self)]
theorem wipe_wipe (σ : L2.St) (vs : List Nat) : L2.wipe (L2.wipe σ vs) vs = L2.wipe σ vs := by
  have key : ∀ (us : List Nat) (τ : L2.St), (∀ u ∈ us, u ∈ vs) → L2.wipe (L2.wipe τ us) vs = L2.wipe τ vs := by
    intro us
    induction us with
    | nil => intro τ _; rfl
    | cons u us ih =>
      intro τ h
      show L2.wipe ((L2.wipe τ us).set u none) vs = _
      rw [wipe_set _ _ (h u List.mem_cons_self), ih τ fun w m => h w (List.mem_cons_of_mem _ m)]
  exact key vs σ fun _ m => m
def wipeL (l : Lx) : List Nat → Lx
  | [] => l
  | v :: vs => (wipeL l vs).set v none
theorem wipeL_ok {α : Al} {l : Lx} {σ : L2.St} (rl : RL α l σ) : ∀ vs : List Nat, RL α (wipeL l vs) (L2.wipe σ vs)
  | [] => rl
  | v :: vs => pset (by exact trivial) v (wipeL_ok rl vs)
end SV

set_option Elab.async false
set_option linter.all false
set_option maxRecDepth 100000
set_option maxHeartbeats 4800000
/-! iterators, locks, loops. -/
namespace SV
open PySem L2 PySem.Spec PyProof.Rows
variable [GA]
def nth {A : Type} : List A → Nat → Option A
  | [], _ => none
  | a :: _, 0 => some a
  | _ :: r, i + 1 => nth r i
theorem nth_eq {A : Type} : ∀ (xs : List A) (i : Nat), nth xs i = xs[i]?
  | [], _ => rfl
  | _ :: _, 0 => rfl
  | _ :: r, i + 1 => by rw [List.getElem?_cons_succ]; exact nth_eq r i
def kx : Kx → Vx
  | .inl i => .int i
  | .inr s => .str s
theorem kx_rv {α : Al} : ∀ k : Kx, RV α (kx k) (L2.kV k)
  | .inl _ => rfl
  | .inr _ => rfl
inductive Ix where
  | lst (i : Nat) | tup (i : Nat) | rng (lo c : Int) (n : Nat) | str (s : Str) | keys (d : Nat) | vals (d : Nat) | items (d : Nat) | enum (i : Nat) | zip (i j : Nat) | zipT (i j : Nat)
def lkD (h : Hx) (d : Nat) : Option (List (Kx × Vx)) := match h.get d with | some (.lk (.dK kvs)) => some kvs | _ => none
def step : Ix → Nat → Hx → Option (Option (Vx × Hx))
  | .lst r, i, h => match asL (.ref r) h with | some xs => (match nth xs i with | some w => some (some (w, h)) | none => some none) | none => none
  | .tup r, i, h => match asT (.ref r) h with | some xs => (match nth xs i with | some w => some (some (w, h)) | none => some none) | none => none
  | .rng lo c n, i, h => some (bif Nat.ble n i then none else some (.int (lo + (i : Int) * c), h))
  | .str s, i, h => some (match nth s.cps.toList i with | some c => some (.str ⟨#[c]⟩, h) | none => none)
  | .keys d, i, h => match lkD h d with | some kvs => (match nth kvs i with | some p => some (some (kx p.1, h)) | none => some none) | none => none
  | .vals d, i, h => match lkD h d with | some kvs => (match nth kvs i with | some p => some (some (p.2, h)) | none => some none) | none => none
  | .items d, i, h => match lkD h d with | some kvs => (match nth kvs i with | some p => some (some (.ref h.n, h.new (.tup [kx p.1, p.2]))) | none => some none) | none => none
  | .enum r, i, h => match asL (.ref r) h with | some xs => (match nth xs i with | some w => some (some (.ref h.n, h.new (.tup [.int (i : Int), w]))) | none => some none) | none => none
  | .zip r q, i, h => match asL (.ref r) h, asL (.ref q) h with
    | some xs, some ys => (match nth xs i, nth ys i with | some w, some z => some (some (Vx.ref h.n, h.new (.tup [w, z]))) | _, _ => some none)
    | _, _ => none
  | .zipT r q, i, h => match asT (.ref r) h, asT (.ref q) h with
    | some xs, some ys => (match nth xs i, nth ys i with | some w, some z => some (some (Vx.ref h.n, h.new (.tup [w, z]))) | _, _ => some none)
    | _, _ => none
/-- the real iterator goes as the virtual one -/
def ItOK (α : Al) (ix : Ix) (J : L2.It) : Prop := ∀ β h H i, Ext α β → HR β h H → match step ix i h with
  | none => True
  | some none => J.stop i H
  | some (some (w, h')) => J.go i H ∧ ∀ x H', J.yld i H x H' → ∃ γ, Ext β γ ∧ HR γ h' H' ∧ RV γ w x
theorem ItOK.ext {α β : Al} {ix : Ix} {J : L2.It} (e : Ext α β) (k : ItOK α ix J) : ItOK β ix J := fun γ h H i e2 => k γ h H i (e.trans e2)
theorem pnth {A B : Type} {F : A → B → Prop} {xs : List A} {ys : List B} {i : Nat} (r : Paired F xs ys) (h : nth xs i = none) : ys.length ≤ i := by
  rw [nth_eq] at h
  rw [plen r]
  exact List.getElem?_eq_none_iff.mp h
theorem pnth' {A B : Type} {F : A → B → Prop} {xs : List A} {ys : List B} {i : Nat} {x : A} (r : Paired F xs ys) (h : nth xs i = some x) : ∃ y, ys[i]? = some y ∧ F x y := pget r (by rw [← nth_eq]; exact h)
theorem ref_at {β : Al} {r : Nat} {a : Addr} (ha : β.a[r]? = some a) : RV β (.ref r) (.ref a) := ⟨a, ha, rfl⟩
theorem ref_inj {β : Al} {r : Nat} {a b : Addr} (ha : β.a[r]? = some a) (e : V.ref a = V.ref b) : a = b := by cases e; rfl
theorem it_lst {K : PySem.W.Frag} {α : Al} {r : Nat} {a : Addr} (ha : α.a[r]? = some a) : ItOK α (.lst r) (L2.Itl K a) := by
  intro β h H i e hr
  show match (match asL (.ref r) h with | some xs => (match nth xs i with | some w => some (some (w, h)) | none => some none) | none => none) with | none => True | some none => _ | some (some (w, h')) => _
  cases q : asL (.ref r) h with
  | none => exact trivial
  | some xs =>
    obtain ⟨b, vs, e1, sq, rs⟩ := asL_is (K := K) hr (ref_at (e.get ha)) q
    cases ref_inj (e.get ha) e1
    dsimp only
    cases q2 : nth xs i with
    | none => exact ⟨vs, sq, pnth rs q2⟩
    | some w =>
      obtain ⟨y, hy, ry⟩ := pnth' rs q2
      exact ⟨⟨vs, y, sq, hy⟩, fun x H' ⟨e2, k⟩ => ⟨β, Ext.refl β, by rw [e2]; exact hr, by
        have z := k vs sq
        rw [hy] at z; cases z; exact ry⟩⟩
theorem it_tup {K : PySem.W.Frag} {α : Al} {r : Nat} {a : Addr} (ha : α.a[r]? = some a) : ItOK α (.tup r) (L2.Itt K a) := by
  intro β h H i e hr
  show match (match asT (.ref r) h with | some xs => (match nth xs i with | some w => some (some (w, h)) | none => some none) | none => none) with | none => True | some none => _ | some (some (w, h')) => _
  cases q : asT (.ref r) h with
  | none => exact trivial
  | some xs =>
    obtain ⟨b, vs, e1, sq, rs⟩ := asT_is (K := K) hr (ref_at (e.get ha)) q
    cases ref_inj (e.get ha) e1
    dsimp only
    cases q2 : nth xs i with
    | none => exact ⟨vs, sq, pnth rs q2⟩
    | some w =>
      obtain ⟨y, hy, ry⟩ := pnth' rs q2
      exact ⟨⟨vs, y, sq, hy⟩, fun x H' ⟨e2, k⟩ => ⟨β, Ext.refl β, by rw [e2]; exact hr, by
        have z := k vs sq
        rw [hy] at z; cases z; exact ry⟩⟩
theorem it_rng {α : Al} {lo c : Int} {n : Nat} : ItOK α (.rng lo c n) (L2.Itc lo c n) := by
  intro β h H i e hr
  show match some (bif Nat.ble n i then none else some (Vx.int (lo + (i : Int) * c), h)) with | none => True | some none => _ | some (some (w, h')) => _
  cases q : Nat.ble n i with
  | true => exact Nat.le_of_ble_eq_true q
  | false =>
    have hl : ¬ n ≤ i := fun z => by rw [Nat.ble_eq_true_of_le z] at q; cases q
    exact ⟨Nat.lt_of_not_le hl, fun x H' ⟨e2, e3⟩ => ⟨β, Ext.refl β, by rw [e2]; exact hr, e3⟩⟩
theorem itr_itc (lo : Int) (n : Nat) : L2.Itr lo n = L2.Itc lo 1 n := by
  unfold L2.Itr L2.Itc
  simp only [Int.mul_one]
theorem it_rng1 {α : Al} {lo : Int} {n : Nat} : ItOK α (.rng lo 1 n) (L2.Itr lo n) := by rw [itr_itc]; exact it_rng
theorem it_str {α : Al} {s : Str} : ItOK α (.str s) (L2.Its s) := by
  intro β h H i e hr
  show match some (match nth s.cps.toList i with | some c => some (Vx.str ⟨#[c]⟩, h) | none => none) with | none => True | some none => _ | some (some (w, h')) => _
  cases q : nth s.cps.toList i with
  | none =>
    rw [nth_eq] at q
    have := List.getElem?_eq_none_iff.mp q
    exact (show s.cps.size ≤ i by simpa using this)
  | some c =>
    rw [nth_eq] at q
    have q' : s.cps[i]? = some c := by simpa using q
    have hl : i < s.cps.size := (Array.getElem?_eq_some_iff.mp q').1
    exact ⟨hl, fun x H' ⟨e2, c', e3, e4⟩ => ⟨β, Ext.refl β, by rw [e2]; exact hr, by
      rw [q'] at e3; cases e3
      exact e4⟩⟩
theorem lkD_is {α : Al} {h : Hx} {H : Hp} (hr : HR α h H) {d : Nat} {a : Addr} {kvs : List (Kx × Vx)} (ha : α.a[d]? = some a) (e : lkD h d = some kvs) : ∃ ob vs, H a = some (.frz ob (.dK vs)) ∧ RPs α kvs vs := by
  unfold lkD at e
  cases q : h.get d with
  | none => (rw [q] at e; cases e)
  | some o =>
    rw [q] at e
    obtain ⟨p, hp, ro⟩ := hr.at ha q
    cases o with
    | lk u =>
      cases u with
      | dK ks =>
        cases e
        obtain ⟨ob, p', rfl, vs, rs, rfl⟩ := ro
        exact ⟨ob, vs, hp, rs⟩
      | _ => cases e
    | _ => cases e
theorem rp_at {α : Al} {κ : Type} {p : κ × Vx} {k : κ} {v : V} (r : RP α p (k, v)) : p.1 = k ∧ RV α p.2 v := r
section
variable {α : Al} {d : Nat} {a : Addr} {ob : Obj} {vs : List (L2.Key × V)}
/-- the locked dict as it was locked -/
theorem lk_same {β : Al} {h : Hx} {H : Hp} (hr : HR β h H) (hf : (a, ob, HO.dK vs) ∈ β.φ) {kvs : List (Kx × Vx)} (ha : β.a[d]? = some a) (e : lkD h d = some kvs) : H a = some (.frz ob (.dK vs)) ∧ RPs β kvs vs := by
  obtain ⟨ob', vs', h1, rs⟩ := lkD_is hr ha e
  have z := hr.frz _ hf
  rw [h1] at z
  cases z
  exact ⟨h1, rs⟩
theorem Ext.fr {α β : Al} (e : Ext α β) {p : Addr × Obj × HO} (h : p ∈ α.φ) : p ∈ β.φ := by obtain ⟨l, m, rfl⟩ := e; exact List.mem_append_right _ h
theorem it_keys (ha : α.a[d]? = some a) (hf : (a, ob, HO.dK vs) ∈ α.φ) : ItOK α (.keys d) (L2.Itk a ob vs) := by
  intro β h H i e hr
  show match (match lkD h d with | some kvs => (match nth kvs i with | some p => some (some (kx p.1, h)) | none => some none) | none => none) with | none => True | some none => _ | some (some (w, h')) => _
  cases q : lkD h d with
  | none => exact trivial
  | some kvs =>
    obtain ⟨h1, rs⟩ := lk_same hr (e.fr hf) (e.get ha) q
    dsimp only
    cases q2 : nth kvs i with
    | none => exact ⟨h1, pnth rs q2⟩
    | some p =>
      obtain ⟨⟨k, v⟩, hy, ry⟩ := pnth' rs q2
      refine ⟨⟨h1, (List.getElem?_eq_some_iff.mp hy).1⟩, ?_⟩
      rintro x H' ⟨rfl, k', v', e3, rfl⟩
      rw [hy] at e3; cases e3
      refine ⟨β, Ext.refl β, hr, ?_⟩
      have e4 : p.1 = k := ry.1
      rw [e4]; exact kx_rv k
theorem it_vals (ha : α.a[d]? = some a) (hf : (a, ob, HO.dK vs) ∈ α.φ) : ItOK α (.vals d) (L2.Itd a ob vs) := by
  intro β h H i e hr
  show match (match lkD h d with | some kvs => (match nth kvs i with | some p => some (some (p.2, h)) | none => some none) | none => none) with | none => True | some none => _ | some (some (w, h')) => _
  cases q : lkD h d with
  | none => exact trivial
  | some kvs =>
    obtain ⟨h1, rs⟩ := lk_same hr (e.fr hf) (e.get ha) q
    dsimp only
    cases q2 : nth kvs i with
    | none => exact ⟨h1, pnth rs q2⟩
    | some p =>
      obtain ⟨⟨k, v⟩, hy, ry⟩ := pnth' rs q2
      refine ⟨⟨h1, (List.getElem?_eq_some_iff.mp hy).1⟩, ?_⟩
      rintro x H' ⟨rfl, k', e3⟩
      rw [hy] at e3; cases e3
      exact ⟨β, Ext.refl β, hr, ry.2⟩
theorem it_items (ha : α.a[d]? = some a) (hf : (a, ob, HO.dK vs) ∈ α.φ) : ItOK α (.items d) (L2.Iti a ob vs) := by
  intro β h H i e hr
  show match (match lkD h d with | some kvs => (match nth kvs i with | some p => some (some (Vx.ref h.n, h.new (.tup [kx p.1, p.2]))) | none => some none) | none => none) with | none => True | some none => _ | some (some (w, h')) => _
  cases q : lkD h d with
  | none => exact trivial
  | some kvs =>
    obtain ⟨h1, rs⟩ := lk_same hr (e.fr hf) (e.get ha) q
    dsimp only
    cases q2 : nth kvs i with
    | none => exact ⟨h1, pnth rs q2⟩
    | some p =>
      obtain ⟨⟨k, v⟩, hy, ry⟩ := pnth' rs q2
      refine ⟨⟨h1, (List.getElem?_eq_some_iff.mp hy).1⟩, ?_⟩
      rintro x H' ⟨T, k', v', e3, rfl, hT, rfl⟩
      rw [hy] at e3; cases e3
      have e4 : p.1 = k := ry.1
      exact ⟨β.snoc T, Ext.snoc β T, hr.new hT ⟨_, .cons (by rw [e4]; exact kx_rv k) (.cons ry.2 .nil), rfl⟩ (fun _ z => nomatch z), T, snoc_at hr T, rfl⟩
end
theorem it_enum {K : PySem.W.Frag} {α : Al} {r : Nat} {a : Addr} (ha : α.a[r]? = some a) : ItOK α (.enum r) (L2.Ite K a) := by
  intro β h H i e hr
  show match (match asL (.ref r) h with | some xs => (match nth xs i with | some w => some (some (Vx.ref h.n, h.new (.tup [Vx.int (i : Int), w]))) | none => some none) | none => none) with | none => True | some none => _ | some (some (w, h')) => _
  cases q : asL (.ref r) h with
  | none => exact trivial
  | some xs =>
    obtain ⟨b, vs, e1, sq, rs⟩ := asL_is (K := K) hr (ref_at (e.get ha)) q
    cases ref_inj (e.get ha) e1
    dsimp only
    cases q2 : nth xs i with
    | none => exact ⟨vs, sq, pnth rs q2⟩
    | some w =>
      obtain ⟨y, hy, ry⟩ := pnth' rs q2
      refine ⟨⟨vs, y, sq, hy⟩, ?_⟩
      rintro x H' ⟨T, y', rfl, hT, rfl, k⟩
      have z := k vs sq
      rw [hy] at z; cases z
      exact ⟨β.snoc T, Ext.snoc β T, hr.new hT ⟨_, .cons rfl (.cons ry .nil), rfl⟩ (fun _ z => nomatch z), T, snoc_at hr T, rfl⟩
theorem it_zip {K : PySem.W.Frag} {α : Al} {r q : Nat} {a b : Addr} (ha : α.a[r]? = some a) (hb : α.a[q]? = some b) : ItOK α (.zip r q) (L2.Itz K a b) := by
  intro β h H i e hr
  show match (match asL (.ref r) h, asL (.ref q) h with
    | some xs, some ys => (match nth xs i, nth ys i with | some w, some z => some (some (Vx.ref h.n, h.new (.tup [w, z]))) | _, _ => some none)
    | _, _ => none) with | none => True | some none => _ | some (some (w, h')) => _
  cases q1 : asL (.ref r) h with
  | none => exact trivial
  | some xs =>
    cases q2 : asL (.ref q) h with
    | none => exact trivial
    | some ys =>
      obtain ⟨c1, vs, e1, sq, rs⟩ := asL_is (K := K) hr (ref_at (e.get ha)) q1
      cases ref_inj (e.get ha) e1
      obtain ⟨c2, us, e2, sq2, rs2⟩ := asL_is (K := K) hr (ref_at (e.get hb)) q2
      cases ref_inj (e.get hb) e2
      dsimp only
      cases q3 : nth xs i with
      | none => exact ⟨vs, us, sq, sq2, .inl (pnth rs q3)⟩
      | some w =>
        cases q4 : nth ys i with
        | none => exact ⟨vs, us, sq, sq2, .inr (pnth rs2 q4)⟩
        | some z =>
          obtain ⟨y, hy, ry⟩ := pnth' rs q3
          obtain ⟨y2, hy2, ry2⟩ := pnth' rs2 q4
          refine ⟨⟨vs, us, y, y2, sq, sq2, hy, hy2⟩, ?_⟩
          rintro x H' ⟨T, y', y2', rfl, hT, rfl, k, k2⟩
          have z1 := k vs sq
          rw [hy] at z1; cases z1
          have z2 := k2 us sq2
          rw [hy2] at z2; cases z2
          exact ⟨β.snoc T, Ext.snoc β T, hr.new hT ⟨_, .cons ry (.cons ry2 .nil), rfl⟩ (fun _ z => nomatch z), T, snoc_at hr T, rfl⟩
theorem it_zipT {K : PySem.W.Frag} {α : Al} {r q : Nat} {a b : Addr} (ha : α.a[r]? = some a) (hb : α.a[q]? = some b) : ItOK α (.zipT r q) (RZ.ItzT K a b) := by
  intro β h H i e hr
  show match (match asT (.ref r) h, asT (.ref q) h with
    | some xs, some ys => (match nth xs i, nth ys i with | some w, some z => some (some (Vx.ref h.n, h.new (.tup [w, z]))) | _, _ => some none)
    | _, _ => none) with | none => True | some none => _ | some (some (w, h')) => _
  cases q1 : asT (.ref r) h with
  | none => exact trivial
  | some xs =>
    cases q2 : asT (.ref q) h with
    | none => exact trivial
    | some ys =>
      obtain ⟨c1, vs, e1, sq, rs⟩ := asT_is (K := K) hr (ref_at (e.get ha)) q1
      cases ref_inj (e.get ha) e1
      obtain ⟨c2, us, e2, sq2, rs2⟩ := asT_is (K := K) hr (ref_at (e.get hb)) q2
      cases ref_inj (e.get hb) e2
      dsimp only
      cases q3 : nth xs i with
      | none => exact ⟨vs, us, sq, sq2, .inl (pnth rs q3)⟩
      | some w =>
        cases q4 : nth ys i with
        | none => exact ⟨vs, us, sq, sq2, .inr (pnth rs2 q4)⟩
        | some z =>
          obtain ⟨y, hy, ry⟩ := pnth' rs q3
          obtain ⟨y2, hy2, ry2⟩ := pnth' rs2 q4
          refine ⟨⟨vs, us, y, y2, sq, sq2, hy, hy2⟩, ?_⟩
          rintro x H' ⟨T, y', y2', rfl, hT, rfl, k, k2⟩
          have z1 := k vs sq
          rw [hy] at z1; cases z1
          have z2 := k2 us sq2
          rw [hy2] at z2; cases z2
          exact ⟨β.snoc T, Ext.snoc β T, hr.new hT ⟨_, .cons ry (.cons ry2 .nil), rfl⟩ (fun _ z => nomatch z), T, snoc_at hr T, rfl⟩
end SV

set_option Elab.async false
set_option linter.all false
set_option maxRecDepth 100000
set_option maxHeartbeats 4800000
/-! locks, for, while. -/
namespace SV
open PySem L2 PySem.Spec PyProof.Rows
variable [GA]
/-! ### what is walked -/
abbrev Ei := Lx → Hx → Rx Ix
abbrev OKi := OKg (A := Ix) (B := L2.It) (fun β ix J => ItOK β ix J)
def tIi (W : WX) (mi : Ei) : TI := fun σ H R => ∃ α l h, RL α l σ ∧ HR α h H ∧ OKi α σ W (mi l h) R
abbrev PVI (X : Cx) (W : WX) (tg it : Expr) (mi : Ei) : Prop := PI X tg it (tIi W mi)
def seqIx (w : Vx) (h : Hx) : Rx Ix :=
  match w with
  | .str s => .ok (.str s) h
  | .ref r => (match h.get r with
    | some (.lst _) => .ok (.lst r) h
    | some (.lk (.lst _)) => .ok (.lst r) h
    | some (.tup _) => .ok (.tup r) h
    | some (.lk (.dK _)) => .ok (.keys r) h
    | _ => .stuck)
  | _ => .stuck
def iseq (m : Ex) : Ei := fun l h => (m l h).bind seqIx
section
variable {X : Cx} {W : WX} {tg e : Expr} {m : Ex} {es : List Expr} {ms : Es} {pos p : Pos}
theorem asL_get {h : Hx} {r : Nat} {xs : List Vx} (e : h.get r = some (.lst xs) ∨ h.get r = some (.lk (.lst xs))) : asL (.ref r) h = some xs := by
  show (match h.rd r with | some (.lst xs) => some xs | _ => none) = some xs
  unfold Hx.rd
  rcases e with e | e <;> rw [e] <;> rfl
theorem asT_get {h : Hx} {r : Nat} {xs : List Vx} (e : h.get r = some (.tup xs)) : asT (.ref r) h = some xs := by
  show (match h.rd r with | some (.tup xs) => some xs | _ => none) = some xs
  unfold Hx.rd
  rw [e]; rfl
theorem iv_seq (he : PV X W e m) : PVI X W tg e (iseq m) := by
  refine ⟨fun pins s σ H R I ⟨α, l, h, rl, hr, ok⟩ => ?_⟩
  have ok1 := OKg.fst (R := RV) ok
  have rd : tI W m σ H _ := ⟨α, l, h, rl, hr, ok1⟩
  cases e1 : m l h with
  | exc c d h1 =>
    refine (pi_str (X := X) (tg := tg) he).run pins s σ H R I ⟨α, l, h, rl, hr, ?_⟩
    have ok : OKi α σ W ((m l h).bind seqIx) R := ok
    rw [e1] at ok ⊢
    exact ok
  | stuck => have ok : OKi α σ W ((m l h).bind seqIx) R := ok; rw [e1] at ok; exact False.elim ok
  | ok w h1 =>
    have ok2 : OKi α σ W (seqIx w h1) R := by have ok : OKi α σ W ((m l h).bind seqIx) R := ok; rw [e1] at ok; exact ok
    cases w with
    | str z =>
      refine (pi_str (X := X) (tg := tg) he).run pins s σ H R I ⟨α, l, h, rl, hr, ?_⟩
      rw [e1]
      intro β v H1 x hr1 rv
      cases rv
      exact ⟨z, rfl, ok2 β (L2.Its z) H1 x hr1 it_str⟩
    | ref r =>
      unfold seqIx at ok2
      dsimp only at ok2
      cases q : h1.get r with
      | none => rw [q] at ok2; exact False.elim ok2
      | some o =>
        rw [q] at ok2
        cases o with
        | lst xs =>
          refine (pi_list (X := X) (tg := tg) he).run pins s σ H R I ⟨α, l, h, rl, hr, ?_⟩
          rw [e1]
          intro β v H1 x hr1 rv
          obtain ⟨a, vs, rfl, sq, rs⟩ := asL_is (K := X.K) hr1 rv (asL_get (.inl q))
          obtain ⟨a', ha, e2⟩ := rv
          cases e2
          exact ⟨a, rfl, ⟨vs, sq⟩, ok2 β _ H1 x hr1 (it_lst ha)⟩
        | tup xs =>
          refine (pi_tup (X := X) (tg := tg) he).run pins s σ H R I ⟨α, l, h, rl, hr, ?_⟩
          rw [e1]
          intro β v H1 x hr1 rv
          obtain ⟨a, vs, rfl, sq, rs⟩ := asT_is (K := X.K) hr1 rv (asT_get q)
          obtain ⟨a', ha, e2⟩ := rv
          cases e2
          exact ⟨a, rfl, ⟨vs, sq⟩, ok2 β _ H1 x hr1 (it_tup ha)⟩
        | dK xs => exact False.elim ok2
        | ins C fs => exact False.elim ok2
        | lk u =>
          cases u with
          | lst xs =>
            refine (pi_list (X := X) (tg := tg) he).run pins s σ H R I ⟨α, l, h, rl, hr, ?_⟩
            rw [e1]
            intro β v H1 x hr1 rv
            obtain ⟨a, vs, rfl, sq, rs⟩ := asL_is (K := X.K) hr1 rv (asL_get (.inr q))
            obtain ⟨a', ha, e2⟩ := rv
            cases e2
            exact ⟨a, rfl, ⟨vs, sq⟩, ok2 β _ H1 x hr1 (it_lst ha)⟩
          | dK kvs =>
            refine (pi_keys (X := X) (tg := tg) he).run pins s σ H R I ⟨α, l, h, rl, hr, ?_⟩
            rw [e1]
            intro β v H1 x hr1 rv
            obtain ⟨a, ha, rfl⟩ := rv
            obtain ⟨ob, p, h3, h4⟩ := hr1.lk r a _ ha q
            obtain ⟨p', h5, ob2, p2, h6, vs, rs, h7⟩ := hr1.at ha q
            rw [h3] at h5; cases h5; cases h6; subst h7
            exact ⟨a, ob, rfl, .inl ⟨vs, h3, ok2 β _ H1 x hr1 (it_keys ha h4)⟩⟩
          | tup xs => exact False.elim ok2
          | ins C fs => exact False.elim ok2
          | lk u => exact False.elim ok2
    | non => exact False.elim ok2
    | bl b => exact False.elim ok2
    | int i => exact False.elim ok2
    | ty n => exact False.elim ok2
    | fn a => exact False.elim ok2
/-- d.items(), d.values() of a locked dict -/
def idict (f : Nat → Ix) (m : Ex) : Ei := fun l h => (m l h).bind fun w h1 => match w with
  | .ref r => (match lkD h1 r with | some _ => .ok (f r) h1 | none => .stuck)
  | _ => .stuck
theorem lk_facts {β : Al} {h : Hx} {H : Hp} (hr : HR β h H) {r : Nat} {w : V} {kvs : List (Kx × Vx)} (rv : RV β (.ref r) w) (q : lkD h r = some kvs) : ∃ a ob vs, w = .ref a ∧ β.a[r]? = some a ∧ H a = some (.frz ob (.dK vs)) ∧ (a, ob, HO.dK vs) ∈ β.φ := by
  obtain ⟨a, ha, rfl⟩ := rv
  have q' : h.get r = some (.lk (.dK kvs)) := by
    unfold lkD at q
    cases e : h.get r with
    | none => rw [e] at q; cases q
    | some o =>
      rw [e] at q
      cases o with
      | lk u => cases u <;> first | (cases q; rfl) | cases q
      | _ => cases q
  obtain ⟨ob, p, h3, h4⟩ := hr.lk r a _ ha q'
  obtain ⟨p', h5, ob2, p2, h6, vs, rs, h7⟩ := hr.at ha q'
  rw [h3] at h5; cases h5; cases h6; subst h7
  exact ⟨a, ob, vs, rfl, ha, h3, h4⟩
theorem pi_weak {t t' : TI} (h : PI X tg e t) (w : ∀ σ H Q, t' σ H Q → t σ H Q) : PI X tg e t' := ⟨fun pins s σ H Q I q => h.run pins s σ H Q I (w σ H Q q)⟩
theorem iv_items {elts : List Expr} {kk : Nat} {tpos apos cpos : Pos} (he : PV X W e m) (hbase : attributeBase e "items" X.env (eval e X.env) = eval e X.env := by rfl) (hline : (apos.endLine == cpos.line) = true := by rfl) :
    PVI X W (.Tuple elts kk tpos) (.Call (.Attribute e "items" apos) [] [] cpos) (idict .items m) := by
  refine pi_weak (pi_items he hbase hline) fun σ H Q ⟨α, l, h, rl, hr, ok⟩ => ⟨α, l, h, rl, hr, OKg.mono (OKg.fst (R := RV) ok) ?_⟩
  rintro v H1 ⟨w, h1, β, e1, x, r, rv, ok1⟩
  cases w with
  | ref d =>
    dsimp only at ok1
    cases q : lkD h1 d with
    | none => rw [q] at ok1; exact False.elim ok1
    | some kvs =>
      rw [q] at ok1
      obtain ⟨a, ob, vs, rfl, ha, h3, h4⟩ := lk_facts r rv q
      exact ⟨a, ob, vs, rfl, h3, ok1 β _ H1 (Ext.refl β) r (it_items ha h4)⟩
  | _ => exact False.elim ok1
theorem iv_values {apos cpos : Pos} (he : PV X W e m) (hbase : attributeBase e "values" X.env (eval e X.env) = eval e X.env := by rfl) (hline : (apos.endLine == cpos.line) = true := by rfl) :
    PVI X W tg (.Call (.Attribute e "values" apos) [] [] cpos) (idict .vals m) := by
  refine pi_weak (pi_values he hbase hline) fun σ H Q ⟨α, l, h, rl, hr, ok⟩ => ⟨α, l, h, rl, hr, OKg.mono (OKg.fst (R := RV) ok) ?_⟩
  rintro v H1 ⟨w, h1, β, e1, x, r, rv, ok1⟩
  cases w with
  | ref d =>
    dsimp only at ok1
    cases q : lkD h1 d with
    | none => rw [q] at ok1; exact False.elim ok1
    | some kvs =>
      rw [q] at ok1
      obtain ⟨a, ob, vs, rfl, ha, h3, h4⟩ := lk_facts r rv q
      exact ⟨a, ob, vs, rfl, h3, ok1 β _ H1 (Ext.refl β) r (it_vals ha h4)⟩
  | _ => exact False.elim ok1
/-- range -/
def b62 (i : Int) : Bool := decide (-4611686018427387904 ≤ i) && decide (i < 4611686018427387904)
theorem b62_is {i : Int} (h : b62 i = true) : -(2 ^ 62) ≤ i ∧ i < 2 ^ 62 := by
  unfold b62 at h
  rw [Bool.and_eq_true] at h
  have h1 := of_decide_eq_true h.1
  have h2 := of_decide_eq_true h.2
  omega
def rng1 (w : Vx) (h : Hx) : Rx Ix := match w with
  | .int j => bif b62 j then .ok (.rng 0 1 j.toNat) h else .stuck
  | _ => .stuck
def irng1 (m : Ex) : Ei := fun l h => (m l h).bind rng1
theorem iv_range1 {a : Expr} (hg : Gl X "range") (hm : X.mg "range" = none) (ha : PV X W a m) (hs : starEach [a] X.env = [(false, eval a X.env)] := by rfl) : PVI X W tg (.Call (.Name "range" p) [a] [] pos) (irng1 m) := by
  refine pi_weak (pi_range1 hg hm (pa_cons ha pa_nil hs) hs) fun σ H Q ⟨α, l, h, rl, hr, ok⟩ => ⟨α, l, h, rl, hr, OKg.mono (OKg.fst (R := RV) ok) ?_⟩
  rintro v H1 ⟨w, h1, β, e1, x, r, rv, ok1⟩
  cases w with
  | int j =>
    cases rv
    unfold rng1 at ok1
    dsimp only at ok1
    cases q : b62 j with
    | false => rw [q] at ok1; exact False.elim ok1
    | true =>
      rw [q] at ok1
      exact ⟨j, rfl, (b62_is q).1, (b62_is q).2, ok1 β _ H1 (Ext.refl β) r it_rng1⟩
  | _ => exact False.elim ok1
def rng2 (w z : Vx) (h : Hx) : Rx Ix := match w, z with
  | .int i, .int j => bif b62 i && b62 j then .ok (.rng i 1 (j - i).toNat) h else .stuck
  | _, _ => .stuck
def irng2 (m n : Ex) : Ei := fun l h => (m l h).bind fun w h1 => (n l h1).bind fun z h2 => rng2 w z h2
theorem iv_range2 {a b : Expr} {n : Ex} (hg : Gl X "range") (hm : X.mg "range" = none) (ha : PV X W a m) (hb : PV X W b n) (hs : starEach [a, b] X.env = [(false, eval a X.env), (false, eval b X.env)] := by rfl) (hs2 : starEach [b] X.env = [(false, eval b X.env)] := by rfl)
    (hs3 : starEach [a, b] X.env = (false, eval a X.env) :: starEach [b] X.env := by rfl) : PVI X W tg (.Call (.Name "range" p) [a, b] [] pos) (irng2 m n) := by
  refine pi_weak (pi_range2 hg hm (pa_cons ha (pa_cons hb pa_nil hs2) hs3) hs hs2) fun σ H Q ⟨α, l, h, rl, hr, ok⟩ => ⟨α, l, h, rl, hr, OKg.mono (OKg.fst (R := RV) ok) ?_⟩
  rintro v H1 ⟨w, h1, β, e1, x, r, rv, ok1⟩
  refine ⟨β, l, h1, RL.ext x rl, r, OKg.mono (OKg.fst (R := RV) ok1) ?_⟩
  rintro v2 H2 ⟨w2, h2, γ, e2, x2, r2, rv2, ok2⟩
  cases w with
  | int i =>
    cases w2 with
    | int j =>
      cases rv
      cases rv2
      unfold rng2 at ok2
      dsimp only at ok2
      cases q : (b62 i && b62 j) with
      | false => rw [q] at ok2; exact False.elim ok2
      | true =>
        rw [q] at ok2
        rw [Bool.and_eq_true] at q
        exact ⟨i, j, rfl, ⟨(b62_is q.1).1, (b62_is q.1).2, (b62_is q.2).1, (b62_is q.2).2⟩, ok2 γ _ H2 (Ext.refl γ) r2 it_rng1⟩
    | _ => exact False.elim ok2
  | _ => exact False.elim ok2
def rng3 (w z u : Vx) (h : Hx) : Rx Ix := match w, z, u with
  | .int i, .int j, .int c => bif !decide (c = 0) && (Nat.blt c.natAbs 1073741824 && (Builtin.Range.small i j c && decide (0 ≤ Builtin.Range.rangeSize i j c))) then .ok (.rng i c (Builtin.Range.rangeSize i j c).toNat) h else .stuck
  | _, _, _ => .stuck
def irng3 (m n k : Ex) : Ei := fun l h => (m l h).bind fun w h1 => (n l h1).bind fun z h2 => (k l h2).bind fun u h3 => rng3 w z u h3
theorem iv_range3 {a b c : Expr} {n k : Ex} (hg : Gl X "range") (hm : X.mg "range" = none) (ha : PV X W a m) (hb : PV X W b n) (hc : PV X W c k)
    (hs : starEach [a, b, c] X.env = (false, eval a X.env) :: starEach [b, c] X.env := by rfl) (hs2 : starEach [b, c] X.env = (false, eval b X.env) :: starEach [c] X.env := by rfl) (hs3 : starEach [c] X.env = (false, eval c X.env) :: starEach [] X.env := by rfl) (hpl : (backTo pos (starEach [b, c] X.env)).any (·.1) = false := by rfl) :
    PVI X W tg (.Call (.Name "range" p) [a, b, c] [] pos) (irng3 m n k) := by
  refine pi_weak (pi_range3 hg hm (pa_cons ha (pa_cons hb (pa_cons hc pa_nil hs3) hs2) hs) hs hpl) fun σ H Q ⟨α, l, h, rl, hr, ok⟩ => ⟨α, l, h, rl, hr, OKg.mono (OKg.fst (R := RV) ok) ?_⟩
  rintro v H1 ⟨w, h1, β, e1, x, r, rv, ok1⟩
  refine ⟨β, l, h1, RL.ext x rl, r, OKg.mono (OKg.fst (R := RV) ok1) ?_⟩
  rintro v2 H2 ⟨w2, h2, γ, e2, x2, r2, rv2, ok2⟩
  refine ⟨γ, l, h2, RL.ext (x.trans x2) rl, r2, OKg.mono (OKg.fst (R := RV) ok2) ?_⟩
  rintro v3 H3 ⟨w3, h3, δ, e3, x3, r3, rv3, ok3⟩
  cases w with
  | int i =>
    cases w2 with
    | int j =>
      cases w3 with
      | int c =>
        cases rv
        cases rv2
        cases rv3
        unfold rng3 at ok3
        dsimp only at ok3
        cases q : (!decide (c = 0) && (Nat.blt c.natAbs 1073741824 && (Builtin.Range.small i j c && decide (0 ≤ Builtin.Range.rangeSize i j c)))) with
        | false => rw [q] at ok3; exact False.elim ok3
        | true =>
          rw [q] at ok3
          obtain ⟨q1, q5⟩ := Bool.and_eq_true_iff.mp q
          obtain ⟨q2, q6⟩ := Bool.and_eq_true_iff.mp q5
          obtain ⟨q3, q4⟩ := Bool.and_eq_true_iff.mp q6
          refine ⟨i, j, c, _, rfl, ⟨fun z => (by rw [decide_eq_true z] at q1; cases q1), Nat.blt_eq.mp q2, q3, (Int.toNat_of_nonneg (of_decide_eq_true q4)).symm⟩, ok3 δ _ H3 (Ext.refl δ) r3 it_rng⟩
      | _ => exact False.elim ok3
    | _ => exact False.elim ok3
  | _ => exact False.elim ok3
end
/-! ### locking a dict while a statement, an expression runs -/
def lockD (d : Nat) (kvs : List (Kx × Vx)) (h : Hx) : Hx := h.put d (.lk (.dK kvs))
def unlD (d : Nat) (h : Hx) : Option Hx := match lkD h d with | some kvs => some (h.put d (.dK kvs)) | none => none
def unlS (d : Nat) (r : Sx) : Sx := match r with
  | .nx l h => (match unlD d h with | some h' => .nx l h' | none => .stuck)
  | .ret w h => (match unlD d h with | some h' => .ret w h' | none => .stuck)
  | .brk l h => (match unlD d h with | some h' => .brk l h' | none => .stuck)
  | .cont l h => (match unlD d h with | some h' => .cont l h' | none => .stuck)
  | .exc c e l h => .exc c e l h
  | .stuck => .stuck
/-- the dict (there, not locked) that an expression gives -/
def dictAt (m : Ex) (l : Lx) (h : Hx) : Option (Nat × List (Kx × Vx)) := match m l h with
  | .ok (.ref d) _ => (match h.get d with | some (.dK kvs) => bif Nat.blt d h.n then some (d, kvs) else none | _ => none)
  | _ => none
def lockS (m : Ex) (run : Ms) : Ms := fun l h => match dictAt m l h with
  | some (d, kvs) => unlS d (run l (lockD d kvs h))
  | none => run l h
def lockE (m : Ex) (run : Ex) : Ex := fun l h => match dictAt m l h with
  | some (d, kvs) => (match run l (lockD d kvs h) with
    | .ok w h1 => (match unlD d h1 with | some h2 => .ok w h2 | none => .stuck)
    | .exc c e h1 => .exc c e h1
    | .stuck => .stuck)
  | none => run l h
theorem dictAt_is {m : Ex} {l : Lx} {h : Hx} {d : Nat} {kvs : List (Kx × Vx)} (e : dictAt m l h = some (d, kvs)) : h.get d = some (.dK kvs) ∧ d < h.n := by
  unfold dictAt at e
  cases q : m l h with
  | ok w h1 =>
    rw [q] at e
    cases w with
    | ref d' =>
      dsimp only at e
      cases q2 : h.get d' with
      | none => rw [q2] at e; cases e
      | some o =>
        rw [q2] at e
        cases o with
        | dK ks =>
          dsimp only at e
          cases q3 : Nat.blt d' h.n with
          | false => rw [q3] at e; cases e
          | true =>
            rw [q3] at e
            cases e
            exact ⟨q2, Nat.blt_eq.mp q3⟩
        | _ => cases e
    | _ => cases e
  | _ => rw [q] at e; cases e
theorem at_lt {α : Al} {h : Hx} {H : Hp} (r : HR α h H) {d : Nat} (hd : d < h.n) : ∃ a, α.a[d]? = some a := ⟨α.a[d]'(by rw [r.len]; exact hd), List.getElem?_eq_getElem _⟩
/-- locked -/
theorem HR.lock {α : Al} {h : Hx} {H : Hp} (r : HR α h H) {d : Nat} {a : Addr} {kvs : List (Kx × Vx)} {vs : List (L2.Key × V)} (ha : α.a[d]? = some a) (hH : H a = some (.dK vs)) (rs : RPs α kvs vs) (ob : Obj) :
    HR ⟨α.a, (a, ob, .dK vs) :: α.φ⟩ (lockD d kvs h) (upd H a (.frz ob (.dK vs))) := by
  have ne : ∀ p ∈ α.φ, p.1 ≠ a := fun p hp z => by
    have q := r.frz p hp
    rw [z, hH] at q; cases q
  refine ⟨r.len, r.nd, fun j b hb => ?_, fun q hq => ?_, fun j b v hb hv => ?_⟩
  · unfold lockD
    rw [Hx.get_put]
    by_cases e : d = j
    · rw [if_pos e]
      subst e
      have hb : α.a[d]? = some b := hb
      rw [ha] at hb
      cases hb
      exact ⟨_, _, rfl, upd_same, ob, .dK vs, rfl, vs, Paired.mono (fun _ _ k => ⟨k.1, RV.same (α := α) k.2 rfl⟩) rs, rfl⟩
    · rw [if_neg e]
      obtain ⟨o', q, h1, h2, h3⟩ := r.obj j b hb
      refine ⟨o', q, h1, ?_, RO.same (α := α) (β := ⟨α.a, (a, ob, .dK vs) :: α.φ⟩) rfl h3⟩
      rw [upd_ne fun z => e (r.inj ha (by rw [← z]; exact hb))]
      exact h2
  · rcases List.mem_cons.mp hq with e | m
    · rw [e]; exact upd_same
    · rw [upd_ne (ne q m)]; exact r.frz q m
  · unfold lockD at hv
    rw [Hx.get_put] at hv
    by_cases e : d = j
    · rw [if_pos e] at hv
      subst e
      have hb : α.a[d]? = some b := hb
      rw [ha] at hb
      cases hb
      exact ⟨ob, .dK vs, upd_same, List.mem_cons_self⟩
    · rw [if_neg e] at hv
      obtain ⟨ob', q, h1, h2⟩ := r.lk j b v hb hv
      refine ⟨ob', q, ?_, List.mem_cons_of_mem _ h2⟩
      rw [upd_ne fun z => e (r.inj ha (by rw [← z]; exact hb))]
      exact h1
/-- the other locks -/
def pop (a : Addr) (m : List (Addr × Obj × HO)) (α : Al) (l : List Addr) : Al := ⟨α.a ++ l, m.filter (fun p => decide (p.1 ≠ a)) ++ α.φ⟩
theorem unlock_at {α β : Al} {h : Hx} {H : Hp} {d : Nat} {a : Addr} {ob : Obj} {vs : List (L2.Key × V)} {kvs : List (Kx × Vx)} (x : Ext ⟨α.a, (a, ob, HO.dK vs) :: α.φ⟩ β) (r : HR β h H) (ha : α.a[d]? = some a) (q : lkD h d = some kvs) (na : ∀ p ∈ α.φ, p.1 ≠ a) :
    H a = some (.frz ob (.dK vs)) ∧ ∃ γ, Ext α γ ∧ γ.a = β.a ∧ HR γ (h.put d (.dK kvs)) (upd H a (.dK vs)) := by
  have hb : β.a[d]? = some a := x.get ha
  have hf : (a, ob, HO.dK vs) ∈ β.φ := x.fr List.mem_cons_self
  obtain ⟨h1, rs⟩ := lk_same r hf hb q
  refine ⟨h1, ?_⟩
  obtain ⟨l, m, rfl⟩ := x
  refine ⟨pop a m α l, ⟨l, _, rfl⟩, rfl, ?_⟩
  refine ⟨r.len, r.nd, fun j b hb' => ?_, fun p hp => ?_, fun j b v hb' hv => ?_⟩
  · rw [Hx.get_put]
    by_cases e : d = j
    · rw [if_pos e]
      subst e
      have hb' : (α.a ++ l)[d]? = some b := hb'
      have hb : (α.a ++ l)[d]? = some a := hb
      rw [hb] at hb'
      cases hb'
      refine ⟨_, _, rfl, upd_same, vs, ?_, rfl⟩
      exact Paired.mono (fun _ _ k => ⟨k.1, RV.same (α := ⟨α.a ++ l, m ++ (a, ob, HO.dK vs) :: α.φ⟩) k.2 rfl⟩) rs
    · rw [if_neg e]
      obtain ⟨o', q', h2, h3, h4⟩ := r.obj j b hb'
      refine ⟨o', q', h2, ?_, ?_⟩
      · rw [upd_ne fun z => e (r.inj hb (by rw [← z]; exact hb'))]
        exact h3
      · exact RO.same (α := ⟨α.a ++ l, m ++ (a, ob, HO.dK vs) :: α.φ⟩) (β := pop a m α l) rfl h4
  · have hp : p ∈ m.filter (fun p => decide (p.1 ≠ a)) ++ α.φ := hp
    have np : p.1 ≠ a := by
      rcases List.mem_append.mp hp with k | k
      · exact of_decide_eq_true (List.mem_filter.mp k).2
      · exact na p k
    rw [upd_ne np]
    refine r.frz p ?_
    show p ∈ m ++ (a, ob, HO.dK vs) :: α.φ
    rcases List.mem_append.mp hp with k | k
    · exact List.mem_append_left _ (List.mem_filter.mp k).1
    · exact List.mem_append_right _ (List.mem_cons_of_mem _ k)
  · rw [Hx.get_put] at hv
    by_cases e : d = j
    · rw [if_pos e] at hv; cases hv
    · rw [if_neg e] at hv
      obtain ⟨ob', q', h2, h3⟩ := r.lk j b v hb' hv
      have nb : b ≠ a := fun z => e (r.inj hb (by rw [← z]; exact hb'))
      refine ⟨ob', q', by rw [upd_ne nb]; exact h2, ?_⟩
      show (b, ob', q') ∈ m.filter (fun p => decide (p.1 ≠ a)) ++ α.φ
      have h3 : (b, ob', q') ∈ m ++ (a, ob, HO.dK vs) :: α.φ := h3
      rcases List.mem_append.mp h3 with k | k
      · exact List.mem_append_left _ (List.mem_filter.mpr ⟨k, decide_eq_true nb⟩)
      · rcases List.mem_cons.mp k with k | k
        · cases k; exact absurd rfl nb
        · exact List.mem_append_right _ k
section
variable {X : Cx} {W : WX} {st : Stmt} {run : Ms} {e : Expr} {rune : Ex}
theorem unl_some {d : Nat} {h h' : Hx} (q : unlD d h = some h') : ∃ kvs, lkD h d = some kvs ∧ h' = h.put d (.dK kvs) := by
  unfold unlD at q
  cases e : lkD h d with
  | none => rw [e] at q; cases q
  | some kvs => rw [e] at q; cases q; exact ⟨kvs, rfl, rfl⟩
theorem sv_lock (m : Ex) (hs : PVS X W st run) : PVS X W st (lockS m run) := by
  refine ⟨fun pins s σ H D I ⟨α, l, h, rl, hr, ok⟩ => ?_⟩
  unfold lockS at ok
  cases q : dictAt m l h with
  | none => rw [q] at ok; exact hs.run pins s σ H D I ⟨α, l, h, rl, hr, ok⟩
  | some p =>
    obtain ⟨d, kvs⟩ := p
    rw [q] at ok
    dsimp only at ok
    obtain ⟨g1, g2⟩ := dictAt_is q
    obtain ⟨a, ha⟩ := at_lt hr g2
    obtain ⟨p, hp, vs, rs, e⟩ := hr.at ha g1
    subst e
    have na : ∀ p ∈ α.φ, p.1 ≠ a := fun p hm z => by
      have k := hr.frz p hm
      rw [z, hp] at k; cases k
    refine (ps_lock hs).run pins s σ H D I ⟨a, .dK vs, hp, trivial, fun od => ⟨⟨α.a, (a, od, .dK vs) :: α.φ⟩, l, lockD d kvs h, RL.same rl rfl, hr.lock ha hp rs od, ?_⟩⟩
    cases e1 : run l (lockD d kvs h) with
    | nx l1 h1 =>
      rw [e1] at ok
      have ok : OKS α W (match unlD d h1 with | some h' => .nx l1 h' | none => .stuck) D := ok
      cases q2 : unlD d h1 with
      | none => rw [q2] at ok; exact False.elim ok
      | some h2 =>
        rw [q2] at ok
        obtain ⟨ks, q3, rfl⟩ := unl_some q2
        intro β σ1 H1 x rl1 hr1
        obtain ⟨z1, γ, y1, y2, y3⟩ := unlock_at x hr1 ha q3 na
        exact ⟨z1, ok γ σ1 _ y1 (RL.same rl1 y2.symm) y3⟩
    | brk l1 h1 =>
      rw [e1] at ok
      have ok : OKS α W (match unlD d h1 with | some h' => .brk l1 h' | none => .stuck) D := ok
      cases q2 : unlD d h1 with
      | none => rw [q2] at ok; exact False.elim ok
      | some h2 =>
        rw [q2] at ok
        obtain ⟨ks, q3, rfl⟩ := unl_some q2
        intro β σ1 H1 x rl1 hr1
        obtain ⟨z1, γ, y1, y2, y3⟩ := unlock_at x hr1 ha q3 na
        exact ⟨z1, ok γ σ1 _ y1 (RL.same rl1 y2.symm) y3⟩
    | cont l1 h1 =>
      rw [e1] at ok
      have ok : OKS α W (match unlD d h1 with | some h' => .cont l1 h' | none => .stuck) D := ok
      cases q2 : unlD d h1 with
      | none => rw [q2] at ok; exact False.elim ok
      | some h2 =>
        rw [q2] at ok
        obtain ⟨ks, q3, rfl⟩ := unl_some q2
        intro β σ1 H1 x rl1 hr1
        obtain ⟨z1, γ, y1, y2, y3⟩ := unlock_at x hr1 ha q3 na
        exact ⟨z1, ok γ σ1 _ y1 (RL.same rl1 y2.symm) y3⟩
    | ret w h1 =>
      rw [e1] at ok
      have ok : OKS α W (match unlD d h1 with | some h' => .ret w h' | none => .stuck) D := ok
      cases q2 : unlD d h1 with
      | none => rw [q2] at ok; exact False.elim ok
      | some h2 =>
        rw [q2] at ok
        obtain ⟨ks, q3, rfl⟩ := unl_some q2
        intro β v H1 x hr1 rv
        obtain ⟨z1, γ, y1, y2, y3⟩ := unlock_at x hr1 ha q3 na
        exact ⟨z1, ok γ v _ y1 y3 (RV.same rv y2.symm)⟩
    | exc c e l1 h1 =>
      rw [e1] at ok
      intro β σ1 cv da H1 x rl1 hr1 rx
      refine ok β σ1 cv da H1 ?_ rl1 hr1 rx
      obtain ⟨l', m', rfl⟩ := x
      exact ⟨l', m' ++ [(a, od, HO.dK vs)], by simp⟩
    | stuck => rw [e1] at ok; exact False.elim ok
theorem pv_lock (m : Ex) (hs : PV X W e rune) : PV X W e (lockE m rune) := by
  refine ⟨fun pins s σ H Q I ⟨α, l, h, rl, hr, ok⟩ => ?_⟩
  unfold lockE at ok
  cases q : dictAt m l h with
  | none => rw [q] at ok; exact hs.run pins s σ H Q I ⟨α, l, h, rl, hr, ok⟩
  | some p =>
    obtain ⟨d, kvs⟩ := p
    rw [q] at ok
    dsimp only at ok
    obtain ⟨g1, g2⟩ := dictAt_is q
    obtain ⟨a, ha⟩ := at_lt hr g2
    obtain ⟨p, hp, vs, rs, e⟩ := hr.at ha g1
    subst e
    have na : ∀ p ∈ α.φ, p.1 ≠ a := fun p hm z => by
      have k := hr.frz p hm
      rw [z, hp] at k; cases k
    refine (pe_lock hs).run pins s σ H Q I ⟨a, .dK vs, hp, trivial, fun od => ⟨⟨α.a, (a, od, .dK vs) :: α.φ⟩, l, lockD d kvs h, RL.same rl rfl, hr.lock ha hp rs od, ?_⟩⟩
    cases e1 : rune l (lockD d kvs h) with
    | ok w h1 =>
      rw [e1] at ok
      dsimp only at ok
      cases q2 : unlD d h1 with
      | none => rw [q2] at ok; exact False.elim ok
      | some h2 =>
        rw [q2] at ok
        obtain ⟨ks, q3, rfl⟩ := unl_some q2
        intro β v H1 x hr1 rv
        obtain ⟨z1, γ, y1, y2, y3⟩ := unlock_at x hr1 ha q3 na
        exact ⟨z1, ok γ v _ y1 y3 (RV.same rv y2.symm)⟩
    | exc c e h1 =>
      rw [e1] at ok
      intro β cv da H1 x hr1 rx
      refine ok β cv da H1 ?_ hr1 rx
      obtain ⟨l', m', rfl⟩ := x
      exact ⟨l', m' ++ [(a, od, HO.dK vs)], by simp⟩
    | stuck => rw [e1] at ok; exact False.elim ok
end
/-! ### for -/
def loop (ix : Ix) (t : Tgt) (body : Ms) : Nat → Nat → Ms
  | 0, _, _, _ => .stuck
  | f + 1, i, l, h => match step ix i h with
    | none => .stuck
    | some none => .nx l h
    | some (some (w, h1)) => (match t.bd w h1 with
      | none => .stuck
      | some va => (match body (stoL l va) h1 with
        | .nx l2 h2 => loop ix t body f (i + 1) l2 h2
        | .cont l2 h2 => loop ix t body f (i + 1) l2 h2
        | .brk l2 h2 => .nx l2 h2
        | .ret w h2 => .ret w h2
        | .exc c d l2 h2 => .exc c d l2 h2
        | .stuck => .stuck))
/-- how many turns at most -/
def turns (ix : Ix) (h : Hx) : Nat := match ix with
  | .lst r => (match asL (.ref r) h with | some xs => xs.length | none => 0)
  | .tup r => (match asT (.ref r) h with | some xs => xs.length | none => 0)
  | .rng _ _ n => n
  | .str s => s.length
  | .keys d => (match lkD h d with | some xs => xs.length | none => 0)
  | .vals d => (match lkD h d with | some xs => xs.length | none => 0)
  | .items d => (match lkD h d with | some xs => xs.length | none => 0)
  | .enum r => (match asL (.ref r) h with | some xs => xs.length | none => 0)
  | .zip r _ => (match asL (.ref r) h with | some xs => xs.length | none => 0)
  | .zipT r _ => (match asT (.ref r) h with | some xs => xs.length | none => 0)
def mfor (mi : Ei) (t : Tgt) (body : Ms) : Ms := fun l h => (mi l h).st l fun ix h1 => loop ix t body (turns ix h1 + 1) 0 l h1
section
variable {X : Cx} {W : WX} {tg it : Expr} {mi : Ei} {t : Tgt} {body : Ms} {sts : List Stmt} {pos : Pos}
theorem sv_for (hp : PassesOwn (model X.prog X.w) X.A X.env X.xe) (hc : X.calm = true) (hi : PVI X W tg it mi) (hg : PG X tg (tgT X.K t)) (hb : PVSs X W sts body) (hs : ∀ x, foldedSetIterable it X.env x = pure x := by intro _; rfl) : PVS X W (.For tg it sts [] pos) (mfor mi t body) := by
  refine ps_weak (ps_for hp hc hi hg hb hs) fun D σ H ⟨α, l, h, rl, hr, ok⟩ => ⟨α, l, h, rl, hr, OKg.mono (OKS.fst (R := fun β ix J => ItOK β ix J) rl ok) ?_⟩
  rintro J H1 ⟨ix, h1, β, e1, x, r, ji, ok1⟩
  refine ⟨fun i m σ' H' => ∃ γ l' h', Ext β γ ∧ RL γ l' σ' ∧ HR γ h' H' ∧ OKS γ W (loop ix t body m i l' h') D, ⟨_, β, l, h1, Ext.refl β, RL.ext x rl, r, ok1⟩, ?_⟩
  rintro i m σ' H' ⟨γ, l', h', x2, rl2, hr2, ok2⟩
  cases m with
  | zero => exact False.elim ok2
  | succ m =>
    have jj := ji γ h' H' i x2 hr2
    unfold loop at ok2
    cases q : step ix i h' with
    | none => rw [q] at ok2; exact False.elim ok2
    | some r1 =>
      rw [q] at ok2 jj
      cases r1 with
      | none => exact .inl ⟨jj, ok2 γ σ' H' (Ext.refl γ) rl2 hr2⟩
      | some p =>
        obtain ⟨w, h2⟩ := p
        dsimp only at ok2 jj
        refine .inr ⟨jj.1, fun σ3 H3 => ∃ m', m' < m + 1 ∧ ∃ γ l' h', Ext β γ ∧ RL γ l' σ3 ∧ HR γ h' H3 ∧ OKS γ W (loop ix t body m' (i + 1) l' h') D, fun σ3 H3 z => z, fun y H3 hy => ?_⟩
        obtain ⟨δ, x3, hr3, rv⟩ := jj.2 y H3 hy
        cases q2 : t.bd w h2 with
        | none => rw [q2] at ok2; exact False.elim ok2
        | some va =>
          rw [q2] at ok2
          dsimp only at ok2
          obtain ⟨asg, as, ra⟩ := bd_is (K := X.K) hr3 rv q2
          refine ⟨asg, as, δ, stoL l' va, h2, stoL_ok ra (RL.ext x3 rl2), hr3, ?_⟩
          have ok3 := OKS.ext x3 ok2
          have again : ∀ {l3 : Lx} {h3 : Hx} {ε : Al} {σ4 : L2.St} {H4 : Hp}, OKS δ W (loop ix t body m (i + 1) l3 h3) D → Ext δ ε → RL ε l3 σ4 → HR ε h3 H4 →
              ∃ m', m' < m + 1 ∧ ∃ γ l' h', Ext β γ ∧ RL γ l' σ4 ∧ HR γ h' H4 ∧ OKS γ W (loop ix t body m' (i + 1) l' h') D := fun {l3 h3 ε σ4 H4} k x4 rl4 hr4 =>
            ⟨m, Nat.lt_succ_self m, ε, l3, h3, (x2.trans x3).trans x4, rl4, hr4, OKS.ext x4 k⟩
          cases q3 : body (stoL l' va) h2 with
          | nx l3 h3 => rw [q3] at ok3; exact fun ε σ4 H4 x4 rl4 hr4 => again ok3 x4 rl4 hr4
          | cont l3 h3 => rw [q3] at ok3; exact fun ε σ4 H4 x4 rl4 hr4 => again ok3 x4 rl4 hr4
          | brk l3 h3 => rw [q3] at ok3; exact ok3
          | ret w3 h3 => rw [q3] at ok3; exact ok3
          | exc c d l3 h3 => rw [q3] at ok3; exact ok3
          | stuck => rw [q3] at ok3; exact ok3
/-- while -/
def wloop (c : Et) (body : Ms) : Nat → Ms
  | 0, _, _ => .stuck
  | f + 1, l, h => (c l h).st l fun b h1 => bif b then (match body l h1 with
        | .nx l2 h2 => wloop c body f l2 h2
        | .cont l2 h2 => wloop c body f l2 h2
        | .brk l2 h2 => .nx l2 h2
        | .ret w h2 => .ret w h2
        | .exc c d l2 h2 => .exc c d l2 h2
        | .stuck => .stuck) else .nx l h1
theorem sv_while {c : Expr} {mc : Et} (n : Nat) (hp : PassesOwn (model X.prog X.w) X.A X.env X.xe) (hc : PVt X W c mc) (hb : PVSs X W sts body) : PVS X W (.While c sts [] pos) (wloop mc body n) := by
  refine ps_weak (ps_while hp hc hb) fun D σ H ⟨α, l, h, rl, hr, ok⟩ => ?_
  refine ⟨fun m σ' H' => ∃ γ l' h', RL γ l' σ' ∧ HR γ h' H' ∧ OKS γ W (wloop mc body m l' h') D, ⟨n, α, l, h, rl, hr, ok⟩, ?_⟩
  rintro m σ' H' ⟨γ, l', h', rl2, hr2, ok2⟩
  cases m with
  | zero => exact False.elim ok2
  | succ m =>
    unfold wloop at ok2
    refine ⟨γ, l', h', rl2, hr2, OKg.mono (OKS.fst (R := fun _ a b => b = a) rl2 ok2) ?_⟩
    rintro b H3 ⟨b', h3, β, e1, x, r, rfl, ok3⟩
    cases b with
    | false => rw [if_neg (Bool.false_ne_true)]; exact ok3 β σ' H3 (Ext.refl β) (RL.ext x rl2) r
    | true =>
      rw [if_pos rfl]
      have ok3 : OKS β W (match body l' h3 with
        | .nx l2 h2 => wloop mc body m l2 h2
        | .cont l2 h2 => wloop mc body m l2 h2
        | .brk l2 h2 => .nx l2 h2
        | .ret w h2 => .ret w h2
        | .exc c d l2 h2 => .exc c d l2 h2
        | .stuck => .stuck) D := ok3
      refine ⟨fun σ4 H4 => ∃ m', m' < m + 1 ∧ ∃ γ l' h', RL γ l' σ4 ∧ HR γ h' H4 ∧ OKS γ W (wloop mc body m' l' h') D, fun σ4 H4 z => z, β, l', h3, RL.ext x rl2, r, ?_⟩
      have again : ∀ {l3 : Lx} {h3 : Hx} {ε : Al} {σ4 : L2.St} {H4 : Hp}, OKS β W (wloop mc body m l3 h3) D → Ext β ε → RL ε l3 σ4 → HR ε h3 H4 → ∃ m', m' < m + 1 ∧ ∃ γ l' h', RL γ l' σ4 ∧ HR γ h' H4 ∧ OKS γ W (wloop mc body m' l' h') D :=
        fun {l3 h3 ε σ4 H4} k x4 rl4 hr4 => ⟨m, Nat.lt_succ_self m, ε, l3, h3, rl4, hr4, OKS.ext x4 k⟩
      cases q3 : body l' h3 with
      | nx l3 h3 => rw [q3] at ok3; exact fun ε σ4 H4 x4 rl4 hr4 => again ok3 x4 rl4 hr4
      | cont l3 h3 => rw [q3] at ok3; exact fun ε σ4 H4 x4 rl4 hr4 => again ok3 x4 rl4 hr4
      | brk l3 h3 => rw [q3] at ok3; exact ok3
      | ret w3 h3 => rw [q3] at ok3; exact ok3
      | exc c d l3 h3 => rw [q3] at ok3; exact ok3
      | stuck => rw [q3] at ok3; exact ok3
end
end SV

set_option Elab.async false
set_option linter.all false
set_option maxRecDepth 100000
set_option maxHeartbeats 4800000
/-! dicts as lists; comprehensions. -/
namespace SV
open PySem L2 PySem.Spec PyProof.Rows
variable [GA]
def leq : List Nat → List Nat → Bool
  | [], [] => true
  | a :: r, b :: q => bif Nat.beq a b then leq r q else false
  | _, _ => false
theorem leq_is : ∀ (a b : List Nat), leq a b = decide (a = b)
  | [], [] => rfl
  | [], _ :: _ => rfl
  | _ :: _, [] => rfl
  | a :: r, b :: q => by
    show (bif Nat.beq a b then leq r q else false) = _
    by_cases h : a = b
    · subst h
      rw [Nat.beq_refl, cond_true, leq_is r q]
      simp
    · rw [nbeq h, cond_false]
      simp [h]
def seq (a b : Str) : Bool := leq a.cps.toList b.cps.toList
theorem str_eq {a b : Str} : (a.cps.toList = b.cps.toList) = (a = b) := propext ⟨fun h => by
  obtain ⟨⟨x⟩⟩ := a
  obtain ⟨⟨y⟩⟩ := b
  have h : x = y := h
  rw [h], fun h => by rw [h]⟩
theorem seq_is (a b : Str) : seq a b = decide (a = b) := by
  unfold seq
  rw [leq_is]
  simp only [str_eq]
def keq : Kx → Kx → Bool
  | .inl a, .inl b => decide (a = b)
  | .inr a, .inr b => seq a b
  | _, _ => false
theorem keq_is : ∀ a b : Kx, keq a b = decide (a = b)
  | .inl a, .inl b => by show decide (a = b) = _; simp
  | .inr a, .inr b => by show seq a b = _; rw [seq_is]; simp
  | .inl a, .inr b => by show false = _; simp
  | .inr a, .inl b => by show false = _; simp
/-! ### pairs by key -/
def getX : List (Kx × Vx) → Kx → Option Vx
  | [], _ => none
  | p :: r, k => bif keq p.1 k then some p.2 else getX r k
def hasX (kvs : List (Kx × Vx)) (k : Kx) : Bool := match getX kvs k with | some _ => true | none => false
def repX : List (Kx × Vx) → Kx → Vx → List (Kx × Vx)
  | [], _, _ => []
  | p :: r, k, v => (bif keq p.1 k then (p.1, v) else p) :: repX r k v
def putX (kvs : List (Kx × Vx)) (k : Kx) (v : Vx) : List (Kx × Vx) := bif hasX kvs k then repX kvs k v else kvs ++ [(k, v)]
def dropX : List (Kx × Vx) → Kx → List (Kx × Vx)
  | [], _ => []
  | p :: r, k => bif keq p.1 k then dropX r k else p :: dropX r k
theorem getX_is {α : Al} (k : Kx) : ∀ {kvs : List (Kx × Vx)} {vs : List (L2.Key × V)}, RPs α kvs vs → match getX kvs k with | some w => ∃ v, valV vs k = some v ∧ RV α w v | none => valV vs k = none
  | _, _, .nil => rfl
  | _, _, .cons (a := p) (b := q) (l₁ := r) (l₂ := t) ⟨h1, h2⟩ rest => by
    show match (bif keq p.1 k then some p.2 else getX r k) with | some w => ∃ v, valV (q :: t) k = some v ∧ RV α w v | none => valV (q :: t) k = none
    rw [keq_is]
    by_cases e : p.1 = k
    · rw [decide_eq_true e, cond_true]
      exact ⟨q.2, valV_pos (by rw [← h1]; exact e), h2⟩
    · rw [decide_eq_false e, cond_false, valV_neg (by rw [← h1]; exact e)]
      exact getX_is k rest
theorem hasX_is {α : Al} {k : Kx} {kvs : List (Kx × Vx)} {vs : List (L2.Key × V)} (r : RPs α kvs vs) : hasX kvs k = (valV vs k).isSome := by
  have z := getX_is k r
  unfold hasX
  cases e : getX kvs k with
  | none => rw [e] at z; rw [show valV vs k = none from z]; rfl
  | some w =>
    rw [e] at z
    obtain ⟨v, h, _⟩ := z
    rw [h]; rfl
theorem repX_is {α : Al} (k : Kx) {w : Vx} {v : V} (rv : RV α w v) : ∀ {kvs : List (Kx × Vx)} {vs : List (L2.Key × V)}, RPs α kvs vs → RPs α (repX kvs k w) (vs.map fun kv => if kv.1 = k then (kv.1, v) else kv)
  | _, _, .nil => .nil
  | _, _, .cons (a := p) (b := q) ⟨h1, h2⟩ rest => by
    refine .cons ?_ (repX_is k rv rest)
    show RP α (bif keq p.1 k then (p.1, w) else p) (if q.1 = k then (q.1, v) else q)
    rw [keq_is]
    by_cases e : p.1 = k
    · rw [decide_eq_true e, cond_true, if_pos (by rw [← h1]; exact e)]
      exact ⟨h1, rv⟩
    · rw [decide_eq_false e, cond_false, if_neg (by rw [← h1]; exact e)]
      exact ⟨h1, h2⟩
theorem putX_is {α : Al} {k : Kx} {w : Vx} {v : V} (rv : RV α w v) {kvs : List (Kx × Vx)} {vs : List (L2.Key × V)} (r : RPs α kvs vs) : RPs α (putX kvs k w) (putK vs k v) := by
  unfold putX putK
  rw [valV_any, ← hasX_is r]
  cases hasX kvs k with
  | true => rw [cond_true, if_pos rfl]; exact repX_is k rv r
  | false => rw [cond_false, if_neg Bool.false_ne_true]; exact papp r (.cons ⟨rfl, rv⟩ .nil)
theorem dropX_is {α : Al} (k : Kx) : ∀ {kvs : List (Kx × Vx)} {vs : List (L2.Key × V)}, RPs α kvs vs → RPs α (dropX kvs k) (dropK vs k)
  | _, _, .nil => .nil
  | _, _, .cons (a := p) (b := q) (l₁ := r) (l₂ := t) ⟨h1, h2⟩ rest => by
    show Paired _ (bif keq p.1 k then dropX r k else p :: dropX r k) (List.filter _ (q :: t))
    rw [keq_is, List.filter_cons]
    by_cases e : p.1 = k
    · rw [decide_eq_true e, cond_true, decide_eq_false (by rw [← h1]; exact fun z => z e), if_neg Bool.false_ne_true]
      exact dropX_is k rest
    · rw [decide_eq_false e, cond_false, decide_eq_true (by rw [← h1]; exact e), if_pos rfl]
      exact .cons ⟨h1, h2⟩ (dropX_is k rest)
def kxOf : Vx → Option Kx
  | .int i => some (.inl i)
  | .str s => some (.inr s)
  | _ => none
theorem kxOf_is {α : Al} {w : Vx} {v : V} {k : Kx} (rv : RV α w v) (e : kxOf w = some k) : v = kV k := by
  cases w <;> first | (cases e; exact rv) | cases e
def mergeX (kvs more : List (Kx × Vx)) : List (Kx × Vx) := more.foldl (fun acc kv => putX acc kv.1 kv.2) kvs
theorem mergeX_is {α : Al} : ∀ {more : List (Kx × Vx)} {ms : List (L2.Key × V)} {kvs : List (Kx × Vx)} {vs : List (L2.Key × V)}, RPs α more ms → RPs α kvs vs → RPs α (mergeX kvs more) (mergeK vs ms)
  | _, _, _, _, .nil, r => r
  | _, _, kvs, vs, .cons (a := p) (b := q) ⟨h1, h2⟩ t, r => by
    show RPs α (mergeX (putX kvs p.1 p.2) _) (mergeK (putK vs q.1 q.2) _)
    refine mergeX_is t ?_
    have h1 : p.1 = q.1 := h1
    rw [← h1]
    exact putX_is h2 r
/-! ### comprehensions -/
abbrev W0 : WX := fun _ _ _ _ => False
def Rx.noX {A : Type} (r : Rx A) : Rx A := match r with
  | .exc _ _ _ => .stuck
  | r => r
theorem OKg.noX {A B : Type} {R : Al → A → B → Prop} {α : Al} {σ σ' : L2.St} {W W' : WX} {r : Rx A} {Q : B → Hp → Prop} (h : OKg R α σ W r.noX Q) : OKg R α σ' W' r Q := by
  cases r with
  | ok a hx => exact h
  | exc c d hx => exact False.elim h
  | stuck => exact h
def addL (d : Nat) (y : Vx) (h : Hx) : Option Hx := match h.get d with
  | some (.lst acc) => bif Nat.blt acc.length sline then some (h.put d (.lst (acc ++ [y]))) else none
  | _ => none
def addD (d : Nat) (k v : Vx) (h : Hx) : Option Hx := match kxOf k with
  | some k => (match h.get d with
    | some (.dK kvs) => bif Nat.blt kvs.length sline then some (h.put d (.dK (putX kvs k v))) else none
    | _ => none)
  | none => none
/-- the turns of a comprehension; fin: what a turn lays into d -/
def cloop (ix : Ix) (t : Tgt) (tt : Et) (one : Lx → Hx → Rx Hx) (d : Nat) (lw : Lx) : Nat → Nat → Hx → Rx Vx
  | 0, _, _ => .stuck
  | f + 1, i, h => match step ix i h with
    | none => .stuck
    | some none => .ok (.ref d) h
    | some (some (w, h1)) => (match t.bd w h1 with
      | none => .stuck
      | some va => ((tt (stoL lw va) h1).noX).bind fun b h2 => bif b then (one (stoL lw va) h2).bind fun h3 _ => cloop ix t tt one d lw f (i + 1) h3 else cloop ix t tt one d lw f (i + 1) h2)
def oneL (d : Nat) (m : Ex) : Lx → Hx → Rx Hx := fun l h => ((m l h).noX).bind fun y h1 => match addL d y h1 with | some h2 => .ok h2 h2 | none => .stuck
def oneD (d : Nat) (k v : Ex) : Lx → Hx → Rx Hx := fun l h => ((k l h).noX).bind fun x h1 => ((v l h1).noX).bind fun y h2 => match addD d x y h2 with | some h3 => .ok h3 h3 | none => .stuck
def vlc (mi : Ei) (t : Tgt) (tt : Et) (m : Ex) (vs : List Nat) : Ex := fun l h => (mi l h).bind fun ix h1 => cloop ix t tt (oneL h1.n m) h1.n (wipeL l vs) (turns ix h1 + 1) 0 (h1.new (.lst []))
def vdc (mi : Ei) (t : Tgt) (tt : Et) (k v : Ex) (vs : List Nat) : Ex := fun l h => (mi l h).bind fun ix h1 => cloop ix t tt (oneD h1.n k v) h1.n (wipeL l vs) (turns ix h1 + 1) 0 (h1.new (.dK []))
def tyes : Et := fun _ h => .ok true h
section
variable {X : Cx} {W : WX} {tg iter elt kx' vx' : Expr} {ifs : List Expr} {scope : Scope} {own : List (Str × Nat)} {pos : Pos} {mi : Ei} {t : Tgt} {tt : Et} {m mk mv : Ex}
theorem pts_weak {t t' : TT} (h : PTs X ifs t) (w : ∀ σ H Q, t' σ H Q → t σ H Q) : PTs X ifs t' := ⟨fun pins s σ H Q I q => h.run pins s σ H Q I (w σ H Q q)⟩
theorem ct_nil : PTs X [] (tIt W tyes) := pts_weak pts_nil fun σ H Q ⟨α, l, h, rl, hr, ok⟩ => ok α true H (Ext.refl α) hr rfl
theorem ct_one {c : Expr} (h : PVt X W c tt) : PTs X [c] (tIt W tt) := pts_one h
theorem lc_read {vs0 : List Nat} (hsl : ∀ i ∈ t.slots, i ∈ vs0) {σ : L2.St} {H : Hp} {Q : VK} (q : tI W (vlc mi t tt m vs0) σ H Q) : tLc (tIi W mi) (tgT X.K t) (tIt W0 tt) (tI W0 m) vs0 σ H Q := by
  obtain ⟨α, l, h, rl, hr, ok⟩ := q
  refine ⟨α, l, h, rl, hr, OKg.mono (OKg.fst (R := fun β ix J => ItOK β ix J) ok) ?_⟩
  rintro J H1 ⟨ix, h1, β, e1, x, r, ji, ok1⟩
  intro D hD
  have hr0 := r.new (o := .lst []) (u := .lst []) hD ⟨[], .nil, rfl⟩ (fun _ z => nomatch z)
  have hDa : (β.snoc D).a[h1.n]? = some D := snoc_at r D
  have rlw : RL (β.snoc D) (wipeL l vs0) (L2.wipe σ vs0) := wipeL_ok (RL.ext (x.trans (Ext.snoc β D)) rl) _
  refine ⟨fun i n H' => ∃ γ h', Ext (β.snoc D) γ ∧ HR γ h' H' ∧ OK γ σ W (cloop ix t tt (oneL h1.n m) h1.n (wipeL l vs0) n i h') Q, ⟨_, β.snoc D, h1.new (.lst []), Ext.refl _, hr0, OKg.ext (Ext.snoc β D) ok1⟩, ?_⟩
  rintro i n H' ⟨γ, h', x2, hr2, ok2⟩
  cases n with
  | zero => exact False.elim ok2
  | succ n =>
    have jj := ji γ h' H' i ((Ext.snoc β D).trans x2) hr2
    have ok2 : OK γ σ W (match step ix i h' with
      | none => .stuck
      | some none => .ok (.ref h1.n) h'
      | some (some (w, h1')) => (match t.bd w h1' with
        | none => .stuck
        | some va => ((tt (stoL (wipeL l vs0) va) h1').noX).bind fun b h2 => bif b then (oneL h1.n m (stoL (wipeL l vs0) va) h2).bind fun h3 _ => cloop ix t tt (oneL h1.n m) h1.n (wipeL l vs0) n (i + 1) h3 else cloop ix t tt (oneL h1.n m) h1.n (wipeL l vs0) n (i + 1) h2)) Q := ok2
    cases q : step ix i h' with
    | none => rw [q] at ok2; exact False.elim ok2
    | some r1 =>
      rw [q] at ok2 jj
      cases r1 with
      | none => exact .inl ⟨jj, ok2 γ (.ref D) H' (Ext.refl γ) hr2 ⟨D, x2.get hDa, rfl⟩⟩
      | some p =>
        obtain ⟨w, h2⟩ := p
        dsimp only at ok2 jj
        refine .inr ⟨jj.1, fun H3 => ∃ n', n' < n + 1 ∧ ∃ γ h', Ext (β.snoc D) γ ∧ HR γ h' H3 ∧ OK γ σ W (cloop ix t tt (oneL h1.n m) h1.n (wipeL l vs0) n' (i + 1) h') Q, fun H3 z => z, fun y H3 hy => ?_⟩
        obtain ⟨δ, x3, hr3, rv⟩ := jj.2 y H3 hy
        cases q2 : t.bd w h2 with
        | none => rw [q2] at ok2; exact False.elim ok2
        | some va =>
          rw [q2] at ok2
          dsimp only at ok2
          obtain ⟨asg, as, ra⟩ := bd_is (K := X.K) hr3 rv q2
          have rl3 : RL δ (stoL (wipeL l vs0) va) (sto (L2.wipe σ vs0) asg) := stoL_ok ra (RL.ext (x2.trans x3) rlw)
          refine ⟨asg, as, ?_, δ, _, h2, rl3, hr3, ?_⟩
          · rw [wipe_sto fun p hp => hsl p.1 (ASG.slots as p hp), wipe_wipe]
          · refine OKg.mono (OKg.noX (OKg.fst (R := fun _ a b => b = a) (OKg.ext x3 ok2))) ?_
            rintro b H4 ⟨b', h4, ε, e4, x4, hr4, rfl, ok4⟩
            cases b with
            | false =>
              rw [if_neg (Bool.false_ne_true)]
              exact ⟨n, Nat.lt_succ_self n, ε, h4, (x2.trans x3).trans x4, hr4, ok4⟩
            | true =>
              rw [if_pos rfl]
              have ok4 : OK ε σ W ((oneL h1.n m (stoL (wipeL l vs0) va) h4).bind fun h3 _ => cloop ix t tt (oneL h1.n m) h1.n (wipeL l vs0) n (i + 1) h3) Q := ok4
              refine ⟨ε, _, h4, RL.ext x4 rl3, hr4, ?_⟩
              unfold oneL at ok4
              cases q5 : m (stoL (wipeL l vs0) va) h4 with
              | exc c d h5 => rw [q5] at ok4; exact False.elim ok4
              | stuck => rw [q5] at ok4; exact False.elim ok4
              | ok y5 h5 =>
                rw [q5] at ok4
                have ok4 : OK ε σ W ((match addL h1.n y5 h5 with | some h2 => Rx.ok h2 h2 | none => .stuck).bind fun h3 _ => cloop ix t tt (oneL h1.n m) h1.n (wipeL l vs0) n (i + 1) h3) Q := ok4
                intro ζ v5 H5 x5 hr5 rv5
                cases q6 : addL h1.n y5 h5 with
                | none => rw [q6] at ok4; exact False.elim ok4
                | some h6 =>
                  rw [q6] at ok4
                  have ok4 : OK ε σ W (cloop ix t tt (oneL h1.n m) h1.n (wipeL l vs0) n (i + 1) h6) Q := ok4
                  have hDz : ζ.a[h1.n]? = some D := (((x2.trans x3).trans x4).trans x5).get hDa
                  unfold addL at q6
                  cases q7 : h5.get h1.n with
                  | none => rw [q7] at q6; cases q6
                  | some o =>
                    rw [q7] at q6
                    obtain ⟨p, hp, ro⟩ := hr5.at hDz q7
                    cases o with
                    | lst acc =>
                      obtain ⟨vs, rs, rfl⟩ := ro
                      dsimp only at q6
                      cases q8 : Nat.blt acc.length sline with
                      | false => rw [q8] at q6; cases q6
                      | true =>
                        rw [q8] at q6
                        cases q6
                        refine ⟨vs, hp, by rw [plen rs, sline_is]; exact Nat.blt_eq.mp q8, n, Nat.lt_succ_self n, ζ, _, ((x2.trans x3).trans x4).trans x5, hr5.put (o := .lst (acc ++ [y5])) hDz hp (fun _ _ z => nomatch z) ⟨_, papp rs (.cons rv5 .nil), rfl⟩ (fun _ z => nomatch z), OKg.ext x5 ok4⟩
                    | _ => cases q6
theorem pv_lc (hc : X.calm = true) (hN : X.N.Nodup) (hi : PVI X W tg iter mi) (ok : BlkOk X.N X.env.scope scope own) (hsl : ∀ i ∈ t.slots, i ∈ own.map (·.2))
    (hg : ∀ (s : Shared) (H : Hp) (C : Addr) (cl : List (Str × Addr)) (fp : List Addr), PG (X.blk s H scope (compEnvC scope cl C X.env) fp) tg (tgT X.K t)) (ht : ∀ (s : Shared) (H : Hp) (C : Addr) (cl : List (Str × Addr)) (fp : List Addr), PTs (X.blk s H scope (compEnvC scope cl C X.env) fp) ifs (tIt W0 tt))
    (he : ∀ (s : Shared) (H : Hp) (C : Addr) (cl : List (Str × Addr)) (fp : List Addr), PV (X.blk s H scope (compEnvC scope cl C X.env) fp) W0 elt m) (hs : ∀ x, foldedSetIterable iter X.env x = pure x := by intro _; rfl) :
    PV X W (.ListComp elt [⟨tg, iter, ifs, 0⟩] scope pos) (vlc mi t tt m (own.map (·.2))) := pe_weak (pe_lc hc hN hi ok hg ht he hs) fun σ H Q q => lc_read hsl q
/-- name = [..] -/
theorem sv_lc {i : Nat} {y : Str} {py spos : Pos} (hc : X.calm = true) (hN : X.N.Nodup) (hy : X.N[i]? = some y) (hyl : X.env.scope.names.lookup y = some .local) (hsw : swapsWith (.ListComp elt [⟨tg, iter, ifs, 0⟩] scope pos) (some (.Name y py)) spos.line X.env = pure true)
    (hi : PVI X W tg iter mi) (ok : BlkOk X.N X.env.scope scope own) (hsl : ∀ i ∈ t.slots, i ∈ own.map (·.2))
    (hg : ∀ (s : Shared) (H : Hp) (C : Addr) (cl : List (Str × Addr)) (fp : List Addr), PG (X.blk s H scope (compEnvC scope cl C X.env) fp) tg (tgT X.K t)) (ht : ∀ (s : Shared) (H : Hp) (C : Addr) (cl : List (Str × Addr)) (fp : List Addr), PTs (X.blk s H scope (compEnvC scope cl C X.env) fp) ifs (tIt W0 tt))
    (he : ∀ (s : Shared) (H : Hp) (C : Addr) (cl : List (Str × Addr)) (fp : List Addr), PV (X.blk s H scope (compEnvC scope cl C X.env) fp) W0 elt m) (hs : ∀ x, foldedSetIterable iter X.env x = pure x := by intro _; rfl) :
    PVS X W (.Assign [.Name y py] (.ListComp elt [⟨tg, iter, ifs, 0⟩] scope pos) spos) (mset i (vlc mi t tt m (own.map (·.2)))) := by
  refine ps_weak (ps_setLc hc hN hy hyl hsw hi ok hg ht he hs) fun D σ H ⟨α, l, h, rl, hr, ok⟩ => lc_read hsl ⟨α, l, h, rl, hr, OKg.mono (OKS.fst (R := RV) rl ok) ?_⟩
  rintro v H1 ⟨w, h2, β, e1, x, r, rv, ok1⟩
  exact ok1 β _ H1 (Ext.refl β) (RL.set (RL.ext x rl) i rv) r
theorem dc_read {vs0 : List Nat} (hsl : ∀ i ∈ t.slots, i ∈ vs0) {σ : L2.St} {H : Hp} {Q : VK} (q : tI W (vdc mi t tt mk mv vs0) σ H Q) : tDc (tIi W mi) (tgT X.K t) (tIt W0 tt) (tI W0 mk) (tI W0 mv) vs0 σ H Q := by
  obtain ⟨α, l, h, rl, hr, ok⟩ := q
  refine ⟨α, l, h, rl, hr, OKg.mono (OKg.fst (R := fun β ix J => ItOK β ix J) ok) ?_⟩
  rintro J H1 ⟨ix, h1, β, e1, x, r, ji, ok1⟩
  intro D hD
  have hr0 := r.new (o := .dK []) (u := .dK []) hD ⟨[], .nil, rfl⟩ (fun _ z => nomatch z)
  have hDa : (β.snoc D).a[h1.n]? = some D := snoc_at r D
  have rlw : RL (β.snoc D) (wipeL l vs0) (L2.wipe σ vs0) := wipeL_ok (RL.ext (x.trans (Ext.snoc β D)) rl) _
  refine ⟨fun i n H' => ∃ γ h', Ext (β.snoc D) γ ∧ HR γ h' H' ∧ OK γ σ W (cloop ix t tt (oneD h1.n mk mv) h1.n (wipeL l vs0) n i h') Q, ⟨_, β.snoc D, h1.new (.dK []), Ext.refl _, hr0, OKg.ext (Ext.snoc β D) ok1⟩, ?_⟩
  rintro i n H' ⟨γ, h', x2, hr2, ok2⟩
  cases n with
  | zero => exact False.elim ok2
  | succ n =>
    have jj := ji γ h' H' i ((Ext.snoc β D).trans x2) hr2
    have ok2 : OK γ σ W (match step ix i h' with
      | none => .stuck
      | some none => .ok (.ref h1.n) h'
      | some (some (w, h1')) => (match t.bd w h1' with
        | none => .stuck
        | some va => ((tt (stoL (wipeL l vs0) va) h1').noX).bind fun b h2 => bif b then (oneD h1.n mk mv (stoL (wipeL l vs0) va) h2).bind fun h3 _ => cloop ix t tt (oneD h1.n mk mv) h1.n (wipeL l vs0) n (i + 1) h3 else cloop ix t tt (oneD h1.n mk mv) h1.n (wipeL l vs0) n (i + 1) h2)) Q := ok2
    cases q : step ix i h' with
    | none => rw [q] at ok2; exact False.elim ok2
    | some r1 =>
      rw [q] at ok2 jj
      cases r1 with
      | none => exact .inl ⟨jj, ok2 γ (.ref D) H' (Ext.refl γ) hr2 ⟨D, x2.get hDa, rfl⟩⟩
      | some p =>
        obtain ⟨w, h2⟩ := p
        dsimp only at ok2 jj
        refine .inr ⟨jj.1, fun H3 => ∃ n', n' < n + 1 ∧ ∃ γ h', Ext (β.snoc D) γ ∧ HR γ h' H3 ∧ OK γ σ W (cloop ix t tt (oneD h1.n mk mv) h1.n (wipeL l vs0) n' (i + 1) h') Q, fun H3 z => z, fun y H3 hy => ?_⟩
        obtain ⟨δ, x3, hr3, rv⟩ := jj.2 y H3 hy
        cases q2 : t.bd w h2 with
        | none => rw [q2] at ok2; exact False.elim ok2
        | some va =>
          rw [q2] at ok2
          dsimp only at ok2
          obtain ⟨asg, as, ra⟩ := bd_is (K := X.K) hr3 rv q2
          have rl3 : RL δ (stoL (wipeL l vs0) va) (sto (L2.wipe σ vs0) asg) := stoL_ok ra (RL.ext (x2.trans x3) rlw)
          refine ⟨asg, as, ?_, δ, _, h2, rl3, hr3, ?_⟩
          · rw [wipe_sto fun p hp => hsl p.1 (ASG.slots as p hp), wipe_wipe]
          · refine OKg.mono (OKg.noX (OKg.fst (R := fun _ a b => b = a) (OKg.ext x3 ok2))) ?_
            rintro b H4 ⟨b', h4, ε, e4, x4, hr4, rfl, ok4⟩
            cases b with
            | false =>
              rw [if_neg (Bool.false_ne_true)]
              exact ⟨n, Nat.lt_succ_self n, ε, h4, (x2.trans x3).trans x4, hr4, ok4⟩
            | true =>
              rw [if_pos rfl]
              have ok4 : OK ε σ W ((oneD h1.n mk mv (stoL (wipeL l vs0) va) h4).bind fun h3 _ => cloop ix t tt (oneD h1.n mk mv) h1.n (wipeL l vs0) n (i + 1) h3) Q := ok4
              refine ⟨ε, _, h4, RL.ext x4 rl3, hr4, ?_⟩
              unfold oneD at ok4
              cases q5 : mk (stoL (wipeL l vs0) va) h4 with
              | exc c d h5 => rw [q5] at ok4; exact False.elim ok4
              | stuck => rw [q5] at ok4; exact False.elim ok4
              | ok yk h5 =>
                rw [q5] at ok4
                intro ζ vk H5 x5 hr5 rvk
                have ok4 : OK ε σ W ((((mv (stoL (wipeL l vs0) va) h5).noX).bind fun y h2 => match addD h1.n yk y h2 with | some h3 => Rx.ok h3 h3 | none => .stuck).bind fun h3 _ => cloop ix t tt (oneD h1.n mk mv) h1.n (wipeL l vs0) n (i + 1) h3) Q := ok4
                refine ⟨ζ, _, h5, RL.ext (x4.trans x5) rl3, hr5, ?_⟩
                cases q5' : mv (stoL (wipeL l vs0) va) h5 with
                | exc c d h5 => rw [q5'] at ok4; exact False.elim ok4
                | stuck => rw [q5'] at ok4; exact False.elim ok4
                | ok yv h5' =>
                  rw [q5'] at ok4
                  intro η vv H6 x6 hr6 rvv
                  have ok4 : OK ε σ W ((match addD h1.n yk yv h5' with | some h3 => Rx.ok h3 h3 | none => .stuck).bind fun h3 _ => cloop ix t tt (oneD h1.n mk mv) h1.n (wipeL l vs0) n (i + 1) h3) Q := ok4
                  cases q6 : addD h1.n yk yv h5' with
                  | none => rw [q6] at ok4; exact False.elim ok4
                  | some h6 =>
                    rw [q6] at ok4
                    have ok4 : OK ε σ W (cloop ix t tt (oneD h1.n mk mv) h1.n (wipeL l vs0) n (i + 1) h6) Q := ok4
                    have hDz : η.a[h1.n]? = some D := ((((x2.trans x3).trans x4).trans x5).trans x6).get hDa
                    unfold addD at q6
                    cases q9 : kxOf yk with
                    | none => rw [q9] at q6; cases q6
                    | some key =>
                    rw [q9] at q6
                    dsimp only at q6
                    cases q7 : h5'.get h1.n with
                    | none => rw [q7] at q6; cases q6
                    | some o =>
                      rw [q7] at q6
                      obtain ⟨p, hp, ro⟩ := hr6.at hDz q7
                      cases o with
                      | dK acc =>
                        obtain ⟨vs, rs, rfl⟩ := ro
                        dsimp only at q6
                        cases q8 : Nat.blt acc.length sline with
                        | false => rw [q8] at q6; cases q6
                        | true =>
                          rw [q8] at q6
                          cases q6
                          exact ⟨vs, key, kxOf_is rvk q9, hp, by rw [plen rs, sline_is]; exact Nat.blt_eq.mp q8, n, Nat.lt_succ_self n, η, _, (((x2.trans x3).trans x4).trans x5).trans x6, hr6.put (o := .dK (putX acc key yv)) hDz hp (fun _ _ z => nomatch z) ⟨_, putX_is rvv rs, rfl⟩ (fun _ z => nomatch z), OKg.ext (x5.trans x6) ok4⟩
                      | _ => cases q6
theorem pv_dc (hc : X.calm = true) (hN : X.N.Nodup) (hi : PVI X W tg iter mi) (ok : BlkOk X.N X.env.scope scope own) (hsl : ∀ i ∈ t.slots, i ∈ own.map (·.2))
    (hg : ∀ (s : Shared) (H : Hp) (C : Addr) (cl : List (Str × Addr)) (fp : List Addr), PG (X.blk s H scope (compEnvC scope cl C X.env) fp) tg (tgT X.K t)) (ht : ∀ (s : Shared) (H : Hp) (C : Addr) (cl : List (Str × Addr)) (fp : List Addr), PTs (X.blk s H scope (compEnvC scope cl C X.env) fp) ifs (tIt W0 tt))
    (hk : ∀ (s : Shared) (H : Hp) (C : Addr) (cl : List (Str × Addr)) (fp : List Addr), PV (X.blk s H scope (compEnvC scope cl C X.env) fp) W0 kx' mk) (he : ∀ (s : Shared) (H : Hp) (C : Addr) (cl : List (Str × Addr)) (fp : List Addr), PV (X.blk s H scope (compEnvC scope cl C X.env) fp) W0 vx' mv) (hs : ∀ x, foldedSetIterable iter X.env x = pure x := by intro _; rfl) :
    PV X W (.DictComp kx' vx' [⟨tg, iter, ifs, 0⟩] scope pos) (vdc mi t tt mk mv (own.map (·.2))) := pe_weak (pe_dc hc hN hi ok hg ht hk he hs) fun σ H Q q => dc_read hsl q
end
end SV

set_option Elab.async false
set_option linter.all false
set_option maxRecDepth 100000
set_option maxHeartbeats 4800000
/-! defs, classes, attributes, methods. -/
namespace SV
open PySem L2 PySem.Spec PyProof.Rows
variable [GA]
abbrev Fx := List Vx → Hx → Rx Vx
/-- a def's promise: it does what g does -/
def spV (g : Fx) : Sp := fun vs H Q E => ∃ α ws h, RVs α ws vs ∧ HR α h H ∧ OK α [] (fun c d _ H' => E c d H') (g ws h) Q
abbrev FnV (P : Program) (w : World) (K : PySem.W.Frag) (mg : Str → Option Value) (base : Heap) (k : Nat) (f : Addr) (g : Fx) : Prop := FnR P w K mg base (L2.CX P w) k f (spV g)
/-- known in the context X -/
abbrev FnX (X : Cx) (k : Nat) (f : Addr) (g : Fx) : Prop := FnV X.prog X.w X.K X.mg X.base k f g
section
variable {X : Cx} {W : WX} {pins : List (Addr × Obj)} {s : Shared} {σ : L2.St} {H : Hp} {α : Al} {h : Hx} {k C : Nat} {f : Addr} {g : Fx} {ws : List Vx} {vs : List V} {us : List Value} {Q : VK}
theorem run_V {A : Around} (F : FnX X k f g) (tk : Takes X W) (hr : Room k A) (e0 : Env0 X.prog X.w X.K X.mg X.base A X.stack s H) (I : Inv X pins σ H s) (hh : HR α h H) (rv : RVs α ws vs) (r : Vals vs us) (ok : OK α σ W (g ws h) Q) :
    codeAny (model X.prog X.w) A (.call (.ref f) ⟨us, []⟩) (fun r s' => match r with | .ok (.ret v) => EP X pins σ Q v s' | .ok _ => False | .error e => X.xe e s') s := by
  have sp : spV g vs H Q (fun c d H' => W c d σ H') := by
    refine ⟨α, ws, h, rv, hh, ?_⟩
    cases e1 : g ws h with
    | ok w h1 => rw [e1] at ok; exact ok
    | exc c d h1 => rw [e1] at ok; exact ok
    | stuck => rw [e1] at ok; exact ok
  refine codeAny_mono (F A X.stack s H us vs Q (fun c d H' => W c d σ H') hr e0 r sp) fun r s' q => ?_
  cases r with
  | error e => exact tk e s' (XE.of_call I (fun _ _ _ z => z) q)
  | ok fl =>
    cases fl with
    | ret u => exact I.after q
    | next => exact False.elim q
    | brk => exact False.elim q
    | cont => exact False.elim q
theorem call_V (F : FnX X k f g) (tk : Takes X W) (hr : Room k X.A) (I : Inv X pins σ H s) (hh : HR α h H) (rv : RVs α ws vs) (r : Vals vs us) (ok : OK α σ W (g ws h) Q) : wpAny (model X.prog X.w) X.A (call (.ref f) us) (EP X pins σ Q) X.xe s :=
  wpAny_call (run_V F tk hr I.env0 I hh rv r ok)
/-- C(..) -/
def mk (C : Nat) (g : Fx) : Fx := fun ws h => (g (.ref h.n :: ws) (h.new (.ins C []))).bind fun v h1 => match v with | .non => .ok (.ref h.n) h1 | _ => .stuck
theorem make_V (M : Mk X.K (GA.g C) f) (F : FnX X k f g) (tk : Takes X W) (hr : Room (k + 1) X.A) (I : Inv X pins σ H s) (hh : HR α h H) (rv : RVs α ws vs) (r : Vals vs us) (ok : OK α σ W (mk C g ws h) Q) : wpAny (model X.prog X.w) X.A (call (.ref (GA.g C)) us) (EP X pins σ Q) X.xe s := by
  have I2 := Inv.made (C := GA.g C) I
  have f1 : H s.heap.objs.size = none := I.hok.fresh (Nat.le_refl _)
  have f2 : H (s.heap.objs.size + 1) = none := I.hok.fresh (Nat.le_succ _)
  have hh1 : HR α h (upd H s.heap.objs.size (.own (s.heap.objs.size + 1))) := hh.more fun b o e => by rw [upd_ne (ne_of_none e f1)]; exact e
  have hh2 := hh1.new (p := s.heap.objs.size + 1) (o := .ins C []) (u := .ins (GA.g C) s.heap.objs.size []) (by rw [upd_ne (Nat.succ_ne_self _)]; exact f2) ⟨_, [], .nil, rfl⟩ (fun _ z => nomatch z)
  have rv2 : RVs (α.snoc (s.heap.objs.size + 1)) (.ref h.n :: ws) (.ref (s.heap.objs.size + 1) :: vs) := .cons ⟨_, snoc_at hh1 _, rfl⟩ (RVs.ext (Ext.snoc α _) rv)
  have ok2 := OKg.fst (R := RV) (OKg.ext (Ext.snoc α (s.heap.objs.size + 1)) ok)
  refine wpAny_call (make_map (f := f) I.kIn M.makes M.init (beq_iff_eq.mp M.fn) (codeAny_mono (run_V F tk (hr.make (GA.g C) us []) (I2.env0.make (GA.g C) us []) I2 hh2 rv2 (us := .ref (s.heap.objs.size + 1) :: us) (.cons rfl r) ok2) fun r s' q => ?_))
  cases r with
  | error e => exact q
  | ok fl =>
    cases fl with
    | ret u =>
      obtain ⟨v, H', I3, ru, w, h1, β, e1, x, hr1, rw1, ok1⟩ := q
      cases w with
      | non =>
        cases rw1
        refine ⟨ru, .ref (s.heap.objs.size + 1), H', I3, rfl, ok1 β _ H' (Ext.refl β) hr1 ?_⟩
        exact ⟨_, x.get (snoc_at hh1 _), rfl⟩
      | _ => exact False.elim ok1
    | next => exact False.elim q
    | brk => exact False.elim q
    | cont => exact False.elim q
end
/-! ### calls by a global name -/
section
variable {X : Cx} {W : WX} {k C : Nat} {f : Addr} {g : Fx} {x m : Str} {p pos apos pos' : Pos} {e o : Expr} {es : List Expr} {ms : Es} {mo me : Ex}
def vcall (g : Fx) (ms : Es) : Ex := fun l h => (ms l h).bind g
theorem pv_call (F : FnX X k f g) (tk : Takes X W) (hr : Room k X.A) (hg : Gl X x) (hm : X.mg x = some (.ref f)) (hk : PySem.W.keepIn X.K (.ref f) = true) (ha : PVs X W (e :: es) ms) (hdb : (x == ("__debug__" : Str)) = false := by decide)
    (he : starEach (e :: es) X.env = (false, eval e X.env) :: starEach es X.env := by rfl) (hpl : (backTo pos (starEach es X.env)).any (·.1) = false := by rfl) : PV X W (.Call (.Name x p) (e :: es) [] pos) (vcall g ms) :=
  ⟨fun pins s σ H Q I ⟨α, l, h, rl, hr0, ok⟩ => wpAny_Call_Name_kw (ld_glob I hg hm (PySem.W.callWith_K (h₀ := X.base) I.ok.mod.kin hk (goVs ha I rl hr0 ok fun w h1 β v H1 s1 u e1 x1 rl1 hr1 rv1 ru1 I1 ok1 => ⟨I1.kIn, call_V F tk hr I1 hr1 rv1 ru1 ok1⟩) he hpl) hdb)⟩
theorem pv_call0 (F : FnX X k f g) (tk : Takes X W) (hr : Room k X.A) (hg : Gl X x) (hm : X.mg x = some (.ref f)) (hk : PySem.W.keepIn X.K (.ref f) = true) (hdb : (x == ("__debug__" : Str)) = false := by decide) : PV X W (.Call (.Name x p) [] [] pos) (vcall g esn) :=
  ⟨fun pins s σ H Q I ⟨α, l, h, rl, hr0, ok⟩ => wpAny_Call_Name_kw (ld_glob I hg hm (PySem.W.callWith_K0 I.kIn hk (call_V (ws := []) (vs := []) (us := []) F tk hr I hr0 .nil .nil ok)) hdb)⟩
theorem pv_make (M : Mk X.K (GA.g C) f) (F : FnX X k f g) (tk : Takes X W) (hr : Room (k + 1) X.A) (hg : Gl X x) (hm : X.mg x = some (.ref (GA.g C))) (ha : PVs X W (e :: es) ms) (hdb : (x == ("__debug__" : Str)) = false := by decide)
    (he : starEach (e :: es) X.env = (false, eval e X.env) :: starEach es X.env := by rfl) (hpl : (backTo pos (starEach es X.env)).any (·.1) = false := by rfl) : PV X W (.Call (.Name x p) (e :: es) [] pos) (vcall (mk C g) ms) :=
  ⟨fun pins s σ H Q I ⟨α, l, h, rl, hr0, ok⟩ => wpAny_Call_Name_kw (ld_glob I hg hm (PySem.W.callWith_K (h₀ := X.base) I.ok.mod.kin M.kp (goVs ha I rl hr0 ok fun w h1 β v H1 s1 u e1 x1 rl1 hr1 rv1 ru1 I1 ok1 => ⟨I1.kIn, make_V M F tk hr I1 hr1 rv1 ru1 ok1⟩) he hpl) hdb)⟩
theorem pv_make0 (M : Mk X.K (GA.g C) f) (F : FnX X k f g) (tk : Takes X W) (hr : Room (k + 1) X.A) (hg : Gl X x) (hm : X.mg x = some (.ref (GA.g C))) (hdb : (x == ("__debug__" : Str)) = false := by decide) : PV X W (.Call (.Name x p) [] [] pos) (vcall (mk C g) esn) :=
  ⟨fun pins s σ H Q I ⟨α, l, h, rl, hr0, ok⟩ => wpAny_Call_Name_kw (ld_glob I hg hm (PySem.W.callWith_K0 I.kIn M.kp (make_V (ws := []) (vs := []) (us := []) M F tk hr I hr0 .nil .nil ok)) hdb)⟩
/-! ### built-in functions and types by name -/
def CallN (X : Cx) (W : WX) (f : Value) (g : Fx) : Prop := OpN X W (fun us => call f us) fun ws h => some (g ws h)
theorem pv_callB {id : String} (hc : CallN X W (.builtin id) g) (hg : Gl X x) (hm : X.mg x = none) (hv : bootBuiltins x = some (.builtin id)) (ha : PVs X W (e :: es) ms) (hn : x ≠ "__name__" := by decide) (hdb : (x == ("__debug__" : Str)) = false := by decide)
    (he : starEach (e :: es) X.env = (false, eval e X.env) :: starEach es X.env := by rfl) (hpl : (backTo pos (starEach es X.env)).any (·.1) = false := by rfl) : PV X W (.Call (.Name x p) (e :: es) [] pos) (vcall g ms) :=
  ⟨fun pins s σ H Q I ⟨α, l, h, rl, hr0, ok⟩ => wpAny_Call_Name_kw (ld_blt I hg hm hv (PyProof.Rows.callWith_builtin1 (goVs ha I rl hr0 ok fun w h1 β v H1 s1 u e1 x1 rl1 hr1 rv1 ru1 I1 ok1 => hc pins s1 σ H1 Q β h1 w v u _ I1 hr1 rv1 ru1 rfl ok1) he hpl) hn hdb)⟩
theorem pv_callTy {T : String} (hc : CallN X W (.type T) g) (hg : Gl X x) (hm : X.mg x = none) (hv : bootBuiltins x = some (.type T)) (ha : PVs X W (e :: es) ms) (hn : x ≠ "__name__" := by decide) (hdb : (x == ("__debug__" : Str)) = false := by decide)
    (he : starEach (e :: es) X.env = (false, eval e X.env) :: starEach es X.env := by rfl) (hpl : (backTo pos (starEach es X.env)).any (·.1) = false := by rfl) : PV X W (.Call (.Name x p) (e :: es) [] pos) (vcall g ms) :=
  ⟨fun pins s σ H Q I ⟨α, l, h, rl, hr0, ok⟩ => wpAny_Call_Name_kw (ld_blt I hg hm hv (PyProof.Rows.callWith_type1 (goVs ha I rl hr0 ok fun w h1 β v H1 s1 u e1 x1 rl1 hr1 rv1 ru1 I1 ok1 => hc pins s1 σ H1 Q β h1 w v u _ I1 hr1 rv1 ru1 rfl ok1) he hpl) hn hdb)⟩
/-! ### attributes -/
def lkF : List (Str × Vx) → Str → Option Vx
  | [], _ => none
  | p :: r, f => bif seq p.1 f then some p.2 else lkF r f
theorem lkF_is {α : Al} (f : Str) : ∀ {fs : List (Str × Vx)} {vs : List (Str × V)}, RPs α fs vs → match lkF fs f with | some w => ∃ v, vs.lookup f = some v ∧ RV α w v | none => vs.lookup f = none
  | _, _, .nil => rfl
  | _, _, .cons (a := p) (b := q) (l₁ := r) (l₂ := t) ⟨h1, h2⟩ rest => by
    show match (bif seq p.1 f then some p.2 else lkF r f) with | some w => ∃ v, (q :: t).lookup f = some v ∧ RV α w v | none => (q :: t).lookup f = none
    obtain ⟨qk, qv⟩ := q
    have h1 : p.1 = qk := h1
    rw [seq_is, List.lookup_cons]
    by_cases e : p.1 = f
    · rw [decide_eq_true e, cond_true]
      have : (f == qk) = true := by rw [← h1, e]; exact beq_self_eq_true f
      rw [this]
      exact ⟨qv, rfl, h2⟩
    · rw [decide_eq_false e, cond_false]
      have : (f == qk) = false := by rw [← h1]; exact beq_false_of_ne (Ne.symm e)
      rw [this]
      exact lkF_is f rest
def setF (f : Str) (w : Vx) : List (Str × Vx) → List (Str × Vx)
  | [] => [(f, w)]
  | p :: r => bif seq p.1 f then (p.1, w) :: r else p :: setF f w r
theorem setF_is {α : Al} (f : Str) {w : Vx} {v : V} (rv : RV α w v) : ∀ {fs : List (Str × Vx)} {vs : List (Str × V)}, RPs α fs vs → RPs α (setF f w fs) (putF f v vs)
  | _, _, .nil => .cons ⟨rfl, rv⟩ .nil
  | _, _, .cons (a := p) (b := q) (l₁ := r) (l₂ := t) ⟨h1, h2⟩ rest => by
    obtain ⟨qk, qv⟩ := q
    have h1 : p.1 = qk := h1
    show Paired _ (bif seq p.1 f then (p.1, w) :: r else p :: setF f w r) (if qk = f then (qk, v) :: t else (qk, qv) :: putF f v t)
    rw [seq_is]
    by_cases e : p.1 = f
    · rw [decide_eq_true e, cond_true, if_pos (by rw [← h1]; exact e)]
      exact .cons ⟨h1, rv⟩ rest
    · rw [decide_eq_false e, cond_false, if_neg (by rw [← h1]; exact e)]
      exact .cons ⟨h1, h2⟩ (setF_is f rv rest)
/-- what a class has under a name -/
inductive Ak where
  | fld | prop (g : Fx) | con (w : Vx)
inductive AkOK (X : Cx) (f : Str) (C : Nat) : Ak → Prop where
  | fld : Cls X.K (GA.g C) → NoAttr X.K (GA.g C) f → AkOK X f C .fld
  | prop {p q : Addr} {k : Nat} {g : Fx} : Cls X.K (GA.g C) → PropOf X.K (GA.g C) f p q → FnX X k q g → Room (k + 1) X.A → AkOK X f C (.prop g)
  | con {w : Vx} {v : V} {u : Value} : Cls X.K (GA.g C) → Con X.K (GA.g C) f v u → (∀ α, RV α w v) → AkOK X f C (.con w)
def attrV (tb : Nat → Option Ak) (f : Str) (w : Vx) (h : Hx) : Rx Vx := match asI w h with
  | some (C, fs) => (match tb C with
    | some .fld => (match lkF fs f with | some v => .ok v h | none => .stuck)
    | some (.prop g) => (g [w] h).noX
    | some (.con c) => (match lkF fs f with | some _ => .stuck | none => .ok c h)
    | none => .stuck)
  | none => .stuck
theorem getprop_V {pins : List (Addr × Obj)} {σ : L2.St} {H : Hp} {s : Shared} {Q : VK} {b : Bool} {E' : Value → Shared → Prop} {α : Al} {h : Hx} {a dx p q C : Addr} {fs : List (Str × V)} {w : Vx} {f : Str} (I : Inv X pins σ H s) (ea : H a = some (.ins C dx fs)) (c : Cls X.K C) (hp : PropOf X.K C f p q)
    (F : FnX X k q g) (hr : Room (k + 1) X.A) (hh : HR α h H) (rv : RV α w (.ref a)) (ok : OK α σ W (g [w] h).noX Q) : wpAny (model X.prog X.w) X.A (getAttr (.ref a) f b) (EP X pins σ Q) E' s := by
  obtain ⟨mA, O, _, _, _, _⟩ := ins_get I.hok ea
  obtain ⟨od, J, _⟩ := O.look
  obtain ⟨rest, hrec⟩ := hp.rec_
  have I1 := I.tok (s.toks + 1)
  have hcI : (PySem.W.clsIn X.K C).isSome = true := by
    obtain ⟨cd, hcd, _⟩ := PySem.W.any_some c.hd
    rw [hcd]; rfl
  refine PySem.W.get_bind I.kIn J (PySem.W.plainGet_of (c.get f)).1 (PySem.W.findObj_data hcI hp.at_ hp.get hp.tak) (PySem.W.plainGet_of (c.get f)).2 (wpAny_call (PySem.W.prop_get (s := { s with toks := s.toks + 1 }) I.kIn hrec ?_))
  have tk0 : Takes X.nox W0 := takes0
  have F' : FnX X.nox k q g := F
  refine codeAny_mono (run_V (X := X.nox) (W := W0) F' tk0 (hr.in1) (I1.wish _).env0.in1 (I1.wish _) hh (.cons rv .nil) (us := [.ref a]) (.cons rfl .nil) (OKg.noX ok)) fun r s' z => ?_
  cases r with
  | error er => exact False.elim z
  | ok fl =>
    cases fl with
    | ret u =>
      obtain ⟨v, H', I3, rv', q3⟩ := z
      show wpAny _ _ (handedOut u) _ _ _
      rw [PySem.W.handedOut_of (handed_of rv')]
      exact wpAny_pure ⟨v, H', I3.unwish, rv', q3⟩
    | next => exact False.elim z
    | brk => exact False.elim z
    | cont => exact False.elim z
theorem get_V {pins : List (Addr × Obj)} {σ : L2.St} {H : Hp} {s : Shared} {Q : VK} {b : Bool} {E' : Value → Shared → Prop} {α : Al} {h : Hx} {w : Vx} {v : V} {u : Value} {f f' : Str} {tb : Nat → Option Ak} (hf : f = f') (htb : ∀ C a, tb C = some a → AkOK X f C a) (I : Inv X pins σ H s) (hh : HR α h H) (rv : RV α w v) (ru : RelV v u)
    (ok : OK α σ W (attrV tb f' w h) Q) : wpAny (model X.prog X.w) X.A (getAttr u f b) (EP X pins σ Q) E' s := by
  subst hf
  unfold attrV at ok
  cases q : asI w h with
  | none => rw [q] at ok; exact False.elim ok
  | some p =>
    obtain ⟨C, fs⟩ := p
    rw [q] at ok
    dsimp only at ok
    obtain ⟨i, a, dx, vs, rfl, ha, rfl, hH, rs⟩ := asI_is hh rv q
    obtain rfl := (ru : u = Value.ref a)
    have z := lkF_is f rs
    cases q2 : tb C with
    | none => rw [q2] at ok; exact False.elim ok
    | some ak =>
      rw [q2] at ok
      cases htb C ak q2 with
      | fld c n =>
        dsimp only at ok
        cases q3 : lkF fs f with
        | none => rw [q3] at ok; exact False.elim ok
        | some v1 =>
          rw [q3] at ok z
          obtain ⟨y, hy, ry⟩ := z
          exact getattr_ok I hH c n hy fun u' s2 I2 ru2 => fin ok I2 hh ry ru2
      | prop c hp F hr => exact getprop_V (W := W) I hH c hp F hr hh rv ok
      | con c k r =>
        dsimp only at ok
        cases q3 : lkF fs f with
        | some v1 => rw [q3] at ok; exact False.elim ok
        | none =>
          rw [q3] at ok z
          exact getcon_ok I hH c k z fun s2 I2 => fin ok I2 hh (r α) k.rel
theorem pv_attr {f f' : Str} {tb : Nat → Option Ak} (hf : f = f') (htb : ∀ C a, tb C = some a → AkOK X f C a) (he : PV X W e me) (hb : attributeBase e f X.env (eval e X.env) = eval e X.env := by rfl) : PV X W (.Attribute e f pos) (un (attrV tb f') me) :=
  ⟨fun pins s σ H Q I ⟨α, l, h, rl, hr, ok⟩ => attr_of hb (goV he I rl hr ok fun w h1 β v H1 s1 u e1 x1 rl1 hr1 rv1 ru1 I1 ok1 => get_V hf htb I1 hr1 rv1 ru1 ok1)⟩
/-- o.f = e -/
def mfld (cl : Nat → Bool) (f : Str) (mo m : Ex) : Ms := fun l h => (m l h).st l fun y h1 => (mo l h1).st l fun x h2 => match x, asI x h2 with
  | .ref i, some (C, fs) => bif cl C && Nat.blt fs.length 1000 then .nx l (h2.put i (.ins C (setF f y fs))) else .stuck
  | _, _ => .stuck
theorem sv_fld {f f' : Str} {cl : Nat → Bool} (hf : f = f') (hcl : ∀ C, cl C = true → Cls X.K (GA.g C) ∧ NoAttr X.K (GA.g C) f) (ho : PV X W o mo) (he : PV X W e me) (hs : swapsWith e (some (.Attribute o f pos')) pos.line X.env = pure false := by rfl) : PVS X W (.Assign [.Attribute o f pos'] e pos) (mfld cl f' mo me) := by
  subst hf
  refine ps_weak (ps_fld ho he hs) fun D σ H ⟨α, l, h, rl, hr, ok⟩ => ⟨α, l, h, rl, hr, OKg.mono (OKS.fst (R := RV) rl ok) ?_⟩
  rintro y H1 ⟨wy, h1, β, e1, x1, r1, rv1, ok1⟩
  refine ⟨β, l, h1, RL.ext x1 rl, r1, OKg.mono (OKS.fst (R := RV) (RL.ext x1 rl) ok1) ?_⟩
  rintro x H2 ⟨wx, h2, γ, e2, x2, r2, rv2, ok2⟩
  cases wx with
  | ref i =>
    cases q : asI (.ref i) h2 with
    | none => rw [q] at ok2; exact False.elim ok2
    | some p =>
      obtain ⟨C, fs⟩ := p
      rw [q] at ok2
      dsimp only at ok2
      obtain ⟨i', a, dx, vs, e3, ha, rfl, hH, rs⟩ := asI_is r2 rv2 q
      cases e3
      cases q2 : (cl C && Nat.blt fs.length 1000) with
      | false => rw [q2] at ok2; exact False.elim ok2
      | true =>
        rw [q2] at ok2
        rw [Bool.and_eq_true] at q2
        obtain ⟨c, n⟩ := hcl C q2.1
        refine ⟨a, GA.g C, dx, vs, rfl, hH, c, n, by rw [plen rs]; exact Nat.blt_eq.mp q2.2, ok2 γ σ _ (Ext.refl γ) (RL.ext (x1.trans x2) rl) ?_⟩
        exact r2.put (o := .ins C (setF f wy fs)) ha hH (fun _ _ z => nomatch z) ⟨dx, _, setF_is f (rv1.ext x2) rs, rfl⟩ (fun _ z => nomatch z)
  | _ => exact False.elim ok2
/-! ### o.m(..), m a def of o's class -/
structure MOK (X : Cx) (m : Str) (C : Nat) (g : Fx) : Prop where
  ex : ∃ f k, Meth X.K (GA.g C) m f ∧ FnX X k f g ∧ Room k X.A
  cls : Cls X.K (GA.g C)
def vmeth (tb : Nat → Option Fx) (m : Str) (mo : Ex) (ms : Es) : Ex := fun l h => (mo l h).bind fun w h1 => match asI w h1 with
  | some (C, fs) => (match tb C, lkF fs m with
    | some g, none => (ms l h1).bind fun ws h2 => g (w :: ws) h2
    | _, _ => .stuck)
  | none => .stuck
/-- how the call of a method of a plain attribute is read -/
def MethForm (X : Cx) (pl : Sem Bool) (o : Expr) (m : Str) (as : List Expr) (apos pos : Pos) : Prop :=
  eval (.Call (.Attribute o m apos) as [] pos) X.env = (do
    let x ← eval o X.env
    standAt apos.atName
    let (g, self) ← holding [x] (getMethod x m pl)
    callWith pos g self (backTo pos (starEach as X.env)) (backToKw pos (keywordEach [] X.env)))
theorem pv_meth {m m' : Str} {tb : Nat → Option Fx} {pl : Sem Bool} (hm : m = m') (htb : ∀ C g, tb C = some g → MOK X m C g) (tk : Takes X W) (ho : PV X W o mo) (ha : PVs X W (e :: es) ms)
    (hst : starEach (e :: es) X.env = (false, eval e X.env) :: starEach es X.env := by rfl) (hpl : (backTo pos (starEach es X.env)).any (·.1) = false := by rfl)
    (ht : MethForm X pl o m (e :: es) apos pos := by unfold MethForm; rfl) :
    PV X W (.Call (.Attribute o m apos) (e :: es) [] pos) (vmeth tb m' mo ms) := by
  subst hm
  refine ⟨fun pins s σ H Q I ⟨α, l, h, rl, hr, ok⟩ => PySem.W.methodCall_KW (pl := pl) (goV ho I rl hr ok fun w h1 β v H1 s1 u e1 x1 rl1 hr1 rv1 ru1 I1 ok1 => ?_) ht⟩
  cases q : asI w h1 with
  | none => rw [q] at ok1; exact False.elim ok1
  | some p =>
    obtain ⟨C, fs⟩ := p
    rw [q] at ok1
    dsimp only at ok1
    obtain ⟨i, a, dx, vs, rfl, hai, rfl, hH, rs⟩ := asI_is hr1 rv1 q
    obtain rfl := (ru1 : u = Value.ref a)
    have z := lkF_is m rs
    cases q2 : tb C with
    | none => rw [q2] at ok1; exact False.elim ok1
    | some g =>
      rw [q2] at ok1
      cases q3 : lkF fs m with
      | some _ => rw [q3] at ok1; exact False.elim ok1
      | none =>
        rw [q3] at ok1 z
        obtain ⟨⟨f, k, M, F, hrm⟩, c⟩ := htb C g q2
        refine getmeth_ok I1 hH c M z ?_
        refine PySem.W.callWith_K (first := [.ref a]) (h₀ := X.base) I.ok.mod.kin M.kp (goVs ha I1 rl1 hr1 ok1 fun w2 h2 γ v2 H2 s2 u2 e2 x2 rl2 hr2 rv2 ru2 I2 ok2 => ⟨I2.kIn, ?_⟩) hst hpl
        exact call_V (us := .ref a :: u2) (vs := .ref a :: v2) F tk hrm I2 hr2 (.cons (rv1.ext x2) rv2) (.cons rfl ru2) ok2
theorem pv_meth0 {m m' : Str} {tb : Nat → Option Fx} {pl : Sem Bool} (hm : m = m') (htb : ∀ C g, tb C = some g → MOK X m C g) (tk : Takes X W) (ho : PV X W o mo)
    (ht : MethForm X pl o m [] apos pos := by unfold MethForm; rfl) :
    PV X W (.Call (.Attribute o m apos) [] [] pos) (vmeth tb m' mo esn) := by
  subst hm
  refine ⟨fun pins s σ H Q I ⟨α, l, h, rl, hr, ok⟩ => PySem.W.methodCall_KW (pl := pl) (goV ho I rl hr ok fun w h1 β v H1 s1 u e1 x1 rl1 hr1 rv1 ru1 I1 ok1 => ?_) ht⟩
  cases q : asI w h1 with
  | none => rw [q] at ok1; exact False.elim ok1
  | some p =>
    obtain ⟨C, fs⟩ := p
    rw [q] at ok1
    dsimp only at ok1
    obtain ⟨i, a, dx, vs, rfl, hai, rfl, hH, rs⟩ := asI_is hr1 rv1 q
    obtain rfl := (ru1 : u = Value.ref a)
    have z := lkF_is m rs
    cases q2 : tb C with
    | none => rw [q2] at ok1; exact False.elim ok1
    | some g =>
      rw [q2] at ok1
      cases q3 : lkF fs m with
      | some _ => rw [q3] at ok1; exact False.elim ok1
      | none =>
        rw [q3] at ok1 z
        obtain ⟨⟨f, k, M, F, hrm⟩, c⟩ := htb C g q2
        refine getmeth_ok I1 hH c M z ?_
        exact PySem.W.callWith_K0 (first := [.ref a]) I1.kIn M.kp (call_V (us := [.ref a]) (vs := [.ref a]) (ws := [.ref i]) F tk hrm I1 hr1 (.cons rv1 .nil) (.cons rfl .nil) ok1)
end
/-! ### a def from its body -/
def startL (N : Nat) (ws : List Vx) : Lx := ws.map some ++ List.replicate (N - ws.length) none
def fnx (np N : Nat) (m : Ms) : Fx := fun ws h => bif Nat.beq ws.length np then (match m (startL N ws) h with
  | .nx _ h1 => .ok .non h1
  | .ret w h1 => .ok w h1
  | .exc c d _ h1 => .exc c d h1
  | _ => .stuck) else .stuck
theorem rl_map {α : Al} {ws : List Vx} {vs : List V} (r : RVs α ws vs) : RL α (ws.map some) (vs.map some) := by
  induction r with
  | nil => exact .nil
  | cons a _ ih => exact .cons ⟨_, rfl, a⟩ ih
theorem rl_none (α : Al) : ∀ n : Nat, RL α (List.replicate n none) (List.replicate n none)
  | 0 => .nil
  | n + 1 => .cons trivial (rl_none α n)
theorem start_ok {α : Al} {N : List Str} {ws : List Vx} {vs : List V} (r : RVs α ws vs) : RL α (startL N.length ws) (L2.start N vs) := by
  unfold startL L2.start
  rw [plen r]
  exact papp (rl_map r) (rl_none α _)
section
variable {K : PySem.W.Frag} {P : Program} {w : World} {base : Heap} {mg : Str → Option Value}
theorem fn_V {x qual : Str} {st : Stmt} {f : Addr} {fd : FuncData} {N ps : List Str} {k np nN : Nat} {m : Ms} (F : Fun K x qual st f fd) (S : FnScope N ps (defScope st)) (hb : Binds K fd ps []) (hp : ps.length = np) (hn : N.length = nN)
    (body : ∀ (cdv : Value) (A : Around) (outer : List Env) (s : Shared) (H : Hp) (E : XK), Room k (A.deeper (envOfC qual (defScope st) s.heap.objs.size f cdv)) → PVSs (cxOf (L2.CX P w) P w K mg base N qual (defScope st) f cdv A outer s H E) (fun c d _ H' => E c d H') (defBody st) m) :
    FnV P w K mg base (k + 1) f (fnx np nN m) := by
  subst hp hn
  have G : FnOk P w K mg base (L2.CX P w) (k + 1) f fd ps (spV (fnx ps.length N.length m)) := by
    refine F.okX S (fun vs H Q E ⟨α, ws, h, rv, hr, ok⟩ => ?_) (fun cdv A outer s H vs Q E hrm ⟨α, ws, h, rv, hr, ok⟩ => ⟨_, body cdv A outer s H E hrm, ?_⟩)
    · unfold fnx at ok
      cases q : Nat.beq ws.length ps.length with
      | false => rw [q] at ok; exact False.elim ok
      | true => rw [plen rv]; exact Nat.eq_of_beq_eq_true q
    · unfold fnx at ok
      cases q : Nat.beq ws.length ps.length with
      | false => rw [q] at ok; exact False.elim ok
      | true =>
        rw [q] at ok
        refine ⟨α, startL N.length ws, h, start_ok rv, hr, ?_⟩
        have ok : OK α [] (fun c d _ H' => E c d H') (match m (startL N.length ws) h with
          | .nx _ h1 => .ok .non h1
          | .ret w h1 => .ok w h1
          | .exc c d _ h1 => .exc c d h1
          | _ => .stuck) Q := ok
        cases e1 : m (startL N.length ws) h with
        | nx l1 h1 => rw [e1] at ok; exact fun β σ H1 x rl hr1 => ok β .non H1 x hr1 rfl
        | ret v1 h1 => rw [e1] at ok; exact fun β v H1 x hr1 rv1 => ok β v H1 x hr1 rv1
        | exc c d l1 h1 => rw [e1] at ok; exact fun β σ cv da H1 x rl hr1 rx => ok β cv da H1 x hr1 rx
        | brk l1 h1 => rw [e1] at ok; exact False.elim ok
        | cont l1 h1 => rw [e1] at ok; exact False.elim ok
        | stuck => rw [e1] at ok; exact False.elim ok
  have R := G.raw hb .nil
  exact R.imp fun vs H Q E q => by rw [List.append_nil]; exact q
end
end SV

set_option Elab.async false
set_option linter.all false
set_option maxRecDepth 100000
set_option maxHeartbeats 4800000
/-! operators by kinds. -/
namespace SV
open PySem L2 PySem.Spec PyProof.Rows
variable [GA]
section
variable {X : Cx} {W : WX}
/-! ### ints -/
def ii (C : Int → Int → Bool) (f : Int → Int → Vx) : Vx → Vx → Hx → Option (Rx Vx) := fun w w' h => match w, w' with
  | .int i, .int j => bif C i j then some (.ok (f i j) h) else none
  | _, _ => none
theorem op_ii {fo : Value → Value → Sem Value} {P : Int → Int → Prop} {gv : Int → Int → V} {C : Int → Int → Bool} {f : Int → Int → Vx} (ho : OpR X fo (rI P gv)) (hC : ∀ i j, C i j = true → P i j) (hg : ∀ α i j, RV α (f i j) (gv i j)) : Op2 X W fo (ii C f) := by
  intro pins s σ H Q α h w w' v v' u u' r I hr rv rv' ru ru' e ok
  cases w with
  | int i =>
    cases w' with
    | int j =>
      cases rv
      cases rv'
      have e : (bif C i j then some (Rx.ok (f i j) h) else none) = some r := e
      cases q : C i j with
      | false => rw [q] at e; cases e
      | true =>
        rw [q] at e
        cases e
        exact ho pins s σ H _ _ u u' Q I ru ru' ⟨i, j, rfl, rfl, hC i j q, ok α _ H (Ext.refl α) hr (hg α i j)⟩
    | _ => cases e
  | _ => cases e
theorem op_ii0 {fo : Value → Value → Sem Value} {gv : Int → Int → V} {f : Int → Int → Vx} (ho : OpR X fo (rI0 gv)) (hg : ∀ α i j, RV α (f i j) (gv i j)) : Op2 X W fo (ii (fun _ _ => true) f) :=
  op_ii (P := fun _ _ => True) (gv := gv) (fun pins s σ H x y v u Q I rx ry ⟨i, j, e1, e2, _, q⟩ => ho pins s σ H x y v u Q I rx ry ⟨i, j, e1, e2, q⟩) (fun _ _ _ => trivial) hg
def kAdd := ii (fun _ _ => true) fun i j => .int (i + j)
theorem k_add : Op2 X W (binaryOp .Add) kAdd := op_ii0 op_add fun _ _ _ => rfl
def kSub := ii (fun _ _ => true) fun i j => .int (i - j)
theorem k_sub : Op2 X W (binaryOp .Sub) kSub := op_ii0 op_sub fun _ _ _ => rfl
def n64 : Nat := 18446744073709551616
def sm64 (i : Int) : Bool := Nat.blt i.natAbs n64
theorem sm64_is {i : Int} (h : sm64 i = true) : -(2 ^ 64) < i ∧ i < 2 ^ 64 := by
  have h1 : i.natAbs < n64 := Nat.blt_eq.mp h
  unfold n64 at h1
  omega
def kMul := ii (fun i j => sm64 i || sm64 j) fun i j => .int (i * j)
theorem k_mul : Op2 X W (binaryOp .Mult) kMul := op_ii op_mul (fun i j q => by
  rw [Bool.or_eq_true] at q
  rcases q with q | q
  · exact .inl (sm64_is q)
  · exact .inr (sm64_is q)) fun _ _ _ => rfl
def kMulW := ii (fun i j => Nat.blt (i.natAbs.log2 + j.natAbs.log2) 1000000) fun i j => .int (i * j)
theorem k_mulW : Op2 X W (binaryOp .Mult) kMulW := op_ii op_mulW (fun i j q => Nat.blt_eq.mp q) fun _ _ _ => rfl
/-- // by a divisor, positive and not great -/
def kDiv := ii (fun _ j => decide (0 < j) && Nat.blt j.natAbs.log2 9000) fun i j => .int (i / j)
theorem k_div : Op2 X W (binaryOp .FloorDiv) kDiv := op_ii op_fdivW (fun i j q => by
  rw [Bool.and_eq_true] at q
  exact ⟨of_decide_eq_true q.1, Nat.blt_eq.mp q.2⟩) fun _ _ _ => rfl
def kDivN := ii (fun _ j => !decide (j = 0) && Nat.blt j.natAbs 1073741824) fun i j => .int (i.fdiv j)
theorem k_divN : Op2 X W (binaryOp .FloorDiv) kDivN := op_ii op_fdivN (fun i j q => by
  rw [Bool.and_eq_true] at q
  refine ⟨?_, Nat.blt_eq.mp q.2⟩
  intro z
  rw [decide_eq_true z] at q
  cases q.1) fun _ _ _ => rfl
def kMod := ii (fun _ j => decide (0 < j)) fun i j => .int (i % j)
theorem k_mod : Op2 X W (binaryOp .Mod) kMod := op_ii op_mod (fun i j q => of_decide_eq_true q) fun _ _ _ => rfl
def kModN := ii (fun _ j => !decide (j = 0)) fun i j => .int (i.fmod j)
theorem k_modN : Op2 X W (binaryOp .Mod) kModN := op_ii op_modN (fun i j q z => by rw [decide_eq_true z] at q; cases q) fun _ _ _ => rfl
def kPow := ii (fun i j => decide (0 ≤ j) && (decide (j ≤ 1000000) && Nat.blt i.natAbs n64)) fun i j => .int (i ^ j.toNat)
theorem k_pow : Op2 X W (binaryOp .Pow) kPow := op_ii op_pow (fun i j q => by
  rw [Bool.and_eq_true, Bool.and_eq_true] at q
  refine ⟨of_decide_eq_true q.1, of_decide_eq_true q.2.1, ?_⟩
  have := Nat.blt_eq.mp q.2.2
  unfold n64 at this
  omega) fun _ _ _ => rfl
theorem k_iadd : Op2 X W (inplaceOp .Add) kAdd := op_ii0 iop_add fun _ _ _ => rfl
/-- comparisons -/
theorem cmpI {op : CmpOp} {p : Int → Int → Bool} (rule : ∀ (i j : Int) (t u : Tok) (Q : Value → Shared → Prop) (s : Shared), Q (.bool (p i j)) s → wpAny (model X.prog X.w) X.A (compareOp op (.int i t) (.int j u)) Q X.xe s) : Op2 X W (compareOp op) (ii (fun _ _ => true) fun i j => .bl (p i j)) := by
  intro pins s σ H Q α h w w' v v' u u' r I hr rv rv' ru ru' e ok
  cases w with
  | int i =>
    cases w' with
    | int j =>
      cases rv
      cases rv'
      cases e
      obtain ⟨t, rfl⟩ := (show ∃ t, u = Value.int i t from ru)
      obtain ⟨t', rfl⟩ := (show ∃ t, u' = Value.int j t from ru')
      exact rule i j t t' _ s (fin (v := .bl (p i j)) ok I hr rfl rfl)
    | _ => cases e
  | _ => cases e
def kLt := ii (fun _ _ => true) fun i j => .bl (decide (i < j))
theorem k_lt : Op2 X W (compareOp .Lt) kLt := cmpI fun _ _ _ _ _ _ h => lt_int h
def kLe := ii (fun _ _ => true) fun i j => .bl (decide (i ≤ j))
theorem k_le : Op2 X W (compareOp .LtE) kLe := cmpI fun _ _ _ _ _ _ h => le_int h
def kGt := ii (fun _ _ => true) fun i j => .bl (decide (j < i))
theorem k_gt : Op2 X W (compareOp .Gt) kGt := cmpI fun _ _ _ _ _ _ h => gt_int h
def kGe := ii (fun _ _ => true) fun i j => .bl (decide (j ≤ i))
theorem k_ge : Op2 X W (compareOp .GtE) kGe := cmpI fun _ _ _ _ _ _ h => ge_int h
def kNeg : Vx → Hx → Option (Rx Vx) := fun w h => match w with | .int i => some (.ok (.int (-i)) h) | _ => none
theorem k_neg : Op1 X W (unaryOp .USub) kNeg := by
  intro pins s σ H Q α h w v u r I hr rv ru e ok
  cases w with
  | int i => cases rv; cases e; exact un_neg pins s σ H _ u Q I ru ⟨i, rfl, ok α _ H (Ext.refl α) hr rfl⟩
  | _ => cases e
/-! ### == and != of scalars -/
def eqSc : Vx → Vx → Option Bool
  | .non, .non => some true
  | .non, .int _ => some false
  | .non, .bl _ => some false
  | .non, .str _ => some false
  | .int _, .non => some false
  | .bl _, .non => some false
  | .str _, .non => some false
  | .int i, .int j => some (decide (i = j))
  | .bl a, .bl b => some (a == b)
  | .str a, .str b => some (seq a b)
  | .int _, .str _ => some false
  | .str _, .int _ => some false
  | .bl _, .str _ => some false
  | .str _, .bl _ => some false
  | _, _ => none
theorem eqSc_is {α : Al} {w w' : Vx} {v v' : V} {b : Bool} (rv : RV α w v) (rv' : RV α w' v') (e : eqSc w w' = some b) : scal v v' = true ∧ decide (v = v') = b := by
  cases w <;> cases w' <;> first | (cases e; done) | skip
  all_goals (cases rv; cases rv'; cases e; refine ⟨rfl, ?_⟩)
  all_goals first | rfl | (rw [seq_is]; simp; done) | (simp; done) | (rename_i a b; cases a <;> cases b <;> rfl)
def kEq : Vx → Vx → Hx → Option (Rx Vx) := fun w w' h => match eqSc w w' with | some b => some (.ok (.bl b) h) | none => none
def kNe : Vx → Vx → Hx → Option (Rx Vx) := fun w w' h => match eqSc w w' with | some b => some (.ok (.bl (!b)) h) | none => none
theorem k_eq : Op2 X W (compareOp .Eq) kEq := by
  intro pins s σ H Q α h w w' v v' u u' r I hr rv rv' ru ru' e ok
  unfold kEq at e
  cases q : eqSc w w' with
  | none => (rw [q] at e; cases e)
  | some b =>
    rw [q] at e
    cases e
    obtain ⟨h1, h2⟩ := eqSc_is rv rv' q
    exact op_eq pins s σ H v v' u u' Q I ru ru' ⟨h1, by rw [h2]; exact ok α (.bl b) H (Ext.refl α) hr rfl⟩
theorem k_ne : Op2 X W (compareOp .NotEq) kNe := by
  intro pins s σ H Q α h w w' v v' u u' r I hr rv rv' ru ru' e ok
  unfold kNe at e
  cases q : eqSc w w' with
  | none => (rw [q] at e; cases e)
  | some b =>
    rw [q] at e
    cases e
    obtain ⟨h1, h2⟩ := eqSc_is rv rv' q
    exact op_ne pins s σ H v v' u u' Q I ru ru' ⟨h1, by rw [h2]; exact ok α (.bl (!b)) H (Ext.refl α) hr rfl⟩
/-! ### is None -/
def isNon : Vx → Bool
  | .non => true
  | _ => false
def visN (m : Ex) : Ex := fun l h => (m l h).bind fun w h1 => .ok (.bl (isNon w)) h1
def visnN (m : Ex) : Ex := fun l h => (m l h).bind fun w h1 => .ok (.bl (!isNon w)) h1
variable {a : Expr} {ma : Ex} {pos : Pos}
theorem none_dec {α : Al} {w : Vx} {v : V} (rv : RV α w v) : decide (v = .non) = isNon w := by
  cases w with
  | ref i => obtain ⟨a, _, rfl⟩ := rv; rfl
  | _ => cases rv; rfl
theorem pv_isN {j pos'} (ha : PV X W a ma) : PV X W (.Compare a [.Is] [.Constant .none j pos'] pos) (visN ma) := by
  refine pe_weak (pe_cmp (pc_isN ha)) fun σ H Q ⟨α, l, h, rl, hr, ok⟩ => ⟨α, l, h, rl, hr, OKg.mono (OKg.fst (R := RV) ok) ?_⟩
  rintro v H1 ⟨w, h1, β, e1, x, r, rv, ok1⟩
  rw [none_dec rv]
  exact ok1 β _ H1 (Ext.refl β) r rfl
theorem pv_isnN {j pos'} (ha : PV X W a ma) : PV X W (.Compare a [.IsNot] [.Constant .none j pos'] pos) (visnN ma) := by
  refine pe_weak (pe_cmp (pc_notN ha)) fun σ H Q ⟨α, l, h, rl, hr, ok⟩ => ⟨α, l, h, rl, hr, OKg.mono (OKg.fst (R := RV) ok) ?_⟩
  rintro v H1 ⟨w, h1, β, e1, x, r, rv, ok1⟩
  rw [none_dec rv]
  exact ok1 β _ H1 (Ext.refl β) r rfl
theorem tt_isN {j pos'} (ha : PV X W a ma) : PVt X W (.Compare a [.Is] [.Constant .none j pos'] pos) (tv (visN ma)) := by
  refine ⟨fun pins s σ H Q I ⟨α, l, h, rl, hr, ok⟩ => ?_⟩
  refine (pt_cmp (pc_isN ha)).run pins s σ H Q I ⟨α, l, h, rl, hr, ?_⟩
  have ok : OKt α σ W (((ma l h).bind fun w h1 => .ok (.bl (isNon w)) h1).bind fun x h1 => match tru x h1 with | some k => .ok k h1 | none => .stuck) Q := ok
  cases e1 : ma l h with
  | exc c d h1 => rw [e1] at ok; exact ok
  | stuck => rw [e1] at ok; exact ok
  | ok w h1 =>
    rw [e1] at ok
    intro β v H1 x r rv
    rw [none_dec rv]
    exact ⟨_, rfl, ok β _ H1 x r rfl⟩
theorem tt_isnN {j pos'} (ha : PV X W a ma) : PVt X W (.Compare a [.IsNot] [.Constant .none j pos'] pos) (tv (visnN ma)) := by
  refine ⟨fun pins s σ H Q I ⟨α, l, h, rl, hr, ok⟩ => ?_⟩
  refine (pt_cmp (pc_notN ha)).run pins s σ H Q I ⟨α, l, h, rl, hr, ?_⟩
  have ok : OKt α σ W (((ma l h).bind fun w h1 => .ok (.bl (!isNon w)) h1).bind fun x h1 => match tru x h1 with | some k => .ok k h1 | none => .stuck) Q := ok
  cases e1 : ma l h with
  | exc c d h1 => rw [e1] at ok; exact ok
  | stuck => rw [e1] at ok; exact ok
  | ok w h1 =>
    rw [e1] at ok
    intro β v H1 x r rv
    rw [none_dec rv]
    exact ⟨_, rfl, ok β _ H1 x r rfl⟩
/-! ### own operators -/
/-- what is known of an own operator: op w w' is g [w, w'] -/
structure OwnX (X : Cx) (m : Str) (C : Nat) (g : Fx) : Prop where
  ex : ∃ f k, FL.Own X.K (GA.g C) m f ∧ FnX X k f g ∧ Room k X.A
/-- two instances -/
def own2 (tb : Nat → Nat → Option Fx) : Vx → Vx → Hx → Option (Rx Vx) := fun w w' h => match asI w h, asI w' h with
  | some (C, _), some (D, _) => (match tb C D with | some g => some (g [w, w'] h) | none => none)
  | _, _ => none
theorem k_ownB {op : Operator} {tb : Nat → Nat → Option Fx} (htb : ∀ C D g, tb C D = some g → C = D ∧ OwnX X (PySem.dunder op.info.2) C g ∧ PySem.W.selfFirst X.K (GA.g C) = true) (tk : Takes X W) : Op2 X W (binaryOp op) (own2 tb) := by
  intro pins s σ H Q α h w w' v v' u u' r I hr rv rv' ru ru' e ok
  unfold own2 at e
  cases q : asI w h with
  | none => (rw [q] at e; cases e)
  | some p =>
    obtain ⟨C, fs⟩ := p
    cases q' : asI w' h with
    | none => rw [q, q'] at e; cases e
    | some p' =>
      obtain ⟨D, fs'⟩ := p'
      rw [q, q'] at e
      dsimp only at e
      cases q2 : tb C D with
      | none => rw [q2] at e; cases e
      | some g =>
        rw [q2] at e
        cases e
        obtain ⟨rfl, ⟨f, k, o, F, hrm⟩, sf⟩ := htb C D g q2
        obtain ⟨i, a, dx, vs, rfl, ha, rfl, hH, rs⟩ := asI_is hr rv q
        obtain ⟨i', a', dx', vs', rfl, ha', rfl, hH', rs'⟩ := asI_is hr rv' q'
        obtain rfl := (ru : u = Value.ref a)
        obtain rfl : u' = Value.ref a' := ru'
        obtain ⟨_, _, J⟩ := FL.inst_of I hH
        obtain ⟨_, _, J'⟩ := FL.inst_of I hH'
        obtain ⟨m, hF⟩ := I.fr
        refine PySem.W.binop_K hF I.ok.mod.kin J J'.type sf o.at_ o.fn ?_
        refine wpAny_mono (call_V (us := [.ref a, .ref a']) F tk hrm I hr (.cons rv (.cons rv' .nil)) (.cons rfl (.cons rfl .nil)) ok) (fun z s' y => ?_) fun _ _ y => y
        obtain ⟨z', H', I', rz, qz⟩ := y
        exact SlX.cmpback rz ⟨z', H', I', rz, qz⟩
theorem k_ownC {op : CmpOp} (hop : ∀ a b, compareOp op a b = richCompare op a b) {tb : Nat → Nat → Option Fx} (htb : ∀ C D g, tb C D = some g → OwnX X (cmpInfo op).2.1 C g ∧ PySem.W.notFirst X.K (GA.g C) (.ref (GA.g D)) = true) (tk : Takes X W) : Op2 X W (compareOp op) (own2 tb) := by
  intro pins s σ H Q α h w w' v v' u u' r I hr rv rv' ru ru' e ok
  unfold own2 at e
  cases q : asI w h with
  | none => (rw [q] at e; cases e)
  | some p =>
    obtain ⟨C, fs⟩ := p
    cases q' : asI w' h with
    | none => rw [q, q'] at e; cases e
    | some p' =>
      obtain ⟨D, fs'⟩ := p'
      rw [q, q'] at e
      dsimp only at e
      cases q2 : tb C D with
      | none => rw [q2] at e; cases e
      | some g =>
        rw [q2] at e
        cases e
        obtain ⟨⟨f, k, o, F, hrm⟩, nf⟩ := htb C D g q2
        obtain ⟨i, a, dx, vs, rfl, ha, rfl, hH, rs⟩ := asI_is hr rv q
        obtain ⟨i', a', dx', vs', rfl, ha', rfl, hH', rs'⟩ := asI_is hr rv' q'
        obtain rfl := (ru : u = Value.ref a)
        obtain rfl : u' = Value.ref a' := ru'
        obtain ⟨_, _, J⟩ := FL.inst_of I hH
        obtain ⟨_, _, J'⟩ := FL.inst_of I hH'
        obtain ⟨m, hF⟩ := I.fr
        rw [hop]
        refine PySem.W.cmp_K (op := op) (tb := .ref (GA.g D)) hrm.units0 hF I.ok.mod.kin J J'.type nf o.at_ o.fn ?_
        refine wpAny_mono (call_V (us := [.ref a, .ref a']) F tk hrm I hr (.cons rv (.cons rv' .nil)) (.cons rfl (.cons rfl .nil)) ok) (fun z s' y => ?_) fun _ _ y => y
        obtain ⟨z', H', I', rz, qz⟩ := y
        exact SlX.cmpback rz ⟨z', H', I', rz, qz⟩
/-- x ** n -/
def ownI (tb : Nat → Option Fx) : Vx → Vx → Hx → Option (Rx Vx) := fun w w' h => match asI w h, w' with
  | some (C, _), .int _ => (match tb C with | some g => some (g [w, w'] h) | none => none)
  | _, _ => none
theorem k_ownP {tb : Nat → Option Fx} (htb : ∀ C g, tb C = some g → OwnX X (PySem.dunder "pow") C g ∧ PySem.W.selfFirst X.K (GA.g C) = true ∧ PySem.W.subIn X.K (.type "int") (.ref (GA.g C)) = some false ∧ PySem.W.findIn X.K (.ref (GA.g C)) (PySem.dunderR "pow") = some none) (tk : Takes X W) :
    Op2 X W (binaryOp .Pow) (ownI tb) := by
  intro pins s σ H Q α h w w' v v' u u' r I hr rv rv' ru ru' e ok
  unfold ownI at e
  cases q : asI w h with
  | none => (rw [q] at e; cases e)
  | some p =>
    obtain ⟨C, fs⟩ := p
    rw [q] at e
    cases w' with
    | int n =>
      dsimp only at e
      cases q2 : tb C with
      | none => rw [q2] at e; cases e
      | some g =>
        rw [q2] at e
        cases e
        obtain ⟨⟨f, k, o, F, hrm⟩, sf, hsub, hnr⟩ := htb C g q2
        obtain ⟨i, a, dx, vs, rfl, ha, rfl, hH, rs⟩ := asI_is hr rv q
        cases rv'
        obtain rfl := (ru : u = Value.ref a)
        obtain ⟨t, rfl⟩ := (show ∃ t, u' = Value.int n t from ru')
        obtain ⟨_, _, J⟩ := FL.inst_of I hH
        obtain ⟨m, hF⟩ := I.fr
        refine FLM.pow_int hF I.ok.mod.kin J sf o.at_ o.fn hsub hnr ?_
        refine wpAny_mono (call_V (us := [.ref a, .int n t]) (vs := [.ref a, .int n]) (ws := [.ref i, .int n]) F tk hrm I hr (.cons rv (.cons rfl .nil)) (.cons rfl (.cons ⟨t, rfl⟩ .nil)) ok) (fun z s' y => ?_) fun _ _ y => y
        obtain ⟨z', H', I', rz, qz⟩ := y
        exact SlX.cmpback rz ⟨z', H', I', rz, qz⟩
    | _ => cases e
/-- v in x, not in: x an instance -/
def ownIn (neg : Bool) (tb : Nat → Option Fx) : Vx → Vx → Hx → Option (Rx Vx) := fun w w' h => match asI w' h with
  | some (C, _) => (match tb C with
    | some g => some ((g [w', w] h).bind fun z h1 => match z with | .bl b => .ok (.bl (if neg then !b else b)) h1 | _ => .stuck)
    | none => none)
  | none => none
theorem k_ownIn {tb : Nat → Option Fx} (htb : ∀ C g, tb C = some g → OwnX X "__contains__" C g) (tk : Takes X W) : Op2 X W (compareOp .In) (ownIn false tb) := by
  intro pins s σ H Q α h w w' v v' u u' r I hr rv rv' ru ru' e ok
  unfold ownIn at e
  cases q : asI w' h with
  | none => (rw [q] at e; cases e)
  | some p =>
    obtain ⟨C, fs⟩ := p
    rw [q] at e
    dsimp only at e
    cases q2 : tb C with
    | none => rw [q2] at e; cases e
    | some g =>
      rw [q2] at e
      cases e
      obtain ⟨f, k, o, F, hrm⟩ := htb C g q2
      obtain ⟨i, a, dx, vs, rfl, ha, rfl, hH, rs⟩ := asI_is hr rv' q
      obtain rfl : u' = Value.ref a := ru'
      obtain ⟨_, _, J⟩ := FL.inst_of I hH
      obtain ⟨m, hF⟩ := I.fr
      refine PySem.W.in_K hF I.ok.mod.kin J o.at_ o.fn ?_
      refine wpAny_mono (call_V (us := [.ref a, u]) F tk hrm I hr (.cons rv' (.cons rv .nil)) (.cons rfl (.cons ru .nil)) (OKg.fst (R := RV) ok)) (fun z s' y => ?_) fun _ _ y => y
      obtain ⟨z', H', I', rz, wz, h1, β, e1, x, hr1, rvz, ok1⟩ := y
      cases wz with
      | bl b =>
        cases rvz
        cases (show z = Value.bool b from rz)
        exact wpAny_truthy_bool (fin (w := .bl b) (v := .bl b) ok1 I' hr1 rfl rfl)
      | _ => exact False.elim ok1
theorem k_ownNotIn {tb : Nat → Option Fx} (htb : ∀ C g, tb C = some g → OwnX X "__contains__" C g) (tk : Takes X W) : Op2 X W (compareOp .NotIn) (ownIn true tb) := by
  intro pins s σ H Q α h w w' v v' u u' r I hr rv rv' ru ru' e ok
  unfold ownIn at e
  cases q : asI w' h with
  | none => (rw [q] at e; cases e)
  | some p =>
    obtain ⟨C, fs⟩ := p
    rw [q] at e
    dsimp only at e
    cases q2 : tb C with
    | none => rw [q2] at e; cases e
    | some g =>
      rw [q2] at e
      cases e
      obtain ⟨f, k, o, F, hrm⟩ := htb C g q2
      obtain ⟨i, a, dx, vs, rfl, ha, rfl, hH, rs⟩ := asI_is hr rv' q
      obtain rfl : u' = Value.ref a := ru'
      obtain ⟨_, _, J⟩ := FL.inst_of I hH
      obtain ⟨m, hF⟩ := I.fr
      refine PySem.W.notIn_K hF I.ok.mod.kin J o.at_ o.fn ?_
      refine wpAny_mono (call_V (us := [.ref a, u]) F tk hrm I hr (.cons rv' (.cons rv .nil)) (.cons rfl (.cons ru .nil)) (OKg.fst (R := RV) ok)) (fun z s' y => ?_) fun _ _ y => y
      obtain ⟨z', H', I', rz, wz, h1, β, e1, x, hr1, rvz, ok1⟩ := y
      cases wz with
      | bl b =>
        cases rvz
        cases (show z = Value.bool b from rz)
        exact wpAny_truthy_bool (fin (w := .bl (!b)) (v := .bl (!b)) ok1 I' hr1 rfl rfl)
      | _ => exact False.elim ok1
end
end SV

set_option Elab.async false
set_option linter.all false
set_option maxRecDepth 100000
set_option maxHeartbeats 4800000
/-! subscripts, stores, membership. -/
namespace SV
open PySem L2 PySem.Spec PyProof.Rows
variable [GA]
section
variable {X : Cx} {W : WX} {o i e : Expr} {mo mi me : Ex} {pos pos' : Pos}
/-! ### o[i] -/
theorem pv_ix {g : Vx → Vx → Hx → Rx Vx} (hx : Op2 X W (subscriptTail o i) fun x y h => some (g x y h)) (ho : PV X W o mo) (hi : PV X W i mi) : PV X W (.Subscript o i pos) (bin g mo mi) :=
  ⟨fun pins s σ H Q I ⟨α, l, h, rl, hr, ok⟩ => Subscript_ (go2 hx ho hi I rl hr ok)⟩
/-- the place of an index -/
def plc (n : Nat) (i : Int) : Option Nat := match i with
  | .ofNat k => bif Nat.blt k n then some k else none
  | .negSucc k => bif Nat.blt k n then some (n - (k + 1)) else none
theorem plc_is {n : Nat} {i : Int} {j : Nat} (h : plc n i = some j) : ixN n i = some j ∧ j < n := by
  unfold plc at h
  cases i with
  | ofNat k =>
    dsimp only at h
    cases q : Nat.blt k n with
    | false => rw [q] at h; cases h
    | true =>
      rw [q] at h
      cases h
      have hk := Nat.blt_eq.mp q
      refine ⟨?_, hk⟩
      unfold ixN
      rw [if_pos (by simp), if_pos (by simpa using hk)]
      simp
  | negSucc k =>
    dsimp only at h
    cases q : Nat.blt k n with
    | false => rw [q] at h; cases h
    | true =>
      rw [q] at h
      cases h
      have hk := Nat.blt_eq.mp q
      refine ⟨?_, by omega⟩
      unfold ixN
      rw [if_neg (by omega), if_pos (by omega)]
      congr 1
      omega
theorem at_is {α : Al} {xs : List Vx} {vs : List V} {i : Int} {j : Nat} {w : Vx} (rs : RVs α xs vs) (hj : plc xs.length i = some j) (hw : nth xs j = some w) : ∃ v, atI vs i = some v ∧ RV α w v := by
  obtain ⟨y, hy, ry⟩ := pnth' rs hw
  refine ⟨y, ?_, ry⟩
  unfold atI
  rw [plen rs, (plc_is hj).1]
  exact hy
def kIxL : Vx → Vx → Hx → Option (Rx Vx) := fun w w' h => match asL w h, w' with
  | some xs, .int i => (match plc xs.length i with | some j => (match nth xs j with | some v => some (.ok v h) | none => none) | none => none)
  | _, _ => none
def kIxT : Vx → Vx → Hx → Option (Rx Vx) := fun w w' h => match asT w h, w' with
  | some xs, .int i => (match plc xs.length i with | some j => (match nth xs j with | some v => some (.ok v h) | none => none) | none => none)
  | _, _ => none
theorem k_ixL (hs : PlainIx i) : Op2 X W (subscriptTail o i) kIxL := by
  intro pins s σ H Q α h w w' v v' u u' r I hr rv rv' ru ru' e ok
  unfold kIxL at e
  cases q : asL w h with
  | none => (rw [q] at e; cases e)
  | some xs =>
    rw [q] at e
    cases w' with
    | int j =>
      dsimp only at e
      cases q2 : plc xs.length j with
      | none => rw [q2] at e; cases e
      | some p =>
        rw [q2] at e
        dsimp only at e
        cases q3 : nth xs p with
        | none => rw [q3] at e; cases e
        | some z =>
          rw [q3] at e
          cases e
          obtain ⟨a, vs, rfl, sq, rs⟩ := asL_is (K := X.K) hr rv q
          obtain ⟨y, hy, ry⟩ := at_is rs q2 q3
          cases rv'
          exact ix_list o i pins s σ H _ _ u u' Q I ru ru' ⟨a, vs, j, y, rfl, rfl, sq, hy, ok α y H (Ext.refl α) hr ry⟩ (hs _ _)
    | _ => cases e
theorem k_ixT (hs : PlainIx i) : Op2 X W (subscriptTail o i) kIxT := by
  intro pins s σ H Q α h w w' v v' u u' r I hr rv rv' ru ru' e ok
  unfold kIxT at e
  cases q : asT w h with
  | none => (rw [q] at e; cases e)
  | some xs =>
    rw [q] at e
    cases w' with
    | int j =>
      dsimp only at e
      cases q2 : plc xs.length j with
      | none => rw [q2] at e; cases e
      | some p =>
        rw [q2] at e
        dsimp only at e
        cases q3 : nth xs p with
        | none => rw [q3] at e; cases e
        | some z =>
          rw [q3] at e
          cases e
          obtain ⟨a, vs, rfl, sq, rs⟩ := asT_is (K := X.K) hr rv q
          obtain ⟨y, hy, ry⟩ := at_is rs q2 q3
          cases rv'
          exact ix_tup o i pins s σ H _ _ u u' Q I ru ru' ⟨a, vs, j, y, rfl, rfl, sq, hy, ok α y H (Ext.refl α) hr ry⟩ (hs _ _)
    | _ => cases e
/-- what a dict has -/
theorem dget_is {α : Al} {h : Hx} {H : Hp} {w : Vx} {v : V} {kvs : List (Kx × Vx)} {k : Kx} {key : Vx} {kv : V} (hr : HR α h H) (rv : RV α w v) (e : asD w h = some kvs) (ek : kxOf key = some k) (rk : RV α key kv) :
    ∃ a vs, v = .ref a ∧ Rd H a (.dK vs) ∧ RPs α kvs vs ∧ DGet H a kv (valV vs k) := by
  obtain ⟨a, vs, rfl, rd, rs⟩ := asD_is hr rv e
  exact ⟨a, vs, rfl, rd, rs, .inl ⟨vs, k, rd, kxOf_is rk ek, rfl⟩⟩
def kIxD : Vx → Vx → Hx → Option (Rx Vx) := fun w w' h => match asD w h, kxOf w' with
  | some kvs, some k => (match getX kvs k with | some v => some (.ok v h) | none => none)
  | _, _ => none
theorem k_ixD (hu : X.A.units + 1 < cLine) (hs : NoSl i) : Op2 X W (subscriptTail o i) kIxD := by
  intro pins s σ H Q α h w w' v v' u u' r I hr rv rv' ru ru' e ok
  unfold kIxD at e
  cases q : asD w h with
  | none => (rw [q] at e; cases e)
  | some kvs =>
    cases qk : kxOf w' with
    | none => rw [q, qk] at e; cases e
    | some k =>
      rw [q, qk] at e
      dsimp only at e
      cases q2 : getX kvs k with
      | none => rw [q2] at e; cases e
      | some z =>
        rw [q2] at e
        cases e
        obtain ⟨a, vs, rfl, rd, rs, g⟩ := dget_is hr rv q qk rv'
        have gz := getX_is k rs
        rw [q2] at gz
        obtain ⟨y, hy, ry⟩ := gz
        rw [hy] at g
        obtain rfl := (ru : u = Value.ref a)
        unfold subscriptTail
        have hT := dict_typeIs I g
        refine wpAny_bind ?_
        rw [getitemInPython_of_ne hT.not_modules]
        refine wpAny_bind (wpAny_specialOf hT PySem.F.slot_dict_getitem.lookup ?_)
        have fn : wpAny (model X.prog X.w) X.A (subscripted i false (.ref a) u') (fun r s₃ => wpAny (model X.prog X.w) X.A (letTemporaryGo o (.ref a) r >>= fun _ => pure r) (EP X pins σ Q) X.xe s₃) X.xe s := by
          rw [hs (.ref a) u']
          exact wpAny_operating (wpAny_mono (d_getItem hu I g ru' fun w' s3 I3 rw' => fin ok I3 hr ry rw') (fun r s₃ h₃ => wpAny_bind (wpAny_letTemporaryGo (wpAny_pure h₃))) fun _ _ x => x)
        first
          | exact wpAny_pure (wpAny_bind fn)
          | exact wpAny_bind (wpAny_pure (wpAny_bind fn))
/-- x[i] by an own __getitem__ -/
def ownIx (tb : Nat → Option Fx) : Vx → Vx → Hx → Option (Rx Vx) := fun w w' h => match asI w h with
  | some (C, _) => (match tb C with | some g => some (g [w, w'] h) | none => none)
  | none => none
structure GetX (X : Cx) (C : Nat) (g : Fx) : Prop where
  ex : ∃ f k, FL.Own X.K (GA.g C) "__getitem__" f ∧ PySem.W.fnIn X.K f = true ∧ FnX X k f g ∧ Room (k + 1) X.A
theorem k_ownIx {tb : Nat → Option Fx} (htb : ∀ C g, tb C = some g → GetX X C g) (tk : Takes X W) (hsl : ∀ x v, subscripted i true (.ref x) v = runValue (.builtin "lifetime.subscript" ⟨[.ref x, v], []⟩)) : Op2 X W (subscriptTail o i) (ownIx tb) := by
  intro pins s σ H Q α h w w' v v' u u' r I hr rv rv' ru ru' e ok
  unfold ownIx at e
  cases q : asI w h with
  | none => (rw [q] at e; cases e)
  | some p =>
    obtain ⟨C, fs⟩ := p
    rw [q] at e
    dsimp only at e
    cases q2 : tb C with
    | none => rw [q2] at e; cases e
    | some g =>
      rw [q2] at e
      cases e
      obtain ⟨f, k, ow, hf, F, hrm⟩ := htb C g q2
      obtain ⟨i', a, dx, vs, rfl, ha, rfl, hH, rs⟩ := asI_is hr rv q
      obtain rfl := (ru : u = Value.ref a)
      obtain ⟨_, _, J⟩ := FL.inst_of I hH
      obtain ⟨m, hF⟩ := I.fr
      refine PySem.W.sub_K hF I.ok.mod.kin J ow.at_ hf ow.fn ?_ (hsl _ _)
      exact wpAny_call (run_V (us := [.ref a, u']) F tk hrm.in1 I.env0.in1 I hr (.cons rv (.cons rv' .nil)) (.cons rfl (.cons ru' .nil)) ok)
/-! ### xs[::-1] -/
def vrevL (m : Ex) : Ex := fun l h => (m l h).bind fun w h1 => match asL w h1 with | some xs => .ok (.ref h1.n) (h1.new (.lst xs.reverse)) | none => .stuck
theorem prev {A B : Type} {F : A → B → Prop} {xs : List A} {ys : List B} (r : Paired F xs ys) : Paired F xs.reverse ys.reverse := by
  induction r with
  | nil => exact .nil
  | cons a _ ih => rw [List.reverse_cons, List.reverse_cons]; exact papp ih (.cons a .nil)
theorem pv_revL {k : Nat} {p1 p2 p3 : Pos} (he : PV X W e me) : PV X W (.Subscript e (.Slice none none (some (.UnaryOp .USub (.Constant (.int 1) k p1) p2)) p3) pos) (vrevL me) := by
  refine pe_weak (pe_revL he) fun σ H Q ⟨α, l, h, rl, hr, ok⟩ => ⟨α, l, h, rl, hr, OKg.mono (OKg.fst (R := RV) ok) ?_⟩
  rintro v H1 ⟨w, h1, β, e1, x, r, rv, ok1⟩
  cases q : asL w h1 with
  | none => rw [q] at ok1; exact False.elim ok1
  | some xs =>
    rw [q] at ok1
    obtain ⟨a, vs, rfl, sq, rs⟩ := asL_is (K := X.K) r rv q
    exact ⟨a, vs, rfl, sq, fun p hp => newV r ok1 hp ⟨_, prev rs, rfl⟩⟩
/-! ### o[i] = v -/
def setAt : List Vx → Nat → Vx → List Vx
  | [], _, _ => []
  | _ :: r, 0, v => v :: r
  | a :: r, i + 1, v => a :: setAt r i v
theorem setAt_eq : ∀ (xs : List Vx) (i : Nat) (v : Vx), setAt xs i v = xs.set i v
  | [], _, _ => rfl
  | _ :: _, 0, _ => rfl
  | a :: r, i + 1, v => by show a :: setAt r i v = a :: r.set i v; rw [setAt_eq r i v]
def putO (a : Nat) (i v : Vx) (h : Hx) : Ox → Option Hx
  | .lst xs => (match i with
    | .int k => (match plc xs.length k with | some j => some (h.put a (.lst (setAt xs j v))) | none => none)
    | _ => none)
  | .dK kvs => (match kxOf i with
    | some k => bif Nat.blt kvs.length sline then some (h.put a (.dK (putX kvs k v))) else none
    | none => none)
  | _ => none
def putI (o i v : Vx) (h : Hx) : Option Hx := match o with
  | .ref a => (match h.get a with | some ob => putO a i v h ob | none => none)
  | _ => none
def gsub (mo mi : Ex) : Gx := fun w l h => (mo l h).st l fun o h1 => (mi l h1).st l fun i h2 => match putI o i w h2 with | some h3 => .nx l h3 | none => .stuck
/-- the store by values -/
theorem set_V (hu : X.A.units + 1 < cLine) {pins : List (Addr × Obj)} {s : Shared} {σ : L2.St} {H : Hp} {α : Al} {h h' : Hx} {wo wi w : Vx} {vo vi v : V} {ov iv u : Value} {Q : Hp → Prop} (I : Inv X pins σ H s) (hr : HR α h H) (ro : RV α wo vo) (ri : RV α wi vi) (rv : RV α w v) (qo : RelV vo ov) (qi : RelV vi iv) (qv : RelV v u)
    (e : putI wo wi w h = some h') (k : ∀ H', HR α h' H' → Q H') : wpAny (model X.prog X.w) X.A (setItem ov iv u) (fun _ s' => ∃ H', Inv X pins σ H' s' ∧ Q H') X.xe s := by
  cases wo with
  | ref a =>
    have e : (match h.get a with | some ob => putO a wi w h ob | none => none) = some h' := e
    obtain ⟨b, ha, rfl⟩ := ro
    cases q : h.get a with
    | none => (rw [q] at e; cases e)
    | some ob =>
      rw [q] at e
      obtain ⟨p, hp, rob⟩ := hr.at ha q
      cases ob with
      | lst xs =>
        obtain ⟨vs, rs, rfl⟩ := rob
        cases wi with
        | int n =>
          have e : (match plc xs.length n with | some j => some (h.put a (.lst (setAt xs j w))) | none => none) = some h' := e
          cases q2 : plc xs.length n with
          | none => rw [q2] at e; cases e
          | some j =>
            rw [q2] at e
            cases e
            cases ri
            refine set_list pins s σ H _ _ _ ov iv u Q I qo qi qv ⟨b, vs, n, j, rfl, rfl, hp, by rw [plen rs]; exact (plc_is q2).1, k _ ?_⟩
            refine hr.put (o := .lst (setAt xs j w)) ha hp (fun _ _ z => nomatch z) ⟨_, ?_, rfl⟩ (fun _ z => nomatch z)
            rw [setAt_eq]
            exact pset rv j rs
        | _ => cases e
      | dK kvs =>
        obtain ⟨vs, rs, rfl⟩ := rob
        unfold putO at e
        dsimp only at e
        cases q2 : kxOf wi with
        | none => rw [q2] at e; cases e
        | some key =>
          rw [q2] at e
          dsimp only at e
          cases q3 : Nat.blt kvs.length sline with
          | false => rw [q3] at e; cases e
          | true =>
            rw [q3] at e
            cases e
            obtain rfl := (qo : ov = Value.ref b)
            have ek := kxOf_is ri q2
            subst ek
            refine d_setItem hu I (DPut.k hp (by rw [plen rs, sline_is]; exact Nat.blt_eq.mp q3)) qi qv fun s' I' => ⟨_, I', k _ ?_⟩
            exact hr.put (o := .dK (putX kvs key w)) ha hp (fun _ _ z => nomatch z) ⟨_, putX_is rv rs, rfl⟩ (fun _ z => nomatch z)
      | _ => cases e
  | _ => cases e
theorem gv_sub (hu : X.A.units + 1 < cLine) (ho : PV X W o mo) (hi : PV X W i mi) (ha : ∀ v, assign (.Subscript o i pos) X.env v = (do
      let x ← holding [v] (eval o X.env)
      let y ← holding [v, x] (eval i X.env)
      standAt pos
      holding [v, x, y] (setItem x y v)
      release [v, x, y] []) := by intro _; rfl) : PVG X W (.Subscript o i pos) (gsub mo mi) := by
  refine ⟨fun pins s σ H v u Q I r ⟨α, l, h, w, rl, hr, rv, ok⟩ => ?_⟩
  rw [ha]
  refine wpAny_bind (wpAny_holding (goS ho I rl hr ok fun wo h1 β vo H1 s1 ov x1 rl1 hr1 ro qo I1 ok1 => ?_))
  refine wpAny_bind (wpAny_holding (goS hi I1 rl1 hr1 ok1 fun wi h2 γ vi H2 s2 iv x2 rl2 hr2 ri qi I2 ok2 => ?_))
  cases q : putI wo wi w h2 with
  | none => rw [q] at ok2; exact False.elim ok2
  | some h3 =>
    rw [q] at ok2
    refine wpAny_bind (wpAny_standAt (wpAny_bind (wpAny_holding (thn (set_V hu (Q := fun H3 => HR γ h3 H3) I2 hr2 (ro.ext x2) ri (rv.ext (x1.trans x2)) qo qi r q fun H' z => z) fun _ s3 ⟨H3, I3, z⟩ => ?_))))
    exact wpAny_release ⟨σ, H3, I3, ok2 γ σ H3 (Ext.refl γ) rl2 z⟩
theorem plain_sub : Plain (gsub mo mi) := fun w l h => by
  unfold gsub
  cases mo l h with
  | ok o h1 =>
    show match (mi l h1).st l fun i h2 => (match putI o i w h2 with | some h3 => Sx.nx l h3 | none => .stuck) with | .ret _ _ => False | .brk _ _ => False | .cont _ _ => False | _ => True
    cases mi l h1 with
    | ok i h2 =>
      show match (match putI o i w h2 with | some h3 => Sx.nx l h3 | none => .stuck) with | .ret _ _ => False | .brk _ _ => False | .cont _ _ => False | _ => True
      cases putI o i w h2 <;> exact trivial
    | _ => exact trivial
  | _ => exact trivial
/-- o[i] = e as a statement -/
def mput (mo mi me : Ex) : Ms := fun l h => (me l h).st l fun w h0 => (mo l h0).st l fun o h1 => (mi l h1).st l fun i h2 => match putI o i w h2 with | some h3 => .nx l h3 | none => .stuck
theorem sv_put (hu : X.A.units + 1 < cLine) (ho : PV X W o mo) (hi : PV X W i mi) (he : PV X W e me) (hs : swapsWith e (some (.Subscript o i pos')) pos.line X.env = pure false := by rfl) : PVS X W (.Assign [.Subscript o i pos'] e pos) (mput mo mi me) := by
  refine ⟨fun pins s σ H D I ⟨α, l, h, rl, hr, ok⟩ => ?_⟩
  refine wpAny_Assign_Subscript (goS he I rl hr ok fun w h0 δ v H0 s0 u x0 rl0 hr0 rv qv I0 ok0 => goS ho I0 rl0 hr0 ok0 fun wo h1 β vo H1 s1 ov x1 rl1 hr1 ro qo I1 ok1 => goS hi I1 rl1 hr1 ok1 fun wi h2 γ vi H2 s2 iv x2 rl2 hr2 ri qi I2 ok2 => ?_) hs
  cases q : putI wo wi w h2 with
  | none => rw [q] at ok2; exact False.elim ok2
  | some h3 =>
    rw [q] at ok2
    exact thn (set_V hu (Q := fun H3 => HR γ h3 H3) I2 hr2 (ro.ext x2) ri (rv.ext (x1.trans x2)) qo qi qv q fun H' z => z) fun _ s3 ⟨H3, I3, z⟩ => ⟨σ, H3, I3, ok2 γ σ H3 (Ext.refl γ) rl2 z⟩
/-! ### membership -/
def memN (c : Nat) : List Nat → Bool
  | [] => false
  | a :: r => bif Nat.beq c a then true else memN c r
theorem memN_is (c : Nat) : ∀ l : List Nat, memN c l = decide (c ∈ l)
  | [] => by simp [memN]
  | a :: r => by
    show (bif Nat.beq c a then true else memN c r) = _
    by_cases e : c = a
    · subst e; rw [Nat.beq_refl]; simp
    · rw [nbeq e, cond_false, memN_is c r]; simp [e]
/-- one sign -/
def sign1 (s : Str) : Option Nat := match s.cps.toList with | [c] => some c | _ => none
theorem sign1_is {s : Str} {c : Nat} (h : sign1 s = some c) : s = ⟨#[c]⟩ := by
  unfold sign1 at h
  split at h
  · rename_i c' e
    cases h
    obtain ⟨⟨x⟩⟩ := s
    have e : x = [c] := e
    rw [e]
  · cases h
def inB (w w' : Vx) (h : Hx) : Option Bool := match w' with
  | .str z => (match w with | .str y => (match sign1 y with | some c => some (memN c z.cps.toList) | none => none) | _ => none)
  | _ => (match asD w' h, kxOf w with | some kvs, some k => some (hasX kvs k) | _, _ => none)
def kIn : Vx → Vx → Hx → Option (Rx Vx) := fun w w' h => match inB w w' h with | some b => some (.ok (.bl b) h) | none => none
def kNotIn : Vx → Vx → Hx → Option (Rx Vx) := fun w w' h => match inB w w' h with | some b => some (.ok (.bl (!b)) h) | none => none
theorem inB_dict {α : Al} {h : Hx} {H : Hp} {w w' : Vx} {v v' : V} {b : Bool} (hr : HR α h H) (rv : RV α w v) (rv' : RV α w' v') (ns : ∀ z, w' ≠ .str z) (e : inB w w' h = some b) : ∃ a r, v' = .ref a ∧ DGet H a v r ∧ r.isSome = b := by
  have e : (match asD w' h, kxOf w with | some kvs, some k => some (hasX kvs k) | _, _ => none) = some b := by
    cases w' <;> first | exact e | exact absurd rfl (ns _)
  cases q : asD w' h with
  | none => (rw [q] at e; cases e)
  | some kvs =>
    cases qk : kxOf w with
    | none => rw [q, qk] at e; cases e
    | some k =>
      rw [q, qk] at e
      cases e
      obtain ⟨a, vs, rfl, rd, rs, g⟩ := dget_is hr rv' q qk rv
      exact ⟨a, _, rfl, g, (hasX_is rs).symm⟩
theorem k_in (hu : X.A.units + 1 < cLine) : Op2 X W (compareOp .In) kIn := by
  intro pins s σ H Q α h w w' v v' u u' r I hr rv rv' ru ru' e ok
  unfold kIn at e
  cases q : inB w w' h with
  | none => (rw [q] at e; cases e)
  | some b =>
    rw [q] at e
    cases e
    by_cases hs : ∃ z, w' = .str z
    · obtain ⟨z, rfl⟩ := hs
      cases w with
      | str y =>
        have q : (match sign1 y with | some c => some (memN c z.cps.toList) | none => none) = some b := q
        cases q2 : sign1 y with
        | none => rw [q2] at q; cases q
        | some c =>
          rw [q2] at q
          cases q
          have := sign1_is q2
          subst this
          cases rv
          cases rv'
          exact op_in_sign pins s σ H _ _ u u' Q I ru ru' ⟨c, z, rfl, rfl, by rw [← memN_is]; exact ok α (.bl _) H (Ext.refl α) hr rfl⟩
      | _ => cases q
    · obtain ⟨a, r, rfl, g, er⟩ := inB_dict hr rv rv' (fun z e => hs ⟨z, e⟩) q
      obtain rfl : u' = Value.ref a := ru'
      exact d_in hu I g ru fun s' I' => by rw [er]; exact fin (w := .bl b) (v := .bl b) ok I' hr rfl rfl
theorem k_notIn (hu : X.A.units + 1 < cLine) : Op2 X W (compareOp .NotIn) kNotIn := by
  intro pins s σ H Q α h w w' v v' u u' r I hr rv rv' ru ru' e ok
  unfold kNotIn at e
  cases q : inB w w' h with
  | none => (rw [q] at e; cases e)
  | some b =>
    rw [q] at e
    cases e
    by_cases hs : ∃ z, w' = .str z
    · obtain ⟨z, rfl⟩ := hs
      cases w with
      | str y =>
        have q : (match sign1 y with | some c => some (memN c z.cps.toList) | none => none) = some b := q
        cases q2 : sign1 y with
        | none => rw [q2] at q; cases q
        | some c =>
          rw [q2] at q
          cases q
          have := sign1_is q2
          subst this
          cases rv
          cases rv'
          exact op_notIn_sign pins s σ H _ _ u u' Q I ru ru' ⟨c, z, rfl, rfl, by rw [← memN_is]; exact ok α (.bl _) H (Ext.refl α) hr rfl⟩
      | _ => cases q
    · obtain ⟨a, r, rfl, g, er⟩ := inB_dict hr rv rv' (fun z e => hs ⟨z, e⟩) q
      obtain rfl : u' = Value.ref a := ru'
      exact d_notIn hu I g ru fun s' I' => by rw [er]; exact fin (w := .bl (!b)) (v := .bl (!b)) ok I' hr rfl rfl
end
end SV

set_option Elab.async false
set_option linter.all false
set_option maxRecDepth 100000
set_option maxHeartbeats 4800000
/-! built-in functions, displays, == of data. -/
namespace SV
open PySem L2 PySem.Spec PyProof.Rows
variable [GA]
section
variable {X : Cx} {W : WX}
abbrev BuiN (X : Cx) (W : WX) (f : Value) (g : List Vx → Hx → Option (Rx Vx)) : Prop := OpN X W (fun us => call f us) g
theorem one_rv {α : Al} {x : Vx} {vs : List V} (r : RVs α [x] vs) : ∃ v, vs = [v] ∧ RV α x v := by cases r with | cons a t => cases t; exact ⟨_, rfl, a⟩
theorem two_rv {α : Al} {x y : Vx} {vs : List V} (r : RVs α [x, y] vs) : ∃ v u, vs = [v, u] ∧ RV α x v ∧ RV α y u := by
  cases r with | cons a t => cases t with | cons b t => cases t; exact ⟨_, _, rfl, a, b⟩
/-! ### len -/
def lenV (w : Vx) (h : Hx) : Option Nat := match w with
  | .str y => bif Nat.ble y.length sline then some y.length else none
  | .ref i => (match h.rd i with | some (.lst xs) => some xs.length | some (.tup xs) => some xs.length | some (.dK xs) => some xs.length | _ => none)
  | _ => none
def kLen : List Vx → Hx → Option (Rx Vx) := fun ws h => match ws with
  | [w] => (match lenV w h with | some n => some (.ok (.int n) h) | none => none)
  | _ => none
theorem k_len : BuiN X W (.builtin "len") kLen := by
  intro pins s σ H Q α h ws vs us r I hr rv ru e ok
  unfold kLen at e
  split at e
  · rename_i w
    obtain ⟨v, rfl, rw'⟩ := one_rv rv
    cases q : lenV w h with
    | none => (rw [q] at e; cases e)
    | some n =>
      rw [q] at e
      cases e
      unfold lenV at q
      cases w with
      | str y =>
        dsimp only at q
        cases q2 : Nat.ble y.length sline with
        | false => rw [q2] at q; cases q
        | true =>
          rw [q2] at q
          cases q
          cases rw'
          exact call_len pins s σ H _ us Q I ru ⟨_, y.length, rfl, ⟨by rw [sline_is]; exact Nat.le_of_ble_eq_true q2, rfl⟩, ok α _ H (Ext.refl α) hr rfl⟩
      | ref i =>
        dsimp only at q
        obtain ⟨a, ha, rfl⟩ := rw'
        cases q2 : h.rd i with
        | none => rw [q2] at q; cases q
        | some o =>
          rw [q2] at q
          obtain ⟨p, hp, ro⟩ := hr.rd ha q2
          cases o with
          | lst xs =>
            cases q
            obtain ⟨zs, rs, rfl⟩ := ro
            exact call_len pins s σ H _ us Q I ru ⟨_, xs.length, rfl, .inl ⟨zs, .inl hp, (plen rs).symm⟩, ok α _ H (Ext.refl α) hr rfl⟩
          | tup xs =>
            cases q
            obtain ⟨zs, rs, rfl⟩ := ro
            exact call_len pins s σ H _ us Q I ru ⟨_, xs.length, rfl, .inr ⟨zs, .inl hp, (plen rs).symm⟩, ok α _ H (Ext.refl α) hr rfl⟩
          | dK xs =>
            cases q
            obtain ⟨zs, rs, rfl⟩ := ro
            obtain ⟨u, rfl, r1⟩ := vals1 ru
            obtain rfl := (r1 : u = Value.ref a)
            refine d_len I hp fun t s' I' => ?_
            have z := ok α (.int xs.length) H (Ext.refl α) hr rfl
            rw [plen rs]
            exact ⟨.int xs.length, H, I', ⟨t, rfl⟩, z⟩
          | _ => cases q
      | _ => cases q
  · cases e
/-! ### all, any -/
def bools : List Vx → Option (List Bool)
  | [] => some []
  | .bl b :: r => (match bools r with | some bs => some (b :: bs) | none => none)
  | _ :: _ => none
theorem bools_is {α : Al} : ∀ {ws : List Vx} {vs : List V} {bs : List Bool}, RVs α ws vs → bools ws = some bs → vs = bs.map V.bl
  | [], _, _, .nil, e => by cases e; rfl
  | w :: ws, _, bs, .cons (b := v) (l₂ := vs) r t, e => by
    cases w with
    | bl b =>
      have e : (match bools ws with | some bs => some (b :: bs) | none => none) = some bs := e
      cases q : bools ws with
      | none => (rw [q] at e; cases e)
      | some cs =>
        rw [q] at e
        cases e
        rw [List.map_cons, bools_is t q]
        cases r; rfl
    | _ => cases e
def allB : List Bool → Bool
  | [] => true
  | b :: r => bif b then allB r else false
def anyB : List Bool → Bool
  | [] => false
  | b :: r => bif b then true else anyB r
theorem allB_is : ∀ bs : List Bool, allB bs = bs.all id
  | [] => rfl
  | b :: r => by show (bif b then allB r else false) = _; rw [allB_is r]; cases b <;> rfl
theorem anyB_is : ∀ bs : List Bool, anyB bs = bs.any id
  | [] => rfl
  | b :: r => by show (bif b then true else anyB r) = _; rw [anyB_is r]; cases b <;> rfl
def kAll : List Vx → Hx → Option (Rx Vx) := fun ws h => match ws with
  | [w] => (match asL w h with | some xs => (match bools xs with | some bs => some (.ok (.bl (allB bs)) h) | none => none) | none => none)
  | _ => none
def kAny : List Vx → Hx → Option (Rx Vx) := fun ws h => match ws with
  | [w] => (match asL w h with | some xs => (match bools xs with | some bs => some (.ok (.bl (anyB bs)) h) | none => none) | none => none)
  | _ => none
theorem k_all (hc : X.calm = true) : BuiN X W (.builtin "all") kAll := by
  intro pins s σ H Q α h ws vs us r I hr rv ru e ok
  unfold kAll at e
  split at e
  · rename_i w
    obtain ⟨v, rfl, rw'⟩ := one_rv rv
    cases q : asL w h with
    | none => (rw [q] at e; cases e)
    | some xs =>
      rw [q] at e
      dsimp only at e
      cases q2 : bools xs with
      | none => rw [q2] at e; cases e
      | some bs =>
        rw [q2] at e
        cases e
        obtain ⟨a, zs, rfl, sq, rs⟩ := asL_is (K := X.K) hr rw' q
        refine cr_all hc pins s σ H _ us Q I ru ⟨a, bs, rfl, by rw [← bools_is rs q2]; exact sq, ?_⟩
        rw [← allB_is]
        exact ok α (.bl _) H (Ext.refl α) hr rfl
  · cases e
theorem k_any (hc : X.calm = true) : BuiN X W (.builtin "any") kAny := by
  intro pins s σ H Q α h ws vs us r I hr rv ru e ok
  unfold kAny at e
  split at e
  · rename_i w
    obtain ⟨v, rfl, rw'⟩ := one_rv rv
    cases q : asL w h with
    | none => (rw [q] at e; cases e)
    | some xs =>
      rw [q] at e
      dsimp only at e
      cases q2 : bools xs with
      | none => rw [q2] at e; cases e
      | some bs =>
        rw [q2] at e
        cases e
        obtain ⟨a, zs, rfl, sq, rs⟩ := asL_is (K := X.K) hr rw' q
        refine cr_any hc pins s σ H _ us Q I ru ⟨a, bs, rfl, by rw [← bools_is rs q2]; exact sq, ?_⟩
        rw [← anyB_is]
        exact ok α (.bl _) H (Ext.refl α) hr rfl
  · cases e
/-! ### sorted -/
def insS (x : Str) : List Str → List Str
  | [] => [x]
  | y :: r => bif ltCps y.cps.toList x.cps.toList then y :: insS x r else x :: y :: r
def isort : List Str → List Str
  | [] => []
  | x :: r => insS x (isort r)
theorem insS_perm (x : Str) : ∀ l : List Str, (insS x l).Perm (x :: l)
  | [] => .refl _
  | y :: r => by
    show (bif ltCps y.cps.toList x.cps.toList then y :: insS x r else x :: y :: r).Perm _
    cases ltCps y.cps.toList x.cps.toList with
    | false => exact .refl _
    | true => exact ((insS_perm x r).cons y).trans (.swap x y r)
theorem isort_perm : ∀ l : List Str, (isort l).Perm l
  | [] => .refl _
  | x :: r => (insS_perm x (isort r)).trans ((isort_perm r).cons x)
theorem rising_insS {p x : Str} (h : ltCps x.cps.toList p.cps.toList = false) : ∀ {l : List Str}, risingS p l = true → risingS p (insS x l) = true
  | [], _ => by show (!ltCps x.cps.toList p.cps.toList && true) = true; rw [h]; rfl
  | y :: r, hr => by
    have hr : (!ltCps y.cps.toList p.cps.toList && risingS y r) = true := hr
    rw [Bool.and_eq_true] at hr
    show risingS p (bif ltCps y.cps.toList x.cps.toList then y :: insS x r else x :: y :: r) = true
    cases q : ltCps y.cps.toList x.cps.toList with
    | false =>
      show (!ltCps x.cps.toList p.cps.toList && (!ltCps y.cps.toList x.cps.toList && risingS y r)) = true
      rw [h, q, hr.2]; rfl
    | true =>
      show (!ltCps y.cps.toList p.cps.toList && risingS y (insS x r)) = true
      have hyx : ltCps x.cps.toList y.cps.toList = false := by
        rw [ltCps_eq] at q ⊢
        exact decide_eq_false fun z => List.lt_asymm (of_decide_eq_true q) z
      rw [hr.1, rising_insS hyx hr.2]; rfl
theorem sorted_insS (x : Str) : ∀ {l : List Str}, sortedS l = true → sortedS (insS x l) = true
  | [], _ => rfl
  | y :: r, hr => by
    have hr : risingS y r = true := hr
    show sortedS (bif ltCps y.cps.toList x.cps.toList then y :: insS x r else x :: y :: r) = true
    cases q : ltCps y.cps.toList x.cps.toList with
    | false =>
      show (!ltCps y.cps.toList x.cps.toList && risingS y r) = true
      rw [q, hr]; rfl
    | true =>
      have hyx : ltCps x.cps.toList y.cps.toList = false := by
        rw [ltCps_eq] at q ⊢
        exact decide_eq_false fun z => List.lt_asymm (of_decide_eq_true q) z
      exact rising_insS hyx hr
theorem isort_sorted : ∀ l : List Str, sortedS (isort l) = true
  | [] => rfl
  | x :: r => sorted_insS x (isort_sorted r)
theorem sort_unique {xs ys : List Str} (h : ys.Perm xs) (hs : sortedS ys = true) : ys = isort xs := UX.sorted_unique (h.trans (isort_perm xs).symm) hs (isort_sorted xs)
def txts : List Vx → Option (List Str)
  | [] => some []
  | .str s :: r => (match txts r with | some t => some (s :: t) | none => none)
  | _ :: _ => none
theorem txts_is {α : Al} : ∀ {ws : List Vx} {vs : List V} {ss : List Str}, RVs α ws vs → txts ws = some ss → vs = ss.map V.str
  | [], _, _, .nil, e => by cases e; rfl
  | w :: ws, _, bs, .cons (b := v) (l₂ := vs) r t, e => by
    cases w with
    | str b =>
      have e : (match txts ws with | some bs => some (b :: bs) | none => none) = some bs := e
      cases q : txts ws with
      | none => (rw [q] at e; cases e)
      | some cs =>
        rw [q] at e
        cases e
        rw [List.map_cons, txts_is t q]
        cases r; rfl
    | _ => cases e
theorem txts_rv {α : Al} : ∀ ss : List Str, RVs α (ss.map Vx.str) (ss.map V.str)
  | [] => .nil
  | s :: r => .cons rfl (txts_rv r)
def ktxts : List (Kx × Vx) → Option (List Str)
  | [] => some []
  | (.inr s, _) :: r => (match ktxts r with | some t => some (s :: t) | none => none)
  | _ :: _ => none
theorem ktxts_is {α : Al} : ∀ {ws : List (Kx × Vx)} {vs : List (L2.Key × V)} {ss : List Str}, RPs α ws vs → ktxts ws = some ss → vs.map (·.1) = ss.map Sum.inr
  | [], _, _, .nil, e => by cases e; rfl
  | (k, w) :: ws, _, bs, .cons (b := p) (l₂ := vs) r t, e => by
    cases k with
    | inr s =>
      have e : (match ktxts ws with | some t => some (s :: t) | none => none) = some bs := e
      cases q : ktxts ws with
      | none => (rw [q] at e; cases e)
      | some cs =>
        rw [q] at e
        cases e
        rw [List.map_cons, List.map_cons, ktxts_is t q, ← r.1]
    | inl i => cases e
/-- the texts to be sorted: a list's, a dict's keys -/
def toSort (w : Vx) (h : Hx) : Option (List Str) := match asL w h with
  | some xs => txts xs
  | none => (match asD w h with | some kvs => ktxts kvs | none => none)
def kSorted : List Vx → Hx → Option (Rx Vx) := fun ws h => match ws with
  | [w] => (match toSort w h with
    | some ss => bif Nat.blt ss.length 64 then some (.ok (.ref h.n) (h.new (.lst ((isort ss).map Vx.str)))) else none
    | none => none)
  | _ => none
theorem k_sorted (hc : X.calm = true) : BuiN X W (.builtin "sorted") kSorted := by
  intro pins s σ H Q α h ws vs us r I hr rv ru e ok
  unfold kSorted at e
  split at e
  · rename_i w
    obtain ⟨v, rfl, rw'⟩ := one_rv rv
    cases q : toSort w h with
    | none => (rw [q] at e; cases e)
    | some ss =>
      rw [q] at e
      dsimp only at e
      cases q2 : Nat.blt ss.length 64 with
      | false => rw [q2] at e; cases e
      | true =>
        rw [q2] at e
        cases e
        have h64 := Nat.blt_eq.mp q2
        unfold toSort at q
        cases q3 : asL w h with
        | some xs =>
          rw [q3] at q
          obtain ⟨a, zs, rfl, sq, rs⟩ := asL_is (K := X.K) hr rw' q3
          refine cr_sortedS pins s σ H _ us Q I ru ⟨a, ss, rfl, by rw [← txts_is rs q]; exact sq, h64, fun ys p hp hs hn => ?_⟩
          rw [sort_unique hp hs]
          exact newV hr ok hn ⟨_, txts_rv _, rfl⟩
        | none =>
          rw [q3] at q
          dsimp only at q
          cases q4 : asD w h with
          | none => rw [q4] at q; cases q
          | some kvs =>
            rw [q4] at q
            obtain ⟨a, zs, rfl, rd, rs⟩ := asD_is hr rw' q4
            refine call_sortedD hc pins s σ H _ us Q I ru ⟨a, zs, ss, rfl, rd, ktxts_is rs q, h64, fun ys p hp hs hn => ?_⟩
            rw [sort_unique hp hs]
            exact newV hr ok hn ⟨_, txts_rv _, rfl⟩
  · cases e
/-! ### list(x) -/
def toList (w : Vx) (h : Hx) : Option (List Vx) := match asL w h with
  | some xs => some xs
  | none => (match asT w h with
    | some xs => some xs
    | none => (match asD w h with | some kvs => some (kvs.map fun p => kx p.1) | none => none))
theorem keys_rv {α : Al} : ∀ {ws : List (Kx × Vx)} {vs : List (L2.Key × V)}, RPs α ws vs → RVs α (ws.map fun p => kx p.1) (vs.map fun p => L2.kV p.1)
  | _, _, .nil => .nil
  | _, _, .cons (a := p) (b := q) r t => by
    have e : p.1 = q.1 := r.1
    rw [List.map_cons, List.map_cons, e]
    exact .cons (kx_rv q.1) (keys_rv t)
def kList : List Vx → Hx → Option (Rx Vx) := fun ws h => match ws with
  | [w] => (match toList w h with | some xs => some (.ok (.ref h.n) (h.new (.lst xs))) | none => none)
  | _ => none
theorem k_list (hc : X.calm = true) : BuiN X W (.type "list") kList := by
  intro pins s σ H Q α h ws vs us r I hr rv ru e ok
  unfold kList at e
  split at e
  · rename_i w
    obtain ⟨v, rfl, rw'⟩ := one_rv rv
    cases q : toList w h with
    | none => (rw [q] at e; cases e)
    | some ys =>
      rw [q] at e
      cases e
      unfold toList at q
      cases q1 : asL w h with
      | some xs =>
        rw [q1] at q
        cases q
        obtain ⟨a, zs, rfl, sq, rs⟩ := asL_is (K := X.K) hr rw' q1
        exact call_list_of pins s σ H _ us Q I ru ⟨a, zs, rfl, .inl sq, fun p hp => newV hr ok hp ⟨_, rs, rfl⟩⟩
      | none =>
        rw [q1] at q
        dsimp only at q
        cases q2 : asT w h with
        | some xs =>
          rw [q2] at q
          cases q
          obtain ⟨a, zs, rfl, sq, rs⟩ := asT_is (K := X.K) hr rw' q2
          exact call_list_of pins s σ H _ us Q I ru ⟨a, zs, rfl, .inr sq, fun p hp => newV hr ok hp ⟨_, rs, rfl⟩⟩
        | none =>
          rw [q2] at q
          dsimp only at q
          cases q3 : asD w h with
          | none => rw [q3] at q; cases q
          | some kvs =>
            rw [q3] at q
            cases q
            obtain ⟨a, zs, rfl, rd, rs⟩ := asD_is hr rw' q3
            exact call_listD hc pins s σ H _ us Q I ru ⟨a, zs, rfl, rd, fun p hp => newV hr ok hp ⟨_, keys_rv rs, rfl⟩⟩
  · cases e
/-! ### dict(x) -/
def pairs : List Vx → Hx → Option (List (Kx × Vx))
  | [], _ => some []
  | w :: r, h => (match asT w h with
    | some [k, v] => (match kxOf k, pairs r h with | some k, some t => some ((k, v) :: t) | _, _ => none)
    | _ => none)
theorem pairs_is {α : Al} {h : Hx} {H : Hp} {K : PySem.W.Frag} (hr : HR α h H) : ∀ {ws : List Vx} {vs : List V} {kvs : List (Kx × Vx)}, RVs α ws vs → pairs ws h = some kvs →
    ∃ (ps : List Addr) (zs : List (L2.Key × V)), vs = ps.map V.ref ∧ Paired (fun p kv => SqT K H p [L2.kV kv.1, kv.2]) ps zs ∧ RPs α kvs zs
  | [], _, _, .nil, e => by cases e; exact ⟨[], [], rfl, .nil, .nil⟩
  | w :: ws, _, kvs, .cons (b := v) (l₂ := vs) r t, e => by
    have e : (match asT w h with
      | some [k, v] => (match kxOf k, pairs ws h with | some k, some t => some ((k, v) :: t) | _, _ => none)
      | _ => none) = some kvs := e
    cases q : asT w h with
    | none => (rw [q] at e; cases e)
    | some xs =>
      rw [q] at e
      obtain ⟨a, zs, rfl, sq, rs⟩ := asT_is (K := K) hr r q
      match xs, rs, e with
      | [k, y], rs, e =>
        dsimp only at e
        cases q2 : kxOf k with
        | none => rw [q2] at e; cases e
        | some key =>
          cases q3 : pairs ws h with
          | none => rw [q2, q3] at e; cases e
          | some tl =>
            rw [q2, q3] at e
            cases e
            obtain ⟨vk, vy, rfl, rk, ry⟩ := two_rv rs
            obtain ⟨ps, zs, rfl, h2, h3⟩ := pairs_is (K := K) hr t q3
            have := kxOf_is rk q2
            subst this
            exact ⟨a :: ps, (key, vy) :: zs, rfl, .cons sq h2, .cons ⟨rfl, ry⟩ h3⟩
      | [], _, e => cases e
      | [_], _, e => cases e
      | _ :: _ :: _ :: _, _, e => cases e
def kDict : List Vx → Hx → Option (Rx Vx) := fun ws h => match ws with
  | [w] => (match asD w h with
    | some kvs => some (.ok (.ref h.n) (h.new (.dK kvs)))
    | none => (match asL w h with
      | some xs => (match pairs xs h with | some kvs => some (.ok (.ref h.n) (h.new (.dK (mergeX [] kvs)))) | none => none)
      | none => none))
  | _ => none
theorem k_dict (hc : X.calm = true) : BuiN X W (.type "dict") kDict := by
  intro pins s σ H Q α h ws vs us r I hr rv ru e ok
  unfold kDict at e
  split at e
  · rename_i w
    obtain ⟨v, rfl, rw'⟩ := one_rv rv
    cases q : asD w h with
    | some kvs =>
      rw [q] at e
      cases e
      obtain ⟨a, zs, rfl, rd, rs⟩ := asD_is hr rw' q
      exact call_dictD pins s σ H _ us Q I ru ⟨a, zs, rfl, rd, fun p hp => newV hr ok hp ⟨_, rs, rfl⟩⟩
    | none =>
      rw [q] at e
      dsimp only at e
      cases q2 : asL w h with
      | none => rw [q2] at e; cases e
      | some xs =>
        rw [q2] at e
        dsimp only at e
        cases q3 : pairs xs h with
        | none => rw [q3] at e; cases e
        | some kvs =>
          rw [q3] at e
          cases e
          obtain ⟨a, zs, rfl, sq, rs⟩ := asL_is (K := X.K) hr rw' q2
          obtain ⟨ps, ks, rfl, h2, h3⟩ := pairs_is (K := X.K) hr rs q3
          exact call_dictP hc pins s σ H _ us Q I ru ⟨a, ps, ks, rfl, sq, h2, fun p hp => newV hr ok hp ⟨_, mergeX_is h3 .nil, rfl⟩⟩
  · cases e
/-! ### max, min of two ints; abs -/
def kMax2 : List Vx → Hx → Option (Rx Vx) := fun ws h => match ws with
  | [.int i, .int j] => some (.ok (.int (if j > i then j else i)) h)
  | _ => none
def kMin2 : List Vx → Hx → Option (Rx Vx) := fun ws h => match ws with
  | [.int i, .int j] => some (.ok (.int (if j < i then j else i)) h)
  | _ => none
def kAbs : List Vx → Hx → Option (Rx Vx) := fun ws h => match ws with
  | [.int i] => some (.ok (.int (if i < 0 then -i else i)) h)
  | _ => none
theorem k_max2 (hc : X.calm = true) : BuiN X W (.builtin "max") kMax2 := by
  intro pins s σ H Q α h ws vs us r I hr rv ru e ok
  unfold kMax2 at e
  split at e
  · cases e
    obtain ⟨v, u, rfl, r1, r2⟩ := two_rv rv
    cases r1; cases r2
    exact call_max2 hc pins s σ H _ us Q I ru ⟨_, _, rfl, ok α _ H (Ext.refl α) hr rfl⟩
  · cases e
theorem k_min2 (hc : X.calm = true) : BuiN X W (.builtin "min") kMin2 := by
  intro pins s σ H Q α h ws vs us r I hr rv ru e ok
  unfold kMin2 at e
  split at e
  · cases e
    obtain ⟨v, u, rfl, r1, r2⟩ := two_rv rv
    cases r1; cases r2
    exact call_min2 hc pins s σ H _ us Q I ru ⟨_, _, rfl, ok α _ H (Ext.refl α) hr rfl⟩
  · cases e
theorem k_abs : BuiN X W (.builtin "abs") kAbs := by
  intro pins s σ H Q α h ws vs us r I hr rv ru e ok
  unfold kAbs at e
  split at e
  · cases e
    obtain ⟨v, rfl, r1⟩ := one_rv rv
    cases r1
    exact call_abs pins s σ H _ us Q I ru ⟨_, rfl, ok α _ H (Ext.refl α) hr rfl⟩
  · cases e
/-! ### bool -/
def kBool : List Vx → Hx → Option (Rx Vx) := fun ws h => match ws with
  | [.int i] => some (.ok (.bl (i != 0)) h)
  | [.bl b] => some (.ok (.bl b) h)
  | _ => none
theorem k_bool : BuiN X W (.type "bool") kBool := by
  intro pins s σ H Q α h ws vs us r I hr rv ru e ok
  unfold kBool at e
  split at e
  · cases e
    obtain ⟨v, rfl, r1⟩ := one_rv rv
    cases r1
    exact call_bool1 pins s σ H _ us Q I ru (.inl ⟨_, rfl, ok α _ H (Ext.refl α) hr rfl⟩)
  · cases e
    obtain ⟨v, rfl, r1⟩ := one_rv rv
    cases r1
    exact call_bool1 pins s σ H _ us Q I ru (.inr ⟨_, rfl, ok α _ H (Ext.refl α) hr rfl⟩)
  · cases e
structure BoolX (X : Cx) (C : Nat) (g : Fx) : Prop where
  ex : ∃ f k, FL.Own X.K (GA.g C) "__bool__" f ∧ FnX X k f g ∧ Room (k + 2) X.A
def ownBool (tb : Nat → Option Fx) : List Vx → Hx → Option (Rx Vx) := fun ws h => match ws with
  | [w] => (match asI w h with
    | some (C, _) => (match tb C with
      | some g => some ((g [w] h).bind fun z h1 => match z with | .bl b => .ok (.bl b) h1 | _ => .stuck)
      | none => none)
    | none => none)
  | _ => none
theorem k_ownBool {tb : Nat → Option Fx} (htb : ∀ C g, tb C = some g → BoolX X C g) (tk : Takes X W) : BuiN X W (.type "bool") (ownBool tb) := by
  intro pins s σ H Q α h ws vs us r I hr rv ru e ok
  unfold ownBool at e
  split at e
  · rename_i w
    obtain ⟨v, rfl, rw'⟩ := one_rv rv
    cases q : asI w h with
    | none => (rw [q] at e; cases e)
    | some p =>
      obtain ⟨C, fs⟩ := p
      rw [q] at e
      dsimp only at e
      cases q2 : tb C with
      | none => rw [q2] at e; cases e
      | some g =>
        rw [q2] at e
        cases e
        obtain ⟨f, k, o, F, hrm⟩ := htb C g q2
        obtain ⟨i, a, dx, fs', rfl, ha, rfl, hH, rs⟩ := asI_is hr rw' q
        obtain ⟨u, rfl, r1⟩ := vals1 ru
        obtain rfl := (r1 : u = Value.ref a)
        obtain ⟨_, _, J⟩ := FL.inst_of I hH
        obtain ⟨m, hF⟩ := I.fr
        have hr2 : Room k X.A.in1.in1 := (show Room (k + 1) X.A.in1 from Room.in1 hrm).in1
        refine FLM.bool_own hF I.ok.mod.kin J o.at_ o.fn ?_
        refine wpAny_mono (wpAny_call (run_V (us := [.ref a]) F tk hr2 I.env0.in1.in1 I hr rv (.cons rfl .nil) (OKg.fst (R := RV) ok))) (fun z s' y => ?_) fun _ _ y => y
        obtain ⟨z', H', I', rz, wz, h1, β, e1, x, hr1, rvz, ok1⟩ := y
        cases wz with
        | bl b =>
          cases rvz
          cases (show z = Value.bool b from rz)
          exact ⟨b, rfl, fin (w := .bl b) (v := .bl b) ok1 I' hr1 rfl rfl⟩
        | _ => exact False.elim ok1
  · cases e
end
end SV

set_option Elab.async false
set_option linter.all false
set_option maxRecDepth 100000
set_option maxHeartbeats 4800000
/-! isinstance, methods of built-in types, displays of dicts, == of data. -/
namespace SV
open PySem L2 PySem.Spec PyProof.Rows
variable [GA]
/-! ### isinstance -/
inductive Tt where
  | b (n : Tn) | o (C : Nat)
def Tt.val : Tt → Value
  | .b n => .type n.nm
  | .o C => .ref (GA.g C)
structure InsT (K : PySem.W.Frag) (C : Addr) : Prop where
  cl : Cls K C
  (ha : PySem.W.findIn K (.ref C) "__class__" = some (some (.builtin "object.__class__"))) (hn : PySem.W.specialIn K (.builtin "object.__class__") "__get__" = some (some (.builtin "getset_descriptor.__get__")))
  (htk : PySem.W.takesIn K (.builtin "object.__class__") = some true) (hm : PySem.W.mroIn K C (.type "object") = some true)
def tyO : Ox → Option Tt
  | .lst _ => some (.b .list)
  | .tup _ => some (.b .tuple)
  | .dK _ => some (.b .dict)
  | .ins C _ => some (.o C)
  | .lk (.lst _) => some (.b .list)
  | .lk (.dK _) => some (.b .dict)
  | .lk (.tup _) => some (.b .tuple)
  | _ => none
def tyW (w : Vx) (h : Hx) : Option Tt := match w with
  | .non => some (.b .none)
  | .bl _ => some (.b .bool)
  | .int _ => some (.b .int)
  | .str _ => some (.b .str)
  | .ref i => (match h.get i with | some o => tyO o | none => none)
  | _ => none
def clW : Vx → Option Tt
  | .ty n => some (.b n)
  | .fn C => some (.o C)
  | _ => none
theorem tyW_is {α : Al} {h : Hx} {H : Hp} {K : PySem.W.Frag} (hr : HR α h H) {w : Vx} {v : V} {t : Tt} (rv : RV α w v) (e : tyW w h = some t) (ho : ∀ C, t = .o C → InsT K (GA.g C)) : TyX K H v t.val := by
  cases w with
  | non => cases rv; cases e; exact .base .non
  | bl b => cases rv; cases e; exact .base (.bl b)
  | int i => cases rv; cases e; exact .base (.int i)
  | str s => cases rv; cases e; exact .base (.str s)
  | ref i =>
    obtain ⟨a, ha, rfl⟩ := rv
    have e : (match h.get i with | some o => tyO o | none => none) = some t := e
    cases q : h.get i with
    | none => (rw [q] at e; cases e)
    | some o =>
      rw [q] at e
      obtain ⟨p, hp, ro⟩ := hr.at ha q
      cases o with
      | lst xs => cases e; obtain ⟨vs, _, rfl⟩ := ro; exact .base (.lst hp)
      | tup xs => cases e; obtain ⟨vs, _, rfl⟩ := ro; exact .base (.tup hp)
      | dK xs => cases e; obtain ⟨vs, _, rfl⟩ := ro; exact .base (.dK hp)
      | ins C fs =>
        cases e
        obtain ⟨dx, vs, _, rfl⟩ := ro
        obtain ⟨c1, c2, c3, c4, c5⟩ := ho C rfl
        exact .base (.ins hp c1 c2 c3 c4 c5)
      | lk u =>
        obtain ⟨ob, p', rfl, ru⟩ := ro
        cases u with
        | lst xs => cases e; obtain ⟨vs, _, rfl⟩ := ru; exact .base (.frz hp)
        | tup xs => cases e; obtain ⟨vs, _, rfl⟩ := ru; exact .fTuple hp
        | dK xs => cases e; obtain ⟨vs, _, rfl⟩ := ru; exact .fDict hp
        | _ => cases e
  | _ => cases e
theorem clW_is {α : Al} {w : Vx} {v : V} {t : Tt} (rv : RV α w v) (e : clW w = some t) : ClsV v t.val := by
  cases w <;> first | (cases e; cases rv; first | exact ClsV.ty _ | exact ClsV.own _) | cases e
def kIsi (tb : Tt → Tt → Option Bool) : List Vx → Hx → Option (Rx Vx) := fun ws h => match ws with
  | [w, c] => (match tyW w h, clW c with
    | some t, some u => (match tb t u with | some b => some (.ok (.bl b) h) | none => none)
    | _, _ => none)
  | _ => none
def KitOK (K : PySem.W.Frag) (tb : Tt → Tt → Option Bool) : Prop := ∀ t u b, tb t u = some b → PySem.W.kitOne K t.val u.val = some b ∧ ∀ C, t = .o C → InsT K (GA.g C)
theorem k_isi {X : Cx} {W : WX} {tb : Tt → Tt → Option Bool} (htb : KitOK X.K tb) : BuiN X W (.builtin "isinstance") (kIsi tb) := by
  intro pins s σ H Q α h ws vs us r I hr rv ru e ok
  unfold kIsi at e
  split at e
  · rename_i w c
    obtain ⟨v, u, rfl, r1, r2⟩ := two_rv rv
    cases q : tyW w h with
    | none => (rw [q] at e; cases e)
    | some t =>
      cases q2 : clW c with
      | none => rw [q, q2] at e; cases e
      | some d =>
        rw [q, q2] at e
        dsimp only at e
        cases q3 : tb t d with
        | none => rw [q3] at e; cases e
        | some b =>
          rw [q3] at e
          cases e
          obtain ⟨h1, h2⟩ := htb t d b q3
          exact call_isi pins s σ H _ us Q I ru ⟨v, u, t.val, d.val, b, rfl, clW_is r2 q2, tyW_is hr r1 q h2, h1, ok α (.bl b) H (Ext.refl α) hr rfl⟩
  · cases e
/-- two built-in types -/
def isB : Tn → Tn → Bool
  | .int, .int => true | .bool, .bool => true | .bool, .int => true | .str, .str => true | .list, .list => true | .tuple, .tuple => true | .dict, .dict => true | .none, .none => true | .set, .set => true
  | _, _ => false
theorem isB_is (K : PySem.W.Frag) : ∀ a b : Tn, PySem.W.kitOne K (.type a.nm) (.type b.nm) = some (isB a b) ∨ a = .valueError ∨ a = .typeError := by
  intro a b
  cases a <;> first | exact .inr (.inl rfl) | exact .inr (.inr rfl) | (refine .inl (kit_ty ?_); cases b <;> decide +kernel)
/-! ### methods of built-in types -/
section
variable {X : Cx} {W : WX} {o e f : Expr} {es : List Expr} {mo me mf : Ex} {ms : Es} {pos apos cpos : Pos} {name : Str}
def vget2 (mo mk md : Ex) : Ex := fun l h => (mo l h).bind fun w h1 => match asD w h1 with
  | some _ => (mk l h1).bind fun k h2 => (md l h2).bind fun d h3 => (match asD w h3, kxOf k with
    | some kvs, some key => (match getX kvs key with | some v => .ok v h3 | none => .ok d h3)
    | _, _ => .stuck)
  | none => .stuck
theorem pv_get2 (hu : X.A.units + 1 < cLine) (ho : PV X W o mo) (he : PV X W e me) (hf : PV X W f mf) (m : M2 X o "get" apos e f cpos) : PV X W (.Call (.Attribute o "get" apos) [e, f] [] cpos) (vget2 mo me mf) := by
  refine pe_weak (pe_dget2 hu ho he hf m) fun σ H Q ⟨α, l, h, rl, hr, ok⟩ => ⟨α, l, h, rl, hr, OKg.mono (OKg.fst (R := RV) ok) ?_⟩
  rintro v H1 ⟨w, h1, β, e1, x, r, rv, ok1⟩
  cases q : asD w h1 with
  | none => rw [q] at ok1; exact False.elim ok1
  | some kvs =>
    rw [q] at ok1
    obtain ⟨a, vs, rfl, rd, rs⟩ := asD_is r rv q
    refine ⟨a, rfl, .inl ⟨vs, rd⟩, β, l, h1, RL.ext x rl, r, OKg.mono (OKg.fst (R := RV) ok1) ?_⟩
    rintro vk H2 ⟨wk, h2, γ, e2, x2, r2, rvk, ok2⟩
    refine ⟨γ, l, h2, RL.ext (x.trans x2) rl, r2, OKg.mono (OKg.fst (R := RV) ok2) ?_⟩
    rintro vd H3 ⟨wd, h3, δ, e3, x3, r3, rvd, ok3⟩
    cases q2 : asD w h3 with
    | none => rw [q2] at ok3; exact False.elim ok3
    | some kvs3 =>
      cases q3 : kxOf wk with
      | none => rw [q2, q3] at ok3; exact False.elim ok3
      | some key =>
        rw [q2, q3] at ok3
        dsimp only at ok3
        obtain ⟨a', vs3, e4, rd3, rs3, g⟩ := dget_is r3 (rv.ext (x2.trans x3)) q2 q3 (rvk.ext x3)
        cases e4
        have z := getX_is key rs3
        refine ⟨_, g, ?_⟩
        cases q4 : getX kvs3 key with
        | none =>
          rw [q4] at z ok3
          rw [z]
          exact ok3 δ vd H3 (Ext.refl δ) r3 rvd
        | some wv =>
          rw [q4] at z ok3
          obtain ⟨y, hy, ry⟩ := z
          rw [hy]
          exact ok3 δ y H3 (Ext.refl δ) r3 ry
/-- d.clear(), xs.clear() -/
def vclear (mo : Ex) : Ex := fun l h => (mo l h).bind fun w h1 => match w with
  | .ref i => (match h1.get i with
    | some (.dK _) => .ok .non (h1.put i (.dK []))
    | some (.lst _) => .ok .non (h1.put i (.lst []))
    | _ => .stuck)
  | _ => .stuck
theorem pv_clear (ho : PV X W o mo) (hbase : attributeBase o "clear" X.env (eval o X.env) = eval o X.env := by rfl) (hline : (apos.endLine == cpos.line) = true := by rfl) : PV X W (.Call (.Attribute o "clear" apos) [] [] cpos) (vclear mo) := by
  refine ⟨fun pins s σ H Q I ⟨α, l, h, rl, hr, ok⟩ => ?_⟩
  cases e1 : mo l h with
  | stuck => have ok : OK α σ W ((mo l h).bind _) Q := ok; rw [e1] at ok; exact False.elim ok
  | exc c d h1 =>
    have ok : OK α σ W ((mo l h).bind _) Q := ok
    rw [e1] at ok
    refine (pe_dclear ho hbase hline).run pins s σ H Q I ⟨α, l, h, rl, hr, ?_⟩
    rw [e1]; exact ok
  | ok w h1 =>
    have ok : OK α σ W ((mo l h).bind _) Q := ok
    rw [e1] at ok
    cases w with
    | ref i =>
      have ok : OK α σ W (match h1.get i with
        | some (.dK _) => .ok .non (h1.put i (.dK []))
        | some (.lst _) => .ok .non (h1.put i (.lst []))
        | _ => .stuck) Q := ok
      cases q : h1.get i with
      | none => rw [q] at ok; exact False.elim ok
      | some ob =>
        rw [q] at ok
        cases ob with
        | dK kvs =>
          refine (pe_dclear ho hbase hline).run pins s σ H Q I ⟨α, l, h, rl, hr, ?_⟩
          rw [e1]
          intro β v H1 x r rv
          obtain ⟨a, ha, rfl⟩ := rv
          obtain ⟨p, hp, vs, rs, rfl⟩ := r.at ha q
          exact ⟨.inr (.inr (.inl ⟨rfl, .inl ⟨vs, hp⟩⟩)), a, vs, rfl, rfl, hp, ok β .non _ x (r.put (o := .dK []) ha hp (fun _ _ z => nomatch z) ⟨[], .nil, rfl⟩ (fun _ z => nomatch z)) rfl⟩
        | lst xs =>
          refine (pe_bm0 PySem.F.plainAttrs_list PySem.F.slot_list_clear PySem.F.type_list_clear (r := rClear) (fun pins s σ H x xs v us Q => mt_clear pins s σ H x xs v us Q) ho hbase hline).run pins s σ H Q I ⟨α, l, h, rl, hr, ?_⟩
          rw [e1]
          intro β v H1 x r rv
          obtain ⟨a, ha, rfl⟩ := rv
          obtain ⟨p, hp, vs, rs, rfl⟩ := r.at ha q
          exact ⟨.inl ⟨rfl, vs, SqL.of hp⟩, a, vs, rfl, rfl, hp, ok β .non _ x (r.put (o := .lst []) ha hp (fun _ _ z => nomatch z) ⟨[], .nil, rfl⟩ (fun _ z => nomatch z)) rfl⟩
        | _ => exact False.elim ok
    | _ => exact False.elim ok
/-! ### displays of dicts -/
def vdict0 : Ex := fun _ h => .ok (.ref h.n) (h.new (.dK []))
theorem pv_dict0 : PV X W (.Dict [] [] pos) vdict0 := pe_weak pe_dnewK fun σ H Q ⟨α, l, h, rl, hr, ok⟩ => fun p hp => newV hr ok hp ⟨[], .nil, rfl⟩
def evp : List (Ex × Ex) → Lx → Hx → Rx (List (Kx × Vx))
  | [], _, h => .ok [] h
  | (k, v) :: r, l, h => (k l h).bind fun x h1 => (v l h1).bind fun y h2 => (evp r l h2).bind fun t h3 => match kxOf x with | some key => .ok ((key, y) :: t) h3 | none => .stuck
def vdict (prs : List (Ex × Ex)) : Ex := fun l h => (evp prs l (h.new (.dK []))).bind fun kvs h1 => match h1.get h.n with
  | some (.dK []) => bif Nat.ble kvs.length 15 then .ok (.ref h.n) (h1.put h.n (.dK (mergeX [] kvs))) else .stuck
  | _ => .stuck
theorem evp_read : ∀ {prs : List (Ex × Ex)} {α : Al} {l : Lx} {h : Hx} {σ : L2.St} {H : Hp} {Q : List (V × V) → Hp → Prop}, RL α l σ → HR α h H →
    OKg (A := List (Kx × Vx)) (B := List (V × V)) (fun α ks ps => ∃ kvs : List (L2.Key × V), ps = kvs.map (fun kv => (L2.kV kv.1, kv.2)) ∧ RPs α ks kvs) α σ W (evp prs l h) Q → tPairs (prs.map fun p => (tI W p.1, tI W p.2)) σ H Q
  | [], α, l, h, σ, H, Q, rl, hr, ok => ok α [] H (Ext.refl α) hr ⟨[], rfl, .nil⟩
  | (k, v) :: r, α, l, h, σ, H, Q, rl, hr, ok => by
    refine ⟨α, l, h, rl, hr, OKg.mono (OKg.fst (R := RV) ok) ?_⟩
    rintro vk H1 ⟨wk, h1, β, e1, x1, r1, rvk, ok1⟩
    refine ⟨β, l, h1, RL.ext x1 rl, r1, OKg.mono (OKg.fst (R := RV) ok1) ?_⟩
    rintro vv H2 ⟨wv, h2, γ, e2, x2, r2, rvv, ok2⟩
    refine evp_read (RL.ext (x1.trans x2) rl) r2 (OKg.mono (OKg.fst (R := fun α ks ps => ∃ kvs : List (L2.Key × V), ps = kvs.map (fun kv => (L2.kV kv.1, kv.2)) ∧ RPs α ks kvs) ok2) ?_)
    rintro ps H3 ⟨ks, h3, δ, e3, x3, r3, ⟨kvs, rfl, rs⟩, ok3⟩
    cases q : kxOf wk with
    | none => rw [q] at ok3; exact False.elim ok3
    | some key =>
      rw [q] at ok3
      have := kxOf_is rvk q
      subst this
      exact ok3 δ _ H3 (Ext.refl δ) r3 ⟨(key, vv) :: kvs, rfl, .cons ⟨rfl, rvv.ext x3⟩ rs⟩
theorem pv_dict {keys : List (Option Expr)} {values : List Expr} {prs : List (Ex × Ex)} (hp : PPs X pos keys values (prs.map fun p => (tI W p.1, tI W p.2))) (hall : keys.all (·.isSome) = true) (hl : keys.length = values.length) (h0 : keys ≠ []) (h15 : keys.length ≤ 15) : PV X W (.Dict keys values pos) (vdict prs) := by
  refine pe_weak (pe_disp hp hall hl h0 h15) fun σ H Q ⟨α, l, h, rl, hr, ok⟩ => fun p hn => ?_
  have hr1 := hr.new (o := .dK []) (u := .dK []) hn ⟨[], .nil, rfl⟩ (fun _ z => nomatch z)
  refine evp_read (RL.ext (Ext.snoc α p) rl) hr1 (OKg.mono (OKg.fst (R := fun α ks ps => ∃ kvs : List (L2.Key × V), ps = kvs.map (fun kv => (L2.kV kv.1, kv.2)) ∧ RPs α ks kvs) (OKg.ext (Ext.snoc α p) ok)) ?_)
  rintro ps H1 ⟨ks, h1, β, e1, x, r, ⟨kvs, rfl, rs⟩, ok1⟩
  have hpa : β.a[h.n]? = some p := x.get (snoc_at hr p)
  cases q : h1.get h.n with
  | none => rw [q] at ok1; exact False.elim ok1
  | some ob =>
    rw [q] at ok1
    obtain ⟨u, hu, ro⟩ := r.at hpa q
    match ob, ro, ok1 with
    | .dK [], ⟨vs, r0, e0⟩, ok1 =>
      subst e0
      cases r0
      dsimp only at ok1
      cases q2 : Nat.ble ks.length 15 with
      | false => rw [q2] at ok1; exact False.elim ok1
      | true =>
        rw [q2] at ok1
        refine ⟨hu, kvs, rfl, by rw [plen rs]; exact Nat.le_of_ble_eq_true q2, ok1 β (.ref p) _ (Ext.refl β) ?_ ⟨p, hpa, rfl⟩⟩
        exact r.put (o := .dK (mergeX [] ks)) hpa hu (fun _ _ z => nomatch z) ⟨_, mergeX_is rs .nil, rfl⟩ (fun _ z => nomatch z)
    | .dK (_ :: _), _, ok1 => exact False.elim ok1
    | .lst _, _, ok1 => exact False.elim ok1
    | .tup _, _, ok1 => exact False.elim ok1
    | .ins _ _, _, ok1 => exact False.elim ok1
    | .lk _, _, ok1 => exact False.elim ok1
end
end SV

set_option Elab.async false
set_option linter.all false
set_option maxRecDepth 100000
set_option maxHeartbeats 4800000
/-! {**a, **b}; list(d.items()); == of lists and dicts. -/
namespace SV
open PySem L2 PySem.Spec PyProof.Rows
variable [GA]
section
variable {X : Cx} {W : WX} {a b e : Expr} {ma mb me : Ex} {pos p apos cpos : Pos}
/-- the open dict behind a value, its number -/
def dkAt (w : Vx) (h : Hx) : Option (Nat × List (Kx × Vx)) := match w with
  | .ref i => (match h.get i with | some (.dK xs) => some (i, xs) | _ => none)
  | _ => none
theorem dkAt_is {α : Al} {h : Hx} {H : Hp} {w : Vx} {v : V} {i : Nat} {ks : List (Kx × Vx)} (hr : HR α h H) (rv : RV α w v) (e : dkAt w h = some (i, ks)) : ∃ a vs, w = .ref i ∧ α.a[i]? = some a ∧ v = .ref a ∧ H a = some (.dK vs) ∧ RPs α ks vs := by
  cases w with
  | ref j =>
    obtain ⟨a, ha, rfl⟩ := rv
    have e : (match h.get j with | some (.dK xs) => some (j, xs) | _ => none) = some (i, ks) := e
    cases q : h.get j with
    | none => (rw [q] at e; cases e)
    | some o =>
      rw [q] at e
      obtain ⟨p, hp, ro⟩ := hr.at ha q
      cases o with
      | dK xs =>
        cases e
        obtain ⟨vs, rs, rfl⟩ := ro
        exact ⟨a, vs, rfl, ha, rfl, hp, rs⟩
      | _ => cases e
  | _ => cases e
def vd2b (d : Nat) (y : Vx) (h : Hx) : Rx Vx := match dkAt y h, dkAt (.ref d) h with
  | some (j, ls), some (_, ms) => bif Nat.beq j d || !(Nat.ble (ms.length + ls.length) sline) then .stuck else .ok (.ref d) (h.put d (.dK (mergeX ms ls)))
  | _, _ => .stuck
def vd2a (d : Nat) (mb : Ex) (l : Lx) (x : Vx) (h : Hx) : Rx Vx := match dkAt x h, dkAt (.ref d) h with
  | some (i, ks), some (_, []) => bif Nat.beq i d then .stuck else (mb l (h.put d (.dK (mergeX [] ks)))).bind (vd2b d)
  | _, _ => .stuck
def vdict2 (ma mb : Ex) : Ex := fun l h => (ma l (h.new (.dK []))).bind (vd2a h.n mb l)
theorem at_ne {α : Al} {h : Hx} {H : Hp} (hr : HR α h H) {i j : Nat} {a b : Addr} (hi : α.a[i]? = some a) (hj : α.a[j]? = some b) (q : Nat.beq i j = false) : a ≠ b := fun z => by
  subst z
  rw [hr.inj hi hj, Nat.beq_refl] at q
  cases q
theorem pv_dict2 (ha : PV X W a ma) (hb : PV X W b mb) : PV X W (.Dict [none, none] [a, b] pos) (vdict2 ma mb) := by
  refine pe_weak (FL.pe_d2 ha hb) fun σ H Q ⟨α, l, h, rl, hr, ok⟩ => fun p hn => ?_
  have hr1 := hr.new (o := .dK []) (u := .dK []) hn ⟨[], .nil, rfl⟩ (fun _ z => nomatch z)
  refine ⟨α.snoc p, l, h.new (.dK []), RL.ext (Ext.snoc α p) rl, hr1, OKg.mono (OKg.fst (R := RV) (OKg.ext (Ext.snoc α p) ok)) ?_⟩
  rintro vx H1 ⟨w, h1, β, e1, x, r, rv, ok1⟩
  have hpa : β.a[h.n]? = some p := x.get (snoc_at hr p)
  unfold vd2a at ok1
  cases q : dkAt w h1 with
  | none => rw [q] at ok1; exact False.elim ok1
  | some ik =>
    obtain ⟨i, ks⟩ := ik
    cases q0 : dkAt (.ref h.n) h1 with
    | none => rw [q, q0] at ok1; exact False.elim ok1
    | some dk =>
      obtain ⟨d', es⟩ := dk
      rw [q, q0] at ok1
      cases es with
      | cons _ _ => exact False.elim ok1
      | nil =>
        dsimp only at ok1
        obtain ⟨a1, vs, rfl, hai, rfl, hH, rs⟩ := dkAt_is r rv q
        obtain ⟨p', vs0, e2, hp', e3, hH0, rs0⟩ := dkAt_is (w := .ref h.n) (v := .ref p) r ⟨p, hpa, rfl⟩ q0
        cases e3
        cases rs0
        cases q1 : Nat.beq i h.n with
        | true => rw [q1] at ok1; exact False.elim ok1
        | false =>
          rw [q1] at ok1
          have ok1 : OK β σ W ((mb l (h1.put h.n (.dK (mergeX [] ks)))).bind (vd2b h.n)) Q := ok1
          refine ⟨a1, vs, rfl, at_ne r hai hpa q1, hH, hH0, β, l, _, RL.ext ((Ext.snoc α p).trans x) rl, r.put (o := .dK (mergeX [] ks)) hpa hH0 (fun _ _ z => nomatch z) ⟨_, mergeX_is rs .nil, rfl⟩ (fun _ z => nomatch z), OKg.mono (OKg.fst (R := RV) ok1) ?_⟩
          rintro vy H2 ⟨w2, h2, γ, e4, x2, r2, rv2, ok2⟩
          have hpg := x2.get hpa
          unfold vd2b at ok2
          cases q2 : dkAt w2 h2 with
          | none => rw [q2] at ok2; exact False.elim ok2
          | some jl =>
            obtain ⟨j, ls⟩ := jl
            cases q3 : dkAt (.ref h.n) h2 with
            | none => rw [q2, q3] at ok2; exact False.elim ok2
            | some dm =>
              obtain ⟨d2, ms⟩ := dm
              rw [q2, q3] at ok2
              dsimp only at ok2
              obtain ⟨b1, us, rfl, hbj, rfl, hHb, rsb⟩ := dkAt_is r2 rv2 q2
              obtain ⟨p2, us0, e5, hp2, e6, hHp, rsp⟩ := dkAt_is (w := .ref h.n) (v := .ref p) r2 ⟨p, hpg, rfl⟩ q3
              cases e6
              cases q4 : (Nat.beq j h.n || !(Nat.ble (ms.length + ls.length) sline)) with
              | true => rw [q4] at ok2; exact False.elim ok2
              | false =>
                rw [q4] at ok2
                rw [Bool.or_eq_false_iff] at q4
                have hle : Nat.ble (ms.length + ls.length) sline = true := by
                  have := q4.2
                  cases z : Nat.ble (ms.length + ls.length) sline with
                  | true => rfl
                  | false => rw [z] at this; cases this
                refine ⟨b1, us, us0, rfl, at_ne r2 hbj hpg q4.1, hHb, hHp, by rw [plen rsb, plen rsp, sline_is]; exact Nat.le_of_ble_eq_true hle, ok2 γ (.ref p) _ (Ext.refl γ) ?_ ⟨p, hpg, rfl⟩⟩
                exact r2.put (o := .dK (mergeX ms ls)) hpg hHp (fun _ _ z => nomatch z) ⟨_, mergeX_is rsb rsp, rfl⟩ (fun _ z => nomatch z)
/-! ### list(d.items()) -/
def nodupK : List (Kx × Vx) → Bool
  | [] => true
  | p :: r => bif hasX r p.1 then false else nodupK r
/-- new tuples, one a pair -/
def tups : List (Kx × Vx) → Hx → List Vx × Hx
  | [], h => ([], h)
  | p :: r, h => let z := tups r (h.new (.tup [kx p.1, p.2])); (.ref h.n :: z.1, z.2)
def vitems (m : Ex) : Ex := fun l h => (m l h).bind fun w h1 => match dkAt w h1 with
  | some (_, kvs) => bif nodupK kvs then (let z := tups kvs h1; .ok (.ref z.2.n) (z.2.new (.lst z.1))) else .stuck
  | none => .stuck
/-- one more object is known in a heap that has it -/
theorem HR.add {α : Al} {h : Hx} {H : Hp} (r : HR α h H) {p : Addr} {o : Ox} {u : HO} (np : p ∉ α.a) (hu : H p = some u) (ro : RO α o u) (nl : ∀ v, o ≠ .lk v) : HR (α.snoc p) (h.new o) H := by
  refine ⟨by show (α.a ++ [p]).length = _; rw [List.length_append, r.len]; rfl, ?_, fun i a ha => ?_, fun q hq => r.frz q hq, fun i a v ha hv => ?_⟩
  · show (α.a ++ [p]).Nodup
    rw [List.nodup_append]
    refine ⟨r.nd, by simp, fun x hx y hy => ?_⟩
    rw [List.mem_singleton] at hy
    rw [hy]
    exact fun e => np (e ▸ hx)
  · have ha : (α.a ++ [p])[i]? = some a := ha
    rw [Hx.get_new]
    by_cases hi : i < α.a.length
    · rw [List.getElem?_append_left hi] at ha
      obtain ⟨o', q, h1, h2, h3⟩ := r.obj i a ha
      rw [if_neg (by rw [← r.len]; omega)]
      exact ⟨o', q, h1, h2, h3.ext (Ext.snoc α p)⟩
    · have hii : i = α.a.length := by
        have := (List.getElem?_eq_some_iff.mp ha).1
        rw [List.length_append, List.length_singleton] at this
        omega
      subst hii
      rw [List.getElem?_append_right (Nat.le_refl _), Nat.sub_self] at ha
      rw [if_pos r.len.symm]
      injection ha with ha
      subst ha
      exact ⟨o, u, rfl, hu, ro.ext (Ext.snoc α p)⟩
  · have ha : (α.a ++ [p])[i]? = some a := ha
    rw [Hx.get_new] at hv
    by_cases hi : i < α.a.length
    · rw [List.getElem?_append_left hi] at ha
      rw [if_neg (by rw [← r.len]; omega)] at hv
      exact r.lk i a v ha hv
    · have hii : i = α.a.length := by
        have := (List.getElem?_eq_some_iff.mp ha).1
        rw [List.length_append, List.length_singleton] at this
        omega
      rw [if_pos (by rw [← r.len]; exact hii.symm)] at hv
      cases hv
      exact absurd rfl (nl v)
theorem tups_ok {H : Hp} : ∀ {kvs : List (Kx × Vx)} {vs : List (L2.Key × V)} {ts : List Addr} {α : Al} {h : Hx}, HR α h H → RPs α kvs vs → Paired (fun (t : Addr) (q : L2.Key × V) => H t = some (.tup [L2.kV q.1, q.2])) ts vs → (∀ t ∈ ts, t ∉ α.a) → ts.Nodup →
    ∃ β, Ext α β ∧ β.a = α.a ++ ts ∧ HR β (tups kvs h).2 H ∧ RVs β (tups kvs h).1 (ts.map V.ref)
  | [], _, _, α, h, r, .nil, .nil, _, _ => ⟨α, Ext.refl α, (List.append_nil _).symm, r, .nil⟩
  | p :: kvs, _, _, α, h, r, .cons (b := q) (l₂ := vs) rp rs, .cons (a := t) (l₁ := ts) ht hts, ni, nd => by
    rw [List.nodup_cons] at nd
    have e : p.1 = q.1 := rp.1
    have r1 := r.add (p := t) (o := .tup [kx p.1, p.2]) (ni t List.mem_cons_self) ht ⟨_, .cons (by rw [e]; exact kx_rv q.1) (.cons rp.2 .nil), rfl⟩ (fun _ z => nomatch z)
    obtain ⟨β, x, ea, r2, rv⟩ := tups_ok r1 (RPs.ext (Ext.snoc α t) rs) hts (fun u hu hm => by
      have hm : u ∈ α.a ++ [t] := hm
      rcases List.mem_append.mp hm with k | k
      · exact ni u (List.mem_cons_of_mem _ hu) k
      · rw [List.mem_singleton] at k; exact nd.1 (k ▸ hu)) nd.2
    refine ⟨β, (Ext.snoc α t).trans x, ?_, r2, .cons ⟨t, x.get (snoc_at r t), rfl⟩ rv⟩
    rw [ea]
    show (α.a ++ [t]) ++ ts = _
    rw [List.append_assoc]; rfl
theorem nodup_ts {H : Hp} {α : Al} : ∀ {kvs : List (Kx × Vx)} {vs : List (L2.Key × V)} {ts : List Addr}, nodupK kvs = true → RPs α kvs vs → Paired (fun (t : Addr) (q : L2.Key × V) => H t = some (.tup [L2.kV q.1, q.2])) ts vs → ts.Nodup
  | [], _, _, _, .nil, .nil => .nil
  | p :: kvs, _, _, e, .cons (b := q) (l₂ := vs) rp rs, .cons (a := t) (l₁ := ts) ht hts => by
    have e : (bif hasX kvs p.1 then false else nodupK kvs) = true := e
    cases q1 : hasX kvs p.1 with
    | true => rw [q1] at e; cases e
    | false =>
      rw [q1] at e
      rw [List.nodup_cons]
      refine ⟨fun hm => ?_, nodup_ts e rs hts⟩
      have hn : valV vs p.1 = none := by
        have z := hasX_is (k := p.1) rs
        rw [q1] at z
        cases y : valV vs p.1 with
        | none => rfl
        | some _ => rw [y] at z; cases z
      have key : ∀ {ts : List Addr} {vs : List (L2.Key × V)}, Paired (fun (t : Addr) (q : L2.Key × V) => H t = some (.tup [L2.kV q.1, q.2])) ts vs → t ∈ ts → ∃ y, valV vs q.1 = some y := by
        intro ts vs hp
        induction hp with
        | nil => intro z; cases z
        | @cons t' q' ts' vs' h1 h2 ih =>
          intro z
          by_cases ek : q'.1 = q.1
          · exact ⟨_, valV_pos ek⟩
          · rw [valV_neg ek]
            rcases List.mem_cons.mp z with y | y
            · subst y
              rw [ht] at h1
              exfalso
              injection h1 with h1
              injection h1 with h1
              injection h1 with h1 _
              apply ek
              cases k1 : q.1 <;> cases k2 : q'.1 <;> rw [k1, k2] at h1 <;> first | (cases h1; rfl) | cases h1
            · exact ih y
      obtain ⟨y, hy⟩ := key hts hm
      have e1 : p.1 = q.1 := rp.1
      rw [e1, hy] at hn
      cases hn
theorem pv_items (hc : X.calm = true) (he : PV X W e me) (hg : Gl X "list") (hm : X.mg "list" = none) (hv : bootBuiltins "list" = some (.type "list")) (hbase : attributeBase e "items" X.env (eval e X.env) = eval e X.env := by rfl) (hline : (apos.endLine == cpos.line) = true := by rfl)
    (hs : starEach [.Call (.Attribute e "items" apos) [] [] cpos] X.env = (false, eval (.Call (.Attribute e "items" apos) [] [] cpos) X.env) :: starEach [] X.env := by rfl) : PV X W (.Call (.Name "list" p) [.Call (.Attribute e "items" apos) [] [] cpos] [] pos) (vitems me) := by
  refine pe_weak (LiI.pe_listItems hc he hg hm hv hbase hline hs) fun σ H Q ⟨α, l, h, rl, hr, ok⟩ => ⟨α, l, h, rl, hr, OKg.mono (OKg.fst (R := RV) ok) ?_⟩
  rintro v H1 ⟨w, h1, β, e1, x, r, rv, ok1⟩
  cases q : dkAt w h1 with
  | none => rw [q] at ok1; exact False.elim ok1
  | some ik =>
    obtain ⟨i, kvs⟩ := ik
    rw [q] at ok1
    dsimp only at ok1
    cases q2 : nodupK kvs with
    | false => rw [q2] at ok1; exact False.elim ok1
    | true =>
      rw [q2] at ok1
      have ok1 : OK β σ W (.ok (.ref (tups kvs h1).2.n) ((tups kvs h1).2.new (.lst (tups kvs h1).1))) Q := ok1
      obtain ⟨a, vs, rfl, ha, rfl, hH, rs⟩ := dkAt_is r rv q
      refine ⟨a, vs, rfl, hH, fun H' p ts hk hp hts npt hl hpr => ?_⟩
      have r1 : HR β h1 H' := r.more hk
      have nd := nodup_ts q2 rs hpr
      obtain ⟨γ, x2, ea, r2, rvs⟩ := tups_ok r1 rs hpr (fun t ht => r.free (hts t ht)) nd
      have r3 := r2.add (p := p) (o := .lst (tups kvs h1).1) (by rw [ea]; intro z; rcases List.mem_append.mp z with k | k; exact r.free hp k; exact npt k) hl ⟨_, rvs, rfl⟩ (fun _ z => nomatch z)
      exact ok1 (γ.snoc p) (.ref p) H' (x2.trans (Ext.snoc γ p)) r3 ⟨p, snoc_at r2 p, rfl⟩
end
/-! ### == of data: lists, tuples, scalars -/
def mapO (f : Vx → Option PyData) : List Vx → Option (List PyData)
  | [] => some []
  | x :: r => (match f x, mapO f r with | some d, some t => some (d :: t) | _, _ => none)
def dat : Nat → Vx → Hx → Option PyData
  | 0, _, _ => none
  | _ + 1, .non, _ => some .none
  | _ + 1, .bl b, _ => some (.bool b)
  | _ + 1, .int i, _ => some (.int i)
  | _ + 1, .str s, _ => some (.str s)
  | f + 1, .ref i, h => (match h.rd i with
    | some (.lst xs) => (match mapO (fun x => dat f x h) xs with | some ds => some (.list ds) | none => none)
    | some (.tup xs) => (match mapO (fun x => dat f x h) xs with | some ds => some (.tuple ds) | none => none)
    | _ => none)
  | _ + 1, _, _ => none
theorem mapO_is {α : Al} {K : PySem.W.Frag} {H : Hp} {f : Vx → Option PyData} (hf : ∀ x v d, RV α x v → f x = some d → Dp K H v d) : ∀ {xs : List Vx} {vs : List V} {ds : List PyData}, RVs α xs vs → mapO f xs = some ds → DpAll K H vs ds
  | [], _, _, .nil, e => by cases e; exact .nil
  | x :: xs, _, ds, .cons r t, e => by
    have e : (match f x, mapO f xs with | some d, some t => some (d :: t) | _, _ => none) = some ds := e
    cases q : f x with
    | none => (rw [q] at e; cases e)
    | some d =>
      cases q2 : mapO f xs with
      | none => rw [q, q2] at e; cases e
      | some tl =>
        rw [q, q2] at e
        cases e
        exact .cons (hf x _ d r q) (mapO_is hf t q2)
theorem dat_is {α : Al} {h : Hx} {H : Hp} (K : PySem.W.Frag) (hr : HR α h H) : ∀ (f : Nat) {w : Vx} {v : V} {d : PyData}, RV α w v → dat f w h = some d → Dp K H v d
  | 0, _, _, _, _, e => by cases e
  | f + 1, .non, _, _, r, e => by cases r; cases e; exact .non
  | f + 1, .bl b, _, _, r, e => by cases r; cases e; exact .bl b
  | f + 1, .int i, _, _, r, e => by cases r; cases e; exact .int i
  | f + 1, .str s, _, _, r, e => by cases r; cases e; exact .str s
  | f + 1, .ref i, _, d, r, e => by
    obtain ⟨a, ha, rfl⟩ := r
    have e : (match h.rd i with
    | some (.lst xs) => (match mapO (fun x => dat f x h) xs with | some ds => some (PyData.list ds) | none => none)
    | some (.tup xs) => (match mapO (fun x => dat f x h) xs with | some ds => some (PyData.tuple ds) | none => none)
    | _ => none) = some d := e
    cases q : h.rd i with
    | none => (rw [q] at e; cases e)
    | some o =>
      rw [q] at e
      obtain ⟨p, hp, ro⟩ := hr.rd ha q
      cases o with
      | lst xs =>
        obtain ⟨vs, rs, rfl⟩ := ro
        dsimp only at e
        cases q2 : mapO (fun x => dat f x h) xs with
        | none => rw [q2] at e; cases e
        | some ds =>
          rw [q2] at e
          cases e
          exact .lst (.inl hp) (mapO_is (fun x v d r1 e1 => dat_is K hr f r1 e1) rs q2)
      | tup xs =>
        obtain ⟨vs, rs, rfl⟩ := ro
        dsimp only at e
        cases q2 : mapO (fun x => dat f x h) xs with
        | none => rw [q2] at e; cases e
        | some ds =>
          rw [q2] at e
          cases e
          exact .tup (.inl hp) (mapO_is (fun x v d r1 e1 => dat_is K hr f r1 e1) rs q2)
      | _ => cases e
  | f + 1, .fn _, _, _, _, e => by cases e
  | f + 1, .ty _, _, _, _, e => by cases e
mutual
def eqd : PyData → PyData → Bool
  | .none, .none => true
  | .bool a, .bool b => a == b
  | .bool a, .int j => decide ((if a then 1 else 0) = j)
  | .int i, .bool b => decide (i = (if b then 1 else 0))
  | .int i, .int j => decide (i = j)
  | .str x, .str y => seq x y
  | .list xs, .list ys => eqds xs ys
  | .tuple xs, .tuple ys => eqds xs ys
  | _, _ => false
def eqds : List PyData → List PyData → Bool
  | [], [] => true
  | x :: xs, y :: ys => bif eqd x y then eqds xs ys else false
  | _, _ => false
end
theorem beqI (i j : Int) : (i == j) = decide (i = j) := by rw [Bool.eq_iff_iff]; simp
theorem beqS (i j : Str) : (i == j) = decide (i = j) := by rw [Bool.eq_iff_iff]; simp
mutual
theorem eqd_is : ∀ a b : PyData, PyData.eqv a b = eqd a b
  | .none, b => by cases b <;> simp only [PyData.eqv, eqd]
  | .bool x, b => by cases b <;> simp only [PyData.eqv, eqd, beqI]
  | .int x, b => by cases b <;> simp only [PyData.eqv, eqd, beqI]
  | .str x, b => by cases b <;> simp only [PyData.eqv, eqd, beqS, seq_is]
  | .list xs, b => by
    cases b with
    | list ys => simp only [PyData.eqv, eqd]; exact eqds_is xs ys
    | _ => simp only [PyData.eqv, eqd]
  | .tuple xs, b => by
    cases b with
    | tuple ys => simp only [PyData.eqv, eqd]; exact eqds_is xs ys
    | _ => simp only [PyData.eqv, eqd]
  | .dict xs, b => by cases b <;> simp only [PyData.eqv, eqd]
theorem eqds_is : ∀ a b : List PyData, PyData.eqvAll a b = eqds a b
  | [], [] => by simp only [PyData.eqvAll, eqds]
  | [], _ :: _ => by simp only [PyData.eqvAll, eqds]
  | _ :: _, [] => by simp only [PyData.eqvAll, eqds]
  | x :: xs, y :: ys => by
    simp only [PyData.eqvAll, eqds]
    rw [eqd_is x y, eqds_is xs ys]
    cases eqd x y <;> rfl
end
def eqDat (w w' : Vx) (h : Hx) : Option Bool := match dat 8 w h, dat 8 w' h with
  | some d, some e => bif SeqAt.shaped d && SeqAt.shaped e then some (eqd d e) else none
  | _, _ => none
def kEqD : Vx → Vx → Hx → Option (Rx Vx) := fun w w' h => match eqDat w w' h with | some b => some (.ok (.bl b) h) | none => none
def kNeD : Vx → Vx → Hx → Option (Rx Vx) := fun w w' h => match eqDat w w' h with | some b => some (.ok (.bl (!b)) h) | none => none
section
variable {X : Cx} {W : WX}
theorem eqDat_is {α : Al} {h : Hx} {H : Hp} {w w' : Vx} {v v' : V} {b : Bool} (hr : HR α h H) (rv : RV α w v) (rv' : RV α w' v') (e : eqDat w w' h = some b) : ∃ d e', Dp X.K H v d ∧ Dp X.K H v' e' ∧ SeqAt.shaped d = true ∧ SeqAt.shaped e' = true ∧ PyData.eqv d e' = b := by
  unfold eqDat at e
  cases q : dat 8 w h with
  | none => (rw [q] at e; cases e)
  | some d =>
    cases q2 : dat 8 w' h with
    | none => rw [q, q2] at e; cases e
    | some d' =>
      rw [q, q2] at e
      dsimp only at e
      cases q3 : (SeqAt.shaped d && SeqAt.shaped d') with
      | false => rw [q3] at e; cases e
      | true =>
        rw [q3] at e
        cases e
        rw [Bool.and_eq_true] at q3
        exact ⟨d, d', dat_is _ hr 8 rv q, dat_is _ hr 8 rv' q2, q3.1, q3.2, eqd_is d d'⟩
theorem k_eqD (hu : X.A.units + 64 < cLine) : Op2 X W (compareOp .Eq) kEqD := by
  intro pins s σ H Q α h w w' v v' u u' r I hr rv rv' ru ru' e ok
  unfold kEqD at e
  cases q : eqDat w w' h with
  | none => (rw [q] at e; cases e)
  | some b =>
    rw [q] at e
    cases e
    obtain ⟨d, e', h1, h2, h3, h4, h5⟩ := eqDat_is (X := X) hr rv rv' q
    exact op_eqD hu pins s σ H v v' u u' Q I ru ru' ⟨d, e', h1, h2, h3, h4, by rw [h5]; exact ok α (.bl b) H (Ext.refl α) hr rfl⟩
theorem k_neD (hu : X.A.units + 64 < cLine) : Op2 X W (compareOp .NotEq) kNeD := by
  intro pins s σ H Q α h w w' v v' u u' r I hr rv rv' ru ru' e ok
  unfold kNeD at e
  cases q : eqDat w w' h with
  | none => (rw [q] at e; cases e)
  | some b =>
    rw [q] at e
    cases e
    obtain ⟨d, e', h1, h2, h3, h4, h5⟩ := eqDat_is (X := X) hr rv rv' q
    exact op_neD hu pins s σ H v v' u u' Q I ru ru' ⟨d, e', h1, h2, h3, h4, by rw [h5]; exact ok α (.bl (!b)) H (Ext.refl α) hr rfl⟩
/-! ### == of dicts with int values -/
def allI : List (Kx × Vx) → Bool
  | [] => true
  | (_, .int _) :: r => allI r
  | _ :: _ => false
def dEqX (ls : List (Kx × Vx)) : List (Kx × Vx) → Bool
  | [] => true
  | (k, .int i) :: r => (match getX ls k with | some (.int j) => bif decide (j = i) then dEqX ls r else false | _ => false)
  | _ :: _ => false
def eqDI (w w' : Vx) (h : Hx) : Option Bool := match dkAt w h, dkAt w' h with
  | some (_, ks), some (_, ls) => bif allI ks && allI ls then some (bif Nat.beq ks.length ls.length then dEqX ls ks else false) else none
  | _, _ => none
theorem allI_is {α : Al} : ∀ {ks : List (Kx × Vx)} {vs : List (L2.Key × V)}, RPs α ks vs → allI ks = true → ∀ p ∈ vs, FL.isI p.2 = true
  | [], _, .nil, _ => fun _ z => nomatch z
  | (k, w) :: r, _, .cons (b := q) rp t, e => by
    cases w with
    | int i =>
      intro p hp
      rcases List.mem_cons.mp hp with z | z
      · subst z
        have : RV α (.int i) p.2 := rp.2
        rw [show p.2 = V.int i from this]; rfl
      · exact allI_is t e p z
    | _ => cases e
theorem dEqX_is {α : Al} {ls : List (Kx × Vx)} {us : List (L2.Key × V)} (rl : RPs α ls us) (hl : allI ls = true) : ∀ {ks : List (Kx × Vx)} {vs : List (L2.Key × V)}, RPs α ks vs → allI ks = true → dEqX ls ks = vs.all fun p => decide (valV us p.1 = some p.2)
  | [], _, .nil, _ => rfl
  | (k, w) :: r, _, .cons (b := q) (l₂ := t') rp t, e => by
    cases w with
    | int i =>
      obtain ⟨qk, qv⟩ := q
      have e1 : k = qk := rp.1
      have e2 : qv = V.int i := rp.2
      subst e1 e2
      have ih := dEqX_is rl hl t e
      show (match getX ls k with | some (.int j) => bif decide (j = i) then dEqX ls r else false | _ => false) = (decide (valV us k = some (V.int i)) && t'.all _)
      rw [← ih]
      have z := getX_is k rl
      cases q1 : getX ls k with
      | none =>
        rw [q1] at z
        rw [z]; rfl
      | some wv =>
        rw [q1] at z
        obtain ⟨y, hy, ry⟩ := z
        rw [hy]
        cases wv with
        | int j =>
          cases ry
          show (bif decide (j = i) then dEqX ls r else false) = _
          by_cases z : j = i
          · subst z; simp
          · rw [decide_eq_false z]
            have : decide (some (V.int j) = some (V.int i)) = false := decide_eq_false fun y => z (by cases y; rfl)
            rw [this]; rfl
        | _ =>
          exfalso
          have key : ∀ {ls : List (Kx × Vx)}, allI ls = true → ∀ w, getX ls k = some w → ∃ i, w = .int i := by
            intro ls
            induction ls with
            | nil => intro _ w e; cases e
            | cons p r ih =>
              intro hi w e
              obtain ⟨pk, pv⟩ := p
              cases pv with
              | int n =>
                have e : (bif keq pk k then some (Vx.int n) else getX r k) = some w := e
                cases q : keq pk k with
                | true => rw [q] at e; cases e; exact ⟨n, rfl⟩
                | false => rw [q] at e; exact ih hi w e
              | _ => cases hi
          obtain ⟨n, hn⟩ := key hl _ q1
          cases hn
    | _ => cases e
theorem eqDI_is {α : Al} {h : Hx} {H : Hp} {w w' : Vx} {v v' : V} {b : Bool} (hr : HR α h H) (rv : RV α w v) (rv' : RV α w' v') (e : eqDI w w' h = some b) :
    ∃ a a' ks ls, v = .ref a ∧ v' = .ref a' ∧ H a = some (.dK ks) ∧ H a' = some (.dK ls) ∧ (∀ p ∈ ks, FL.isI p.2 = true) ∧ (∀ p ∈ ls, FL.isI p.2 = true) ∧ FL.dEq ks ls = b := by
  unfold eqDI at e
  cases q : dkAt w h with
  | none => (rw [q] at e; cases e)
  | some ik =>
    obtain ⟨i, ks⟩ := ik
    cases q2 : dkAt w' h with
    | none => rw [q, q2] at e; cases e
    | some jl =>
      obtain ⟨j, ls⟩ := jl
      rw [q, q2] at e
      dsimp only at e
      cases q3 : (allI ks && allI ls) with
      | false => rw [q3] at e; cases e
      | true =>
        rw [q3] at e
        rw [Bool.and_eq_true] at q3
        cases e
        obtain ⟨a, vs, _, _, rfl, hH, rs⟩ := dkAt_is hr rv q
        obtain ⟨a', us, _, _, rfl, hH', rs'⟩ := dkAt_is hr rv' q2
        refine ⟨a, a', vs, us, rfl, rfl, hH, hH', allI_is rs q3.1, allI_is rs' q3.2, ?_⟩
        unfold FL.dEq
        rw [← dEqX_is rs' q3.2 rs q3.1, plen rs, plen rs']
        by_cases z : ks.length = ls.length
        · rw [z, Nat.beq_refl]; simp
        · rw [nbeq z]; simp [z]
def kEqI : Vx → Vx → Hx → Option (Rx Vx) := fun w w' h => match eqDI w w' h with | some b => some (.ok (.bl b) h) | none => none
def kNeI : Vx → Vx → Hx → Option (Rx Vx) := fun w w' h => match eqDI w w' h with | some b => some (.ok (.bl (!b)) h) | none => none
theorem k_eqI (hu : X.A.units < cLine) : Op2 X W (compareOp .Eq) kEqI := by
  intro pins s σ H Q α h w w' v v' u u' r I hr rv rv' ru ru' e ok
  unfold kEqI at e
  cases q : eqDI w w' h with
  | none => (rw [q] at e; cases e)
  | some b =>
    rw [q] at e
    cases e
    obtain ⟨a, a', ks, ls, rfl, rfl, h1, h2, h3, h4, h5⟩ := eqDI_is hr rv rv' q
    refine FL.op_eqDI hu pins s σ H _ _ u u' Q I ru ru' ⟨a, a', ks, ls, rfl, rfl, h1, h2, h3, h4, ?_⟩
    rw [if_neg Bool.false_ne_true, h5]
    exact ok α (.bl b) H (Ext.refl α) hr rfl
theorem k_neI (hu : X.A.units < cLine) : Op2 X W (compareOp .NotEq) kNeI := by
  intro pins s σ H Q α h w w' v v' u u' r I hr rv rv' ru ru' e ok
  unfold kNeI at e
  cases q : eqDI w w' h with
  | none => (rw [q] at e; cases e)
  | some b =>
    rw [q] at e
    cases e
    obtain ⟨a, a', ks, ls, rfl, rfl, h1, h2, h3, h4, h5⟩ := eqDI_is hr rv rv' q
    refine FL.op_neDI hu pins s σ H _ _ u u' Q I ru ru' ⟨a, a', ks, ls, rfl, rfl, h1, h2, h3, h4, ?_⟩
    rw [if_pos rfl, h5]
    exact ok α (.bl (!b)) H (Ext.refl α) hr rfl
end
end SV

set_option Elab.async false
set_option linter.all false
set_option maxRecDepth 100000
set_option maxHeartbeats 4800000
/-! the end: the head's facts, the law's call. -/
namespace SV
open PySem L2 PySem.Spec PyProof.Rows
/-! ### a hook with any test, defs at any place -/
structure Dx where
  ad : PySem.W.Frag → Addr
  name : Str
  qual : Str
  params : Arguments
  body : List Stmt
  scope : Scope
def fnAt (K : PySem.W.Frag) (a : Addr) : He.FnW := match K.lookup a with
  | some ⟨_, _, .func fd, _⟩ => some (fd.name, fd.qualname, fd.params, fd.body, fd.scope, fd.globals, fd.closure, fd.builtins)
  | _ => none
def Dx.val (d : Dx) : He.FnW := some (d.name, d.qual, d.params, .stmts d.body, d.scope, mainGlobals, [], builtinsNs)
def Dx.ok (K : PySem.W.Frag) (d : Dx) : Bool := PySem.W.keepIn K (.ref (d.ad K)) && (match K.lookup (d.ad K) with
  | some ⟨_, _, .func fd, _⟩ => PySem.W.codeIn K fd.code d.qual && He.dflB K fd.defaults []
  | _ => false)
theorem Dx.funD {K : PySem.W.Frag} {d : Dx} (e : fnAt K (d.ad K) = d.val) (c : d.ok K = true) : ∃ fd, FunD K d.name d.qual d.params d.body d.scope [] [] (d.ad K) fd := by
  obtain ⟨kp, c2⟩ := He.ba c
  unfold fnAt at e
  cases q : K.lookup (d.ad K) with
  | none => rw [q] at c2; cases c2
  | some o =>
    obtain ⟨oc, od, dt, osl⟩ := o
    rw [q] at c2 e
    cases dt with
    | func fd =>
      obtain ⟨m1, m2, m3, m4, m5, m6, m7, m8, m9, m10, m11, m12, m13, m14, m15⟩ := fd
      have e2 : (some (m1, m2, m3, m4, m5, m6, m7, m15) : He.FnW) = some (d.name, d.qual, d.params, .stmts d.body, d.scope, mainGlobals, [], builtinsNs) := e
      simp only [Option.some.injEq, Prod.mk.injEq] at e2
      obtain ⟨h1, h2, h3, h4, h5, h6, h7, h8⟩ := e2
      subst h1 h2 h3 h4 h5 h6 h7 h8
      obtain ⟨k1, k2⟩ := He.ba (show (PySem.W.codeIn K m13 d.qual && He.dflB K m8 []) = true from c2)
      exact ⟨_, ⟨oc, od, m8, m9, m10, m11, m12, m13, m14, osl, rfl, q, k1, He.dflB_ok k2, .inl rfl⟩, kp⟩
    | _ => cases c2
abbrev AlM : Type := Bool × List He.FnW
def obsM (bl : PySem.W.Frag → Bool) (fn : List Dx) (K : PySem.W.Frag) : AlM := (bl K && fn.all fun d => d.ok K, fn.map fun d => fnAt K (d.ad K))
def valM (fn : List Dx) : AlM := (true, fn.map Dx.val)
def SaysM (bl : PySem.W.Frag → Bool) (fn : List Dx) (K : PySem.W.Frag) : Prop := obsM bl fn K = valM fn
def obsMG (n : Nat) (bl : PySem.W.Frag → Bool) (fn : List Dx) (g : Addr → Option Obj) : AlM := obsM bl fn (He.frG g (He.asD g n))
def hookM (n : Nat) (bl : PySem.W.Frag → Bool) (fn : List Dx) : PySem.W.Hook where
  α := AlM
  obs := fun s => obsMG n bl fn s.heap.get?
  val := fun _ => valM fn
  says := fun _ h => ∃ K : PySem.W.Frag, K.In h ∧ SaysM bl fn K
  of := fun _ _ e => ⟨_, He.frG_in, e⟩
  keeps := fun _ _ _ ⟨K, hK, c⟩ k => ⟨K, PySem.W.Frag.In.keeps hK k, c⟩
theorem obsMG_eq {n : Nat} {bl : PySem.W.Frag → Bool} {fn : List Dx} {g : Addr → Option Obj} {s : Shared} (h : ∀ a, g a = s.heap.get? a) : obsMG n bl fn g = (hookM n bl fn).obs s := by
  have e : g = s.heap.get? := funext h
  rw [e]; rfl
section
variable {bl : PySem.W.Frag → Bool} {fn : List Dx} {K : PySem.W.Frag}
theorem SaysM.test (c : SaysM bl fn K) : bl K = true := (He.ba (show (bl K && fn.all fun d => d.ok K) = true from congrArg (fun z : AlM => z.1) c)).1
theorem SaysM.def_ (c : SaysM bl fn K) (i : Nat) {d : Dx} (h : fn[i]? = some d := by rfl) : ∃ fd, FunD K d.name d.qual d.params d.body d.scope [] [] (d.ad K) fd := by
  have c2 := (He.ba (show (bl K && fn.all fun d => d.ok K) = true from congrArg (fun z : AlM => z.1) c)).2
  have e : fn.map (fun d => fnAt K (d.ad K)) = fn.map Dx.val := congrArg (fun z : AlM => z.2) c
  have e2 : (fn.map fun d => fnAt K (d.ad K))[i]? = (fn.map Dx.val)[i]? := by rw [e]
  rw [List.getElem?_map, List.getElem?_map, h] at e2
  exact Dx.funD (Option.some.inj e2) (List.all_eq_true.mp c2 d (List.mem_of_getElem? h))
end
/-- several tests -/
def tests (l : List (PySem.W.Frag → Bool)) (K : PySem.W.Frag) : Bool := l.all fun t => t K
theorem tests_at {l : List (PySem.W.Frag → Bool)} {K : PySem.W.Frag} (h : tests l K = true) (i : Nat) {t : PySem.W.Frag → Bool} (e : l[i]? = some t := by rfl) : t K = true := List.all_eq_true.mp h t (List.mem_of_getElem? e)
/-! ### tests of a class, a name -/
open He in
def q_prop (x f : Str) (K : PySem.W.Frag) : Bool := He.eqO (PySem.W.findIn K (.ref (He.ga K x)) f) (some (some (.ref (He.ma K (He.ga K x) f)))) &&
  (He.eqO (PySem.W.specialIn K (.ref (He.ma K (He.ga K x) f)) "__get__") (some (some (.builtin "property.__get__"))) &&
    (decide (PySem.W.takesIn K (.ref (He.ma K (He.ga K x) f)) = some true) && (match PySem.W.recIn K (He.ma K (He.ga K x) f) "property" with | some (.ref _ :: _) => true | _ => false)))
/-- the getter of a property -/
def getr (K : PySem.W.Frag) (C : Addr) (f : Str) : Addr := match PySem.W.recIn K (He.ma K C f) "property" with
  | some (.ref g :: _) => g
  | _ => 0
theorem q_prop_ok {x f : Str} {K : PySem.W.Frag} (h : q_prop x f K = true) : PropOf K (He.ga K x) f (He.ma K (He.ga K x) f) (getr K (He.ga K x) f) := by
  obtain ⟨h1, h⟩ := He.ba h
  obtain ⟨h2, h⟩ := He.ba h
  obtain ⟨h3, h4⟩ := He.ba h
  refine ⟨He.eqO_ok h1, He.eqO_ok h2, of_decide_eq_true h3, ?_⟩
  unfold getr
  split at h4
  · rename_i g r e
    exact ⟨r, by rw [e]⟩
  · cases h4
def q_own (x m : Str) (K : PySem.W.Frag) : Bool := He.eqO (PySem.W.findIn K (.ref (He.ga K x)) m) (some (some (.ref (He.ma K (He.ga K x) m)))) && PySem.W.isFn K (.ref (He.ma K (He.ga K x) m))
theorem q_own_ok {x m : Str} {K : PySem.W.Frag} (h : q_own x m K = true) : FL.Own K (He.ga K x) m (He.ma K (He.ga K x) m) := by
  obtain ⟨h1, h2⟩ := He.ba h
  exact ⟨He.eqO_ok h1, h2⟩
def q_inst (x : Str) (K : PySem.W.Frag) : Bool := (He.Fa.cls x).ok K && (He.eqO (PySem.W.findIn K (.ref (He.ga K x)) "__class__") (some (some (.builtin "object.__class__"))) && (He.eqO (PySem.W.specialIn K (.builtin "object.__class__") "__get__") (some (some (.builtin "getset_descriptor.__get__"))) &&
  (decide (PySem.W.takesIn K (.builtin "object.__class__") = some true) && decide (PySem.W.mroIn K (He.ga K x) (.type "object") = some true))))
theorem q_inst_ok {x : Str} {K : PySem.W.Frag} (h : q_inst x K = true) : InsT K (He.ga K x) := by
  obtain ⟨h1, h⟩ := He.ba h
  obtain ⟨h2, h⟩ := He.ba h
  obtain ⟨h3, h⟩ := He.ba h
  obtain ⟨h4, h5⟩ := He.ba h
  exact ⟨He.cls_ok h1, He.eqO_ok h2, He.eqO_ok h3, of_decide_eq_true h4, of_decide_eq_true h5⟩
def tnAll : List Tn := [.int, .bool, .str, .list, .tuple, .dict, .none, .set]
/-- no instance of a built-in type is of the class; no instance of it is of one of them -/
def q_kit (x : Str) (K : PySem.W.Frag) : Bool := tnAll.all fun n => decide (PySem.W.kitOne K (.type n.nm) (.ref (He.ga K x)) = some false) && decide (PySem.W.kitOne K (.ref (He.ga K x)) (.type n.nm) = some false)
def isEx : Tn → Bool
  | .valueError => true
  | .typeError => true
  | _ => false
theorem q_kit_ok {x : Str} {K : PySem.W.Frag} (h : q_kit x K = true) {n : Tn} (hn : isEx n = false) : PySem.W.kitOne K (.type n.nm) (.ref (He.ga K x)) = some false ∧ PySem.W.kitOne K (.ref (He.ga K x)) (.type n.nm) = some false := by
  have z := List.all_eq_true.mp h n (by cases n <;> first | (simp [tnAll]; done) | cases hn)
  obtain ⟨h1, h2⟩ := He.ba z
  exact ⟨of_decide_eq_true h1, of_decide_eq_true h2⟩
theorem q_kit_all {x : Str} {K : PySem.W.Frag} (h : q_kit x K = true) : ∀ n : Tn, isEx n = false → PySem.W.kitOne K (.type n.nm) (.ref (He.ga K x)) = some false ∧ PySem.W.kitOne K (.ref (He.ga K x)) (.type n.nm) = some false := fun n hn => q_kit_ok h hn
def q_sub (x y : Str) (b : Bool) (K : PySem.W.Frag) : Bool := decide (PySem.W.kitOne K (.ref (He.ga K x)) (.ref (He.ga K y)) = some b)
theorem q_sub_ok {x y : Str} {b : Bool} {K : PySem.W.Frag} (h : q_sub x y b K = true) : PySem.W.kitOne K (.ref (He.ga K x)) (.ref (He.ga K y)) = some b := of_decide_eq_true h
def q_nolist (K : PySem.W.Frag) : Bool := K.all fun p => match p.2.cls with | .type n => !decide (n = "list") | _ => true
theorem lookup_mem' {a : Addr} {o : Obj} : ∀ {l : List (Addr × Obj)}, l.lookup a = some o → (a, o) ∈ l
  | [], h => by cases h
  | (b, u) :: r, h => by
    rw [List.lookup_cons] at h
    cases q : (a == b) with
    | true =>
      rw [q] at h
      have e : u = o := Option.some.inj h
      rw [beq_iff_eq.mp q, e]
      exact List.mem_cons_self
    | false =>
      rw [q] at h
      exact List.mem_cons_of_mem _ (lookup_mem' h)
theorem nolist_ok {K : PySem.W.Frag} (h : q_nolist K = true) {a : Addr} {o : Obj} (e : K.lookup a = some o) (c : o.cls = .type "list") : False := by
  have z := List.all_eq_true.mp h (a, o) (lookup_mem' e)
  have z : (match o.cls with | .type n => !decide (n = "list") | _ => true) = true := z
  rw [c] at z
  cases z
/-! ### the walk from the head -/
/-- the law's def as the walk meets it: it is known at the address, binds its one argument, answers True at every script, and runs from every heap that holds the known part -/
def WalkFrom (pr : Program) (w : World) (CX : CXT) (m : Str → Option Value) (n k : Nat) (x : Str) (at_ : Addr) (h : Heap) : Prop :=
  ∃ (K : PySem.W.Frag) (fd : FuncData) (sp : Sp), K.In h ∧ (∀ s u, BindsTo s fd ⟨[u], []⟩ [(x, u)]) ∧
    (∀ H a (zs : List Int), zs.length ≤ n → (∀ z ∈ zs, Builtin.Int.intBits z ≤ 1048576) → Only H → SqL K H a (zs.map V.int) → sp [.ref a] H (fun v _ => v = .bl true) fun _ _ _ => False) ∧
    ∀ b, K.In b → b.Ns mainGlobals m → FnOk pr w K m b CX k at_ fd [x] sp
theorem walk_X {l : PySem.W.OpenLaw} {n k : Nat} {q : Program} {loose : List Str} {XP : (Str → Option Value) → Heap → Prop} {YP : World → Heap → Prop} {d : DefRec} {CX : World → CXT} {x : Str} (most : l.most = some n) (small : n ≤ sizeLine)
    (plain : d.params.defaults = []) (room : Room k callerA) (from_ : ∀ w m at_ h, YP w h → h.Ns mainGlobals m → m d.name = some (.ref at_) → WalkFrom l.prog w (CX w) m n k x at_ h)
    (calm : ∀ w H s e s1, CX w [] H s (fun _ _ _ => False) e s1 → False) : PySem.W.WalkO q loose XP YP l.row.toRowW d [] fun f vs => PySem.call f vs :=
  Att.attach_callB most plain fun w _ s m _ at_ _ _ _ _ _ _ zs G y _ _ _ is_ isl whole len bits g =>
    let ⟨_, _, _, known, binds, true_, runs⟩ := from_ w m at_ _ y G.T.g is_
    law_call known G.T.g G.T.b G.T.builtins G.T.nolimit g isl whole (Nat.le_trans len small) room runs binds (fun H o sq => true_ H _ zs len bits o sq) fun H e s1 => calm w H s e s1
theorem noCX {P : Program} {w : World} (H : Hp) (s : Shared) (e : Value) (s1 : Shared) : L2.CX P w [] H s (fun _ _ _ => False) e s1 → False
  | ⟨_, _, _, _, _, _, _, _, _, _, _, _, no⟩ => no
/-! ### constants of the module -/
variable [GA]
section
variable {X : Cx} {W : WX} {pos : Pos}
theorem pv_gstr {x : Str} {z z' : Str} (hg : Gl X x) (hm : ∃ t, X.mg x = some (.str z t)) (e : z = z') (hd : (x == ("__debug__" : Str)) = false := by decide) : PV X W (.Name x pos) (cst (.str z')) := by
  obtain ⟨t, hm⟩ := hm
  subst e
  exact pv_glob (v := .str z) hg hm ⟨t, rfl⟩ (fun _ => rfl) hd
theorem pv_gint {x : Str} {i : Int} (hg : Gl X x) (hm : ∃ t, X.mg x = some (.int i t)) (hd : (x == ("__debug__" : Str)) = false := by decide) : PV X W (.Name x pos) (cst (.int i)) := by
  obtain ⟨t, hm⟩ := hm
  exact pv_glob (v := .int i) hg hm ⟨t, rfl⟩ (fun _ => rfl) hd
theorem pv_gref {x : Str} {i : Nat} (hg : Gl X x) (hm : X.mg x = some (.ref (GA.g i))) (hd : (x == ("__debug__" : Str)) = false := by decide) : PV X W (.Name x pos) (cst (.fn i)) := pv_glob (v := .ref (GA.g i)) hg hm rfl (fun _ => rfl) hd
theorem pv_strE {x y : Str} {j pos} (e : x = y) : PV X W (.Constant (.str x) j pos) (cst (.str y)) := by subst e; exact pv_str
/-- code that is never reached -/
def mnever : Ms := fun _ _ => .stuck
theorem sv_never {st : Stmt} : PVS X W st mnever := ⟨fun _ _ _ _ _ _ ⟨_, _, _, _, _, ok⟩ => False.elim ok⟩
def enever : Ex := fun _ _ => .stuck
theorem pv_never {e : Expr} : PV X W e enever := ⟨fun _ _ _ _ _ _ ⟨_, _, _, _, _, ok⟩ => False.elim ok⟩
end
/-! ### a def from its body -/
section
variable {K : PySem.W.Frag} {P : Program} {w : World} {base : Heap} {mg : Str → Option Value}
theorem fn_D {x qual : Str} {params : Arguments} {bd : List Stmt} {scope : Scope} {dvs : List V} {kws : List (Str × V)} {f : Addr} {fd : FuncData} {N ps : List Str} {k np nN : Nat} {m : Ms} (F : FunD K x qual params bd scope dvs kws f fd) (S : FnScope N ps scope) (hp : ps.length = np) (hn : N.length = nN)
    (body : ∀ (cdv : Value) (A : Around) (outer : List Env) (s : Shared) (H : Hp) (E : XK), Room k (A.deeper (envOfC qual scope s.heap.objs.size f cdv)) → PVSs (cxOf (L2.CX P w) P w K mg base N qual scope f cdv A outer s H E) (fun c d _ H' => E c d H') bd m) :
    FnOk P w K mg base (L2.CX P w) (k + 1) f fd ps (spV (fnx np nN m)) := by
  subst hp hn
  refine F.ok S (fun vs H Q E ⟨α, ws, h, rv, hr, ok⟩ => ?_) (fun cdv A outer s H vs Q E hrm ⟨α, ws, h, rv, hr, ok⟩ => ⟨_, body cdv A outer s H E hrm, ?_⟩)
  · unfold fnx at ok
    cases q : Nat.beq ws.length ps.length with
    | false => rw [q] at ok; exact False.elim ok
    | true => rw [plen rv]; exact Nat.eq_of_beq_eq_true q
  · unfold fnx at ok
    cases q : Nat.beq ws.length ps.length with
    | false => rw [q] at ok; exact False.elim ok
    | true =>
      rw [q] at ok
      refine ⟨α, startL N.length ws, h, start_ok rv, hr, ?_⟩
      have ok : OK α [] (fun c d _ H' => E c d H') (match m (startL N.length ws) h with
        | .nx _ h1 => .ok .non h1
        | .ret w h1 => .ok w h1
        | .exc c d _ h1 => .exc c d h1
        | _ => .stuck) Q := ok
      cases e1 : m (startL N.length ws) h with
      | nx l1 h1 => rw [e1] at ok; exact fun β σ H1 x rl hr1 => ok β .non H1 x hr1 rfl
      | ret v1 h1 => rw [e1] at ok; exact fun β v H1 x hr1 rv1 => ok β v H1 x hr1 rv1
      | exc c d l1 h1 => rw [e1] at ok; exact fun β σ cv da H1 x rl hr1 rx => ok β cv da H1 x hr1 rx
      | brk l1 h1 => rw [e1] at ok; exact False.elim ok
      | cont l1 h1 => rw [e1] at ok; exact False.elim ok
      | stuck => rw [e1] at ok; exact False.elim ok
theorem fn_R {k : Nat} {f : Addr} {fd : FuncData} {ps : List Str} {g : Fx} (F : FnOk P w K mg base (L2.CX P w) k f fd ps (spV g)) (hb : Binds K fd ps []) : FnV P w K mg base k f g := by
  have R := F.raw hb .nil
  exact R.imp fun vs H Q E q => by rw [List.append_nil]; exact q
end
/-! ### the law's call -/
/-- the heap at the law's call -/
def h0 (ns : List Int) : Hx := ⟨1, .n .e (some (.lk (.lst (ns.map .int)))) .e⟩
theorem ints_rv (α : Al) : ∀ ns : List Int, RVs α (ns.map Vx.int) (ns.map V.int)
  | [] => .nil
  | _ :: r => .cons rfl (ints_rv α r)
theorem law_end {K : PySem.W.Frag} (nl : q_nolist K = true) {g : Fx} {H : Hp} {a : Addr} {ns : List Int} (hO : Only H) (hS : SqL K H a (ns.map V.int)) (hg : ∃ h', g [.ref 0] (h0 ns) = .ok (.bl true) h') : spV g [.ref a] H (fun v _ => v = .bl true) fun _ _ _ => False := by
  obtain ⟨h', hg⟩ := hg
  have e : ∃ ob, H a = some (.frz ob (.lst (ns.map V.int))) := by
    rcases hS with (h | ⟨ob, h⟩) | ⟨o, its, n, hk, hc, _⟩
    · rcases hO a with z | ⟨o, xs, z⟩
      · rw [h] at z; cases z
      · rw [h] at z; cases z
    · exact ⟨ob, h⟩
    · exact (nolist_ok nl hk hc).elim
  obtain ⟨ob, e⟩ := e
  refine ⟨⟨[a], [(a, ob, .lst (ns.map V.int))]⟩, [.ref 0], h0 ns, .cons ⟨a, rfl, rfl⟩ .nil, ?_, ?_⟩
  · refine ⟨rfl, by simp, fun i b hb => ?_, fun p hp => ?_, fun i b u hb hu => ?_⟩
    · cases i with
      | zero => cases hb; exact ⟨_, _, rfl, e, ob, _, rfl, _, ints_rv _ ns, rfl⟩
      | succ i => simp at hb
    · rw [List.mem_singleton] at hp
      rw [hp]; exact e
    · cases i with
      | zero => cases hb; exact ⟨ob, _, e, List.mem_singleton.mpr rfl⟩
      | succ i => simp at hb
  · rw [hg]
    intro β v H' x hr rv
    exact rv
end SV

set_option Elab.async false
set_option linter.all false
set_option maxRecDepth 100000
set_option maxHeartbeats 4800000
/-! what printed functions do, said by postconditions: no model in sight. -/
namespace SV
open PySem L2 PySem.Spec PyProof.Rows
def Ok {A : Type} (r : Rx A) (P : A → Hx → Prop) : Prop := match r with
  | .ok a h => P a h
  | _ => False
def OkS (r : Sx) (N : Lx → Hx → Prop) (R : Vx → Hx → Prop) : Prop := match r with
  | .nx l h => N l h
  | .ret w h => R w h
  | _ => False
theorem Ok.get {A : Type} {r : Rx A} {P : A → Hx → Prop} (h : Ok r P) : ∃ a h', r = .ok a h' ∧ P a h' := by
  cases r with
  | ok a h' => exact ⟨a, h', rfl, h⟩
  | exc => exact h.elim
  | stuck => exact h.elim
theorem Ok.mono {A : Type} {r : Rx A} {P Q : A → Hx → Prop} (h : Ok r P) (k : ∀ a h', P a h' → Q a h') : Ok r Q := by
  cases r with
  | ok a h' => exact k _ _ h
  | exc => exact h.elim
  | stuck => exact h.elim
theorem OkS.mono {r : Sx} {N N' : Lx → Hx → Prop} {R R' : Vx → Hx → Prop} (h : OkS r N R) (k : ∀ a h', N a h' → N' a h') (k2 : ∀ a h', R a h' → R' a h') : OkS r N' R' := by
  cases r with
  | nx a h' => exact k _ _ h
  | ret a h' => exact k2 _ _ h
  | _ => exact h.elim
@[simp] theorem Ok_ok {A : Type} {a : A} {h : Hx} {P : A → Hx → Prop} : Ok (.ok a h) P ↔ P a h := .rfl
@[simp] theorem Ok_bind {A B : Type} {r : Rx A} {f : A → Hx → Rx B} {P : B → Hx → Prop} : Ok (r.bind f) P ↔ Ok r fun a h => Ok (f a h) P := by cases r <;> rfl
@[simp] theorem Ok_noX {A : Type} {r : Rx A} {P : A → Hx → Prop} : Ok r.noX P ↔ Ok r P := by cases r <;> rfl
@[simp] theorem OkS_st {A : Type} {r : Rx A} {l : Lx} {f : A → Hx → Sx} {N : Lx → Hx → Prop} {R : Vx → Hx → Prop} : OkS (r.st l f) N R ↔ Ok r fun a h => OkS (f a h) N R := by cases r <;> rfl
@[simp] theorem OkS_nx {l : Lx} {h : Hx} {N : Lx → Hx → Prop} {R : Vx → Hx → Prop} : OkS (.nx l h) N R ↔ N l h := .rfl
@[simp] theorem OkS_ret {l : Vx} {h : Hx} {N : Lx → Hx → Prop} {R : Vx → Hx → Prop} : OkS (.ret l h) N R ↔ R l h := .rfl
@[simp] theorem OkS_mnx {l : Lx} {h : Hx} {N : Lx → Hx → Prop} {R : Vx → Hx → Prop} : OkS (mnx l h) N R ↔ N l h := .rfl
@[simp] theorem OkS_seq {m n : Ms} {l : Lx} {h : Hx} {N : Lx → Hx → Prop} {R : Vx → Hx → Prop} : OkS (mseq m n l h) N R ↔ OkS (m l h) (fun l1 h1 => OkS (n l1 h1) N R) R := by
  unfold mseq; cases m l h <;> rfl
@[simp] theorem OkS_set {i : Nat} {m : Ex} {l : Lx} {h : Hx} {N : Lx → Hx → Prop} {R : Vx → Hx → Prop} : OkS (mset i m l h) N R ↔ Ok (m l h) fun w h1 => N (l.set i (some w)) h1 := by
  unfold mset; rw [OkS_st]; rfl
@[simp] theorem OkS_exp {m : Ex} {l : Lx} {h : Hx} {N : Lx → Hx → Prop} {R : Vx → Hx → Prop} : OkS (mexp m l h) N R ↔ Ok (m l h) fun _ h1 => N l h1 := by
  unfold mexp; rw [OkS_st]; rfl
@[simp] theorem OkS_mret {m : Ex} {l : Lx} {h : Hx} {N : Lx → Hx → Prop} {R : Vx → Hx → Prop} : OkS (mret m l h) N R ↔ Ok (m l h) R := by
  unfold mret; rw [OkS_st]; rfl
@[simp] theorem OkS_if {t : Et} {m n : Ms} {l : Lx} {h : Hx} {N : Lx → Hx → Prop} {R : Vx → Hx → Prop} : OkS (mif t m n l h) N R ↔ Ok (t l h) fun b h1 => if b = true then OkS (m l h1) N R else OkS (n l h1) N R := by
  unfold mif; rw [OkS_st]
  have : (fun (b : Bool) h1 => OkS (bif b then m l h1 else n l h1) N R) = fun b h1 => if b = true then OkS (m l h1) N R else OkS (n l h1) N R := by
    funext b h1; cases b <;> rfl
  rw [this]
@[simp] theorem OkS_par {i j : Nat} {a b : Ex} {l : Lx} {h : Hx} {N : Lx → Hx → Prop} {R : Vx → Hx → Prop} : OkS (mpar i j a b l h) N R ↔ Ok (a l h) fun x h1 => Ok (b l h1) fun y h2 => N ((l.set i (some x)).set j (some y)) h2 := by
  unfold mpar; rw [OkS_st]; simp
@[simp] theorem OkS_par3 {i j k : Nat} {a b c : Ex} {l : Lx} {h : Hx} {N : Lx → Hx → Prop} {R : Vx → Hx → Prop} : OkS (mpar3 i j k a b c l h) N R ↔ Ok (a l h) fun x h1 => Ok (b l h1) fun y h2 => Ok (c l h2) fun z h3 => N (((l.set i (some x)).set j (some y)).set k (some z)) h3 := by
  unfold mpar3; rw [OkS_st]; simp
@[simp] theorem sl_0 (a : Option Vx) (r : Lx) : sl (a :: r) 0 = a := rfl
@[simp] theorem sl_s (a : Option Vx) (r : Lx) (i : Nat) : sl (a :: r) (i + 1) = sl r i := rfl
@[simp] theorem Ok_var {i : Nat} {l : Lx} {h : Hx} {P : Vx → Hx → Prop} : Ok (var i l h) P ↔ ∃ w, sl l i = some w ∧ P w h := by
  unfold var
  cases e : sl l i with
  | none => simp [Ok]
  | some w => simp
@[simp] theorem Ok_cst {w : Vx} {l : Lx} {h : Hx} {P : Vx → Hx → Prop} : Ok (cst w l h) P ↔ P w h := .rfl
@[simp] theorem Ok_un {g : Vx → Hx → Rx Vx} {a : Ex} {l : Lx} {h : Hx} {P : Vx → Hx → Prop} : Ok (un g a l h) P ↔ Ok (a l h) fun x h1 => Ok (g x h1) P := by
  unfold un; rw [Ok_bind]
@[simp] theorem Ok_bin {g : Vx → Vx → Hx → Rx Vx} {a b : Ex} {l : Lx} {h : Hx} {P : Vx → Hx → Prop} : Ok (bin g a b l h) P ↔ Ok (a l h) fun x h1 => Ok (b l h1) fun y h2 => Ok (g x y h2) P := by
  unfold bin; simp
@[simp] theorem Ok_esn {l : Lx} {h : Hx} {P : List Vx → Hx → Prop} : Ok (esn l h) P ↔ P [] h := .rfl
@[simp] theorem Ok_esc {m : Ex} {ms : Es} {l : Lx} {h : Hx} {P : List Vx → Hx → Prop} : Ok (esc m ms l h) P ↔ Ok (m l h) fun x h1 => Ok (ms l h1) fun xs h2 => P (x :: xs) h2 := by
  unfold esc; simp
@[simp] theorem Ok_vcall {g : Fx} {ms : Es} {l : Lx} {h : Hx} {P : Vx → Hx → Prop} : Ok (vcall g ms l h) P ↔ Ok (ms l h) fun ws h1 => Ok (g ws h1) P := by
  unfold vcall; simp
theorem Ok_congr {A : Type} {r : Rx A} {P Q : A → Hx → Prop} (k : ∀ a h, P a h ↔ Q a h) : Ok r P ↔ Ok r Q := ⟨fun z => z.mono fun a h => (k a h).mp, fun z => z.mono fun a h => (k a h).mpr⟩
@[simp] theorem Ok_tv {m : Ex} {l : Lx} {h : Hx} {P : Bool → Hx → Prop} : Ok (tv m l h) P ↔ Ok (m l h) fun x h1 => ∃ k, tru x h1 = some k ∧ P k h1 := by
  unfold tv; rw [Ok_bind]
  exact Ok_congr fun a h => by cases tru a h <;> simp [Ok]
theorem bifi {A : Sort _} (b : Bool) (x y : A) : (bif b then x else y) = if b = true then x else y := by cases b <;> rfl
theorem ok_if {A : Type} {b : Bool} {x y : Rx A} {P : A → Hx → Prop} : Ok (if b = true then x else y) P ↔ if b = true then Ok x P else Ok y P := by cases b <;> exact .rfl
@[simp] theorem Ok_tnot {t : Et} {l : Lx} {h : Hx} {P : Bool → Hx → Prop} : Ok (tnot t l h) P ↔ Ok (t l h) fun b h1 => P (!b) h1 := by
  unfold tnot; simp
@[simp] theorem Ok_tor {t u : Et} {l : Lx} {h : Hx} {P : Bool → Hx → Prop} : Ok (tor t u l h) P ↔ Ok (t l h) fun b h1 => if b = true then P true h1 else Ok (u l h1) P := by
  unfold tor; rw [Ok_bind]; simp only [bifi, ok_if, Ok_ok]
@[simp] theorem Ok_tand {t u : Et} {l : Lx} {h : Hx} {P : Bool → Hx → Prop} : Ok (tand t u l h) P ↔ Ok (t l h) fun b h1 => if b = true then Ok (u l h1) P else P false h1 := by
  unfold tand; rw [Ok_bind]; simp only [bifi, ok_if, Ok_ok]
@[simp] theorem Ok_vand {a b : Ex} {l : Lx} {h : Hx} {P : Vx → Hx → Prop} : Ok (vand a b l h) P ↔ Ok (a l h) fun x h1 => ∃ k, tru x h1 = some k ∧ if k = true then Ok (b l h1) P else P x h1 := by
  unfold vand; rw [Ok_bind]
  exact Ok_congr fun a h => by
    cases tru a h with
    | none => simp [Ok]
    | some k => cases k <;> simp
@[simp] theorem Ok_vnot {a : Ex} {l : Lx} {h : Hx} {P : Vx → Hx → Prop} : Ok (vnot a l h) P ↔ Ok (a l h) fun x h1 => ∃ k, tru x h1 = some k ∧ P (.bl (!k)) h1 := by
  unfold vnot; rw [Ok_bind]
  exact Ok_congr fun a h => by cases tru a h <;> simp [Ok]
@[simp] theorem Ok_vif {t : Et} {a b : Ex} {l : Lx} {h : Hx} {P : Vx → Hx → Prop} : Ok (vif t a b l h) P ↔ Ok (t l h) fun k h1 => if k = true then Ok (a l h1) P else Ok (b l h1) P := by
  unfold vif; rw [Ok_bind]; simp only [bifi, ok_if]
@[simp] theorem Ok_chain {g g' : Vx → Vx → Hx → Rx Vx} {a b c : Ex} {l : Lx} {h : Hx} {P : Vx → Hx → Prop} : Ok (chain g g' a b c l h) P ↔ Ok (a l h) fun x h1 => Ok (b l h1) fun y h2 => Ok (g x y h2) fun z h3 => ∃ k, tru z h3 = some k ∧ if k = true then (Ok (c l h3) fun w h4 => Ok (g' y w h4) P) else P z h3 := by
  unfold chain; simp only [Ok_bind]
  refine Ok_congr fun a h => Ok_congr fun b h => Ok_congr fun z h => ?_
  cases tru z h with
  | none => simp [Ok]
  | some k => cases k <;> simp
@[simp] theorem tru_bl (b : Bool) (h : Hx) : tru (.bl b) h = some b := rfl
@[simp] theorem tru_int (i : Int) (h : Hx) : tru (.int i) h = some (i != 0) := rfl
theorem Ok_fnx {np N : Nat} {m : Ms} {ws : List Vx} {h : Hx} {P : Vx → Hx → Prop} (e : ws.length = np) (k : OkS (m (startL N ws) h) (fun _ h1 => P .non h1) P) : Ok (fnx np N m ws h) P := by
  unfold fnx
  rw [e, Nat.beq_refl, cond_true]
  cases q : m (startL N ws) h <;> rw [q] at k <;> first | exact k | exact k.elim
/-! operators -/
theorem pick2_cons {g : Vx → Vx → Hx → Option (Rx Vx)} {gs} {x y : Vx} {h : Hx} {r : Rx Vx} (e : g x y h = some r) : pick2 (g :: gs) x y h = r := by
  unfold pick2; rw [e]
theorem pick2_skip {g : Vx → Vx → Hx → Option (Rx Vx)} {gs} {x y : Vx} {h : Hx} (e : g x y h = none) : pick2 (g :: gs) x y h = pick2 gs x y h := by
  rw [pick2, e]
theorem pickN_cons {g : List Vx → Hx → Option (Rx Vx)} {gs} {x : List Vx} {h : Hx} {r : Rx Vx} (e : g x h = some r) : pickN (g :: gs) x h = r := by
  unfold pickN; rw [e]
@[simp] theorem p_add (i j : Int) (h : Hx) (gs) : pick2 (kAdd :: gs) (.int i) (.int j) h = .ok (.int (i + j)) h := rfl
@[simp] theorem p_sub (i j : Int) (h : Hx) (gs) : pick2 (kSub :: gs) (.int i) (.int j) h = .ok (.int (i - j)) h := rfl
@[simp] theorem p_lt (i j : Int) (h : Hx) (gs) : pick2 (kLt :: gs) (.int i) (.int j) h = .ok (.bl (decide (i < j))) h := rfl
@[simp] theorem p_le (i j : Int) (h : Hx) (gs) : pick2 (kLe :: gs) (.int i) (.int j) h = .ok (.bl (decide (i ≤ j))) h := rfl
@[simp] theorem p_gt (i j : Int) (h : Hx) (gs) : pick2 (kGt :: gs) (.int i) (.int j) h = .ok (.bl (decide (j < i))) h := rfl
@[simp] theorem p_ge (i j : Int) (h : Hx) (gs) : pick2 (kGe :: gs) (.int i) (.int j) h = .ok (.bl (decide (j ≤ i))) h := rfl
@[simp] theorem p_eq (i j : Int) (h : Hx) (gs) : pick2 (kEq :: gs) (.int i) (.int j) h = .ok (.bl (decide (i = j))) h := rfl
@[simp] theorem p_ne (i j : Int) (h : Hx) (gs) : pick2 (kNe :: gs) (.int i) (.int j) h = .ok (.bl (!decide (i = j))) h := rfl
@[simp] theorem p_eqb (i j : Bool) (h : Hx) (gs) : pick2 (kEq :: gs) (.bl i) (.bl j) h = .ok (.bl (i == j)) h := rfl
@[simp] theorem p_neb (i j : Bool) (h : Hx) (gs) : pick2 (kNe :: gs) (.bl i) (.bl j) h = .ok (.bl (!(i == j))) h := rfl
@[simp] theorem p_neg (i : Int) (h : Hx) (gs) : pick1 (kNeg :: gs) (.int i) h = .ok (.int (-i)) h := rfl
theorem p_mul {i j : Int} (e : (sm64 i || sm64 j) = true) (h : Hx) (gs) : pick2 (kMul :: gs) (.int i) (.int j) h = .ok (.int (i * j)) h := pick2_cons (by
  show (bif (sm64 i || sm64 j) then _ else _) = _
  rw [e]; rfl)
theorem p_mod {i j : Int} (e : 0 < j) (h : Hx) (gs) : pick2 (kMod :: gs) (.int i) (.int j) h = .ok (.int (i % j)) h := pick2_cons (by
  show (bif decide (0 < j) then _ else _) = _
  rw [decide_eq_true e]; rfl)
theorem p_div {i j : Int} (e : 0 < j) (e2 : j.natAbs.log2 < 9000) (h : Hx) (gs) : pick2 (kDiv :: gs) (.int i) (.int j) h = .ok (.int (i / j)) h := pick2_cons (by
  show (bif decide (0 < j) && Nat.blt j.natAbs.log2 9000 then _ else _) = _
  rw [decide_eq_true e, show Nat.blt j.natAbs.log2 9000 = true from Nat.ble_eq.mpr e2]; rfl)
/-! ### frames -/
structure Fr (h h' : Hx) : Prop where
  n : h.n ≤ h'.n
  g : ∀ i, i < h.n → h'.get i = h.get i
theorem Fr.rfl {h : Hx} : Fr h h := ⟨Nat.le_refl _, fun _ _ => by rfl⟩
theorem Fr.trans {a b c : Hx} (h : Fr a b) (k : Fr b c) : Fr a c := ⟨Nat.le_trans h.n k.n, fun i z => (k.g i (Nat.lt_of_lt_of_le z h.n)).trans (h.g i z)⟩
theorem Fr.new (h : Hx) (o : Ox) : Fr h (h.new o) := ⟨Nat.le_succ _, fun i z => by rw [Hx.get_new, if_neg (Nat.ne_of_gt z)]⟩
theorem Fr.put {a b : Hx} (h : Fr a b) {i : Nat} (k : a.n ≤ i) (o : Ox) : Fr a (b.put i o) := ⟨h.n, fun j z => by rw [Hx.get_put, if_neg (Nat.ne_of_gt (Nat.lt_of_lt_of_le z k)), h.g j z]⟩
/-- all but x -/
structure Fx1 (x : Nat) (h h' : Hx) : Prop where
  n : h.n ≤ h'.n
  g : ∀ i, i < h.n → i ≠ x → h'.get i = h.get i
theorem Fr.x {h h' : Hx} (k : Fr h h') (x : Nat) : Fx1 x h h' := ⟨k.n, fun i z _ => k.g i z⟩
theorem Fx1.trans {x : Nat} {a b c : Hx} (h : Fx1 x a b) (k : Fx1 x b c) : Fx1 x a c := ⟨Nat.le_trans h.n k.n, fun i z z2 => (k.g i (Nat.lt_of_lt_of_le z h.n) z2).trans (h.g i z z2)⟩
theorem Fx1.put {x : Nat} {a b : Hx} (h : Fx1 x a b) (o : Ox) : Fx1 x a (b.put x o) := ⟨h.n, fun j z z2 => by rw [Hx.get_put, if_neg (Ne.symm z2), h.g j z z2]⟩
theorem Fx1.rfl {x : Nat} {h : Hx} : Fx1 x h h := Fr.rfl.x x
theorem Fr.unput {x : Nat} {a b : Hx} {o : Ox} (h : Fx1 x a b) (e : a.get x = some o) : Fr a (b.put x o) := ⟨h.n, fun j z => by
  rw [Hx.get_put]
  by_cases q : x = j
  · subst q; rw [if_pos (by rfl), e]
  · rw [if_neg q, h.g j z (Ne.symm q)]⟩
/-! ### walks -/
theorem cloop_ok {ix : Ix} {t : Tgt} {tt : Et} {one : Lx → Hx → Rx Hx} {d : Nat} {lw : Lx} (N : Nat) (I : Nat → Hx → Prop)
    (hs : ∀ i h, i < N → I i h → ∃ w h1 va, step ix i h = some (some (w, h1)) ∧ t.bd w h1 = some va ∧ Ok (tt (stoL lw va) h1) fun b h2 => if b = true then (Ok (one (stoL lw va) h2) fun h3 _ => I (i + 1) h3) else I (i + 1) h2)
    (he : ∀ h, I N h → step ix N h = some none) : ∀ f i h, i ≤ N → N < i + f → I i h → Ok (cloop ix t tt one d lw f i h) fun w h' => w = .ref d ∧ I N h'
  | 0, i, h, h1, h2, _ => by omega
  | f + 1, i, h, h1, h2, hi => by
    unfold cloop
    by_cases e : i = N
    · subst e
      rw [he h hi]
      exact ⟨rfl, hi⟩
    · obtain ⟨w, hx, va, q1, q2, q3⟩ := hs i h (by omega) hi
      rw [q1]
      simp only [q2, Ok_bind, Ok_noX, bifi, ok_if]
      refine q3.mono fun b h2' z => ?_
      cases b with
      | true =>
        simp only [if_true] at z ⊢
        exact z.mono fun h3 _ z2 => cloop_ok N I hs he f (i + 1) h3 (by omega) (by omega) z2
      | false =>
        simp only [Bool.false_eq_true, if_false] at z ⊢
        exact cloop_ok N I hs he f (i + 1) _ (by omega) (by omega) z
theorem loop_ok {ix : Ix} {t : Tgt} {body : Ms} {R : Vx → Hx → Prop} (N : Nat) (I : Nat → Lx → Hx → Prop)
    (hs : ∀ i l h, i < N → I i l h → ∃ w h1 va, step ix i h = some (some (w, h1)) ∧ t.bd w h1 = some va ∧ OkS (body (stoL l va) h1) (I (i + 1)) R)
    (he : ∀ l h, I N l h → step ix N h = some none) : ∀ f i l h, i ≤ N → N < i + f → I i l h → OkS (loop ix t body f i l h) (I N) R
  | 0, i, l, h, h1, h2, _ => by omega
  | f + 1, i, l, h, h1, h2, hi => by
    unfold loop
    by_cases e : i = N
    · subst e
      rw [he l h hi]
      exact hi
    · obtain ⟨w, hx, va, q1, q2, q3⟩ := hs i l h (by omega) hi
      rw [q1]
      simp only [q2]
      cases q : body (stoL l va) hx with
      | nx l2 h2' =>
        rw [q] at q3
        exact loop_ok N I hs he f (i + 1) l2 h2' (by omega) (by omega) q3
      | ret w h2' => rw [q] at q3; exact q3
      | brk => rw [q] at q3; exact q3.elim
      | cont => rw [q] at q3; exact q3.elim
      | exc => rw [q] at q3; exact q3.elim
      | stuck => rw [q] at q3; exact q3.elim
theorem mfor_ok {mi : Ei} {t : Tgt} {body : Ms} {R : Vx → Hx → Prop} {l : Lx} {h h1 : Hx} {ix : Ix} {F : Lx → Hx → Prop} (e : mi l h = .ok ix h1) (N : Nat) (hN : turns ix h1 = N) (I : Nat → Lx → Hx → Prop)
    (h0 : I 0 l h1)
    (hs : ∀ i l h, i < N → I i l h → ∃ w h1 va, step ix i h = some (some (w, h1)) ∧ t.bd w h1 = some va ∧ OkS (body (stoL l va) h1) (I (i + 1)) R)
    (he : ∀ l h, I N l h → step ix N h = some none ∧ F l h) : OkS (mfor mi t body l h) F R := by
  unfold mfor
  rw [e]
  subst hN
  exact (loop_ok _ I hs (fun l h z => (he l h z).1) _ 0 l h1 (Nat.zero_le _) (by omega) h0).mono (fun l h z => (he l h z).2) fun _ _ z => z
theorem vlc_ok {mi : Ei} {t : Tgt} {tt : Et} {m : Ex} {vs : List Nat} {l : Lx} {h h1 : Hx} {ix : Ix} {P : Vx → Hx → Prop} (e : mi l h = .ok ix h1) (N : Nat) (hN : turns ix h1 = N) (I : Nat → Hx → Prop)
    (h0 : I 0 (h1.new (.lst [])))
    (hs : ∀ i h, i < N → I i h → ∃ w hx va, step ix i h = some (some (w, hx)) ∧ t.bd w hx = some va ∧ Ok (tt (stoL (wipeL l vs) va) hx) fun b h2 => if b = true then (Ok (m (stoL (wipeL l vs) va) h2) fun y h3 => ∃ h4, addL h1.n y h3 = some h4 ∧ I (i + 1) h4) else I (i + 1) h2)
    (he : ∀ h, I N h → step ix N h = some none ∧ P (.ref h1.n) h) : Ok (vlc mi t tt m vs l h) P := by
  unfold vlc
  rw [e]
  subst hN
  refine (cloop_ok (d := h1.n) _ I (fun i h z1 z2 => ?_) (fun h z => (he h z).1) _ 0 _ (Nat.zero_le _) (by omega) h0).mono fun w h z => by rw [z.1]; exact (he h z.2).2
  obtain ⟨w, hx, va, q1, q2, q3⟩ := hs i h z1 z2
  refine ⟨w, hx, va, q1, q2, q3.mono fun b h2 z => ?_⟩
  cases b with
  | false => exact z
  | true =>
    simp only [if_true] at z ⊢
    unfold oneL
    rw [Ok_bind, Ok_noX]
    refine z.mono fun y h3 z => ?_
    obtain ⟨h4, z1, z2⟩ := z
    rw [z1]; exact z2
theorem vdc_ok {mi : Ei} {t : Tgt} {tt : Et} {k v : Ex} {vs : List Nat} {l : Lx} {h h1 : Hx} {ix : Ix} {P : Vx → Hx → Prop} (e : mi l h = .ok ix h1) (N : Nat) (hN : turns ix h1 = N) (I : Nat → Hx → Prop)
    (h0 : I 0 (h1.new (.dK [])))
    (hs : ∀ i h, i < N → I i h → ∃ w hx va, step ix i h = some (some (w, hx)) ∧ t.bd w hx = some va ∧ Ok (tt (stoL (wipeL l vs) va) hx) fun b h2 => if b = true then (Ok (k (stoL (wipeL l vs) va) h2) fun x h3 => Ok (v (stoL (wipeL l vs) va) h3) fun y h4 => ∃ h5, addD h1.n x y h4 = some h5 ∧ I (i + 1) h5) else I (i + 1) h2)
    (he : ∀ h, I N h → step ix N h = some none ∧ P (.ref h1.n) h) : Ok (vdc mi t tt k v vs l h) P := by
  unfold vdc
  rw [e]
  subst hN
  refine (cloop_ok (d := h1.n) _ I (fun i h z1 z2 => ?_) (fun h z => (he h z).1) _ 0 _ (Nat.zero_le _) (by omega) h0).mono fun w h z => by rw [z.1]; exact (he h z.2).2
  obtain ⟨w, hx, va, q1, q2, q3⟩ := hs i h z1 z2
  refine ⟨w, hx, va, q1, q2, q3.mono fun b h2 z => ?_⟩
  cases b with
  | false => exact z
  | true =>
    simp only [if_true] at z ⊢
    unfold oneD
    simp only [Ok_bind, Ok_noX]
    refine z.mono fun x h3 z => z.mono fun y h4 z => ?_
    obtain ⟨h5, z1, z2⟩ := z
    rw [z1]; exact z2
/-! ### locks -/
theorem lockE_no {m : Ex} {run : Ex} {l : Lx} {h : Hx} {P : Vx → Hx → Prop} (e : dictAt m l h = none) (k : Ok (run l h) P) : Ok (lockE m run l h) P := by
  unfold lockE; rw [e]; exact k
theorem lockE_ok {m : Ex} {run : Ex} {l : Lx} {h h0 : Hx} {P : Vx → Hx → Prop} {d : Nat} {kvs : List (Kx × Vx)} (e : m l h = .ok (.ref d) h0) (e2 : h.get d = some (.dK kvs)) (lt : d < h.n)
    (k : Ok (run l (lockD d kvs h)) fun w h1 => Fx1 d h h1 ∧ h1.get d = some (.lk (.dK kvs)) ∧ (Fr h (h1.put d (.dK kvs)) → P w (h1.put d (.dK kvs)))) : Ok (lockE m run l h) P := by
  unfold lockE dictAt
  rw [e]
  simp only [e2, show Nat.blt d h.n = true from Nat.ble_eq.mpr lt, cond_true]
  obtain ⟨w, h1, q, f1, f2, f3⟩ := k.get
  rw [q]
  simp only [unlD, lkD, f2]
  exact f3 (Fr.unput f1 e2)
theorem lockS_ok {m : Ex} {run : Ms} {l : Lx} {h h0 : Hx} {N : Lx → Hx → Prop} {R : Vx → Hx → Prop} {d : Nat} {kvs : List (Kx × Vx)} (e : m l h = .ok (.ref d) h0) (e2 : h.get d = some (.dK kvs)) (lt : d < h.n)
    (k : OkS (run l (lockD d kvs h)) (fun l1 h1 => h1.get d = some (.lk (.dK kvs)) ∧ N l1 (h1.put d (.dK kvs))) (fun _ _ => False)) : OkS (lockS m run l h) N R := by
  unfold lockS dictAt
  rw [e]
  simp only [e2, show Nat.blt d h.n = true from Nat.ble_eq.mpr lt, cond_true]
  cases q : run l (lockD d kvs h) with
  | nx l1 h1 =>
    rw [q] at k
    simp only [unlS, unlD, lkD, k.1]
    exact k.2
  | ret => rw [q] at k; exact k.elim
  | brk => rw [q] at k; exact k.elim
  | cont => rw [q] at k; exact k.elim
  | exc => rw [q] at k; exact k.elim
  | stuck => rw [q] at k; exact k.elim
end SV

set_option Elab.async false
set_option linter.all false
set_option maxRecDepth 100000
set_option maxHeartbeats 4800000
/-! dicts from names to whole numbers. -/
namespace SV
open PySem L2 PySem.Spec PyProof.Rows
open UX (U keys lk has)
def eI (u : U) : List (Kx × Vx) := u.map fun p => (Sum.inr p.1, Vx.int p.2)
theorem eI_len (u : U) : (eI u).length = u.length := List.length_map ..
@[reducible] def ga0 : GA := ⟨fun _ => 0⟩
theorem keq_inr (a b : Str) : keq (.inr a) (.inr b) = decide (a = b) := by rw [@keq_is ga0]; exact decide_eq_decide.mpr ⟨fun e => Sum.inr.inj e, fun e => by rw [e]⟩
theorem getX_eI (u : U) (k : Str) : getX (eI u) (.inr k) = if has u k = true then some (.int (lk u k)) else none := by
  induction u with
  | nil => rfl
  | cons p r ih =>
    show (bif keq (.inr p.1) (.inr k) then some (Vx.int p.2) else getX (eI r) (.inr k)) = _
    rw [keq_inr]
    by_cases e : p.1 = k
    · simp [has, lk, e]
    · have h1 : has (p :: r) k = has r k := by unfold has; rw [List.any_cons, decide_eq_false e, Bool.false_or]
      have h2 : lk (p :: r) k = lk r k := by rw [show lk (p :: r) k = if p.1 = k then p.2 else lk r k from rfl, if_neg e]
      rw [h1, h2, decide_eq_false e, cond_false, ih]
theorem hasX_eI (u : U) (k : Str) : hasX (eI u) (.inr k) = has u k := by
  unfold hasX
  rw [getX_eI]
  cases has u k <;> rfl
theorem repX_eI (k : Str) (i : Int) : ∀ u : U, repX (eI u) (.inr k) (.int i) = eI (u.map fun p => if p.1 = k then (p.1, i) else p)
  | [] => rfl
  | p :: r => by
    show (bif keq (.inr p.1) (.inr k) then _ else _) :: repX (eI r) _ _ = _
    rw [keq_inr, repX_eI k i r, List.map_cons]
    by_cases e : p.1 = k
    · rw [if_pos e, decide_eq_true e]; rfl
    · rw [if_neg e, decide_eq_false e]; rfl
theorem putX_eI (u : U) (k : Str) (i : Int) : putX (eI u) (.inr k) (.int i) = eI (UX.put u k i) := by
  unfold putX UX.put
  rw [hasX_eI]
  cases has u k with
  | true => rw [cond_true, if_pos rfl, repX_eI]
  | false =>
    rw [cond_false, if_neg (by decide)]
    unfold eI
    rw [List.map_append]; rfl
def mergeU (a b : U) : U := b.foldl (fun acc p => UX.put acc p.1 p.2) a
theorem mergeX_eI : ∀ (b a : U), mergeX (eI a) (eI b) = eI (mergeU a b)
  | [], a => rfl
  | p :: r, a => by
    show mergeX (putX (eI a) (.inr p.1) (.int p.2)) (eI r) = _
    rw [putX_eI, mergeX_eI r]; rfl
theorem nd_mergeU : ∀ (b : U) {a : U}, (keys a).Nodup → (keys (mergeU a b)).Nodup
  | [], a, h => h
  | p :: r, a, h => nd_mergeU r (UX.nd_put h p.1 p.2)
theorem mem_put {u : U} {k j : Str} {i : Int} : j ∈ keys (UX.put u k i) ↔ j ∈ keys u ∨ j = k := by
  rw [UX.keys_put]
  cases h : has u k with
  | true =>
    rw [if_pos rfl]
    exact ⟨.inl, fun z => z.elim id fun e => e ▸ UX.has_iff.mp h⟩
  | false => rw [if_neg (by decide), List.mem_append, List.mem_singleton]
theorem mem_mergeU : ∀ (b : U) {a : U} {j : Str}, j ∈ keys (mergeU a b) ↔ j ∈ keys a ∨ j ∈ keys b
  | [], a, j => by show j ∈ keys a ↔ _; simp [keys]
  | p :: r, a, j => by
    show j ∈ keys (mergeU (UX.put a p.1 p.2) r) ↔ _
    rw [mem_mergeU r, mem_put]
    show _ ↔ _ ∨ j ∈ p.1 :: keys r
    rw [List.mem_cons, or_assoc]
/-- a dict not yet named stays at the end -/
theorem put_new {u : U} {k : Str} (h : k ∉ keys u) (i : Int) : UX.put u k i = u ++ [(k, i)] := by
  unfold UX.put
  rw [if_neg fun z => h (UX.has_iff.mp z)]
theorem mergeU_new : ∀ (b : U) {a : U}, (keys (a ++ b)).Nodup → mergeU a b = a ++ b
  | [], a, _ => (List.append_nil a).symm
  | p :: r, a, h => by
    show mergeU (UX.put a p.1 p.2) r = _
    have h1 : p.1 ∉ keys a := fun z => by
      unfold keys at h z
      rw [List.map_append, List.nodup_append] at h
      exact h.2.2 _ z _ List.mem_cons_self rfl
    rw [put_new h1, mergeU_new r (by rw [List.append_assoc]; exact h), List.append_assoc]; rfl
theorem txts_str : ∀ l : List Str, txts (l.map Vx.str) = some l
  | [] => rfl
  | s :: r => by
    show (match txts (r.map Vx.str) with | some t => some (s :: t) | none => none) = _
    rw [txts_str r]
theorem ktxts_eI : ∀ u : U, ktxts (eI u) = some (keys u)
  | [] => rfl
  | p :: r => by
    show (match ktxts (eI r) with | some t => some (p.1 :: t) | none => none) = _
    rw [ktxts_eI r]; rfl
theorem allI_eI : ∀ u : U, allI (eI u) = true
  | [] => rfl
  | p :: r => allI_eI r
theorem dEqX_eI (v : U) : ∀ u : U, dEqX (eI v) (eI u) = u.all fun p => has v p.1 && decide (lk v p.1 = p.2)
  | [] => rfl
  | p :: r => by
    show (match getX (eI v) (.inr p.1) with | some (.int j) => bif decide (j = p.2) then dEqX (eI v) (eI r) else false | _ => false) = _
    rw [getX_eI, List.all_cons, dEqX_eI v r]
    cases has v p.1 with
    | false => rfl
    | true =>
      rw [if_pos rfl]
      show (bif decide (lk v p.1 = p.2) then _ else false) = _
      cases decide (lk v p.1 = p.2) <;> simp
theorem dEqX_canon {u v : U} (cu : UX.Canon u) (cv : UX.Canon v) : (bif Nat.beq (eI u).length (eI v).length then dEqX (eI v) (eI u) else false) = decide (u = v) := by
  rw [Bool.eq_iff_iff, decide_eq_true_iff, dEqX_eI, eI_len, eI_len]
  constructor
  · intro h
    cases q : Nat.beq u.length v.length with
    | false => rw [q] at h; cases h
    | true =>
      rw [q] at h
      have hl := Nat.eq_of_beq_eq_true q
      have h : (u.all fun p => has v p.1 && decide (lk v p.1 = p.2)) = true := h
      rw [List.all_eq_true] at h
      refine UX.canon_ext cu cv fun k => ?_
      by_cases h1 : k ∈ keys u
      · have h2 := h _ (UX.mem_lk h1)
        rw [Bool.and_eq_true, decide_eq_true_iff] at h2
        exact h2.2.symm
      · have hsub : ∀ k ∈ keys u, k ∈ keys v := fun k hk => by
          have h2 := h _ (UX.mem_lk hk)
          rw [Bool.and_eq_true] at h2
          exact UX.has_iff.mp h2.1
        have hp := UX.perm_of_sub cu.nd hsub (by unfold keys; rw [List.length_map, List.length_map]; omega)
        rw [UX.lk_not h1, UX.lk_not fun z => h1 (hp.mem_iff.mpr z)]
  · intro e
    subst e
    rw [Nat.beq_refl, cond_true, List.all_eq_true]
    intro p hp
    rw [UX.has_iff.mpr (List.mem_map_of_mem hp), UX.lk_mem cu.nd hp]
    simp
theorem nth_map {A B : Type} (f : A → B) : ∀ (l : List A) (i : Nat), nth (l.map f) i = (nth l i).map f
  | [], _ => rfl
  | _ :: _, 0 => rfl
  | _ :: r, i + 1 => nth_map f r i
theorem nth_get {A : Type} : ∀ (l : List A) (i : Nat), nth l i = l[i]?
  | [], _ => rfl
  | _ :: _, 0 => rfl
  | _ :: r, i + 1 => (nth_get r i).trans (List.getElem?_cons_succ ..).symm
theorem nth_lt {A : Type} {l : List A} {i : Nat} (h : i < l.length) : nth l i = some l[i] := by rw [nth_get, List.getElem?_eq_getElem h]
theorem nth_ge {A : Type} {l : List A} {i : Nat} (h : l.length ≤ i) : nth l i = none := by rw [nth_get, List.getElem?_eq_none h]
/-! ### on the heap -/
structure DV (h : Hx) (d : Nat) (u : U) : Prop where
  lt : d < h.n
  g : h.get d = some (.dK (eI u))
theorem DV.fr {h h' : Hx} {d : Nat} {u : U} (v : DV h d u) (f : Fr h h') : DV h' d u := ⟨Nat.lt_of_lt_of_le v.lt f.n, (f.g _ v.lt).trans v.g⟩
theorem DV.fx {h h' : Hx} {d x : Nat} {u : U} (v : DV h d u) (f : Fx1 x h h') (e : d ≠ x) : DV h' d u := ⟨Nat.lt_of_lt_of_le v.lt f.n, (f.g _ v.lt e).trans v.g⟩
theorem DV.new (h : Hx) (u : U) : DV (h.new (.dK (eI u))) h.n u := ⟨Nat.lt_succ_self _, by rw [Hx.get_new, if_pos rfl]⟩
theorem DV.put {h : Hx} {d : Nat} {u : U} (lt : d < h.n) : DV (h.put d (.dK (eI u))) d u := ⟨lt, by rw [Hx.get_put, if_pos rfl]⟩
theorem DV.rd {h : Hx} {d : Nat} {u : U} (v : DV h d u) : h.rd d = some (.dK (eI u)) := by unfold Hx.rd; rw [v.g]; rfl
theorem DV.asD {h : Hx} {d : Nat} {u : U} (v : DV h d u) : asD (.ref d) h = some (eI u) := by unfold SV.asD; simp only [v.rd]
theorem DV.asL {h : Hx} {d : Nat} {u : U} (v : DV h d u) : asL (.ref d) h = none := by unfold SV.asL; simp only [v.rd]
theorem DV.asT {h : Hx} {d : Nat} {u : U} (v : DV h d u) : asT (.ref d) h = none := by unfold SV.asT; simp only [v.rd]
theorem DV.asI {h : Hx} {d : Nat} {u : U} (v : DV h d u) : asI (.ref d) h = none := by unfold SV.asI; simp only [v.g]
theorem DV.dkAt {h : Hx} {d : Nat} {u : U} (v : DV h d u) : dkAt (.ref d) h = some (d, eI u) := by unfold SV.dkAt; simp only [v.g]
/-- locked: it can still be read -/
structure RD (h : Hx) (d : Nat) (u : U) : Prop where
  lt : d < h.n
  g : h.get d = some (.dK (eI u)) ∨ h.get d = some (.lk (.dK (eI u)))
theorem DV.r {h : Hx} {d : Nat} {u : U} (v : DV h d u) : RD h d u := ⟨v.lt, .inl v.g⟩
theorem RD.fr {h h' : Hx} {d : Nat} {u : U} (v : RD h d u) (f : Fr h h') : RD h' d u := ⟨Nat.lt_of_lt_of_le v.lt f.n, by rw [f.g _ v.lt]; exact v.g⟩
theorem RD.fx {h h' : Hx} {d x : Nat} {u : U} (v : RD h d u) (f : Fx1 x h h') (e : d ≠ x) : RD h' d u := ⟨Nat.lt_of_lt_of_le v.lt f.n, by rw [f.g _ v.lt e]; exact v.g⟩
theorem RD.rd {h : Hx} {d : Nat} {u : U} (v : RD h d u) : h.rd d = some (.dK (eI u)) := by
  unfold Hx.rd
  rcases v.g with e | e <;> rw [e] <;> rfl
theorem RD.asD {h : Hx} {d : Nat} {u : U} (v : RD h d u) : asD (.ref d) h = some (eI u) := by unfold SV.asD; simp only [v.rd]
theorem RD.asL {h : Hx} {d : Nat} {u : U} (v : RD h d u) : asL (.ref d) h = none := by unfold SV.asL; simp only [v.rd]
theorem RD.asT {h : Hx} {d : Nat} {u : U} (v : RD h d u) : asT (.ref d) h = none := by unfold SV.asT; simp only [v.rd]
structure LV (h : Hx) (d : Nat) (xs : List Vx) : Prop where
  lt : d < h.n
  g : h.get d = some (.lst xs)
theorem LV.fr {h h' : Hx} {d : Nat} {u : List Vx} (v : LV h d u) (f : Fr h h') : LV h' d u := ⟨Nat.lt_of_lt_of_le v.lt f.n, (f.g _ v.lt).trans v.g⟩
theorem LV.fx {h h' : Hx} {d x : Nat} {u : List Vx} (v : LV h d u) (f : Fx1 x h h') (e : d ≠ x) : LV h' d u := ⟨Nat.lt_of_lt_of_le v.lt f.n, (f.g _ v.lt e).trans v.g⟩
theorem LV.new (h : Hx) (u : List Vx) : LV (h.new (.lst u)) h.n u := ⟨Nat.lt_succ_self _, by rw [Hx.get_new, if_pos rfl]⟩
theorem LV.asL {h : Hx} {d : Nat} {u : List Vx} (v : LV h d u) : asL (.ref d) h = some u := by unfold SV.asL Hx.rd; simp only [v.g]; rfl
theorem LV.seq {h : Hx} {d : Nat} {u : List Vx} (v : LV h d u) : seqIx (.ref d) h = .ok (.lst d) h := by unfold seqIx; simp only [v.g]
/-! walks over keys, items -/
theorem step_lst {h : Hx} {d i : Nat} {xs : List Vx} (v : LV h d xs) (hi : i < xs.length) : step (.lst d) i h = some (some (xs[i], h)) := by
  unfold step; simp only [v.asL, nth_lt hi]
theorem step_lst_end {h : Hx} {d : Nat} {xs : List Vx} (v : LV h d xs) : step (.lst d) xs.length h = some none := by
  unfold step; simp only [v.asL, nth_ge (Nat.le_refl _)]
theorem lkD_at {h : Hx} {d : Nat} {u : U} (e : h.get d = some (.lk (.dK (eI u)))) : lkD h d = some (eI u) := by unfold lkD; rw [e]
theorem step_items {h : Hx} {d i : Nat} {u : U} (e : h.get d = some (.lk (.dK (eI u)))) (hi : i < u.length) : step (.items d) i h = some (some (.ref h.n, h.new (.tup [.str u[i].1, .int u[i].2]))) := by
  unfold step
  simp only [lkD_at e]
  rw [show nth (eI u) i = some (Sum.inr u[i].1, Vx.int u[i].2) from by rw [eI, nth_map, nth_lt hi]; rfl]
  rfl
theorem step_items_end {h : Hx} {d : Nat} {u : U} (e : h.get d = some (.lk (.dK (eI u)))) : step (.items d) u.length h = some none := by
  unfold step
  simp only [lkD_at e, nth_ge (Nat.le_of_eq (eI_len u))]
theorem step_keys {h : Hx} {d i : Nat} {u : U} (e : h.get d = some (.lk (.dK (eI u)))) (hi : i < u.length) : step (.keys d) i h = some (some (.str u[i].1, h)) := by
  unfold step
  simp only [lkD_at e]
  rw [show nth (eI u) i = some (Sum.inr u[i].1, Vx.int u[i].2) from by rw [eI, nth_map, nth_lt hi]; rfl]
  rfl
theorem step_keys_end {h : Hx} {d : Nat} {u : U} (e : h.get d = some (.lk (.dK (eI u)))) : step (.keys d) u.length h = some none := by
  unfold step
  simp only [lkD_at e, nth_ge (Nat.le_of_eq (eI_len u))]
theorem bd_pair {h : Hx} {a b : Nat} {x y : Vx} : (Tgt.tup (.cons (.nm a) (.cons (.nm b) .nil))).bd (.ref h.n) (h.new (.tup [x, y])) = some [(a, x), (b, y)] := by
  simp [Tgt.bd, Tgts.bd, asT, Hx.rd, Hx.get_new, Ox.un]
/-! filling -/
theorem addL_is {h : Hx} {d : Nat} {xs : List Vx} {y : Vx} (v : LV h d xs) (hl : xs.length < 16777216) : addL d y h = some (h.put d (.lst (xs ++ [y]))) := by
  unfold addL; simp only [v.g, show Nat.blt xs.length sline = true from Nat.ble_eq.mpr hl, cond_true]
theorem addD_is {h : Hx} {d : Nat} {u : U} {k : Str} {i : Int} (v : DV h d u) (hl : u.length < 16777216) : addD d (.str k) (.int i) h = some (h.put d (.dK (eI (UX.put u k i)))) := by
  unfold addD
  simp only [kxOf, v.g, show Nat.blt (eI u).length sline = true from by rw [eI_len]; exact Nat.ble_eq.mpr hl, cond_true, putX_eI]
theorem putI_is {h : Hx} {d : Nat} {u : U} {k : Str} {i : Int} (v : DV h d u) (hl : u.length < 16777216) : putI (.ref d) (.str k) (.int i) h = some (h.put d (.dK (eI (UX.put u k i)))) := by
  unfold putI
  simp only [v.g, putO, kxOf, show Nat.blt (eI u).length sline = true from by rw [eI_len]; exact Nat.ble_eq.mpr hl, cond_true, putX_eI]
/-! reading -/
theorem p_ixD {h : Hx} {d : Nat} {u : U} {k : Str} (v : RD h d u) (hk : k ∈ keys u) : pick2 [kIxL, kIxT, kIxD] (.ref d) (.str k) h = .ok (.int (lk u k)) h := by
  rw [pick2_skip (by unfold kIxL; simp only [v.asL]), pick2_skip (by unfold kIxT; simp only [v.asT])]
  refine pick2_cons ?_
  unfold kIxD
  simp only [v.asD, kxOf, getX_eI, if_pos (UX.has_iff.mpr hk)]
theorem p_inD {h : Hx} {d : Nat} {u : U} {k : Str} (v : RD h d u) (gs) : pick2 (kIn :: gs) (.str k) (.ref d) h = .ok (.bl (has u k)) h := by
  refine pick2_cons ?_
  unfold kIn inB
  simp only [v.asD, kxOf, hasX_eI]
theorem ok_get2 {mo mk md : Ex} {l : Lx} {h : Hx} {d : Nat} {u : U} {k : Str} {P : Vx → Hx → Prop} (e1 : mo l h = .ok (.ref d) h) (e2 : mk l h = .ok (.str k) h) (e3 : md l h = .ok (.int 0) h) (v : RD h d u) (p : P (.int (lk u k)) h) : Ok (vget2 mo mk md l h) P := by
  unfold vget2
  rw [e1]
  simp only [Rx.bind, v.asD, e2, e3, kxOf, getX_eI]
  by_cases q : has u k = true
  · rw [if_pos q]; exact p
  · rw [if_neg q]
    rw [UX.lk_not fun z => q (UX.has_iff.mpr z)] at p
    exact p
theorem lk_putnew {u : U} {k : Str} {i : Int} : lk (UX.put u k i) k = i := by rw [UX.lk_put, if_pos rfl]
theorem len_put (u : U) (k : Str) (i : Int) : (UX.put u k i).length ≤ u.length + 1 := by
  have h := congrArg List.length (UX.keys_put u k i)
  unfold keys at h
  rw [List.length_map] at h
  split at h
  · rw [List.length_map] at h; omega
  · rw [List.length_append, List.length_map, List.length_singleton] at h; omega
end SV

set_option Elab.async false
set_option linter.all false
set_option maxRecDepth 100000
set_option maxHeartbeats 4800000
namespace K31
open PySem PySem.Spec PyProof.Rows L2 SV
/-! printed by gen.py -/
def top (i : Nat) : Stmt := PySem.Challenge.pw_fewlabels_k31_whole_units.main.body.getD i (.Pass ⟨0, 0, 0, 0⟩)
theorem tb1 {A : Type} {C c : Nat} {x a : A} {r : Option A} (h : (bif Nat.beq C c then some x else r) = some a) : (C = c ∧ x = a) ∨ r = some a := by
  cases q : Nat.beq C c with
  | true => rw [q] at h; cases h; exact .inl ⟨Nat.eq_of_beq_eq_true q, rfl⟩
  | false => rw [q] at h; exact .inr h
theorem tb2 {A : Type} {C D c d : Nat} {x a : A} {r : Option A} (h : (bif Nat.beq C c && Nat.beq D d then some x else r) = some a) : (C = c ∧ D = d ∧ x = a) ∨ r = some a := by
  cases q : (Nat.beq C c && Nat.beq D d) with
  | true =>
    rw [q] at h; cases h
    rw [Bool.and_eq_true] at q
    exact .inl ⟨Nat.eq_of_beq_eq_true q.1, Nat.eq_of_beq_eq_true q.2, rfl⟩
  | false => rw [q] at h; exact .inr h
theorem tbO {b : Bool} {x a : Bool} (h : (bif b then some x else none) = some a) : b = true ∧ x = a := by
  cases b with
  | true => cases h; exact ⟨rfl, rfl⟩
  | false => cases h
def s_0 : Str := ⟨#[115]⟩
theorem e_0 : Str.ofString "s" = s_0 := by rfl
def s_1 : Str := ⟨#[107, 103]⟩
theorem e_1 : Str.ofString "kg" = s_1 := by rfl
def s_2 : Str := ⟨#[109]⟩
theorem e_2 : Str.ofString "m" = s_2 := by rfl
def s_3 : Str := ⟨#[97, 98, 99, 100, 101, 102, 103, 104]⟩
theorem e_3 : Str.ofString "abcdefgh" = s_3 := by rfl
def s_4 : Str := ⟨#[112, 97, 114, 116, 115]⟩
theorem e_4 : Str.ofString "parts" = s_4 := by rfl
def s_5 : Str := ⟨#[97, 98, 99, 100, 101, 102, 103, 104, 105, 106, 107, 108, 109, 110, 111, 112, 113, 114, 115, 116, 117, 118, 119, 120, 121, 122]⟩
theorem e_5 : Str.ofString "abcdefghijklmnopqrstuvwxyz" = s_5 := by rfl
def s_6 : Str := ⟨#[112, 111, 119, 101, 114, 115]⟩
theorem e_6 : Str.ofString "powers" = s_6 := by rfl
def s_7 : Str := ⟨#[99, 100]⟩
theorem e_7 : Str.ofString "cd" = s_7 := by rfl
abbrev st__law_cell_at : Stmt := (top 12)
abbrev st__law_draw : Stmt := (top 13)
abbrev st__law_number : Stmt := (top 14)
abbrev st__law_next : Stmt := (top 15)
abbrev st__law_powers : Stmt := (top 16)
abbrev st_joined : Stmt := (top 9)
abbrev st_is_name : Stmt := (top 7)
abbrev st_is_integer : Stmt := (top 6)
abbrev st_Unit___init__ : Stmt := (inClass (top 8) 0)
abbrev st_Unit___mul__ : Stmt := (inClass (top 8) 4)
abbrev st__law_plain : Stmt := (top 17)
abbrev st_Unit_powers : Stmt := (inClass (top 8) 2)
abbrev st_Unit___eq__ : Stmt := (inClass (top 8) 3)
abbrev st_Unit___bool__ : Stmt := (inClass (top 8) 10)
abbrev st_Unit___contains__ : Stmt := (inClass (top 8) 7)
abbrev st_Unit___getitem__ : Stmt := (inClass (top 8) 8)
abbrev st__law_stands : Stmt := (top 18)
abbrev st_Unit___floordiv__ : Stmt := (inClass (top 8) 5)
abbrev st_powered : Stmt := (top 10)
abbrev st_Unit___pow__ : Stmt := (inClass (top 8) 6)
abbrev st__law_power : Stmt := (top 19)
abbrev st__law_one_right : Stmt := (top 20)
abbrev st_law : Stmt := (top 21)
section
variable [GA]
structure T (K : PySem.W.Frag) (mg : Str → Option Value) : Prop where
  f_len : mg "len" = none
  f_min : mg "min" = none
  f_max : mg "max" = none
  f_range : mg "range" = none
  d__law_cell_at : ∃ fd, FunD K "_law_cell_at" "_law_cell_at" (defArgs st__law_cell_at) (defBody st__law_cell_at) (defScope st__law_cell_at) [] [] (GA.g 18) fd
  g__law_cell_at : mg "_law_cell_at" = some (.ref (GA.g 18))
  d__law_draw : ∃ fd, FunD K "_law_draw" "_law_draw" (defArgs st__law_draw) (defBody st__law_draw) (defScope st__law_draw) [] [] (GA.g 19) fd
  g__law_draw : mg "_law_draw" = some (.ref (GA.g 19))
  d__law_number : ∃ fd, FunD K "_law_number" "_law_number" (defArgs st__law_number) (defBody st__law_number) (defScope st__law_number) [] [] (GA.g 20) fd
  g__law_number : mg "_law_number" = some (.ref (GA.g 20))
  d__law_next : ∃ fd, FunD K "_law_next" "_law_next" (defArgs st__law_next) (defBody st__law_next) (defScope st__law_next) [] [] (GA.g 21) fd
  g__law_next : mg "_law_next" = some (.ref (GA.g 21))
  d__law_powers : ∃ fd, FunD K "_law_powers" "_law_powers" (defArgs st__law_powers) (defBody st__law_powers) (defScope st__law_powers) [] [] (GA.g 22) fd
  g__law_powers : mg "_law_powers" = some (.ref (GA.g 22))
  f_dict : mg "dict" = none
  g_Unit : mg "Unit" = some (.ref (GA.g 4))
  kit_Unit : ∀ n, isEx n = false → PySem.W.kitOne K (.type n.nm) (.ref (GA.g 4)) = some false ∧ PySem.W.kitOne K (.ref (GA.g 4)) (.type n.nm) = some false
  inst_Unit : InsT K (GA.g 4)
  sub_Unit_Unit : PySem.W.kitOne K (.ref (GA.g 4)) (.ref (GA.g 4)) = some true
  f_isinstance : mg "isinstance" = none
  cls_Unit : Cls K (GA.g 4)
  no_Unit_parts : NoAttr K (GA.g 4) "parts"
  f_list : mg "list" = none
  d_joined : ∃ fd, FunD K "joined" "joined" (defArgs st_joined) (defBody st_joined) (defScope st_joined) [] [] (GA.g 16) fd
  g_joined : mg "joined" = some (.ref (GA.g 16))
  f_str : mg "str" = none
  c_MAX_NAME : ∃ t, mg "MAX_NAME" = some (.int 8 t)
  c_LETTERS : ∃ t, mg "LETTERS" = some (.str (Str.ofString "abcdefghijklmnopqrstuvwxyz") t)
  f_all : mg "all" = none
  d_is_name : ∃ fd, FunD K "is_name" "is_name" (defArgs st_is_name) (defBody st_is_name) (defScope st_is_name) [] [] (GA.g 3) fd
  g_is_name : mg "is_name" = some (.ref (GA.g 3))
  f_int : mg "int" = none
  f_bool : mg "bool" = none
  d_is_integer : ∃ fd, FunD K "is_integer" "is_integer" (defArgs st_is_integer) (defBody st_is_integer) (defScope st_is_integer) [] [] (GA.g 2) fd
  g_is_integer : mg "is_integer" = some (.ref (GA.g 2))
  f_sorted : mg "sorted" = none
  d_Unit___init__ : ∃ fd, FunD K "__init__" "Unit.__init__" (defArgs st_Unit___init__) (defBody st_Unit___init__) (defScope st_Unit___init__) [] [] (GA.g 5) fd
  mk_Unit : Mk K (GA.g 4) (GA.g 5)
  d_Unit___mul__ : ∃ fd, FunD K "__mul__" "Unit.__mul__" (defArgs st_Unit___mul__) (defBody st_Unit___mul__) (defScope st_Unit___mul__) [] [] (GA.g 9) fd
  own_Unit___mul__ : FL.Own K (GA.g 4) "__mul__" (GA.g 9)
  sf_Unit : PySem.W.selfFirst K (GA.g 4) = true
  d__law_plain : ∃ fd, FunD K "_law_plain" "_law_plain" (defArgs st__law_plain) (defBody st__law_plain) (defScope st__law_plain) [] [] (GA.g 23) fd
  g__law_plain : mg "_law_plain" = some (.ref (GA.g 23))
  d_Unit_powers : ∃ fd, FunD K "powers" "Unit.powers" (defArgs st_Unit_powers) (defBody st_Unit_powers) (defScope st_Unit_powers) [] [] (GA.g 7) fd
  prop_Unit_powers : PropOf K (GA.g 4) "powers" (He.ma K (GA.g 4) "powers") (GA.g 7)
  d_Unit___eq__ : ∃ fd, FunD K "__eq__" "Unit.__eq__" (defArgs st_Unit___eq__) (defBody st_Unit___eq__) (defScope st_Unit___eq__) [] [] (GA.g 8) fd
  own_Unit___eq__ : FL.Own K (GA.g 4) "__eq__" (GA.g 8)
  nf_Unit_Unit : PySem.W.notFirst K (GA.g 4) (.ref (GA.g 4)) = true
  d_Unit___bool__ : ∃ fd, FunD K "__bool__" "Unit.__bool__" (defArgs st_Unit___bool__) (defBody st_Unit___bool__) (defScope st_Unit___bool__) [] [] (GA.g 15) fd
  own_Unit___bool__ : FL.Own K (GA.g 4) "__bool__" (GA.g 15)
  d_Unit___contains__ : ∃ fd, FunD K "__contains__" "Unit.__contains__" (defArgs st_Unit___contains__) (defBody st_Unit___contains__) (defScope st_Unit___contains__) [] [] (GA.g 12) fd
  own_Unit___contains__ : FL.Own K (GA.g 4) "__contains__" (GA.g 12)
  d_Unit___getitem__ : ∃ fd, FunD K "__getitem__" "Unit.__getitem__" (defArgs st_Unit___getitem__) (defBody st_Unit___getitem__) (defScope st_Unit___getitem__) [] [] (GA.g 13) fd
  own_Unit___getitem__ : FL.Own K (GA.g 4) "__getitem__" (GA.g 13)
  fi_Unit___getitem__ : PySem.W.fnIn K (GA.g 13) = true
  d__law_stands : ∃ fd, FunD K "_law_stands" "_law_stands" (defArgs st__law_stands) (defBody st__law_stands) (defScope st__law_stands) [] [] (GA.g 24) fd
  g__law_stands : mg "_law_stands" = some (.ref (GA.g 24))
  d_Unit___floordiv__ : ∃ fd, FunD K "__floordiv__" "Unit.__floordiv__" (defArgs st_Unit___floordiv__) (defBody st_Unit___floordiv__) (defScope st_Unit___floordiv__) [] [] (GA.g 10) fd
  own_Unit___floordiv__ : FL.Own K (GA.g 4) "__floordiv__" (GA.g 10)
  d_powered : ∃ fd, FunD K "powered" "powered" (defArgs st_powered) (defBody st_powered) (defScope st_powered) [] [] (GA.g 17) fd
  g_powered : mg "powered" = some (.ref (GA.g 17))
  d_Unit___pow__ : ∃ fd, FunD K "__pow__" "Unit.__pow__" (defArgs st_Unit___pow__) (defBody st_Unit___pow__) (defScope st_Unit___pow__) [] [] (GA.g 11) fd
  own_Unit___pow__ : FL.Own K (GA.g 4) "__pow__" (GA.g 11)
  si_Unit : PySem.W.subIn K (.type "int") (.ref (GA.g 4)) = some false
  rp_Unit : PySem.W.findIn K (.ref (GA.g 4)) (PySem.dunderR "pow") = some none
  d__law_power : ∃ fd, FunD K "_law_power" "_law_power" (defArgs st__law_power) (defBody st__law_power) (defScope st__law_power) [] [] (GA.g 25) fd
  g__law_power : mg "_law_power" = some (.ref (GA.g 25))
  d__law_one_right : ∃ fd, FunD K "_law_one_right" "_law_one_right" (defArgs st__law_one_right) (defBody st__law_one_right) (defScope st__law_one_right) [] [] (GA.g 26) fd
  g__law_one_right : mg "_law_one_right" = some (.ref (GA.g 26))
  d_law : ∃ fd, FunD K "law" "law" (defArgs st_law) (defBody st_law) (defScope st_law) [] [] (GA.g 27) fd
  g_law : mg "law" = some (.ref (GA.g 27))
  nolist : q_nolist K = true
variable {K : PySem.W.Frag} {P : Program} {w : World} {base : Heap} {mg : Str → Option Value}
/-! #### _law_cell_at -/
abbrev nn__law_cell_at : List Str := ["_law_script", "_law_k"]
theorem sc__law_cell_at : FnScope ["_law_script", "_law_k"] ["_law_script", "_law_k"] (defScope st__law_cell_at) := ⟨rfl, rfl, rfl, by decide +kernel, rfl, by decide +kernel, by decide +kernel⟩
def m__law_cell_at : Ms := (mseq (mif (tv (bin (pick2 [kLt]) (var 1) (vcall (pickN [kLen]) (esc (var 0) esn)))) (mret (bin (pick2 [kIxL, kIxT, kIxD]) (var 0) (var 1))) mnx) (mret (cst (.int 0))))
def f__law_cell_at : Fx := fnx 2 2 m__law_cell_at

theorem kp__law_cell_at (t : T K mg) : PySem.W.keepIn K (.ref (GA.g 18)) = true := let ⟨_, F⟩ := t.d__law_cell_at; F.kp
theorem fo__law_cell_at (t : T K mg) {fd : FuncData} (F : FunD K "_law_cell_at" "_law_cell_at" (defArgs st__law_cell_at) (defBody st__law_cell_at) (defScope st__law_cell_at) [] [] (GA.g 18) fd) : FnOk P w K mg base (L2.CX P w) 1 (GA.g 18) fd ["_law_script", "_law_k"] (spV f__law_cell_at) :=
  have sc := sc__law_cell_at
  fn_D F sc rfl rfl fun cdv A outer s H E hr =>
    (svs_cons (sv_if (tt_cmp (pick2_ok (allC k_lt all0)) (pv_var 1) (pv_callB (pickN_ok (allC k_len all0)) rfl t.f_len (by decide +kernel) (av_cons (pv_var 0) av_nil)) (nomark _)) (svs_one (sv_ret (pv_ix (pick2_ok (allC (k_ixL (fun _ _ => rfl)) (allC (k_ixT (fun _ _ => rfl)) (allC (k_ixD (hu_of hr) (fun _ _ => rfl)) all0)))) (pv_var 0) (pv_var 1)))) svs_nil)
    (svs_one (sv_ret pv_int)))
theorem ok__law_cell_at (t : T K mg) : FnV P w K mg base 1 (GA.g 18) f__law_cell_at := let ⟨_, F⟩ := t.d__law_cell_at; fn_R (fo__law_cell_at t F) (F.bindsN fun _ _ _ _ _ _ us hl => match us, hl with | [_, _], _ => rfl)

/-! #### _law_draw -/
abbrev nn__law_draw : List Str := ["_law_cell", "_law_k", "_law_below", "_law_primes"]
theorem sc__law_draw : FnScope ["_law_cell", "_law_k", "_law_below", "_law_primes"] ["_law_cell", "_law_k", "_law_below"] (defScope st__law_draw) := ⟨rfl, rfl, rfl, by decide +kernel, rfl, by decide +kernel, by decide +kernel⟩
def m__law_draw : Ms := (mseq (mset 3 (vtup (esc (cst (.int 1000003)) (esc (cst (.int 1000033)) (esc (cst (.int 1000037)) (esc (cst (.int 1000039)) (esc (cst (.int 1000081)) (esc (cst (.int 1000099)) (esc (cst (.int 1000117)) (esc (cst (.int 1000121)) (esc (cst (.int 1000133)) (esc (cst (.int 1000151)) (esc (cst (.int 1000159)) (esc (cst (.int 1000171)) (esc (cst (.int 1000183)) (esc (cst (.int 1000187)) (esc (cst (.int 1000193)) (esc (cst (.int 1000199)) esn)))))))))))))))))) (mret (bin (pick2 [kMod, kModN]) (bin (pick2 [kMod, kModN]) (bin (pick2 [kAdd]) (bin (pick2 [kMul, kMulW]) (var 0) (cst (.int 48271))) (bin (pick2 [kMul, kMulW]) (var 1) (cst (.int 69621)))) (bin (pick2 [kIxL, kIxT, kIxD]) (var 3) (bin (pick2 [kMod, kModN]) (var 1) (cst (.int 16))))) (var 2))))
def f__law_draw : Fx := fnx 3 4 m__law_draw

theorem kp__law_draw (t : T K mg) : PySem.W.keepIn K (.ref (GA.g 19)) = true := let ⟨_, F⟩ := t.d__law_draw; F.kp
theorem fo__law_draw (t : T K mg) {fd : FuncData} (F : FunD K "_law_draw" "_law_draw" (defArgs st__law_draw) (defBody st__law_draw) (defScope st__law_draw) [] [] (GA.g 19) fd) : FnOk P w K mg base (L2.CX P w) 1 (GA.g 19) fd ["_law_cell", "_law_k", "_law_below"] (spV f__law_draw) :=
  have sc := sc__law_draw
  fn_D F sc rfl rfl fun cdv A outer s H E hr =>
    (svs_cons (sv_set (i := 3) sc.nd rfl (by first | exact Or.inl rfl | exact Or.inr rfl) (pv_tup (av_cons pv_int (av_cons pv_int (av_cons pv_int (av_cons pv_int (av_cons pv_int (av_cons pv_int (av_cons pv_int (av_cons pv_int (av_cons pv_int (av_cons pv_int (av_cons pv_int (av_cons pv_int (av_cons pv_int (av_cons pv_int (av_cons pv_int (av_cons pv_int av_nil))))))))))))))))))
    (svs_one (sv_ret (pv_op (pick2_ok (allC k_mod (allC k_modN all0))) (pv_op (pick2_ok (allC k_mod (allC k_modN all0))) (pv_op (pick2_ok (allC k_add all0)) (pv_op (pick2_ok (allC k_mul (allC k_mulW all0))) (pv_var 0) pv_int) (pv_op (pick2_ok (allC k_mul (allC k_mulW all0))) (pv_var 1) pv_int)) (pv_ix (pick2_ok (allC (k_ixL (fun _ _ => rfl)) (allC (k_ixT (fun _ _ => rfl)) (allC (k_ixD (hu_of hr) (fun _ _ => rfl)) all0)))) (pv_var 3) (pv_op (pick2_ok (allC k_mod (allC k_modN all0))) (pv_var 1) pv_int))) (pv_var 2)))))
theorem ok__law_draw (t : T K mg) : FnV P w K mg base 1 (GA.g 19) f__law_draw := let ⟨_, F⟩ := t.d__law_draw; fn_R (fo__law_draw t F) (F.bindsN fun _ _ _ _ _ _ us hl => match us, hl with | [_, _, _], _ => rfl)

/-! #### _law_number -/
abbrev nn__law_number : List Str := ["_law_cell", "_law_k", "_law_below", "_law_power_here", "_law_times", "_law_remains", "_law_small"]
theorem sc__law_number : FnScope ["_law_cell", "_law_k", "_law_below", "_law_power_here", "_law_times", "_law_remains", "_law_small"] ["_law_cell", "_law_k", "_law_below"] (defScope st__law_number) := ⟨rfl, rfl, rfl, by decide +kernel, rfl, by decide +kernel, by decide +kernel⟩
def m__law_number : Ms := (mseq (mset 3 (cst (.int 1))) (mseq (mfor (irng1 (bin (pick2 [kMod, kModN]) (var 1) (cst (.int 24)))) (.nm 4) (mset 3 (bin (pick2 [kMul, kMulW]) (var 3) (cst (.int 1009))))) (mseq (mset 5 (bin (pick2 [kDiv, kDivN]) (bin (pick2 [kSub]) (var 0) (bin (pick2 [kPow]) (cst (.int 10)) (cst (.int 18)))) (var 3))) (mseq (mif (tv (bin (pick2 [kGt]) (var 5) (cst (.int 0)))) (mret (bin (pick2 [kMod, kModN]) (bin (pick2 [kMod, kModN]) (var 5) (cst (.int 1009))) (var 2))) mnx) (mseq (mset 6 (bin (pick2 [kMod, kModN]) (var 0) (cst (.int 1000003)))) (mret (bin (pick2 [kMod, kModN]) (vcall f__law_draw (esc (bin (pick2 [kMul, kMulW]) (bin (pick2 [kAdd]) (var 6) (bin (pick2 [kMul, kMulW]) (cst (.int 977)) (var 1))) (bin (pick2 [kAdd]) (bin (pick2 [kAdd]) (var 6) (bin (pick2 [kMul, kMulW]) (cst (.int 31)) (var 1))) (cst (.int 5)))) (esc (bin (pick2 [kAdd]) (bin (pick2 [kMod, kModN]) (var 1) (cst (.int 9))) (cst (.int 1))) (esc (cst (.int 999983)) esn)))) (var 2))))))))
def f__law_number : Fx := fnx 3 7 m__law_number

theorem kp__law_number (t : T K mg) : PySem.W.keepIn K (.ref (GA.g 20)) = true := let ⟨_, F⟩ := t.d__law_number; F.kp
theorem fo__law_number (t : T K mg) {fd : FuncData} (F : FunD K "_law_number" "_law_number" (defArgs st__law_number) (defBody st__law_number) (defScope st__law_number) [] [] (GA.g 20) fd) : FnOk P w K mg base (L2.CX P w) 2 (GA.g 20) fd ["_law_cell", "_law_k", "_law_below"] (spV f__law_number) :=
  have sc := sc__law_number
  fn_D F sc rfl rfl fun cdv A outer s H E hr =>
    (svs_cons (sv_set (i := 3) sc.nd rfl (by first | exact Or.inl rfl | exact Or.inr rfl) pv_int)
    (svs_cons (sv_for (t := (.nm 4)) (passes_of rfl) rfl (iv_range1 rfl t.f_range (pv_op (pick2_ok (allC k_mod (allC k_modN all0))) (pv_var 1) pv_int)) (gt_name (i := 4) sc.nd rfl (by first | exact Or.inl rfl | exact Or.inr rfl)) (svs_one (sv_set (i := 3) sc.nd rfl (by first | exact Or.inl rfl | exact Or.inr rfl) (pv_op (pick2_ok (allC k_mul (allC k_mulW all0))) (pv_var 3) pv_int))))
    (svs_cons (sv_set (i := 5) sc.nd rfl (by first | exact Or.inl rfl | exact Or.inr rfl) (pv_op (pick2_ok (allC k_div (allC k_divN all0))) (pv_op (pick2_ok (allC k_sub all0)) (pv_var 0) (pv_op (pick2_ok (allC k_pow all0)) pv_int pv_int)) (pv_var 3)))
    (svs_cons (sv_if (tt_cmp (pick2_ok (allC k_gt all0)) (pv_var 5) pv_int (nomark _)) (svs_one (sv_ret (pv_op (pick2_ok (allC k_mod (allC k_modN all0))) (pv_op (pick2_ok (allC k_mod (allC k_modN all0))) (pv_var 5) pv_int) (pv_var 2)))) svs_nil)
    (svs_cons (sv_set (i := 6) sc.nd rfl (by first | exact Or.inl rfl | exact Or.inr rfl) (pv_op (pick2_ok (allC k_mod (allC k_modN all0))) (pv_var 0) pv_int))
    (svs_one (sv_ret (pv_op (pick2_ok (allC k_mod (allC k_modN all0))) (pv_call (ok__law_draw t) (takes_of rfl rfl rfl rfl) (hr.mono (j := 1) (by decide)) rfl t.g__law_draw (kp__law_draw t) (av_cons (pv_op (pick2_ok (allC k_mul (allC k_mulW all0))) (pv_op (pick2_ok (allC k_add all0)) (pv_var 6) (pv_op (pick2_ok (allC k_mul (allC k_mulW all0))) pv_int (pv_var 1))) (pv_op (pick2_ok (allC k_add all0)) (pv_op (pick2_ok (allC k_add all0)) (pv_var 6) (pv_op (pick2_ok (allC k_mul (allC k_mulW all0))) pv_int (pv_var 1))) pv_int)) (av_cons (pv_op (pick2_ok (allC k_add all0)) (pv_op (pick2_ok (allC k_mod (allC k_modN all0))) (pv_var 1) pv_int) pv_int) (av_cons pv_int av_nil)))) (pv_var 2)))))))))
theorem ok__law_number (t : T K mg) : FnV P w K mg base 2 (GA.g 20) f__law_number := let ⟨_, F⟩ := t.d__law_number; fn_R (fo__law_number t F) (F.bindsN fun _ _ _ _ _ _ us hl => match us, hl with | [_, _, _], _ => rfl)

/-! #### _law_next -/
abbrev nn__law_next : List Str := ["_law_state", "_law_below", "_law_at", "_law_cell"]
theorem sc__law_next : FnScope ["_law_state", "_law_below", "_law_at", "_law_cell"] ["_law_state", "_law_below"] (defScope st__law_next) := ⟨rfl, rfl, rfl, by decide +kernel, rfl, by decide +kernel, by decide +kernel⟩
def m__law_next : Ms := (mseq (mput (var 0) (cst (.int 2)) (bin (pick2 [kAdd]) (bin (pick2 [kIxL, kIxT, kIxD]) (var 0) (cst (.int 2))) (cst (.int 1)))) (mseq (mset 2 (bin (pick2 [kDiv, kDivN]) (bin (pick2 [kIxL, kIxT, kIxD]) (var 0) (cst (.int 2))) (cst (.int 12)))) (mseq (mset 3 (bin (pick2 [kAdd]) (vcall f__law_cell_at (esc (bin (pick2 [kIxL, kIxT, kIxD]) (var 0) (cst (.int 0))) (esc (bin (pick2 [kAdd]) (bin (pick2 [kIxL, kIxT, kIxD]) (var 0) (cst (.int 1))) (var 2)) esn))) (bin (pick2 [kMul, kMulW]) (cst (.int 31)) (var 2)))) (mret (vcall f__law_number (esc (var 3) (esc (bin (pick2 [kAdd]) (bin (pick2 [kMod, kModN]) (bin (pick2 [kIxL, kIxT, kIxD]) (var 0) (cst (.int 2))) (cst (.int 12))) (cst (.int 1))) (esc (var 1) esn))))))))
def f__law_next : Fx := fnx 2 4 m__law_next

theorem kp__law_next (t : T K mg) : PySem.W.keepIn K (.ref (GA.g 21)) = true := let ⟨_, F⟩ := t.d__law_next; F.kp
theorem fo__law_next (t : T K mg) {fd : FuncData} (F : FunD K "_law_next" "_law_next" (defArgs st__law_next) (defBody st__law_next) (defScope st__law_next) [] [] (GA.g 21) fd) : FnOk P w K mg base (L2.CX P w) 3 (GA.g 21) fd ["_law_state", "_law_below"] (spV f__law_next) :=
  have sc := sc__law_next
  fn_D F sc rfl rfl fun cdv A outer s H E hr =>
    (svs_cons (sv_put (hu_of hr) (pv_var 0) pv_int (pv_op (pick2_ok (allC k_add all0)) (pv_ix (pick2_ok (allC (k_ixL (fun _ _ => rfl)) (allC (k_ixT (fun _ _ => rfl)) (allC (k_ixD (hu_of hr) (fun _ _ => rfl)) all0)))) (pv_var 0) pv_int) pv_int))
    (svs_cons (sv_set (i := 2) sc.nd rfl (by first | exact Or.inl rfl | exact Or.inr rfl) (pv_op (pick2_ok (allC k_div (allC k_divN all0))) (pv_ix (pick2_ok (allC (k_ixL (fun _ _ => rfl)) (allC (k_ixT (fun _ _ => rfl)) (allC (k_ixD (hu_of hr) (fun _ _ => rfl)) all0)))) (pv_var 0) pv_int) pv_int))
    (svs_cons (sv_set (i := 3) sc.nd rfl (by first | exact Or.inl rfl | exact Or.inr rfl) (pv_op (pick2_ok (allC k_add all0)) (pv_call (ok__law_cell_at t) (takes_of rfl rfl rfl rfl) (hr.mono (j := 1) (by decide)) rfl t.g__law_cell_at (kp__law_cell_at t) (av_cons (pv_ix (pick2_ok (allC (k_ixL (fun _ _ => rfl)) (allC (k_ixT (fun _ _ => rfl)) (allC (k_ixD (hu_of hr) (fun _ _ => rfl)) all0)))) (pv_var 0) pv_int) (av_cons (pv_op (pick2_ok (allC k_add all0)) (pv_ix (pick2_ok (allC (k_ixL (fun _ _ => rfl)) (allC (k_ixT (fun _ _ => rfl)) (allC (k_ixD (hu_of hr) (fun _ _ => rfl)) all0)))) (pv_var 0) pv_int) (pv_var 2)) av_nil))) (pv_op (pick2_ok (allC k_mul (allC k_mulW all0))) pv_int (pv_var 2))))
    (svs_one (sv_ret (pv_call (ok__law_number t) (takes_of rfl rfl rfl rfl) (hr.mono (j := 2) (by decide)) rfl t.g__law_number (kp__law_number t) (av_cons (pv_var 3) (av_cons (pv_op (pick2_ok (allC k_add all0)) (pv_op (pick2_ok (allC k_mod (allC k_modN all0))) (pv_ix (pick2_ok (allC (k_ixL (fun _ _ => rfl)) (allC (k_ixT (fun _ _ => rfl)) (allC (k_ixD (hu_of hr) (fun _ _ => rfl)) all0)))) (pv_var 0) pv_int) pv_int) pv_int) (av_cons (pv_var 1) av_nil)))))))))
theorem ok__law_next (t : T K mg) : FnV P w K mg base 3 (GA.g 21) f__law_next := let ⟨_, F⟩ := t.d__law_next; fn_R (fo__law_next t F) (F.bindsN fun _ _ _ _ _ _ us hl => match us, hl with | [_, _], _ => rfl)

/-! #### _law_powers -/
abbrev nn__law_powers : List Str := ["_law_state", "_law_found", "_law_name"]
theorem sc__law_powers : FnScope ["_law_state", "_law_found", "_law_name"] ["_law_state"] (defScope st__law_powers) := ⟨rfl, rfl, rfl, by decide +kernel, rfl, by decide +kernel, by decide +kernel⟩
def m__law_powers : Ms := (mseq (mset 1 vdict0) (mseq (mfor (iseq (vlst (esc (cst (.str s_0)) (esc (cst (.str s_1)) (esc (cst (.str s_2)) (esc (cst (.str s_3)) esn)))))) (.nm 2) (mif (tv (bin (pick2 [kGt]) (vcall f__law_next (esc (var 0) (esc (cst (.int 3)) esn))) (cst (.int 0)))) (mseq (mput (var 1) (var 2) (bin (pick2 [kSub]) (vcall f__law_next (esc (var 0) (esc (cst (.int 5)) esn))) (cst (.int 2)))) (mif (tv (bin (pick2 [kEq, kEqI, kEqD]) (vcall f__law_next (esc (var 0) (esc (cst (.int 5)) esn))) (cst (.int 0)))) (mput (var 1) (var 2) (bin (pick2 [kSub]) (vcall f__law_next (esc (var 0) (esc (cst (.int 2001)) esn))) (cst (.int 1000)))) mnx)) mnx)) (mret (var 1))))
def f__law_powers : Fx := fnx 1 3 m__law_powers

theorem kp__law_powers (t : T K mg) : PySem.W.keepIn K (.ref (GA.g 22)) = true := let ⟨_, F⟩ := t.d__law_powers; F.kp
theorem fo__law_powers (t : T K mg) {fd : FuncData} (F : FunD K "_law_powers" "_law_powers" (defArgs st__law_powers) (defBody st__law_powers) (defScope st__law_powers) [] [] (GA.g 22) fd) : FnOk P w K mg base (L2.CX P w) 4 (GA.g 22) fd ["_law_state"] (spV f__law_powers) :=
  have sc := sc__law_powers
  fn_D F sc rfl rfl fun cdv A outer s H E hr =>
    (svs_cons (sv_set (i := 1) sc.nd rfl (by first | exact Or.inl rfl | exact Or.inr rfl) pv_dict0)
    (svs_cons (sv_for (t := (.nm 2)) (passes_of rfl) rfl (iv_seq (pv_lst (av_cons (pv_strE e_0) (av_cons (pv_strE e_1) (av_cons (pv_strE e_2) (av_cons (pv_strE e_3) av_nil)))))) (gt_name (i := 2) sc.nd rfl (by first | exact Or.inl rfl | exact Or.inr rfl)) (svs_one (sv_if (tt_cmp (pick2_ok (allC k_gt all0)) (pv_call (ok__law_next t) (takes_of rfl rfl rfl rfl) (hr.mono (j := 3) (by decide)) rfl t.g__law_next (kp__law_next t) (av_cons (pv_var 0) (av_cons pv_int av_nil))) pv_int (nomark _)) (svs_cons (sv_put (hu_of hr) (pv_var 1) (pv_var 2) (pv_op (pick2_ok (allC k_sub all0)) (pv_call (ok__law_next t) (takes_of rfl rfl rfl rfl) (hr.mono (j := 3) (by decide)) rfl t.g__law_next (kp__law_next t) (av_cons (pv_var 0) (av_cons pv_int av_nil))) pv_int))
    (svs_one (sv_if (tt_cmp (pick2_ok (allC k_eq (allC (k_eqI hr.units0) (allC (k_eqD hr.units) all0)))) (pv_call (ok__law_next t) (takes_of rfl rfl rfl rfl) (hr.mono (j := 3) (by decide)) rfl t.g__law_next (kp__law_next t) (av_cons (pv_var 0) (av_cons pv_int av_nil))) pv_int (nomark _)) (svs_one (sv_put (hu_of hr) (pv_var 1) (pv_var 2) (pv_op (pick2_ok (allC k_sub all0)) (pv_call (ok__law_next t) (takes_of rfl rfl rfl rfl) (hr.mono (j := 3) (by decide)) rfl t.g__law_next (kp__law_next t) (av_cons (pv_var 0) (av_cons pv_int av_nil))) pv_int))) svs_nil))) svs_nil)))
    (svs_one (sv_ret (pv_var 1)))))
theorem ok__law_powers (t : T K mg) : FnV P w K mg base 4 (GA.g 22) f__law_powers := let ⟨_, F⟩ := t.d__law_powers; fn_R (fo__law_powers t F) (F.bindsN fun _ _ _ _ _ _ us hl => match us, hl with | [_], _ => rfl)

def kit : Tt → Tt → Option Bool := fun t u => match t, u with
  | .b x, .b y => bif isEx x || isEx y then none else some (isB x y)
  | .b x, .o C => bif isEx x then none else (bif Nat.beq C 4 then some false else none)
  | .o C, .b y => bif isEx y then none else (bif Nat.beq C 4 then some false else none)
  | .o C, .o D => (bif Nat.beq C 4 && Nat.beq D 4 then some true else none)
theorem kit_ok {K : PySem.W.Frag} {mg : Str → Option Value} (t : T K mg) : KitOK K kit := by
  intro x y b h
  cases x with
  | b x =>
    cases y with
    | b y =>
      have h : (bif isEx x || isEx y then none else some (isB x y)) = some b := h
      cases q : (isEx x || isEx y) with
      | true => rw [q] at h; cases h
      | false =>
        rw [q] at h
        cases h
        refine ⟨?_, fun C z => nomatch z⟩
        rw [Bool.or_eq_false_iff] at q
        rcases isB_is K x y with z | z | z
        · exact z
        · subst z; cases q.1
        · subst z; cases q.1
    | o C =>
      have h : (bif isEx x then none else (bif Nat.beq C 4 then some false else none)) = some b := h
      cases q : isEx x with
      | true => rw [q] at h; cases h
      | false =>
        rw [q] at h
        have h : (bif Nat.beq C 4 then some false else none) = some b := h
        refine ⟨?_, fun C z => nomatch z⟩
        rcases tbO h with ⟨h1, rfl⟩
        have h1 : (Nat.beq C 4) = true := h1
        (try simp only [Bool.or_eq_true] at h1)
        rcases h1 with h1
        · have e := Nat.eq_of_beq_eq_true h1; subst e; exact (t.kit_Unit x q).1
  | o C =>
    cases y with
    | b y =>
      have h : (bif isEx y then none else (bif Nat.beq C 4 then some false else none)) = some b := h
      cases q : isEx y with
      | true => rw [q] at h; cases h
      | false =>
        rw [q] at h
        have h : (bif Nat.beq C 4 then some false else none) = some b := h
        rcases tbO h with ⟨h1, rfl⟩
        have h1 : (Nat.beq C 4) = true := h1
        (try simp only [Bool.or_eq_true] at h1)
        rcases h1 with h1
        · have e := Nat.eq_of_beq_eq_true h1; subst e; exact ⟨(t.kit_Unit y q).2, fun C z => by cases z; exact t.inst_Unit⟩
    | o D =>
      have h : (bif Nat.beq C 4 && Nat.beq D 4 then some true else none) = some b := h
      rcases tb2 h with ⟨rfl, rfl, rfl⟩ | h
      · exact ⟨t.sub_Unit_Unit, fun C z => by cases z; exact t.inst_Unit⟩
      cases h

def at_parts : Nat → Option Ak := fun C => (bif Nat.beq C 4 then some .fld else none)
theorem at_parts_ok {X : Cx} (t : T X.K X.mg) (hr : Room 0 X.A) : ∀ C a, at_parts C = some a → AkOK X "parts" C a := by
  intro C a h
  rcases tb1 h with ⟨rfl, rfl⟩ | h
  · exact .fld t.cls_Unit t.no_Unit_parts
  cases h

/-! #### joined -/
abbrev nn_joined : List Str := ["one", "other", "sign", "every", "name"]
theorem sc_joined : FnScope ["one", "other", "sign", "every", "name"] ["one", "other", "sign"] (defScope st_joined) := ⟨rfl, rfl, rfl, by decide +kernel, rfl, by decide +kernel, by decide +kernel⟩
def m_joined : Ms := (mseq (mif (tnot (tv (vcall (pickN [kIsi kit]) (esc (var 1) (esc (cst (.fn 4)) esn))))) mnever mnx) (mseq (mset 3 (vcall (pickN [kList]) (esc (vdict2 (un (attrV at_parts s_4) (var 0)) (un (attrV at_parts s_4) (var 1))) esn))) (mret (lockE (var 3) (vdc (iseq (var 3)) (.nm 4) tyes (var 4) (bin (pick2 [kAdd]) (vget2 (un (attrV at_parts s_4) (var 0)) (var 4) (cst (.int 0))) (bin (pick2 [kMul, kMulW]) (var 2) (vget2 (un (attrV at_parts s_4) (var 1)) (var 4) (cst (.int 0))))) [4])))))
def f_joined : Fx := fnx 3 5 m_joined

theorem kp_joined (t : T K mg) : PySem.W.keepIn K (.ref (GA.g 16)) = true := let ⟨_, F⟩ := t.d_joined; F.kp
theorem fo_joined (t : T K mg) {fd : FuncData} (F : FunD K "joined" "joined" (defArgs st_joined) (defBody st_joined) (defScope st_joined) [] [] (GA.g 16) fd) : FnOk P w K mg base (L2.CX P w) 1 (GA.g 16) fd ["one", "other", "sign"] (spV f_joined) :=
  have sc := sc_joined
  fn_D F sc rfl rfl fun cdv A outer s H E hr =>
    (svs_cons (sv_if (tt_not (tt_val (pv_callB (pickN_ok (allC (k_isi (kit_ok t)) all0)) rfl t.f_isinstance (by decide +kernel) (av_cons (pv_var 1) (av_cons (pv_gref rfl t.g_Unit) av_nil))))) (svs_one sv_never) svs_nil)
    (svs_cons (sv_set (i := 3) sc.nd rfl (by first | exact Or.inl rfl | exact Or.inr rfl) (pv_callTy (pickN_ok (allC (k_list rfl) all0)) rfl t.f_list (by decide +kernel) (av_cons (pv_dict2 (pv_attr e_4 (at_parts_ok t (hr.mono (j := 0) (by decide))) (pv_var 0)) (pv_attr e_4 (at_parts_ok t (hr.mono (j := 0) (by decide))) (pv_var 1))) av_nil)))
    (svs_one (sv_ret (pv_lock (var 3) (pv_dc (own := [("name", 4)]) (t := (.nm 4)) rfl sc.nd (iv_seq (pv_var 3)) (blkOk_by (own := [("name", 4)]) (N := nn_joined) (sc := defScope st_joined) (by decide +kernel)) (by decide) (fun _ _ _ _ _ => (gt_name (i := 4) sc.nd rfl (by first | exact Or.inl rfl | exact Or.inr rfl))) (fun _ _ _ _ _ => ct_nil) (fun _ _ _ _ _ => (pv_var 4)) (fun _ _ _ _ _ => (pv_op (pick2_ok (allC k_add all0)) (pv_get2 (hu_of hr) (pv_attr e_4 (at_parts_ok t (hr.mono (j := 0) (by decide))) (pv_var 0)) (pv_var 4) pv_int ⟨rfl, rfl, rfl, rfl⟩) (pv_op (pick2_ok (allC k_mul (allC k_mulW all0))) (pv_var 2) (pv_get2 (hu_of hr) (pv_attr e_4 (at_parts_ok t (hr.mono (j := 0) (by decide))) (pv_var 1)) (pv_var 4) pv_int ⟨rfl, rfl, rfl, rfl⟩))))))))))
theorem ok_joined (t : T K mg) : FnV P w K mg base 1 (GA.g 16) f_joined := let ⟨_, F⟩ := t.d_joined; fn_R (fo_joined t F) (F.bindsN fun _ _ _ _ _ _ us hl => match us, hl with | [_, _, _], _ => rfl)

/-! #### is_name -/
abbrev nn_is_name : List Str := ["value", "sign"]
theorem sc_is_name : FnScope ["value", "sign"] ["value"] (defScope st_is_name) := ⟨rfl, rfl, rfl, by decide +kernel, rfl, by decide +kernel, by decide +kernel⟩
def m_is_name : Ms := (mret (vand (vcall (pickN [kIsi kit]) (esc (var 0) (esc (cst (.ty .str)) esn))) (vand (chain (pick2 [kLe]) (pick2 [kLe]) (cst (.int 1)) (vcall (pickN [kLen]) (esc (var 0) esn)) (cst (.int 8))) (vcall (pickN [kAll]) (esc (lockE (var 0) (vlc (iseq (var 0)) (.nm 1) tyes (bin (pick2 [kIn]) (var 1) (cst (.str s_5))) [1])) esn)))))
def f_is_name : Fx := fnx 1 2 m_is_name

theorem kp_is_name (t : T K mg) : PySem.W.keepIn K (.ref (GA.g 3)) = true := let ⟨_, F⟩ := t.d_is_name; F.kp
theorem fo_is_name (t : T K mg) {fd : FuncData} (F : FunD K "is_name" "is_name" (defArgs st_is_name) (defBody st_is_name) (defScope st_is_name) [] [] (GA.g 3) fd) : FnOk P w K mg base (L2.CX P w) 1 (GA.g 3) fd ["value"] (spV f_is_name) :=
  have sc := sc_is_name
  fn_D F sc rfl rfl fun cdv A outer s H E hr =>
    (svs_one (sv_ret (pv_and (pv_callB (pickN_ok (allC (k_isi (kit_ok t)) all0)) rfl t.f_isinstance (by decide +kernel) (av_cons (pv_var 0) (av_cons (pv_ty (T := .str) rfl t.f_str (by decide +kernel)) av_nil))) (pv_and (pv_chain (pick2_ok (allC k_le all0)) (pick2_ok (allC k_le all0)) pv_int (pv_callB (pickN_ok (allC k_len all0)) rfl t.f_len (by decide +kernel) (av_cons (pv_var 0) av_nil)) (pv_gint rfl t.c_MAX_NAME)) (pv_one (pv_callB (pickN_ok (allC (k_all rfl) all0)) rfl t.f_all (by decide +kernel) (av_cons (pv_lock (var 0) (pv_lc (own := [("sign", 1)]) (t := (.nm 1)) rfl sc.nd (iv_seq (pv_var 0)) (blkOk_by (own := [("sign", 1)]) (N := nn_is_name) (sc := defScope st_is_name) (by decide +kernel)) (by decide) (fun _ _ _ _ _ => (gt_name (i := 1) sc.nd rfl (by first | exact Or.inl rfl | exact Or.inr rfl))) (fun _ _ _ _ _ => ct_nil) (fun _ _ _ _ _ => (pv_cmp (pick2_ok (allC (k_in (hu_of hr)) all0)) (pv_var 1) (pv_gstr rfl t.c_LETTERS e_5) (by rfl))))) av_nil)))))))
theorem ok_is_name (t : T K mg) : FnV P w K mg base 1 (GA.g 3) f_is_name := let ⟨_, F⟩ := t.d_is_name; fn_R (fo_is_name t F) (F.bindsN fun _ _ _ _ _ _ us hl => match us, hl with | [_], _ => rfl)

/-! #### is_integer -/
abbrev nn_is_integer : List Str := ["value"]
theorem sc_is_integer : FnScope ["value"] ["value"] (defScope st_is_integer) := ⟨rfl, rfl, rfl, by decide +kernel, rfl, by decide +kernel, by decide +kernel⟩
def m_is_integer : Ms := (mret (vand (vcall (pickN [kIsi kit]) (esc (var 0) (esc (cst (.ty .int)) esn))) (vnot (vcall (pickN [kIsi kit]) (esc (var 0) (esc (cst (.ty .bool)) esn))))))
def f_is_integer : Fx := fnx 1 1 m_is_integer

theorem kp_is_integer (t : T K mg) : PySem.W.keepIn K (.ref (GA.g 2)) = true := let ⟨_, F⟩ := t.d_is_integer; F.kp
theorem fo_is_integer (t : T K mg) {fd : FuncData} (F : FunD K "is_integer" "is_integer" (defArgs st_is_integer) (defBody st_is_integer) (defScope st_is_integer) [] [] (GA.g 2) fd) : FnOk P w K mg base (L2.CX P w) 1 (GA.g 2) fd ["value"] (spV f_is_integer) :=
  have sc := sc_is_integer
  fn_D F sc rfl rfl fun cdv A outer s H E hr =>
    (svs_one (sv_ret (pv_and (pv_callB (pickN_ok (allC (k_isi (kit_ok t)) all0)) rfl t.f_isinstance (by decide +kernel) (av_cons (pv_var 0) (av_cons (pv_ty (T := .int) rfl t.f_int (by decide +kernel)) av_nil))) (pv_one (pv_not (pv_callB (pickN_ok (allC (k_isi (kit_ok t)) all0)) rfl t.f_isinstance (by decide +kernel) (av_cons (pv_var 0) (av_cons (pv_ty (T := .bool) rfl t.f_bool (by decide +kernel)) av_nil))))))))
theorem ok_is_integer (t : T K mg) : FnV P w K mg base 1 (GA.g 2) f_is_integer := let ⟨_, F⟩ := t.d_is_integer; fn_R (fo_is_integer t F) (F.bindsN fun _ _ _ _ _ _ us hl => match us, hl with | [_], _ => rfl)

def cf_parts : Nat → Bool := fun C => Nat.beq C 4
theorem cf_parts_ok {K : PySem.W.Frag} {mg : Str → Option Value} (t : T K mg) : ∀ C, cf_parts C = true → Cls K (GA.g C) ∧ NoAttr K (GA.g C) "parts" := by
  intro C h
  have h : (Nat.beq C 4) = true := h
  (try simp only [Bool.or_eq_true] at h)
  rcases h with h
  · have e := Nat.eq_of_beq_eq_true h; subst e; exact ⟨t.cls_Unit, t.no_Unit_parts⟩

/-! #### Unit.__init__ -/
abbrev nn_Unit___init__ : List Str := ["self", "powers", "name", "power"]
theorem sc_Unit___init__ : FnScope ["self", "powers", "name", "power"] ["self", "powers"] (defScope st_Unit___init__) := ⟨rfl, rfl, rfl, by decide +kernel, rfl, by decide +kernel, by decide +kernel⟩
def m_Unit___init__ : Ms := (mseq (mif (tnot (tv (vcall (pickN [kIsi kit]) (esc (var 1) (esc (cst (.ty .dict)) esn))))) mnever mnx) (mseq (mif (tnot (tv (vcall (pickN [kAll]) (esc (lockE (var 1) (vlc (idict .items (var 1)) (.tup (.cons (.nm 2) (.cons (.nm 3) .nil))) tyes (vand (vcall f_is_name (esc (var 2) esn)) (vcall f_is_integer (esc (var 3) esn))) [2, 3])) esn)))) mnever mnx) (mfld cf_parts s_4 (var 0) (vdc (iseq (vcall (pickN [kSorted]) (esc (vcall (pickN [kList]) (esc (var 1) esn)) esn))) (.nm 2) (tv (bin (pick2 [kNe, kNeI, kNeD]) (bin (pick2 [kIxL, kIxT, kIxD]) (var 1) (var 2)) (cst (.int 0)))) (var 2) (bin (pick2 [kIxL, kIxT, kIxD]) (var 1) (var 2)) [2]))))
def f_Unit___init__ : Fx := fnx 2 4 m_Unit___init__

theorem kp_Unit___init__ (t : T K mg) : PySem.W.keepIn K (.ref (GA.g 5)) = true := let ⟨_, F⟩ := t.d_Unit___init__; F.kp
theorem fo_Unit___init__ (t : T K mg) {fd : FuncData} (F : FunD K "__init__" "Unit.__init__" (defArgs st_Unit___init__) (defBody st_Unit___init__) (defScope st_Unit___init__) [] [] (GA.g 5) fd) : FnOk P w K mg base (L2.CX P w) 2 (GA.g 5) fd ["self", "powers"] (spV f_Unit___init__) :=
  have sc := sc_Unit___init__
  fn_D F sc rfl rfl fun cdv A outer s H E hr =>
    (svs_cons (sv_if (tt_not (tt_val (pv_callB (pickN_ok (allC (k_isi (kit_ok t)) all0)) rfl t.f_isinstance (by decide +kernel) (av_cons (pv_var 1) (av_cons (pv_ty (T := .dict) rfl t.f_dict (by decide +kernel)) av_nil))))) (svs_one sv_never) svs_nil)
    (svs_cons (sv_if (tt_not (tt_val (pv_callB (pickN_ok (allC (k_all rfl) all0)) rfl t.f_all (by decide +kernel) (av_cons (pv_lock (var 1) (pv_lc (own := [("name", 2), ("power", 3)]) (t := (.tup (.cons (.nm 2) (.cons (.nm 3) .nil)))) rfl sc.nd (iv_items (pv_var 1)) (blkOk_by (own := [("name", 2), ("power", 3)]) (N := nn_Unit___init__) (sc := defScope st_Unit___init__) (by decide +kernel)) (by decide) (fun _ _ _ _ _ => (gt_tup rfl (gts_cons (gt_name (i := 2) sc.nd rfl (by first | exact Or.inl rfl | exact Or.inr rfl)) (gts_cons (gt_name (i := 3) sc.nd rfl (by first | exact Or.inl rfl | exact Or.inr rfl)) gts_nil)))) (fun _ _ _ _ _ => ct_nil) (fun _ _ _ _ _ => (pv_and (pv_call (ok_is_name t) takes0 (hr.mono (j := 1) (by decide)) rfl t.g_is_name (kp_is_name t) (av_cons (pv_var 2) av_nil)) (pv_one (pv_call (ok_is_integer t) takes0 (hr.mono (j := 1) (by decide)) rfl t.g_is_integer (kp_is_integer t) (av_cons (pv_var 3) av_nil))))))) av_nil)))) (svs_one sv_never) svs_nil)
    (svs_one (sv_fld e_4 (cf_parts_ok t) (pv_var 0) (pv_dc (own := [("name", 2)]) (t := (.nm 2)) rfl sc.nd (iv_seq (pv_callB (pickN_ok (allC (k_sorted rfl) all0)) rfl t.f_sorted (by decide +kernel) (av_cons (pv_callTy (pickN_ok (allC (k_list rfl) all0)) rfl t.f_list (by decide +kernel) (av_cons (pv_var 1) av_nil)) av_nil))) (blkOk_by (own := [("name", 2)]) (N := nn_Unit___init__) (sc := defScope st_Unit___init__) (by decide +kernel)) (by decide) (fun _ _ _ _ _ => (gt_name (i := 2) sc.nd rfl (by first | exact Or.inl rfl | exact Or.inr rfl))) (fun _ _ _ _ _ => (ct_one (tt_cmp (pick2_ok (allC k_ne (allC (k_neI hr.units0) (allC (k_neD hr.units) all0)))) (pv_ix (pick2_ok (allC (k_ixL (fun _ _ => rfl)) (allC (k_ixT (fun _ _ => rfl)) (allC (k_ixD (hu_of hr) (fun _ _ => rfl)) all0)))) (pv_var 1) (pv_var 2)) pv_int (nomark _)))) (fun _ _ _ _ _ => (pv_var 2)) (fun _ _ _ _ _ => (pv_ix (pick2_ok (allC (k_ixL (fun _ _ => rfl)) (allC (k_ixT (fun _ _ => rfl)) (allC (k_ixD (hu_of hr) (fun _ _ => rfl)) all0)))) (pv_var 1) (pv_var 2))))))))
theorem ok_Unit___init__ (t : T K mg) : FnV P w K mg base 2 (GA.g 5) f_Unit___init__ := let ⟨_, F⟩ := t.d_Unit___init__; fn_R (fo_Unit___init__ t F) (F.bindsN fun _ _ _ _ _ _ us hl => match us, hl with | [_, _], _ => rfl)

/-! #### Unit.__mul__ -/
abbrev nn_Unit___mul__ : List Str := ["self", "other"]
theorem sc_Unit___mul__ : FnScope ["self", "other"] ["self", "other"] (defScope st_Unit___mul__) := ⟨rfl, rfl, rfl, by decide +kernel, rfl, by decide +kernel, by decide +kernel⟩
def m_Unit___mul__ : Ms := (mret (vcall (mk 4 f_Unit___init__) (esc (vcall f_joined (esc (var 0) (esc (var 1) (esc (cst (.int 1)) esn)))) esn)))
def f_Unit___mul__ : Fx := fnx 2 2 m_Unit___mul__

theorem kp_Unit___mul__ (t : T K mg) : PySem.W.keepIn K (.ref (GA.g 9)) = true := let ⟨_, F⟩ := t.d_Unit___mul__; F.kp
theorem fo_Unit___mul__ (t : T K mg) {fd : FuncData} (F : FunD K "__mul__" "Unit.__mul__" (defArgs st_Unit___mul__) (defBody st_Unit___mul__) (defScope st_Unit___mul__) [] [] (GA.g 9) fd) : FnOk P w K mg base (L2.CX P w) 4 (GA.g 9) fd ["self", "other"] (spV f_Unit___mul__) :=
  have sc := sc_Unit___mul__
  fn_D F sc rfl rfl fun cdv A outer s H E hr =>
    (svs_one (sv_ret (pv_make t.mk_Unit (ok_Unit___init__ t) (takes_of rfl rfl rfl rfl) (hr.mono (j := 3) (by decide)) rfl t.g_Unit (av_cons (pv_call (ok_joined t) (takes_of rfl rfl rfl rfl) (hr.mono (j := 1) (by decide)) rfl t.g_joined (kp_joined t) (av_cons (pv_var 0) (av_cons (pv_var 1) (av_cons pv_int av_nil)))) av_nil))))
theorem ok_Unit___mul__ (t : T K mg) : FnV P w K mg base 4 (GA.g 9) f_Unit___mul__ := let ⟨_, F⟩ := t.d_Unit___mul__; fn_R (fo_Unit___mul__ t F) (F.bindsN fun _ _ _ _ _ _ us hl => match us, hl with | [_, _], _ => rfl)

def ow__mul__ : Nat → Nat → Option Fx := fun C D => (bif Nat.beq C 4 && Nat.beq D 4 then some f_Unit___mul__ else none)
theorem ow__mul___ok {X : Cx} (t : T X.K X.mg) (hr : Room 4 X.A) : ∀ C D a, ow__mul__ C D = some a → C = D ∧ OwnX X "__mul__" C a ∧ PySem.W.selfFirst X.K (GA.g C) = true := by
  intro C D a h
  rcases tb2 h with ⟨rfl, rfl, rfl⟩ | h
  · exact ⟨rfl, ⟨⟨_, _, t.own_Unit___mul__, ok_Unit___mul__ t, hr.mono (by decide)⟩⟩, t.sf_Unit⟩
  cases h

/-! #### _law_plain -/
abbrev nn__law_plain : List Str := ["_law_powers_here", "_law_name"]
theorem sc__law_plain : FnScope ["_law_powers_here", "_law_name"] ["_law_powers_here"] (defScope st__law_plain) := ⟨rfl, rfl, rfl, by decide +kernel, rfl, by decide +kernel, by decide +kernel⟩
def m__law_plain : Ms := (mret (vcall (pickN [kDict]) (esc (vlc (iseq (vcall (pickN [kSorted]) (esc (var 0) esn))) (.nm 1) (tv (bin (pick2 [kNe, kNeI, kNeD]) (bin (pick2 [kIxL, kIxT, kIxD]) (var 0) (var 1)) (cst (.int 0)))) (vtup (esc (var 1) (esc (bin (pick2 [kIxL, kIxT, kIxD]) (var 0) (var 1)) esn))) [1]) esn)))
def f__law_plain : Fx := fnx 1 2 m__law_plain

theorem kp__law_plain (t : T K mg) : PySem.W.keepIn K (.ref (GA.g 23)) = true := let ⟨_, F⟩ := t.d__law_plain; F.kp
theorem fo__law_plain (t : T K mg) {fd : FuncData} (F : FunD K "_law_plain" "_law_plain" (defArgs st__law_plain) (defBody st__law_plain) (defScope st__law_plain) [] [] (GA.g 23) fd) : FnOk P w K mg base (L2.CX P w) 1 (GA.g 23) fd ["_law_powers_here"] (spV f__law_plain) :=
  have sc := sc__law_plain
  fn_D F sc rfl rfl fun cdv A outer s H E hr =>
    (svs_one (sv_ret (pv_callTy (pickN_ok (allC (k_dict rfl) all0)) rfl t.f_dict (by decide +kernel) (av_cons (pv_lc (own := [("_law_name", 1)]) (t := (.nm 1)) rfl sc.nd (iv_seq (pv_callB (pickN_ok (allC (k_sorted rfl) all0)) rfl t.f_sorted (by decide +kernel) (av_cons (pv_var 0) av_nil))) (blkOk_by (own := [("_law_name", 1)]) (N := nn__law_plain) (sc := defScope st__law_plain) (by decide +kernel)) (by decide) (fun _ _ _ _ _ => (gt_name (i := 1) sc.nd rfl (by first | exact Or.inl rfl | exact Or.inr rfl))) (fun _ _ _ _ _ => (ct_one (tt_cmp (pick2_ok (allC k_ne (allC (k_neI hr.units0) (allC (k_neD hr.units) all0)))) (pv_ix (pick2_ok (allC (k_ixL (fun _ _ => rfl)) (allC (k_ixT (fun _ _ => rfl)) (allC (k_ixD (hu_of hr) (fun _ _ => rfl)) all0)))) (pv_var 0) (pv_var 1)) pv_int (nomark _)))) (fun _ _ _ _ _ => (pv_tup (av_cons (pv_var 1) (av_cons (pv_ix (pick2_ok (allC (k_ixL (fun _ _ => rfl)) (allC (k_ixT (fun _ _ => rfl)) (allC (k_ixD (hu_of hr) (fun _ _ => rfl)) all0)))) (pv_var 0) (pv_var 1)) av_nil))))) av_nil))))
theorem ok__law_plain (t : T K mg) : FnV P w K mg base 1 (GA.g 23) f__law_plain := let ⟨_, F⟩ := t.d__law_plain; fn_R (fo__law_plain t F) (F.bindsN fun _ _ _ _ _ _ us hl => match us, hl with | [_], _ => rfl)

/-! #### Unit.powers -/
abbrev nn_Unit_powers : List Str := ["self", "name", "power"]
theorem sc_Unit_powers : FnScope ["self", "name", "power"] ["self"] (defScope st_Unit_powers) := ⟨rfl, rfl, rfl, by decide +kernel, rfl, by decide +kernel, by decide +kernel⟩
def m_Unit_powers : Ms := (mret (lockE (un (attrV at_parts s_4) (var 0)) (vdc (idict .items (un (attrV at_parts s_4) (var 0))) (.tup (.cons (.nm 1) (.cons (.nm 2) .nil))) tyes (var 1) (var 2) [1, 2])))
def f_Unit_powers : Fx := fnx 1 3 m_Unit_powers

theorem kp_Unit_powers (t : T K mg) : PySem.W.keepIn K (.ref (GA.g 7)) = true := let ⟨_, F⟩ := t.d_Unit_powers; F.kp
theorem fo_Unit_powers (t : T K mg) {fd : FuncData} (F : FunD K "powers" "Unit.powers" (defArgs st_Unit_powers) (defBody st_Unit_powers) (defScope st_Unit_powers) [] [] (GA.g 7) fd) : FnOk P w K mg base (L2.CX P w) 1 (GA.g 7) fd ["self"] (spV f_Unit_powers) :=
  have sc := sc_Unit_powers
  fn_D F sc rfl rfl fun cdv A outer s H E hr =>
    (svs_one (sv_ret (pv_lock (un (attrV at_parts s_4) (var 0)) (pv_dc (own := [("name", 1), ("power", 2)]) (t := (.tup (.cons (.nm 1) (.cons (.nm 2) .nil)))) rfl sc.nd (iv_items (pv_attr e_4 (at_parts_ok t (hr.mono (j := 0) (by decide))) (pv_var 0))) (blkOk_by (own := [("name", 1), ("power", 2)]) (N := nn_Unit_powers) (sc := defScope st_Unit_powers) (by decide +kernel)) (by decide) (fun _ _ _ _ _ => (gt_tup rfl (gts_cons (gt_name (i := 1) sc.nd rfl (by first | exact Or.inl rfl | exact Or.inr rfl)) (gts_cons (gt_name (i := 2) sc.nd rfl (by first | exact Or.inl rfl | exact Or.inr rfl)) gts_nil)))) (fun _ _ _ _ _ => ct_nil) (fun _ _ _ _ _ => (pv_var 1)) (fun _ _ _ _ _ => (pv_var 2))))))
theorem ok_Unit_powers (t : T K mg) : FnV P w K mg base 1 (GA.g 7) f_Unit_powers := let ⟨_, F⟩ := t.d_Unit_powers; fn_R (fo_Unit_powers t F) (F.bindsN fun _ _ _ _ _ _ us hl => match us, hl with | [_], _ => rfl)

def at_powers : Nat → Option Ak := fun C => (bif Nat.beq C 4 then some (.prop f_Unit_powers) else none)
theorem at_powers_ok {X : Cx} (t : T X.K X.mg) (hr : Room 2 X.A) : ∀ C a, at_powers C = some a → AkOK X "powers" C a := by
  intro C a h
  rcases tb1 h with ⟨rfl, rfl⟩ | h
  · exact .prop t.cls_Unit t.prop_Unit_powers (ok_Unit_powers t) (hr.mono (by decide))
  cases h

/-! #### Unit.__eq__ -/
abbrev nn_Unit___eq__ : List Str := ["self", "other"]
theorem sc_Unit___eq__ : FnScope ["self", "other"] ["self", "other"] (defScope st_Unit___eq__) := ⟨rfl, rfl, rfl, by decide +kernel, rfl, by decide +kernel, by decide +kernel⟩
def m_Unit___eq__ : Ms := (mret (vand (vcall (pickN [kIsi kit]) (esc (var 1) (esc (cst (.fn 4)) esn))) (bin (pick2 [kEq, kEqI, kEqD]) (un (attrV at_parts s_4) (var 0)) (un (attrV at_parts s_4) (var 1)))))
def f_Unit___eq__ : Fx := fnx 2 2 m_Unit___eq__

theorem kp_Unit___eq__ (t : T K mg) : PySem.W.keepIn K (.ref (GA.g 8)) = true := let ⟨_, F⟩ := t.d_Unit___eq__; F.kp
theorem fo_Unit___eq__ (t : T K mg) {fd : FuncData} (F : FunD K "__eq__" "Unit.__eq__" (defArgs st_Unit___eq__) (defBody st_Unit___eq__) (defScope st_Unit___eq__) [] [] (GA.g 8) fd) : FnOk P w K mg base (L2.CX P w) 1 (GA.g 8) fd ["self", "other"] (spV f_Unit___eq__) :=
  have sc := sc_Unit___eq__
  fn_D F sc rfl rfl fun cdv A outer s H E hr =>
    (svs_one (sv_ret (pv_and (pv_callB (pickN_ok (allC (k_isi (kit_ok t)) all0)) rfl t.f_isinstance (by decide +kernel) (av_cons (pv_var 1) (av_cons (pv_gref rfl t.g_Unit) av_nil))) (pv_one (pv_cmp (pick2_ok (allC k_eq (allC (k_eqI hr.units0) (allC (k_eqD hr.units) all0)))) (pv_attr e_4 (at_parts_ok t (hr.mono (j := 0) (by decide))) (pv_var 0)) (pv_attr e_4 (at_parts_ok t (hr.mono (j := 0) (by decide))) (pv_var 1)) (nomark _))))))
theorem ok_Unit___eq__ (t : T K mg) : FnV P w K mg base 1 (GA.g 8) f_Unit___eq__ := let ⟨_, F⟩ := t.d_Unit___eq__; fn_R (fo_Unit___eq__ t F) (F.bindsN fun _ _ _ _ _ _ us hl => match us, hl with | [_, _], _ => rfl)

def ow__eq__ : Nat → Nat → Option Fx := fun C D => (bif Nat.beq C 4 && Nat.beq D 4 then some f_Unit___eq__ else none)
theorem ow__eq___ok {X : Cx} (t : T X.K X.mg) (hr : Room 1 X.A) : ∀ C D a, ow__eq__ C D = some a → OwnX X "__eq__" C a ∧ PySem.W.notFirst X.K (GA.g C) (.ref (GA.g D)) = true := by
  intro C D a h
  rcases tb2 h with ⟨rfl, rfl, rfl⟩ | h
  · exact ⟨⟨⟨_, _, t.own_Unit___eq__, ok_Unit___eq__ t, hr.mono (by decide)⟩⟩, t.nf_Unit_Unit⟩
  cases h

/-! #### Unit.__bool__ -/
abbrev nn_Unit___bool__ : List Str := ["self"]
theorem sc_Unit___bool__ : FnScope ["self"] ["self"] (defScope st_Unit___bool__) := ⟨rfl, rfl, rfl, by decide +kernel, rfl, by decide +kernel, by decide +kernel⟩
def m_Unit___bool__ : Ms := (mret (bin (pick2 [kGt]) (vcall (pickN [kLen]) (esc (un (attrV at_parts s_4) (var 0)) esn)) (cst (.int 0))))
def f_Unit___bool__ : Fx := fnx 1 1 m_Unit___bool__

theorem kp_Unit___bool__ (t : T K mg) : PySem.W.keepIn K (.ref (GA.g 15)) = true := let ⟨_, F⟩ := t.d_Unit___bool__; F.kp
theorem fo_Unit___bool__ (t : T K mg) {fd : FuncData} (F : FunD K "__bool__" "Unit.__bool__" (defArgs st_Unit___bool__) (defBody st_Unit___bool__) (defScope st_Unit___bool__) [] [] (GA.g 15) fd) : FnOk P w K mg base (L2.CX P w) 1 (GA.g 15) fd ["self"] (spV f_Unit___bool__) :=
  have sc := sc_Unit___bool__
  fn_D F sc rfl rfl fun cdv A outer s H E hr =>
    (svs_one (sv_ret (pv_cmp (pick2_ok (allC k_gt all0)) (pv_callB (pickN_ok (allC k_len all0)) rfl t.f_len (by decide +kernel) (av_cons (pv_attr e_4 (at_parts_ok t (hr.mono (j := 0) (by decide))) (pv_var 0)) av_nil)) pv_int (nomark _))))
theorem ok_Unit___bool__ (t : T K mg) : FnV P w K mg base 1 (GA.g 15) f_Unit___bool__ := let ⟨_, F⟩ := t.d_Unit___bool__; fn_R (fo_Unit___bool__ t F) (F.bindsN fun _ _ _ _ _ _ us hl => match us, hl with | [_], _ => rfl)

def ow__bool__ : Nat → Option Fx := fun C => (bif Nat.beq C 4 then some f_Unit___bool__ else none)
theorem ow__bool___ok {X : Cx} (t : T X.K X.mg) (hr : Room 3 X.A) : ∀ C a, ow__bool__ C = some a → BoolX X C a := by
  intro C a h
  rcases tb1 h with ⟨rfl, rfl⟩ | h
  · exact ⟨⟨_, _, t.own_Unit___bool__, ok_Unit___bool__ t, hr.mono (by decide)⟩⟩
  cases h

/-! #### Unit.__contains__ -/
abbrev nn_Unit___contains__ : List Str := ["self", "x"]
theorem sc_Unit___contains__ : FnScope ["self", "x"] ["self", "x"] (defScope st_Unit___contains__) := ⟨rfl, rfl, rfl, by decide +kernel, rfl, by decide +kernel, by decide +kernel⟩
def m_Unit___contains__ : Ms := (mret (bin (pick2 [kIn]) (var 1) (un (attrV at_parts s_4) (var 0))))
def f_Unit___contains__ : Fx := fnx 2 2 m_Unit___contains__

theorem kp_Unit___contains__ (t : T K mg) : PySem.W.keepIn K (.ref (GA.g 12)) = true := let ⟨_, F⟩ := t.d_Unit___contains__; F.kp
theorem fo_Unit___contains__ (t : T K mg) {fd : FuncData} (F : FunD K "__contains__" "Unit.__contains__" (defArgs st_Unit___contains__) (defBody st_Unit___contains__) (defScope st_Unit___contains__) [] [] (GA.g 12) fd) : FnOk P w K mg base (L2.CX P w) 1 (GA.g 12) fd ["self", "x"] (spV f_Unit___contains__) :=
  have sc := sc_Unit___contains__
  fn_D F sc rfl rfl fun cdv A outer s H E hr =>
    (svs_one (sv_ret (pv_cmp (pick2_ok (allC (k_in (hu_of hr)) all0)) (pv_var 1) (pv_attr e_4 (at_parts_ok t (hr.mono (j := 0) (by decide))) (pv_var 0)) (by rfl))))
theorem ok_Unit___contains__ (t : T K mg) : FnV P w K mg base 1 (GA.g 12) f_Unit___contains__ := let ⟨_, F⟩ := t.d_Unit___contains__; fn_R (fo_Unit___contains__ t F) (F.bindsN fun _ _ _ _ _ _ us hl => match us, hl with | [_, _], _ => rfl)

def ow__contains__ : Nat → Option Fx := fun C => (bif Nat.beq C 4 then some f_Unit___contains__ else none)
theorem ow__contains___ok {X : Cx} (t : T X.K X.mg) (hr : Room 1 X.A) : ∀ C a, ow__contains__ C = some a → OwnX X "__contains__" C a := by
  intro C a h
  rcases tb1 h with ⟨rfl, rfl⟩ | h
  · exact ⟨⟨_, _, t.own_Unit___contains__, ok_Unit___contains__ t, hr.mono (by decide)⟩⟩
  cases h

/-! #### Unit.__getitem__ -/
abbrev nn_Unit___getitem__ : List Str := ["self", "at"]
theorem sc_Unit___getitem__ : FnScope ["self", "at"] ["self", "at"] (defScope st_Unit___getitem__) := ⟨rfl, rfl, rfl, by decide +kernel, rfl, by decide +kernel, by decide +kernel⟩
def m_Unit___getitem__ : Ms := (mret (vif (tv (bin (pick2 [kIn]) (var 1) (un (attrV at_parts s_4) (var 0)))) (bin (pick2 [kIxL, kIxT, kIxD]) (un (attrV at_parts s_4) (var 0)) (var 1)) (cst (.int 0))))
def f_Unit___getitem__ : Fx := fnx 2 2 m_Unit___getitem__

theorem kp_Unit___getitem__ (t : T K mg) : PySem.W.keepIn K (.ref (GA.g 13)) = true := let ⟨_, F⟩ := t.d_Unit___getitem__; F.kp
theorem fo_Unit___getitem__ (t : T K mg) {fd : FuncData} (F : FunD K "__getitem__" "Unit.__getitem__" (defArgs st_Unit___getitem__) (defBody st_Unit___getitem__) (defScope st_Unit___getitem__) [] [] (GA.g 13) fd) : FnOk P w K mg base (L2.CX P w) 1 (GA.g 13) fd ["self", "at"] (spV f_Unit___getitem__) :=
  have sc := sc_Unit___getitem__
  fn_D F sc rfl rfl fun cdv A outer s H E hr =>
    (svs_one (sv_ret (pv_if (tt_cmp (pick2_ok (allC (k_in (hu_of hr)) all0)) (pv_var 1) (pv_attr e_4 (at_parts_ok t (hr.mono (j := 0) (by decide))) (pv_var 0)) (by rfl)) (pv_ix (pick2_ok (allC (k_ixL (fun _ _ => rfl)) (allC (k_ixT (fun _ _ => rfl)) (allC (k_ixD (hu_of hr) (fun _ _ => rfl)) all0)))) (pv_attr e_4 (at_parts_ok t (hr.mono (j := 0) (by decide))) (pv_var 0)) (pv_var 1)) pv_int)))
theorem ok_Unit___getitem__ (t : T K mg) : FnV P w K mg base 1 (GA.g 13) f_Unit___getitem__ := let ⟨_, F⟩ := t.d_Unit___getitem__; fn_R (fo_Unit___getitem__ t F) (F.bindsN fun _ _ _ _ _ _ us hl => match us, hl with | [_, _], _ => rfl)

def ow__getitem__ : Nat → Option Fx := fun C => (bif Nat.beq C 4 then some f_Unit___getitem__ else none)
theorem ow__getitem___ok {X : Cx} (t : T X.K X.mg) (hr : Room 2 X.A) : ∀ C a, ow__getitem__ C = some a → GetX X C a := by
  intro C a h
  rcases tb1 h with ⟨rfl, rfl⟩ | h
  · exact ⟨⟨_, _, t.own_Unit___getitem__, t.fi_Unit___getitem__, ok_Unit___getitem__ t, hr.mono (by decide)⟩⟩
  cases h

/-! #### _law_stands -/
abbrev nn__law_stands : List Str := ["_law_unit", "_law_powers_here", "_law_due", "_law_name"]
theorem sc__law_stands : FnScope ["_law_unit", "_law_powers_here", "_law_due", "_law_name"] ["_law_unit", "_law_powers_here"] (defScope st__law_stands) := ⟨rfl, rfl, rfl, by decide +kernel, rfl, by decide +kernel, by decide +kernel⟩
def m__law_stands : Ms := (mseq (mset 2 (vcall f__law_plain (esc (var 1) esn))) (mseq (mif (tv (bin (pick2 [kNe, kNeI, kNeD]) (un (attrV at_powers s_6) (var 0)) (var 2))) (mret (cst (.bl false))) mnx) (mseq (mif (tv (bin (pick2 [kNe, kNeI, kNeD]) (vcall (pickN [kList]) (esc (un (attrV at_powers s_6) (var 0)) esn)) (vcall (pickN [kList]) (esc (var 2) esn)))) (mret (cst (.bl false))) mnx) (mseq (mif (tnot (tv (bin (pick2 [kEq, (own2 ow__eq__), kEqI, kEqD]) (var 0) (vcall (mk 4 f_Unit___init__) (esc (var 1) esn))))) (mret (cst (.bl false))) mnx) (mseq (mif (tv (bin (pick2 [kNe, kNeI, kNeD]) (vcall (pickN [(ownBool ow__bool__), kBool]) (esc (var 0) esn)) (bin (pick2 [kNe, kNeI, kNeD]) (var 2) vdict0))) (mret (cst (.bl false))) mnx) (mseq (mfor (iseq (vlst (esc (cst (.str s_0)) (esc (cst (.str s_1)) (esc (cst (.str s_2)) (esc (cst (.str s_3)) (esc (cst (.str s_7)) esn))))))) (.nm 3) (mif (tor (tv (bin (pick2 [kNe, kNeI, kNeD]) (bin (pick2 [(ownIn false ow__contains__), kIn]) (var 3) (var 0)) (bin (pick2 [(ownIn false ow__contains__), kIn]) (var 3) (var 2)))) (tv (bin (pick2 [kNe, kNeI, kNeD]) (bin (pick2 [(ownIx ow__getitem__), kIxL, kIxT, kIxD]) (var 0) (var 3)) (vget2 (var 2) (var 3) (cst (.int 0)))))) (mret (cst (.bl false))) mnx)) (mret (cst (.bl true)))))))))
def f__law_stands : Fx := fnx 2 4 m__law_stands

theorem kp__law_stands (t : T K mg) : PySem.W.keepIn K (.ref (GA.g 24)) = true := let ⟨_, F⟩ := t.d__law_stands; F.kp
theorem fo__law_stands (t : T K mg) {fd : FuncData} (F : FunD K "_law_stands" "_law_stands" (defArgs st__law_stands) (defBody st__law_stands) (defScope st__law_stands) [] [] (GA.g 24) fd) : FnOk P w K mg base (L2.CX P w) 4 (GA.g 24) fd ["_law_unit", "_law_powers_here"] (spV f__law_stands) :=
  have sc := sc__law_stands
  fn_D F sc rfl rfl fun cdv A outer s H E hr =>
    (svs_cons (sv_set (i := 2) sc.nd rfl (by first | exact Or.inl rfl | exact Or.inr rfl) (pv_call (ok__law_plain t) (takes_of rfl rfl rfl rfl) (hr.mono (j := 1) (by decide)) rfl t.g__law_plain (kp__law_plain t) (av_cons (pv_var 1) av_nil)))
    (svs_cons (sv_if (tt_cmp (pick2_ok (allC k_ne (allC (k_neI hr.units0) (allC (k_neD hr.units) all0)))) (pv_attr e_6 (at_powers_ok t (hr.mono (j := 2) (by decide))) (pv_var 0)) (pv_var 2) (nomark _)) (svs_one (sv_ret pv_bl)) svs_nil)
    (svs_cons (sv_if (tt_cmp (pick2_ok (allC k_ne (allC (k_neI hr.units0) (allC (k_neD hr.units) all0)))) (pv_callTy (pickN_ok (allC (k_list rfl) all0)) rfl t.f_list (by decide +kernel) (av_cons (pv_attr e_6 (at_powers_ok t (hr.mono (j := 2) (by decide))) (pv_var 0)) av_nil)) (pv_callTy (pickN_ok (allC (k_list rfl) all0)) rfl t.f_list (by decide +kernel) (av_cons (pv_var 2) av_nil)) (nomark _)) (svs_one (sv_ret pv_bl)) svs_nil)
    (svs_cons (sv_if (tt_not (tt_cmp (pick2_ok (allC k_eq (allC (k_ownC (fun _ _ => rfl) (ow__eq___ok t (hr.mono (j := 1) (by decide))) (takes_of rfl rfl rfl rfl)) (allC (k_eqI hr.units0) (allC (k_eqD hr.units) all0))))) (pv_var 0) (pv_make t.mk_Unit (ok_Unit___init__ t) (takes_of rfl rfl rfl rfl) (hr.mono (j := 3) (by decide)) rfl t.g_Unit (av_cons (pv_var 1) av_nil)) (nomark _))) (svs_one (sv_ret pv_bl)) svs_nil)
    (svs_cons (sv_if (tt_cmp (pick2_ok (allC k_ne (allC (k_neI hr.units0) (allC (k_neD hr.units) all0)))) (pv_callTy (pickN_ok (allC (k_ownBool (ow__bool___ok t (hr.mono (j := 3) (by decide))) (takes_of rfl rfl rfl rfl)) (allC k_bool all0))) rfl t.f_bool (by decide +kernel) (av_cons (pv_var 0) av_nil)) (pv_cmp (pick2_ok (allC k_ne (allC (k_neI hr.units0) (allC (k_neD hr.units) all0)))) (pv_var 2) pv_dict0 (nomark _)) (nomark _)) (svs_one (sv_ret pv_bl)) svs_nil)
    (svs_cons (sv_for (t := (.nm 3)) (passes_of rfl) rfl (iv_seq (pv_lst (av_cons (pv_strE e_0) (av_cons (pv_strE e_1) (av_cons (pv_strE e_2) (av_cons (pv_strE e_3) (av_cons (pv_strE e_7) av_nil))))))) (gt_name (i := 3) sc.nd rfl (by first | exact Or.inl rfl | exact Or.inr rfl)) (svs_one (sv_if (tt_w (tw_or (tt_cmp (pick2_ok (allC k_ne (allC (k_neI hr.units0) (allC (k_neD hr.units) all0)))) (pv_cmp (pick2_ok (allC (k_ownIn (ow__contains___ok t (hr.mono (j := 1) (by decide))) (takes_of rfl rfl rfl rfl)) (allC (k_in (hu_of hr)) all0))) (pv_var 3) (pv_var 0) (by rfl)) (pv_cmp (pick2_ok (allC (k_ownIn (ow__contains___ok t (hr.mono (j := 1) (by decide))) (takes_of rfl rfl rfl rfl)) (allC (k_in (hu_of hr)) all0))) (pv_var 3) (pv_var 2) (by rfl)) (nomark _)) (tw_or1 (tt_cmp (pick2_ok (allC k_ne (allC (k_neI hr.units0) (allC (k_neD hr.units) all0)))) (pv_ix (pick2_ok (allC (k_ownIx (ow__getitem___ok t (hr.mono (j := 2) (by decide))) (takes_of rfl rfl rfl rfl) (by intro _ _; with_unfolding_all rfl)) (allC (k_ixL (fun _ _ => rfl)) (allC (k_ixT (fun _ _ => rfl)) (allC (k_ixD (hu_of hr) (fun _ _ => rfl)) all0))))) (pv_var 0) (pv_var 3)) (pv_get2 (hu_of hr) (pv_var 2) (pv_var 3) pv_int ⟨rfl, rfl, rfl, rfl⟩) (nomark _))))) (svs_one (sv_ret pv_bl)) svs_nil)))
    (svs_one (sv_ret pv_bl))))))))
theorem ok__law_stands (t : T K mg) : FnV P w K mg base 4 (GA.g 24) f__law_stands := let ⟨_, F⟩ := t.d__law_stands; fn_R (fo__law_stands t F) (F.bindsN fun _ _ _ _ _ _ us hl => match us, hl with | [_, _], _ => rfl)

/-! #### Unit.__floordiv__ -/
abbrev nn_Unit___floordiv__ : List Str := ["self", "other"]
theorem sc_Unit___floordiv__ : FnScope ["self", "other"] ["self", "other"] (defScope st_Unit___floordiv__) := ⟨rfl, rfl, rfl, by decide +kernel, rfl, by decide +kernel, by decide +kernel⟩
def m_Unit___floordiv__ : Ms := (mret (vcall (mk 4 f_Unit___init__) (esc (vcall f_joined (esc (var 0) (esc (var 1) (esc (un (pick1 [kNeg]) (cst (.int 1))) esn)))) esn)))
def f_Unit___floordiv__ : Fx := fnx 2 2 m_Unit___floordiv__

theorem kp_Unit___floordiv__ (t : T K mg) : PySem.W.keepIn K (.ref (GA.g 10)) = true := let ⟨_, F⟩ := t.d_Unit___floordiv__; F.kp
theorem fo_Unit___floordiv__ (t : T K mg) {fd : FuncData} (F : FunD K "__floordiv__" "Unit.__floordiv__" (defArgs st_Unit___floordiv__) (defBody st_Unit___floordiv__) (defScope st_Unit___floordiv__) [] [] (GA.g 10) fd) : FnOk P w K mg base (L2.CX P w) 4 (GA.g 10) fd ["self", "other"] (spV f_Unit___floordiv__) :=
  have sc := sc_Unit___floordiv__
  fn_D F sc rfl rfl fun cdv A outer s H E hr =>
    (svs_one (sv_ret (pv_make t.mk_Unit (ok_Unit___init__ t) (takes_of rfl rfl rfl rfl) (hr.mono (j := 3) (by decide)) rfl t.g_Unit (av_cons (pv_call (ok_joined t) (takes_of rfl rfl rfl rfl) (hr.mono (j := 1) (by decide)) rfl t.g_joined (kp_joined t) (av_cons (pv_var 0) (av_cons (pv_var 1) (av_cons (pv_un (pick1_ok (allC k_neg all0)) pv_int) av_nil)))) av_nil))))
theorem ok_Unit___floordiv__ (t : T K mg) : FnV P w K mg base 4 (GA.g 10) f_Unit___floordiv__ := let ⟨_, F⟩ := t.d_Unit___floordiv__; fn_R (fo_Unit___floordiv__ t F) (F.bindsN fun _ _ _ _ _ _ us hl => match us, hl with | [_, _], _ => rfl)

def ow__floordiv__ : Nat → Nat → Option Fx := fun C D => (bif Nat.beq C 4 && Nat.beq D 4 then some f_Unit___floordiv__ else none)
theorem ow__floordiv___ok {X : Cx} (t : T X.K X.mg) (hr : Room 4 X.A) : ∀ C D a, ow__floordiv__ C D = some a → C = D ∧ OwnX X "__floordiv__" C a ∧ PySem.W.selfFirst X.K (GA.g C) = true := by
  intro C D a h
  rcases tb2 h with ⟨rfl, rfl, rfl⟩ | h
  · exact ⟨rfl, ⟨⟨_, _, t.own_Unit___floordiv__, ok_Unit___floordiv__ t, hr.mono (by decide)⟩⟩, t.sf_Unit⟩
  cases h

/-! #### powered -/
abbrev nn_powered : List Str := ["unit", "number", "name", "power"]
theorem sc_powered : FnScope ["unit", "number", "name", "power"] ["unit", "number"] (defScope st_powered) := ⟨rfl, rfl, rfl, by decide +kernel, rfl, by decide +kernel, by decide +kernel⟩
def m_powered : Ms := (mseq (mif (tnot (tv (vcall f_is_integer (esc (var 1) esn)))) mnever mnx) (mret (vcall (mk 4 f_Unit___init__) (esc (lockE (un (attrV at_parts s_4) (var 0)) (vdc (idict .items (un (attrV at_parts s_4) (var 0))) (.tup (.cons (.nm 2) (.cons (.nm 3) .nil))) tyes (var 2) (bin (pick2 [kMul, kMulW]) (var 3) (var 1)) [2, 3])) esn))))
def f_powered : Fx := fnx 2 4 m_powered

theorem kp_powered (t : T K mg) : PySem.W.keepIn K (.ref (GA.g 17)) = true := let ⟨_, F⟩ := t.d_powered; F.kp
theorem fo_powered (t : T K mg) {fd : FuncData} (F : FunD K "powered" "powered" (defArgs st_powered) (defBody st_powered) (defScope st_powered) [] [] (GA.g 17) fd) : FnOk P w K mg base (L2.CX P w) 4 (GA.g 17) fd ["unit", "number"] (spV f_powered) :=
  have sc := sc_powered
  fn_D F sc rfl rfl fun cdv A outer s H E hr =>
    (svs_cons (sv_if (tt_not (tt_val (pv_call (ok_is_integer t) (takes_of rfl rfl rfl rfl) (hr.mono (j := 1) (by decide)) rfl t.g_is_integer (kp_is_integer t) (av_cons (pv_var 1) av_nil)))) (svs_one sv_never) svs_nil)
    (svs_one (sv_ret (pv_make t.mk_Unit (ok_Unit___init__ t) (takes_of rfl rfl rfl rfl) (hr.mono (j := 3) (by decide)) rfl t.g_Unit (av_cons (pv_lock (un (attrV at_parts s_4) (var 0)) (pv_dc (own := [("name", 2), ("power", 3)]) (t := (.tup (.cons (.nm 2) (.cons (.nm 3) .nil)))) rfl sc.nd (iv_items (pv_attr e_4 (at_parts_ok t (hr.mono (j := 0) (by decide))) (pv_var 0))) (blkOk_by (own := [("name", 2), ("power", 3)]) (N := nn_powered) (sc := defScope st_powered) (by decide +kernel)) (by decide) (fun _ _ _ _ _ => (gt_tup rfl (gts_cons (gt_name (i := 2) sc.nd rfl (by first | exact Or.inl rfl | exact Or.inr rfl)) (gts_cons (gt_name (i := 3) sc.nd rfl (by first | exact Or.inl rfl | exact Or.inr rfl)) gts_nil)))) (fun _ _ _ _ _ => ct_nil) (fun _ _ _ _ _ => (pv_var 2)) (fun _ _ _ _ _ => (pv_op (pick2_ok (allC k_mul (allC k_mulW all0))) (pv_var 3) (pv_var 1))))) av_nil)))))
theorem ok_powered (t : T K mg) : FnV P w K mg base 4 (GA.g 17) f_powered := let ⟨_, F⟩ := t.d_powered; fn_R (fo_powered t F) (F.bindsN fun _ _ _ _ _ _ us hl => match us, hl with | [_, _], _ => rfl)

/-! #### Unit.__pow__ -/
abbrev nn_Unit___pow__ : List Str := ["self", "other"]
theorem sc_Unit___pow__ : FnScope ["self", "other"] ["self", "other"] (defScope st_Unit___pow__) := ⟨rfl, rfl, rfl, by decide +kernel, rfl, by decide +kernel, by decide +kernel⟩
def m_Unit___pow__ : Ms := (mret (vcall f_powered (esc (var 0) (esc (var 1) esn))))
def f_Unit___pow__ : Fx := fnx 2 2 m_Unit___pow__

theorem kp_Unit___pow__ (t : T K mg) : PySem.W.keepIn K (.ref (GA.g 11)) = true := let ⟨_, F⟩ := t.d_Unit___pow__; F.kp
theorem fo_Unit___pow__ (t : T K mg) {fd : FuncData} (F : FunD K "__pow__" "Unit.__pow__" (defArgs st_Unit___pow__) (defBody st_Unit___pow__) (defScope st_Unit___pow__) [] [] (GA.g 11) fd) : FnOk P w K mg base (L2.CX P w) 5 (GA.g 11) fd ["self", "other"] (spV f_Unit___pow__) :=
  have sc := sc_Unit___pow__
  fn_D F sc rfl rfl fun cdv A outer s H E hr =>
    (svs_one (sv_ret (pv_call (ok_powered t) (takes_of rfl rfl rfl rfl) (hr.mono (j := 4) (by decide)) rfl t.g_powered (kp_powered t) (av_cons (pv_var 0) (av_cons (pv_var 1) av_nil)))))
theorem ok_Unit___pow__ (t : T K mg) : FnV P w K mg base 5 (GA.g 11) f_Unit___pow__ := let ⟨_, F⟩ := t.d_Unit___pow__; fn_R (fo_Unit___pow__ t F) (F.bindsN fun _ _ _ _ _ _ us hl => match us, hl with | [_, _], _ => rfl)

def ow__pow__ : Nat → Option Fx := fun C => (bif Nat.beq C 4 then some f_Unit___pow__ else none)
theorem ow__pow___ok {X : Cx} (t : T X.K X.mg) (hr : Room 5 X.A) : ∀ C a, ow__pow__ C = some a → OwnX X (PySem.dunder "pow") C a ∧ PySem.W.selfFirst X.K (GA.g C) = true ∧ PySem.W.subIn X.K (.type "int") (.ref (GA.g C)) = some false ∧ PySem.W.findIn X.K (.ref (GA.g C)) (PySem.dunderR "pow") = some none := by
  intro C a h
  rcases tb1 h with ⟨rfl, rfl⟩ | h
  · exact ⟨⟨⟨_, _, t.own_Unit___pow__, ok_Unit___pow__ t, hr.mono (by decide)⟩⟩, t.sf_Unit, t.si_Unit, t.rp_Unit⟩
  cases h

/-! #### _law_power -/
abbrev nn__law_power : List Str := ["_law_unit", "_law_number_here"]
theorem sc__law_power : FnScope ["_law_unit", "_law_number_here"] ["_law_unit", "_law_number_here"] (defScope st__law_power) := ⟨rfl, rfl, rfl, by decide +kernel, rfl, by decide +kernel, by decide +kernel⟩
def m__law_power : Ms := (mseq (mif (tv (bin (pick2 [kEq, kEqI, kEqD]) (var 1) (cst (.int 0)))) (mret (bin (pick2 [(ownI ow__pow__), kPow]) (var 0) (cst (.int 0)))) mnx) (mseq (mif (tv (bin (pick2 [kEq, kEqI, kEqD]) (var 1) (cst (.int 1)))) (mret (bin (pick2 [(ownI ow__pow__), kPow]) (var 0) (cst (.int 1)))) mnx) (mret (vif (tv (bin (pick2 [kEq, kEqI, kEqD]) (var 1) (cst (.int 2)))) (bin (pick2 [(ownI ow__pow__), kPow]) (var 0) (cst (.int 2))) (bin (pick2 [(ownI ow__pow__), kPow]) (var 0) (cst (.int 3)))))))
def f__law_power : Fx := fnx 2 2 m__law_power

theorem kp__law_power (t : T K mg) : PySem.W.keepIn K (.ref (GA.g 25)) = true := let ⟨_, F⟩ := t.d__law_power; F.kp
theorem fo__law_power (t : T K mg) {fd : FuncData} (F : FunD K "_law_power" "_law_power" (defArgs st__law_power) (defBody st__law_power) (defScope st__law_power) [] [] (GA.g 25) fd) : FnOk P w K mg base (L2.CX P w) 6 (GA.g 25) fd ["_law_unit", "_law_number_here"] (spV f__law_power) :=
  have sc := sc__law_power
  fn_D F sc rfl rfl fun cdv A outer s H E hr =>
    (svs_cons (sv_if (tt_cmp (pick2_ok (allC k_eq (allC (k_eqI hr.units0) (allC (k_eqD hr.units) all0)))) (pv_var 1) pv_int (nomark _)) (svs_one (sv_ret (pv_op (pick2_ok (allC (k_ownP (ow__pow___ok t (hr.mono (j := 5) (by decide))) (takes_of rfl rfl rfl rfl)) (allC k_pow all0))) (pv_var 0) pv_int))) svs_nil)
    (svs_cons (sv_if (tt_cmp (pick2_ok (allC k_eq (allC (k_eqI hr.units0) (allC (k_eqD hr.units) all0)))) (pv_var 1) pv_int (nomark _)) (svs_one (sv_ret (pv_op (pick2_ok (allC (k_ownP (ow__pow___ok t (hr.mono (j := 5) (by decide))) (takes_of rfl rfl rfl rfl)) (allC k_pow all0))) (pv_var 0) pv_int))) svs_nil)
    (svs_one (sv_ret (pv_if (tt_cmp (pick2_ok (allC k_eq (allC (k_eqI hr.units0) (allC (k_eqD hr.units) all0)))) (pv_var 1) pv_int (nomark _)) (pv_op (pick2_ok (allC (k_ownP (ow__pow___ok t (hr.mono (j := 5) (by decide))) (takes_of rfl rfl rfl rfl)) (allC k_pow all0))) (pv_var 0) pv_int) (pv_op (pick2_ok (allC (k_ownP (ow__pow___ok t (hr.mono (j := 5) (by decide))) (takes_of rfl rfl rfl rfl)) (allC k_pow all0))) (pv_var 0) pv_int))))))
theorem ok__law_power (t : T K mg) : FnV P w K mg base 6 (GA.g 25) f__law_power := let ⟨_, F⟩ := t.d__law_power; fn_R (fo__law_power t F) (F.bindsN fun _ _ _ _ _ _ us hl => match us, hl with | [_, _], _ => rfl)

/-! #### _law_one_right -/
abbrev nn__law_one_right : List Str := ["_law_state", "_law_name", "_law_one", "_law_other", "_law_number_here", "_law_product", "_law_ratio", "_law_power_here", "_law_left", "_law_right"]
theorem sc__law_one_right : FnScope ["_law_state", "_law_name", "_law_one", "_law_other", "_law_number_here", "_law_product", "_law_ratio", "_law_power_here", "_law_left", "_law_right"] ["_law_state"] (defScope st__law_one_right) := ⟨rfl, rfl, rfl, by decide +kernel, rfl, by decide +kernel, by decide +kernel⟩
def m__law_one_right : Ms := (mseq (mpar3 2 3 4 (vcall f__law_powers (esc (var 0) esn)) (vcall f__law_powers (esc (var 0) esn)) (vcall f__law_next (esc (var 0) (esc (cst (.int 4)) esn)))) (mseq (mpar3 5 6 7 (vcall (pickN [kDict]) (esc (var 2) esn)) (vcall (pickN [kDict]) (esc (var 2) esn)) vdict0) (mseq (lockS (var 3) (mfor (iseq (var 3)) (.nm 1) (mseq (mput (var 5) (var 1) (bin (pick2 [kAdd]) (vget2 (var 5) (var 1) (cst (.int 0))) (bin (pick2 [kIxL, kIxT, kIxD]) (var 3) (var 1)))) (mput (var 6) (var 1) (bin (pick2 [kSub]) (vget2 (var 6) (var 1) (cst (.int 0))) (bin (pick2 [kIxL, kIxT, kIxD]) (var 3) (var 1))))))) (mseq (lockS (var 2) (mfor (iseq (var 2)) (.nm 1) (mput (var 7) (var 1) (bin (pick2 [(own2 ow__mul__), kMul, kMulW]) (bin (pick2 [kIxL, kIxT, kIxD]) (var 2) (var 1)) (var 4))))) (mseq (mpar 8 9 (vcall (mk 4 f_Unit___init__) (esc (var 2) esn)) (vcall (mk 4 f_Unit___init__) (esc (vcall (pickN [kDict]) (esc (vrevL (vitems (var 3))) esn)) esn))) (mseq (mif (tnot (tv (vcall f__law_stands (esc (var 8) (esc (var 2) esn))))) (mret (cst (.bl false))) mnx) (mseq (mif (tnot (tv (vcall f__law_stands (esc (var 9) (esc (var 3) esn))))) (mret (cst (.bl false))) mnx) (mseq (mif (tnot (tv (vcall f__law_stands (esc (bin (pick2 [(own2 ow__mul__), kMul, kMulW]) (var 8) (var 9)) (esc (var 5) esn))))) (mret (cst (.bl false))) mnx) (mseq (mif (tor (tnot (tv (vcall f__law_stands (esc (bin (pick2 [(own2 ow__floordiv__), kDiv, kDivN]) (var 8) (var 9)) (esc (var 6) esn))))) (tnot (tv (vcall f__law_stands (esc (vcall f__law_power (esc (var 8) (esc (var 4) esn))) (esc (var 7) esn)))))) (mret (cst (.bl false))) mnx) (mseq (mif (tnot (tv (bin (pick2 [kEq, (own2 ow__eq__), kEqI, kEqD]) (bin (pick2 [(own2 ow__mul__), kMul, kMulW]) (var 8) (var 9)) (bin (pick2 [(own2 ow__mul__), kMul, kMulW]) (var 9) (var 8))))) (mret (cst (.bl false))) mnx) (mseq (mif (tv (bin (pick2 [kNe, kNeI, kNeD]) (bin (pick2 [kEq, (own2 ow__eq__), kEqI, kEqD]) (var 8) (var 9)) (bin (pick2 [kEq, (own2 ow__eq__), kEqI, kEqD]) (vcall f__law_plain (esc (var 2) esn)) (vcall f__law_plain (esc (var 3) esn))))) (mret (cst (.bl false))) mnx) (mseq (mexp (vclear (un (attrV at_powers s_6) (var 8)))) (mret (vand (vcall f__law_stands (esc (var 8) (esc (var 2) esn))) (vand (vcall f__law_stands (esc (bin (pick2 [(own2 ow__floordiv__), kDiv, kDivN]) (var 8) (var 8)) (esc vdict0 esn))) (bin (pick2 [kEq, (own2 ow__eq__), kEqI, kEqD]) (bin (pick2 [(own2 ow__mul__), kMul, kMulW]) (bin (pick2 [(own2 ow__floordiv__), kDiv, kDivN]) (var 8) (var 9)) (var 9)) (var 8)))))))))))))))))
def f__law_one_right : Fx := fnx 1 10 m__law_one_right

theorem kp__law_one_right (t : T K mg) : PySem.W.keepIn K (.ref (GA.g 26)) = true := let ⟨_, F⟩ := t.d__law_one_right; F.kp
theorem fo__law_one_right (t : T K mg) {fd : FuncData} (F : FunD K "_law_one_right" "_law_one_right" (defArgs st__law_one_right) (defBody st__law_one_right) (defScope st__law_one_right) [] [] (GA.g 26) fd) : FnOk P w K mg base (L2.CX P w) 7 (GA.g 26) fd ["_law_state"] (spV f__law_one_right) :=
  have sc := sc__law_one_right
  fn_D F sc rfl rfl fun cdv A outer s H E hr =>
    (svs_cons (sv_par3 (i := 2) (j := 3) (k := 4) rfl sc.nd rfl rfl rfl (by decide) (by decide) (by decide) rfl rfl rfl (pv_call (ok__law_powers t) (takes_of rfl rfl rfl rfl) (hr.mono (j := 4) (by decide)) rfl t.g__law_powers (kp__law_powers t) (av_cons (pv_var 0) av_nil)) (pv_call (ok__law_powers t) (takes_of rfl rfl rfl rfl) (hr.mono (j := 4) (by decide)) rfl t.g__law_powers (kp__law_powers t) (av_cons (pv_var 0) av_nil)) (pv_call (ok__law_next t) (takes_of rfl rfl rfl rfl) (hr.mono (j := 3) (by decide)) rfl t.g__law_next (kp__law_next t) (av_cons (pv_var 0) (av_cons pv_int av_nil))) rfl rfl rfl (by rfl) (by rfl))
    (svs_cons (sv_par3 (i := 5) (j := 6) (k := 7) rfl sc.nd rfl rfl rfl (by decide) (by decide) (by decide) rfl rfl rfl (pv_callTy (pickN_ok (allC (k_dict rfl) all0)) rfl t.f_dict (by decide +kernel) (av_cons (pv_var 2) av_nil)) (pv_callTy (pickN_ok (allC (k_dict rfl) all0)) rfl t.f_dict (by decide +kernel) (av_cons (pv_var 2) av_nil)) pv_dict0 rfl rfl rfl (by rfl) (by rfl))
    (svs_cons (sv_lock (var 3) (sv_for (t := (.nm 1)) (passes_of rfl) rfl (iv_seq (pv_var 3)) (gt_name (i := 1) sc.nd rfl (by first | exact Or.inl rfl | exact Or.inr rfl)) (svs_cons (sv_put (hu_of hr) (pv_var 5) (pv_var 1) (pv_op (pick2_ok (allC k_add all0)) (pv_get2 (hu_of hr) (pv_var 5) (pv_var 1) pv_int ⟨rfl, rfl, rfl, rfl⟩) (pv_ix (pick2_ok (allC (k_ixL (fun _ _ => rfl)) (allC (k_ixT (fun _ _ => rfl)) (allC (k_ixD (hu_of hr) (fun _ _ => rfl)) all0)))) (pv_var 3) (pv_var 1))))
    (svs_one (sv_put (hu_of hr) (pv_var 6) (pv_var 1) (pv_op (pick2_ok (allC k_sub all0)) (pv_get2 (hu_of hr) (pv_var 6) (pv_var 1) pv_int ⟨rfl, rfl, rfl, rfl⟩) (pv_ix (pick2_ok (allC (k_ixL (fun _ _ => rfl)) (allC (k_ixT (fun _ _ => rfl)) (allC (k_ixD (hu_of hr) (fun _ _ => rfl)) all0)))) (pv_var 3) (pv_var 1))))))))
    (svs_cons (sv_lock (var 2) (sv_for (t := (.nm 1)) (passes_of rfl) rfl (iv_seq (pv_var 2)) (gt_name (i := 1) sc.nd rfl (by first | exact Or.inl rfl | exact Or.inr rfl)) (svs_one (sv_put (hu_of hr) (pv_var 7) (pv_var 1) (pv_op (pick2_ok (allC (k_ownB (ow__mul___ok t (hr.mono (j := 4) (by decide))) (takes_of rfl rfl rfl rfl)) (allC k_mul (allC k_mulW all0)))) (pv_ix (pick2_ok (allC (k_ixL (fun _ _ => rfl)) (allC (k_ixT (fun _ _ => rfl)) (allC (k_ixD (hu_of hr) (fun _ _ => rfl)) all0)))) (pv_var 2) (pv_var 1)) (pv_var 4))))))
    (svs_cons (sv_par (i := 8) (j := 9) rfl sc.nd rfl rfl (by decide) rfl rfl (pv_make t.mk_Unit (ok_Unit___init__ t) (takes_of rfl rfl rfl rfl) (hr.mono (j := 3) (by decide)) rfl t.g_Unit (av_cons (pv_var 2) av_nil)) (pv_make t.mk_Unit (ok_Unit___init__ t) (takes_of rfl rfl rfl rfl) (hr.mono (j := 3) (by decide)) rfl t.g_Unit (av_cons (pv_callTy (pickN_ok (allC (k_dict rfl) all0)) rfl t.f_dict (by decide +kernel) (av_cons (pv_revL (pv_items rfl (pv_var 3) rfl t.f_list (by decide +kernel))) av_nil)) av_nil)) rfl rfl (by rfl) (by rfl))
    (svs_cons (sv_if (tt_not (tt_val (pv_call (ok__law_stands t) (takes_of rfl rfl rfl rfl) (hr.mono (j := 4) (by decide)) rfl t.g__law_stands (kp__law_stands t) (av_cons (pv_var 8) (av_cons (pv_var 2) av_nil))))) (svs_one (sv_ret pv_bl)) svs_nil)
    (svs_cons (sv_if (tt_not (tt_val (pv_call (ok__law_stands t) (takes_of rfl rfl rfl rfl) (hr.mono (j := 4) (by decide)) rfl t.g__law_stands (kp__law_stands t) (av_cons (pv_var 9) (av_cons (pv_var 3) av_nil))))) (svs_one (sv_ret pv_bl)) svs_nil)
    (svs_cons (sv_if (tt_not (tt_val (pv_call (ok__law_stands t) (takes_of rfl rfl rfl rfl) (hr.mono (j := 4) (by decide)) rfl t.g__law_stands (kp__law_stands t) (av_cons (pv_op (pick2_ok (allC (k_ownB (ow__mul___ok t (hr.mono (j := 4) (by decide))) (takes_of rfl rfl rfl rfl)) (allC k_mul (allC k_mulW all0)))) (pv_var 8) (pv_var 9)) (av_cons (pv_var 5) av_nil))))) (svs_one (sv_ret pv_bl)) svs_nil)
    (svs_cons (sv_if (tt_w (tw_or (tt_not (tt_val (pv_call (ok__law_stands t) (takes_of rfl rfl rfl rfl) (hr.mono (j := 4) (by decide)) rfl t.g__law_stands (kp__law_stands t) (av_cons (pv_op (pick2_ok (allC (k_ownB (ow__floordiv___ok t (hr.mono (j := 4) (by decide))) (takes_of rfl rfl rfl rfl)) (allC k_div (allC k_divN all0)))) (pv_var 8) (pv_var 9)) (av_cons (pv_var 6) av_nil))))) (tw_or1 (tt_not (tt_val (pv_call (ok__law_stands t) (takes_of rfl rfl rfl rfl) (hr.mono (j := 4) (by decide)) rfl t.g__law_stands (kp__law_stands t) (av_cons (pv_call (ok__law_power t) (takes_of rfl rfl rfl rfl) (hr.mono (j := 6) (by decide)) rfl t.g__law_power (kp__law_power t) (av_cons (pv_var 8) (av_cons (pv_var 4) av_nil))) (av_cons (pv_var 7) av_nil)))))))) (svs_one (sv_ret pv_bl)) svs_nil)
    (svs_cons (sv_if (tt_not (tt_cmp (pick2_ok (allC k_eq (allC (k_ownC (fun _ _ => rfl) (ow__eq___ok t (hr.mono (j := 1) (by decide))) (takes_of rfl rfl rfl rfl)) (allC (k_eqI hr.units0) (allC (k_eqD hr.units) all0))))) (pv_op (pick2_ok (allC (k_ownB (ow__mul___ok t (hr.mono (j := 4) (by decide))) (takes_of rfl rfl rfl rfl)) (allC k_mul (allC k_mulW all0)))) (pv_var 8) (pv_var 9)) (pv_op (pick2_ok (allC (k_ownB (ow__mul___ok t (hr.mono (j := 4) (by decide))) (takes_of rfl rfl rfl rfl)) (allC k_mul (allC k_mulW all0)))) (pv_var 9) (pv_var 8)) (nomark _))) (svs_one (sv_ret pv_bl)) svs_nil)
    (svs_cons (sv_if (tt_cmp (pick2_ok (allC k_ne (allC (k_neI hr.units0) (allC (k_neD hr.units) all0)))) (pv_cmp (pick2_ok (allC k_eq (allC (k_ownC (fun _ _ => rfl) (ow__eq___ok t (hr.mono (j := 1) (by decide))) (takes_of rfl rfl rfl rfl)) (allC (k_eqI hr.units0) (allC (k_eqD hr.units) all0))))) (pv_var 8) (pv_var 9) (nomark _)) (pv_cmp (pick2_ok (allC k_eq (allC (k_ownC (fun _ _ => rfl) (ow__eq___ok t (hr.mono (j := 1) (by decide))) (takes_of rfl rfl rfl rfl)) (allC (k_eqI hr.units0) (allC (k_eqD hr.units) all0))))) (pv_call (ok__law_plain t) (takes_of rfl rfl rfl rfl) (hr.mono (j := 1) (by decide)) rfl t.g__law_plain (kp__law_plain t) (av_cons (pv_var 2) av_nil)) (pv_call (ok__law_plain t) (takes_of rfl rfl rfl rfl) (hr.mono (j := 1) (by decide)) rfl t.g__law_plain (kp__law_plain t) (av_cons (pv_var 3) av_nil)) (nomark _)) (nomark _)) (svs_one (sv_ret pv_bl)) svs_nil)
    (svs_cons (sv_expr (pv_clear (pv_attr e_6 (at_powers_ok t (hr.mono (j := 2) (by decide))) (pv_var 8))))
    (svs_one (sv_ret (pv_and (pv_call (ok__law_stands t) (takes_of rfl rfl rfl rfl) (hr.mono (j := 4) (by decide)) rfl t.g__law_stands (kp__law_stands t) (av_cons (pv_var 8) (av_cons (pv_var 2) av_nil))) (pv_and (pv_call (ok__law_stands t) (takes_of rfl rfl rfl rfl) (hr.mono (j := 4) (by decide)) rfl t.g__law_stands (kp__law_stands t) (av_cons (pv_op (pick2_ok (allC (k_ownB (ow__floordiv___ok t (hr.mono (j := 4) (by decide))) (takes_of rfl rfl rfl rfl)) (allC k_div (allC k_divN all0)))) (pv_var 8) (pv_var 8)) (av_cons pv_dict0 av_nil))) (pv_one (pv_cmp (pick2_ok (allC k_eq (allC (k_ownC (fun _ _ => rfl) (ow__eq___ok t (hr.mono (j := 1) (by decide))) (takes_of rfl rfl rfl rfl)) (allC (k_eqI hr.units0) (allC (k_eqD hr.units) all0))))) (pv_op (pick2_ok (allC (k_ownB (ow__mul___ok t (hr.mono (j := 4) (by decide))) (takes_of rfl rfl rfl rfl)) (allC k_mul (allC k_mulW all0)))) (pv_op (pick2_ok (allC (k_ownB (ow__floordiv___ok t (hr.mono (j := 4) (by decide))) (takes_of rfl rfl rfl rfl)) (allC k_div (allC k_divN all0)))) (pv_var 8) (pv_var 9)) (pv_var 9)) (pv_var 8) (nomark _)))))))))))))))))))
theorem ok__law_one_right (t : T K mg) : FnV P w K mg base 7 (GA.g 26) f__law_one_right := let ⟨_, F⟩ := t.d__law_one_right; fn_R (fo__law_one_right t F) (F.bindsN fun _ _ _ _ _ _ us hl => match us, hl with | [_], _ => rfl)

/-! #### law -/
abbrev nn_law : List Str := ["_law_script", "_law_by"]
theorem sc_law : FnScope ["_law_script", "_law_by"] ["_law_script"] (defScope st_law) := ⟨rfl, rfl, rfl, by decide +kernel, rfl, by decide +kernel, by decide +kernel⟩
def m_law : Ms := (mseq (mfor (irng3 (cst (.int 0)) (vcall (pickN [kMax2]) (esc (cst (.int 1)) (esc (vcall (pickN [kMin2]) (esc (cst (.int 24)) (esc (vcall (pickN [kLen]) (esc (var 0) esn)) esn))) esn))) (cst (.int 2))) (.nm 1) (mif (tnot (tv (vcall f__law_one_right (esc (vlst (esc (var 0) (esc (var 1) (esc (cst (.int 0)) esn)))) esn)))) (mret (cst (.bl false))) mnx)) (mret (cst (.bl true))))
def f_law : Fx := fnx 1 2 m_law

theorem kp_law (t : T K mg) : PySem.W.keepIn K (.ref (GA.g 27)) = true := let ⟨_, F⟩ := t.d_law; F.kp
theorem fo_law (t : T K mg) {fd : FuncData} (F : FunD K "law" "law" (defArgs st_law) (defBody st_law) (defScope st_law) [] [] (GA.g 27) fd) : FnOk P w K mg base (L2.CX P w) 8 (GA.g 27) fd ["_law_script"] (spV f_law) :=
  have sc := sc_law
  fn_D F sc rfl rfl fun cdv A outer s H E hr =>
    (svs_cons (sv_for (t := (.nm 1)) (passes_of rfl) rfl (iv_range3 rfl t.f_range pv_int (pv_callB (pickN_ok (allC (k_max2 rfl) all0)) rfl t.f_max (by decide +kernel) (av_cons pv_int (av_cons (pv_callB (pickN_ok (allC (k_min2 rfl) all0)) rfl t.f_min (by decide +kernel) (av_cons pv_int (av_cons (pv_callB (pickN_ok (allC k_len all0)) rfl t.f_len (by decide +kernel) (av_cons (pv_var 0) av_nil)) av_nil))) av_nil))) pv_int) (gt_name (i := 1) sc.nd rfl (by first | exact Or.inl rfl | exact Or.inr rfl)) (svs_one (sv_if (tt_not (tt_val (pv_call (ok__law_one_right t) (takes_of rfl rfl rfl rfl) (hr.mono (j := 7) (by decide)) rfl t.g__law_one_right (kp__law_one_right t) (av_cons (pv_lst (av_cons (pv_var 0) (av_cons (pv_var 1) (av_cons pv_int av_nil)))) av_nil)))) (svs_one (sv_ret pv_bl)) svs_nil)))
    (svs_one (sv_ret pv_bl)))
theorem ok_law (t : T K mg) : FnV P w K mg base 8 (GA.g 27) f_law := let ⟨_, F⟩ := t.d_law; fn_R (fo_law t F) (F.bindsN fun _ _ _ _ _ _ us hl => match us, hl with | [_], _ => rfl)

end
theorem core [GA] {P : Program} {w : World} {K : PySem.W.Frag} {mg : Str → Option Value} (math : ∀ ns : List Int, ns.length ≤ 63 → (∀ z ∈ ns, Builtin.Int.intBits z ≤ 1048576) → ∃ h', f_law [.ref 0] (h0 ns) = .ok (.bl true) h') (t : T K mg) {fa : Addr} (e : fa = GA.g 27) :
    ∃ (fd : FuncData) (sp : Sp), (∀ (s : Shared) (u : Value), BindsTo s fd ⟨[u], []⟩ [("_law_script", u)]) ∧
      (∀ (H : Hp) (a : Addr) (ns : List Int), ns.length ≤ 63 → (∀ z ∈ ns, Builtin.Int.intBits z ≤ 1048576) → Only H → SqL K H a (ns.map V.int) → sp [.ref a] H (fun v _ => v = .bl true) fun _ _ _ => False) ∧
        ∀ base : Heap, K.In base → base.Ns mainGlobals mg → FnOk P w K mg base (L2.CX P w) 8 fa fd ["_law_script"] sp := by
  subst e
  obtain ⟨fd, F⟩ := t.d_law
  have b := FunD.bindsA (ps := ["_law_script"]) F fun _ _ _ _ _ _ us hl => match us, hl with | [_], _ => rfl
  exact ⟨fd, spV f_law, fun s u => b s [u] rfl, fun H a ns hl hbits hO hS => law_end t.nolist hO hS (math ns hl hbits), fun base hK hns => fo_law t F⟩
end K31

set_option Elab.async false
set_option linter.all false
set_option maxRecDepth 100000
set_option maxHeartbeats 4800000
namespace K31
open PySem PySem.Spec PyProof.Rows L2 SV
/-! ### the head -/
def adrs (K : PySem.W.Frag) : Nat → Addr
  | 0 => He.ga K "LabelError"
  | 1 => He.ga K "BadUnit"
  | 2 => He.ga K "is_integer"
  | 3 => He.ga K "is_name"
  | 4 => He.ga K "Unit"
  | 5 => He.ma K (He.ga K "Unit") "__init__"
  | 6 => 0
  | 7 => getr K (He.ga K "Unit") "powers"
  | 8 => He.ma K (He.ga K "Unit") "__eq__"
  | 9 => He.ma K (He.ga K "Unit") "__mul__"
  | 10 => He.ma K (He.ga K "Unit") "__floordiv__"
  | 11 => He.ma K (He.ga K "Unit") "__pow__"
  | 12 => He.ma K (He.ga K "Unit") "__contains__"
  | 13 => He.ma K (He.ga K "Unit") "__getitem__"
  | 14 => He.ma K (He.ga K "Unit") "__iter__"
  | 15 => He.ma K (He.ga K "Unit") "__bool__"
  | 16 => He.ga K "joined"
  | 17 => He.ga K "powered"
  | 18 => He.ga K "_law_cell_at"
  | 19 => He.ga K "_law_draw"
  | 20 => He.ga K "_law_number"
  | 21 => He.ga K "_law_next"
  | 22 => He.ga K "_law_powers"
  | 23 => He.ga K "_law_plain"
  | 24 => He.ga K "_law_stands"
  | 25 => He.ga K "_law_power"
  | 26 => He.ga K "_law_one_right"
  | 27 => He.ga K "law"
  | _ => 0
def tst : List (PySem.W.Frag → Bool) := [(He.Fa.free "len").ok,
  (He.Fa.free "min").ok,
  (He.Fa.free "max").ok,
  (He.Fa.free "range").ok,
  (He.Fa.glo "_law_cell_at").ok,
  (He.Fa.glo "_law_draw").ok,
  (He.Fa.glo "_law_number").ok,
  (He.Fa.glo "_law_next").ok,
  (He.Fa.glo "_law_powers").ok,
  (He.Fa.free "dict").ok,
  (He.Fa.glo "Unit").ok,
  q_kit "Unit",
  q_inst "Unit",
  q_sub "Unit" "Unit" true,
  (He.Fa.free "isinstance").ok,
  (He.Fa.cls "Unit").ok,
  (He.Fa.noat "Unit" "parts").ok,
  (He.Fa.free "list").ok,
  (He.Fa.glo "joined").ok,
  (He.Fa.free "str").ok,
  (He.Fa.int "MAX_NAME" 8).ok,
  (He.Fa.str "LETTERS" (Str.ofString "abcdefghijklmnopqrstuvwxyz")).ok,
  (He.Fa.free "all").ok,
  (He.Fa.glo "is_name").ok,
  (He.Fa.free "int").ok,
  (He.Fa.free "bool").ok,
  (He.Fa.glo "is_integer").ok,
  (He.Fa.free "sorted").ok,
  (He.Fa.mkr "Unit").ok,
  q_own "Unit" "__mul__",
  (fun K => PySem.W.selfFirst K (He.ga K "Unit")),
  (He.Fa.glo "_law_plain").ok,
  q_prop "Unit" "powers",
  q_own "Unit" "__eq__",
  (fun K => PySem.W.notFirst K (He.ga K "Unit") (.ref (He.ga K "Unit"))),
  q_own "Unit" "__bool__",
  q_own "Unit" "__contains__",
  q_own "Unit" "__getitem__",
  (fun K => PySem.W.fnIn K (He.ma K (He.ga K "Unit") "__getitem__")),
  (He.Fa.glo "_law_stands").ok,
  q_own "Unit" "__floordiv__",
  (He.Fa.glo "powered").ok,
  q_own "Unit" "__pow__",
  (fun K => decide (PySem.W.subIn K (.type "int") (.ref (He.ga K "Unit")) = some false)),
  (fun K => decide (PySem.W.findIn K (.ref (He.ga K "Unit")) (PySem.dunderR "pow") = some none)),
  (He.Fa.glo "_law_power").ok,
  (He.Fa.glo "_law_one_right").ok,
  (He.Fa.glo "law").ok, q_nolist]
def fns : List Dx := [⟨fun K => He.ga K "is_integer", "is_integer", "is_integer", defArgs st_is_integer, defBody st_is_integer, defScope st_is_integer⟩,
  ⟨fun K => He.ga K "is_name", "is_name", "is_name", defArgs st_is_name, defBody st_is_name, defScope st_is_name⟩,
  ⟨fun K => He.ma K (He.ga K "Unit") "__init__", "__init__", "Unit.__init__", defArgs st_Unit___init__, defBody st_Unit___init__, defScope st_Unit___init__⟩,
  ⟨fun K => getr K (He.ga K "Unit") "powers", "powers", "Unit.powers", defArgs st_Unit_powers, defBody st_Unit_powers, defScope st_Unit_powers⟩,
  ⟨fun K => He.ma K (He.ga K "Unit") "__eq__", "__eq__", "Unit.__eq__", defArgs st_Unit___eq__, defBody st_Unit___eq__, defScope st_Unit___eq__⟩,
  ⟨fun K => He.ma K (He.ga K "Unit") "__mul__", "__mul__", "Unit.__mul__", defArgs st_Unit___mul__, defBody st_Unit___mul__, defScope st_Unit___mul__⟩,
  ⟨fun K => He.ma K (He.ga K "Unit") "__floordiv__", "__floordiv__", "Unit.__floordiv__", defArgs st_Unit___floordiv__, defBody st_Unit___floordiv__, defScope st_Unit___floordiv__⟩,
  ⟨fun K => He.ma K (He.ga K "Unit") "__pow__", "__pow__", "Unit.__pow__", defArgs st_Unit___pow__, defBody st_Unit___pow__, defScope st_Unit___pow__⟩,
  ⟨fun K => He.ma K (He.ga K "Unit") "__contains__", "__contains__", "Unit.__contains__", defArgs st_Unit___contains__, defBody st_Unit___contains__, defScope st_Unit___contains__⟩,
  ⟨fun K => He.ma K (He.ga K "Unit") "__getitem__", "__getitem__", "Unit.__getitem__", defArgs st_Unit___getitem__, defBody st_Unit___getitem__, defScope st_Unit___getitem__⟩,
  ⟨fun K => He.ma K (He.ga K "Unit") "__bool__", "__bool__", "Unit.__bool__", defArgs st_Unit___bool__, defBody st_Unit___bool__, defScope st_Unit___bool__⟩,
  ⟨fun K => He.ga K "joined", "joined", "joined", defArgs st_joined, defBody st_joined, defScope st_joined⟩,
  ⟨fun K => He.ga K "powered", "powered", "powered", defArgs st_powered, defBody st_powered, defScope st_powered⟩,
  ⟨fun K => He.ga K "_law_cell_at", "_law_cell_at", "_law_cell_at", defArgs st__law_cell_at, defBody st__law_cell_at, defScope st__law_cell_at⟩,
  ⟨fun K => He.ga K "_law_draw", "_law_draw", "_law_draw", defArgs st__law_draw, defBody st__law_draw, defScope st__law_draw⟩,
  ⟨fun K => He.ga K "_law_number", "_law_number", "_law_number", defArgs st__law_number, defBody st__law_number, defScope st__law_number⟩,
  ⟨fun K => He.ga K "_law_next", "_law_next", "_law_next", defArgs st__law_next, defBody st__law_next, defScope st__law_next⟩,
  ⟨fun K => He.ga K "_law_powers", "_law_powers", "_law_powers", defArgs st__law_powers, defBody st__law_powers, defScope st__law_powers⟩,
  ⟨fun K => He.ga K "_law_plain", "_law_plain", "_law_plain", defArgs st__law_plain, defBody st__law_plain, defScope st__law_plain⟩,
  ⟨fun K => He.ga K "_law_stands", "_law_stands", "_law_stands", defArgs st__law_stands, defBody st__law_stands, defScope st__law_stands⟩,
  ⟨fun K => He.ga K "_law_power", "_law_power", "_law_power", defArgs st__law_power, defBody st__law_power, defScope st__law_power⟩,
  ⟨fun K => He.ga K "_law_one_right", "_law_one_right", "_law_one_right", defArgs st__law_one_right, defBody st__law_one_right, defScope st__law_one_right⟩,
  ⟨fun K => He.ga K "law", "law", "law", defArgs st_law, defBody st_law, defScope st_law⟩]
theorem facts {K : PySem.W.Frag} {h : Heap} {mg : Str → Option Value} (X : K.In h) (G : h.Ns mainGlobals mg) (c : SaysM (tests tst) fns K) : @T ⟨adrs K⟩ K mg :=
  have e := c.test
  @T.mk ⟨adrs K⟩ K mg
    (He.free_ok X G (tests_at e 0 rfl))
    (He.free_ok X G (tests_at e 1 rfl))
    (He.free_ok X G (tests_at e 2 rfl))
    (He.free_ok X G (tests_at e 3 rfl))
    (c.def_ 13 rfl)
    (He.glo_ok X G (tests_at e 4 rfl))
    (c.def_ 14 rfl)
    (He.glo_ok X G (tests_at e 5 rfl))
    (c.def_ 15 rfl)
    (He.glo_ok X G (tests_at e 6 rfl))
    (c.def_ 16 rfl)
    (He.glo_ok X G (tests_at e 7 rfl))
    (c.def_ 17 rfl)
    (He.glo_ok X G (tests_at e 8 rfl))
    (He.free_ok X G (tests_at e 9 rfl))
    (He.glo_ok X G (tests_at e 10 rfl))
    (q_kit_all (tests_at e 11 rfl))
    (q_inst_ok (tests_at e 12 rfl))
    (q_sub_ok (tests_at e 13 rfl))
    (He.free_ok X G (tests_at e 14 rfl))
    (He.cls_ok (tests_at e 15 rfl))
    (He.noat_ok (tests_at e 16 rfl))
    (He.free_ok X G (tests_at e 17 rfl))
    (c.def_ 11 rfl)
    (He.glo_ok X G (tests_at e 18 rfl))
    (He.free_ok X G (tests_at e 19 rfl))
    (He.int_ok X G (tests_at e 20 rfl))
    (He.str_ok X G (tests_at e 21 rfl))
    (He.free_ok X G (tests_at e 22 rfl))
    (c.def_ 1 rfl)
    (He.glo_ok X G (tests_at e 23 rfl))
    (He.free_ok X G (tests_at e 24 rfl))
    (He.free_ok X G (tests_at e 25 rfl))
    (c.def_ 0 rfl)
    (He.glo_ok X G (tests_at e 26 rfl))
    (He.free_ok X G (tests_at e 27 rfl))
    (c.def_ 2 rfl)
    (He.mkr_ok (tests_at e 28 rfl))
    (c.def_ 5 rfl)
    (q_own_ok (tests_at e 29 rfl))
    (id (tests_at e 30 rfl))
    (c.def_ 18 rfl)
    (He.glo_ok X G (tests_at e 31 rfl))
    (c.def_ 3 rfl)
    (q_prop_ok (tests_at e 32 rfl))
    (c.def_ 4 rfl)
    (q_own_ok (tests_at e 33 rfl))
    (id (tests_at e 34 rfl))
    (c.def_ 10 rfl)
    (q_own_ok (tests_at e 35 rfl))
    (c.def_ 8 rfl)
    (q_own_ok (tests_at e 36 rfl))
    (c.def_ 9 rfl)
    (q_own_ok (tests_at e 37 rfl))
    (id (tests_at e 38 rfl))
    (c.def_ 19 rfl)
    (He.glo_ok X G (tests_at e 39 rfl))
    (c.def_ 6 rfl)
    (q_own_ok (tests_at e 40 rfl))
    (c.def_ 12 rfl)
    (He.glo_ok X G (tests_at e 41 rfl))
    (c.def_ 7 rfl)
    (q_own_ok (tests_at e 42 rfl))
    (of_decide_eq_true (tests_at e 43 rfl))
    (of_decide_eq_true (tests_at e 44 rfl))
    (c.def_ 20 rfl)
    (He.glo_ok X G (tests_at e 45 rfl))
    (c.def_ 21 rfl)
    (He.glo_ok X G (tests_at e 46 rfl))
    (c.def_ 22 rfl)
    (He.glo_ok X G (tests_at e 47 rfl))
    (tests_at e 48 rfl)
abbrev R : PySem.W.OpenRow := PySem.W.OpenLaw.row PySem.Challenge.rw_fewlabels_k31_whole_units
abbrev hk : PySem.W.Hook := hookM 5 (tests tst) fns
def ob (s : PySem.W.SharedT) : AlM := obsMG 5 (tests tst) fns (HandSHeadRun.getT s)
theorem ob_eq (s : PySem.W.SharedT) : ob s = hk.obs s.abs := obsMG_eq (HandSHeadRun.getT_eq s)
def loose : List PySem.Str := ["LabelError", "BadUnit", "is_integer", "is_name", "Unit", "joined", "powered", "_law_cell_at", "_law_draw", "_law_number", "_law_next", "_law_powers", "_law_plain", "_law_stands", "_law_power", "_law_one_right", "LETTERS", "MAX_NAME"]
theorem run (w : World) : HandSHeadRun.RunEq R (PySem.W.view R.prog [21]) hk ob 2000 loose w := by
  intro os
  kernel_rfl
end K31
section
open PySem PySem.W PySem.Calls PyProof.Rows
theorem K31.closing (math : ∀ ns : List Int, ns.length ≤ 63 → (∀ z ∈ ns, Builtin.Int.intBits z ≤ 1048576) → ∃ h', K31.f_law [.ref 0] (SV.h0 ns) = .ok (.bl true) h') : PySem.Challenge.rw_fewlabels_k31_whole_units.Holds := by
  w_on; o_law
  refine HandSHeadRun.head_any (r := OpenLaw.row PySem.Challenge.rw_fewlabels_k31_whole_units) (q := view (OpenLaw.row PySem.Challenge.rw_fewlabels_k31_whole_units).prog [21]) (H := K31.hk) (ob := K31.ob) (M := 2000) (loose := K31.loose) (d := HandSHeadRun.topDef (OpenLaw.row PySem.Challenge.rw_fewlabels_k31_whole_units).prog 21) (kwd := []) K31.ob_eq
    (by kernel_rfl) (fun s => by kernel_rfl) K31.run (by kernel_rfl) (by kernel_rfl) (by kernel_rfl) (by rfl) (by first | assumption | decide +kernel) (by decide +kernel) ⟨rfl, rfl, rfl, rfl, rfl, by decide +kernel⟩ ?hw ?hc
  case hw => w_witness2
  case hc =>
    refine SV.walk_X (l := PySem.Challenge.rw_fewlabels_k31_whole_units) (n := 63) (k := 8) (x := "_law_script") (CX := L2.CX (PySem.Challenge.rw_fewlabels_k31_whole_units).prog) rfl (by decide) (by kernel_rfl) ⟨rfl, by decide, by decide⟩ ?F (fun w => SV.noCX (w := w))
    intro w mg fa h Y G hmg0
    obtain ⟨K, KX, c⟩ := Y
    have hmg : mg ("law" : PySem.Str) = some (.ref fa) := by
      have e : (HandSHeadRun.topDef (OpenLaw.row PySem.Challenge.rw_fewlabels_k31_whole_units).prog 21).name = ("law" : PySem.Str) := by kernel_rfl
      rw [← e]
      exact hmg0
    have t : @K31.T ⟨K31.adrs K⟩ K mg := K31.facts KX G c
    obtain ⟨fd, sp, h1, h2, h3⟩ := @K31.core ⟨K31.adrs K⟩ (PySem.Challenge.rw_fewlabels_k31_whole_units).prog w K mg math t fa (by
      have z := hmg.symm.trans (@K31.T.g_law ⟨K31.adrs K⟩ K mg t)
      injection z with z
      injection z)
    exact ⟨K, fd, sp, KX, h1, h2, h3⟩
end

set_option Elab.async false
set_option linter.all false
set_option maxRecDepth 100000
set_option maxHeartbeats 4800000
namespace K31
open PySem PySem.Spec PyProof.Rows L2 SV
open UX (U keys lk has Canon norm)
def nm4 : List Str := [s_0, s_1, s_2, s_3]
structure NM (u : U) : Prop where
  nd : (keys u).Nodup
  mem : ∀ k ∈ keys u, k ∈ nm4
theorem NM.len {u : U} (h : NM u) : u.length ≤ 4 := by
  have e : (keys u).length = u.length := List.length_map ..
  by_cases q : nm4.length ≤ (keys u).length
  · have := (UX.perm_of_sub h.nd h.mem q).length_eq
    rw [← e, this]; decide
  · rw [show nm4.length = 4 from rfl] at q; omega
theorem is_integer {i : Int} {h : Hx} : f_is_integer [.int i] h = .ok (.bl true) h := rfl
theorem nm_len : ∀ s ∈ nm4, 1 ≤ (s.length : Int) ∧ (s.length : Int) ≤ 8 ∧ s.length ≤ 16777216 ∧ ∀ c ∈ s.cps.toList, memN c s_5.cps.toList = true := by decide
theorem allB_rep : ∀ n, allB (List.replicate n true) = true
  | 0 => rfl
  | n + 1 => allB_rep n
theorem bools_rep : ∀ n, bools (List.replicate n (.bl true)) = some (List.replicate n true)
  | 0 => rfl
  | n + 1 => by rw [List.replicate_succ]; unfold bools; rw [bools_rep n]; rfl
theorem p_all {h : Hx} {d n : Nat} (v : LV h d (List.replicate n (.bl true))) : pickN [kAll] [.ref d] h = .ok (.bl true) h := pickN_cons (by
  unfold kAll; simp only [v.asL, bools_rep, allB_rep])
theorem rep_snoc {A : Type} (a : A) (n : Nat) : List.replicate n a ++ [a] = List.replicate (n + 1) a := by rw [List.replicate_succ']
theorem is_name {s : Str} {h : Hx} (hs : s ∈ nm4) : Ok (f_is_name [.str s] h) fun v h' => v = .bl true ∧ Fr h h' := by
  obtain ⟨h1, h2, h3, h4⟩ := nm_len s hs
  refine Ok_fnx rfl ?_
  show OkS (m_is_name [some (.str s), none] h) _ _
  unfold m_is_name
  have e1 : pickN [kIsi kit] [.str s, .ty .str] h = .ok (.bl true) h := rfl
  have e2 : pickN [kLen] [.str s] h = .ok (.int s.length) h := pickN_cons (by
    unfold kLen lenV; simp only [sline, show Nat.ble s.length 16777216 = true from Nat.ble_eq.mpr h3, cond_true])
  simp [e1, e2, h1, h2]
  refine lockE_no (by rfl) ?_
  refine vlc_ok (ix := .str s) (h1 := h) rfl _ rfl (fun i hx => LV hx h.n (List.replicate i (.bl true)) ∧ Fr h hx) ⟨LV.new _ _, Fr.new _ _⟩ (fun i hx hi hI => ?_) fun hx hI => ?_
  · have hi : i < s.cps.toList.length := hi
    obtain ⟨c, hc1, hc2⟩ : ∃ c, nth s.cps.toList i = some c ∧ memN c s_5.cps.toList = true := ⟨_, nth_lt hi, h4 _ (List.getElem_mem hi)⟩
    refine ⟨.str ⟨#[c]⟩, hx, [(1, .str ⟨#[c]⟩)], by unfold SV.step; simp only [hc1], rfl, ?_⟩
    have e3 : pick2 [kIn] (.str ⟨#[c]⟩) (.str s_5) hx = .ok (.bl true) hx := pick2_cons (by
      show (match some (memN c s_5.cps.toList) with | some b => some (Rx.ok (Vx.bl b) hx) | none => none) = _
      rw [hc2])
    simp [tyes, stoL, wipeL, e3]
    have h3' : s.cps.toList.length ≤ 16777216 := h3
    refine ⟨_, addL_is hI.1 (by rw [List.length_replicate]; omega), ?_, hI.2.put (Nat.le_refl _) _⟩
    rw [rep_snoc]
    exact ⟨hI.1.lt, by rw [Hx.get_put, if_pos rfl]⟩
  · refine ⟨by unfold SV.step; simp only []; rw [nth_ge (by exact Nat.le_refl _)], ?_⟩
    show Ok (pickN [kAll] [.ref h.n] hx) _
    rw [p_all hI.1]
    exact ⟨rfl, hI.2⟩
end K31

set_option Elab.async false
set_option linter.all false
set_option maxRecDepth 100000
set_option maxHeartbeats 4800000
namespace K31
open PySem PySem.Spec PyProof.Rows L2 SV
open UX (U keys lk has Canon norm)
theorem mfld_ok {cl : Nat → Bool} {f : Str} {mo m : Ex} {l : Lx} {h : Hx} {N : Lx → Hx → Prop} {R : Vx → Hx → Prop}
    (k : Ok (m l h) fun y h1 => ∃ i C fs, mo l h1 = .ok (.ref i) h1 ∧ h1.get i = some (.ins C fs) ∧ cl C = true ∧ fs.length < 1000 ∧ N l (h1.put i (.ins C (setF f y fs)))) : OkS (mfld cl f mo m l h) N R := by
  unfold mfld
  rw [OkS_st]
  refine k.mono fun y h1 z => ?_
  obtain ⟨i, C, fs, e1, e2, e3, e4, e5⟩ := z
  rw [e1]
  simp only [Rx.st, asI, e2, e3, show Nat.blt fs.length 1000 = true from Nat.ble_eq.mpr e4, Bool.and_self, cond_true]
  exact e5
def cn (u : U) : U := norm (isort (keys u)) u
theorem isort_pm (l : List Str) : (isort l).Perm l := @isort_perm ga0 l
theorem isort_st (l : List Str) : sortedS (isort l) = true := @isort_sorted ga0 l
theorem isort_nd {l : List Str} (h : l.Nodup) : (isort l).Nodup := (isort_pm l).nodup_iff.mpr h
theorem cn_canon {u : U} (h : (keys u).Nodup) : Canon (cn u) := UX.norm_canon (isort_st _) (isort_nd h)
theorem cn_lk {u : U} (h : (keys u).Nodup) (k : Str) : lk (cn u) k = lk u k := UX.lk_norm (isort_pm _) h k
theorem cn_nm {u : U} (h : NM u) : NM (cn u) := ⟨(cn_canon h.nd).nd, fun k hk => h.mem k (by
  unfold cn at hk
  rw [UX.keys_norm, List.mem_filter] at hk
  exact (isort_pm _).mem_iff.mp hk.1)⟩
theorem norm_snoc (a : List Str) (k : Str) (u : U) : norm (a ++ [k]) u = if lk u k = 0 then norm a u else norm a u ++ [(k, lk u k)] := by
  unfold norm
  rw [List.filter_append, List.map_append]
  by_cases e : lk u k = 0
  · rw [if_pos e, List.filter_cons_of_neg (by simp [e])]; simp
  · rw [if_neg e, List.filter_cons_of_pos (by simp [e])]; simp
theorem take_snoc {A : Type} {l : List A} {i : Nat} (h : i < l.length) : l.take (i + 1) = l.take i ++ [l[i]] := (List.take_append_getElem h).symm
theorem norm_len (a : List Str) (u : U) : (norm a u).length ≤ a.length := by
  unfold norm
  rw [List.length_map]; exact List.length_filter_le ..
theorem not_taken {l : List Str} (nd : l.Nodup) {i : Nat} (h : i < l.length) (u : U) : l[i] ∉ keys (norm (l.take i) u) := fun z => by
  rw [UX.keys_norm, List.mem_filter] at z
  have h2 : (l.take (i + 1)).Nodup := nd.sublist (List.take_sublist ..)
  rw [take_snoc h, List.nodup_append] at h2
  exact h2.2.2 _ z.1 _ List.mem_cons_self rfl
/-- a named dict: sorted names -/
theorem names_ok {u : U} (nm : NM u) : (isort (keys u)).length ≤ 4 := by
  rw [(isort_pm _).length_eq]; unfold keys; rw [List.length_map]; exact nm.len
theorem p_sorted {u : U} {d : Nat} {h : Hx} (v : DV h d u) (nm : NM u) : pickN [kSorted] [.ref d] h = .ok (.ref h.n) (h.new (.lst ((isort (keys u)).map Vx.str))) := pickN_cons (by
  unfold kSorted toSort
  have hl : (keys u).length < 64 := by have := nm.len; unfold keys; rw [List.length_map]; omega
  simp only [v.asL, v.asD, ktxts_eI, show Nat.blt (keys u).length 64 = true from Nat.ble_eq.mpr hl, cond_true])
theorem p_sortedL {l : List Str} {d : Nat} {h : Hx} (v : LV h d (l.map Vx.str)) (hl : l.length < 64) : pickN [kSorted] [.ref d] h = .ok (.ref h.n) (h.new (.lst ((isort l).map Vx.str))) := pickN_cons (by
  unfold kSorted toSort
  simp only [v.asL, txts_str, show Nat.blt l.length 64 = true from Nat.ble_eq.mpr hl, cond_true])
theorem eI_keys (u : U) : (eI u).map (fun p => kx p.1) = (keys u).map Vx.str := by
  unfold eI keys
  rw [List.map_map, List.map_map]; rfl
theorem p_list {u : U} {d : Nat} {h : Hx} (v : DV h d u) : pickN [kList] [.ref d] h = .ok (.ref h.n) (h.new (.lst ((keys u).map Vx.str))) := pickN_cons (by
  unfold kList toList
  simp only [v.asL, v.asT, v.asD, eI_keys])
theorem p_isD {u : U} {d : Nat} {h : Hx} (v : DV h d u) : pickN [kIsi kit] [.ref d, .ty .dict] h = .ok (.bl true) h := pickN_cons (by
  unfold kIsi tyW
  simp only [v.g]
  rfl)
theorem lk_in {u : U} {k : Str} (h : k ∈ isort (keys u)) : k ∈ keys u := (isort_pm _).mem_iff.mp h
theorem items_at {u : U} {i : Nat} (nm : NM u) (h : i < u.length) : u[i].1 ∈ nm4 := nm.mem _ (List.mem_map_of_mem (List.getElem_mem h))
theorem init_ok {i d : Nat} {u : U} {h : Hx} (hi : i < h.n) (g : h.get i = some (.ins 4 [])) (v : DV h d u) (nm : NM u) (ne : d ≠ i) :
    Ok (f_Unit___init__ [.ref i, .ref d] h) fun w h' => w = .non ∧ Fx1 i h h' ∧ ∃ p, h'.get i = some (.ins 4 [(s_4, .ref p)]) ∧ p ≠ i ∧ DV h' p (cn u) := by
  refine Ok_fnx rfl ?_
  show OkS (m_Unit___init__ [some (.ref i), some (.ref d), none, none] h) _ _
  unfold m_Unit___init__
  simp [p_isD v]
  have hlen := nm.len
  refine lockE_ok (d := d) (kvs := eI u) rfl v.g v.lt ?_
  have hg : (lockD d (eI u) h).get d = some (.lk (.dK (eI u))) := by unfold lockD; rw [Hx.get_put, if_pos rfl]
  have hn : (lockD d (eI u) h).n = h.n := rfl
  refine vlc_ok (ix := .items d) (h1 := lockD d (eI u) h) (by
      unfold idict
      simp only [var, sl_s, sl_0, Rx.bind, lkD_at hg]) u.length (by unfold turns; simp only [lkD_at hg, eI_len])
    (fun k hx => LV hx h.n (List.replicate k (.bl true)) ∧ Fx1 d h hx ∧ hx.get d = some (.lk (.dK (eI u)))) ⟨LV.new _ _, (Fx1.put Fx1.rfl _).trans ((Fr.new _ _).x d), by rw [Hx.get_new, hn, if_neg (Nat.ne_of_gt v.lt)]; exact hg⟩ (fun k hx hk hI => ?_) fun hx hI => ?_
  · obtain ⟨I1, I2, I3⟩ := hI
    refine ⟨_, _, _, step_items I3 hk, bd_pair, ?_⟩
    simp [tyes, stoL, wipeL]
    refine (is_name (items_at nm hk)).mono fun w h1 z => ?_
    obtain ⟨rfl, fr⟩ := z
    have fr := (Fr.new hx _).trans fr
    simp [is_integer]
    have I1' := I1.fr fr
    refine ⟨_, addL_is I1' (by rw [List.length_replicate]; omega), ?_, ?_, ?_⟩
    · rw [rep_snoc]
      exact ⟨I1'.lt, by rw [Hx.get_put, hn, if_pos rfl]⟩
    · have := I2.trans (fr.x d)
      exact ⟨this.n, fun j z z2 => by rw [Hx.get_put, hn, if_neg (Nat.ne_of_gt z)]; exact this.g j z z2⟩
    · have hd := Nat.lt_of_lt_of_le v.lt I2.n
      rw [Hx.get_put, hn, if_neg (Nat.ne_of_gt v.lt), fr.g d hd]; exact I3
  · obtain ⟨I1, I2, I3⟩ := hI
    refine ⟨step_items_end I3, I2, I3, fun fr => ?_⟩
    have I1' : LV (hx.put d (.dK (eI u))) h.n (List.replicate u.length (.bl true)) := ⟨I1.lt, by rw [Hx.get_put, if_neg (Nat.ne_of_lt v.lt)]; exact I1.g⟩
    generalize hx.put d (.dK (eI u)) = h1 at fr I1'
    show Ok (pickN [kAll] [.ref h.n] h1) _
    rw [p_all I1']
    simp
    have v1 := v.fr fr
    refine mfld_ok ?_
    refine vdc_ok (ix := .lst (h1.n + 1)) (h1 := (h1.new (.lst ((keys u).map Vx.str))).new (.lst ((isort (keys u)).map Vx.str))) (by
        have e2 := p_sortedL (LV.new h1 ((keys u).map Vx.str)) (by have := nm.len; unfold keys; rw [List.length_map]; omega)
        have e3 := (LV.new (h1.new (.lst ((keys u).map Vx.str))) ((isort (keys u)).map Vx.str)).seq
        simp only [iseq, vcall, esc, esn, var, sl_s, sl_0, Rx.bind, p_list v1, e2]
        exact e3) (isort (keys u)).length (by
        have e3 := (LV.new (h1.new (.lst ((keys u).map Vx.str))) ((isort (keys u)).map Vx.str)).asL
        unfold turns
        have e3 : SV.asL (.ref (h1.n + 1)) ((h1.new (.lst ((keys u).map Vx.str))).new (.lst ((isort (keys u)).map Vx.str))) = _ := e3
        simp only [e3, List.length_map])
      (fun k hx => DV hx (h1.n + 2) (norm ((isort (keys u)).take k) u) ∧ LV hx (h1.n + 1) ((isort (keys u)).map Vx.str) ∧ Fr h1 hx)
      ⟨by rw [List.take_zero]; exact DV.new _ [], ((LV.new _ _).fr (Fr.new _ _)), ((Fr.new _ _).trans (Fr.new _ _)).trans (Fr.new _ _)⟩ (fun k hx hk hI => ?_) fun hx hI => ?_
    · obtain ⟨J1, J2, J3⟩ := hI
      have hm : (isort (keys u))[k] ∈ isort (keys u) := List.getElem_mem hk
      have vx := v1.fr J3
      refine ⟨_, _, _, step_lst J2 (by rw [List.length_map]; exact hk), rfl, ?_⟩
      have e4 := p_ixD vx.r (lk_in hm)
      rw [List.getElem_map]
      simp [stoL, wipeL, e4]
      rw [take_snoc hk, norm_snoc]
      by_cases q : lk u (isort (keys u))[k] = 0
      · rw [if_pos q]
        exact .inl ⟨q, J1, J2, J3⟩
      · rw [if_neg q]
        have hle : (norm ((isort (keys u)).take k) u).length < 16777216 := by
          have := norm_len ((isort (keys u)).take k) u
          rw [List.length_take] at this
          have := names_ok nm
          omega
        refine .inr ⟨q, _, addD_is J1 hle, ?_, ?_, ?_⟩
        · rw [put_new (not_taken (isort_nd nm.nd) hk u)]
          exact DV.put (h := hx) J1.lt
        · exact ⟨J2.lt, by rw [Hx.get_put, if_neg (by show ¬ (h1.n + 2 = h1.n + 1); omega)]; exact J2.g⟩
        · exact J3.put (by show h1.n ≤ h1.n + 2; omega) _
    · obtain ⟨J1, J2, J3⟩ := hI
      refine ⟨by have := step_lst_end J2; rw [List.length_map] at this; exact this, i, 4, [], rfl, ?_, rfl, by decide, ?_, h1.n + 2, ?_, ?_, ?_⟩
      · rw [J3.g i (Nat.lt_of_lt_of_le hi fr.n), fr.g i hi]; exact g
      · exact ((fr.trans J3).x i).put _
      · rw [Hx.get_put, if_pos rfl]; rfl
      · have := fr.n; omega
      · have := fr.n
        have e5 : norm ((isort (keys u)).take (isort (keys u)).length) u = cn u := by rw [List.take_length]; rfl
        rw [e5] at J1
        exact ⟨J1.lt, by rw [Hx.get_put, if_neg (by omega)]; exact J1.g⟩
end K31

set_option Elab.async false
set_option linter.all false
set_option maxRecDepth 100000
set_option maxHeartbeats 4800000
namespace K31
open PySem PySem.Spec PyProof.Rows L2 SV
open UX (U keys lk has Canon norm)
structure UV (h : Hx) (i : Nat) (u : U) : Prop where
  lt : i < h.n
  ex : ∃ p, h.get i = some (.ins 4 [(s_4, .ref p)]) ∧ DV h p u
theorem UV.fr {h h' : Hx} {i : Nat} {u : U} (v : UV h i u) (f : Fr h h') : UV h' i u := by
  obtain ⟨p, e, d⟩ := v.ex
  exact ⟨Nat.lt_of_lt_of_le v.lt f.n, p, (f.g _ v.lt).trans e, d.fr f⟩
theorem UV.asI {h : Hx} {i : Nat} {u : U} (v : UV h i u) : ∃ p, SV.asI (.ref i) h = some (4, [(s_4, .ref p)]) := by
  obtain ⟨p, e, d⟩ := v.ex
  exact ⟨p, by unfold SV.asI; simp only [e]⟩
theorem seq_self (s : Str) : seq s s = true := by rw [@seq_is ga0]; simp
theorem a_parts {h : Hx} {i p : Nat} (e : h.get i = some (.ins 4 [(s_4, .ref p)])) : attrV at_parts s_4 (.ref i) h = .ok (.ref p) h := by
  unfold attrV SV.asI
  simp only [e]
  rfl
theorem p_isU {h : Hx} {i : Nat} {u : U} (v : UV h i u) : pickN [kIsi kit] [.ref i, .fn 4] h = .ok (.bl true) h := pickN_cons (by
  obtain ⟨p, e, d⟩ := v.ex
  unfold kIsi tyW
  simp only [e]
  rfl)
theorem mk_ok {d : Nat} {u : U} {h : Hx} (v : DV h d u) (nm : NM u) : Ok (mk 4 f_Unit___init__ [.ref d] h) fun w h' => ∃ i, w = .ref i ∧ Fr h h' ∧ UV h' i (cn u) := by
  unfold mk
  rw [Ok_bind]
  have f0 := Fr.new h (.ins 4 [])
  refine (init_ok (i := h.n) (Nat.lt_succ_self _) (by rw [Hx.get_new, if_pos rfl]) (v.fr f0) nm (Nat.ne_of_lt v.lt)).mono fun w h' z => ?_
  obtain ⟨rfl, fr, p, g, _, dv⟩ := z
  refine ⟨h.n, rfl, ⟨Nat.le_trans f0.n fr.n, fun j hj => ?_⟩, Nat.lt_of_lt_of_le (Nat.lt_succ_self _) fr.n, p, g, dv⟩
  rw [fr.g j (Nat.lt_succ_of_lt hj) (Nat.ne_of_lt hj), f0.g j hj]
def jn (a b : U) (c : Int) : U := (keys (mergeU a b)).map fun k => (k, lk a k + c * lk b k)
theorem keys_map (l : List Str) (f : Str → Int) : keys (l.map fun k => (k, f k)) = l := by
  unfold keys
  rw [List.map_map]; exact List.map_id' _
theorem lk_map {l : List Str} (nd : l.Nodup) (f : Str → Int) {k : Str} (h : k ∈ l) : lk (l.map fun k => (k, f k)) k = f k :=
  UX.lk_mem (u := l.map fun k => (k, f k)) (by rw [keys_map]; exact nd) (p := (k, f k)) (List.mem_map_of_mem h)
theorem jn_keys (a b : U) (c : Int) : keys (jn a b c) = keys (mergeU a b) := keys_map _ _
theorem jn_nm {a b : U} {c : Int} (ha : NM a) (hb : NM b) : NM (jn a b c) := ⟨by rw [jn_keys]; exact nd_mergeU b ha.nd, fun k hk => by
  rw [jn_keys, mem_mergeU] at hk
  exact hk.elim (ha.mem k) (hb.mem k)⟩
theorem jn_lk {a b : U} {c : Int} (ha : NM a) (hb : NM b) (k : Str) : lk (jn a b c) k = lk a k + c * lk b k := by
  by_cases h : k ∈ keys (mergeU a b)
  · exact lk_map (nd_mergeU b ha.nd) (fun k => lk a k + c * lk b k) h
  · rw [UX.lk_not (by rw [jn_keys]; exact h)]
    rw [mem_mergeU, not_or] at h
    rw [UX.lk_not h.1, UX.lk_not h.2]; simp
theorem vdict2_ok {ma mb : Ex} {l : Lx} {h : Hx} {pa pb : Nat} {a b : U} {P : Vx → Hx → Prop} (e1 : ∀ h', Fr h h' → ma l h' = .ok (.ref pa) h') (e2 : ∀ h', Fr h h' → mb l h' = .ok (.ref pb) h') (va : DV h pa a) (vb : DV h pb b) (na : NM a) (nb : NM b)
    (k : ∀ h', Fr h h' → DV h' h.n (mergeU a b) → P (.ref h.n) h') : Ok (vdict2 ma mb l h) P := by
  unfold vdict2
  have f0 := Fr.new h (.dK [])
  rw [e1 _ f0]
  have g0 : (h.new (.dK [])).get h.n = some (.dK (eI [])) := by rw [Hx.get_new, if_pos rfl]; rfl
  have va0 := va.fr f0
  have d0 : SV.dkAt (.ref h.n) (h.new (.dK [])) = some (h.n, []) := by unfold SV.dkAt; simp only [g0]; rfl
  have ma0 : mergeX [] (eI a) = eI a := by
    have := mergeX_eI a []
    rw [mergeU_new a (by rw [List.nil_append]; exact na.nd), List.nil_append] at this
    exact this
  simp only [Rx.bind, vd2a, va0.dkAt, d0, nbeq (Nat.ne_of_lt va.lt), cond_false, ma0]
  have f1 := f0.put (Nat.le_refl _) (.dK (eI a))
  rw [e2 _ f1]
  have v1 : DV ((h.new (.dK [])).put h.n (.dK (eI a))) h.n a := DV.put (Nat.lt_succ_self _)
  have hl : Nat.ble ((eI a).length + (eI b).length) sline = true := by
    rw [eI_len, eI_len]
    have := na.len
    have := nb.len
    exact Nat.ble_eq.mpr (by unfold sline; omega)
  simp only [Rx.bind, vd2b, (vb.fr f1).dkAt, v1.dkAt, nbeq (Nat.ne_of_lt vb.lt), hl, Bool.not_true, Bool.or_false, cond_false, mergeX_eI, Ok_ok]
  exact k _ (f1.put (Nat.le_refl _) _) (DV.put (Nat.lt_succ_self _))
theorem joined_ok {h : Hx} {a b : Nat} {ua ub : U} {c : Int} (va : UV h a ua) (vb : UV h b ub) (na : NM ua) (nb : NM ub) (hc : sm64 c = true) :
    Ok (f_joined [.ref a, .ref b, .int c] h) fun w h' => ∃ d, w = .ref d ∧ Fr h h' ∧ DV h' d (jn ua ub c) := by
  obtain ⟨pa, ga, da⟩ := va.ex
  obtain ⟨pb, gb, db⟩ := vb.ex
  refine Ok_fnx rfl ?_
  show OkS (m_joined [some (.ref a), some (.ref b), some (.int c), none, none] h) _ _
  unfold m_joined
  simp [p_isU vb]
  have ea : ∀ (l : Lx) h', Fr h h' → sl l 0 = some (.ref a) → un (attrV at_parts s_4) (var 0) l h' = .ok (.ref pa) h' := fun l h' fr e => by
    unfold un var
    rw [e]
    exact a_parts ((fr.g a va.lt).trans ga)
  have eb : ∀ (l : Lx) h', Fr h h' → sl l 1 = some (.ref b) → un (attrV at_parts s_4) (var 1) l h' = .ok (.ref pb) h' := fun l h' fr e => by
    unfold un var
    rw [e]
    exact a_parts ((fr.g b vb.lt).trans gb)
  refine vdict2_ok (fun h' fr => ea _ h' fr rfl) (fun h' fr => eb _ h' fr rfl) da db na nb fun h1 fr dm => ?_
  rw [p_list dm]
  simp
  have nd : (keys (mergeU ua ub)).Nodup := nd_mergeU ub na.nd
  have nm : NM (jn ua ub c) := jn_nm na nb
  have hl4 : (keys (mergeU ua ub)).length ≤ 4 := by
    have := nm.len
    unfold jn at this
    rwa [List.length_map] at this
  have hL := LV.new h1 ((keys (mergeU ua ub)).map Vx.str)
  have fr2 := fr.trans (Fr.new h1 (.lst ((keys (mergeU ua ub)).map Vx.str)))
  generalize h1.new (.lst ((keys (mergeU ua ub)).map Vx.str)) = h2 at hL fr2
  generalize h1.n = q at hL
  refine lockE_no (by unfold dictAt var; simp only [sl_s, sl_0, hL.g]) ?_
  refine vdc_ok (ix := .lst q) (h1 := h2) (by
      simp only [iseq, var, sl_s, sl_0, Rx.bind]
      exact hL.seq) (keys (mergeU ua ub)).length (by unfold turns; simp only [hL.asL, List.length_map])
    (fun k hx => DV hx h2.n (((keys (mergeU ua ub)).take k).map fun k => (k, lk ua k + c * lk ub k)) ∧ Fr h2 hx)
    ⟨by rw [List.take_zero]; exact DV.new _ [], Fr.new _ _⟩ (fun k hx hk hI => ?_) fun hx hI => ?_
  · obtain ⟨I1, I2⟩ := hI
    have I2' := fr2.trans I2
    refine ⟨_, _, _, step_lst (hL.fr I2) (by rw [List.length_map]; exact hk), rfl, ?_⟩
    rw [List.getElem_map]
    simp [tyes, stoL, wipeL]
    refine ok_get2 (d := pa) (ea _ _ I2' rfl) rfl rfl (da.fr I2').r ?_
    refine ok_get2 (d := pb) (k := (keys (mergeU ua ub))[k]) (eb _ _ I2' rfl) rfl rfl (db.fr I2').r ?_
    rw [p_mul (by rw [hc]; rfl)]
    simp
    have hnot : (keys (mergeU ua ub))[k] ∉ keys (((keys (mergeU ua ub)).take k).map fun k => (k, lk ua k + c * lk ub k)) := by
      rw [keys_map]
      intro z
      have h2 := nd.sublist (List.take_sublist (k + 1) _)
      rw [take_snoc hk, List.nodup_append] at h2
      exact h2.2.2 _ z _ List.mem_cons_self rfl
    refine ⟨_, addD_is I1 (by rw [List.length_map, List.length_take]; omega), ?_, I2.put (Nat.le_refl _) _⟩
    rw [put_new hnot, ← List.map_take, take_snoc hk, List.map_append]
    exact DV.put (h := hx) I1.lt
  · obtain ⟨I1, I2⟩ := hI
    refine ⟨by have := step_lst_end (hL.fr I2); rw [List.length_map] at this; exact this, h2.n, rfl, fr2.trans I2, ?_⟩
    rw [List.take_length] at I1
    exact I1
end K31

set_option Elab.async false
set_option linter.all false
set_option maxRecDepth 100000
set_option maxHeartbeats 4800000
namespace K31
open PySem PySem.Spec PyProof.Rows L2 SV
open UX (U keys lk has Canon norm)
structure CU (u : U) : Prop where
  c : Canon u
  nm : NM u
theorem cn_cu {u : U} (h : NM u) : CU (cn u) := ⟨cn_canon h.nd, cn_nm h⟩
def UQ (h h' : Hx) (w : Vx) (f : Str → Int) : Prop := ∃ i u, w = .ref i ∧ Fr h h' ∧ UV h' i u ∧ CU u ∧ ∀ k, lk u k = f k
theorem mkq {d : Nat} {u : U} {h0 h : Hx} {f : Str → Int} (fr : Fr h0 h) (v : DV h d u) (nm : NM u) (hf : ∀ k, lk u k = f k) : Ok (mk 4 f_Unit___init__ [.ref d] h) fun w h' => UQ h0 h' w f :=
  (mk_ok v nm).mono fun w h' z => by
    obtain ⟨i, rfl, fr2, uv⟩ := z
    exact ⟨i, _, rfl, fr.trans fr2, uv, cn_cu nm, fun k => (cn_lk nm.nd k).trans (hf k)⟩
theorem mul_ok {h : Hx} {a b : Nat} {ua ub : U} (va : UV h a ua) (vb : UV h b ub) (na : NM ua) (nb : NM ub) : Ok (f_Unit___mul__ [.ref a, .ref b] h) fun w h' => UQ h h' w fun k => lk ua k + lk ub k := by
  refine Ok_fnx rfl ?_
  show OkS (m_Unit___mul__ [some (.ref a), some (.ref b)] h) _ _
  unfold m_Unit___mul__
  simp
  refine (joined_ok va vb na nb (by decide)).mono fun w h1 z => ?_
  obtain ⟨d, rfl, fr, dv⟩ := z
  exact mkq fr dv (jn_nm na nb) fun k => by rw [jn_lk na nb]; omega
theorem div_ok {h : Hx} {a b : Nat} {ua ub : U} (va : UV h a ua) (vb : UV h b ub) (na : NM ua) (nb : NM ub) : Ok (f_Unit___floordiv__ [.ref a, .ref b] h) fun w h' => UQ h h' w fun k => lk ua k - lk ub k := by
  refine Ok_fnx rfl ?_
  show OkS (m_Unit___floordiv__ [some (.ref a), some (.ref b)] h) _ _
  unfold m_Unit___floordiv__
  simp
  refine (joined_ok va vb na nb (by decide)).mono fun w h1 z => ?_
  obtain ⟨d, rfl, fr, dv⟩ := z
  exact mkq fr dv (jn_nm na nb) fun k => by rw [jn_lk na nb]; omega
theorem items_comp {mo ve : Ex} {a b : Nat} {l : Lx} {h : Hx} {d : Nat} {u : U} {f : Int → Int} (e1 : mo l h = .ok (.ref d) h) (e2 : mo l (lockD d (eI u) h) = .ok (.ref d) (lockD d (eI u) h)) (v : DV h d u) (nm : NM u)
    (hk : ∀ k x, sl (stoL (wipeL l [a, b]) [(a, .str k), (b, .int x)]) a = some (.str k)) (hv : ∀ k x hx, ve (stoL (wipeL l [a, b]) [(a, .str k), (b, .int x)]) hx = .ok (.int (f x)) hx) :
    Ok (lockE mo (vdc (idict .items mo) (.tup (.cons (.nm a) (.cons (.nm b) .nil))) tyes (var a) ve [a, b]) l h) fun w h' => ∃ q, w = .ref q ∧ Fr h h' ∧ DV h' q (u.map fun p => (p.1, f p.2)) ∧ h.n ≤ q := by
  refine lockE_ok (d := d) (kvs := eI u) e1 v.g v.lt ?_
  have hg : (lockD d (eI u) h).get d = some (.lk (.dK (eI u))) := by unfold lockD; rw [Hx.get_put, if_pos rfl]
  have hn : (lockD d (eI u) h).n = h.n := rfl
  have hlen := nm.len
  have hkeys : ∀ l : U, keys (l.map fun p => (p.1, f p.2)) = keys l := fun l => by unfold keys; rw [List.map_map]; rfl
  refine vdc_ok (ix := .items d) (h1 := lockD d (eI u) h) (by
      unfold idict
      rw [e2]
      simp only [Rx.bind, lkD_at hg]) u.length (by unfold turns; simp only [lkD_at hg, eI_len])
    (fun k hx => DV hx h.n ((u.take k).map fun p => (p.1, f p.2)) ∧ Fx1 d h hx ∧ hx.get d = some (.lk (.dK (eI u))))
    ⟨by rw [List.take_zero]; exact DV.new _ [], (Fx1.put Fx1.rfl _).trans ((Fr.new _ _).x d), by rw [Hx.get_new, hn, if_neg (Nat.ne_of_gt v.lt)]; exact hg⟩ (fun k hx hi hI => ?_) fun hx hI => ?_
  · obtain ⟨I1, I2, I3⟩ := hI
    refine ⟨_, _, _, step_items I3 hi, bd_pair, ?_⟩
    simp only [tyes, Ok_ok, if_true, Ok_var, hk, hv, Option.some.injEq, exists_eq_left']
    have fr := Fr.new hx (.tup [.str u[k].1, .int u[k].2])
    have I1' := I1.fr fr
    have hd := Nat.lt_of_lt_of_le v.lt I2.n
    refine ⟨_, addD_is I1' (by rw [List.length_map, List.length_take]; omega), ?_, ?_, ?_⟩
    · have hnot : u[k].1 ∉ keys ((u.take k).map fun p => (p.1, f p.2)) := by
        rw [hkeys]
        intro z
        have h2 : (keys (u.take (k + 1))).Nodup := by
          unfold keys; rw [List.map_take]; exact nm.nd.sublist (List.take_sublist ..)
        rw [take_snoc hi] at h2
        unfold keys at h2 z
        rw [List.map_append, List.nodup_append] at h2
        exact h2.2.2 _ z _ List.mem_cons_self rfl
      rw [put_new hnot, take_snoc hi, List.map_append]
      exact DV.put (h := hx.new _) I1'.lt
    · have := I2.trans (fr.x d)
      exact ⟨this.n, fun j z z2 => by rw [Hx.get_put, hn, if_neg (Nat.ne_of_gt z)]; exact this.g j z z2⟩
    · rw [Hx.get_put, hn, if_neg (Nat.ne_of_gt v.lt), fr.g d hd]; exact I3
  · obtain ⟨I1, I2, I3⟩ := hI
    rw [List.take_length] at I1
    refine ⟨step_items_end I3, I2, I3, fun fr => ⟨h.n, rfl, fr, ?_, Nat.le_refl _⟩⟩
    exact ⟨I1.lt, by rw [Hx.get_put, if_neg (Nat.ne_of_lt v.lt)]; exact I1.g⟩
theorem map_same (u : U) : (u.map fun p => (p.1, (fun x : Int => x) p.2)) = u := List.map_id' _
theorem ux_lk_map (f : Int → Int) (h0 : f 0 = 0) : ∀ (u : U) (k : Str), lk (u.map fun p => (p.1, f p.2)) k = f (lk u k)
  | [], _ => h0.symm
  | p :: r, k => by
    show (if p.1 = k then f p.2 else lk (r.map fun p => (p.1, f p.2)) k) = f (if p.1 = k then p.2 else lk r k)
    by_cases e : p.1 = k
    · rw [if_pos e, if_pos e]
    · rw [if_neg e, if_neg e, ux_lk_map f h0 r k]
theorem ne_ins {h : Hx} {a p : Nat} {u : U} {C : Nat} {fs : List (Str × Vx)} (g : h.get a = some (.ins C fs)) (d : DV h p u) : p ≠ a := fun e => by
  subst e
  rw [d.g] at g
  cases g
theorem un_parts {l : Lx} {h : Hx} {i a p : Nat} (e : sl l i = some (.ref a)) (g : h.get a = some (.ins 4 [(s_4, .ref p)])) : un (attrV at_parts s_4) (var i) l h = .ok (.ref p) h := by
  unfold un var
  rw [e]
  exact a_parts g
theorem powers_ok {h : Hx} {a : Nat} {ua : U} (va : UV h a ua) (na : NM ua) : Ok (f_Unit_powers [.ref a] h) fun w h' => ∃ q, w = .ref q ∧ Fr h h' ∧ DV h' q ua ∧ h.n ≤ q := by
  obtain ⟨p, g, d⟩ := va.ex
  refine Ok_fnx rfl ?_
  show OkS (m_Unit_powers [some (.ref a), none, none] h) _ _
  unfold m_Unit_powers
  rw [OkS_mret]
  have := items_comp (mo := un (attrV at_parts s_4) (var 0)) (ve := var 2) (a := 1) (b := 2) (l := [some (.ref a), none, none]) (f := fun x => x) (un_parts rfl g) (un_parts rfl (by
    unfold lockD; rw [Hx.get_put, if_neg (ne_ins g d)]; exact g)) d na (fun k x => rfl) (fun k x hx => rfl)
  rw [map_same] at this
  exact this
theorem powered_ok {h : Hx} {a : Nat} {ua : U} {e : Int} (va : UV h a ua) (na : NM ua) (he : sm64 e = true) : Ok (f_powered [.ref a, .int e] h) fun w h' => UQ h h' w fun k => lk ua k * e := by
  obtain ⟨p, g, d⟩ := va.ex
  refine Ok_fnx rfl ?_
  show OkS (m_powered [some (.ref a), some (.int e), none, none] h) _ _
  unfold m_powered
  simp [is_integer]
  have := items_comp (mo := un (attrV at_parts s_4) (var 0)) (ve := bin (pick2 [kMul, kMulW]) (var 3) (var 1)) (a := 2) (b := 3) (l := [some (.ref a), some (.int e), none, none]) (f := fun x => x * e) (un_parts rfl g) (un_parts rfl (by
    unfold lockD; rw [Hx.get_put, if_neg (ne_ins g d)]; exact g)) d na (fun k x => rfl) (fun k x hx => p_mul (by rw [he, Bool.or_true]) _ _)
  refine this.mono fun w h1 z => ?_
  obtain ⟨q, rfl, fr, dv, _⟩ := z
  refine mkq fr dv ⟨?_, ?_⟩ fun k => ux_lk_map (fun x => x * e) (Int.zero_mul e) ua k
  · unfold keys; rw [List.map_map]; exact na.nd
  · unfold keys; rw [List.map_map]; exact na.mem
theorem pow_ok {h : Hx} {a : Nat} {ua : U} {e : Int} (va : UV h a ua) (na : NM ua) (he : sm64 e = true) : Ok (f_Unit___pow__ [.ref a, .int e] h) fun w h' => UQ h h' w fun k => lk ua k * e := by
  refine Ok_fnx rfl ?_
  show OkS (m_Unit___pow__ [some (.ref a), some (.int e)] h) _ _
  unfold m_Unit___pow__
  simp
  exact powered_ok va na he
theorem p_ownI {h : Hx} {a : Nat} {ua : U} {e : Int} (va : UV h a ua) (gs) : pick2 (ownI ow__pow__ :: gs) (.ref a) (.int e) h = f_Unit___pow__ [.ref a, .int e] h := by
  obtain ⟨p, g⟩ := va.asI
  exact pick2_cons (by unfold ownI; simp only [g]; rfl)
theorem law_power_ok {h : Hx} {a : Nat} {ua : U} {e : Int} (va : UV h a ua) (na : NM ua) (h0 : 0 ≤ e) (h3 : e ≤ 3) : Ok (f__law_power [.ref a, .int e] h) fun w h' => UQ h h' w fun k => lk ua k * e := by
  refine Ok_fnx rfl ?_
  show OkS (m__law_power [some (.ref a), some (.int e)] h) _ _
  unfold m__law_power
  rcases (by omega : e = 0 ∨ e = 1 ∨ e = 2 ∨ e = 3) with rfl | rfl | rfl | rfl
  · simp
    rw [p_ownI va]; simpa using pow_ok (e := 0) va na (by decide)
  · simp
    rw [p_ownI va]; simpa using pow_ok (e := 1) va na (by decide)
  · simp
    rw [p_ownI va]; exact pow_ok va na (by decide)
  · simp
    rw [p_ownI va]; exact pow_ok va na (by decide)
theorem eq_ok {h : Hx} {a b : Nat} {ua ub : U} (va : UV h a ua) (vb : UV h b ub) (ca : CU ua) (cb : CU ub) : f_Unit___eq__ [.ref a, .ref b] h = .ok (.bl (decide (ua = ub))) h := by
  obtain ⟨pa, ga, da⟩ := va.ex
  obtain ⟨pb, gb, db⟩ := vb.ex
  have e1 : pick2 [kEq, kEqI, kEqD] (.ref pa) (.ref pb) h = .ok (.bl (decide (ua = ub))) h := by
    rw [pick2_skip (by rfl)]
    refine pick2_cons ?_
    unfold kEqI eqDI
    simp only [da.dkAt, db.dkAt, allI_eI, Bool.and_self, cond_true, dEqX_canon ca.c cb.c]
  have : Ok (f_Unit___eq__ [.ref a, .ref b] h) fun w h' => w = .bl (decide (ua = ub)) ∧ h' = h := by
    refine Ok_fnx rfl ?_
    show OkS (m_Unit___eq__ [some (.ref a), some (.ref b)] h) _ _
    unfold m_Unit___eq__
    simp [p_isU vb, a_parts ga, a_parts gb, e1]
  obtain ⟨w, h', e, rfl, rfl⟩ := this.get
  exact e
theorem bool_ok {h : Hx} {a : Nat} {ua : U} (va : UV h a ua) (na : NM ua) : f_Unit___bool__ [.ref a] h = .ok (.bl (decide (0 < (ua.length : Int)))) h := by
  obtain ⟨pa, ga, da⟩ := va.ex
  have e1 : pickN [kLen] [.ref pa] h = .ok (.int ua.length) h := pickN_cons (by
    unfold kLen lenV
    simp only [da.rd, eI_len])
  have : Ok (f_Unit___bool__ [.ref a] h) fun w h' => w = .bl (decide (0 < (ua.length : Int))) ∧ h' = h := by
    refine Ok_fnx rfl ?_
    show OkS (m_Unit___bool__ [some (.ref a)] h) _ _
    unfold m_Unit___bool__
    simp [a_parts ga, e1]
  obtain ⟨w, h', e, rfl, rfl⟩ := this.get
  exact e
theorem in_ok {h : Hx} {a : Nat} {ua : U} {k : Str} (va : UV h a ua) : f_Unit___contains__ [.ref a, .str k] h = .ok (.bl (has ua k)) h := by
  obtain ⟨pa, ga, da⟩ := va.ex
  have : Ok (f_Unit___contains__ [.ref a, .str k] h) fun w h' => w = .bl (has ua k) ∧ h' = h := by
    refine Ok_fnx rfl ?_
    show OkS (m_Unit___contains__ [some (.ref a), some (.str k)] h) _ _
    unfold m_Unit___contains__
    simp [a_parts ga, p_inD da.r]
  obtain ⟨w, h', e, rfl, rfl⟩ := this.get
  exact e
theorem ix_ok {h : Hx} {a : Nat} {ua : U} {k : Str} (va : UV h a ua) : f_Unit___getitem__ [.ref a, .str k] h = .ok (.int (lk ua k)) h := by
  obtain ⟨pa, ga, da⟩ := va.ex
  have : Ok (f_Unit___getitem__ [.ref a, .str k] h) fun w h' => w = .int (lk ua k) ∧ h' = h := by
    refine Ok_fnx rfl ?_
    show OkS (m_Unit___getitem__ [some (.ref a), some (.str k)] h) _ _
    unfold m_Unit___getitem__
    simp [a_parts ga, p_inD da.r]
    by_cases q : k ∈ keys ua
    · rw [UX.has_iff.mpr q, p_ixD da.r q]; simp
    · rw [show has ua k = false from by rw [← Bool.not_eq_true]; exact fun z => q (UX.has_iff.mp z), UX.lk_not q]; simp
  obtain ⟨w, h', e, rfl, rfl⟩ := this.get
  exact e
end K31

set_option Elab.async false
set_option linter.all false
set_option maxRecDepth 100000
set_option maxHeartbeats 4800000
namespace K31
open PySem PySem.Spec PyProof.Rows L2 SV
open UX (U keys lk has Canon norm)
inductive TP (h : Hx) : List Vx → U → Prop where
  | nil : TP h [] []
  | cons {i : Nat} {p : Str × Int} {r : List Vx} {u : U} : i < h.n → h.get i = some (.tup [.str p.1, .int p.2]) → TP h r u → TP h (.ref i :: r) (p :: u)
theorem TP.pairs {h : Hx} : ∀ {r : List Vx} {u : U}, TP h r u → SV.pairs r h = some (eI u)
  | _, _, .nil => rfl
  | _, _, .cons (i := i) (p := p) (r := r) (u := u) lt g t => by
    unfold SV.pairs
    have e : asT (.ref i) h = some [.str p.1, .int p.2] := by unfold asT Hx.rd; simp only [g]; rfl
    simp only [e, kxOf, t.pairs]
    rfl
theorem TP.fr {h h' : Hx} (f : Fr h h') : ∀ {r : List Vx} {u : U}, TP h r u → TP h' r u
  | _, _, .nil => .nil
  | _, _, .cons lt g t => .cons (Nat.lt_of_lt_of_le lt f.n) ((f.g _ lt).trans g) (t.fr f)
theorem TP.put {h : Hx} {d : Nat} {xs ys : List Vx} (e : h.get d = some (.lst xs)) : ∀ {r : List Vx} {u : U}, TP h r u → TP (h.put d (.lst ys)) r u
  | _, _, .nil => .nil
  | _, _, .cons (i := i) lt g t => .cons lt (by
      rw [Hx.get_put, if_neg fun q => by rw [q] at e; rw [e] at g; cases g]; exact g) (t.put e)
theorem TP.snoc {h : Hx} {i : Nat} {p : Str × Int} (lt : i < h.n) (g : h.get i = some (.tup [.str p.1, .int p.2])) : ∀ {r : List Vx} {u : U}, TP h r u → TP h (r ++ [.ref i]) (u ++ [p])
  | _, _, .nil => .cons lt g .nil
  | _, _, .cons a b t => .cons a b (t.snoc lt g)
theorem TP.len {h : Hx} : ∀ {r : List Vx} {u : U}, TP h r u → r.length = u.length
  | _, _, .nil => rfl
  | _, _, .cons _ _ t => congrArg (· + 1) t.len
theorem p_dictL {h : Hx} {d : Nat} {rs : List Vx} {u : U} (v : LV h d rs) (t : TP h rs u) (nd : (keys u).Nodup) : pickN [kDict] [.ref d] h = .ok (.ref h.n) (h.new (.dK (eI u))) := pickN_cons (by
  have e : asD (.ref d) h = none := by unfold asD Hx.rd; simp only [v.g]; rfl
  have m : mergeX [] (eI u) = eI u := by
    have := mergeX_eI u []
    rw [mergeU_new u (by rw [List.nil_append]; exact nd), List.nil_append] at this
    exact this
  unfold kDict
  simp only [e, v.asL, t.pairs, m])
theorem plain_ok {h : Hx} {d : Nat} {u : U} (v : DV h d u) (nm : NM u) : Ok (f__law_plain [.ref d] h) fun w h' => ∃ q, w = .ref q ∧ Fr h h' ∧ DV h' q (cn u) := by
  refine Ok_fnx rfl ?_
  show OkS (m__law_plain [some (.ref d), none]  h) _ _
  unfold m__law_plain
  simp
  have hL := LV.new h ((isort (keys u)).map Vx.str)
  have fr := Fr.new h (.lst ((isort (keys u)).map Vx.str))
  have e1 := p_sorted v nm
  generalize h.new (.lst ((isort (keys u)).map Vx.str)) = h1 at hL fr e1
  generalize h.n = q at hL e1
  refine vlc_ok (ix := .lst q) (h1 := h1) (by
      simp only [iseq, vcall, esc, esn, var, sl_s, sl_0, Rx.bind, e1]
      exact hL.seq) (isort (keys u)).length (by unfold turns; simp only [hL.asL, List.length_map])
    (fun k hx => ∃ rs, LV hx h1.n rs ∧ TP hx rs (norm ((isort (keys u)).take k) u) ∧ Fr h1 hx)
    ⟨[], LV.new _ _, by rw [List.take_zero]; exact .nil, Fr.new _ _⟩ (fun k hx hk hI => ?_) fun hx hI => ?_
  · obtain ⟨rs, I1, I2, I3⟩ := hI
    have hm : (isort (keys u))[k] ∈ isort (keys u) := List.getElem_mem hk
    have vx := v.fr (fr.trans I3)
    refine ⟨_, _, _, step_lst (hL.fr I3) (by rw [List.length_map]; exact hk), rfl, ?_⟩
    rw [List.getElem_map]
    have e4 := p_ixD vx.r (lk_in hm)
    simp only [stoL, wipeL, List.foldl, List.set, Ok_tv, Ok_bin, Ok_var, Ok_cst, sl_0, sl_s, Option.some.injEq, exists_eq_left', e4, Ok_ok, p_ne, tru_bl]
    rw [take_snoc hk, norm_snoc]
    by_cases q : lk u (isort (keys u))[k] = 0
    · rw [if_neg (by simp [q]), if_pos q]
      exact ⟨rs, I1, I2, I3⟩
    · rw [if_pos (by simp [q]), if_neg q]
      unfold vtup
      simp only [Ok_bind, Ok_esc, Ok_bin, Ok_var, sl_0, sl_s, Option.some.injEq, exists_eq_left', e4, Ok_ok, Ok_esn]
      show ∃ h4, addL h1.n (.ref hx.n) (hx.new (.tup [.str (isort (keys u))[k], .int (lk u (isort (keys u))[k])])) = some h4 ∧ _
      have fr2 := Fr.new hx (.tup [.str (isort (keys u))[k], .int (lk u (isort (keys u))[k])])
      have hle : rs.length < 16777216 := by
        have := norm_len ((isort (keys u)).take k) u
        rw [List.length_take] at this
        have := names_ok nm
        have := I2.len
        omega
      have I1' := I1.fr fr2
      refine ⟨_, addL_is I1' hle, rs ++ [.ref hx.n], ⟨I1'.lt, by rw [Hx.get_put, if_pos rfl]⟩, ?_, (I3.trans fr2).put (Nat.le_refl _) _⟩
      exact TP.put I1'.g (TP.snoc (p := ((isort (keys u))[k], lk u (isort (keys u))[k])) (Nat.lt_succ_self _) (by rw [Hx.get_new, if_pos rfl]) (I2.fr fr2))
  · obtain ⟨rs, I1, I2, I3⟩ := hI
    refine ⟨by have := step_lst_end (hL.fr I3); rw [List.length_map] at this; exact this, ?_⟩
    rw [List.take_length] at I2
    show Ok (pickN [kDict] [.ref h1.n] hx) _
    rw [p_dictL I1 I2 (cn_canon nm.nd).nd]
    exact ⟨_, rfl, (fr.trans I3).trans (Fr.new _ _), DV.new _ _⟩
end K31

set_option Elab.async false
set_option linter.all false
set_option maxRecDepth 100000
set_option maxHeartbeats 4800000
namespace K31
open PySem PySem.Spec PyProof.Rows L2 SV
open UX (U keys lk has Canon norm)
theorem a_powers {h : Hx} {a : Nat} {ua : U} (va : UV h a ua) (na : NM ua) : Ok (attrV at_powers s_6 (.ref a) h) fun w h' => ∃ q, w = .ref q ∧ Fr h h' ∧ DV h' q ua ∧ h.n ≤ q := by
  obtain ⟨p, g⟩ := va.asI
  unfold attrV
  rw [g]
  show Ok (f_Unit_powers [.ref a] h).noX _
  rw [Ok_noX]
  exact powers_ok va na
theorem p_neI {h : Hx} {a b : Nat} {u v : U} (x : DV h a u) (y : DV h b v) (cu : Canon u) (cv : Canon v) : pick2 [kNe, kNeI, kNeD] (.ref a) (.ref b) h = .ok (.bl (!decide (u = v))) h := by
  rw [pick2_skip (by rfl)]
  refine pick2_cons ?_
  unfold kNeI eqDI
  simp only [x.dkAt, y.dkAt, allI_eI, Bool.and_self, cond_true, dEqX_canon cu cv]
theorem mapO_str (f : Vx → Option PyData) (hf : ∀ s, f (.str s) = some (.str s)) : ∀ l : List Str, mapO f (l.map Vx.str) = some (l.map PyData.str)
  | [] => rfl
  | s :: r => by
    show (match f (.str s), mapO f (r.map Vx.str) with | some d, some t => some (d :: t) | _, _ => none) = _
    rw [hf, mapO_str f hf r]; rfl
theorem dat_strs {h : Hx} {a : Nat} {l : List Str} (v : LV h a (l.map Vx.str)) : dat 8 (.ref a) h = some (.list (l.map PyData.str)) := by
  unfold dat
  have e : h.rd a = some (.lst (l.map Vx.str)) := by unfold Hx.rd; rw [v.g]; rfl
  simp only [e]
  rw [mapO_str _ (fun s => rfl)]
theorem eqds_strs : ∀ l : List Str, eqds (l.map PyData.str) (l.map PyData.str) = true
  | [] => rfl
  | s :: r => by
    show (bif SV.seq s s then eqds (r.map PyData.str) (r.map PyData.str) else false) = true
    rw [seq_self, eqds_strs r]; rfl
theorem p_neL {h : Hx} {a b : Nat} {l : List Str} (x : LV h a (l.map Vx.str)) (y : LV h b (l.map Vx.str)) (sh : SeqAt.shaped (.list (l.map PyData.str)) = true) : pick2 [kNe, kNeI, kNeD] (.ref a) (.ref b) h = .ok (.bl false) h := by
  rw [pick2_skip (by rfl), pick2_skip (by unfold kNeI eqDI dkAt; simp only [x.g])]
  refine pick2_cons ?_
  unfold kNeD eqDat
  have : eqd (.list (l.map PyData.str)) (.list (l.map PyData.str)) = true := eqds_strs l
  simp only [dat_strs x, dat_strs y, sh, Bool.and_self, cond_true, this]
  rfl
theorem p_own2 {f : Fx} {tb : Nat → Nat → Option Fx} {h : Hx} {a b : Nat} {ua ub : U} (e : tb 4 4 = some f) (va : UV h a ua) (vb : UV h b ub) (gs) : pick2 (own2 tb :: gs) (.ref a) (.ref b) h = f [.ref a, .ref b] h := by
  obtain ⟨p, g⟩ := va.asI
  obtain ⟨q, g2⟩ := vb.asI
  exact pick2_cons (by unfold own2; simp only [g, g2, e])
theorem p_eqU {h : Hx} {a b : Nat} {ua ub : U} (va : UV h a ua) (vb : UV h b ub) (ca : CU ua) (cb : CU ub) (gs) : pick2 (kEq :: own2 ow__eq__ :: gs) (.ref a) (.ref b) h = .ok (.bl (decide (ua = ub))) h := by
  rw [pick2_skip (by rfl), p_own2 (f := f_Unit___eq__) rfl va vb, eq_ok va vb ca cb]
theorem p_boolU {h : Hx} {a : Nat} {ua : U} (va : UV h a ua) (na : NM ua) (gs) : pickN (ownBool ow__bool__ :: gs) [.ref a] h = .ok (.bl (decide (0 < (ua.length : Int)))) h := by
  obtain ⟨p, g⟩ := va.asI
  refine pickN_cons ?_
  unfold ownBool
  simp only [g]
  show some ((f_Unit___bool__ [.ref a] h).bind _) = _
  rw [bool_ok va na]; rfl
theorem p_inU {h : Hx} {a : Nat} {ua : U} {k : Str} (va : UV h a ua) (gs) : pick2 (ownIn false ow__contains__ :: gs) (.str k) (.ref a) h = .ok (.bl (has ua k)) h := by
  obtain ⟨p, g⟩ := va.asI
  refine pick2_cons ?_
  unfold ownIn
  simp only [g]
  show some ((f_Unit___contains__ [.ref a, .str k] h).bind _) = _
  rw [in_ok va]; rfl
theorem p_inDU {h : Hx} {a : Nat} {u : U} {k : Str} (v : DV h a u) : pick2 [ownIn false ow__contains__, kIn] (.str k) (.ref a) h = .ok (.bl (has u k)) h := by
  rw [pick2_skip (by unfold ownIn; simp only [v.asI]), p_inD v.r]
theorem p_ixU {h : Hx} {a : Nat} {ua : U} {k : Str} (va : UV h a ua) (gs) : pick2 (ownIx ow__getitem__ :: gs) (.ref a) (.str k) h = .ok (.int (lk ua k)) h := by
  obtain ⟨p, g⟩ := va.asI
  have e : pick2 (ownIx ow__getitem__ :: gs) (.ref a) (.str k) h = f_Unit___getitem__ [.ref a, .str k] h := pick2_cons (by unfold ownIx; simp only [g]; rfl)
  rw [e, ix_ok va]
theorem nil_pos (u : U) : decide (0 < (u.length : Int)) = !decide (u = []) := by
  cases u with
  | nil => rfl
  | cons p r =>
    have : (0 : Int) < ((p :: r).length : Int) := by rw [List.length_cons]; omega
    rw [decide_eq_true this, decide_eq_false (by simp)]; rfl
theorem lay_nm : ∀ s ∈ nm4, (PyData.str s).canLay0 = true := by decide +kernel
theorem shaped_all : ∀ l : List Str, (∀ k ∈ l, k ∈ nm4) → PyData.canLayAll0 (l.map PyData.str) = true ∧ PyData.depthAll (l.map PyData.str) = 0
  | [], _ => ⟨rfl, rfl⟩
  | s :: r, h => by
    obtain ⟨h1, h2⟩ := shaped_all r fun k hk => h k (List.mem_cons_of_mem _ hk)
    have h3 := lay_nm s (h s List.mem_cons_self)
    constructor
    · show ((PyData.str s).canLay0 && PyData.canLayAll0 (r.map PyData.str)) = true
      rw [h3, h1]; rfl
    · show max (PyData.str s).depth (PyData.depthAll (r.map PyData.str)) = 0
      rw [h2]; rfl
theorem shaped_nm {u : U} (c : CU u) : SeqAt.shaped (.list ((keys u).map PyData.str)) = true := by
  obtain ⟨h1, h2⟩ := shaped_all (keys u) c.nm.mem
  unfold SeqAt.shaped
  rw [Bool.and_eq_true, decide_eq_true_iff]
  refine ⟨h1, ?_⟩
  show PyData.depthAll ((keys u).map PyData.str) + 1 ≤ 64
  rw [h2]; decide
theorem stands_ok {h : Hx} {a d : Nat} {ua u : U} (va : UV h a ua) (v : DV h d u) (nm : NM u) (e : ua = cn u) : Ok (f__law_stands [.ref a, .ref d] h) fun w h' => w = .bl true ∧ Fr h h' := by
  subst e
  have c := cn_cu nm
  refine Ok_fnx rfl ?_
  show OkS (m__law_stands [some (.ref a), some (.ref d), none, none] h) _ _
  unfold m__law_stands
  simp only [OkS_seq, OkS_set, Ok_vcall, Ok_esc, Ok_esn, Ok_var, sl_0, sl_s, Option.some.injEq, exists_eq_left']
  refine (plain_ok v nm).mono fun w h1 z => ?_
  obtain ⟨q, rfl, fr1, dq⟩ := z
  have va := va.fr fr1
  have v := v.fr fr1
  simp only [List.set, OkS_if, Ok_tv, Ok_bin, Ok_un, Ok_var, sl_0, sl_s, Option.some.injEq, exists_eq_left']
  refine (a_powers va c.nm).mono fun w h2 z => ?_
  obtain ⟨p1, rfl, fr2, dp1, _⟩ := z
  rw [p_neI dp1 (dq.fr fr2) c.c c.c]
  simp only [Ok_ok, tru_bl, Option.some.injEq, exists_eq_left', decide_true, Bool.not_true, Bool.false_eq_true, if_false, OkS_mnx, OkS_if, OkS_seq, Ok_tv, Ok_bin, Ok_vcall, Ok_esc, Ok_esn, Ok_un, Ok_var, sl_0, sl_s]
  refine (a_powers (va.fr fr2) c.nm).mono fun w h3 z => ?_
  obtain ⟨p2, rfl, fr3, dp2, _⟩ := z
  have fr3 := fr2.trans fr3
  rw [p_list dp2]
  have f4 := Fr.new h3 (.lst ((keys (cn u)).map Vx.str))
  have L4 := LV.new h3 ((keys (cn u)).map Vx.str)
  simp only [Ok_ok]
  generalize h3.new (.lst ((keys (cn u)).map Vx.str)) = h4 at f4 L4
  generalize h3.n = p4 at L4
  have f4 := fr3.trans f4
  rw [p_list (dq.fr f4)]
  have f5 := Fr.new h4 (.lst ((keys (cn u)).map Vx.str))
  have L5 := LV.new h4 ((keys (cn u)).map Vx.str)
  simp only [Ok_ok]
  generalize h4.new (.lst ((keys (cn u)).map Vx.str)) = h5 at f5 L5
  generalize h4.n = p5 at L5
  rw [p_neL (L4.fr f5) L5 (shaped_nm c)]
  have f5 := f4.trans f5
  simp only [Ok_ok, tru_bl, Option.some.injEq, exists_eq_left', Bool.false_eq_true, if_false, OkS_mnx, OkS_if, OkS_seq, Ok_tnot, Ok_tv, Ok_bin, Ok_vcall, Ok_esc, Ok_esn, Ok_un, Ok_var, sl_0, sl_s]
  refine (mk_ok (v.fr f5) nm).mono fun w h6 z => ?_
  obtain ⟨b, rfl, f6, vb⟩ := z
  have f6 := f5.trans f6
  rw [p_eqU (va.fr f6) vb c c]
  simp only [Ok_ok, tru_bl, decide_true, Bool.not_true, Option.some.injEq, exists_eq_left', Bool.false_eq_true, if_false, OkS_mnx, OkS_if, OkS_seq, Ok_tnot, Ok_tv, Ok_bin, Ok_vcall, Ok_esc, Ok_esn, Ok_un, Ok_var, sl_0, sl_s]
  rw [p_boolU (va.fr f6) c.nm]
  simp only [Ok_ok, Ok_bin, Ok_var, sl_0, sl_s, Option.some.injEq, exists_eq_left']
  have f7 := Fr.new h6 (.dK (eI []))
  have d7 := DV.new h6 []
  show Ok (pick2 [kNe, kNeI, kNeD] (.ref q) (.ref h6.n) (h6.new (.dK (eI [])))) _
  generalize h6.new (.dK (eI [])) = h7 at f7 d7
  generalize h6.n = p7 at d7
  have f7 := f6.trans f7
  rw [p_neI (dq.fr f7) d7 c.c UX.canon_nil, nil_pos]
  simp only [Ok_ok, p_neb, tru_bl, Option.some.injEq, exists_eq_left', BEq.rfl, Bool.not_true, Bool.false_eq_true, if_false, OkS_mnx]
  clear L4 L5 d7 vb
  have f8 := Fr.new h7 (.lst ([s_0, s_1, s_2, s_3, s_7].map Vx.str))
  have L8 := LV.new h7 ([s_0, s_1, s_2, s_3, s_7].map Vx.str)
  refine mfor_ok (ix := .lst h7.n) (h1 := h7.new (.lst ([s_0, s_1, s_2, s_3, s_7].map Vx.str))) (by
      show (seqIx (.ref h7.n) (h7.new (.lst ([s_0, s_1, s_2, s_3, s_7].map Vx.str)))) = _
      exact L8.seq) 5 (by unfold turns; simp only [L8.asL]; rfl)
    (fun k l hx => (∃ o, l = [some (.ref a), some (.ref d), some (.ref q), o]) ∧ Fr (h7.new (.lst ([s_0, s_1, s_2, s_3, s_7].map Vx.str))) hx) ⟨⟨none, rfl⟩, Fr.rfl⟩ (fun k l hx hk hI => ?_) fun l hx hI => ?_
  · obtain ⟨⟨o, rfl⟩, I2⟩ := hI
    have fx := f7.trans (f8.trans I2)
    refine ⟨_, _, _, step_lst (L8.fr I2) hk, rfl, ?_⟩
    rw [List.getElem_map]
    generalize ([s_0, s_1, s_2, s_3, s_7] : List Str)[k] = s
    simp only [stoL, List.foldl, List.set, Ok_ok, OkS_if, Ok_tor, Ok_tv, Ok_bin, Ok_var, sl_0, sl_s, Option.some.injEq, exists_eq_left', p_inU (va.fr fx), p_inDU (dq.fr fx), p_neb, tru_bl, BEq.rfl, Bool.not_true, Bool.false_eq_true, if_false, p_ixU (va.fr fx)]
    refine ok_get2 (d := q) (k := s) rfl rfl rfl (dq.fr fx).r ?_
    simp only [Ok_ok, p_ne, decide_true, Bool.not_true, tru_bl, Option.some.injEq, exists_eq_left', Bool.false_eq_true, if_false, OkS_mnx]
    exact ⟨⟨_, rfl⟩, I2⟩
  · obtain ⟨⟨o, rfl⟩, I2⟩ := hI
    refine ⟨step_lst_end (L8.fr I2), ?_⟩
    simp only [OkS_mret, Ok_cst]
    exact ⟨trivial, fr1.trans (f7.trans (f8.trans I2))⟩
end K31

set_option Elab.async false
set_option linter.all false
set_option maxRecDepth 100000
set_option maxHeartbeats 4800000
namespace K31
open PySem PySem.Spec PyProof.Rows L2 SV
open UX (U keys lk has Canon norm)
def Scr (ns : List Int) (h : Hx) : Prop := h.get 0 = some (.lk (.lst (ns.map Vx.int))) ∧ 0 < h.n
theorem Scr.fr {ns : List Int} {h h' : Hx} (s : Scr ns h) (f : Fr h h') : Scr ns h' := ⟨(f.g 0 s.2).trans s.1, Nat.lt_of_lt_of_le s.2 f.n⟩
theorem Scr.asL {ns : List Int} {h : Hx} (s : Scr ns h) : SV.asL (.ref 0) h = some (ns.map Vx.int) := by
  unfold SV.asL Hx.rd; simp only [s.1]; rfl
theorem ix_at {h : Hx} {d : Nat} {xs : List Vx} {k : Nat} {w : Vx} (e : SV.asL (.ref d) h = some xs) (hw : nth xs k = some w) (hk : k < xs.length) (gs) : pick2 (kIxL :: gs) (.ref d) (.int (k : Int)) h = .ok w h := pick2_cons (by
  unfold kIxL
  have : plc xs.length (k : Int) = some k := by
    show (bif Nat.blt k xs.length then some k else none) = _
    rw [show Nat.blt k xs.length = true from Nat.ble_eq.mpr hk]; rfl
  simp only [e, this, hw])
theorem cell_ok {ns : List Int} {h : Hx} {i : Int} (s : Scr ns h) (h0 : 0 ≤ i) : Ok (f__law_cell_at [.ref 0, .int i] h) fun w h' => h' = h ∧ ∃ v, w = .int v := by
  obtain ⟨k, rfl⟩ := Int.eq_ofNat_of_zero_le h0
  refine Ok_fnx rfl ?_
  show OkS (m__law_cell_at [some (.ref 0), some (.int k)] h) _ _
  unfold m__law_cell_at
  have e1 : pickN [kLen] [.ref 0] h = .ok (.int ns.length) h := pickN_cons (by
    unfold kLen lenV
    have : h.rd 0 = some (.lst (ns.map Vx.int)) := by unfold Hx.rd; rw [s.1]; rfl
    simp only [this, List.length_map])
  simp only [OkS_seq, OkS_if, Ok_tv, Ok_bin, Ok_vcall, Ok_esc, Ok_esn, Ok_var, sl_0, sl_s, Option.some.injEq, exists_eq_left', e1, Ok_ok, p_lt, tru_bl, OkS_mret, OkS_mnx, Ok_cst]
  by_cases q : (k : Int) < ns.length
  · rw [if_pos (decide_eq_true q)]
    have q' : k < ns.length := by omega
    rw [ix_at s.asL (w := .int ns[k]) (by rw [nth_map, nth_lt q']; rfl) (by rw [List.length_map]; exact q')]
    exact ⟨by trivial, _, rfl⟩
  · rw [if_neg (by simpa using q)]
    exact ⟨by trivial, _, rfl⟩
def dl : List Int := [1000003, 1000033, 1000037, 1000039, 1000081, 1000099, 1000117, 1000121, 1000133, 1000151, 1000159, 1000171, 1000183, 1000187, 1000193, 1000199]
theorem ixT_at {h : Hx} {d : Nat} {xs : List Int} {k : Nat} (e : h.get d = some (.tup (xs.map Vx.int))) (hk : k < xs.length) : ∃ v ∈ xs, pick2 [kIxL, kIxT, kIxD] (.ref d) (.int (k : Int)) h = .ok (.int v) h := by
  have h1 : SV.asL (.ref d) h = none := by unfold SV.asL Hx.rd; simp only [e]; rfl
  have h2 : SV.asT (.ref d) h = some (xs.map Vx.int) := by unfold SV.asT Hx.rd; simp only [e]; rfl
  refine ⟨xs[k], List.getElem_mem hk, ?_⟩
  rw [pick2_skip (by unfold kIxL; simp only [h1])]
  refine pick2_cons ?_
  unfold kIxT
  have : plc (xs.map Vx.int).length (k : Int) = some k := by
    show (bif Nat.blt k (xs.map Vx.int).length then some k else none) = _
    rw [show Nat.blt k (xs.map Vx.int).length = true from Nat.ble_eq.mpr (by rw [List.length_map]; exact hk)]; rfl
  simp only [h2, this, nth_map, nth_lt hk, Option.map_some]
theorem draw_ok {h : Hx} {a b m : Int} (hm : 0 < m) : Ok (f__law_draw [.int a, .int b, .int m] h) fun w h' => Fr h h' ∧ ∃ v, w = .int v := by
  refine Ok_fnx rfl ?_
  show OkS (m__law_draw [some (.int a), some (.int b), some (.int m), none] h) _ _
  unfold m__law_draw
  rw [OkS_seq, OkS_set]
  show OkS (mret _ [some (.int a), some (.int b), some (.int m), some (.ref h.n)] (h.new (.tup (dl.map Vx.int)))) _ _
  have fr := Fr.new h (.tup (dl.map Vx.int))
  have g : (h.new (.tup (dl.map Vx.int))).get h.n = some (.tup (dl.map Vx.int)) := by rw [Hx.get_new, if_pos rfl]
  generalize h.new (.tup (dl.map Vx.int)) = h1 at fr g
  generalize h.n = q at g
  obtain ⟨k, hk⟩ : ∃ k : Nat, b % 16 = (k : Int) := Int.eq_ofNat_of_zero_le (Int.emod_nonneg _ (by decide))
  have hk16 : k < dl.length := by show k < 16; omega
  obtain ⟨v, hm2, hv⟩ := ixT_at g hk16
  have hv0 : 0 < v := (by decide : ∀ x ∈ dl, 0 < x) v hm2
  have e1 : pick2 [kMod, kModN] (.int b) (.int 16) h1 = .ok (.int k) h1 := by rw [p_mod (by decide), hk]
  have e2 : ∀ x : Int, pick2 [kMul, kMulW] (.int x) (.int 48271) h1 = .ok (.int (x * 48271)) h1 := fun x => p_mul (by rw [show sm64 48271 = true from by decide, Bool.or_true]) _ _
  have e3 : ∀ x : Int, pick2 [kMul, kMulW] (.int x) (.int 69621) h1 = .ok (.int (x * 69621)) h1 := fun x => p_mul (by rw [show sm64 69621 = true from by decide, Bool.or_true]) _ _
  simp only [OkS_mret, Ok_bin, Ok_var, Ok_cst, sl_0, sl_s, Option.some.injEq, exists_eq_left', Ok_ok, e1, e2, e3, p_add, hv, p_mod hv0, p_mod hm]
  exact ⟨fr, _, rfl⟩
theorem p_mulr {x j : Int} (h : Hx) (e : sm64 j = true) : pick2 [kMul, kMulW] (.int x) (.int j) h = .ok (.int (x * j)) h := p_mul (by rw [e, Bool.or_true]) _ _
theorem p_mull {x j : Int} (h : Hx) (e : sm64 x = true) : pick2 [kMul, kMulW] (.int x) (.int j) h = .ok (.int (x * j)) h := p_mul (by rw [e, Bool.true_or]) _ _
theorem pw_small : ∀ k : Nat, k ≤ 24 → ((1009 : Int) ^ k).natAbs.log2 < 9000 := by
  have : ∀ k : Fin 25, ((1009 : Int) ^ k.val).natAbs.log2 < 9000 := by decide +kernel
  exact fun k hk => this ⟨k, by omega⟩
theorem step_rng {lo c : Int} {n j : Nat} {h : Hx} (hj : j < n) : SV.step (.rng lo c n) j h = some (some (.int (lo + (j : Int) * c), h)) := by
  show some (bif Nat.ble n j then none else some (Vx.int (lo + (j : Int) * c), h)) = _
  rw [show Nat.ble n j = false from by
    cases q : Nat.ble n j with
    | false => rfl
    | true => exact absurd (Nat.le_of_ble_eq_true q) (by omega)]
  rfl
theorem step_rng_end {lo c : Int} {n : Nat} {h : Hx} : SV.step (.rng lo c n) n h = some none := by
  show some (bif Nat.ble n n then none else some (Vx.int (lo + (n : Int) * c), h)) = _
  rw [show Nat.ble n n = true from Nat.ble_eq.mpr (Nat.le_refl _)]
  rfl
theorem sm_of {i : Int} (h : i.natAbs < 18446744073709551616) : sm64 i = true := Nat.ble_eq.mpr h
theorem number_ok {h : Hx} {c t b : Int} (hb : 0 < b) (t0 : 0 ≤ t) (t1 : t ≤ 1000) : Ok (f__law_number [.int c, .int t, .int b] h) fun w h' => Fr h h' ∧ ∃ v, w = .int v ∧ 0 ≤ v ∧ v < b := by
  refine Ok_fnx rfl ?_
  show OkS (m__law_number [some (.int c), some (.int t), some (.int b), none, none, none, none] h) _ _
  unfold m__law_number
  obtain ⟨k, hk⟩ : ∃ k : Nat, t % 24 = (k : Int) := Int.eq_ofNat_of_zero_le (Int.emod_nonneg _ (by decide))
  have hk24 : k ≤ 24 := by omega
  have e1 : pick2 [kMod, kModN] (.int t) (.int 24) h = .ok (.int k) h := by rw [p_mod (by decide), hk]
  simp only [OkS_seq, OkS_set, Ok_cst, List.set]
  have hm : b62 (k : Int) = true := by
    unfold b62
    rw [Bool.and_eq_true, decide_eq_true_iff, decide_eq_true_iff]
    omega
  refine mfor_ok (ix := .rng 0 1 k) (h1 := h) (by
      simp only [irng1, SV.bin, var, cst, sl_0, sl_s, Rx.bind, e1, rng1, hm, cond_true, Int.toNat_natCast]) k rfl
    (fun j l hx => hx = h ∧ ∃ o, l = [some (.int c), some (.int t), some (.int b), some (.int (1009 ^ j)), o, none, none]) ⟨rfl, none, rfl⟩ (fun j l hx hj hI => ?_) fun l hx hI => ?_
  · obtain ⟨rfl, o, rfl⟩ := hI
    refine ⟨_, _, _, step_rng hj, rfl, ?_⟩
    · simp only [stoL, List.foldl, List.set, OkS_set, Ok_bin, Ok_var, Ok_cst, sl_0, sl_s, Option.some.injEq, exists_eq_left', p_mulr hx (show sm64 1009 = true from by decide), Ok_ok]
      exact ⟨trivial, _, by rw [Int.pow_succ]⟩
  · obtain ⟨rfl, o, rfl⟩ := hI
    refine ⟨step_rng_end, ?_⟩
    have hp : (0 : Int) < 1009 ^ k := Int.pow_pos (by decide)
    have e2 : pick2 [kPow] (.int 10) (.int 18) hx = .ok (.int (10 ^ 18)) hx := rfl
    have e3 : pick2 [kMul, kMulW] (.int 977) (.int t) hx = .ok (.int (977 * t)) hx := p_mull hx (by decide)
    have e4 : pick2 [kMul, kMulW] (.int 31) (.int t) hx = .ok (.int (31 * t)) hx := p_mull hx (by decide)
    simp only [OkS_seq, OkS_if, Ok_tv, OkS_set, Ok_bin, Ok_var, Ok_cst, sl_0, sl_s, List.set, Option.some.injEq, exists_eq_left', Ok_ok, p_sub, e2, p_div hp (pw_small k hk24), p_gt, tru_bl, OkS_mret, OkS_mnx,
      p_mod (show (0 : Int) < 1009 by decide), p_mod (show (0 : Int) < 1000003 by decide), p_mod (show (0 : Int) < 9 by decide), p_mod hb, Ok_vcall, Ok_esc, Ok_esn, e3, e4, p_add]
    by_cases q : 0 < (c - 10 ^ 18) / 1009 ^ k
    · rw [if_pos (decide_eq_true q)]
      exact ⟨.rfl, _, rfl, Int.emod_nonneg _ (by omega), Int.emod_lt_of_pos _ hb⟩
    · rw [if_neg (by simpa using q)]
      have h6 : 0 ≤ c % 1000003 := Int.emod_nonneg _ (by decide)
      have h7 : c % 1000003 < 1000003 := Int.emod_lt_of_pos _ (by decide)
      rw [p_mull hx (sm_of (by omega))]
      simp only [Ok_ok, Ok_vcall, Ok_esc, Ok_esn, Ok_bin, Ok_var, Ok_cst, sl_0, sl_s, Option.some.injEq, exists_eq_left', p_mod (show (0 : Int) < 9 by decide), p_add]
      refine (draw_ok (by decide)).mono fun w h2 z => ?_
      obtain ⟨fr, v, rfl⟩ := z
      rw [p_mod hb]
      exact ⟨fr, _, rfl, Int.emod_nonneg _ (by omega), Int.emod_lt_of_pos _ hb⟩
end K31

set_option Elab.async false
set_option linter.all false
set_option maxRecDepth 100000
set_option maxHeartbeats 4800000
namespace K31
open PySem PySem.Spec PyProof.Rows L2 SV
open UX (U keys lk has Canon norm)
structure ST (ns : List Int) (h : Hx) (st : Nat) : Prop where
  lt : st < h.n
  ne : st ≠ 0
  s : Scr ns h
  ex : ∃ b k : Int, h.get st = some (.lst [.ref 0, .int b, .int k]) ∧ 0 ≤ b ∧ 0 ≤ k
theorem ST.fr {ns : List Int} {h h' : Hx} {st : Nat} (s : ST ns h st) (f : Fr h h') : ST ns h' st := by
  obtain ⟨b, k, g, z⟩ := s.ex
  exact ⟨Nat.lt_of_lt_of_le s.lt f.n, s.ne, s.s.fr f, b, k, (f.g _ s.lt).trans g, z⟩
theorem ST.ob {ns : List Int} {h : Hx} {st d : Nat} (s : ST ns h st) (e : h.n ≤ d) (o : Ox) : ST ns (h.put d o) st := s.fr (Fr.rfl.put e o)
theorem ST.put {ns : List Int} {h : Hx} {st d : Nat} (s : ST ns h st) (e : d ≠ st) (e0 : d ≠ 0) (o : Ox) : ST ns (h.put d o) st := by
  obtain ⟨b, k, g, z⟩ := s.ex
  exact ⟨s.lt, s.ne, ⟨by rw [Hx.get_put, if_neg e0]; exact s.s.1, s.s.2⟩, b, k, by rw [Hx.get_put, if_neg e]; exact g, z⟩
theorem OkS_put {mo mi me : Ex} {l : Lx} {h : Hx} {N : Lx → Hx → Prop} {R : Vx → Hx → Prop} : OkS (mput mo mi me l h) N R ↔ Ok (me l h) fun w h0 => Ok (mo l h0) fun o h1 => Ok (mi l h1) fun i h2 => ∃ h3, putI o i w h2 = some h3 ∧ N l h3 := by
  unfold mput
  simp only [OkS_st]
  refine Ok_congr fun w h0 => Ok_congr fun o h1 => Ok_congr fun i h2 => ?_
  cases putI o i w h2 <;> simp [OkS]
theorem next_ok {ns : List Int} {h : Hx} {st : Nat} {c : Int} (s : ST ns h st) (hc : 0 < c) : Ok (f__law_next [.ref st, .int c] h) fun w h' => Fx1 st h h' ∧ ST ns h' st ∧ ∃ v, w = .int v ∧ 0 ≤ v ∧ v < c := by
  obtain ⟨b, k, g, hb, hk⟩ := s.ex
  refine Ok_fnx rfl ?_
  show OkS (m__law_next [some (.ref st), some (.int c), none, none] h) _ _
  unfold m__law_next
  have ix : ∀ {h1 : Hx} {k : Int}, h1.get st = some (.lst [.ref 0, .int b, .int k]) → pick2 [kIxL, kIxT, kIxD] (.ref st) (.int 2) h1 = .ok (.int k) h1 ∧ pick2 [kIxL, kIxT, kIxD] (.ref st) (.int 0) h1 = .ok (.ref 0) h1 ∧ pick2 [kIxL, kIxT, kIxD] (.ref st) (.int 1) h1 = .ok (.int b) h1 := fun {h1 k} g => by
    have e : SV.asL (.ref st) h1 = some [.ref 0, .int b, .int k] := by unfold SV.asL Hx.rd; simp only [g]; rfl
    exact ⟨ix_at (k := 2) e rfl (by show 2 < 3; decide) _, ix_at (k := 0) e rfl (by show 0 < 3; decide) _, ix_at (k := 1) e rfl (by show 1 < 3; decide) _⟩
  have hput : putI (.ref st) (.int 2) (.int (k + 1)) h = some (h.put st (.lst [.ref 0, .int b, .int (k + 1)])) := by
    unfold putI
    simp only [g]
    rfl
  simp only [OkS_seq, OkS_put, Ok_bin, Ok_var, Ok_cst, sl_0, sl_s, Option.some.injEq, exists_eq_left', (ix g).1, Ok_ok, p_add, hput]
  have g1 : (h.put st (.lst [.ref 0, .int b, .int (k + 1)])).get st = some (.lst [.ref 0, .int b, .int (k + 1)]) := by rw [Hx.get_put, if_pos rfl]
  have f1 : Fx1 st h (h.put st (.lst [.ref 0, .int b, .int (k + 1)])) := Fx1.rfl.put _
  have s1 : ST ns (h.put st (.lst [.ref 0, .int b, .int (k + 1)])) st := ⟨s.lt, s.ne, ⟨by rw [Hx.get_put, if_neg s.ne]; exact s.s.1, s.s.2⟩, b, k + 1, g1, hb, by omega⟩
  generalize h.put st (.lst [.ref 0, .int b, .int (k + 1)]) = h1 at g1 f1 s1
  obtain ⟨i2, i0, i1⟩ := ix g1
  have d12 : ∀ x : Int, pick2 [kDiv, kDivN] (.int x) (.int 12) h1 = .ok (.int (x / 12)) h1 := fun x => p_div (by decide) (by decide) _ _
  simp only [OkS_set, Ok_bin, Ok_var, Ok_cst, sl_0, sl_s, Option.some.injEq, exists_eq_left', i2, Ok_ok, d12, List.set, Ok_vcall, Ok_esc, Ok_esn, i0, i1, p_add]
  refine (cell_ok s1.s (i := b + (k + 1) / 12) (by omega)).mono fun w h2 z => ?_
  obtain ⟨rfl, v, rfl⟩ := z
  rw [p_mull _ (by decide)]
  simp only [Ok_ok, p_add, OkS_mret, Ok_bin, Ok_var, Ok_cst, sl_0, sl_s, Option.some.injEq, exists_eq_left', i2, Ok_vcall, Ok_esc, Ok_esn, p_mod (show (0 : Int) < 12 by decide)]
  refine (number_ok hc (by omega) (by omega)).mono fun w h3 z => ?_
  obtain ⟨fr, v, rfl, z⟩ := z
  exact ⟨f1.trans (fr.x st), s1.fr fr, v, rfl, z⟩
theorem put_nm {u : U} {k : Str} {i : Int} (h : NM u) (hk : k ∈ nm4) : NM (UX.put u k i) := ⟨UX.nd_put h.nd k i, fun j hj => by
  rw [mem_put] at hj
  exact hj.elim (h.mem j) fun e => e ▸ hk⟩
theorem put_d {h h' : Hx} {st d : Nat} (f : Fx1 st h h') (e : h.n ≤ d) (o : Ox) : Fx1 st h (h'.put d o) := ⟨f.n, fun j z z2 => by rw [Hx.get_put, if_neg (by omega)]; exact f.g j z z2⟩
theorem law_powers_ok {ns : List Int} {h : Hx} {st : Nat} (s : ST ns h st) : Ok (f__law_powers [.ref st] h) fun w h' => Fx1 st h h' ∧ ST ns h' st ∧ ∃ d u, w = .ref d ∧ h.n ≤ d ∧ DV h' d u ∧ NM u := by
  refine Ok_fnx rfl ?_
  show OkS (m__law_powers [some (.ref st), none, none] h) _ _
  unfold m__law_powers
  simp only [OkS_seq, OkS_set]
  show OkS _ _ _
  have f1 := Fr.new h (.dK (eI []))
  have d1 := DV.new h []
  have hd : h.n ≠ st := Nat.ne_of_gt s.lt
  have hd0 : h.n ≠ 0 := Nat.ne_of_gt s.s.2
  show OkS (mfor _ _ _ [some (.ref st), some (.ref h.n), none] (h.new (.dK (eI [])))) _ _
  generalize h.new (.dK (eI [])) = h1 at f1 d1
  have f2 := Fr.new h1 (.lst (nm4.map Vx.str))
  have L2 := LV.new h1 (nm4.map Vx.str)
  refine mfor_ok (ix := .lst h1.n) (h1 := h1.new (.lst (nm4.map Vx.str))) (by
      show (seqIx (.ref h1.n) (h1.new (.lst (nm4.map Vx.str)))) = _
      exact L2.seq) 4 (by unfold turns; simp only [L2.asL]; rfl)
    (fun k l hx => (∃ o, l = [some (.ref st), some (.ref h.n), o]) ∧ Fx1 st h hx ∧ ST ns hx st ∧ LV hx h1.n (nm4.map Vx.str) ∧ ∃ u, DV hx h.n u ∧ NM u)
    ⟨⟨none, rfl⟩, (f1.trans f2).x st, s.fr (f1.trans f2), L2, [], d1.fr f2, ⟨.nil, fun _ z => nomatch z⟩⟩ (fun k l hx hk hI => ?_) fun l hx hI => ?_
  · obtain ⟨⟨o, rfl⟩, I1, I2, I3, u, I4, I5⟩ := hI
    have hk4 : k < nm4.length := hk
    have hkm : k < (nm4.map Vx.str).length := by rw [List.length_map]; exact hk4
    refine ⟨_, _, _, step_lst I3 hkm, rfl, ?_⟩
    rw [List.getElem_map]
    have hm : nm4[k] ∈ nm4 := List.getElem_mem hk4
    generalize nm4[k] = nm at hm
    have n1 : h1.n ≠ st := Nat.ne_of_gt (Nat.lt_of_lt_of_le s.lt f1.n)
    have n2 : h.n ≠ h1.n := Nat.ne_of_lt d1.lt
    simp only [stoL, List.foldl, List.set, OkS_if, Ok_tv, Ok_bin, Ok_vcall, Ok_esc, Ok_esn, Ok_var, Ok_cst, sl_0, sl_s, Option.some.injEq, exists_eq_left']
    refine (next_ok I2 (by decide)).mono fun w h2 z => ?_
    obtain ⟨J1, J2, v, rfl, _⟩ := z
    have I1 := I1.trans J1
    have I3 := I3.fx J1 n1
    have I4 := I4.fx J1 hd
    clear J1
    simp only [p_gt, Ok_ok, tru_bl, Option.some.injEq, exists_eq_left', OkS_mnx]
    by_cases q : 0 < v
    · rw [if_pos (decide_eq_true q)]
      simp only [OkS_seq, OkS_put, OkS_if, Ok_tv, Ok_bin, Ok_vcall, Ok_esc, Ok_esn, Ok_var, Ok_cst, sl_0, sl_s, Option.some.injEq, exists_eq_left']
      refine (next_ok J2 (by decide)).mono fun w h3 z => ?_
      obtain ⟨K1, K2, v2, rfl, _⟩ := z
      have I1 := I1.trans K1
      have I3 := I3.fx K1 n1
      have I4 := I4.fx K1 hd
      simp only [p_sub, Ok_ok]
      refine ⟨_, putI_is I4 (by have := I5.len; omega), ?_⟩
      have K2 := K2.put hd hd0 (.dK (eI (UX.put u nm (v2 - 2))))
      have I1 := put_d I1 (Nat.le_refl _) (.dK (eI (UX.put u nm (v2 - 2))))
      have I3 : LV (h3.put h.n (.dK (eI (UX.put u nm (v2 - 2))))) h1.n (nm4.map Vx.str) := ⟨I3.lt, by rw [Hx.get_put, if_neg n2]; exact I3.g⟩
      have I4 : DV (h3.put h.n (.dK (eI (UX.put u nm (v2 - 2))))) h.n (UX.put u nm (v2 - 2)) := DV.put I4.lt
      have I5 := put_nm (i := v2 - 2) I5 hm
      generalize h3.put h.n (.dK (eI (UX.put u nm (v2 - 2)))) = h4 at K2 I1 I3 I4
      generalize UX.put u nm (v2 - 2) = u4 at I4 I5
      refine (next_ok K2 (by decide)).mono fun w h5 z => ?_
      obtain ⟨M1, M2, v3, rfl, _⟩ := z
      have I1 := I1.trans M1
      have I3 := I3.fx M1 n1
      have I4 := I4.fx M1 hd
      simp only [p_eq, Ok_ok, tru_bl, Option.some.injEq, exists_eq_left', OkS_mnx]
      by_cases q3 : v3 = 0
      · rw [if_pos (decide_eq_true q3)]
        refine (next_ok M2 (by decide)).mono fun w h6 z => ?_
        obtain ⟨P1, P2, v4, rfl, _⟩ := z
        have I1 := I1.trans P1
        have I3 := I3.fx P1 n1
        have I4 := I4.fx P1 hd
        simp only [p_sub, Ok_ok]
        refine ⟨_, putI_is I4 (by have := I5.len; omega), ⟨_, rfl⟩, put_d I1 (Nat.le_refl _) _, P2.put hd hd0 _, ⟨I3.lt, by rw [Hx.get_put, if_neg n2]; exact I3.g⟩, _, DV.put I4.lt, put_nm I5 hm⟩
      · rw [if_neg (by simpa using q3)]
        exact ⟨⟨_, rfl⟩, I1, M2, I3, u4, I4, I5⟩
    · rw [if_neg (by simpa using q)]
      exact ⟨⟨_, rfl⟩, I1, J2, I3, u, I4, I5⟩
  · obtain ⟨⟨o, rfl⟩, I1, I2, I3, u, I4, I5⟩ := hI
    refine ⟨step_lst_end I3, ?_⟩
    simp only [OkS_mret, Ok_var, sl_0, sl_s, Option.some.injEq, exists_eq_left']
    exact ⟨I1, I2, _, u, rfl, Nat.le_refl _, I4, I5⟩
end K31

set_option Elab.async false
set_option linter.all false
set_option maxRecDepth 100000
set_option maxHeartbeats 4800000
namespace K31
open PySem PySem.Spec PyProof.Rows L2 SV
open UX (U keys lk has Canon norm)
theorem p_dictD {h : Hx} {d : Nat} {u : U} (v : DV h d u) : pickN [kDict] [.ref d] h = .ok (.ref h.n) (h.new (.dK (eI u))) := pickN_cons (by
  unfold kDict; simp only [v.asD])
theorem TP.rev {h : Hx} : ∀ {r : List Vx} {u : U}, TP h r u → TP h r.reverse u.reverse
  | _, _, .nil => .nil
  | _, _, .cons lt g t => by
    rw [List.reverse_cons, List.reverse_cons]
    exact TP.snoc lt g t.rev
theorem tups_TP : ∀ (u : U) (h : Hx), TP (tups (eI u) h).2 (tups (eI u) h).1 u ∧ Fr h (tups (eI u) h).2
  | [], h => ⟨.nil, .rfl⟩
  | p :: r, h => by
    have fr := Fr.new h (.tup [kx (.inr p.1), .int p.2])
    obtain ⟨h1, h2⟩ := tups_TP r (h.new (.tup [kx (.inr p.1), .int p.2]))
    refine ⟨.cons (Nat.lt_of_lt_of_le (Nat.lt_succ_self _) h2.n) ?_ h1, fr.trans h2⟩
    show (tups (eI r) (h.new (.tup [kx (.inr p.1), .int p.2]))).2.get h.n = _
    rw [h2.g _ (Nat.lt_succ_self _), Hx.get_new, if_pos rfl]; rfl
theorem nodupK_eI : ∀ {u : U}, (keys u).Nodup → nodupK (eI u) = true
  | [], _ => rfl
  | p :: r, h => by
    have h := List.nodup_cons.mp h
    show (bif hasX (eI r) (.inr p.1) then false else nodupK (eI r)) = true
    rw [hasX_eI, show has r p.1 = false from by rw [← Bool.not_eq_true]; exact fun z => h.1 (UX.has_iff.mp z)]
    exact nodupK_eI h.2
theorem rev_nm {u : U} (h : NM u) : NM u.reverse := by
  have e : keys u.reverse = (keys u).reverse := List.map_reverse ..
  refine ⟨?_, fun k hk => h.mem k ?_⟩
  · rw [e]; exact (List.reverse_perm _).nodup_iff.mpr h.nd
  · rw [e, List.mem_reverse] at hk; exact hk
theorem rev_lk {u : U} (h : NM u) (k : Str) : lk u.reverse k = lk u k := by
  by_cases q : k ∈ keys u
  · exact UX.lk_mem (rev_nm h).nd (List.mem_reverse.mpr (UX.mem_lk q))
  · rw [UX.lk_not q, UX.lk_not]
    have e : keys u.reverse = (keys u).reverse := List.map_reverse ..
    rw [e, List.mem_reverse]; exact q
theorem cn_eq {ua u : U} (c : CU ua) (nm : NM u) (h : ∀ k, lk ua k = lk u k) : ua = cn u := UX.canon_ext c.c (cn_canon nm.nd) fun k => (h k).trans (cn_lk nm.nd k).symm
/-- one round of a loop that fills a dict -/
theorem fill {f g : Str → Int} {l : List Str} {k : Nat} (hk : k < l.length) (nd : l.Nodup) {s : U} (hs : ∀ j, lk s j = g j + if j ∈ l.take k then f j else 0) (j : Str) :
    lk (UX.put s l[k] (lk s l[k] + f l[k])) j = g j + if j ∈ l.take (k + 1) then f j else 0 := by
  have hn : l[k] ∉ l.take k := fun z => by
    have h2 := nd.sublist (List.take_sublist (k + 1) l)
    rw [take_snoc hk, List.nodup_append] at h2
    exact h2.2.2 _ z _ List.mem_cons_self rfl
  rw [UX.lk_put, take_snoc hk]
  by_cases e : j = l[k]
  · subst e
    rw [if_pos rfl, hs, if_neg hn, if_pos (List.mem_append_right _ (List.mem_singleton.mpr rfl))]; omega
  · rw [if_neg e, hs]
    congr 1
    by_cases q : j ∈ l.take k
    · rw [if_pos q, if_pos (List.mem_append_left _ q)]
    · rw [if_neg q, if_neg fun z => (List.mem_append.mp z).elim q fun z => e (List.mem_singleton.mp z)]
theorem full {f g : Str → Int} {v s : U} (hf : ∀ j, j ∉ keys v → f j = 0) (hs : ∀ j, lk s j = g j + if j ∈ (keys v).take v.length then f j else 0) (j : Str) : lk s j = g j + f j := by
  have e : (keys v).take v.length = keys v := by
    have : (keys v).length = v.length := List.length_map ..
    rw [← this, List.take_length]
  rw [hs, e]
  by_cases q : j ∈ keys v
  · rw [if_pos q]
  · rw [if_neg q, hf j q]
theorem seq_lk {h : Hx} {d : Nat} {u : U} (e : h.get d = some (.lk (.dK (eI u)))) : seqIx (.ref d) h = .ok (.keys d) h := by unfold seqIx; simp only [e]
theorem key_at {u : U} {k : Nat} (h : k < u.length) (h2 : k < (keys u).length) : u[k].1 = (keys u)[k] := by
  simp [keys]
/-- the first loop -/
theorem loop1 {ns : List Int} {h : Hx} {d3 d5 d6 d2 d7 : Nat} {u v : U} {a o p : Option Vx} {N : Lx → Hx → Prop} {R : Vx → Hx → Prop} (s : Scr ns h) (v2 : DV h d2 u) (v3 : DV h d3 v) (v5 : DV h d5 u) (v6 : DV h d6 u) (v7 : DV h d7 []) (nu : NM u) (nv : NM v)
    (n35 : d3 ≠ d5) (n36 : d3 ≠ d6) (n56 : d5 ≠ d6) (n25 : d2 ≠ d5) (n26 : d2 ≠ d6) (n23 : d2 ≠ d3) (n75 : d7 ≠ d5) (n76 : d7 ≠ d6) (n73 : d7 ≠ d3) (z3 : d3 ≠ 0) (z5 : d5 ≠ 0) (z6 : d6 ≠ 0)
    (k : ∀ h' o' a5 a6, Scr ns h' → DV h' d2 u → DV h' d3 v → DV h' d5 a5 → DV h' d6 a6 → DV h' d7 [] → NM a5 → NM a6 → (∀ j, lk a5 j = lk u j + lk v j) → (∀ j, lk a6 j = lk u j - lk v j) → N [a, o', some (.ref d2), some (.ref d3), p, some (.ref d5), some (.ref d6), some (.ref d7), none, none] h') :
    OkS (lockS (var 3) (mfor (iseq (var 3)) (.nm 1) (mseq (mput (var 5) (var 1) (SV.bin (pick2 [kAdd]) (vget2 (var 5) (var 1) (cst (.int 0))) (SV.bin (pick2 [kIxL, kIxT, kIxD]) (var 3) (var 1)))) (mput (var 6) (var 1) (SV.bin (pick2 [kSub]) (vget2 (var 6) (var 1) (cst (.int 0))) (SV.bin (pick2 [kIxL, kIxT, kIxD]) (var 3) (var 1))))))
      [a, o, some (.ref d2), some (.ref d3), p, some (.ref d5), some (.ref d6), some (.ref d7), none, none] h) N R := by
  refine lockS_ok (d := d3) (kvs := eI v) rfl v3.g v3.lt ?_
  have hg : (lockD d3 (eI v) h).get d3 = some (.lk (.dK (eI v))) := by unfold lockD; rw [Hx.get_put, if_pos rfl]
  have put_dv : ∀ {h : Hx} {d e : Nat} {u : U} {o : Ox}, DV h d u → d ≠ e → DV (h.put e o) d u := fun v n => ⟨v.lt, by rw [Hx.get_put, if_neg (Ne.symm n)]; exact v.g⟩
  have put_sc : ∀ {h : Hx} {e : Nat} {o : Ox}, Scr ns h → e ≠ 0 → Scr ns (h.put e o) := fun s n => ⟨by rw [Hx.get_put, if_neg n]; exact s.1, s.2⟩
  refine mfor_ok (ix := .keys d3) (h1 := lockD d3 (eI v) h) (seq_lk hg) v.length (by unfold turns; simp only [lkD_at hg, eI_len])
    (fun k l hx => (∃ o, l = [a, o, some (.ref d2), some (.ref d3), p, some (.ref d5), some (.ref d6), some (.ref d7), none, none]) ∧ Scr ns hx ∧ d3 < hx.n ∧ hx.get d3 = some (.lk (.dK (eI v))) ∧ DV hx d2 u ∧ DV hx d7 [] ∧ ∃ a5 a6, DV hx d5 a5 ∧ DV hx d6 a6 ∧ NM a5 ∧ NM a6 ∧
      (∀ j, lk a5 j = lk u j + if j ∈ (keys v).take k then lk v j else 0) ∧ (∀ j, lk a6 j = lk u j + if j ∈ (keys v).take k then -lk v j else 0))
    ⟨⟨o, rfl⟩, put_sc s z3, v3.lt, hg, put_dv v2 n23, put_dv v7 n73, u, u, put_dv v5 (Ne.symm n35), put_dv v6 (Ne.symm n36), nu, nu, fun j => by rw [List.take_zero]; simp, fun j => by rw [List.take_zero]; simp⟩ (fun k l hx hk hI => ?_) fun l hx hI => ?_
  · obtain ⟨⟨o, rfl⟩, I1, I2, I3, I4, I5, a5, a6, I6, I7, I8, I9, I10, I11⟩ := hI
    refine ⟨_, _, _, step_keys I3 hk, rfl, ?_⟩
    have hk2 : k < (keys v).length := by unfold keys; rw [List.length_map]; exact hk
    rw [key_at hk hk2]
    have hm : (keys v)[k] ∈ keys v := List.getElem_mem hk2
    simp only [stoL, List.foldl, List.set, OkS_seq, OkS_put, Ok_bin]
    refine ok_get2 (d := d5) rfl rfl rfl I6.r ?_
    simp only [Ok_var, sl_0, sl_s, Option.some.injEq, exists_eq_left', p_ixD ⟨I2, .inr I3⟩ hm, Ok_ok, p_add]
    refine ⟨_, putI_is I6 (by have := I8.len; omega), ?_⟩
    refine ok_get2 (d := d6) rfl rfl rfl (put_dv I7 (Ne.symm n56)).r ?_
    have I3' : ∀ o, (hx.put d5 o).get d3 = some (.lk (.dK (eI v))) := fun o => by rw [Hx.get_put, if_neg (Ne.symm n35)]; exact I3
    have e3 := p_ixD (h := hx.put d5 (.dK (eI (UX.put a5 (keys v)[k] (lk a5 (keys v)[k] + lk v (keys v)[k]))))) (d := d3) (u := v) ⟨I2, .inr (I3' _)⟩ hm
    simp only [e3, Ok_ok, p_sub]
    refine ⟨_, putI_is (put_dv I7 (Ne.symm n56)) (by have := I9.len; omega), ⟨_, rfl⟩, put_sc (put_sc I1 z5) z6, I2, by rw [Hx.get_put, if_neg (Ne.symm n36)]; exact I3' _, put_dv (put_dv I4 n25) n26, put_dv (put_dv I5 n75) n76, _, _, put_dv (DV.put I6.lt) n56, DV.put I7.lt, put_nm I8 (nv.mem _ hm), put_nm I9 (nv.mem _ hm), fill hk2 nv.nd I10, ?_⟩
    have := fill (f := fun j => -lk v j) hk2 nv.nd I11
    rw [Int.sub_eq_add_neg]
    exact this
  · obtain ⟨⟨o, rfl⟩, I1, I2, I3, I4, I5, a5, a6, I6, I7, I8, I9, I10, I11⟩ := hI
    refine ⟨step_keys_end I3, I3, k _ _ a5 a6 (put_sc I1 z3) (put_dv I4 n23) (DV.put I2) (put_dv I6 (Ne.symm n35)) (put_dv I7 (Ne.symm n36)) (put_dv I5 n73) I8 I9 (full (f := fun j => lk v j) (fun j => UX.lk_not) I10) fun j => ?_⟩
    have := full (f := fun j => -lk v j) (fun j z => by rw [UX.lk_not z]; rfl) I11 j
    rw [this, Int.sub_eq_add_neg]
end K31

set_option Elab.async false
set_option linter.all false
set_option maxRecDepth 100000
set_option maxHeartbeats 4800000
namespace K31
open PySem PySem.Spec PyProof.Rows L2 SV
open UX (U keys lk has Canon norm)
theorem loop2 {ns : List Int} {h : Hx} {d2 d3 d5 d6 d7 : Nat} {u v a5 a6 : U} {a o : Option Vx} {e : Int} {N : Lx → Hx → Prop} {R : Vx → Hx → Prop} (s : Scr ns h) (v2 : DV h d2 u) (v3 : DV h d3 v) (v5 : DV h d5 a5) (v6 : DV h d6 a6) (v7 : DV h d7 []) (nu : NM u) (he : sm64 e = true)
    (n27 : d2 ≠ d7) (n23 : d2 ≠ d3) (n25 : d2 ≠ d5) (n26 : d2 ≠ d6) (n37 : d3 ≠ d7) (n57 : d5 ≠ d7) (n67 : d6 ≠ d7) (z2 : d2 ≠ 0) (z7 : d7 ≠ 0)
    (k : ∀ h' o' a7, Scr ns h' → DV h' d2 u → DV h' d3 v → DV h' d5 a5 → DV h' d6 a6 → DV h' d7 a7 → NM a7 → (∀ j, lk a7 j = lk u j * e) → N [a, o', some (.ref d2), some (.ref d3), some (.int e), some (.ref d5), some (.ref d6), some (.ref d7), none, none] h') :
    OkS (lockS (var 2) (mfor (iseq (var 2)) (.nm 1) (mput (var 7) (var 1) (SV.bin (pick2 [(own2 ow__mul__), kMul, kMulW]) (SV.bin (pick2 [kIxL, kIxT, kIxD]) (var 2) (var 1)) (var 4))))
      [a, o, some (.ref d2), some (.ref d3), some (.int e), some (.ref d5), some (.ref d6), some (.ref d7), none, none] h) N R := by
  refine lockS_ok (d := d2) (kvs := eI u) rfl v2.g v2.lt ?_
  have hg : (lockD d2 (eI u) h).get d2 = some (.lk (.dK (eI u))) := by unfold lockD; rw [Hx.get_put, if_pos rfl]
  have put_dv : ∀ {h : Hx} {d e : Nat} {u : U} {o : Ox}, DV h d u → d ≠ e → DV (h.put e o) d u := fun v n => ⟨v.lt, by rw [Hx.get_put, if_neg (Ne.symm n)]; exact v.g⟩
  have put_sc : ∀ {h : Hx} {e : Nat} {o : Ox}, Scr ns h → e ≠ 0 → Scr ns (h.put e o) := fun s n => ⟨by rw [Hx.get_put, if_neg n]; exact s.1, s.2⟩
  refine mfor_ok (ix := .keys d2) (h1 := lockD d2 (eI u) h) (seq_lk hg) u.length (by unfold turns; simp only [lkD_at hg, eI_len])
    (fun k l hx => (∃ o, l = [a, o, some (.ref d2), some (.ref d3), some (.int e), some (.ref d5), some (.ref d6), some (.ref d7), none, none]) ∧ Scr ns hx ∧ d2 < hx.n ∧ hx.get d2 = some (.lk (.dK (eI u))) ∧ DV hx d3 v ∧ DV hx d5 a5 ∧ DV hx d6 a6 ∧ ∃ a7, DV hx d7 a7 ∧ NM a7 ∧
      (∀ j, lk a7 j = 0 + if j ∈ (keys u).take k then lk u j * e else 0) ∧ ∀ j ∈ (keys u).drop k, j ∉ keys a7)
    ⟨⟨o, rfl⟩, put_sc s z2, v2.lt, hg, put_dv v3 (Ne.symm n23), put_dv v5 (Ne.symm n25), put_dv v6 (Ne.symm n26), [], put_dv v7 (Ne.symm n27), ⟨.nil, fun _ z => nomatch z⟩, fun j => by rw [List.take_zero]; simp [lk], fun _ _ z => nomatch z⟩ (fun k l hx hk hI => ?_) fun l hx hI => ?_
  · obtain ⟨⟨o, rfl⟩, I1, I2, I3, I4, I5, I6, a7, I7, I8, I9, I10⟩ := hI
    refine ⟨_, _, _, step_keys I3 hk, rfl, ?_⟩
    have hk2 : k < (keys u).length := by unfold keys; rw [List.length_map]; exact hk
    rw [key_at hk hk2]
    have hm : (keys u)[k] ∈ keys u := List.getElem_mem hk2
    have e1 : pick2 [(own2 ow__mul__), kMul, kMulW] (.int (lk u (keys u)[k])) (.int e) hx = .ok (.int (lk u (keys u)[k] * e)) hx := by
      rw [pick2_skip (by rfl)]; exact p_mulr hx he
    simp only [stoL, List.foldl, List.set, OkS_put, Ok_bin, Ok_var, sl_0, sl_s, Option.some.injEq, exists_eq_left', p_ixD ⟨I2, .inr I3⟩ hm, Ok_ok, e1]
    have hdr : (keys u).drop k = (keys u)[k] :: (keys u).drop (k + 1) := List.drop_eq_getElem_cons hk2
    have hnot : (keys u)[k] ∉ keys a7 := I10 _ (by rw [hdr]; exact List.mem_cons_self)
    refine ⟨_, putI_is I7 (by have := I8.len; omega), ⟨_, rfl⟩, put_sc I1 z7, I2, by rw [Hx.get_put, if_neg (Ne.symm n27)]; exact I3, put_dv I4 n37, put_dv I5 n57, put_dv I6 n67, _, DV.put I7.lt, put_nm I8 (nu.mem _ hm), ?_, fun j hj => ?_⟩
    · have := fill (f := fun j => lk u j * e) (g := fun _ => 0) hk2 nu.nd I9
      rw [UX.lk_not hnot, Int.zero_add] at this
      exact this
    · have h3 : ((keys u)[k] :: (keys u).drop (k + 1)).Nodup := by rw [← hdr]; exact nu.nd.sublist (List.drop_sublist ..)
      rw [mem_put, not_or]
      exact ⟨I10 j (by rw [hdr]; exact List.mem_cons_of_mem _ hj), fun z => (List.nodup_cons.mp h3).1 (z ▸ hj)⟩
  · obtain ⟨⟨o, rfl⟩, I1, I2, I3, I4, I5, I6, a7, I7, I8, I9, I10⟩ := hI
    refine ⟨step_keys_end I3, I3, k _ _ a7 (put_sc I1 z2) (DV.put I2) (put_dv I4 (Ne.symm n23)) (put_dv I5 (Ne.symm n25)) (put_dv I6 (Ne.symm n26)) (put_dv I7 (Ne.symm n27)) I8 fun j => ?_⟩
    have := full (f := fun j => lk u j * e) (g := fun _ => 0) (fun j z => by rw [UX.lk_not z]; exact Int.zero_mul e) I9 j
    rw [this, Int.zero_add]
end K31

set_option Elab.async false
set_option linter.all false
set_option maxRecDepth 100000
set_option maxHeartbeats 4800000
namespace K31
open PySem PySem.Spec PyProof.Rows L2 SV
open UX (U keys lk has Canon norm)
theorem p_mulU {h : Hx} {a b : Nat} {ua ub : U} (va : UV h a ua) (vb : UV h b ub) (gs) : pick2 (own2 ow__mul__ :: gs) (.ref a) (.ref b) h = f_Unit___mul__ [.ref a, .ref b] h := p_own2 rfl va vb gs
theorem p_divU {h : Hx} {a b : Nat} {ua ub : U} (va : UV h a ua) (vb : UV h b ub) (gs) : pick2 (own2 ow__floordiv__ :: gs) (.ref a) (.ref b) h = f_Unit___floordiv__ [.ref a, .ref b] h := p_own2 rfl va vb gs
theorem p_eqD {h : Hx} {a b : Nat} {u v : U} (x : DV h a u) (y : DV h b v) (cu : Canon u) (cv : Canon v) : pick2 [kEq, (own2 ow__eq__), kEqI, kEqD] (.ref a) (.ref b) h = .ok (.bl (decide (u = v))) h := by
  rw [pick2_skip (by rfl), pick2_skip (by unfold own2; simp only [x.asI])]
  refine pick2_cons ?_
  unfold kEqI eqDI
  simp only [x.dkAt, y.dkAt, allI_eI, Bool.and_self, cond_true, dEqX_canon cu cv]
theorem cu_ext {u v : U} (cu : CU u) (cv : CU v) (h : ∀ k, lk u k = lk v k) : u = v := UX.canon_ext cu.c cv.c h
theorem tail_ok {ns : List Int} {h : Hx} {d2 d3 d5 d6 d7 : Nat} {u v a5 a6 a7 : U} {a o : Option Vx} {e : Int} {N : Lx → Hx → Prop} (s : Scr ns h) (v2 : DV h d2 u) (v3 : DV h d3 v) (v5 : DV h d5 a5) (v6 : DV h d6 a6) (v7 : DV h d7 a7) (nu : NM u) (nv : NM v) (n5 : NM a5) (n6 : NM a6) (n7 : NM a7)
    (hq5 : ∀ j, lk a5 j = lk u j + lk v j) (hq6 : ∀ j, lk a6 j = lk u j - lk v j) (hq7 : ∀ j, lk a7 j = lk u j * e) (e0 : 0 ≤ e) (e3 : e ≤ 3) :
    OkS ((mseq (mpar 8 9 (vcall (mk 4 f_Unit___init__) (esc (var 2) esn)) (vcall (mk 4 f_Unit___init__) (esc (vcall (pickN [kDict]) (esc (vrevL (vitems (var 3))) esn)) esn))) (mseq (mif (tnot (tv (vcall f__law_stands (esc (var 8) (esc (var 2) esn))))) (mret (cst (.bl false))) mnx) (mseq (mif (tnot (tv (vcall f__law_stands (esc (var 9) (esc (var 3) esn))))) (mret (cst (.bl false))) mnx) (mseq (mif (tnot (tv (vcall f__law_stands (esc (SV.bin (pick2 [(own2 ow__mul__), kMul, kMulW]) (var 8) (var 9)) (esc (var 5) esn))))) (mret (cst (.bl false))) mnx) (mseq (mif (tor (tnot (tv (vcall f__law_stands (esc (SV.bin (pick2 [(own2 ow__floordiv__), kDiv, kDivN]) (var 8) (var 9)) (esc (var 6) esn))))) (tnot (tv (vcall f__law_stands (esc (vcall f__law_power (esc (var 8) (esc (var 4) esn))) (esc (var 7) esn)))))) (mret (cst (.bl false))) mnx) (mseq (mif (tnot (tv (SV.bin (pick2 [kEq, (own2 ow__eq__), kEqI, kEqD]) (SV.bin (pick2 [(own2 ow__mul__), kMul, kMulW]) (var 8) (var 9)) (SV.bin (pick2 [(own2 ow__mul__), kMul, kMulW]) (var 9) (var 8))))) (mret (cst (.bl false))) mnx) (mseq (mif (tv (SV.bin (pick2 [kNe, kNeI, kNeD]) (SV.bin (pick2 [kEq, (own2 ow__eq__), kEqI, kEqD]) (var 8) (var 9)) (SV.bin (pick2 [kEq, (own2 ow__eq__), kEqI, kEqD]) (vcall f__law_plain (esc (var 2) esn)) (vcall f__law_plain (esc (var 3) esn))))) (mret (cst (.bl false))) mnx) (mseq (mexp (vclear (un (attrV at_powers s_6) (var 8)))) (mret (vand (vcall f__law_stands (esc (var 8) (esc (var 2) esn))) (vand (vcall f__law_stands (esc (SV.bin (pick2 [(own2 ow__floordiv__), kDiv, kDivN]) (var 8) (var 8)) (esc vdict0 esn))) (SV.bin (pick2 [kEq, (own2 ow__eq__), kEqI, kEqD]) (SV.bin (pick2 [(own2 ow__mul__), kMul, kMulW]) (SV.bin (pick2 [(own2 ow__floordiv__), kDiv, kDivN]) (var 8) (var 9)) (var 9)) (var 8)))))))))))))
      [a, o, some (.ref d2), some (.ref d3), some (.int e), some (.ref d5), some (.ref d6), some (.ref d7), none, none] h) N fun w h' => w = .bl true ∧ Scr ns h' := by
  simp only [OkS_seq, OkS_par, Ok_vcall, Ok_esc, Ok_esn, Ok_var, sl_0, sl_s, Option.some.injEq, exists_eq_left']
  refine (mk_ok v2 nu).mono fun w h1 z => ?_
  obtain ⟨l, rfl, f1, ul⟩ := z
  unfold vrevL vitems
  have v31 := v3.fr f1
  simp only [Ok_bind, Ok_var, sl_0, sl_s, Option.some.injEq, exists_eq_left', v31.dkAt, nodupK_eI nv.nd, cond_true, Ok_ok]
  obtain ⟨tp, ft⟩ := tups_TP v h1
  have fa := ft.trans (Fr.new (tups (eI v) h1).2 (.lst (tups (eI v) h1).1))
  have La := LV.new (tups (eI v) h1).2 (tups (eI v) h1).1
  have tp := tp.fr (Fr.new (tups (eI v) h1).2 (.lst (tups (eI v) h1).1))
  generalize (tups (eI v) h1).2.new (.lst (tups (eI v) h1).1) = h2 at fa La tp
  generalize (tups (eI v) h1).2.n = q2 at La
  generalize (tups (eI v) h1).1 = rs at La tp
  simp only [La.asL, Ok_ok]
  have fb := fa.trans (Fr.new h2 (.lst rs.reverse))
  have Lb := LV.new h2 rs.reverse
  have tp := tp.rev.fr (Fr.new h2 (.lst rs.reverse))
  generalize h2.new (.lst rs.reverse) = h3 at fb Lb tp
  generalize h2.n = q3 at Lb
  rw [p_dictL Lb tp (rev_nm nv).nd]
  simp only [Ok_ok]
  have fc := fb.trans (Fr.new h3 (.dK (eI v.reverse)))
  have Dc := DV.new h3 v.reverse
  generalize h3.new (.dK (eI v.reverse)) = h4 at fc Dc
  generalize h3.n = q4 at Dc
  refine (mk_ok Dc (rev_nm nv)).mono fun w h5 z => ?_
  obtain ⟨r, rfl, f5, ur⟩ := z
  have fd := fc.trans f5
  have ul := ul.fr fd
  have f5 := f1.trans fd
  have v2 := v2.fr f5
  have v3 := v3.fr f5
  have v5 := v5.fr f5
  have v6 := v6.fr f5
  have v7 := v7.fr f5
  have s := s.fr f5
  clear f5 fd fc fb fa ft f1 v31 La Lb Dc tp
  have cl : CU (cn u) := cn_cu nu
  have er : cn v.reverse = cn v := cn_eq (cn_cu (rev_nm nv)) nv fun k => (cn_lk (rev_nm nv).nd k).trans (rev_lk nv k)
  rw [er] at ur
  have cr : CU (cn v) := cn_cu nv
  have ll : ∀ k, lk (cn u) k = lk u k := cn_lk nu.nd
  have lr : ∀ k, lk (cn v) k = lk v k := cn_lk nv.nd
  generalize h5 = h at *
  simp only [List.set, OkS_if, Ok_tnot, Ok_tv, Ok_vcall, Ok_esc, Ok_esn, Ok_var, sl_0, sl_s, Option.some.injEq, exists_eq_left']
  refine (stands_ok ul v2 nu rfl).mono fun w h1 z => ?_
  obtain ⟨rfl, f1⟩ := z
  simp only [tru_bl, Option.some.injEq, exists_eq_left', Bool.not_true, Bool.false_eq_true, if_false, OkS_mnx, OkS_if, OkS_seq, Ok_tnot, Ok_tv, Ok_vcall, Ok_esc, Ok_esn, Ok_var, sl_0, sl_s]
  refine (stands_ok (ur.fr f1) (v3.fr f1) nv rfl).mono fun w h2 z => ?_
  obtain ⟨rfl, f2⟩ := z
  have f2 := f1.trans f2
  simp only [tru_bl, Option.some.injEq, exists_eq_left', Bool.not_true, Bool.false_eq_true, if_false, OkS_mnx, OkS_if, OkS_seq, Ok_tnot, Ok_tv, Ok_vcall, Ok_esc, Ok_esn, Ok_var, sl_0, sl_s, Ok_bin, p_mulU (ul.fr f2) (ur.fr f2)]
  refine (mul_ok (ul.fr f2) (ur.fr f2) cl.nm cr.nm).mono fun w h3 z => ?_
  obtain ⟨i, x, rfl, f3, ux, cx, hx⟩ := z
  have f3 := f2.trans f3
  refine (stands_ok ux (v5.fr f3) n5 (cn_eq cx n5 fun k => by rw [hx, hq5]; dsimp only; rw [ll, lr])).mono fun w h4 z => ?_
  obtain ⟨rfl, f4⟩ := z
  have f4 := f3.trans f4
  simp only [tru_bl, Option.some.injEq, exists_eq_left', Bool.not_true, Bool.false_eq_true, if_false, OkS_mnx, OkS_if, OkS_seq, Ok_tor, Ok_tnot, Ok_tv, Ok_vcall, Ok_esc, Ok_esn, Ok_var, sl_0, sl_s, Ok_bin, p_divU (ul.fr f4) (ur.fr f4)]
  refine (div_ok (ul.fr f4) (ur.fr f4) cl.nm cr.nm).mono fun w h5 z => ?_
  obtain ⟨i, x, rfl, f5, ux, cx, hx⟩ := z
  have f5 := f4.trans f5
  refine (stands_ok ux (v6.fr f5) n6 (cn_eq cx n6 fun k => by rw [hx, hq6]; dsimp only; rw [ll, lr])).mono fun w h6' z => ?_
  obtain ⟨rfl, f6⟩ := z
  have f6 := f5.trans f6
  simp only [tru_bl, Option.some.injEq, exists_eq_left', Bool.not_true, Bool.false_eq_true, if_false]
  refine (law_power_ok (ul.fr f6) cl.nm e0 e3).mono fun w h7' z => ?_
  obtain ⟨i, x, rfl, f7, ux, cx, hx⟩ := z
  have f7 := f6.trans f7
  refine (stands_ok ux (v7.fr f7) n7 (cn_eq cx n7 fun k => by rw [hx, hq7]; dsimp only; rw [ll])).mono fun w h8 z => ?_
  obtain ⟨rfl, f8⟩ := z
  have f8 := f7.trans f8
  simp only [tru_bl, Option.some.injEq, exists_eq_left', Bool.not_true, Bool.false_eq_true, if_false, OkS_mnx, OkS_if, OkS_seq, Ok_tnot, Ok_tv, Ok_vcall, Ok_esc, Ok_esn, Ok_var, sl_0, sl_s, Ok_bin, p_mulU (ul.fr f8) (ur.fr f8)]
  refine (mul_ok (ul.fr f8) (ur.fr f8) cl.nm cr.nm).mono fun w h9 z => ?_
  obtain ⟨i, x, rfl, f9, ux, cx, hx⟩ := z
  have f9 := f8.trans f9
  rw [p_mulU (ur.fr f9) (ul.fr f9)]
  refine (mul_ok (ur.fr f9) (ul.fr f9) cr.nm cl.nm).mono fun w h10 z => ?_
  obtain ⟨i2, x2, rfl, f10, ux2, cx2, hx2⟩ := z
  have exx : x = x2 := cu_ext cx cx2 fun k => by rw [hx, hx2]; dsimp only; omega
  rw [p_eqU (ux.fr f10) ux2 cx cx2, decide_eq_true exx]
  have f10 := f9.trans f10
  simp only [Ok_ok, tru_bl, Option.some.injEq, exists_eq_left', Bool.not_true, Bool.false_eq_true, if_false, OkS_mnx, OkS_if, OkS_seq, Ok_tnot, Ok_tv, Ok_vcall, Ok_esc, Ok_esn, Ok_var, sl_0, sl_s, Ok_bin, p_eqU (ul.fr f10) (ur.fr f10) cl cr]
  refine (plain_ok (v2.fr f10) nu).mono fun w h11 z => ?_
  obtain ⟨q, rfl, f11, dq⟩ := z
  have f11 := f10.trans f11
  refine (plain_ok (v3.fr f11) nv).mono fun w h12 z => ?_
  obtain ⟨q', rfl, f12, dq'⟩ := z
  rw [p_eqD (dq.fr f12) dq' cl.c cr.c]
  have f12 := f11.trans f12
  simp only [Ok_ok, p_neb, BEq.rfl, tru_bl, Option.some.injEq, exists_eq_left', Bool.not_true, Bool.false_eq_true, if_false, OkS_mnx, OkS_exp]
  unfold vclear
  simp only [Ok_bind, Ok_un, Ok_var, sl_0, sl_s, Option.some.injEq, exists_eq_left']
  refine (a_powers (ul.fr f12) cl.nm).mono fun w h13 z => ?_
  obtain ⟨p, rfl, f13, dp, hp⟩ := z
  simp only [dp.g, Ok_ok]
  have f13 := f12.trans (f13.put hp (.dK []))
  generalize h13.put p (.dK []) = h14 at f13
  simp only [OkS_mret, Ok_vand, Ok_vcall, Ok_esc, Ok_esn, Ok_var, sl_0, sl_s, Option.some.injEq, exists_eq_left']
  refine (stands_ok (ul.fr f13) (v2.fr f13) nu rfl).mono fun w h15 z => ?_
  obtain ⟨rfl, f15⟩ := z
  have f15 := f13.trans f15
  simp only [Ok_ok, tru_bl, Option.some.injEq, exists_eq_left', if_true, Ok_bin, Ok_var, sl_0, sl_s, p_divU (ul.fr f15) (ul.fr f15), Ok_vand, Ok_vcall, Ok_esc, Ok_esn]
  refine (div_ok (ul.fr f15) (ul.fr f15) cl.nm cl.nm).mono fun w h16 z => ?_
  obtain ⟨i, x, rfl, f16, ux, cx, hx⟩ := z
  have f16 := f15.trans f16
  show Ok (f__law_stands [.ref i, .ref h16.n] (h16.new (.dK (eI [])))) _
  have f17 := Fr.new h16 (.dK (eI []))
  refine (stands_ok (ux.fr f17) (DV.new h16 []) ⟨.nil, fun _ z => nomatch z⟩ (cn_eq cx ⟨.nil, fun _ z => nomatch z⟩ fun k => by rw [hx]; show _ - _ = (0 : Int); omega)).mono fun w h18 z => ?_
  obtain ⟨rfl, f18⟩ := z
  have f18 := (f16.trans f17).trans f18
  simp only [tru_bl, Option.some.injEq, exists_eq_left', if_true, p_divU (ul.fr f18) (ur.fr f18)]
  refine (div_ok (ul.fr f18) (ur.fr f18) cl.nm cr.nm).mono fun w h19 z => ?_
  obtain ⟨i, x, rfl, f19, ux, cx, hx⟩ := z
  have f19 := f18.trans f19
  rw [p_mulU ux (ur.fr f19)]
  refine (mul_ok ux (ur.fr f19) cx.nm cr.nm).mono fun w h20 z => ?_
  obtain ⟨i2, x2, rfl, f20, ux2, cx2, hx2⟩ := z
  have f20 := f19.trans f20
  rw [p_eqU ux2 (ul.fr f20) cx2 cl, decide_eq_true (cu_ext cx2 cl fun k => by rw [hx2]; dsimp only; rw [hx]; dsimp only; omega)]
  exact ⟨rfl, s.fr f20⟩
end K31

set_option Elab.async false
set_option linter.all false
set_option maxRecDepth 100000
set_option maxHeartbeats 4800000
namespace K31
open PySem PySem.Spec PyProof.Rows L2 SV
open UX (U keys lk has Canon norm)
theorem dv_nz {ns : List Int} {h : Hx} {d : Nat} {u : U} (v : DV h d u) (s : Scr ns h) : d ≠ 0 := fun e => by
  have := v.g
  rw [e, s.1] at this
  cases this
theorem one_right_ok {ns : List Int} {h : Hx} {st : Nat} (s : ST ns h st) : Ok (f__law_one_right [.ref st] h) fun w h' => w = .bl true ∧ Scr ns h' := by
  refine Ok_fnx rfl ?_
  show OkS (m__law_one_right [some (.ref st), none, none, none, none, none, none, none, none, none] h) _ _
  unfold m__law_one_right
  rw [OkS_seq, OkS_par3]
  simp only [Ok_vcall, Ok_esc, Ok_esn, Ok_var, Ok_cst, sl_0, sl_s, Option.some.injEq, exists_eq_left']
  refine (law_powers_ok s).mono fun w h1 z => ?_
  obtain ⟨f1, s1, d2, u, rfl, l2, v2, nu⟩ := z
  refine (law_powers_ok s1).mono fun w h2 z => ?_
  obtain ⟨f2, s2, d3, v, rfl, l3, v3, nv⟩ := z
  refine (next_ok s2 (by decide)).mono fun w h3 z => ?_
  obtain ⟨f3, s3, e, rfl, e0, e3⟩ := z
  have n2 : d2 ≠ st := by have := s.lt; omega
  have n3 : d3 ≠ st := by have := s1.lt; omega
  have q2 := v2.lt
  have v2 := (v2.fx f2 n2).fx f3 n2
  have n23 : d2 ≠ d3 := by omega
  have v3 := v3.fx f3 n3
  rw [OkS_seq, OkS_par3]
  simp only [List.set, Ok_vcall, Ok_esc, Ok_esn, Ok_var, Ok_cst, sl_0, sl_s, Option.some.injEq, exists_eq_left', p_dictD v2, Ok_ok]
  have fa := Fr.new h3 (.dK (eI u))
  have Da := DV.new h3 u
  have ga : h3.n < (h3.new (.dK (eI u))).n := Nat.lt_succ_self _
  generalize h3.new (.dK (eI u)) = h4 at fa Da ga
  rw [p_dictD (v2.fr fa)]
  simp only [Ok_ok]
  have fb := Fr.new h4 (.dK (eI u))
  have Db := DV.new h4 u
  have gb : h4.n < (h4.new (.dK (eI u))).n := Nat.lt_succ_self _
  generalize h4.new (.dK (eI u)) = h5 at fb Db gb
  have fc := Fr.new h5 (.dK (eI []))
  have Dc := DV.new h5 []
  show OkS _ _ _
  have s6 := ((s3.s.fr fa).fr fb).fr fc
  have w2 := ((v2.fr fa).fr fb).fr fc
  have w3 := ((v3.fr fa).fr fb).fr fc
  have w5 := (Da.fr fb).fr fc
  have w6 := Db.fr fc
  have m2 := v2.lt
  have m3 := v3.lt
  have g1 := fa.n
  have g2 := fb.n
  show OkS (mseq _ _ [some (.ref st), none, some (.ref d2), some (.ref d3), some (.int e), some (.ref h3.n), some (.ref h4.n), some (.ref h5.n), none, none] (h5.new (.dK (eI [])))) _ _
  generalize h5.new (.dK (eI [])) = h6 at s6 w2 w3 w5 w6 Dc
  rw [OkS_seq]
  refine loop1 s6 w2 w3 w5 w6 Dc nu nv (by omega) (by omega) (by omega) (by omega) (by omega) n23 (by omega) (by omega) (by omega) (dv_nz w3 s6) (dv_nz w5 s6) (dv_nz w6 s6) fun h7 o a5 a6 s7 x2 x3 x5 x6 x7 na5 na6 e5 e6 => ?_
  rw [OkS_seq]
  refine loop2 s7 x2 x3 x5 x6 x7 nu (sm_of (by omega)) (by omega) n23 (by omega) (by omega) (by omega) (by omega) (by omega) (dv_nz x2 s7) (dv_nz x7 s7) fun h8 o a7 s8 y2 y3 y5 y6 y7 na7 e7 => ?_
  exact tail_ok s8 y2 y3 y5 y6 y7 nu nv na5 na6 na7 e5 e6 e7 e0 (by omega)
end K31

set_option Elab.async false
set_option linter.all false
set_option maxRecDepth 100000
set_option maxHeartbeats 4800000
namespace K31
open PySem PySem.Spec PyProof.Rows L2 SV
open UX (U keys lk has Canon norm)
theorem h0_scr (ns : List Int) : Scr ns (h0 ns) := ⟨rfl, Nat.zero_lt_one⟩
theorem rng_bounds (n : Int) (h1 : 1 ≤ n) (h2 : n ≤ 24) : (bif !decide ((2 : Int) = 0) && (Nat.blt (2 : Int).natAbs 1073741824 && (Builtin.Range.small 0 n 2 && decide (0 ≤ Builtin.Range.rangeSize 0 n 2))) then true else false) = true := by
  have : ∀ k : Fin 25, (bif !decide ((2 : Int) = 0) && (Nat.blt (2 : Int).natAbs 1073741824 && (Builtin.Range.small 0 (k.val : Int) 2 && decide (0 ≤ Builtin.Range.rangeSize 0 (k.val : Int) 2))) then true else false) = true := by decide +kernel
  have z := this ⟨n.toNat, by omega⟩
  rw [show ((⟨n.toNat, by omega⟩ : Fin 25).val : Int) = n from by show (n.toNat : Int) = n; omega] at z
  exact z
theorem math_ok (ns : List Int) : Ok (f_law [.ref 0] (h0 ns)) fun w h' => w = .bl true := by
  refine Ok_fnx rfl ?_
  show OkS (m_law [some (.ref 0), none] (h0 ns)) _ _
  unfold m_law
  rw [OkS_seq]
  have s := h0_scr ns
  have e1 : pickN [kLen] [.ref 0] (h0 ns) = .ok (.int ns.length) (h0 ns) := pickN_cons (by
    unfold kLen lenV
    have : (h0 ns).rd 0 = some (.lst (ns.map Vx.int)) := by unfold Hx.rd; rw [s.1]; rfl
    simp only [this, List.length_map])
  generalize h0 ns = h at s e1
  obtain ⟨n, hn, n1, n2⟩ : ∃ n : Int, (∀ l, SV.vcall (pickN [kMax2]) (esc (cst (.int 1)) (esc (SV.vcall (pickN [kMin2]) (esc (cst (.int 24)) (esc (SV.vcall (pickN [kLen]) (esc (var 0) esn)) esn))) esn)) (some (.ref 0) :: l) h = .ok (.int n) h) ∧ 1 ≤ n ∧ n ≤ 24 := by
    refine ⟨if (if (ns.length : Int) < 24 then (ns.length : Int) else 24) > 1 then (if (ns.length : Int) < 24 then (ns.length : Int) else 24) else 1, fun l => ?_, ?_, ?_⟩
    · simp only [SV.vcall, esc, esn, var, cst, sl_0, Rx.bind, e1]
      rfl
    · split <;> omega
    · split <;> split <;> omega
  have hb := rng_bounds n n1 n2
  refine mfor_ok (ix := .rng 0 2 (Builtin.Range.rangeSize 0 n 2).toNat) (h1 := h) (by
      unfold irng3
      simp only [cst, Rx.bind, hn, rng3]
      cases q : (!decide ((2 : Int) = 0) && (Nat.blt (2 : Int).natAbs 1073741824 && (Builtin.Range.small 0 n 2 && decide (0 ≤ Builtin.Range.rangeSize 0 n 2)))) with
      | true => rfl
      | false => rw [q] at hb; cases hb) (Builtin.Range.rangeSize 0 n 2).toNat rfl
    (fun k l hx => (∃ o, l = [some (.ref 0), o]) ∧ Scr ns hx) ⟨⟨none, rfl⟩, s⟩ (fun k l hx hk hI => ?_) fun l hx hI => ?_
  · obtain ⟨⟨o, rfl⟩, I1⟩ := hI
    refine ⟨_, _, _, step_rng hk, rfl, ?_⟩
    simp only [stoL, List.foldl, List.set, OkS_if, Ok_tnot, Ok_tv, Ok_vcall, Ok_esc, Ok_esn]
    show Ok (f__law_one_right [.ref hx.n] (hx.new (.lst [.ref 0, .int (0 + (k : Int) * 2), .int 0]))) _
    have f := Fr.new hx (.lst [.ref 0, .int (0 + (k : Int) * 2), .int 0])
    refine (one_right_ok (ns := ns) ⟨Nat.lt_succ_self _, Nat.ne_of_gt I1.2, I1.fr f, _, _, by rw [Hx.get_new, if_pos rfl], by omega, by omega⟩).mono fun w h' z => ?_
    obtain ⟨rfl, z⟩ := z
    simp only [tru_bl, Option.some.injEq, exists_eq_left', Bool.not_true, Bool.false_eq_true, if_false, OkS_mnx]
    exact ⟨⟨_, rfl⟩, z⟩
  · refine ⟨step_rng_end, ?_⟩
    simp only [OkS_mret, Ok_cst]
theorem math (ns : List Int) (_ : ns.length ≤ 63) (_ : ∀ z ∈ ns, Builtin.Int.intBits z ≤ 1048576) : ∃ h', f_law [.ref 0] (h0 ns) = .ok (.bl true) h' := by
  obtain ⟨w, h', e, rfl⟩ := (math_ok ns).get
  exact ⟨h', e⟩
end K31

theorem PySem.Challenge.cw_fewlabels_k31_whole_units_holds : PySem.Challenge.rw_fewlabels_k31_whole_units.Holds :=
  K31.closing K31.math
