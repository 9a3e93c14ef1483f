import PyProof.Rows.All
import Wide.All
import OpenK.AllK
import Wide.FinOn
import HandS.ForMost
import HandS.Exc
import HandS.Defaults
import HandS.MakeKw
import HandS.IsInst
import HandS.NoneIn
import HandS.Deep
import HandS.Style
import HandS.DictComp
import HandS.OwnEq
import HandS.Codes
import PyProof.NeKinds
import HandS.HeadHook1
import HandS.HeadHook2
import KE.KStateDown
import HandS.Head0
import HandS.Head1
import HandS.Head2
import HandS.HeadEnd
import HandS.Star
import HandS.More
import HandS.MakeKwOnly
import HandS.Walk
import HandS.ListItems
import HandS.Conv
import KE.KUnpackStar
import HandS.SetFor
import HandS.TupSets
import HandS.SortInts
import HandS.Strs
import HandS.Wide
import PySem.Challenge.RW_signloom_k94_whole_hands_as_one
set_option Elab.async false
set_option linter.all false
set_option maxRecDepth 100000
set_option maxHeartbeats 4000000
/-! K94Rules: rules that the layer lacks. -/
namespace K94
open PySem PySem.Spec PyProof.Rows L2

section
variable {X : Cx}
/-- xs[i] read for xs[i] op= e -/
theorem get_list : PGet X (rIxL X.K) := by
  intro pins s σ H x y v u Q I rx ry h
  obtain ⟨p, xs, i, z, rfl, rfl, hq, he, q⟩ := h
  cases rx
  obtain ⟨t, rfl⟩ := ry
  obtain ⟨its, r, pl, hz⟩ := I.list hq
  obtain ⟨j, h1, h2, h3, h4, h5⟩ := atI_get he
  obtain ⟨w, ew, rw'⟩ := r.get h2
  have hl := r.length
  have hn := line63
  have fin : EP X pins σ Q w s := ⟨z, H, I, rw', q⟩
  by_cases h0 : 0 ≤ i
  · have hj : i.toNat = j := by
      rw [seqIndex_of h0 h5] at h1
      exact Option.some.inj h1
    exact wpAny_getItem_list pl.isList h0 (by omega) (by rw [hj]; simpa using ew) fin
  · have hj : (i + (its.toArray.size : Int)).toNat = j := by
      rw [seqIndex_neg (by omega) h4] at h1
      rw [List.size_toArray, ← hl]
      exact Option.some.inj h1
    exact wpAny_getItem_list_neg pl.isList (by omega) (by rw [List.size_toArray] <;> omega) (by omega) (by rw [hj]; simpa using ew) fin

/-- a list against the empty one -/
def rEqNil (K : PySem.W.Frag) : R2 := fun x y H Q => ∃ a b xs, x = .ref a ∧ y = .ref b ∧ SqL K H a xs ∧ SqL K H b [] ∧ Q (.bl xs.isEmpty) H
def rNeNil (K : PySem.W.Frag) : R2 := fun x y H Q => ∃ a b xs, x = .ref a ∧ y = .ref b ∧ SqL K H a xs ∧ SqL K H b [] ∧ Q (.bl (!xs.isEmpty)) H
theorem vals_nil {us : List Value} (r : Vals [] us) : us = [] := by
  cases r
  rfl
theorem op_eqNil (hu : X.A.units < cLine) : OpR X (compareOp .Eq) (rEqNil X.K) := by
  intro pins s σ H x y v u Q I rx ry h
  obtain ⟨a, b, xs, rfl, rfl, ha, hb, q⟩ := h
  cases rx
  cases ry
  obtain ⟨i1, r1, p1, z1⟩ := I.list ha
  obtain ⟨i2, r2, p2, z2⟩ := I.list hb
  have e2 := vals_nil r2
  subst e2
  cases xs with
  | nil =>
    have e1 := vals_nil r1
    subst e1
    exact SeqAt.RcAt.lists (e := fun _ => true) p1.isList p2.isList rfl hu (fun j h1 => absurd h1 (by simp)) X.prog X.w X.xe _ ⟨.bl true, H, I, rfl, q⟩
  | cons z zs =>
    have hl := r1.length
    exact SeqAt.RcAt.lists_lengths p1.isList p2.isList (by
      simp only [List.size_toArray, List.length_nil, ← hl, List.length_cons]
      simp) hu X.prog X.w X.xe _ ⟨.bl false, H, I, rfl, q⟩
theorem op_neNil (hu : X.A.units < cLine) : OpR X (compareOp .NotEq) (rNeNil X.K) := by
  intro pins s σ H x y v u Q I rx ry h
  obtain ⟨a, b, xs, rfl, rfl, ha, hb, q⟩ := h
  cases rx
  cases ry
  obtain ⟨i1, r1, p1, z1⟩ := I.list ha
  obtain ⟨i2, r2, p2, z2⟩ := I.list hb
  have e2 := vals_nil r2
  subst e2
  cases xs with
  | nil =>
    have e1 := vals_nil r1
    subst e1
    exact SeqAt.RcNeAt.lists (e := fun _ => true) p1.isList p2.isList rfl hu (fun j h1 => absurd h1 (by simp)) X.prog X.w X.xe _ ⟨.bl false, H, I, rfl, q⟩
  | cons z zs =>
    have hl := r1.length
    exact SeqAt.RcNeAt.lists_lengths p1.isList p2.isList (by
      simp only [List.size_toArray, List.length_nil, ← hl, List.length_cons]
      simp) hu X.prog X.w X.xe _ ⟨.bl true, H, I, rfl, q⟩

/-- o.f as a target -/
def gFld (K : PySem.W.Frag) (to : TE) (f : Str) : TG := fun v σ H Q => to σ H fun x H1 => ∃ a C dx fs, x = .ref a ∧ H1 a = some (.ins C dx fs) ∧ Cls K C ∧ NoAttr K C f ∧ fs.length < 1000 ∧ Q σ (upd H1 a (.ins C dx (putF f v fs)))
theorem pg_attr {o : Expr} {f : Str} {to : TE} {pos : Pos} (ho : PE X o to) (ha : ∀ v, assign (.Attribute o f pos) X.env v = (do
      let ov ← holding [v] (eval o X.env)
      standAt pos.atName
      holding [v, ov] (setAttr ov f v)
      release [v, ov] []) := by intro _; rfl) : PG X (.Attribute o f pos) (gFld X.K to f) := by
  refine ⟨fun pins s σ H v u Q I r hw => ?_⟩
  rw [ha]
  refine wpAny_bind (wpAny_holding (thn (ho.run pins s σ H _ I hw) fun ov s1 ⟨x, H1, I1, rx, a, C, dx, fs, ex, ea, c, n, l, q⟩ => ?_))
  subst ex
  obtain rfl : ov = Value.ref a := rx
  refine wpAny_bind (wpAny_standAt (wpAny_bind (wpAny_holding (setattr_ok I1 ea c n l r fun s2 I2 => ?_))))
  exact wpAny_release ⟨σ, _, I2, q⟩

/-- o.m(e, .., k = v, ..) -/
def tMethN (C : Addr) (m : Str) (n j : Nat) (sp : Sp) (gV : List V → List V → List V) (E : XK) (ta : TE) (t tk : TA) : TE := fun σ H Q => ta σ H fun x H1 => ∃ a dx fs, x = .ref a ∧ H1 a = some (.ins C dx fs) ∧ fs.lookup m = none ∧
  t σ H1 fun vs H2 => tk σ H2 fun zs H3 => vs.length = n ∧ zs.length = j ∧ sp (gV (.ref a :: vs) zs) H3 Q E
theorem pe_methN {CX : CXT} {k n : Nat} {f C : Addr} {fd : FuncData} {ps ks : List Str} {sp : Sp} {E : XK} {m : Str} {apos pos : Pos} {o e : Expr} {es : List Expr} {kws : List Keyword} {ta : TE} {t tk : TA} {g : List Value → List Value → List Value} {gV : List V → List V → List V} {pl : Sem Bool}
    (he : PE X o ta) (c : Cls X.K C) (hm : Meth X.K C m f) (F : FnOk X.prog X.w X.K X.mg X.base CX k f fd ps sp) (hr : Room k X.A) (hb : KBn X.K fd ps (n + 1) ks g gV) (hx : Passes CX X E)
    (ha : PA X (e :: es) t) (hkw : PK X kws tk) (hall : (backToKw pos (keywordEach kws X.env)).all (·.1.isSome) = true := by rfl) (hks : (backToKw pos (keywordEach kws X.env)).filterMap (·.1) = ks := by rfl)
    (hst : starEach (e :: es) X.env = (false, eval e X.env) :: starEach es X.env := by rfl)
    (hpl : ((backTo pos (starEach (e :: es) X.env)).any (·.1) || (backToKw pos (keywordEach kws X.env)).any (·.1.isNone)) = false := by rfl)
    (ht : eval (.Call (.Attribute o m apos) (e :: es) kws pos) X.env = (do
      let ov ← eval o X.env
      standAt apos.atName
      let (f, first) ← holding [ov] (getMethod ov m pl)
      callWith pos f first (backTo pos (starEach (e :: es) X.env)) (backToKw pos (keywordEach kws X.env))) := by rfl) :
    PE X (.Call (.Attribute o m apos) (e :: es) kws pos) (tMethN C m n ks.length sp gV E ta t tk) := by
  refine ⟨fun pins s σ H Q I h => ?_⟩
  refine PySem.W.methodCall_KW (pl := pl) (thn (he.run pins s σ H _ I h) fun u s1 ⟨x, H1, I1, rx, a, dx, fs, ex, ea, l, q⟩ => ?_) ht
  subst ex
  obtain rfl : u = Value.ref a := rx
  refine getmeth_ok I1 ea c hm l ?_
  refine PySem.W.callWith_KW (first := [.ref a]) (h₀ := X.base) I.ok.mod.kin hm.kp hall (thn (ha.run pos pins s1 σ H1 _ I1 q) fun us s2 ⟨vs, H2, I2, r, q2⟩ => ?_) hpl hst
  refine thn (hkw.run pos pins s2 σ H2 _ I2 q2) fun ws s3 ⟨zs, H3, I3, rz, l1, l2, q3⟩ => ⟨I3.kIn, ?_⟩
  rw [hks]
  exact run_fnN (us := .ref a :: us) (vs := .ref a :: vs) F hr hb hx I3 (.cons rfl r) rz (by rw [List.length_cons, l1]) l2 q3
end

/-! ### x in t, x not in t, t a tuple of data of any depth -/
section
variable {X : Cx}
def rNotInDT (K : PySem.W.Frag) : R2 := fun x y H Q => ∃ d ds, Dp K H x d ∧ Dp K H y (.tuple ds) ∧ SeqAt.shaped d = true ∧ SeqAt.shaped (.tuple ds) = true ∧ Q (.bl (!ds.any fun z => PyData.eqv z d)) H
theorem shaped_items {ds : List PyData} (h : SeqAt.shaped (.tuple ds) = true) : PyData.canLayAll0 ds = true := SeqAt.canLay_of_shaped h
theorem op_notInDT (hu : X.A.units + 65 < cLine) : OpR X (compareOp .NotIn) (rNotInDT X.K) := by
  intro pins s σ H x y v u Q I rx ry h
  obtain ⟨d, ds, hd, he, sd, se, q⟩ := h
  obtain ⟨as, r1⟩ := Dp.reads I d x v hd rx
  obtain ⟨bs, r2⟩ := Dp.reads I (.tuple ds) y u he ry
  exact SeqAt.notIn_tuple_reads r2 r1 (shaped_items se) (SeqAt.canLay_of_shaped sd) (room_in_shaped sd hu) ⟨.bl _, H, I, rfl, q⟩
end

/-! ### a != b by an own __eq__ -/
section
variable {X : Cx} {C g : Addr} {n : Nat} {sp : Sp} {E : XK} {CX : CXT}
structure NeC (K : PySem.W.Frag) (C g : Addr) : Prop where
  ne : PySem.W.findIn K (.ref C) "__ne__" = some (some (.builtin "object.__ne__"))
  eq : PySem.W.findIn K (.ref C) "__eq__" = some (some (.ref g))
  fn : PySem.W.isFn K (.ref g) = true
  ob : PySem.W.subIn K (.ref C) (.type "object") = some true
/-- both are instances of C; its __eq__ at g hands back True or False -/
def rNeOwn (C : Addr) (sp : Sp) (E : XK) : R2 := fun x y H Q => ∃ a dx fs b dy fs', x = .ref a ∧ y = .ref b ∧ H a = some (.ins C dx fs) ∧ H b = some (.ins C dy fs') ∧ sp [.ref a, .ref b] H (fun v H' => ∃ k, v = .bl k ∧ Q (.bl (!k)) H') E
theorem op_neOwn (c : NeC X.K C g) (F : FnR X.prog X.w X.K X.mg X.base CX n g sp) (hr : Room (n + 2) X.A) (hx : Passes CX X E) : OpR X (compareOp .NotEq) (rNeOwn C sp E) := by
  intro pins s σ H x y v u Q I rx ry h
  obtain ⟨a, dx, fs, b, dy, fs', rfl, rfl, ha, hb, q⟩ := h
  cases (show v = Value.ref a from rx)
  cases (show u = Value.ref b from ry)
  obtain ⟨mA, O, _, _, _, _⟩ := ins_get I.hok ha
  obtain ⟨mB, O', _, _, _, _⟩ := ins_get I.hok hb
  obtain ⟨od, J, _⟩ := O.look
  obtain ⟨od', J', _⟩ := O'.look
  have Kin := I.kIn
  show wpAny _ _ (richCompare .NotEq (.ref a) (.ref b)) _ _ s
  unfold richCompare
  simp only [oneThing_ref]
  refine wpAny_holding (wpAny_bind (wpAny_cRoomFor hr.units0 ?_))
  refine wpAny_bind (J.type.here (wpAny_bind (J'.type.here ?_)))
  rw [if_neg (by simp)]
  refine wpAny_bind (wpAny_pure ?_)
  simp only [Bool.false_eq_true, if_false]
  refine wpAny_bind ?_
  -- the def's call, under the builtin's frame
  have below : codeAny (model X.prog X.w) X.A.in1 (.call (.ref g) ⟨[.ref a, .ref b], []⟩) (fun r s' => match r with | .ok (.ret v) => EP X pins σ (fun v H' => ∃ k, v = .bl k ∧ Q (.bl (!k)) H') v s' | .ok _ => False | .error e => X.xe e s') s := by
    refine codeAny_mono (F X.A.in1 X.stack s H [.ref a, .ref b] [.ref a, .ref b] _ E ((hr.mono (by omega)).in1) I.env0.in1 (.cons rfl (.cons rfl .nil)) q) fun r s' hq => ?_
    cases r with
    | error e => exact hx pins σ H s e s' I hq
    | ok fl =>
      cases fl with
      | ret u => exact I.after hq
      | next => exact False.elim hq
      | brk => exact False.elim hq
      | cont => exact False.elim hq
  have inner : wpAny (model X.prog X.w) X.A.in1 (call (.ref g) [.ref a, .ref b]) (fun v s' => ∃ k H', v = .bool k ∧ Inv X pins σ H' s' ∧ Q (.bl (!k)) H') X.xe s := by
    refine thn (wpAny_call below) fun w s' z => ?_
    obtain ⟨z', H', I', rz, k, ek, qz⟩ := z
    subst ek
    exact ⟨k, H', rz, I', qz⟩
  have body : wpAny (model X.prog X.w) X.A.in1 (Builtin.«object.__ne__» ⟨[.ref a, .ref b], []⟩) (fun fin s' => ∃ v, fin = .done (.ret v) ∧ ∃ k H', v = .bool (!k) ∧ Inv X pins σ H' s' ∧ Q (.bl (!k)) H') X.xe s := by
    have J1 := J
    unfold Builtin.«object.__ne__»
    repeat (first
      | with_reducible refine wpAny_cRoomFor (A := X.A.in1) (by have := hr.un; show X.A.units + 1 < cLine; omega) ?_
      | (refine wpAny_bind (m := callSpecialIfBound? (.ref a) (Str.ofString "__eq__") [.ref b]) (PySem.W.ifBound_K Kin J1 c.eq c.fn (thn inner fun w s' z => ?_)); obtain ⟨k, H', rfl, I', qz⟩ := z)
      | wp_step)
    all_goals first
      | exact ⟨_, rfl, k, H', rfl, I', qz⟩
      | (refine wpAny_bind (m := truthy (.bool _)) (wpAny_truthy_bool ?_); repeat (first | exact wpAny_pure ⟨_, rfl, k, H', rfl, I', qz⟩ | wp_step))
  have called : wpAny (model X.prog X.w) X.A (callSpecialIfBound? (.ref a) "__ne__" [.ref b]) (fun r s' => ∃ k H', r = some (.bool (!k)) ∧ Inv X pins σ H' s' ∧ Q (.bl (!k)) H') X.xe s := by
    simp only [callSpecialIfBound?, bindSpecialIfBound?]
    refine wpAny_holding (wpAny_bind (wpAny_bind (wpAny_bind (J.type.here ((PySem.W.looks_findIn Kin c.ne).here ?_)))))
    simp only [PySem.F.slot_object_ne.bind]
    refine wpAny_bind (wpAny_askSetting (wpAny_ite ?_))
    have fin : wpAny (model X.prog X.w) X.A (call (.builtin "object.__ne__") ([.ref a] ++ [.ref b]) >>= fun v => pure (some v)) (fun r s' => ∃ k H', r = some (.bool (!k)) ∧ Inv X pins σ H' s' ∧ Q (.bl (!k)) H') X.xe s := by
      refine wpAny_bind (wpAny_call (codeAny_call_builtin PySem.F.slot_object_ne.plain PySem.F.cmpEntry_ne ?_))
      refine PySem.W.check_slot PySem.F.cmpKind_ne PySem.F.cmpSplit_ne (J.type.andThen (PySem.W.looks_subIn Kin c.ob)) (PySem.F.cmpArgs_ne _ _) (thn body fun fin s' z => ?_)
      obtain ⟨v, rfl, k, H', rfl, I', qz⟩ := z
      exact wpAny_pure ⟨k, H', rfl, I', qz⟩
    split
    · exact wpAny_bind (wpAny_pure (wpAny_pure fin))
    · exact wpAny_tryCatch (wpAny_bind (wpAny_pure (wpAny_pure fin)))
  unfold tryCompare
  refine wpAny_bind (thn called fun r s' z => ?_)
  obtain ⟨k, H', rfl, I', qz⟩ := z
  refine wpAny_pure ?_
  exact wpAny_pure ⟨.bl (!k), H', I', rfl, qz⟩
end
end K94
set_option maxRecDepth 100000
set_option maxHeartbeats 4000000
/-! K94Txt: the text by places, what the head tells of it. Printed by gen_txt.py. -/
namespace K94
open PySem PySem.Spec PyProof.Rows L2 C8
def top (i : Nat) : Stmt := PySem.Challenge.pw_signloom_k94_whole_hands_as_one.main.body.getD i (.Pass ⟨0, 0, 0, 0⟩)
abbrev s_is_whole : Stmt := top 19
abbrev s_is_between : Stmt := top 20
abbrev s_is_number : Stmt := top 21
abbrev s_is_row : Stmt := top 22
abbrev s_is_word : Stmt := top 23
abbrev s_needed : Stmt := top 24
abbrev s_wanted : Stmt := top 27
abbrev s_checked_table : Stmt := top 29
abbrev s_checked_text : Stmt := top 30
abbrev s_allowed : Stmt := top 32
abbrev s_is_signs : Stmt := top 33
abbrev s_is_deed : Stmt := top 34
abbrev s_in_groups : Stmt := top 35
abbrev s_check_change : Stmt := top 37
abbrev s_parted : Stmt := top 38
abbrev s_come_to : Stmt := top 39
abbrev s_put_off : Stmt := top 40
abbrev s_stretch_off : Stmt := top 41
abbrev s_changed : Stmt := top 45
abbrev s_law_cell_at : Stmt := top 82
abbrev s_law_mixed : Stmt := top 83
abbrev s_law_source : Stmt := top 84
abbrev s_law_next : Stmt := top 85
abbrev s_law_board : Stmt := top 86
abbrev s_law_deeds : Stmt := top 87
abbrev s_law_state : Stmt := top 88
abbrev s_law_step : Stmt := top 89
abbrev s_law_story_right : Stmt := top 90
abbrev s_law_at_once_right : Stmt := top 91
abbrev s_law : Stmt := top 92
abbrev s_Sign_init : Stmt := inClass (top 25) 0
abbrev s_Ready_init : Stmt := inClass (top 26) 0
abbrev s_Table_init : Stmt := inClass (top 28) 0
abbrev s_Table_numbers : Stmt := inClass (top 28) 1
abbrev s_Table_check_parts : Stmt := inClass (top 28) 3
abbrev s_Table_check_letter : Stmt := inClass (top 28) 5
abbrev s_Change_init : Stmt := inClass (top 36) 0
abbrev s_Change_rows : Stmt := inClass (top 36) 1
abbrev s_Change_check_row : Stmt := inClass (top 36) 2
abbrev s_Change_done : Stmt := inClass (top 36) 3
abbrev s_Change_undoing : Stmt := inClass (top 36) 4
abbrev s_Change_then : Stmt := inClass (top 36) 5
abbrev s_Change_past : Stmt := inClass (top 36) 6
abbrev s_Change_eq : Stmt := inClass (top 36) 7
abbrev s_Side_init : Stmt := inClass (top 46) 0
abbrev s_Side_send : Stmt := inClass (top 46) 1
abbrev s_Side_taken_in : Stmt := inClass (top 46) 2
abbrev s_Side_take_in : Stmt := inClass (top 46) 3
abbrev s_Meeting_init : Stmt := inClass (top 47) 0
abbrev s_Meeting_side : Stmt := inClass (top 47) 1
abbrev s_Meeting_do : Stmt := inClass (top 47) 2
abbrev s_Meeting_up : Stmt := inClass (top 47) 3
abbrev s_Meeting_down : Stmt := inClass (top 47) 4
abbrev s_Meeting_middle : Stmt := inClass (top 47) 5
abbrev s_Meeting_text : Stmt := inClass (top 47) 6
abbrev s_Meeting_waiting : Stmt := inClass (top 47) 7
abbrev s_Meeting_story : Stmt := inClass (top 47) 8
abbrev s_Sheet_init : Stmt := inClass (top 80) 0
abbrev s_Sheet_text : Stmt := inClass (top 80) 1
abbrev s_Sheet_change : Stmt := inClass (top 80) 8
abbrev s_Sheet_alter : Stmt := inClass (top 80) 9
abbrev s_Sheet_undo : Stmt := inClass (top 80) 10
/-! ### the defs -/
def d_is_whole : He.DefD := ⟨("is_whole", none), "is_whole", "is_whole", defArgs s_is_whole, defBody s_is_whole, defScope s_is_whole, [], []⟩
def d_is_between : He.DefD := ⟨("is_between", none), "is_between", "is_between", defArgs s_is_between, defBody s_is_between, defScope s_is_between, [], []⟩
def d_is_number : He.DefD := ⟨("is_number", none), "is_number", "is_number", defArgs s_is_number, defBody s_is_number, defScope s_is_number, [], []⟩
def d_is_row : He.DefD := ⟨("is_row", none), "is_row", "is_row", defArgs s_is_row, defBody s_is_row, defScope s_is_row, [], []⟩
def d_is_word : He.DefD := ⟨("is_word", none), "is_word", "is_word", defArgs s_is_word, defBody s_is_word, defScope s_is_word, [], []⟩
def d_needed : He.DefD := ⟨("needed", none), "needed", "needed", defArgs s_needed, defBody s_needed, defScope s_needed, [], []⟩
def d_wanted : He.DefD := ⟨("wanted", none), "wanted", "wanted", defArgs s_wanted, defBody s_wanted, defScope s_wanted, [], []⟩
def d_checked_table : He.DefD := ⟨("checked_table", none), "checked_table", "checked_table", defArgs s_checked_table, defBody s_checked_table, defScope s_checked_table, [], []⟩
def d_checked_text : He.DefD := ⟨("checked_text", none), "checked_text", "checked_text", defArgs s_checked_text, defBody s_checked_text, defScope s_checked_text, [], []⟩
def d_allowed : He.DefD := ⟨("allowed", none), "allowed", "allowed", defArgs s_allowed, defBody s_allowed, defScope s_allowed, [], []⟩
def d_is_signs : He.DefD := ⟨("is_signs", none), "is_signs", "is_signs", defArgs s_is_signs, defBody s_is_signs, defScope s_is_signs, [], []⟩
def d_is_deed : He.DefD := ⟨("is_deed", none), "is_deed", "is_deed", defArgs s_is_deed, defBody s_is_deed, defScope s_is_deed, [], []⟩
def d_in_groups : He.DefD := ⟨("in_groups", none), "in_groups", "in_groups", defArgs s_in_groups, defBody s_in_groups, defScope s_in_groups, [], []⟩
def d_check_change : He.DefD := ⟨("check_change", none), "check_change", "check_change", defArgs s_check_change, defBody s_check_change, defScope s_check_change, [], []⟩
def d_parted : He.DefD := ⟨("parted", none), "parted", "parted", defArgs s_parted, defBody s_parted, defScope s_parted, [], []⟩
def d_come_to : He.DefD := ⟨("come_to", none), "come_to", "come_to", defArgs s_come_to, defBody s_come_to, defScope s_come_to, [], []⟩
def d_put_off : He.DefD := ⟨("put_off", none), "put_off", "put_off", defArgs s_put_off, defBody s_put_off, defScope s_put_off, [], []⟩
def d_stretch_off : He.DefD := ⟨("stretch_off", none), "stretch_off", "stretch_off", defArgs s_stretch_off, defBody s_stretch_off, defScope s_stretch_off, [], []⟩
def d_changed : He.DefD := ⟨("changed", none), "changed", "changed", defArgs s_changed, defBody s_changed, defScope s_changed, [], []⟩
def d_law_cell_at : He.DefD := ⟨("_law_cell_at", none), "_law_cell_at", "_law_cell_at", defArgs s_law_cell_at, defBody s_law_cell_at, defScope s_law_cell_at, [], []⟩
def d_law_mixed : He.DefD := ⟨("_law_mixed", none), "_law_mixed", "_law_mixed", defArgs s_law_mixed, defBody s_law_mixed, defScope s_law_mixed, [], []⟩
def d_law_source : He.DefD := ⟨("_law_source", none), "_law_source", "_law_source", defArgs s_law_source, defBody s_law_source, defScope s_law_source, [], []⟩
def d_law_next : He.DefD := ⟨("_law_next", none), "_law_next", "_law_next", defArgs s_law_next, defBody s_law_next, defScope s_law_next, [], []⟩
def d_law_board : He.DefD := ⟨("_law_board", none), "_law_board", "_law_board", defArgs s_law_board, defBody s_law_board, defScope s_law_board, [], []⟩
def d_law_deeds : He.DefD := ⟨("_law_deeds", none), "_law_deeds", "_law_deeds", defArgs s_law_deeds, defBody s_law_deeds, defScope s_law_deeds, [], []⟩
def d_law_state : He.DefD := ⟨("_law_state", none), "_law_state", "_law_state", defArgs s_law_state, defBody s_law_state, defScope s_law_state, [], []⟩
def d_law_step : He.DefD := ⟨("_law_step", none), "_law_step", "_law_step", defArgs s_law_step, defBody s_law_step, defScope s_law_step, [], []⟩
def d_law_story_right : He.DefD := ⟨("_law_story_right", none), "_law_story_right", "_law_story_right", defArgs s_law_story_right, defBody s_law_story_right, defScope s_law_story_right, [], []⟩
def d_law_at_once_right : He.DefD := ⟨("_law_at_once_right", none), "_law_at_once_right", "_law_at_once_right", defArgs s_law_at_once_right, defBody s_law_at_once_right, defScope s_law_at_once_right, [], []⟩
def d_law : He.DefD := ⟨("law", none), "law", "law", defArgs s_law, defBody s_law, defScope s_law, [], []⟩
def d_Sign_init : He.DefD := ⟨("Sign", some "__init__"), "__init__", "Sign.__init__", defArgs s_Sign_init, defBody s_Sign_init, defScope s_Sign_init, [], [("kind", .str "letter"), ("rank", .int 0), ("small", .non), ("great", .non), ("late", .non), ("fold", .non), ("way", .str "none"), ("wide", .int 1)]⟩
def d_Ready_init : He.DefD := ⟨("Ready", some "__init__"), "__init__", "Ready.__init__", defArgs s_Ready_init, defBody s_Ready_init, defScope s_Ready_init, [], []⟩
def d_Table_init : He.DefD := ⟨("Table", some "__init__"), "__init__", "Table.__init__", defArgs s_Table_init, defBody s_Table_init, defScope s_Table_init, [], [("ready", .non)]⟩
def d_Table_numbers : He.DefD := ⟨("Table", some "numbers"), "numbers", "Table.numbers", defArgs s_Table_numbers, defBody s_Table_numbers, defScope s_Table_numbers, [], []⟩
def d_Table_check_parts : He.DefD := ⟨("Table", some "check_parts"), "check_parts", "Table.check_parts", defArgs s_Table_check_parts, defBody s_Table_check_parts, defScope s_Table_check_parts, [], []⟩
def d_Table_check_letter : He.DefD := ⟨("Table", some "check_letter"), "check_letter", "Table.check_letter", defArgs s_Table_check_letter, defBody s_Table_check_letter, defScope s_Table_check_letter, [], []⟩
def d_Change_init : He.DefD := ⟨("Change", some "__init__"), "__init__", "Change.__init__", defArgs s_Change_init, defBody s_Change_init, defScope s_Change_init, [], []⟩
def d_Change_rows : He.DefD := ⟨("Change", some "rows"), "rows", "Change.rows", defArgs s_Change_rows, defBody s_Change_rows, defScope s_Change_rows, [], []⟩
def d_Change_check_row : He.DefD := ⟨("Change", some "check_row"), "check_row", "Change.check_row", defArgs s_Change_check_row, defBody s_Change_check_row, defScope s_Change_check_row, [], []⟩
def d_Change_done : He.DefD := ⟨("Change", some "done"), "done", "Change.done", defArgs s_Change_done, defBody s_Change_done, defScope s_Change_done, [], []⟩
def d_Change_undoing : He.DefD := ⟨("Change", some "undoing"), "undoing", "Change.undoing", defArgs s_Change_undoing, defBody s_Change_undoing, defScope s_Change_undoing, [], []⟩
def d_Change_then : He.DefD := ⟨("Change", some "then"), "then", "Change.then", defArgs s_Change_then, defBody s_Change_then, defScope s_Change_then, [], []⟩
def d_Change_past : He.DefD := ⟨("Change", some "past"), "past", "Change.past", defArgs s_Change_past, defBody s_Change_past, defScope s_Change_past, [], [("ahead", .bl false)]⟩
def d_Change_eq : He.DefD := ⟨("Change", some "__eq__"), "__eq__", "Change.__eq__", defArgs s_Change_eq, defBody s_Change_eq, defScope s_Change_eq, [], []⟩
def d_Side_init : He.DefD := ⟨("Side", some "__init__"), "__init__", "Side.__init__", defArgs s_Side_init, defBody s_Side_init, defScope s_Side_init, [], []⟩
def d_Side_send : He.DefD := ⟨("Side", some "send"), "send", "Side.send", defArgs s_Side_send, defBody s_Side_send, defScope s_Side_send, [], []⟩
def d_Side_taken_in : He.DefD := ⟨("Side", some "taken_in"), "taken_in", "Side.taken_in", defArgs s_Side_taken_in, defBody s_Side_taken_in, defScope s_Side_taken_in, [], []⟩
def d_Side_take_in : He.DefD := ⟨("Side", some "take_in"), "take_in", "Side.take_in", defArgs s_Side_take_in, defBody s_Side_take_in, defScope s_Side_take_in, [], []⟩
def d_Meeting_init : He.DefD := ⟨("Meeting", some "__init__"), "__init__", "Meeting.__init__", defArgs s_Meeting_init, defBody s_Meeting_init, defScope s_Meeting_init, [], []⟩
def d_Meeting_side : He.DefD := ⟨("Meeting", some "side"), "side", "Meeting.side", defArgs s_Meeting_side, defBody s_Meeting_side, defScope s_Meeting_side, [], []⟩
def d_Meeting_do : He.DefD := ⟨("Meeting", some "do"), "do", "Meeting.do", defArgs s_Meeting_do, defBody s_Meeting_do, defScope s_Meeting_do, [], []⟩
def d_Meeting_up : He.DefD := ⟨("Meeting", some "up"), "up", "Meeting.up", defArgs s_Meeting_up, defBody s_Meeting_up, defScope s_Meeting_up, [], []⟩
def d_Meeting_down : He.DefD := ⟨("Meeting", some "down"), "down", "Meeting.down", defArgs s_Meeting_down, defBody s_Meeting_down, defScope s_Meeting_down, [], []⟩
def d_Meeting_middle : He.DefD := ⟨("Meeting", some "middle"), "middle", "Meeting.middle", defArgs s_Meeting_middle, defBody s_Meeting_middle, defScope s_Meeting_middle, [], []⟩
def d_Meeting_text : He.DefD := ⟨("Meeting", some "text"), "text", "Meeting.text", defArgs s_Meeting_text, defBody s_Meeting_text, defScope s_Meeting_text, [], []⟩
def d_Meeting_waiting : He.DefD := ⟨("Meeting", some "waiting"), "waiting", "Meeting.waiting", defArgs s_Meeting_waiting, defBody s_Meeting_waiting, defScope s_Meeting_waiting, [], []⟩
def d_Meeting_story : He.DefD := ⟨("Meeting", some "story"), "story", "Meeting.story", defArgs s_Meeting_story, defBody s_Meeting_story, defScope s_Meeting_story, [], []⟩
def d_Sheet_init : He.DefD := ⟨("Sheet", some "__init__"), "__init__", "Sheet.__init__", defArgs s_Sheet_init, defBody s_Sheet_init, defScope s_Sheet_init, [], []⟩
def d_Sheet_text : He.DefD := ⟨("Sheet", some "text"), "text", "Sheet.text", defArgs s_Sheet_text, defBody s_Sheet_text, defScope s_Sheet_text, [], []⟩
def d_Sheet_change : He.DefD := ⟨("Sheet", some "change"), "change", "Sheet.change", defArgs s_Sheet_change, defBody s_Sheet_change, defScope s_Sheet_change, [], []⟩
def d_Sheet_alter : He.DefD := ⟨("Sheet", some "alter"), "alter", "Sheet.alter", defArgs s_Sheet_alter, defBody s_Sheet_alter, defScope s_Sheet_alter, [], []⟩
def d_Sheet_undo : He.DefD := ⟨("Sheet", some "undo"), "undo", "Sheet.undo", defArgs s_Sheet_undo, defBody s_Sheet_undo, defScope s_Sheet_undo, [], []⟩
def fn : List He.DefD := ([d_is_whole, d_is_between, d_is_number, d_is_row, d_is_word, d_needed, d_wanted, d_checked_table, d_checked_text, d_allowed, d_is_signs, d_is_deed, d_in_groups, d_check_change, d_parted, d_come_to, d_put_off, d_stretch_off, d_changed, d_law_cell_at, d_law_mixed, d_law_source, d_law_next, d_law_board, d_law_deeds] : List He.DefD) ++ ([d_law_state, d_law_step, d_law_story_right, d_law_at_once_right, d_law, d_Sign_init, d_Ready_init, d_Table_init, d_Table_numbers, d_Table_check_parts, d_Table_check_letter, d_Change_init, d_Change_rows, d_Change_check_row, d_Change_done, d_Change_undoing, d_Change_then, d_Change_past, d_Change_eq, d_Side_init, d_Side_send, d_Side_taken_in, d_Side_take_in, d_Meeting_init, d_Meeting_side] : List He.DefD) ++ ([d_Meeting_do, d_Meeting_up, d_Meeting_down, d_Meeting_middle, d_Meeting_text, d_Meeting_waiting, d_Meeting_story, d_Sheet_init, d_Sheet_text, d_Sheet_change, d_Sheet_alter, d_Sheet_undo] : List He.DefD)
def fa : List He.Fa := ([.free "isinstance", .free "all", .free "len", .free "int", .free "sum", .free "list", .free "range", .free "min", .free "max", .free "enumerate", .free "set", .free "sorted", .free "tuple", .free "bool", .free "str", .glo "is_whole", .glo "is_between", .glo "is_number", .glo "is_row", .glo "is_word", .glo "needed", .glo "wanted", .glo "checked_table", .glo "checked_text", .glo "allowed"] : List He.Fa) ++ ([.glo "is_signs", .glo "is_deed", .glo "in_groups", .glo "check_change", .glo "parted", .glo "come_to", .glo "put_off", .glo "stretch_off", .glo "changed", .glo "_law_cell_at", .glo "_law_mixed", .glo "_law_source", .glo "_law_next", .glo "_law_board", .glo "_law_deeds", .glo "_law_state", .glo "_law_step", .glo "_law_story_right", .glo "_law_at_once_right", .glo "law", .int "GREATEST" 65535, .int "MOST_HANDS" 4, .glo "KINDS", .glo "WAYS", .glo "BASES"] : List He.Fa) ++ ([.glo "Sign", .cls "Sign", .mkr "Sign", .noat "Sign" "number", .noat "Sign" "kind", .noat "Sign" "rank", .noat "Sign" "small", .noat "Sign" "great", .noat "Sign" "late", .noat "Sign" "fold", .noat "Sign" "way", .noat "Sign" "wide", .glo "Ready", .cls "Ready", .mkr "Ready", .noat "Ready" "number", .noat "Ready" "parts", .glo "Table", .cls "Table", .mkr "Table", .noat "Table" "sign_by", .noat "Table" "ready_by", .noat "Table" "pairs", .noat "Table" "wholes", .meth "Table" "numbers"] : List He.Fa) ++ ([.meth "Table" "check_parts", .meth "Table" "check_letter", .glo "Change", .cls "Change", .mkr "Change", .noat "Change" "groups", .meth "Change" "rows", .meth "Change" "check_row", .meth "Change" "done", .meth "Change" "undoing", .meth "Change" "then", .meth "Change" "past", .meth "Change" "__eq__", .glo "Side", .cls "Side", .mkr "Side", .noat "Side" "row", .noat "Side" "own", .noat "Side" "from_it", .noat "Side" "to_it", .noat "Side" "came", .noat "Side" "sent", .noat "Side" "unsure", .meth "Side" "send", .meth "Side" "taken_in"] : List He.Fa) ++ ([.meth "Side" "take_in", .glo "Meeting", .cls "Meeting", .mkr "Meeting", .noat "Meeting" "table", .noat "Meeting" "row", .noat "Meeting" "sides", .noat "Meeting" "done_there", .meth "Meeting" "side", .meth "Meeting" "do", .meth "Meeting" "up", .meth "Meeting" "down", .meth "Meeting" "middle", .meth "Meeting" "text", .meth "Meeting" "waiting", .meth "Meeting" "story", .glo "Sheet", .cls "Sheet", .mkr "Sheet", .noat "Sheet" "table", .noat "Sheet" "row", .noat "Sheet" "deeds", .noat "Sheet" "pins", .noat "Sheet" "ahead", .meth "Sheet" "text"] : List He.Fa) ++ ([.meth "Sheet" "change", .meth "Sheet" "alter", .meth "Sheet" "undo"] : List He.Fa)
/-- what isinstance asks of a class -/
def insB (K : PySem.W.Frag) (C : Addr) : Bool := He.eqO (PySem.W.findIn K (.ref C) "__class__") (some (some (.builtin "object.__class__"))) && (He.eqO (PySem.W.specialIn K (.builtin "object.__class__") "__get__") (some (some (.builtin "getset_descriptor.__get__"))) &&
  (decide (PySem.W.takesIn K (.builtin "object.__class__") = some true) && (decide (PySem.W.mroIn K C (.type "object") = some true) && decide (PySem.W.kitOne K (.ref C) (.ref C) = some true))))
theorem insB_ok {K : PySem.W.Frag} {C : Addr} (c : Cls K C) (h : insB K C = true) : InsC K C := by
  obtain ⟨h1, h⟩ := He.ba h
  obtain ⟨h2, h⟩ := He.ba h
  obtain ⟨h3, h⟩ := He.ba h
  obtain ⟨h4, h5⟩ := He.ba h
  exact ⟨c, He.eqO_ok h1, He.eqO_ok h2, of_decide_eq_true h3, of_decide_eq_true h4, of_decide_eq_true h5⟩
def neB (K : PySem.W.Frag) (C : Addr) : Bool := He.eqO (PySem.W.findIn K (.ref C) "__ne__") (some (some (.builtin "object.__ne__"))) && decide (PySem.W.subIn K (.ref C) (.type "object") = some true)
def exB (K : PySem.W.Frag) : Bool := insB K (He.ga K "Change") && (insB K (He.ga K "Table") && (insB K (He.ga K "Sign") && (insB K (He.ga K "Ready") && (neB K (He.ga K "Change") && (He.tupB K "KINDS" [.str "letter", .str "figure", .str "blank", .str "stop", .str "tie", .str "picture", .str "mark", .str "join", .str "feed", .str "fore", .str "back", .str "shut"] && (He.tupB K "WAYS" [.str "left", .str "right", .str "number", .str "none"] && (He.tupB K "BASES" [.str "letter", .str "figure", .str "stop", .str "picture"])))))))
/-- what the walk asks of the text -/
structure Txt (K : PySem.W.Frag) (mg : Str → Option Value) : Prop where
  says : He.SaysD fa fn K
  ex : exB K = true
  heap : ∃ h, K.In h ∧ h.Ns mainGlobals mg
section
variable {K : PySem.W.Frag} {mg : Str → Option Value}
theorem Txt.glo (T : Txt K mg) {x : Str} (c : (He.Fa.glo x).ok K = true) : mg x = some (.ref (He.ga K x)) := let ⟨_, X, G⟩ := T.heap; He.glo_ok X G c
theorem Txt.free (T : Txt K mg) {x : Str} (c : (He.Fa.free x).ok K = true) : mg x = none := let ⟨_, X, G⟩ := T.heap; He.free_ok X G c
theorem Txt.int (T : Txt K mg) {x : Str} {i : Int} (c : (He.Fa.int x i).ok K = true) : ∃ t, mg x = some (.int i t) := let ⟨_, X, G⟩ := T.heap; He.int_ok X G c
theorem Txt.g_isinstance (T : Txt K mg) : mg "isinstance" = none := T.free (T.says.fact 0 rfl)
theorem Txt.g_all (T : Txt K mg) : mg "all" = none := T.free (T.says.fact 1 rfl)
theorem Txt.g_len (T : Txt K mg) : mg "len" = none := T.free (T.says.fact 2 rfl)
theorem Txt.g_int (T : Txt K mg) : mg "int" = none := T.free (T.says.fact 3 rfl)
theorem Txt.g_sum (T : Txt K mg) : mg "sum" = none := T.free (T.says.fact 4 rfl)
theorem Txt.g_list (T : Txt K mg) : mg "list" = none := T.free (T.says.fact 5 rfl)
theorem Txt.g_range (T : Txt K mg) : mg "range" = none := T.free (T.says.fact 6 rfl)
theorem Txt.g_min (T : Txt K mg) : mg "min" = none := T.free (T.says.fact 7 rfl)
theorem Txt.g_max (T : Txt K mg) : mg "max" = none := T.free (T.says.fact 8 rfl)
theorem Txt.g_enumerate (T : Txt K mg) : mg "enumerate" = none := T.free (T.says.fact 9 rfl)
theorem Txt.g_set (T : Txt K mg) : mg "set" = none := T.free (T.says.fact 10 rfl)
theorem Txt.g_sorted (T : Txt K mg) : mg "sorted" = none := T.free (T.says.fact 11 rfl)
theorem Txt.g_tuple (T : Txt K mg) : mg "tuple" = none := T.free (T.says.fact 12 rfl)
theorem Txt.g_bool (T : Txt K mg) : mg "bool" = none := T.free (T.says.fact 13 rfl)
theorem Txt.g_str (T : Txt K mg) : mg "str" = none := T.free (T.says.fact 14 rfl)
theorem Txt.f_is_whole (T : Txt K mg) : mg "is_whole" = some (.ref (He.ga K "is_whole")) := T.glo (T.says.fact 15 rfl)
theorem Txt.f_is_between (T : Txt K mg) : mg "is_between" = some (.ref (He.ga K "is_between")) := T.glo (T.says.fact 16 rfl)
theorem Txt.f_is_number (T : Txt K mg) : mg "is_number" = some (.ref (He.ga K "is_number")) := T.glo (T.says.fact 17 rfl)
theorem Txt.f_is_row (T : Txt K mg) : mg "is_row" = some (.ref (He.ga K "is_row")) := T.glo (T.says.fact 18 rfl)
theorem Txt.f_is_word (T : Txt K mg) : mg "is_word" = some (.ref (He.ga K "is_word")) := T.glo (T.says.fact 19 rfl)
theorem Txt.f_needed (T : Txt K mg) : mg "needed" = some (.ref (He.ga K "needed")) := T.glo (T.says.fact 20 rfl)
theorem Txt.f_wanted (T : Txt K mg) : mg "wanted" = some (.ref (He.ga K "wanted")) := T.glo (T.says.fact 21 rfl)
theorem Txt.f_checked_table (T : Txt K mg) : mg "checked_table" = some (.ref (He.ga K "checked_table")) := T.glo (T.says.fact 22 rfl)
theorem Txt.f_checked_text (T : Txt K mg) : mg "checked_text" = some (.ref (He.ga K "checked_text")) := T.glo (T.says.fact 23 rfl)
theorem Txt.f_allowed (T : Txt K mg) : mg "allowed" = some (.ref (He.ga K "allowed")) := T.glo (T.says.fact 24 rfl)
theorem Txt.f_is_signs (T : Txt K mg) : mg "is_signs" = some (.ref (He.ga K "is_signs")) := T.glo (T.says.fact 25 rfl)
theorem Txt.f_is_deed (T : Txt K mg) : mg "is_deed" = some (.ref (He.ga K "is_deed")) := T.glo (T.says.fact 26 rfl)
theorem Txt.f_in_groups (T : Txt K mg) : mg "in_groups" = some (.ref (He.ga K "in_groups")) := T.glo (T.says.fact 27 rfl)
theorem Txt.f_check_change (T : Txt K mg) : mg "check_change" = some (.ref (He.ga K "check_change")) := T.glo (T.says.fact 28 rfl)
theorem Txt.f_parted (T : Txt K mg) : mg "parted" = some (.ref (He.ga K "parted")) := T.glo (T.says.fact 29 rfl)
theorem Txt.f_come_to (T : Txt K mg) : mg "come_to" = some (.ref (He.ga K "come_to")) := T.glo (T.says.fact 30 rfl)
theorem Txt.f_put_off (T : Txt K mg) : mg "put_off" = some (.ref (He.ga K "put_off")) := T.glo (T.says.fact 31 rfl)
theorem Txt.f_stretch_off (T : Txt K mg) : mg "stretch_off" = some (.ref (He.ga K "stretch_off")) := T.glo (T.says.fact 32 rfl)
theorem Txt.f_changed (T : Txt K mg) : mg "changed" = some (.ref (He.ga K "changed")) := T.glo (T.says.fact 33 rfl)
theorem Txt.f_law_cell_at (T : Txt K mg) : mg "_law_cell_at" = some (.ref (He.ga K "_law_cell_at")) := T.glo (T.says.fact 34 rfl)
theorem Txt.f_law_mixed (T : Txt K mg) : mg "_law_mixed" = some (.ref (He.ga K "_law_mixed")) := T.glo (T.says.fact 35 rfl)
theorem Txt.f_law_source (T : Txt K mg) : mg "_law_source" = some (.ref (He.ga K "_law_source")) := T.glo (T.says.fact 36 rfl)
theorem Txt.f_law_next (T : Txt K mg) : mg "_law_next" = some (.ref (He.ga K "_law_next")) := T.glo (T.says.fact 37 rfl)
theorem Txt.f_law_board (T : Txt K mg) : mg "_law_board" = some (.ref (He.ga K "_law_board")) := T.glo (T.says.fact 38 rfl)
theorem Txt.f_law_deeds (T : Txt K mg) : mg "_law_deeds" = some (.ref (He.ga K "_law_deeds")) := T.glo (T.says.fact 39 rfl)
theorem Txt.f_law_state (T : Txt K mg) : mg "_law_state" = some (.ref (He.ga K "_law_state")) := T.glo (T.says.fact 40 rfl)
theorem Txt.f_law_step (T : Txt K mg) : mg "_law_step" = some (.ref (He.ga K "_law_step")) := T.glo (T.says.fact 41 rfl)
theorem Txt.f_law_story_right (T : Txt K mg) : mg "_law_story_right" = some (.ref (He.ga K "_law_story_right")) := T.glo (T.says.fact 42 rfl)
theorem Txt.f_law_at_once_right (T : Txt K mg) : mg "_law_at_once_right" = some (.ref (He.ga K "_law_at_once_right")) := T.glo (T.says.fact 43 rfl)
theorem Txt.f_law (T : Txt K mg) : mg "law" = some (.ref (He.ga K "law")) := T.glo (T.says.fact 44 rfl)
theorem Txt.g_GREATEST (T : Txt K mg) : ∃ t, mg "GREATEST" = some (.int 65535 t) := T.int (T.says.fact 45 rfl)
theorem Txt.g_MOST_HANDS (T : Txt K mg) : ∃ t, mg "MOST_HANDS" = some (.int 4 t) := T.int (T.says.fact 46 rfl)
theorem Txt.g_KINDS (T : Txt K mg) : mg "KINDS" = some (.ref (He.ga K "KINDS")) := T.glo (T.says.fact 47 rfl)
theorem Txt.g_WAYS (T : Txt K mg) : mg "WAYS" = some (.ref (He.ga K "WAYS")) := T.glo (T.says.fact 48 rfl)
theorem Txt.g_BASES (T : Txt K mg) : mg "BASES" = some (.ref (He.ga K "BASES")) := T.glo (T.says.fact 49 rfl)
theorem Txt.c_Sign (T : Txt K mg) : mg "Sign" = some (.ref (He.ga K "Sign")) := T.glo (T.says.fact 50 rfl)
theorem Txt.k_Sign (T : Txt K mg) : Cls K (He.ga K "Sign") := He.cls_ok (T.says.fact 51 rfl)
theorem Txt.mk_Sign (T : Txt K mg) : Mk K (He.ga K "Sign") (He.ma K (He.ga K "Sign") "__init__") := He.mkr_ok (T.says.fact 52 rfl)
theorem Txt.n_Sign_number (T : Txt K mg) : NoAttr K (He.ga K "Sign") "number" := He.noat_ok (T.says.fact 53 rfl)
theorem Txt.n_Sign_kind (T : Txt K mg) : NoAttr K (He.ga K "Sign") "kind" := He.noat_ok (T.says.fact 54 rfl)
theorem Txt.n_Sign_rank (T : Txt K mg) : NoAttr K (He.ga K "Sign") "rank" := He.noat_ok (T.says.fact 55 rfl)
theorem Txt.n_Sign_small (T : Txt K mg) : NoAttr K (He.ga K "Sign") "small" := He.noat_ok (T.says.fact 56 rfl)
theorem Txt.n_Sign_great (T : Txt K mg) : NoAttr K (He.ga K "Sign") "great" := He.noat_ok (T.says.fact 57 rfl)
theorem Txt.n_Sign_late (T : Txt K mg) : NoAttr K (He.ga K "Sign") "late" := He.noat_ok (T.says.fact 58 rfl)
theorem Txt.n_Sign_fold (T : Txt K mg) : NoAttr K (He.ga K "Sign") "fold" := He.noat_ok (T.says.fact 59 rfl)
theorem Txt.n_Sign_way (T : Txt K mg) : NoAttr K (He.ga K "Sign") "way" := He.noat_ok (T.says.fact 60 rfl)
theorem Txt.n_Sign_wide (T : Txt K mg) : NoAttr K (He.ga K "Sign") "wide" := He.noat_ok (T.says.fact 61 rfl)
theorem Txt.c_Ready (T : Txt K mg) : mg "Ready" = some (.ref (He.ga K "Ready")) := T.glo (T.says.fact 62 rfl)
theorem Txt.k_Ready (T : Txt K mg) : Cls K (He.ga K "Ready") := He.cls_ok (T.says.fact 63 rfl)
theorem Txt.mk_Ready (T : Txt K mg) : Mk K (He.ga K "Ready") (He.ma K (He.ga K "Ready") "__init__") := He.mkr_ok (T.says.fact 64 rfl)
theorem Txt.n_Ready_number (T : Txt K mg) : NoAttr K (He.ga K "Ready") "number" := He.noat_ok (T.says.fact 65 rfl)
theorem Txt.n_Ready_parts (T : Txt K mg) : NoAttr K (He.ga K "Ready") "parts" := He.noat_ok (T.says.fact 66 rfl)
theorem Txt.c_Table (T : Txt K mg) : mg "Table" = some (.ref (He.ga K "Table")) := T.glo (T.says.fact 67 rfl)
theorem Txt.k_Table (T : Txt K mg) : Cls K (He.ga K "Table") := He.cls_ok (T.says.fact 68 rfl)
theorem Txt.mk_Table (T : Txt K mg) : Mk K (He.ga K "Table") (He.ma K (He.ga K "Table") "__init__") := He.mkr_ok (T.says.fact 69 rfl)
theorem Txt.n_Table_sign_by (T : Txt K mg) : NoAttr K (He.ga K "Table") "sign_by" := He.noat_ok (T.says.fact 70 rfl)
theorem Txt.n_Table_ready_by (T : Txt K mg) : NoAttr K (He.ga K "Table") "ready_by" := He.noat_ok (T.says.fact 71 rfl)
theorem Txt.n_Table_pairs (T : Txt K mg) : NoAttr K (He.ga K "Table") "pairs" := He.noat_ok (T.says.fact 72 rfl)
theorem Txt.n_Table_wholes (T : Txt K mg) : NoAttr K (He.ga K "Table") "wholes" := He.noat_ok (T.says.fact 73 rfl)
theorem Txt.m_Table_numbers (T : Txt K mg) : Meth K (He.ga K "Table") "numbers" (He.ma K (He.ga K "Table") "numbers") := He.meth_ok (T.says.fact 74 rfl)
theorem Txt.m_Table_check_parts (T : Txt K mg) : Meth K (He.ga K "Table") "check_parts" (He.ma K (He.ga K "Table") "check_parts") := He.meth_ok (T.says.fact 75 rfl)
theorem Txt.m_Table_check_letter (T : Txt K mg) : Meth K (He.ga K "Table") "check_letter" (He.ma K (He.ga K "Table") "check_letter") := He.meth_ok (T.says.fact 76 rfl)
theorem Txt.c_Change (T : Txt K mg) : mg "Change" = some (.ref (He.ga K "Change")) := T.glo (T.says.fact 77 rfl)
theorem Txt.k_Change (T : Txt K mg) : Cls K (He.ga K "Change") := He.cls_ok (T.says.fact 78 rfl)
theorem Txt.mk_Change (T : Txt K mg) : Mk K (He.ga K "Change") (He.ma K (He.ga K "Change") "__init__") := He.mkr_ok (T.says.fact 79 rfl)
theorem Txt.n_Change_groups (T : Txt K mg) : NoAttr K (He.ga K "Change") "groups" := He.noat_ok (T.says.fact 80 rfl)
theorem Txt.m_Change_rows (T : Txt K mg) : Meth K (He.ga K "Change") "rows" (He.ma K (He.ga K "Change") "rows") := He.meth_ok (T.says.fact 81 rfl)
theorem Txt.m_Change_check_row (T : Txt K mg) : Meth K (He.ga K "Change") "check_row" (He.ma K (He.ga K "Change") "check_row") := He.meth_ok (T.says.fact 82 rfl)
theorem Txt.m_Change_done (T : Txt K mg) : Meth K (He.ga K "Change") "done" (He.ma K (He.ga K "Change") "done") := He.meth_ok (T.says.fact 83 rfl)
theorem Txt.m_Change_undoing (T : Txt K mg) : Meth K (He.ga K "Change") "undoing" (He.ma K (He.ga K "Change") "undoing") := He.meth_ok (T.says.fact 84 rfl)
theorem Txt.m_Change_then (T : Txt K mg) : Meth K (He.ga K "Change") "then" (He.ma K (He.ga K "Change") "then") := He.meth_ok (T.says.fact 85 rfl)
theorem Txt.m_Change_past (T : Txt K mg) : Meth K (He.ga K "Change") "past" (He.ma K (He.ga K "Change") "past") := He.meth_ok (T.says.fact 86 rfl)
theorem Txt.m_Change_eq (T : Txt K mg) : Meth K (He.ga K "Change") "__eq__" (He.ma K (He.ga K "Change") "__eq__") := He.meth_ok (T.says.fact 87 rfl)
theorem Txt.c_Side (T : Txt K mg) : mg "Side" = some (.ref (He.ga K "Side")) := T.glo (T.says.fact 88 rfl)
theorem Txt.k_Side (T : Txt K mg) : Cls K (He.ga K "Side") := He.cls_ok (T.says.fact 89 rfl)
theorem Txt.mk_Side (T : Txt K mg) : Mk K (He.ga K "Side") (He.ma K (He.ga K "Side") "__init__") := He.mkr_ok (T.says.fact 90 rfl)
theorem Txt.n_Side_row (T : Txt K mg) : NoAttr K (He.ga K "Side") "row" := He.noat_ok (T.says.fact 91 rfl)
theorem Txt.n_Side_own (T : Txt K mg) : NoAttr K (He.ga K "Side") "own" := He.noat_ok (T.says.fact 92 rfl)
theorem Txt.n_Side_from_it (T : Txt K mg) : NoAttr K (He.ga K "Side") "from_it" := He.noat_ok (T.says.fact 93 rfl)
theorem Txt.n_Side_to_it (T : Txt K mg) : NoAttr K (He.ga K "Side") "to_it" := He.noat_ok (T.says.fact 94 rfl)
theorem Txt.n_Side_came (T : Txt K mg) : NoAttr K (He.ga K "Side") "came" := He.noat_ok (T.says.fact 95 rfl)
theorem Txt.n_Side_sent (T : Txt K mg) : NoAttr K (He.ga K "Side") "sent" := He.noat_ok (T.says.fact 96 rfl)
theorem Txt.n_Side_unsure (T : Txt K mg) : NoAttr K (He.ga K "Side") "unsure" := He.noat_ok (T.says.fact 97 rfl)
theorem Txt.m_Side_send (T : Txt K mg) : Meth K (He.ga K "Side") "send" (He.ma K (He.ga K "Side") "send") := He.meth_ok (T.says.fact 98 rfl)
theorem Txt.m_Side_taken_in (T : Txt K mg) : Meth K (He.ga K "Side") "taken_in" (He.ma K (He.ga K "Side") "taken_in") := He.meth_ok (T.says.fact 99 rfl)
theorem Txt.m_Side_take_in (T : Txt K mg) : Meth K (He.ga K "Side") "take_in" (He.ma K (He.ga K "Side") "take_in") := He.meth_ok (T.says.fact 100 rfl)
theorem Txt.c_Meeting (T : Txt K mg) : mg "Meeting" = some (.ref (He.ga K "Meeting")) := T.glo (T.says.fact 101 rfl)
theorem Txt.k_Meeting (T : Txt K mg) : Cls K (He.ga K "Meeting") := He.cls_ok (T.says.fact 102 rfl)
theorem Txt.mk_Meeting (T : Txt K mg) : Mk K (He.ga K "Meeting") (He.ma K (He.ga K "Meeting") "__init__") := He.mkr_ok (T.says.fact 103 rfl)
theorem Txt.n_Meeting_table (T : Txt K mg) : NoAttr K (He.ga K "Meeting") "table" := He.noat_ok (T.says.fact 104 rfl)
theorem Txt.n_Meeting_row (T : Txt K mg) : NoAttr K (He.ga K "Meeting") "row" := He.noat_ok (T.says.fact 105 rfl)
theorem Txt.n_Meeting_sides (T : Txt K mg) : NoAttr K (He.ga K "Meeting") "sides" := He.noat_ok (T.says.fact 106 rfl)
theorem Txt.n_Meeting_done_there (T : Txt K mg) : NoAttr K (He.ga K "Meeting") "done_there" := He.noat_ok (T.says.fact 107 rfl)
theorem Txt.m_Meeting_side (T : Txt K mg) : Meth K (He.ga K "Meeting") "side" (He.ma K (He.ga K "Meeting") "side") := He.meth_ok (T.says.fact 108 rfl)
theorem Txt.m_Meeting_do (T : Txt K mg) : Meth K (He.ga K "Meeting") "do" (He.ma K (He.ga K "Meeting") "do") := He.meth_ok (T.says.fact 109 rfl)
theorem Txt.m_Meeting_up (T : Txt K mg) : Meth K (He.ga K "Meeting") "up" (He.ma K (He.ga K "Meeting") "up") := He.meth_ok (T.says.fact 110 rfl)
theorem Txt.m_Meeting_down (T : Txt K mg) : Meth K (He.ga K "Meeting") "down" (He.ma K (He.ga K "Meeting") "down") := He.meth_ok (T.says.fact 111 rfl)
theorem Txt.m_Meeting_middle (T : Txt K mg) : Meth K (He.ga K "Meeting") "middle" (He.ma K (He.ga K "Meeting") "middle") := He.meth_ok (T.says.fact 112 rfl)
theorem Txt.m_Meeting_text (T : Txt K mg) : Meth K (He.ga K "Meeting") "text" (He.ma K (He.ga K "Meeting") "text") := He.meth_ok (T.says.fact 113 rfl)
theorem Txt.m_Meeting_waiting (T : Txt K mg) : Meth K (He.ga K "Meeting") "waiting" (He.ma K (He.ga K "Meeting") "waiting") := He.meth_ok (T.says.fact 114 rfl)
theorem Txt.m_Meeting_story (T : Txt K mg) : Meth K (He.ga K "Meeting") "story" (He.ma K (He.ga K "Meeting") "story") := He.meth_ok (T.says.fact 115 rfl)
theorem Txt.c_Sheet (T : Txt K mg) : mg "Sheet" = some (.ref (He.ga K "Sheet")) := T.glo (T.says.fact 116 rfl)
theorem Txt.k_Sheet (T : Txt K mg) : Cls K (He.ga K "Sheet") := He.cls_ok (T.says.fact 117 rfl)
theorem Txt.mk_Sheet (T : Txt K mg) : Mk K (He.ga K "Sheet") (He.ma K (He.ga K "Sheet") "__init__") := He.mkr_ok (T.says.fact 118 rfl)
theorem Txt.n_Sheet_table (T : Txt K mg) : NoAttr K (He.ga K "Sheet") "table" := He.noat_ok (T.says.fact 119 rfl)
theorem Txt.n_Sheet_row (T : Txt K mg) : NoAttr K (He.ga K "Sheet") "row" := He.noat_ok (T.says.fact 120 rfl)
theorem Txt.n_Sheet_deeds (T : Txt K mg) : NoAttr K (He.ga K "Sheet") "deeds" := He.noat_ok (T.says.fact 121 rfl)
theorem Txt.n_Sheet_pins (T : Txt K mg) : NoAttr K (He.ga K "Sheet") "pins" := He.noat_ok (T.says.fact 122 rfl)
theorem Txt.n_Sheet_ahead (T : Txt K mg) : NoAttr K (He.ga K "Sheet") "ahead" := He.noat_ok (T.says.fact 123 rfl)
theorem Txt.m_Sheet_text (T : Txt K mg) : Meth K (He.ga K "Sheet") "text" (He.ma K (He.ga K "Sheet") "text") := He.meth_ok (T.says.fact 124 rfl)
theorem Txt.m_Sheet_change (T : Txt K mg) : Meth K (He.ga K "Sheet") "change" (He.ma K (He.ga K "Sheet") "change") := He.meth_ok (T.says.fact 125 rfl)
theorem Txt.m_Sheet_alter (T : Txt K mg) : Meth K (He.ga K "Sheet") "alter" (He.ma K (He.ga K "Sheet") "alter") := He.meth_ok (T.says.fact 126 rfl)
theorem Txt.m_Sheet_undo (T : Txt K mg) : Meth K (He.ga K "Sheet") "undo" (He.ma K (He.ga K "Sheet") "undo") := He.meth_ok (T.says.fact 127 rfl)
theorem Txt.d_is_whole (T : Txt K mg) : ∃ fd, FunD K d_is_whole.name d_is_whole.qual d_is_whole.params d_is_whole.body d_is_whole.scope (d_is_whole.dvs K) (d_is_whole.kws K) (He.fAd K d_is_whole.at_) fd := T.says.def_ 0 rfl
theorem Txt.d_is_between (T : Txt K mg) : ∃ fd, FunD K d_is_between.name d_is_between.qual d_is_between.params d_is_between.body d_is_between.scope (d_is_between.dvs K) (d_is_between.kws K) (He.fAd K d_is_between.at_) fd := T.says.def_ 1 rfl
theorem Txt.d_is_number (T : Txt K mg) : ∃ fd, FunD K d_is_number.name d_is_number.qual d_is_number.params d_is_number.body d_is_number.scope (d_is_number.dvs K) (d_is_number.kws K) (He.fAd K d_is_number.at_) fd := T.says.def_ 2 rfl
theorem Txt.d_is_row (T : Txt K mg) : ∃ fd, FunD K d_is_row.name d_is_row.qual d_is_row.params d_is_row.body d_is_row.scope (d_is_row.dvs K) (d_is_row.kws K) (He.fAd K d_is_row.at_) fd := T.says.def_ 3 rfl
theorem Txt.d_is_word (T : Txt K mg) : ∃ fd, FunD K d_is_word.name d_is_word.qual d_is_word.params d_is_word.body d_is_word.scope (d_is_word.dvs K) (d_is_word.kws K) (He.fAd K d_is_word.at_) fd := T.says.def_ 4 rfl
theorem Txt.d_needed (T : Txt K mg) : ∃ fd, FunD K d_needed.name d_needed.qual d_needed.params d_needed.body d_needed.scope (d_needed.dvs K) (d_needed.kws K) (He.fAd K d_needed.at_) fd := T.says.def_ 5 rfl
theorem Txt.d_wanted (T : Txt K mg) : ∃ fd, FunD K d_wanted.name d_wanted.qual d_wanted.params d_wanted.body d_wanted.scope (d_wanted.dvs K) (d_wanted.kws K) (He.fAd K d_wanted.at_) fd := T.says.def_ 6 rfl
theorem Txt.d_checked_table (T : Txt K mg) : ∃ fd, FunD K d_checked_table.name d_checked_table.qual d_checked_table.params d_checked_table.body d_checked_table.scope (d_checked_table.dvs K) (d_checked_table.kws K) (He.fAd K d_checked_table.at_) fd := T.says.def_ 7 rfl
theorem Txt.d_checked_text (T : Txt K mg) : ∃ fd, FunD K d_checked_text.name d_checked_text.qual d_checked_text.params d_checked_text.body d_checked_text.scope (d_checked_text.dvs K) (d_checked_text.kws K) (He.fAd K d_checked_text.at_) fd := T.says.def_ 8 rfl
theorem Txt.d_allowed (T : Txt K mg) : ∃ fd, FunD K d_allowed.name d_allowed.qual d_allowed.params d_allowed.body d_allowed.scope (d_allowed.dvs K) (d_allowed.kws K) (He.fAd K d_allowed.at_) fd := T.says.def_ 9 rfl
theorem Txt.d_is_signs (T : Txt K mg) : ∃ fd, FunD K d_is_signs.name d_is_signs.qual d_is_signs.params d_is_signs.body d_is_signs.scope (d_is_signs.dvs K) (d_is_signs.kws K) (He.fAd K d_is_signs.at_) fd := T.says.def_ 10 rfl
theorem Txt.d_is_deed (T : Txt K mg) : ∃ fd, FunD K d_is_deed.name d_is_deed.qual d_is_deed.params d_is_deed.body d_is_deed.scope (d_is_deed.dvs K) (d_is_deed.kws K) (He.fAd K d_is_deed.at_) fd := T.says.def_ 11 rfl
theorem Txt.d_in_groups (T : Txt K mg) : ∃ fd, FunD K d_in_groups.name d_in_groups.qual d_in_groups.params d_in_groups.body d_in_groups.scope (d_in_groups.dvs K) (d_in_groups.kws K) (He.fAd K d_in_groups.at_) fd := T.says.def_ 12 rfl
theorem Txt.d_check_change (T : Txt K mg) : ∃ fd, FunD K d_check_change.name d_check_change.qual d_check_change.params d_check_change.body d_check_change.scope (d_check_change.dvs K) (d_check_change.kws K) (He.fAd K d_check_change.at_) fd := T.says.def_ 13 rfl
theorem Txt.d_parted (T : Txt K mg) : ∃ fd, FunD K d_parted.name d_parted.qual d_parted.params d_parted.body d_parted.scope (d_parted.dvs K) (d_parted.kws K) (He.fAd K d_parted.at_) fd := T.says.def_ 14 rfl
theorem Txt.d_come_to (T : Txt K mg) : ∃ fd, FunD K d_come_to.name d_come_to.qual d_come_to.params d_come_to.body d_come_to.scope (d_come_to.dvs K) (d_come_to.kws K) (He.fAd K d_come_to.at_) fd := T.says.def_ 15 rfl
theorem Txt.d_put_off (T : Txt K mg) : ∃ fd, FunD K d_put_off.name d_put_off.qual d_put_off.params d_put_off.body d_put_off.scope (d_put_off.dvs K) (d_put_off.kws K) (He.fAd K d_put_off.at_) fd := T.says.def_ 16 rfl
theorem Txt.d_stretch_off (T : Txt K mg) : ∃ fd, FunD K d_stretch_off.name d_stretch_off.qual d_stretch_off.params d_stretch_off.body d_stretch_off.scope (d_stretch_off.dvs K) (d_stretch_off.kws K) (He.fAd K d_stretch_off.at_) fd := T.says.def_ 17 rfl
theorem Txt.d_changed (T : Txt K mg) : ∃ fd, FunD K d_changed.name d_changed.qual d_changed.params d_changed.body d_changed.scope (d_changed.dvs K) (d_changed.kws K) (He.fAd K d_changed.at_) fd := T.says.def_ 18 rfl
theorem Txt.d_law_cell_at (T : Txt K mg) : ∃ fd, FunD K d_law_cell_at.name d_law_cell_at.qual d_law_cell_at.params d_law_cell_at.body d_law_cell_at.scope (d_law_cell_at.dvs K) (d_law_cell_at.kws K) (He.fAd K d_law_cell_at.at_) fd := T.says.def_ 19 rfl
theorem Txt.d_law_mixed (T : Txt K mg) : ∃ fd, FunD K d_law_mixed.name d_law_mixed.qual d_law_mixed.params d_law_mixed.body d_law_mixed.scope (d_law_mixed.dvs K) (d_law_mixed.kws K) (He.fAd K d_law_mixed.at_) fd := T.says.def_ 20 rfl
theorem Txt.d_law_source (T : Txt K mg) : ∃ fd, FunD K d_law_source.name d_law_source.qual d_law_source.params d_law_source.body d_law_source.scope (d_law_source.dvs K) (d_law_source.kws K) (He.fAd K d_law_source.at_) fd := T.says.def_ 21 rfl
theorem Txt.d_law_next (T : Txt K mg) : ∃ fd, FunD K d_law_next.name d_law_next.qual d_law_next.params d_law_next.body d_law_next.scope (d_law_next.dvs K) (d_law_next.kws K) (He.fAd K d_law_next.at_) fd := T.says.def_ 22 rfl
theorem Txt.d_law_board (T : Txt K mg) : ∃ fd, FunD K d_law_board.name d_law_board.qual d_law_board.params d_law_board.body d_law_board.scope (d_law_board.dvs K) (d_law_board.kws K) (He.fAd K d_law_board.at_) fd := T.says.def_ 23 rfl
theorem Txt.d_law_deeds (T : Txt K mg) : ∃ fd, FunD K d_law_deeds.name d_law_deeds.qual d_law_deeds.params d_law_deeds.body d_law_deeds.scope (d_law_deeds.dvs K) (d_law_deeds.kws K) (He.fAd K d_law_deeds.at_) fd := T.says.def_ 24 rfl
theorem Txt.d_law_state (T : Txt K mg) : ∃ fd, FunD K d_law_state.name d_law_state.qual d_law_state.params d_law_state.body d_law_state.scope (d_law_state.dvs K) (d_law_state.kws K) (He.fAd K d_law_state.at_) fd := T.says.def_ 25 rfl
theorem Txt.d_law_step (T : Txt K mg) : ∃ fd, FunD K d_law_step.name d_law_step.qual d_law_step.params d_law_step.body d_law_step.scope (d_law_step.dvs K) (d_law_step.kws K) (He.fAd K d_law_step.at_) fd := T.says.def_ 26 rfl
theorem Txt.d_law_story_right (T : Txt K mg) : ∃ fd, FunD K d_law_story_right.name d_law_story_right.qual d_law_story_right.params d_law_story_right.body d_law_story_right.scope (d_law_story_right.dvs K) (d_law_story_right.kws K) (He.fAd K d_law_story_right.at_) fd := T.says.def_ 27 rfl
theorem Txt.d_law_at_once_right (T : Txt K mg) : ∃ fd, FunD K d_law_at_once_right.name d_law_at_once_right.qual d_law_at_once_right.params d_law_at_once_right.body d_law_at_once_right.scope (d_law_at_once_right.dvs K) (d_law_at_once_right.kws K) (He.fAd K d_law_at_once_right.at_) fd := T.says.def_ 28 rfl
theorem Txt.d_law (T : Txt K mg) : ∃ fd, FunD K d_law.name d_law.qual d_law.params d_law.body d_law.scope (d_law.dvs K) (d_law.kws K) (He.fAd K d_law.at_) fd := T.says.def_ 29 rfl
theorem Txt.d_Sign_init (T : Txt K mg) : ∃ fd, FunD K d_Sign_init.name d_Sign_init.qual d_Sign_init.params d_Sign_init.body d_Sign_init.scope (d_Sign_init.dvs K) (d_Sign_init.kws K) (He.fAd K d_Sign_init.at_) fd := T.says.def_ 30 rfl
theorem Txt.d_Ready_init (T : Txt K mg) : ∃ fd, FunD K d_Ready_init.name d_Ready_init.qual d_Ready_init.params d_Ready_init.body d_Ready_init.scope (d_Ready_init.dvs K) (d_Ready_init.kws K) (He.fAd K d_Ready_init.at_) fd := T.says.def_ 31 rfl
theorem Txt.d_Table_init (T : Txt K mg) : ∃ fd, FunD K d_Table_init.name d_Table_init.qual d_Table_init.params d_Table_init.body d_Table_init.scope (d_Table_init.dvs K) (d_Table_init.kws K) (He.fAd K d_Table_init.at_) fd := T.says.def_ 32 rfl
theorem Txt.d_Table_numbers (T : Txt K mg) : ∃ fd, FunD K d_Table_numbers.name d_Table_numbers.qual d_Table_numbers.params d_Table_numbers.body d_Table_numbers.scope (d_Table_numbers.dvs K) (d_Table_numbers.kws K) (He.fAd K d_Table_numbers.at_) fd := T.says.def_ 33 rfl
theorem Txt.d_Table_check_parts (T : Txt K mg) : ∃ fd, FunD K d_Table_check_parts.name d_Table_check_parts.qual d_Table_check_parts.params d_Table_check_parts.body d_Table_check_parts.scope (d_Table_check_parts.dvs K) (d_Table_check_parts.kws K) (He.fAd K d_Table_check_parts.at_) fd := T.says.def_ 34 rfl
theorem Txt.d_Table_check_letter (T : Txt K mg) : ∃ fd, FunD K d_Table_check_letter.name d_Table_check_letter.qual d_Table_check_letter.params d_Table_check_letter.body d_Table_check_letter.scope (d_Table_check_letter.dvs K) (d_Table_check_letter.kws K) (He.fAd K d_Table_check_letter.at_) fd := T.says.def_ 35 rfl
theorem Txt.d_Change_init (T : Txt K mg) : ∃ fd, FunD K d_Change_init.name d_Change_init.qual d_Change_init.params d_Change_init.body d_Change_init.scope (d_Change_init.dvs K) (d_Change_init.kws K) (He.fAd K d_Change_init.at_) fd := T.says.def_ 36 rfl
theorem Txt.d_Change_rows (T : Txt K mg) : ∃ fd, FunD K d_Change_rows.name d_Change_rows.qual d_Change_rows.params d_Change_rows.body d_Change_rows.scope (d_Change_rows.dvs K) (d_Change_rows.kws K) (He.fAd K d_Change_rows.at_) fd := T.says.def_ 37 rfl
theorem Txt.d_Change_check_row (T : Txt K mg) : ∃ fd, FunD K d_Change_check_row.name d_Change_check_row.qual d_Change_check_row.params d_Change_check_row.body d_Change_check_row.scope (d_Change_check_row.dvs K) (d_Change_check_row.kws K) (He.fAd K d_Change_check_row.at_) fd := T.says.def_ 38 rfl
theorem Txt.d_Change_done (T : Txt K mg) : ∃ fd, FunD K d_Change_done.name d_Change_done.qual d_Change_done.params d_Change_done.body d_Change_done.scope (d_Change_done.dvs K) (d_Change_done.kws K) (He.fAd K d_Change_done.at_) fd := T.says.def_ 39 rfl
theorem Txt.d_Change_undoing (T : Txt K mg) : ∃ fd, FunD K d_Change_undoing.name d_Change_undoing.qual d_Change_undoing.params d_Change_undoing.body d_Change_undoing.scope (d_Change_undoing.dvs K) (d_Change_undoing.kws K) (He.fAd K d_Change_undoing.at_) fd := T.says.def_ 40 rfl
theorem Txt.d_Change_then (T : Txt K mg) : ∃ fd, FunD K d_Change_then.name d_Change_then.qual d_Change_then.params d_Change_then.body d_Change_then.scope (d_Change_then.dvs K) (d_Change_then.kws K) (He.fAd K d_Change_then.at_) fd := T.says.def_ 41 rfl
theorem Txt.d_Change_past (T : Txt K mg) : ∃ fd, FunD K d_Change_past.name d_Change_past.qual d_Change_past.params d_Change_past.body d_Change_past.scope (d_Change_past.dvs K) (d_Change_past.kws K) (He.fAd K d_Change_past.at_) fd := T.says.def_ 42 rfl
theorem Txt.d_Change_eq (T : Txt K mg) : ∃ fd, FunD K d_Change_eq.name d_Change_eq.qual d_Change_eq.params d_Change_eq.body d_Change_eq.scope (d_Change_eq.dvs K) (d_Change_eq.kws K) (He.fAd K d_Change_eq.at_) fd := T.says.def_ 43 rfl
theorem Txt.d_Side_init (T : Txt K mg) : ∃ fd, FunD K d_Side_init.name d_Side_init.qual d_Side_init.params d_Side_init.body d_Side_init.scope (d_Side_init.dvs K) (d_Side_init.kws K) (He.fAd K d_Side_init.at_) fd := T.says.def_ 44 rfl
theorem Txt.d_Side_send (T : Txt K mg) : ∃ fd, FunD K d_Side_send.name d_Side_send.qual d_Side_send.params d_Side_send.body d_Side_send.scope (d_Side_send.dvs K) (d_Side_send.kws K) (He.fAd K d_Side_send.at_) fd := T.says.def_ 45 rfl
theorem Txt.d_Side_taken_in (T : Txt K mg) : ∃ fd, FunD K d_Side_taken_in.name d_Side_taken_in.qual d_Side_taken_in.params d_Side_taken_in.body d_Side_taken_in.scope (d_Side_taken_in.dvs K) (d_Side_taken_in.kws K) (He.fAd K d_Side_taken_in.at_) fd := T.says.def_ 46 rfl
theorem Txt.d_Side_take_in (T : Txt K mg) : ∃ fd, FunD K d_Side_take_in.name d_Side_take_in.qual d_Side_take_in.params d_Side_take_in.body d_Side_take_in.scope (d_Side_take_in.dvs K) (d_Side_take_in.kws K) (He.fAd K d_Side_take_in.at_) fd := T.says.def_ 47 rfl
theorem Txt.d_Meeting_init (T : Txt K mg) : ∃ fd, FunD K d_Meeting_init.name d_Meeting_init.qual d_Meeting_init.params d_Meeting_init.body d_Meeting_init.scope (d_Meeting_init.dvs K) (d_Meeting_init.kws K) (He.fAd K d_Meeting_init.at_) fd := T.says.def_ 48 rfl
theorem Txt.d_Meeting_side (T : Txt K mg) : ∃ fd, FunD K d_Meeting_side.name d_Meeting_side.qual d_Meeting_side.params d_Meeting_side.body d_Meeting_side.scope (d_Meeting_side.dvs K) (d_Meeting_side.kws K) (He.fAd K d_Meeting_side.at_) fd := T.says.def_ 49 rfl
theorem Txt.d_Meeting_do (T : Txt K mg) : ∃ fd, FunD K d_Meeting_do.name d_Meeting_do.qual d_Meeting_do.params d_Meeting_do.body d_Meeting_do.scope (d_Meeting_do.dvs K) (d_Meeting_do.kws K) (He.fAd K d_Meeting_do.at_) fd := T.says.def_ 50 rfl
theorem Txt.d_Meeting_up (T : Txt K mg) : ∃ fd, FunD K d_Meeting_up.name d_Meeting_up.qual d_Meeting_up.params d_Meeting_up.body d_Meeting_up.scope (d_Meeting_up.dvs K) (d_Meeting_up.kws K) (He.fAd K d_Meeting_up.at_) fd := T.says.def_ 51 rfl
theorem Txt.d_Meeting_down (T : Txt K mg) : ∃ fd, FunD K d_Meeting_down.name d_Meeting_down.qual d_Meeting_down.params d_Meeting_down.body d_Meeting_down.scope (d_Meeting_down.dvs K) (d_Meeting_down.kws K) (He.fAd K d_Meeting_down.at_) fd := T.says.def_ 52 rfl
theorem Txt.d_Meeting_middle (T : Txt K mg) : ∃ fd, FunD K d_Meeting_middle.name d_Meeting_middle.qual d_Meeting_middle.params d_Meeting_middle.body d_Meeting_middle.scope (d_Meeting_middle.dvs K) (d_Meeting_middle.kws K) (He.fAd K d_Meeting_middle.at_) fd := T.says.def_ 53 rfl
theorem Txt.d_Meeting_text (T : Txt K mg) : ∃ fd, FunD K d_Meeting_text.name d_Meeting_text.qual d_Meeting_text.params d_Meeting_text.body d_Meeting_text.scope (d_Meeting_text.dvs K) (d_Meeting_text.kws K) (He.fAd K d_Meeting_text.at_) fd := T.says.def_ 54 rfl
theorem Txt.d_Meeting_waiting (T : Txt K mg) : ∃ fd, FunD K d_Meeting_waiting.name d_Meeting_waiting.qual d_Meeting_waiting.params d_Meeting_waiting.body d_Meeting_waiting.scope (d_Meeting_waiting.dvs K) (d_Meeting_waiting.kws K) (He.fAd K d_Meeting_waiting.at_) fd := T.says.def_ 55 rfl
theorem Txt.d_Meeting_story (T : Txt K mg) : ∃ fd, FunD K d_Meeting_story.name d_Meeting_story.qual d_Meeting_story.params d_Meeting_story.body d_Meeting_story.scope (d_Meeting_story.dvs K) (d_Meeting_story.kws K) (He.fAd K d_Meeting_story.at_) fd := T.says.def_ 56 rfl
theorem Txt.d_Sheet_init (T : Txt K mg) : ∃ fd, FunD K d_Sheet_init.name d_Sheet_init.qual d_Sheet_init.params d_Sheet_init.body d_Sheet_init.scope (d_Sheet_init.dvs K) (d_Sheet_init.kws K) (He.fAd K d_Sheet_init.at_) fd := T.says.def_ 57 rfl
theorem Txt.d_Sheet_text (T : Txt K mg) : ∃ fd, FunD K d_Sheet_text.name d_Sheet_text.qual d_Sheet_text.params d_Sheet_text.body d_Sheet_text.scope (d_Sheet_text.dvs K) (d_Sheet_text.kws K) (He.fAd K d_Sheet_text.at_) fd := T.says.def_ 58 rfl
theorem Txt.d_Sheet_change (T : Txt K mg) : ∃ fd, FunD K d_Sheet_change.name d_Sheet_change.qual d_Sheet_change.params d_Sheet_change.body d_Sheet_change.scope (d_Sheet_change.dvs K) (d_Sheet_change.kws K) (He.fAd K d_Sheet_change.at_) fd := T.says.def_ 59 rfl
theorem Txt.d_Sheet_alter (T : Txt K mg) : ∃ fd, FunD K d_Sheet_alter.name d_Sheet_alter.qual d_Sheet_alter.params d_Sheet_alter.body d_Sheet_alter.scope (d_Sheet_alter.dvs K) (d_Sheet_alter.kws K) (He.fAd K d_Sheet_alter.at_) fd := T.says.def_ 60 rfl
theorem Txt.d_Sheet_undo (T : Txt K mg) : ∃ fd, FunD K d_Sheet_undo.name d_Sheet_undo.qual d_Sheet_undo.params d_Sheet_undo.body d_Sheet_undo.scope (d_Sheet_undo.dvs K) (d_Sheet_undo.kws K) (He.fAd K d_Sheet_undo.at_) fd := T.says.def_ 61 rfl
theorem Txt.kp_is_whole (T : Txt K mg) : PySem.W.keepIn K (.ref (He.ga K "is_whole")) = true := let ⟨_, F⟩ := T.d_is_whole; F.kp
theorem Txt.kp_is_between (T : Txt K mg) : PySem.W.keepIn K (.ref (He.ga K "is_between")) = true := let ⟨_, F⟩ := T.d_is_between; F.kp
theorem Txt.kp_is_number (T : Txt K mg) : PySem.W.keepIn K (.ref (He.ga K "is_number")) = true := let ⟨_, F⟩ := T.d_is_number; F.kp
theorem Txt.kp_is_row (T : Txt K mg) : PySem.W.keepIn K (.ref (He.ga K "is_row")) = true := let ⟨_, F⟩ := T.d_is_row; F.kp
theorem Txt.kp_is_word (T : Txt K mg) : PySem.W.keepIn K (.ref (He.ga K "is_word")) = true := let ⟨_, F⟩ := T.d_is_word; F.kp
theorem Txt.kp_needed (T : Txt K mg) : PySem.W.keepIn K (.ref (He.ga K "needed")) = true := let ⟨_, F⟩ := T.d_needed; F.kp
theorem Txt.kp_wanted (T : Txt K mg) : PySem.W.keepIn K (.ref (He.ga K "wanted")) = true := let ⟨_, F⟩ := T.d_wanted; F.kp
theorem Txt.kp_checked_table (T : Txt K mg) : PySem.W.keepIn K (.ref (He.ga K "checked_table")) = true := let ⟨_, F⟩ := T.d_checked_table; F.kp
theorem Txt.kp_checked_text (T : Txt K mg) : PySem.W.keepIn K (.ref (He.ga K "checked_text")) = true := let ⟨_, F⟩ := T.d_checked_text; F.kp
theorem Txt.kp_allowed (T : Txt K mg) : PySem.W.keepIn K (.ref (He.ga K "allowed")) = true := let ⟨_, F⟩ := T.d_allowed; F.kp
theorem Txt.kp_is_signs (T : Txt K mg) : PySem.W.keepIn K (.ref (He.ga K "is_signs")) = true := let ⟨_, F⟩ := T.d_is_signs; F.kp
theorem Txt.kp_is_deed (T : Txt K mg) : PySem.W.keepIn K (.ref (He.ga K "is_deed")) = true := let ⟨_, F⟩ := T.d_is_deed; F.kp
theorem Txt.kp_in_groups (T : Txt K mg) : PySem.W.keepIn K (.ref (He.ga K "in_groups")) = true := let ⟨_, F⟩ := T.d_in_groups; F.kp
theorem Txt.kp_check_change (T : Txt K mg) : PySem.W.keepIn K (.ref (He.ga K "check_change")) = true := let ⟨_, F⟩ := T.d_check_change; F.kp
theorem Txt.kp_parted (T : Txt K mg) : PySem.W.keepIn K (.ref (He.ga K "parted")) = true := let ⟨_, F⟩ := T.d_parted; F.kp
theorem Txt.kp_come_to (T : Txt K mg) : PySem.W.keepIn K (.ref (He.ga K "come_to")) = true := let ⟨_, F⟩ := T.d_come_to; F.kp
theorem Txt.kp_put_off (T : Txt K mg) : PySem.W.keepIn K (.ref (He.ga K "put_off")) = true := let ⟨_, F⟩ := T.d_put_off; F.kp
theorem Txt.kp_stretch_off (T : Txt K mg) : PySem.W.keepIn K (.ref (He.ga K "stretch_off")) = true := let ⟨_, F⟩ := T.d_stretch_off; F.kp
theorem Txt.kp_changed (T : Txt K mg) : PySem.W.keepIn K (.ref (He.ga K "changed")) = true := let ⟨_, F⟩ := T.d_changed; F.kp
theorem Txt.kp_law_cell_at (T : Txt K mg) : PySem.W.keepIn K (.ref (He.ga K "_law_cell_at")) = true := let ⟨_, F⟩ := T.d_law_cell_at; F.kp
theorem Txt.kp_law_mixed (T : Txt K mg) : PySem.W.keepIn K (.ref (He.ga K "_law_mixed")) = true := let ⟨_, F⟩ := T.d_law_mixed; F.kp
theorem Txt.kp_law_source (T : Txt K mg) : PySem.W.keepIn K (.ref (He.ga K "_law_source")) = true := let ⟨_, F⟩ := T.d_law_source; F.kp
theorem Txt.kp_law_next (T : Txt K mg) : PySem.W.keepIn K (.ref (He.ga K "_law_next")) = true := let ⟨_, F⟩ := T.d_law_next; F.kp
theorem Txt.kp_law_board (T : Txt K mg) : PySem.W.keepIn K (.ref (He.ga K "_law_board")) = true := let ⟨_, F⟩ := T.d_law_board; F.kp
theorem Txt.kp_law_deeds (T : Txt K mg) : PySem.W.keepIn K (.ref (He.ga K "_law_deeds")) = true := let ⟨_, F⟩ := T.d_law_deeds; F.kp
theorem Txt.kp_law_state (T : Txt K mg) : PySem.W.keepIn K (.ref (He.ga K "_law_state")) = true := let ⟨_, F⟩ := T.d_law_state; F.kp
theorem Txt.kp_law_step (T : Txt K mg) : PySem.W.keepIn K (.ref (He.ga K "_law_step")) = true := let ⟨_, F⟩ := T.d_law_step; F.kp
theorem Txt.kp_law_story_right (T : Txt K mg) : PySem.W.keepIn K (.ref (He.ga K "_law_story_right")) = true := let ⟨_, F⟩ := T.d_law_story_right; F.kp
theorem Txt.kp_law_at_once_right (T : Txt K mg) : PySem.W.keepIn K (.ref (He.ga K "_law_at_once_right")) = true := let ⟨_, F⟩ := T.d_law_at_once_right; F.kp
theorem Txt.kp_law (T : Txt K mg) : PySem.W.keepIn K (.ref (He.ga K "law")) = true := let ⟨_, F⟩ := T.d_law; F.kp
theorem Txt.i_Change (T : Txt K mg) : InsC K (He.ga K "Change") := insB_ok T.k_Change (He.ba T.ex).1
theorem Txt.i_Table (T : Txt K mg) : InsC K (He.ga K "Table") := insB_ok T.k_Table (He.ba (He.ba T.ex).2).1
theorem Txt.i_Sign (T : Txt K mg) : InsC K (He.ga K "Sign") := insB_ok T.k_Sign (He.ba (He.ba (He.ba T.ex).2).2).1
theorem Txt.i_Ready (T : Txt K mg) : InsC K (He.ga K "Ready") := insB_ok T.k_Ready (He.ba (He.ba (He.ba (He.ba T.ex).2).2).2).1
theorem Txt.ne_Change (T : Txt K mg) : NeC K (He.ga K "Change") (He.ma K (He.ga K "Change") "__eq__") := by
  obtain ⟨h1, h2⟩ := He.ba (He.ba (He.ba (He.ba (He.ba (He.ba T.ex).2).2).2).2).1
  exact ⟨He.eqO_ok h1, T.m_Change_eq.at_, T.m_Change_eq.fn, of_decide_eq_true h2⟩
theorem Txt.t_KINDS (T : Txt K mg) (H : Hp) : SqT K H (He.ga K "KINDS") ([.str "letter", .str "figure", .str "blank", .str "stop", .str "tie", .str "picture", .str "mark", .str "join", .str "feed", .str "fore", .str "back", .str "shut"] : List V) := He.tupB_ok (vs := [.str "letter", .str "figure", .str "blank", .str "stop", .str "tie", .str "picture", .str "mark", .str "join", .str "feed", .str "fore", .str "back", .str "shut"]) (He.ba (He.ba (He.ba (He.ba (He.ba (He.ba T.ex).2).2).2).2).2).1 H
theorem Txt.t_WAYS (T : Txt K mg) (H : Hp) : SqT K H (He.ga K "WAYS") ([.str "left", .str "right", .str "number", .str "none"] : List V) := He.tupB_ok (vs := [.str "left", .str "right", .str "number", .str "none"]) (He.ba (He.ba (He.ba (He.ba (He.ba (He.ba (He.ba T.ex).2).2).2).2).2).2).1 H
theorem Txt.t_BASES (T : Txt K mg) (H : Hp) : SqT K H (He.ga K "BASES") ([.str "letter", .str "figure", .str "stop", .str "picture"] : List V) := He.tupB_ok (vs := [.str "letter", .str "figure", .str "stop", .str "picture"]) (He.ba (He.ba (He.ba (He.ba (He.ba (He.ba (He.ba T.ex).2).2).2).2).2).2).2 H
end
end K94
set_option maxRecDepth 100000
set_option maxHeartbeats 0
/-! K94H0: the top's run: what is asked of it. -/
namespace K94
open PySem PySem.W PySem.Calls PySem.Spec PyProof.Rows HandSHeadRun
def names : List PySem.Str := (["_wall", "SignError", "NoSign", "NoTable", "NoText", "NoWire", "NoView", "NoPlace", "NoChange", "NoPin", "NoUndo", "NoHand", "NoLetter", "GREATEST", "KINDS", "WAYS", "BASES", "is_whole", "is_between", "is_number", "is_row", "is_word", "needed", "Sign", "Ready", "wanted", "Table", "checked_table", "checked_text", "allowed"] : List PySem.Str) ++ (["is_signs", "is_deed", "in_groups", "Change", "check_change", "parted", "come_to", "put_off", "stretch_off", "place_behind", "MOST_HANDS", "changed", "Side", "Meeting", "VIEWS", "GOING_WITH", "RUNNING", "checked_view", "first_kind", "cuts_in", "kinds_in", "is_run_on", "word_cuts", "line_cuts", "unit_cuts", "many_bytes", "byte_places", "units", "units_views", "led"] : List PySem.Str) ++ (["led_views", "WIRES", "GREAT_FIRST", "SMALL_FIRST", "checked_wire", "steps_of", "pair_of", "written_in", "written", "LETTERS", "is_name", "Pin", "common", "Sheet", "_law_cell_at", "_law_mixed", "_law_source", "_law_next", "_law_board", "_law_deeds", "_law_state", "_law_step", "_law_story_right", "_law_at_once_right"] : List PySem.Str)
abbrev R : PySem.W.OpenRow := PySem.W.OpenLaw.row PySem.Challenge.rw_signloom_k94_whole_hands_as_one
noncomputable abbrev theEnd (w : World) (os : OsState) : Option SharedT := endF (stepQ (denQ tabQ) R.prog w) 20000 R.prog w os
/-! the addresses that the facts look at: what the globals name, what these name, what class dicts name, what methods name -/
def refsAt (p : PySem.Data → Bool) (g : Addr → Option Obj) (as : List Addr) : List Addr := as.flatMap fun a => match g a with
  | some o => if p o.data = true then He.refsD o else []
  | none => []
def isDict : PySem.Data → Bool
  | .dict _ _ => true
  | _ => false
def isFunc : PySem.Data → Bool
  | .func _ => true
  | _ => false
def asM (g : Addr → Option Obj) (l : List Addr) : List Addr := l ++ refsAt isFunc g l
def asN (g : Addr → Option Obj) (l : List Addr) : List Addr := l ++ asM g (refsAt isDict g l)
def asV (g : Addr → Option Obj) (l : List Addr) : List Addr := l ++ asN g (refsAt (fun _ => true) g l)
def asX (g : Addr → Option Obj) : List Addr := mainGlobals :: asV g (refsAt (fun _ => true) g [mainGlobals])
noncomputable abbrev fragT (s : SharedT) : PySem.W.Frag := He.frG (HandSHeadRun.getT s) (asX (HandSHeadRun.getT s))
noncomputable def allF (l : List He.Fa) (s : SharedT) : Bool := l.all fun f => f.ok (fragT s)
noncomputable def allD (l : List He.DefD) (s : SharedT) : Bool × List He.FnW := (l.all fun d => d.ok (fragT s), l.map fun d => He.fnW (fragT s) d.at_)
end K94
set_option maxRecDepth 100000
set_option maxHeartbeats 0
namespace K94
open PySem PySem.W PySem.Calls PySem.Spec PyProof.Rows HandSHeadRun
theorem run_looks (w : World) (os : OsState) : (theEnd w os).map (fun s => looksF R.prog (boot_heap w.params) s.abs) = some true := by kernel_rfl
end K94
set_option maxRecDepth 100000
set_option maxHeartbeats 0
namespace K94
open PySem PySem.W PySem.Calls PySem.Spec PyProof.Rows HandSHeadRun
theorem run_seen (w : World) (os : OsState) : (theEnd w os).map (fun s => seenQ (PySem.W.view R.prog [92]) names (importedModules R.prog.main.body) (fun s => xlAt (PySem.W.view R.prog [92]) [] s && recOk R.toRowW.records s) s.abs) = some (openGood (PySem.W.view R.prog [92]) names) := by kernel_rfl
end K94
set_option maxRecDepth 100000
set_option maxHeartbeats 0
namespace K94
open PySem PySem.W PySem.Calls PySem.Spec PyProof.Rows HandSHeadRun
theorem run_facts (w : World) (os : OsState) : (theEnd w os).map (allF fa) = some true := by kernel_rfl
end K94
set_option maxRecDepth 100000
set_option maxHeartbeats 0
namespace K94
open PySem PySem.W PySem.Calls PySem.Spec PyProof.Rows HandSHeadRun
theorem run_defs (w : World) (os : OsState) : (theEnd w os).map (allD fn) = some (true, fn.map He.DefD.val) := by kernel_rfl
end K94
set_option maxRecDepth 100000
set_option maxHeartbeats 0
namespace K94
open PySem PySem.W PySem.Calls PySem.Spec PyProof.Rows HandSHeadRun
theorem run_bits (w : World) (os : OsState) : (theEnd w os).map (fun s => exB (fragT s)) = some true := by kernel_rfl
end K94
set_option maxRecDepth 100000
set_option maxHeartbeats 0
/-! K94HJ: the runs put together. -/
namespace K94
open PySem PySem.W PySem.Calls PySem.Spec PyProof.Rows HandSHeadRun
/-- the layer's facts, and exB -/
noncomputable def hkX : PySem.W.Hook where
  α := Bool × He.AlD
  obs := fun s => (exB (He.frG s.heap.get? (asX s.heap.get?)), He.obsD fa fn (He.frG s.heap.get? (asX s.heap.get?)))
  val := fun _ => (true, He.valD fn)
  says := fun _ h => ∃ K : PySem.W.Frag, K.In h ∧ He.SaysD fa fn K ∧ exB K = true
  of := fun _ _ e => ⟨_, He.frG_in, congrArg (fun z : Bool × He.AlD => z.2) e, congrArg (fun z : Bool × He.AlD => z.1) e⟩
  keeps := fun _ _ _ ⟨K, hK, c⟩ k => ⟨K, PySem.W.Frag.In.keeps hK k, c⟩
noncomputable def ob (s : PySem.W.SharedT) : Bool × He.AlD := (exB (He.frG (HandSHeadRun.getT s) (asX (HandSHeadRun.getT s))), He.obsD fa fn (He.frG (HandSHeadRun.getT s) (asX (HandSHeadRun.getT s))))
theorem ob_eq (s : PySem.W.SharedT) : ob s = hkX.obs s.abs := by
  have e : HandSHeadRun.getT s = s.abs.heap.get? := funext (HandSHeadRun.getT_eq s)
  unfold ob
  rw [e] <;> rfl
theorem run (w : World) : HandSHeadRun.RunEq R (PySem.W.view R.prog [92]) hkX ob 20000 names w := by
  intro os
  have h1 := run_looks w os
  have h2 := run_seen w os
  have h3 := run_facts w os
  have h4 := run_defs w os
  have h5 := run_bits w os
  show (theEnd w os).map _ = _
  generalize theEnd w os = z at h1 h2 h3 h4 h5 ⊢
  cases z with
  | none => cases h1
  | some s =>
    simp only [Option.map_some, Option.some.injEq] at h1 h2 h3 h4 h5 ⊢
    have e4a : (fn.all fun d => d.ok (fragT s)) = true := congrArg Prod.fst h4
    have e4b : (fn.map fun d => He.fnW (fragT s) d.at_) = fn.map He.DefD.val := congrArg Prod.snd h4
    have e3 : (fa.all fun f => f.ok (fragT s)) = true := h3
    have eo : ob s = (true, He.valD fn) := by
      show (exB (fragT s), ((fa.all fun f => f.ok (fragT s)) && fn.all fun d => d.ok (fragT s), fn.map fun d => He.fnW (fragT s) d.at_)) = _
      rw [h5, e3, e4a, e4b]
      rfl
    rw [h1, h2, eo]
    rfl
end K94
set_option maxHeartbeats 4000000
/-! K94Math: changes as plain lists; their laws. No program in sight. -/
namespace K94

/-- a row of a change: keep (true) or take (false) so many, or put these -/
inductive Rw where
  | mv (k : Bool) (n : Nat)
  | put (xs : List Int)

structure Gr where
  many : Nat
  signs : List Int
  fewer : Nat

abbrev Gs := List Gr

def nd : List Rw → Nat
  | [] => 0
  | .mv _ n :: r => n + nd r
  | .put _ :: r => nd r
def tk : List Rw → Nat
  | [] => 0
  | .mv k n :: r => (if k then 0 else n) + tk r
  | .put _ :: r => tk r
def puts : List Rw → List Int
  | [] => []
  | .mv _ _ :: r => puts r
  | .put xs :: r => xs ++ puts r
def doneR : List Rw → List Int → List Int
  | [], row => row
  | .mv true n :: r, row => row.take n ++ doneR r (row.drop n)
  | .mv false n :: r, row => doneR r (row.drop n)
  | .put xs :: r, row => xs ++ doneR r row
def outR : List Rw → List Int → List Int
  | [], _ => []
  | .mv true n :: r, row => row.take n ++ outR r (row.drop n)
  | .mv false n :: r, row => outR r (row.drop n)
  | .put xs :: r, row => xs ++ outR r row

theorem nd_app (a b : List Rw) : nd (a ++ b) = nd a + nd b := by
  induction a with
  | nil => simp [nd]
  | cons x r ih => cases x <;> simp [nd, ih] ; omega
theorem tk_app (a b : List Rw) : tk (a ++ b) = tk a + tk b := by
  induction a with
  | nil => simp [tk]
  | cons x r ih => cases x <;> simp [tk, ih] ; omega
theorem puts_app (a b : List Rw) : puts (a ++ b) = puts a ++ puts b := by
  induction a with
  | nil => simp [puts]
  | cons x r ih => cases x <;> simp [puts, ih]
theorem tk_le_nd (a : List Rw) : tk a ≤ nd a := by
  induction a with
  | nil => simp [tk]
  | cons x r ih =>
    cases x with
    | mv k n => cases k <;> simp [tk, nd] <;> omega
    | put xs => simpa [tk, nd] using ih
theorem doneR_out : ∀ (a : List Rw) (row : List Int), doneR a row = outR a row ++ row.drop (nd a)
  | [], row => by simp [doneR, outR, nd]
  | .mv true n :: r, row => by simp [doneR, outR, nd, doneR_out r, List.drop_drop]
  | .mv false n :: r, row => by simp [doneR, outR, nd, doneR_out r, List.drop_drop]
  | .put xs :: r, row => by simp [doneR, outR, nd, doneR_out r]
theorem outR_app : ∀ (a b : List Rw) (row : List Int), outR (a ++ b) row = outR a row ++ outR b (row.drop (nd a))
  | [], b, row => by simp [outR, nd]
  | .mv true n :: r, b, row => by simp [outR, nd, outR_app r, List.drop_drop]
  | .mv false n :: r, b, row => by simp [outR, nd, outR_app r, List.drop_drop]
  | .put xs :: r, b, row => by simp [outR, nd, outR_app r]
theorem doneR_app (a b : List Rw) (row : List Int) : doneR (a ++ b) row = outR a row ++ doneR b (row.drop (nd a)) := by
  rw [doneR_out, doneR_out b, outR_app, nd_app, List.drop_drop, List.append_assoc]
theorem len_doneR : ∀ (a : List Rw) (row : List Int), nd a ≤ row.length → (doneR a row).length + tk a = row.length + (puts a).length
  | [], row, _ => by simp [doneR, tk, puts]
  | .mv true n :: r, row, h => by
    simp only [nd] at h
    have := len_doneR r (row.drop n) (by simp; omega)
    simp [doneR, tk, puts] at this ⊢
    omega
  | .mv false n :: r, row, h => by
    simp only [nd] at h
    have := len_doneR r (row.drop n) (by simp; omega)
    simp [doneR, tk, puts] at this ⊢
    omega
  | .put xs :: r, row, h => by
    have := len_doneR r row (by simpa [nd] using h)
    simp [doneR, tk, puts] at this ⊢
    omega
theorem mem_doneR (P : Int → Prop) : ∀ (a : List Rw) (row : List Int), (∀ x ∈ puts a, P x) → (∀ x ∈ row, P x) → ∀ x ∈ doneR a row, P x
  | [], row, _, h => h
  | .mv true n :: r, row, hp, h => by
    intro x hx
    rcases List.mem_append.mp hx with hx | hx
    · exact h x (List.mem_of_mem_take hx)
    · exact mem_doneR P r (row.drop n) hp (fun y hy => h y (List.mem_of_mem_drop hy)) x hx
  | .mv false n :: r, row, hp, h => mem_doneR P r (row.drop n) hp fun y hy => h y (List.mem_of_mem_drop hy)
  | .put xs :: r, row, hp, h => by
    intro x hx
    rcases List.mem_append.mp hx with hx | hx
    · exact hp x (List.mem_append_left _ hx)
    · exact mem_doneR P r row (fun y hy => hp y (List.mem_append_right _ hy)) h x hx

/-! ### groups -/
def stepG : Gs × Gr → Rw → Gs × Gr
  | (ds, l), .put xs => (ds, ⟨l.many, l.signs ++ xs, l.fewer⟩)
  | (ds, l), .mv false n => (ds, ⟨l.many, l.signs, l.fewer + n⟩)
  | (ds, l), .mv true n => if 0 < n ∧ (l.signs ≠ [] ∨ 0 < l.fewer) then (ds ++ [l], ⟨n, [], 0⟩) else (ds, ⟨l.many + n, l.signs, l.fewer⟩)
def g0 : Gr := ⟨0, [], 0⟩
def endG (p : Gs × Gr) : Gs := if p.2.signs = [] ∧ p.2.fewer = 0 then p.1 else p.1 ++ [p.2]
def inG (rows : List Rw) : Gs := endG (rows.foldl stepG ([], g0))
def rowsG (g : Gr) : List Rw :=
  (if 0 < g.many then [.mv true g.many] else []) ++ (if g.signs ≠ [] then [.put g.signs] else []) ++ (if 0 < g.fewer then [.mv false g.fewer] else [])
def rowsOf : Gs → List Rw
  | [] => []
  | g :: r => rowsG g ++ rowsOf r
def need : Gs → Nat
  | [] => 0
  | g :: r => g.many + g.fewer + need r
def doneG : Gs → List Int → List Int
  | [], row => row
  | g :: r, row => row.take g.many ++ g.signs ++ doneG r (row.drop (g.many + g.fewer))
def undoR : Gs → List Int → List Rw
  | [], _ => []
  | g :: r, row => .mv true g.many :: .put ((row.drop g.many).take g.fewer) :: .mv false g.signs.length :: undoR r (row.drop (g.many + g.fewer))

theorem rowsOf_app (a b : Gs) : rowsOf (a ++ b) = rowsOf a ++ rowsOf b := by
  induction a with
  | nil => rfl
  | cons g r ih => simp [rowsOf, ih]
theorem nd_rowsG (g : Gr) : nd (rowsG g) = g.many + g.fewer := by
  unfold rowsG
  by_cases h1 : 0 < g.many <;> by_cases h2 : g.signs = [] <;> by_cases h3 : 0 < g.fewer <;> simp [h1, h2, h3, nd] <;> omega
theorem tk_rowsG (g : Gr) : tk (rowsG g) = g.fewer := by
  unfold rowsG
  by_cases h1 : 0 < g.many <;> by_cases h2 : g.signs = [] <;> by_cases h3 : 0 < g.fewer <;> simp [h1, h2, h3, tk] <;> omega
theorem puts_rowsG (g : Gr) : puts (rowsG g) = g.signs := by
  unfold rowsG
  by_cases h1 : 0 < g.many <;> by_cases h2 : g.signs = [] <;> by_cases h3 : 0 < g.fewer <;> simp [h1, h2, h3, puts]
theorem outR_rowsG (g : Gr) (row : List Int) : outR (rowsG g) row = row.take g.many ++ g.signs := by
  unfold rowsG
  by_cases h1 : 0 < g.many <;> by_cases h2 : g.signs = [] <;> by_cases h3 : 0 < g.fewer <;> simp [h1, h2, h3, outR] <;> (try (have e : g.many = 0 := by omega)) <;> simp_all
theorem nd_rowsOf (gs : Gs) : nd (rowsOf gs) = need gs := by
  induction gs with
  | nil => rfl
  | cons g r ih => simp [rowsOf, need, nd_app, nd_rowsG, ih]
theorem doneR_rowsOf : ∀ (gs : Gs) (row : List Int), doneR (rowsOf gs) row = doneG gs row
  | [], row => rfl
  | g :: r, row => by
    simp only [rowsOf, doneG]
    rw [doneR_app, outR_rowsG, nd_rowsG, doneR_rowsOf r]

/-- the fold's state as rows -/
def stR (p : Gs × Gr) : List Rw := rowsOf p.1 ++ rowsG p.2
theorem need_app (a b : Gs) : need (a ++ b) = need a + need b := by
  induction a with
  | nil => simp [need]
  | cons g r ih => simp [need, ih]; omega
theorem stepG_nd (p : Gs × Gr) (x : Rw) : nd (stR (stepG p x)) = nd (stR p) + nd [x] := by
  obtain ⟨ds, l⟩ := p
  cases x with
  | put xs => simp [stepG, stR, nd_app, nd_rowsG, nd]
  | mv k n =>
    cases k with
    | false => simp [stepG, stR, nd_app, nd_rowsG, nd]; omega
    | true =>
      simp only [stepG]
      split <;> simp [stR, nd_app, nd_rowsG, nd, rowsOf_app, rowsOf] <;> omega
theorem stepG_tk (p : Gs × Gr) (x : Rw) : tk (stR (stepG p x)) = tk (stR p) + tk [x] := by
  obtain ⟨ds, l⟩ := p
  cases x with
  | put xs => simp [stepG, stR, tk_app, tk_rowsG, tk]
  | mv k n =>
    cases k with
    | false => simp [stepG, stR, tk_app, tk_rowsG, tk]; omega
    | true =>
      simp only [stepG]
      split <;> simp [stR, tk_app, tk_rowsG, tk, rowsOf_app, rowsOf]
theorem stepG_puts (p : Gs × Gr) (x : Rw) : puts (stR (stepG p x)) = puts (stR p) ++ puts [x] := by
  obtain ⟨ds, l⟩ := p
  cases x with
  | put xs => simp [stepG, stR, puts_app, puts_rowsG, puts]
  | mv k n =>
    cases k with
    | false => simp [stepG, stR, puts_app, puts_rowsG, puts]
    | true =>
      simp only [stepG]
      split <;> simp [stR, puts_app, puts_rowsG, puts, rowsOf_app, rowsOf]
theorem take_take_drop (row : List Int) (a b : Nat) : row.take (a + b) = row.take a ++ (row.drop a).take b := by
  rw [List.take_add]
theorem stepG_done (p : Gs × Gr) (x : Rw) (row : List Int) (h : nd (stR p) + nd [x] ≤ row.length) : doneR (stR (stepG p x)) row = doneR (stR p ++ [x]) row := by
  obtain ⟨ds, l⟩ := p
  cases x with
  | put xs =>
    simp only [stepG, stR, List.append_assoc]
    rw [doneR_app, doneR_app, doneR_app, doneR_out, outR_rowsG, outR_rowsG, nd_rowsG, nd_rowsG]
    simp [doneR]
  | mv k n =>
    cases k with
    | false =>
      simp only [stepG, stR, List.append_assoc]
      rw [doneR_app, doneR_app, doneR_app, doneR_out, outR_rowsG, outR_rowsG, nd_rowsG, nd_rowsG]
      simp [doneR, List.drop_drop, Nat.add_assoc]
    | true =>
      simp only [stepG]
      split
      · rename_i hc
        simp only [stR, rowsOf_app, rowsOf, List.append_nil, List.append_assoc]
        rw [doneR_app, doneR_app (rowsOf ds) (rowsG l ++ _), doneR_app, doneR_app, doneR_out, outR_rowsG, outR_rowsG, nd_rowsG, nd_rowsG]
        simp [doneR]
      · rename_i hc
        simp only [stR, List.append_assoc]
        rw [doneR_app, doneR_app, doneR_app, doneR_out, outR_rowsG, outR_rowsG, nd_rowsG, nd_rowsG]
        simp only [doneR]
        by_cases hn : 0 < n
        · have h1 : l.signs = [] := by
            by_cases q : l.signs = []
            · exact q
            · exact absurd ⟨hn, .inl q⟩ hc
          have h2 : l.fewer = 0 := by
            by_cases q : 0 < l.fewer
            · exact absurd ⟨hn, .inr q⟩ hc
            · omega
          have td : ∀ (X : List Int) (m k : Nat), X.take m ++ ((X.drop m).take k ++ X.drop (m + k)) = X := fun X m k => by
            rw [← List.drop_drop, List.take_append_drop, List.take_append_drop]
          have e := td (row.drop (nd (rowsOf ds))) l.many n
          simp only [h1, h2, List.append_nil, Nat.add_zero, List.take_append_drop]
        · have : n = 0 := by omega
          subst this
          simp
theorem endG_facts (p : Gs × Gr) : need (endG p) ≤ nd (stR p) ∧ tk (rowsOf (endG p)) = tk (stR p) ∧ puts (rowsOf (endG p)) = puts (stR p) ∧ ∀ row, nd (stR p) ≤ row.length → doneG (endG p) row = doneR (stR p) row := by
  obtain ⟨ds, l⟩ := p
  unfold endG stR
  by_cases h : l.signs = [] ∧ l.fewer = 0
  · simp only [if_pos h]
    refine ⟨by rw [nd_app, nd_rowsOf]; omega, by rw [tk_app, tk_rowsG, h.2]; omega, by rw [puts_app, puts_rowsG, h.1]; simp, fun row hr => ?_⟩
    rw [← doneR_rowsOf, doneR_app, doneR_out, doneR_out (rowsG l), outR_rowsG, nd_rowsG, h.1, h.2]
    rw [List.append_nil, Nat.add_zero, List.take_append_drop]
  · simp only [if_neg h]
    refine ⟨by rw [need_app, nd_app, nd_rowsOf, nd_rowsG]; simp [need], by simp [rowsOf_app, rowsOf], by simp [rowsOf_app, rowsOf], fun row _ => ?_⟩
    rw [← doneR_rowsOf, rowsOf_app]
    simp [rowsOf]
theorem fold_facts : ∀ (rows : List Rw) (p : Gs × Gr), nd (stR (rows.foldl stepG p)) = nd (stR p) + nd rows ∧ tk (stR (rows.foldl stepG p)) = tk (stR p) + tk rows ∧ puts (stR (rows.foldl stepG p)) = puts (stR p) ++ puts rows ∧
    ∀ row, nd (stR p) + nd rows ≤ row.length → doneR (stR (rows.foldl stepG p)) row = doneR (stR p ++ rows) row
  | [], p => by simp [nd, tk, puts]
  | x :: r, p => by
    obtain ⟨a, b, c, d⟩ := fold_facts r (stepG p x)
    have e1 : nd (x :: r) = nd [x] + nd r := nd_app [x] r
    have e2 : tk (x :: r) = tk [x] + tk r := tk_app [x] r
    have e3 : puts (x :: r) = puts [x] ++ puts r := puts_app [x] r
    rw [List.foldl_cons]
    refine ⟨by rw [a, stepG_nd, e1]; omega, by rw [b, stepG_tk, e2]; omega, by rw [c, stepG_puts, e3, List.append_assoc], fun row hr => ?_⟩
    rw [e1] at hr
    rw [d row (by rw [stepG_nd]; omega)]
    have h1 := stepG_done p x row (by omega)
    have hn := stepG_nd p x
    have e4 : stR p ++ x :: r = (stR p ++ [x]) ++ r := by simp
    have h2 : outR (stR (stepG p x)) row = outR (stR p ++ [x]) row := by
      rw [doneR_out, doneR_out (stR p ++ [x]), nd_app, hn] at h1
      exact List.append_cancel_right h1
    rw [e4, doneR_app, doneR_app (stR p ++ [x]) r, nd_app, hn, h2]
theorem inG_need (rows : List Rw) : need (inG rows) ≤ nd rows := by
  have a := (endG_facts (rows.foldl stepG ([], g0))).1
  have b := (fold_facts rows ([], g0)).1
  have c : nd (stR ([], g0)) = 0 := rfl
  unfold inG
  omega
theorem inG_tk (rows : List Rw) : tk (rowsOf (inG rows)) = tk rows := by
  have a := (endG_facts (rows.foldl stepG ([], g0))).2.1
  have b := (fold_facts rows ([], g0)).2.1
  have c : tk (stR ([], g0)) = 0 := rfl
  unfold inG
  omega
theorem inG_puts (rows : List Rw) : puts (rowsOf (inG rows)) = puts rows := by
  have a := (endG_facts (rows.foldl stepG ([], g0))).2.2.1
  have b := (fold_facts rows ([], g0)).2.2.1
  have c : puts (stR ([], g0)) = [] := rfl
  unfold inG
  rw [a, b, c]
  simp
theorem inG_done (rows : List Rw) (row : List Int) (h : nd rows ≤ row.length) : doneG (inG rows) row = doneR rows row := by
  have a := (endG_facts (rows.foldl stepG ([], g0))).2.2.2 row
  have b := fold_facts rows ([], g0)
  have c : nd (stR ([], g0)) = 0 := rfl
  have d : stR ([], g0) = [] := rfl
  unfold inG
  rw [a (by rw [b.1, c]; omega), b.2.2.2 row (by rw [c]; omega), d]
  rfl

/-! ### one form: no two puts side by side -/
def isPut : Rw → Bool
  | .put _ => true
  | _ => false
def noPP : List Rw → Prop
  | .put _ :: .put _ :: _ => False
  | _ :: r => noPP r
  | [] => True
/-- nothing empty -/
def full (g : Gr) : Prop := g.signs ≠ [] ∨ 0 < g.fewer
def Canon : Gs → Prop
  | [] => True
  | g :: r => full g ∧ (∀ x ∈ r, 0 < x.many ∧ full x)
theorem canon_app {a : Gs} {g : Gr} (h : Canon a) (h1 : a ≠ [] → 0 < g.many) (h2 : full g) : Canon (a ++ [g]) := by
  cases a with
  | nil => exact ⟨h2, fun _ hx => by cases hx⟩
  | cons b r =>
    refine ⟨h.1, fun x hx => ?_⟩
    rcases List.mem_append.mp hx with hx | hx
    · exact h.2 x hx
    · simp at hx
      subst hx
      exact ⟨h1 (by simp), h2⟩
theorem stepG_canon (p : Gs × Gr) (x : Rw) (h : Canon p.1 ∧ (p.1 ≠ [] → 0 < p.2.many)) : Canon (stepG p x).1 ∧ ((stepG p x).1 ≠ [] → 0 < (stepG p x).2.many) := by
  obtain ⟨ds, l⟩ := p
  cases x with
  | put xs => exact h
  | mv k n =>
    cases k with
    | false => exact h
    | true =>
      simp only [stepG]
      split
      · rename_i hc
        exact ⟨canon_app h.1 h.2 hc.2, fun _ => hc.1⟩
      · exact ⟨h.1, fun q => by have := h.2 q; simp only at this ⊢; omega⟩
theorem fold_canon : ∀ (rows : List Rw) (p : Gs × Gr), (Canon p.1 ∧ (p.1 ≠ [] → 0 < p.2.many)) → Canon (rows.foldl stepG p).1 ∧ ((rows.foldl stepG p).1 ≠ [] → 0 < (rows.foldl stepG p).2.many)
  | [], _, h => h
  | x :: r, p, h => fold_canon r _ (stepG_canon p x h)
theorem inG_canon (rows : List Rw) : Canon (inG rows) := by
  have h := fold_canon rows ([], g0) ⟨trivial, fun q => absurd rfl q⟩
  unfold inG endG
  split
  · exact h.1
  · rename_i hc
    refine canon_app h.1 h.2 ?_
    by_cases q : (rows.foldl stepG ([], g0)).2.signs = []
    · exact .inr (by
        have : ¬ (rows.foldl stepG ([], g0)).2.fewer = 0 := fun z => hc ⟨q, z⟩
        omega)
    · exact .inl q

theorem noPP_cons_mv {k : Bool} {n : Nat} {r : List Rw} : noPP (.mv k n :: r) ↔ noPP r := by
  cases r <;> simp [noPP]
theorem noPP_tail {x : Rw} {r : List Rw} (h : noPP (x :: r)) : noPP r := by
  cases x with
  | mv k n => exact noPP_cons_mv.mp h
  | put xs =>
    cases r with
    | nil => trivial
    | cons y r =>
      cases y with
      | mv k n => exact h
      | put ys => exact h.elim
theorem noPP_put {xs : List Int} {r : List Rw} (h : noPP r) (hr : ∀ ys q, r ≠ .put ys :: q) : noPP (.put xs :: r) := by
  cases r with
  | nil => trivial
  | cons y r =>
    cases y with
    | mv k n => exact h
    | put ys => exact absurd rfl (hr ys r)
/-- behind a put comes no put -/
theorem noPP_next {xs ys : List Int} {r : List Rw} (h : noPP (.put xs :: .put ys :: r)) : False := h
theorem noPP_group (g : Gr) (r : List Rw) (hr : noPP r) (h0 : ∀ ys q, r ≠ .put ys :: q) : noPP (rowsG g ++ r) := by
  unfold rowsG
  by_cases h1 : 0 < g.many <;> by_cases h2 : g.signs = [] <;> by_cases h3 : 0 < g.fewer <;> simp [h1, h2, h3, noPP_cons_mv] <;>
    first | exact hr | exact noPP_put hr h0 | exact noPP_put (noPP_cons_mv.mpr hr) (by intro ys q e; cases e)
theorem noPP_rest : ∀ (gs : Gs), (∀ x ∈ gs, 0 < x.many ∧ full x) → noPP (rowsOf gs) ∧ ∀ ys q, rowsOf gs ≠ .put ys :: q
  | [], _ => ⟨trivial, by intro ys q e; cases e⟩
  | g :: r, h => by
    have hg := h g (by simp)
    have ih := noPP_rest r fun x hx => h x (by simp [hx])
    refine ⟨noPP_group g _ ih.1 ih.2, fun ys q e => ?_⟩
    have e2 : rowsG g ++ rowsOf r = .put ys :: q := e
    unfold rowsG at e2
    rw [if_pos hg.1] at e2
    simp at e2
theorem noPP_rowsOf {gs : Gs} (h : Canon gs) : noPP (rowsOf gs) := by
  cases gs with
  | nil => trivial
  | cons g r =>
    have ih := noPP_rest r h.2
    exact noPP_group g _ ih.1 ih.2

/-! ### one past the other -/
def msr : List Rw → Nat
  | [] => 0
  | .mv _ n :: r => 1 + n + msr r
  | .put xs :: r => 1 + msr r
def putOff : List Rw → List Rw × List Rw
  | .put xs :: r => ([.put xs], r)
  | r => ([], r)
def farOf : List Rw → List Rw
  | .put xs :: _ => [.mv true xs.length]
  | _ => []
/-- what is left of a row of which so many are taken off -/
def leftOf (k : Bool) (n s : Nat) (r : List Rw) : List Rw := if s < n then .mv k (n - s) :: r else r
def stretch : List Rw → List Rw → List Rw × List Rw × List Rw
  | .mv k n :: m, [] => ([.mv k n], m, [])
  | .mv k n :: m, .mv k2 n2 :: t => ((if k2 then [.mv k (min n n2)] else []), leftOf k n (min n n2) m, leftOf k2 n2 (min n n2) t)
  | _, _ => ([], [], [])
theorem msr_putOff (r : List Rw) : msr (putOff r).2 ≤ msr r := by
  unfold putOff
  split <;> simp [msr]
theorem msr_leftOf (k : Bool) (n s : Nat) (r : List Rw) : msr (leftOf k n s r) ≤ 1 + n - s + msr r := by
  unfold leftOf
  split <;> simp [msr]
  omega
theorem msr_stretch (m t : List Rw) (h : m ≠ []) : msr (stretch m t).2.1 + msr (stretch m t).2.2 < msr m + msr t := by
  cases m with
  | nil => exact absurd rfl h
  | cons x m =>
    cases x with
    | put xs => cases t <;> simp [stretch, msr] <;> omega
    | mv k n =>
      cases t with
      | nil => simp [stretch, msr]; omega
      | cons y t =>
        cases y with
        | put ys => simp [stretch, msr]; omega
        | mv k2 n2 =>
          simp only [stretch, leftOf]
          split <;> split <;> simp only [msr] <;> omega
def pastF (ahead : Bool) (mine its : List Rw) : List Rw :=
  if h0 : mine = [] then [] else
    (if ahead then (putOff mine).1 ++ farOf its else farOf its ++ (putOff mine).1) ++
      (if h : (putOff mine).2 = [] then [] else (stretch (putOff mine).2 (putOff its).2).1 ++ pastF ahead (stretch (putOff mine).2 (putOff its).2).2.1 (stretch (putOff mine).2 (putOff its).2).2.2)
termination_by msr mine + msr its
decreasing_by
  have a := msr_stretch (putOff mine).2 (putOff its).2 h
  have b := msr_putOff mine
  have c := msr_putOff its
  omega
theorem pastF_nil (ahead : Bool) (its : List Rw) : pastF ahead [] its = [] := by
  rw [pastF]
  simp
theorem pastF_cons (ahead : Bool) {mine : List Rw} (its : List Rw) (h0 : mine ≠ []) : pastF ahead mine its =
    (if ahead then (putOff mine).1 ++ farOf its else farOf its ++ (putOff mine).1) ++
      (if (putOff mine).2 = [] then [] else (stretch (putOff mine).2 (putOff its).2).1 ++ pastF ahead (stretch (putOff mine).2 (putOff its).2).2.1 (stretch (putOff mine).2 (putOff its).2).2.2) := by
  rw [pastF]
  simp only [dif_neg h0]
  by_cases h : (putOff mine).2 = [] <;> simp [h]

/-- which signs are taken -/
def mask : List Rw → List Bool
  | [] => []
  | .mv k n :: r => List.replicate n (!k) ++ mask r
  | .put _ :: r => mask r
def cnt : List Bool → Nat
  | [] => 0
  | b :: r => (if b then 1 else 0) + cnt r
/-- taken by the one alone -/
def cAN : List Bool → List Bool → Nat
  | [], _ => 0
  | x :: xs, [] => (if x then 1 else 0) + cAN xs []
  | x :: xs, y :: ys => (if x && !y then 1 else 0) + cAN xs ys
theorem cnt_app (a b : List Bool) : cnt (a ++ b) = cnt a + cnt b := by
  induction a with
  | nil => simp [cnt]
  | cons x r ih => simp [cnt, ih]; omega
theorem cnt_rep (n : Nat) (b : Bool) : cnt (List.replicate n b) = if b then n else 0 := by
  induction n with
  | zero => cases b <;> rfl
  | succ n ih => rw [List.replicate_succ, cnt, ih]; cases b <;> simp; omega
theorem cnt_mask (a : List Rw) : cnt (mask a) = tk a := by
  induction a with
  | nil => rfl
  | cons x r ih =>
    cases x with
    | mv k n => simp only [mask, tk, cnt_app, cnt_rep, ih]; cases k <;> simp
    | put xs => simpa [mask, tk] using ih
theorem cAN_nil (a : List Bool) : cAN a [] = cnt a := by
  induction a with
  | nil => rfl
  | cons x r ih => simp [cAN, cnt, ih]
theorem cAN_sym : ∀ (a b : List Bool), cAN a b + cnt b = cAN b a + cnt a
  | [], b => by rw [cAN_nil]; simp [cAN, cnt]
  | a, [] => by rw [cAN_nil]; simp [cAN, cnt]
  | x :: xs, y :: ys => by
    have := cAN_sym xs ys
    simp only [cAN, cnt]
    cases x <;> cases y <;> simp <;> omega
theorem cAN_rep (x y : Bool) (a b : List Bool) : ∀ n, cAN (List.replicate n x ++ a) (List.replicate n y ++ b) = (if x && !y then n else 0) + cAN a b
  | 0 => by simp
  | n + 1 => by
    have := cAN_rep x y a b n
    simp only [List.replicate_succ, List.cons_append, cAN, this]
    split <;> omega
theorem mask_leftOf (k : Bool) (n s : Nat) (r : List Rw) (h : s ≤ n) : List.replicate n (!k) ++ mask r = List.replicate s (!k) ++ mask (leftOf k n s r) := by
  unfold leftOf
  split
  · simp only [mask]
    rw [← List.append_assoc, List.replicate_append_replicate]
    congr 2
    omega
  · have : n = s := by omega
    rw [this]
theorem mask_putOff (r : List Rw) : mask (putOff r).2 = mask r := by
  unfold putOff
  split <;> simp [mask]
theorem nd_putOff (r : List Rw) : nd (putOff r).2 = nd r := by
  unfold putOff
  split <;> simp [nd]
theorem tk_putOff1 (r : List Rw) : tk (putOff r).1 = 0 ∧ nd (putOff r).1 = 0 := by
  unfold putOff
  split <;> simp [tk, nd]
theorem tk_farOf (r : List Rw) : tk (farOf r) = 0 := by
  unfold farOf
  split <;> simp [tk]
theorem puts_putOff (r : List Rw) : puts r = puts (putOff r).1 ++ puts (putOff r).2 := by
  unfold putOff
  split <;> simp [puts]
theorem puts_farOf (r : List Rw) : puts (farOf r) = [] ∧ (puts r).length = nd (farOf r) + (puts (putOff r).2).length := by
  cases r with
  | nil => simp [farOf, putOff, puts, nd]
  | cons x r => cases x <;> simp [farOf, putOff, puts, nd]
theorem noPP_putOff {r : List Rw} (h : noPP r) : noPP (putOff r).2 ∧ ∀ ys q, (putOff r).2 ≠ .put ys :: q := by
  cases r with
  | nil => exact ⟨trivial, by intro ys q e; cases e⟩
  | cons x r =>
    cases x with
    | mv k n => exact ⟨h, by intro ys q e; cases e⟩
    | put xs =>
      refine ⟨noPP_tail h, fun ys q e => ?_⟩
      have e2 : r = .put ys :: q := e
      rw [e2] at h
      exact h
theorem noPP_leftOf {k : Bool} {n s : Nat} {r : List Rw} (h : noPP r) : noPP (leftOf k n s r) := by
  unfold leftOf
  split
  · exact noPP_cons_mv.mpr h
  · exact h
theorem nd_leftOf {k : Bool} {n s : Nat} {r : List Rw} (h : s ≤ n) : nd (leftOf k n s r) + s = n + nd r := by
  unfold leftOf
  split
  · simp only [nd]
    omega
  · omega
theorem tk_leftOf {k : Bool} {n s : Nat} {r : List Rw} (h : s ≤ n) : tk (leftOf k n s r) + (if k then 0 else s) = (if k then 0 else n) + tk r := by
  unfold leftOf
  split
  · cases k <;> simp [tk] <;> omega
  · have : n = s := by omega
    subst this
    cases k <;> simp <;> omega
theorem puts_leftOf {k : Bool} {n s : Nat} {r : List Rw} : puts (leftOf k n s r) = puts r := by
  unfold leftOf
  split <;> simp [puts]
/-- the four facts of a stretch -/
structure StF (m t : List Rw) : Prop where
  pp1 : noPP (stretch m t).2.1
  pp2 : noPP (stretch m t).2.2
  pm : puts (stretch m t).2.1 = puts m
  po : puts (stretch m t).1 = []
  tk' : tk (stretch m t).1 + cAN (mask (stretch m t).2.1) (mask (stretch m t).2.2) = cAN (mask m) (mask t)
  nd' : ∀ n, nd m ≤ n → nd t ≤ n → ∃ s, s ≤ n ∧ nd (stretch m t).2.1 ≤ n - s ∧ nd (stretch m t).2.2 ≤ n - s ∧ nd (stretch m t).1 + tk t = s + tk (stretch m t).2.2 ∧ (puts t).length = (puts (stretch m t).2.2).length
theorem stretch_facts {m t : List Rw} (h1 : noPP m) (h2 : noPP t) (p1 : ∀ ys q, m ≠ .put ys :: q) (p2 : ∀ ys q, t ≠ .put ys :: q) (h0 : m ≠ []) : StF m t := by
  cases m with
  | nil => exact absurd rfl h0
  | cons x m =>
    cases x with
    | put xs => exact absurd rfl (p1 xs m)
    | mv k n =>
      have hm : noPP m := noPP_tail h1
      cases t with
      | nil =>
        refine ⟨hm, trivial, by simp [stretch, puts], by simp [stretch, puts], ?_, fun N hN _ => ⟨n, ?_, ?_, ?_, ?_, ?_⟩⟩
        · simp only [stretch, mask, cAN_nil, cnt_app, cnt_rep, tk]
          cases k <;> simp
        · simp only [nd] at hN; omega
        · simp only [nd, stretch] at hN ⊢; omega
        · simp [nd, stretch]
        · simp [nd, stretch, tk]
        · simp [stretch, puts]
      | cons y t =>
        cases y with
        | put ys => exact absurd rfl (p2 ys t)
        | mv k2 n2 =>
          have ht : noPP t := noPP_tail h2
          have a1 : min n n2 ≤ n := by omega
          have a2 : min n n2 ≤ n2 := by omega
          have b1 := nd_leftOf (k := k) (r := m) a1
          have b2 := nd_leftOf (k := k2) (r := t) a2
          have c2 := tk_leftOf (k := k2) (r := t) a2
          refine ⟨noPP_leftOf hm, noPP_leftOf ht, by simp [stretch, puts, puts_leftOf], ?_, ?_, fun N hN hN2 => ⟨min n n2, ?_, ?_, ?_, ?_, ?_⟩⟩
          · simp only [stretch]
            cases k2 <;> simp [puts]
          · simp only [stretch, mask]
            rw [mask_leftOf k n _ m a1, mask_leftOf k2 n2 _ t a2, cAN_rep]
            cases k <;> cases k2 <;> simp [tk]
          · simp only [nd] at hN; omega
          · simp only [nd, stretch] at hN ⊢; omega
          · simp only [nd, stretch] at hN2 ⊢; omega
          · simp only [stretch, tk]
            cases k2 <;> simp [nd] at * <;> omega
          · simp [stretch, puts, puts_leftOf]
theorem past_facts (ahead : Bool) : ∀ (N : Nat) (mine its : List Rw), msr mine + msr its ≤ N → noPP mine → noPP its →
    puts (pastF ahead mine its) = puts mine ∧ tk (pastF ahead mine its) = cAN (mask mine) (mask its) ∧ ∀ n, nd mine ≤ n → nd its ≤ n → nd (pastF ahead mine its) + tk its ≤ n + (puts its).length
  | N, mine, its, hN, hm, hi => by
    by_cases h0 : mine = []
    · subst h0
      rw [pastF_nil]
      refine ⟨rfl, by simp [tk, mask, cAN], fun n _ h => ?_⟩
      have := tk_le_nd its
      simp only [nd]
      omega
    · rw [pastF_cons ahead its h0]
      obtain ⟨q1, q2⟩ := noPP_putOff hm
      obtain ⟨r1, r2⟩ := noPP_putOff hi
      have e1 := puts_putOff mine
      obtain ⟨e2, e3⟩ := puts_farOf its
      have e4 := tk_farOf its
      obtain ⟨e5, e6⟩ := tk_putOff1 mine
      have t2 : tk (putOff its).2 = tk its := by rw [← cnt_mask, ← cnt_mask, mask_putOff]
      have pre : puts (if ahead then (putOff mine).1 ++ farOf its else farOf its ++ (putOff mine).1) = puts (putOff mine).1 ∧ tk (if ahead then (putOff mine).1 ++ farOf its else farOf its ++ (putOff mine).1) = 0 ∧
          nd (if ahead then (putOff mine).1 ++ farOf its else farOf its ++ (putOff mine).1) = nd (farOf its) := by
        cases ahead <;> simp [puts_app, tk_app, nd_app, e2, e4, e5, e6]
      obtain ⟨w1, w2, w3⟩ := pre
      by_cases h : (putOff mine).2 = []
      · rw [if_pos h, List.append_nil]
        refine ⟨by rw [w1, e1, h]; simp [puts], ?_, fun n _ hn => ?_⟩
        · rw [w2, ← mask_putOff mine, h]
          simp [mask, cAN]
        · have := tk_le_nd (putOff its).2
          have := nd_putOff its
          rw [w3]
          omega
      · rw [if_neg h]
        have F := stretch_facts q1 r1 q2 r2 h
        have lt := msr_stretch _ (putOff its).2 h
        have m1 := msr_putOff mine
        have m2 := msr_putOff its
        obtain ⟨N', hN'⟩ : ∃ N', N = N' + 1 := ⟨N - 1, by omega⟩
        subst hN'
        obtain ⟨i1, i2, i3⟩ := past_facts ahead N' _ _ (by omega) F.pp1 F.pp2
        refine ⟨?_, ?_, fun n g1 g2 => ?_⟩
        · rw [puts_app, puts_app, w1, F.po, i1, F.pm, e1]
          simp
        · have := F.tk'
          rw [mask_putOff, mask_putOff] at this
          rw [tk_app, tk_app, w2, i2]
          omega
        · rw [← nd_putOff] at g1 g2
          obtain ⟨s, s1, s2, s3, s4, s5⟩ := F.nd' n g1 g2
          have := i3 (n - s) s2 s3
          rw [nd_app, nd_app, w3]
          omega

/-- a change past another -/
def pastG (ahead : Bool) (a b : Gs) : Gs := inG (pastF ahead (rowsOf a) (rowsOf b))
def pt (a : Gs) : Nat := (puts (rowsOf a)).length
def tkG (a : Gs) : Nat := tk (rowsOf a)
theorem pastG_canon (ahead : Bool) (a b : Gs) : Canon (pastG ahead a b) := inG_canon _
theorem pastG_puts {ahead : Bool} {a b : Gs} (ha : Canon a) (hb : Canon b) : puts (rowsOf (pastG ahead a b)) = puts (rowsOf a) := by
  unfold pastG
  rw [inG_puts]
  exact (past_facts ahead _ _ _ (Nat.le_refl _) (noPP_rowsOf ha) (noPP_rowsOf hb)).1
theorem pastG_pt {ahead : Bool} {a b : Gs} (ha : Canon a) (hb : Canon b) : pt (pastG ahead a b) = pt a := by
  unfold pt
  rw [pastG_puts ha hb]
theorem pastG_tk {x y : Bool} {a b : Gs} (ha : Canon a) (hb : Canon b) : tkG (pastG x a b) + tkG b = tkG (pastG y b a) + tkG a := by
  unfold tkG pastG
  rw [inG_tk, inG_tk, (past_facts x _ _ _ (Nat.le_refl _) (noPP_rowsOf ha) (noPP_rowsOf hb)).2.1, (past_facts y _ _ _ (Nat.le_refl _) (noPP_rowsOf hb) (noPP_rowsOf ha)).2.1, ← cnt_mask, ← cnt_mask]
  exact cAN_sym _ _
theorem cAN_le : ∀ (a b : List Bool), cAN a b ≤ cnt a
  | [], b => by simp [cAN, cnt]
  | x :: a, [] => by rw [cAN_nil]; exact Nat.le_refl _
  | x :: a, y :: b => by
    have := cAN_le a b
    simp only [cAN, cnt]
    cases x <;> cases y <;> simp <;> omega
theorem pastG_tk_le {x : Bool} {a b : Gs} (ha : Canon a) (hb : Canon b) : tkG (pastG x a b) ≤ tkG a := by
  unfold tkG pastG
  rw [inG_tk, (past_facts x _ _ _ (Nat.le_refl _) (noPP_rowsOf ha) (noPP_rowsOf hb)).2.1, ← cnt_mask]
  exact cAN_le _ _
theorem full_len : ∀ (gs : Gs), (∀ x ∈ gs, full x) → gs.length ≤ pt gs + tkG gs
  | [], _ => by simp
  | g :: r, h => by
    have ih := full_len r fun x hx => h x (by simp [hx])
    have hf := h g (by simp)
    unfold pt tkG at ih ⊢
    simp only [rowsOf, puts_app, tk_app, List.length_append, puts_rowsG, tk_rowsG, List.length_cons]
    rcases hf with hf | hf
    · have := List.length_pos_iff.mpr hf
      omega
    · omega
theorem canon_len {gs : Gs} (h : Canon gs) : gs.length ≤ pt gs + tkG gs := by
  cases gs with
  | nil => simp
  | cons g r =>
    refine full_len _ fun x hx => ?_
    rcases List.mem_cons.mp hx with rfl | hx
    · exact h.1
    · exact (h.2 x hx).2
theorem pastG_need {x : Bool} {a b : Gs} {n : Nat} (ha : Canon a) (hb : Canon b) (h1 : need a ≤ n) (h2 : need b ≤ n) : need (pastG x a b) + tkG b ≤ n + pt b := by
  have h := (past_facts x _ _ _ (Nat.le_refl _) (noPP_rowsOf ha) (noPP_rowsOf hb)).2.2 n (by rw [nd_rowsOf]; exact h1) (by rw [nd_rowsOf]; exact h2)
  have q := inG_need (pastF x (rowsOf a) (rowsOf b))
  unfold pastG tkG pt
  omega
theorem tk_need (a : Gs) : tkG a ≤ need a := by
  have := tk_le_nd (rowsOf a)
  rw [nd_rowsOf] at this
  exact this
theorem len_done {a : Gs} {row : List Int} (h : need a ≤ row.length) : (doneG a row).length + tkG a = row.length + pt a := by
  have := len_doneR (rowsOf a) row (by rw [nd_rowsOf]; exact h)
  rw [doneR_rowsOf] at this
  exact this
theorem mem_done (P : Int → Prop) {a : Gs} {row : List Int} (hp : ∀ x ∈ puts (rowsOf a), P x) (h : ∀ x ∈ row, P x) : ∀ x ∈ doneG a row, P x := by
  have := mem_doneR P (rowsOf a) row hp h
  rw [doneR_rowsOf] at this
  exact this

/-! ### one behind the other -/
def comeTo : List Rw → Nat → List Rw × List Rw
  | [], m => if m = 0 then ([], []) else ([.mv true m], [])
  | .mv false n :: r, m => if m = 0 then ([], .mv false n :: r) else ((.mv false n :: (comeTo r m).1), (comeTo r m).2)
  | .mv true n :: r, m => if m = 0 then ([], .mv true n :: r) else if n < m then (.mv true n :: (comeTo r (m - n)).1, (comeTo r (m - n)).2) else ([.mv true m], leftOf true n m r)
  | .put xs :: r, m => if m = 0 then ([], .put xs :: r) else if xs.length < m then (.put xs :: (comeTo r (m - xs.length)).1, (comeTo r (m - xs.length)).2) else ([.put (xs.take m)], if xs.drop m = [] then r else .put (xs.drop m) :: r)
/-- what is taken of what is passed -/
def takesOf : List Rw → List Rw
  | [] => []
  | .mv _ n :: r => .mv false n :: takesOf r
  | .put _ :: r => takesOf r
def thenF : List Rw → List Rw → List Rw
  | [], l => l
  | .put xs :: b, l => .put xs :: thenF b l
  | .mv true n :: b, l => (comeTo l n).1 ++ thenF b (comeTo l n).2
  | .mv false n :: b, l => takesOf (comeTo l n).1 ++ thenF b (comeTo l n).2
theorem tkA {A B : List Int} {n m : Nat} (h : A.length = n) (q : n ≤ m) : (A ++ B).take m = A ++ B.take (m - n) := by
  subst h
  rw [List.take_append, List.take_of_length_le q]
theorem dpA {A B : List Int} {n m : Nat} (h : A.length = n) (q : n ≤ m) : (A ++ B).drop m = B.drop (m - n) := by
  subst h
  rw [List.drop_append, List.drop_of_length_le q, List.nil_append]
theorem tkB {A B : List Int} {n m : Nat} (h : A.length = n) (q : m ≤ n) : (A ++ B).take m = A.take m := by
  subst h
  rw [List.take_append_of_le_length q]
theorem dpB {A B : List Int} {n m : Nat} (h : A.length = n) (q : m ≤ n) : (A ++ B).drop m = A.drop m ++ B := by
  subst h
  rw [List.drop_append_of_le_length q]
theorem come_facts : ∀ (l : List Rw) (m : Nat) (row : List Int), nd l ≤ row.length → m ≤ (doneR l row).length →
    outR (comeTo l m).1 row = (doneR l row).take m ∧ doneR (comeTo l m).2 (row.drop (nd (comeTo l m).1)) = (doneR l row).drop m ∧ nd (comeTo l m).1 + nd (comeTo l m).2 ≤ row.length
  | [], m, row, _, hm => by
    by_cases h : m = 0
    · subst h; simp [comeTo, outR, doneR, nd]
    · simp only [comeTo, if_neg h]
      simp only [doneR] at hm
      simp [outR, doneR, nd]
      exact hm
  | .mv false n :: r, m, row, hl, hm => by
    by_cases h : m = 0
    · subst h; simp [comeTo, outR, nd] at hl ⊢; exact hl
    · simp only [comeTo, if_neg h]
      simp only [nd] at hl
      obtain ⟨a, b, c⟩ := come_facts r m (row.drop n) (by simp; omega) hm
      refine ⟨by simpa [outR, doneR] using a, by simpa [nd, doneR, List.drop_drop] using b, by simp [nd] at c ⊢; omega⟩
  | .mv true n :: r, m, row, hl, hm => by
    by_cases h : m = 0
    · subst h; simp [comeTo, outR, nd] at hl ⊢; exact hl
    · simp only [nd] at hl
      simp only [comeTo, if_neg h]
      have ln : (row.take n).length = n := by simp; omega
      by_cases h2 : n < m
      · simp only [if_pos h2]
        have hm2 : m - n ≤ (doneR r (row.drop n)).length := by simp only [doneR, List.length_append, ln] at hm; omega
        obtain ⟨a, b, c⟩ := come_facts r (m - n) (row.drop n) (by simp; omega) hm2
        refine ⟨?_, ?_, by simp [nd] at c ⊢; omega⟩
        · simp only [outR, doneR]
          rw [a, tkA ln (by omega)]
        · simp only [nd, doneR]
          rw [dpA ln (by omega), ← b, List.drop_drop]
      · simp only [if_neg h2]
        refine ⟨?_, ?_, ?_⟩
        · simp only [outR, doneR, List.append_nil]
          rw [tkB ln (by omega), List.take_take, Nat.min_eq_left (by omega)]
        · simp only [nd, doneR, Nat.add_zero]
          rw [dpB ln (by omega)]
          unfold leftOf
          by_cases h3 : m < n
          · simp only [if_pos h3, doneR, List.drop_drop]
            rw [List.drop_take, show m + (n - m) = n by omega]
          · have : n = m := by omega
            subst this
            rw [if_neg h3, List.drop_take, Nat.sub_self, List.take_zero, List.nil_append]
        · have := nd_leftOf (k := true) (n := n) (s := m) (r := r) (by omega)
          simp only [nd]
          omega
  | .put xs :: r, m, row, hl, hm => by
    by_cases h : m = 0
    · subst h; simp [comeTo, outR, nd] at hl ⊢; exact hl
    · simp only [nd] at hl
      simp only [comeTo, if_neg h]
      by_cases h2 : xs.length < m
      · simp only [if_pos h2]
        have hm2 : m - xs.length ≤ (doneR r row).length := by simp only [doneR, List.length_append] at hm; omega
        obtain ⟨a, b, c⟩ := come_facts r (m - xs.length) row hl hm2
        refine ⟨?_, ?_, by simpa [nd] using c⟩
        · simp only [outR, doneR]
          rw [a, tkA rfl (by omega)]
        · simp only [nd, doneR]
          rw [dpA rfl (by omega), ← b]
      · simp only [if_neg h2]
        refine ⟨?_, ?_, ?_⟩
        · simp only [outR, doneR, List.append_nil]
          rw [List.take_append_of_le_length (by omega)]
        · simp only [nd, doneR, List.drop_zero]
          rw [List.drop_append_of_le_length (by omega)]
          by_cases h3 : xs.drop m = []
          · simp [h3]
          · simp [h3, doneR]
        · by_cases h3 : xs.drop m = [] <;> simp [h3, nd] <;> exact hl
theorem takes_facts (l : List Rw) : nd (takesOf l) = nd l ∧ ∀ row, outR (takesOf l) row = [] := by
  induction l with
  | nil => exact ⟨rfl, fun _ => rfl⟩
  | cons x r ih =>
    cases x with
    | mv k n => exact ⟨by simp [takesOf, nd, ih.1], fun row => by simp [takesOf, outR, ih.2]⟩
    | put xs => exact ⟨by simp [takesOf, nd, ih.1], fun row => by simp [takesOf, ih.2]⟩
theorem then_facts : ∀ (b l : List Rw) (row : List Int), nd l ≤ row.length → nd b ≤ (doneR l row).length → doneR (thenF b l) row = doneR b (doneR l row) ∧ nd (thenF b l) ≤ row.length
  | [], l, row, hl, _ => ⟨rfl, hl⟩
  | .put xs :: b, l, row, hl, hb => by
    obtain ⟨e1, e2⟩ := then_facts b l row hl (by simpa [nd] using hb)
    exact ⟨by simp [thenF, doneR, e1], by simpa [thenF, nd] using e2⟩
  | .mv true n :: b, l, row, hl, hb => by
    simp only [nd] at hb
    obtain ⟨a, c, d⟩ := come_facts l n row hl (by omega)
    obtain ⟨e1, e2⟩ := then_facts b (comeTo l n).2 (row.drop (nd (comeTo l n).1)) (by simp; omega) (by rw [c]; simp; omega)
    refine ⟨?_, ?_⟩
    · simp only [thenF, doneR]
      rw [doneR_app, a, e1, c]
    · simp only [thenF, nd_app]
      simp at e2
      omega
  | .mv false n :: b, l, row, hl, hb => by
    simp only [nd] at hb
    obtain ⟨a, c, d⟩ := come_facts l n row hl (by omega)
    obtain ⟨e1, e2⟩ := then_facts b (comeTo l n).2 (row.drop (nd (comeTo l n).1)) (by simp; omega) (by rw [c]; simp; omega)
    obtain ⟨t1, t2⟩ := takes_facts (comeTo l n).1
    refine ⟨?_, ?_⟩
    · simp only [thenF, doneR]
      rw [doneR_app, t1, t2, e1, c]
      rfl
    · simp only [thenF, nd_app, t1]
      simp at e2
      omega
def thenG (a b : Gs) : Gs := inG (thenF (rowsOf b) (rowsOf a))
theorem thenG_done {a b : Gs} {row : List Int} (ha : need a ≤ row.length) (hb : need b ≤ (doneG a row).length) : doneG (thenG a b) row = doneG b (doneG a row) ∧ need (thenG a b) ≤ row.length := by
  obtain ⟨e1, e2⟩ := then_facts (rowsOf b) (rowsOf a) row (by rw [nd_rowsOf]; exact ha) (by rw [doneR_rowsOf, nd_rowsOf]; exact hb)
  unfold thenG
  refine ⟨?_, Nat.le_trans (inG_need _) e2⟩
  rw [inG_done _ _ e2, e1, doneR_rowsOf, doneR_rowsOf]

/-! ### undone -/
theorem undo_facts : ∀ (gs : Gs) (row : List Int), need gs ≤ row.length → nd (undoR gs row) ≤ (doneG gs row).length ∧ doneR (undoR gs row) (doneG gs row) = row
  | [], row, _ => ⟨by simp [undoR, nd], rfl⟩
  | g :: r, row, h => by
    simp only [need] at h
    obtain ⟨a, b⟩ := undo_facts r (row.drop (g.many + g.fewer)) (by simp; omega)
    have ln : (row.take g.many).length = g.many := by simp; omega
    refine ⟨?_, ?_⟩
    · simp only [undoR, nd, doneG, List.length_append, ln]
      omega
    · simp only [undoR, doneG, doneR, List.append_assoc]
      rw [tkA ln (Nat.le_refl _), dpA ln (Nat.le_refl _), Nat.sub_self, List.take_zero, List.drop_zero, List.append_nil, dpA rfl (Nat.le_refl _), Nat.sub_self, List.drop_zero, b]
      rw [← List.drop_drop, List.take_append_drop, List.take_append_drop]
def undoG (gs : Gs) (row : List Int) : Gs := inG (undoR gs row)
theorem undoG_done {gs : Gs} {row : List Int} (h : need gs ≤ row.length) : doneG (undoG gs row) (doneG gs row) = row ∧ need (undoG gs row) ≤ (doneG gs row).length := by
  obtain ⟨a, b⟩ := undo_facts gs row h
  unfold undoG
  exact ⟨by rw [inG_done _ _ a, b], Nat.le_trans (inG_need _) a⟩
end K94
set_option maxHeartbeats 4000000
/-! K94Meet: the meeting as plain data; its invariant. No program in sight. -/
namespace K94

structure Sd where
  row : List Int
  own : List Gs
  frm : List (Gs × Nat)
  to : List (Option Gs)
  came : Nat
  sent : Nat
  uns : List (Nat × Gs)
structure Mt where
  row : List Int
  sides : List Sd
  story : List (Nat × Gs)

def crossV : List (Nat × Gs) → Gs → List (Nat × Gs) × Gs
  | [], c => ([], c)
  | (n, u) :: r, c => ((n, pastG true u c) :: (crossV r (pastG false c u)).1, (crossV r (pastG false c u)).2)
def knownTo (k : Nat) (U : List (Nat × Gs)) : List (Nat × Gs) := U.filter fun p => decide (k ≤ p.1)
def crossO : List Gs → Gs → List Gs × Gs
  | [], c => ([], c)
  | m :: r, c => (pastG false m c :: (crossO r (pastG true c m)).1, (crossO r (pastG true c m)).2)
def Sd.new (row : List Int) : Sd := ⟨row, [], [], [], 0, 0, []⟩
def Sd.did (s : Sd) (c : Gs) : Sd := { s with row := doneG c s.row, own := s.own ++ [c], frm := s.frm ++ [(c, s.came)] }
/-- what comes in at the middle, and the side behind it -/
def Sd.takenIn (s : Sd) : Gs × Sd := match s.frm with
  | [] => ([], s)
  | (c, k) :: F => ((crossV (knownTo k s.uns) c).2, { s with frm := F, uns := (crossV (knownTo k s.uns) c).1 })
def Sd.send (s : Sd) (o : Option Gs) : Sd := { s with uns := (match o with | some c => s.uns ++ [(s.sent, c)] | none => s.uns), sent := s.sent + 1, to := s.to ++ [o] }
def Sd.takeIn (s : Sd) : Sd := match s.to with
  | [] => s
  | none :: T => { s with to := T, came := s.came + 1, own := s.own.tail }
  | some c :: T => { s with to := T, came := s.came + 1, own := (crossO s.own c).1, row := doneG (crossO s.own c).2 s.row }
def Mt.new (row : List Int) (n : Nat) : Mt := ⟨row, List.replicate n (Sd.new row), []⟩
def Mt.did (m : Mt) (h : Nat) (c : Gs) : Mt := { m with sides := m.sides.modify h fun s => s.did c }
def Mt.up (m : Mt) (h : Nat) : Mt := match m.sides[h]? with
  | none => m
  | some s => ⟨doneG s.takenIn.1 m.row, (m.sides.set h s.takenIn.2).mapIdx fun i t => t.send (if i = h then none else some s.takenIn.1), m.story ++ [(h, s.takenIn.1)]⟩
def Mt.down (m : Mt) (h : Nat) : Mt := { m with sides := m.sides.modify h Sd.takeIn }

/-! ### lengths along a row of changes -/
def nx (n : Nat) (c : Gs) : Nat := n + pt c - tkG c
def VP : Nat → List Gs → Nat → Prop
  | n, [], m => n = m
  | n, c :: cs, m => need c ≤ n ∧ VP (nx n c) cs m
theorem vp_app : ∀ {n : Nat} {a b : List Gs} {m : Nat}, VP n (a ++ b) m ↔ ∃ k, VP n a k ∧ VP k b m
  | n, [], b, m => ⟨fun h => ⟨n, rfl, h⟩, fun ⟨k, h1, h2⟩ => by
    have e : n = k := h1
    subst e
    exact h2⟩
  | n, c :: a, b, m => ⟨fun h => by
    obtain ⟨k, h1, h2⟩ := vp_app.mp h.2
    exact ⟨k, ⟨h.1, h1⟩, h2⟩, fun ⟨k, h1, h2⟩ => ⟨h1.1, vp_app.mpr ⟨k, h1.2, h2⟩⟩⟩
theorem vp_fun : ∀ {n : Nat} {a : List Gs} {k m : Nat}, VP n a k → VP n a m → k = m
  | n, [], k, m, h1, h2 => by
    have e1 : n = k := h1
    have e2 : n = m := h2
    omega
  | n, c :: a, k, m, h1, h2 => vp_fun h1.2 h2.2

/-- what every change of the meeting is: in one form, it puts ten signs of the table at most -/
structure GC (P : Int → Prop) (c : Gs) : Prop where
  can : Canon c
  few : pt c ≤ 10
  tks : tkG c ≤ 1000
  sgn : ∀ x ∈ puts (rowsOf c), P x
section
variable {P : Int → Prop}
theorem GC.past {a b : Gs} {x : Bool} (ha : GC P a) (hb : GC P b) : GC P (pastG x a b) :=
  ⟨pastG_canon _ _ _, by rw [pastG_pt ha.can hb.can]; exact ha.few, Nat.le_trans (pastG_tk_le ha.can hb.can) ha.tks, by rw [pastG_puts ha.can hb.can]; exact ha.sgn⟩
/-- the diamond's lengths -/
theorem nx_past {a b : Gs} {x y : Bool} {n : Nat} (ha : GC P a) (hb : GC P b) (h1 : need a ≤ n) (h2 : need b ≤ n) :
    need (pastG x a b) ≤ nx n b ∧ nx (nx n b) (pastG x a b) = nx (nx n a) (pastG y b a) := by
  have e1 := pastG_need (x := x) ha.can hb.can h1 h2
  have e2 := pastG_need (x := y) hb.can ha.can h2 h1
  have t1 := pastG_tk (x := x) (y := y) ha.can hb.can
  have p1 := pastG_pt (ahead := x) ha.can hb.can
  have p2 := pastG_pt (ahead := y) hb.can ha.can
  have k1 := tk_need a
  have k2 := tk_need b
  have k3 := tk_need (pastG x a b)
  have k4 := tk_need (pastG y b a)
  unfold nx
  refine ⟨by omega, ?_⟩
  rw [p1, p2]
  omega
theorem GC.len {c : Gs} (h : GC P c) : c.length ≤ 1010 := by
  have := canon_len h.can
  have := h.few
  have := h.tks
  omega
def GCs (P : Int → Prop) (l : List Gs) : Prop := ∀ c ∈ l, GC P c
theorem crossV_facts : ∀ {W : List (Nat × Gs)} {c : Gs} {n m : Nat}, GCs P (W.map (·.2)) → GC P c → VP n (W.map (·.2)) m → need c ≤ n →
    VP (nx n c) ((crossV W c).1.map (·.2)) (nx m (crossV W c).2) ∧ need (crossV W c).2 ≤ m
  | [], c, n, m, _, _, h, hc => by
    have e : n = m := h
    subst e
    exact ⟨rfl, hc⟩
  | (t, u) :: r, c, n, m, hW, gc, h, hc => by
    have gu : GC P u := hW u (by simp)
    have hr : GCs P (r.map (·.2)) := fun x hx => hW x (by simp at hx ⊢; exact Or.inr hx)
    obtain ⟨h1, h2⟩ := h
    obtain ⟨a1, a2⟩ := nx_past (x := false) (y := true) gc gu hc h1
    obtain ⟨b1, b2⟩ := nx_past (x := true) (y := false) gu gc h1 hc
    obtain ⟨i1, i2⟩ := crossV_facts hr (gc.past (x := false) gu) h2 a1
    refine ⟨⟨b1, ?_⟩, i2⟩
    rw [b2]
    exact i1
theorem crossV_gc : ∀ {W : List (Nat × Gs)} {c : Gs}, GCs P (W.map (·.2)) → GC P c → GCs P ((crossV W c).1.map (·.2)) ∧ GC P (crossV W c).2
  | [], c, _, gc => ⟨(fun x hx => by cases hx), gc⟩
  | (t, u) :: r, c, hW, gc => by
    have gu : GC P u := hW u (by simp)
    have hr : GCs P (r.map (·.2)) := fun x hx => hW x (by simp at hx ⊢; exact Or.inr hx)
    obtain ⟨i1, i2⟩ := crossV_gc hr (gc.past (x := false) gu)
    refine ⟨fun x hx => ?_, i2⟩
    simp only [crossV, List.map_cons, List.mem_cons] at hx
    rcases hx with rfl | hx
    · exact gu.past gc
    · exact i1 x hx
theorem crossO_facts : ∀ {O : List Gs} {c : Gs} {n m : Nat}, GCs P O → GC P c → VP n O m → need c ≤ n → VP (nx n c) (crossO O c).1 (nx m (crossO O c).2) ∧ need (crossO O c).2 ≤ m
  | [], c, n, m, _, _, h, hc => by
    have e : n = m := h
    subst e
    exact ⟨rfl, hc⟩
  | u :: r, c, n, m, hW, gc, h, hc => by
    have gu : GC P u := hW u (by simp)
    have hr : GCs P r := fun x hx => hW x (by simp [hx])
    obtain ⟨h1, h2⟩ := h
    obtain ⟨a1, a2⟩ := nx_past (x := true) (y := false) gc gu hc h1
    obtain ⟨b1, b2⟩ := nx_past (x := false) (y := true) gu gc h1 hc
    obtain ⟨i1, i2⟩ := crossO_facts hr (gc.past (x := true) gu) h2 a1
    refine ⟨⟨b1, ?_⟩, i2⟩
    rw [b2]
    exact i1
theorem crossO_gc : ∀ {O : List Gs} {c : Gs}, GCs P O → GC P c → GCs P (crossO O c).1 ∧ GC P (crossO O c).2
  | [], c, _, gc => ⟨(fun x hx => by cases hx), gc⟩
  | u :: r, c, hW, gc => by
    have gu : GC P u := hW u (by simp)
    have hr : GCs P r := fun x hx => hW x (by simp [hx])
    obtain ⟨i1, i2⟩ := crossO_gc hr (gc.past (x := true) gu)
    refine ⟨fun x hx => ?_, i2⟩
    simp only [crossO, List.mem_cons] at hx
    rcases hx with rfl | hx
    · exact gu.past gc
    · exact i1 x hx
theorem crossV_len (W : List (Nat × Gs)) (c : Gs) : (crossV W c).1.length = W.length := by
  induction W generalizing c with
  | nil => rfl
  | cons p r ih => obtain ⟨t, u⟩ := p; simp [crossV, ih]
theorem crossV_tags (W : List (Nat × Gs)) (c : Gs) : (crossV W c).1.map (·.1) = W.map (·.1) := by
  induction W generalizing c with
  | nil => rfl
  | cons p r ih => obtain ⟨t, u⟩ := p; simp [crossV, ih]
theorem crossO_len (O : List Gs) (c : Gs) : (crossO O c).1.length = O.length := by
  induction O generalizing c with
  | nil => rfl
  | cons u r ih => simp [crossO, ih]
theorem crossO_app : ∀ (O Q : List Gs) (s : Gs), crossO (O ++ Q) s = ((crossO O s).1 ++ (crossO Q (crossO O s).2).1, (crossO Q (crossO O s).2).2)
  | [], Q, s => rfl
  | u :: r, Q, s => by simp [crossO, crossO_app r Q]
theorem crossV_app : ∀ (U W : List (Nat × Gs)) (c : Gs), crossV (U ++ W) c = ((crossV U c).1 ++ (crossV W (crossV U c).2).1, (crossV W (crossV U c).2).2)
  | [], W, c => rfl
  | (t, u) :: r, W, c => by simp [crossV, crossV_app r W]

/-! ### what is still to come at a hand, and at the middle -/
def cl : List Gs → List (Option Gs) → Nat → List (Nat × Gs) × List Gs
  | O, [], _ => ([], O)
  | O, none :: T, k => cl O.tail T (k + 1)
  | O, some s :: T, k => ((k, (crossO O s).2) :: (cl (crossO O s).1 T (k + 1)).1, (cl (crossO O s).1 T (k + 1)).2)
def sv : List (Nat × Gs) → List (Gs × Nat) → List Gs × List (Nat × Gs)
  | U, [] => ([], U)
  | U, (f, k) :: F => ((crossV (knownTo k U) f).2 :: (sv (crossV (knownTo k U) f).1 F).1, (sv (crossV (knownTo k U) f).1 F).2)
def nones : List (Option Gs) → Nat
  | [] => 0
  | none :: T => nones T + 1
  | some _ :: T => nones T
theorem cl_did : ∀ (T : List (Option Gs)) (O : List Gs) (c : Gs) (k : Nat), nones T ≤ O.length →
    cl (O ++ [c]) T k = ((crossV (cl O T k).1 c).1, (cl O T k).2 ++ [(crossV (cl O T k).1 c).2])
  | [], O, c, k, _ => rfl
  | none :: T, O, c, k, h => by
    cases O with
    | nil => simp [nones] at h
    | cons o O =>
      simp only [nones, List.length_cons] at h
      have := cl_did T O c (k + 1) (by omega)
      simpa [cl] using this
  | some s :: T, O, c, k, h => by
    simp only [nones] at h
    have := cl_did T (crossO O s).1 (pastG false c (crossO O s).2) (k + 1) (by rw [crossO_len]; exact h)
    simp only [cl, crossO_app, crossO, crossV, this]
theorem sv_app : ∀ (F : List (Gs × Nat)) (U : List (Nat × Gs)) (c : Gs) (k : Nat), sv U (F ++ [(c, k)]) =
    ((sv U F).1 ++ [(crossV (knownTo k (sv U F).2) c).2], (crossV (knownTo k (sv U F).2) c).1)
  | [], U, c, k => rfl
  | (f, j) :: F, U, c, k => by simp [sv, sv_app F]
theorem cl_none : ∀ (T : List (Option Gs)) (O : List Gs) (k : Nat), cl O (T ++ [none]) k = ((cl O T k).1, (cl O T k).2.tail)
  | [], O, k => rfl
  | none :: T, O, k => by simp [cl, cl_none T]
  | some s :: T, O, k => by simp [cl, cl_none T]
theorem cl_some : ∀ (T : List (Option Gs)) (O : List Gs) (s : Gs) (k : Nat), cl O (T ++ [some s]) k =
    ((cl O T k).1 ++ [(k + T.length, (crossO (cl O T k).2 s).2)], (crossO (cl O T k).2 s).1)
  | [], O, s, k => rfl
  | none :: T, O, s, k => by
    have := cl_some T O.tail s (k + 1)
    simp only [List.cons_append, cl, this, List.length_cons]
    rw [show k + 1 + T.length = k + (T.length + 1) by omega]
  | some u :: T, O, s, k => by
    have := cl_some T (crossO O u).1 s (k + 1)
    simp only [List.cons_append, cl, this, List.length_cons]
    rw [show k + 1 + T.length = k + (T.length + 1) by omega]
theorem knownTo_app (k : Nat) (U W : List (Nat × Gs)) : knownTo k (U ++ W) = knownTo k U ++ knownTo k W := by simp [knownTo]
theorem knownTo_one {k t : Nat} {s : Gs} (h : k ≤ t) : knownTo k [(t, s)] = [(t, s)] := by simp [knownTo, h]
theorem sv_send : ∀ (F : List (Gs × Nat)) (U : List (Nat × Gs)) (t : Nat) (s : Gs), (∀ p ∈ F, p.2 ≤ t) →
    sv (U ++ [(t, s)]) F = ((crossO (sv U F).1 s).1, (sv U F).2 ++ [(t, (crossO (sv U F).1 s).2)])
  | [], U, t, s, _ => rfl
  | (f, k) :: F, U, t, s, h => by
    have := sv_send F (crossV (knownTo k U) f).1 t (pastG true s (crossV (knownTo k U) f).2) fun p hp => h p (by simp [hp])
    have hk : k ≤ t := h (f, k) (by simp)
    simp only [sv, knownTo_app, knownTo_one hk, crossV_app, crossV, this, crossO]
theorem cl_tags : ∀ (T : List (Option Gs)) (O : List Gs) (k : Nat), ∀ p ∈ (cl O T k).1, k ≤ p.1
  | [], O, k, p, h => by cases h
  | none :: T, O, k, p, h => by
    have := cl_tags T O.tail (k + 1) p h
    omega
  | some s :: T, O, k, p, h => by
    simp only [cl, List.mem_cons] at h
    rcases h with rfl | h
    · exact Nat.le_refl _
    · have := cl_tags T _ (k + 1) p h
      omega
theorem cl_len : ∀ (T : List (Option Gs)) (O : List Gs) (k : Nat), (cl O T k).2.length = O.length - nones T
  | [], O, k => by simp [cl, nones]
  | none :: T, O, k => by
    have := cl_len T O.tail (k + 1)
    simp only [cl, nones, this, List.length_tail]
    omega
  | some s :: T, O, k => by
    have := cl_len T (crossO O s).1 (k + 1)
    simp only [cl, nones, this, crossO_len]
theorem sv_len : ∀ (F : List (Gs × Nat)) (U : List (Nat × Gs)), (sv U F).1.length = F.length
  | [], U => rfl
  | (f, k) :: F, U => by simp [sv, sv_len F]
theorem nones_app (T Q : List (Option Gs)) : nones (T ++ Q) = nones T + nones Q := by
  induction T with
  | nil => simp [nones]
  | cons x r ih => cases x <;> simp [nones, ih] <;> omega
theorem knownTo_gc {k : Nat} {U : List (Nat × Gs)} (h : GCs P (U.map (·.2))) : GCs P ((knownTo k U).map (·.2)) := fun x hx => by
  obtain ⟨p, hp, rfl⟩ := List.mem_map.mp hx
  exact h _ (List.mem_map_of_mem (List.mem_filter.mp hp).1)
theorem cl_gc : ∀ (T : List (Option Gs)) (O : List Gs) (k : Nat), GCs P O → (∀ c, some c ∈ T → GC P c) → GCs P ((cl O T k).1.map (·.2)) ∧ GCs P (cl O T k).2
  | [], O, k, h, _ => ⟨(fun x hx => by cases hx), h⟩
  | none :: T, O, k, h, ht => cl_gc T O.tail (k + 1) (fun x hx => h x (List.mem_of_mem_tail hx)) fun c hc => ht c (by simp [hc])
  | some s :: T, O, k, h, ht => by
    have gs := ht s (by simp)
    obtain ⟨a, b⟩ := crossO_gc h gs
    obtain ⟨i1, i2⟩ := cl_gc T (crossO O s).1 (k + 1) a fun c hc => ht c (by simp [hc])
    refine ⟨fun x hx => ?_, i2⟩
    simp only [cl, List.map_cons, List.mem_cons] at hx
    rcases hx with rfl | hx
    · exact b
    · exact i1 x hx
end

/-- a side and the middle's length -/
structure SOk (P : Int → Prop) (M : Nat) (s : Sd) : Prop where
  own : GCs P s.own
  frm : ∀ p ∈ s.frm, GC P p.1
  to : ∀ c, some c ∈ s.to → GC P c
  uns : GCs P (s.uns.map (·.2))
  row : ∀ x ∈ s.row, P x
  agree : (cl s.own s.to s.came).2 = (sv s.uns s.frm).1
  tail : knownTo s.came (sv s.uns s.frm).2 = (cl s.own s.to s.came).1
  sent : s.sent = s.came + s.to.length
  tags : ∀ p ∈ s.uns, p.1 < s.sent
  knw : ∀ p ∈ s.frm, p.2 ≤ s.came
  cnt : s.own.length = nones s.to + s.frm.length
  vp : ∃ L, VP s.row.length ((cl s.own s.to s.came).1.map (·.2)) L ∧ VP M (cl s.own s.to s.came).2 L
section
variable {P : Int → Prop} {M : Nat} {s : Sd}
theorem nx_len {c : Gs} {row : List Int} (h : need c ≤ row.length) : (doneG c row).length = nx row.length c := by
  have := len_done h
  have := tk_need c
  unfold nx
  omega
theorem SOk.did (h : SOk P M s) {c : Gs} (gc : GC P c) (hn : need c ≤ s.row.length) : SOk P M (s.did c) := by
  have hno : nones s.to ≤ s.own.length := by have := h.cnt; omega
  obtain ⟨L, v1, v2⟩ := h.vp
  have g1 := (cl_gc s.to s.own s.came h.own h.to).1
  obtain ⟨f1, f2⟩ := crossV_facts g1 gc v1 hn
  have e1 := cl_did s.to s.own c s.came hno
  have e2 := sv_app s.frm s.uns c s.came
  rw [h.tail] at e2
  refine ⟨?_, ?_, h.to, h.uns, mem_done P gc.sgn h.row, ?_, ?_, h.sent, h.tags, ?_, ?_, ?_⟩
  · intro x hx
    simp only [Sd.did, List.mem_append, List.mem_singleton] at hx
    rcases hx with hx | rfl
    · exact h.own x hx
    · exact gc
  · intro p hp
    simp only [Sd.did, List.mem_append, List.mem_singleton] at hp
    rcases hp with hp | rfl
    · exact h.frm p hp
    · exact gc
  · show (cl (s.own ++ [c]) s.to s.came).2 = (sv s.uns (s.frm ++ [(c, s.came)])).1
    rw [e1, e2, h.agree]
  · show knownTo s.came (sv s.uns (s.frm ++ [(c, s.came)])).2 = (cl (s.own ++ [c]) s.to s.came).1
    rw [e1, e2]
    unfold knownTo
    rw [List.filter_eq_self]
    intro p hp
    have ht := crossV_tags (cl s.own s.to s.came).1 c
    have hm : p.1 ∈ (cl s.own s.to s.came).1.map (·.1) := by rw [← ht]; exact List.mem_map_of_mem hp
    obtain ⟨q, hq, e⟩ := List.mem_map.mp hm
    have := cl_tags s.to s.own s.came q hq
    rw [e] at this
    exact decide_eq_true this
  · intro p hp
    simp only [Sd.did, List.mem_append, List.mem_singleton] at hp
    rcases hp with hp | rfl
    · exact h.knw p hp
    · exact Nat.le_refl _
  · have := h.cnt
    simp only [Sd.did, List.length_append, List.length_singleton]
    omega
  · show ∃ L, VP (doneG c s.row).length ((cl (s.own ++ [c]) s.to s.came).1.map (·.2)) L ∧ VP M (cl (s.own ++ [c]) s.to s.came).2 L
    rw [e1, nx_len hn]
    exact ⟨_, f1, vp_app.mpr ⟨L, v2, f2, rfl⟩⟩

/-- a letter comes in: its change can be done in the middle -/
theorem SOk.first (h : SOk P M s) (hf : s.frm ≠ []) : GC P s.takenIn.1 ∧ need s.takenIn.1 ≤ M ∧ ∃ c k F, s.frm = (c, k) :: F := by
  obtain ⟨L, v1, v2⟩ := h.vp
  rw [h.agree] at v2
  cases e : s.frm with
  | nil => exact absurd e hf
  | cons p F =>
    obtain ⟨c, k⟩ := p
    have et : s.takenIn = ((crossV (knownTo k s.uns) c).2, { s with frm := F, uns := (crossV (knownTo k s.uns) c).1 }) := by
      unfold Sd.takenIn
      rw [e]
    rw [e] at v2
    rw [et]
    exact ⟨(crossV_gc (knownTo_gc h.uns) (h.frm (c, k) (by rw [e]; simp))).2, v2.1, c, k, F, rfl⟩
theorem SOk.taken (h : SOk P M s) (hf : s.frm ≠ []) : SOk P (nx M s.takenIn.1) (s.takenIn.2.send none) := by
  obtain ⟨g, hn, c, k, F, e⟩ := h.first hf
  have et : s.takenIn = ((crossV (knownTo k s.uns) c).2, { s with frm := F, uns := (crossV (knownTo k s.uns) c).1 }) := by
    unfold Sd.takenIn
    rw [e]
  have gcc := h.frm (c, k) (by rw [e]; simp)
  obtain ⟨a1, a2⟩ := crossV_gc (knownTo_gc (k := k) h.uns) gcc
  have ag := h.agree
  have tl := h.tail
  rw [e] at ag tl
  have e1 := cl_none s.to s.own s.came
  rw [et]
  refine ⟨h.own, fun p hp => h.frm p (by rw [e]; exact List.mem_cons_of_mem _ hp), ?_, ?_, h.row, ?_, ?_, ?_, ?_, fun p hp => h.knw p (by rw [e]; exact List.mem_cons_of_mem _ hp), ?_, ?_⟩
  · intro x hx
    simp only [Sd.send, List.mem_append, List.mem_singleton] at hx
    rcases hx with hx | hx
    · exact h.to x hx
    · cases hx
  · exact a1
  · show (cl s.own (s.to ++ [none]) s.came).2 = (sv (crossV (knownTo k s.uns) c).1 F).1
    rw [e1, ag]
    rfl
  · show knownTo s.came (sv (crossV (knownTo k s.uns) c).1 F).2 = (cl s.own (s.to ++ [none]) s.came).1
    rw [e1]
    exact tl
  · have := h.sent
    simp only [Sd.send, List.length_append, List.length_singleton]
    omega
  · intro p hp
    have ht := crossV_tags (knownTo k s.uns) c
    have hm : p.1 ∈ (knownTo k s.uns).map (·.1) := by rw [← ht]; exact List.mem_map_of_mem hp
    obtain ⟨q, hq, e⟩ := List.mem_map.mp hm
    have := h.tags q (List.mem_filter.mp hq).1
    show p.1 < s.sent + 1
    omega
  · have := h.cnt
    rw [e] at this
    simp only [Sd.send, nones_app, nones, List.length_cons] at this ⊢
    omega
  · show ∃ L, VP s.row.length ((cl s.own (s.to ++ [none]) s.came).1.map (·.2)) L ∧ VP _ (cl s.own (s.to ++ [none]) s.came).2 L
    obtain ⟨L, v1, v2⟩ := h.vp
    rw [e1]
    refine ⟨L, v1, ?_⟩
    rw [ag] at v2 ⊢
    exact v2.2
theorem SOk.told (h : SOk P M s) {c : Gs} (gc : GC P c) (hn : need c ≤ M) : SOk P (nx M c) (s.send (some c)) := by
  have e1 := cl_some s.to s.own c s.came
  have e2 := sv_send s.frm s.uns s.sent c fun p hp => by have := h.knw p hp; have := h.sent; omega
  obtain ⟨L, v1, v2⟩ := h.vp
  have g2 := (cl_gc s.to s.own s.came h.own h.to).2
  obtain ⟨f1, f2⟩ := crossO_facts g2 gc v2 hn
  refine ⟨h.own, h.frm, ?_, ?_, h.row, ?_, ?_, ?_, ?_, h.knw, ?_, ?_⟩
  · intro x hx
    simp only [Sd.send, List.mem_append, List.mem_singleton] at hx
    rcases hx with hx | hx
    · exact h.to x hx
    · injection hx with hx
      rw [hx]
      exact gc
  · intro x hx
    simp only [Sd.send, List.map_append, List.mem_append, List.map_cons, List.map_nil, List.mem_singleton] at hx
    rcases hx with hx | rfl
    · exact h.uns x hx
    · exact gc
  · show (cl s.own (s.to ++ [some c]) s.came).2 = (sv (s.uns ++ [(s.sent, c)]) s.frm).1
    rw [e1, e2, h.agree]
  · show knownTo s.came (sv (s.uns ++ [(s.sent, c)]) s.frm).2 = (cl s.own (s.to ++ [some c]) s.came).1
    have hs := h.sent
    rw [e1, e2, knownTo_app, knownTo_one (by omega), h.tail, h.agree, hs]
  · have := h.sent
    simp only [Sd.send, List.length_append, List.length_singleton]
    omega
  · intro p hp
    simp only [Sd.send, List.mem_append, List.mem_singleton] at hp
    show p.1 < s.sent + 1
    rcases hp with hp | rfl
    · have := h.tags p hp
      omega
    · exact Nat.lt_succ_self _
  · have := h.cnt
    simp only [Sd.send, nones_app, nones] at this ⊢
    omega
  · show ∃ L, VP s.row.length ((cl s.own (s.to ++ [some c]) s.came).1.map (·.2)) L ∧ VP _ (cl s.own (s.to ++ [some c]) s.came).2 L
    rw [e1]
    refine ⟨_, ?_, f1⟩
    rw [List.map_append]
    exact vp_app.mpr ⟨L, v1, f2, rfl⟩
/-- a letter without a change finds one's own; one with a change can be done -/
theorem SOk.own_none (h : SOk P M s) {T : List (Option Gs)} (e : s.to = none :: T) : s.own ≠ [] := by
  have := h.cnt
  rw [e] at this
  simp only [nones] at this
  intro q
  rw [q] at this
  simp at this
  omega
theorem SOk.to_some (h : SOk P M s) {T : List (Option Gs)} {c : Gs} (e : s.to = some c :: T) : GC P c ∧ GC P (crossO s.own c).2 ∧ need (crossO s.own c).2 ≤ s.row.length := by
  have gc := h.to c (by rw [e]; simp)
  obtain ⟨L, v1, v2⟩ := h.vp
  rw [e] at v1
  exact ⟨gc, (crossO_gc h.own gc).2, v1.1⟩
theorem knownTo_more {k : Nat} (U : List (Nat × Gs)) : knownTo (k + 1) U = knownTo (k + 1) (knownTo k U) := by
  unfold knownTo
  rw [List.filter_filter]
  congr 1
  funext p
  by_cases h : k + 1 ≤ p.1
  · have : k ≤ p.1 := by omega
    simp [h, this]
  · simp [h]
theorem knownTo_all {k : Nat} {U : List (Nat × Gs)} (h : ∀ p ∈ U, k ≤ p.1) : knownTo k U = U := by
  unfold knownTo
  rw [List.filter_eq_self]
  intro p hp
  exact decide_eq_true (h p hp)
theorem SOk.down (h : SOk P M s) : SOk P M s.takeIn := by
  unfold Sd.takeIn
  cases e : s.to with
  | nil => exact h
  | cons x T =>
    have ag := h.agree
    have tl := h.tail
    obtain ⟨L, v1, v2⟩ := h.vp
    rw [e] at ag tl v1 v2
    have se := h.sent
    rw [e, List.length_cons] at se
    have ct := h.cnt
    rw [e] at ct
    cases x with
    | none =>
      refine ⟨fun x hx => h.own x (List.mem_of_mem_tail hx), h.frm, fun c hc => h.to c (by rw [e]; simp [hc]), h.uns, h.row, ag, ?_, ?_, h.tags, fun p hp => Nat.le_succ_of_le (h.knw p hp), ?_, ⟨L, v1, v2⟩⟩
      · show knownTo (s.came + 1) (sv s.uns s.frm).2 = (cl s.own.tail T (s.came + 1)).1
        rw [knownTo_more, tl]
        exact knownTo_all (cl_tags T _ _)
      · show s.sent = s.came + 1 + T.length
        omega
      · simp only [nones] at ct
        show s.own.tail.length = nones T + s.frm.length
        rw [List.length_tail]
        omega
    | some c =>
      have gc := h.to c (by rw [e]; simp)
      obtain ⟨g1, g2⟩ := crossO_gc h.own gc
      refine ⟨g1, h.frm, fun c hc => h.to c (by rw [e]; simp [hc]), h.uns, mem_done P g2.sgn h.row, ag, ?_, ?_, h.tags, fun p hp => Nat.le_succ_of_le (h.knw p hp), ?_, ⟨L, ?_, v2⟩⟩
      · show knownTo (s.came + 1) (sv s.uns s.frm).2 = (cl (crossO s.own c).1 T (s.came + 1)).1
        rw [knownTo_more, tl]
        simp only [cl]
        have q : knownTo (s.came + 1) [(s.came, (crossO s.own c).2)] = [] := by simp [knownTo]
        rw [show (s.came, (crossO s.own c).2) :: (cl (crossO s.own c).1 T (s.came + 1)).1 = [(s.came, (crossO s.own c).2)] ++ (cl (crossO s.own c).1 T (s.came + 1)).1 from rfl, knownTo_app, q, List.nil_append]
        exact knownTo_all (cl_tags T _ _)
      · show s.sent = s.came + 1 + T.length
        omega
      · simp only [nones] at ct
        show (crossO s.own c).1.length = nones T + s.frm.length
        rw [crossO_len]
        exact ct
      · show VP (doneG (crossO s.own c).2 s.row).length _ L
        rw [nx_len v1.1]
        exact v1.2
end
end K94
set_option maxRecDepth 100000
set_option maxHeartbeats 4000000
/-! K94Base: heaps, how a change lies in the heap, defs by their promises. -/
namespace K94
open PySem PySem.Spec PyProof.Rows L2

/-! ### heaps -/
/-- the heap without these -/
def hid (ms : List Addr) (H : Hp) : Hp := fun b => if b ∈ ms then none else H b
/-- what is new -/
def newIn (H H' : Hp) : Hp := fun b => if (H b).isSome then none else H' b
section
variable {H H' H1 H2 J : Hp} {ms ns : List Addr} {a b p : Addr} {o u : HO}
theorem hid_get (h : H b = some o) (n : b ∉ ms) : hid ms H b = some o := by unfold hid; rw [if_neg n]; exact h
theorem of_hid (h : hid ms H b = some o) : H b = some o ∧ b ∉ ms := by
  unfold hid at h
  split at h
  · cases h
  · rename_i n
    exact ⟨h, n⟩
theorem hid_same : Same (hid ms H) H := fun b o h => (of_hid h).1
theorem hid_nil : hid [] H = H := by
  funext b
  unfold hid
  rw [if_neg (by simp)]
theorem hid_upd (h : a ∈ ms) : hid ms (upd H a o) = hid ms H := by
  funext b
  unfold hid
  split
  · rfl
  · rename_i n
    rw [upd_ne (fun e => n (by rw [e]; exact h))]
/-- a new object that never changes -/
theorem hid_new (h : H p = none) : Same (hid ms H) (hid ms (upd H p o)) := fun b q e => by
  obtain ⟨e1, n⟩ := of_hid e
  exact hid_get (by rw [upd_ne (ne_of_none e1 h)]; exact e1) n
/-- a new object that will change -/
theorem hid_more (h : H p = none) : Same (hid ms H) (hid (p :: ms) (upd H p o)) := fun b q e => by
  obtain ⟨e1, n⟩ := of_hid e
  have hb := ne_of_none e1 h
  exact hid_get (by rw [upd_ne hb]; exact e1) (by simp [hb, n])
theorem hid_sub (h : ∀ a ∈ ms, a ∈ ns) : Same (hid ns H) (hid ms H) := fun b q e => by
  obtain ⟨e1, n⟩ := of_hid e
  exact hid_get e1 fun z => n (h b z)
theorem hid_step (h : ∀ b o, b ∉ ms → H b = some o → H' b = some o) : Same (hid ms H) (hid ms H') := fun b q e => by
  obtain ⟨e1, n⟩ := of_hid e
  exact hid_get (h b q n e1) n
theorem hid_of_same (h : Same H H') : Same (hid ms H) (hid ms H') := hid_step fun b o _ e => h b o e
theorem same_new (h : H p = none) : Same H (upd H p o) := fun b q e => by rw [upd_ne (ne_of_none e h)]; exact e
/-- what was, with new ones hidden, is there -/
theorem same_hid (h : Same H H') (n : ∀ a ∈ ms, H a = none) : Same H (hid ms H') := fun b q e => hid_get (h b q e) fun z => by
  rw [n b z] at e
  cases e
theorem newIn_same : Same (newIn H H') H' := fun b o h => by
  unfold newIn at h
  split at h
  · cases h
  · exact h
theorem newIn_get (h : H b = none) (e : H' b = some o) : newIn H H' b = some o := by unfold newIn; rw [h]; exact e
theorem of_newIn (h : newIn H H' b = some o) : H b = none ∧ H' b = some o := by
  unfold newIn at h
  split at h
  · cases h
  · rename_i n
    refine ⟨?_, h⟩
    cases q : H b with
    | none => rfl
    | some x => rw [q] at n; simp at n
theorem newIn_mono (h : Same H1 H2) : Same (newIn H H1) (newIn H H2) := fun b o e => by
  obtain ⟨e1, e2⟩ := of_newIn e
  exact newIn_get e1 (h b o e2)
theorem newIn_late (h : Same H H1) : Same (newIn H1 H') (newIn H H') := fun b o e => by
  obtain ⟨e1, e2⟩ := of_newIn e
  exact newIn_get (h.free e1) e2
end

/-! ### rows of a change, groups, a change -/
abbrev C_Change (K : PySem.W.Frag) : Addr := He.ga K "Change"
def wd (k : Bool) : Str := if k then "keep" else "take"
def RowAt (H : Hp) : V → Rw → Prop
  | v, .mv k n => ∃ t, v = .ref t ∧ H t = some (.tup [.str (wd k), .int n])
  | v, .put xs => ∃ t q, v = .ref t ∧ H t = some (.tup [.str "put", .ref q]) ∧ H q = some (.lst (xs.map V.int))
def GrAt (H : Hp) (v : V) (g : Gr) : Prop := ∃ l q, v = .ref l ∧ H l = some (.lst [.int g.many, .ref q, .int g.fewer]) ∧ H q = some (.lst (g.signs.map V.int))
abbrev RowsAt (H : Hp) : List V → List Rw → Prop := Paired (RowAt H)
abbrev GrsAt (H : Hp) : List V → Gs → Prop := Paired (GrAt H)
def chF (l : Addr) : List (Str × V) := [("groups", .ref l)]
def ChAt (K : PySem.W.Frag) (H : Hp) (c : Addr) (gs : Gs) : Prop := ∃ dx l items, H c = some (.ins (C_Change K) dx (chF l)) ∧ H l = some (.lst items) ∧ GrsAt H items gs
section
variable {H H' : Hp} {K : PySem.W.Frag}
theorem RowAt.mono (s : Same H H') : ∀ {v : V} {r : Rw}, RowAt H v r → RowAt H' v r
  | _, .mv k n, ⟨t, e, h⟩ => ⟨t, e, s _ _ h⟩
  | _, .put xs, ⟨t, q, e, h, h'⟩ => ⟨t, q, e, s _ _ h, s _ _ h'⟩
theorem GrAt.mono (s : Same H H') {v : V} {g : Gr} : GrAt H v g → GrAt H' v g := fun ⟨l, q, e, h, h'⟩ => ⟨l, q, e, s _ _ h, s _ _ h'⟩
theorem RowsAt.mono (s : Same H H') {vs : List V} {rs : List Rw} (h : RowsAt H vs rs) : RowsAt H' vs rs := Paired.mapP h fun _ _ => RowAt.mono s
theorem GrsAt.mono (s : Same H H') {vs : List V} {gs : Gs} (h : GrsAt H vs gs) : GrsAt H' vs gs := Paired.mapP h fun _ _ => GrAt.mono s
theorem ChAt.mono (s : Same H H') {c : Addr} {gs : Gs} : ChAt K H c gs → ChAt K H' c gs := fun ⟨dx, l, items, h, h', g⟩ => ⟨dx, l, items, s _ _ h, s _ _ h', GrsAt.mono s g⟩
end
theorem paired_app {α β : Type} {F : α → β → Prop} : ∀ {a : List α} {b : List β} {c : List α} {d : List β}, Paired F a b → Paired F c d → Paired F (a ++ c) (b ++ d)
  | _, _, _, _, .nil, h => h
  | _, _, _, _, .cons r t, h => .cons r (paired_app t h)
theorem paired_one {α β : Type} {F : α → β → Prop} {x : α} {y : β} (h : F x y) : Paired F [x] [y] := .cons h .nil
theorem paired_len {α β : Type} {F : α → β → Prop} : ∀ {a : List α} {b : List β}, Paired F a b → a.length = b.length
  | _, _, .nil => rfl
  | _, _, .cons _ t => by rw [List.length_cons, List.length_cons, paired_len t]
theorem paired_get {α β : Type} {F : α → β → Prop} : ∀ {a : List α} {b : List β} {i : Nat} {x : α}, Paired F a b → a[i]? = some x → ∃ y, b[i]? = some y ∧ F x y
  | _, _, _, _, .nil, e => by simp at e
  | _, _, 0, _, .cons r _, e => by
    simp at e
    subst e
    exact ⟨_, rfl, r⟩
  | _, _, i + 1, _, .cons _ t, e => by
    obtain ⟨y, h1, h2⟩ := paired_get (i := i) t (by simpa using e)
    exact ⟨y, by simpa using h1, h2⟩
theorem paired_take {α β : Type} {F : α → β → Prop} : ∀ {a : List α} {b : List β} (n : Nat), Paired F a b → Paired F (a.take n) (b.take n)
  | _, _, 0, _ => .nil
  | _, _, _ + 1, .nil => .nil
  | _, _, n + 1, .cons r t => .cons r (paired_take n t)
theorem take_succ_get {α : Type} {l : List α} {i : Nat} {x : α} (h : l[i]? = some x) : l.take (i + 1) = l.take i ++ [x] := by
  rw [List.take_succ, h]
  rfl
theorem drop_get {α : Type} {l : List α} {i : Nat} {x : α} (h : l[i]? = some x) : l.drop i = x :: l.drop (i + 1) := by
  obtain ⟨hi, e⟩ := List.getElem?_eq_some_iff.mp h
  rw [List.drop_eq_getElem_cons hi, e]
theorem sz5 {n : Nat} (h : n ≤ 100000) : n ≤ sizeLine := Nat.le_trans h (by decide)
theorem sl5 {n : Nat} (h : n < 100000) : n < sizeLine := Nat.lt_of_lt_of_le h (by decide)

/-! ### tests -/
theorem iteD {c A B : Prop} [Decidable c] (h1 : c → A) (h2 : ¬ c → B) : if decide c = true then A else B := by
  by_cases h : c
  · rw [decide_eq_true h]
    exact h1 h
  · rw [decide_eq_false h]
    exact iteF (h2 h)
theorem iteB {b : Bool} {A B : Prop} (h1 : b = true → A) (h2 : b = false → B) : if b = true then A else B := by
  cases b with
  | true => exact h1 rfl
  | false => exact iteF (h2 rfl)
/-- an if whose test is shown apart -/
theorem if_test {tc : TT} {t u : TS} {D : Ends} {σ : L2.St} {H : Hp} (b : Bool) (R : Hp → Prop) (h1 : ∀ Q : Bool → Hp → Prop, (∀ H', R H' → Q b H') → tc σ H Q) (h2 : ∀ H', R H' → if b = true then t D σ H' else u D σ H') : tIfS tc t u D σ H := h1 _ h2
theorem seq_test {tc : TT} {t u v : TS} {D : Ends} {σ : L2.St} {H : Hp} (b : Bool) (R : Hp → Prop) (h1 : ∀ Q : Bool → Hp → Prop, (∀ H', R H' → Q b H') → tc σ H Q)
    (h2 : ∀ H', R H' → if b = true then t { D with nx := v D } σ H' else u { D with nx := v D } σ H') : tSeq (tIfS tc t u) v D σ H := h1 _ h2
/-- an expression whose value is shown apart -/
theorem ex_cut {te : TE} {σ : L2.St} {H : Hp} {Q : VK} (R : V → Hp → Prop) (h1 : ∀ Q : VK, (∀ v H', R v H' → Q v H') → te σ H Q) (h2 : ∀ v H', R v H' → Q v H') : te σ H Q := h1 _ h2

/-! ### comprehensions without a test -/
theorem lc_list0 {K : PySem.W.Frag} {a : Addr} {xs : List V} {g : TG} {te : TE} {vs : List Nat} {σ : L2.St} {H1 : Hp} {D : Addr} {Qd : Hp → Prop} (Pv : Nat → Hp → Prop) (h0 : Pv 0 (upd H1 D (.lst []))) (hl : ∀ i H, i ≤ xs.length → Pv i H → SqL K H a xs)
    (hs : ∀ i x H, xs[i]? = some x → Pv i H → g x (wipe σ vs) H fun σ2 H2 => wipe σ2 vs = wipe σ vs ∧ te σ2 H2 fun y H4 => ∃ acc, H4 D = some (.lst acc) ∧ acc.length < sizeLine ∧ Pv (i + 1) (upd H4 D (.lst (acc ++ [y])))) (hd : ∀ H, Pv xs.length H → Qd H) :
    ∃ W : Nat → Nat → Hp → Prop, (∃ m, W 0 m (upd H1 D (.lst []))) ∧ ∀ i m H, W i m H → ((Itl K a).stop i H ∧ Qd H) ∨ ((Itl K a).go i H ∧ ∃ Nx : Hp → Prop, (∀ H', Nx H' → ∃ m', m' < m ∧ W (i + 1) m' H') ∧ ∀ x H', (Itl K a).yld i H x H' → g x (wipe σ vs) H' fun σ2 H2 => wipe σ2 vs = wipe σ vs ∧ tYes σ2 H2 fun b H3 =>
        if b = true then te σ2 H3 fun y H4 => ∃ acc, H4 D = some (.lst acc) ∧ acc.length < sizeLine ∧ Nx (upd H4 D (.lst (acc ++ [y]))) else Nx H3) :=
  lc_list (tt := tYes) Pv h0 hl (fun i x H hx p => hs i x H hx p) hd
theorem lc_range0 {lo : Int} {n : Nat} {g : TG} {te : TE} {vs : List Nat} {σ : L2.St} {H1 : Hp} {D : Addr} {Qd : Hp → Prop} (Pv : Nat → Hp → Prop) (h0 : Pv 0 (upd H1 D (.lst [])))
    (hs : ∀ i H, i < n → Pv i H → g (.int (lo + i)) (wipe σ vs) H fun σ2 H2 => wipe σ2 vs = wipe σ vs ∧ te σ2 H2 fun y H4 => ∃ acc, H4 D = some (.lst acc) ∧ acc.length < sizeLine ∧ Pv (i + 1) (upd H4 D (.lst (acc ++ [y])))) (hd : ∀ H, Pv n H → Qd H) :
    ∃ W : Nat → Nat → Hp → Prop, (∃ m, W 0 m (upd H1 D (.lst []))) ∧ ∀ i m H, W i m H → ((Itr lo n).stop i H ∧ Qd H) ∨ ((Itr lo n).go i H ∧ ∃ Nx : Hp → Prop, (∀ H', Nx H' → ∃ m', m' < m ∧ W (i + 1) m' H') ∧ ∀ x H', (Itr lo n).yld i H x H' → g x (wipe σ vs) H' fun σ2 H2 => wipe σ2 vs = wipe σ vs ∧ tYes σ2 H2 fun b H3 =>
        if b = true then te σ2 H3 fun y H4 => ∃ acc, H4 D = some (.lst acc) ∧ acc.length < sizeLine ∧ Nx (upd H4 D (.lst (acc ++ [y]))) else Nx H3) :=
  lc_range (tt := tYes) Pv h0 (fun i H hx p => hs i H hx p) hd

/-! ### defs by their promises -/
section
variable {P : Program} {w : World} {K : PySem.W.Frag} {mg : Str → Option Value} {base : Heap}
/-- a def without defaults -/
theorem fnr_of {x qual : Str} {params : Arguments} {body : List Stmt} {scope : Scope} {f : Addr} {N ps : List Str} {k : Nat} {sp : Sp}
    (hF : ∃ fd, FunD K x qual params body scope [] [] f fd) (S : FnScope N ps scope) (len : ∀ vs H Q E, sp vs H Q E → vs.length = ps.length)
    (hb : ∀ (kV doc pm : Value) (an : Option Addr) (cdv ct : Value) (us : List Value), us.length = ps.length → bindArgs (PySem.W.fnOf x qual params body scope .none kV doc pm an cdv ct) ⟨us, []⟩ = pure (ps.zip us))
    (hbody : ∀ (cdv : Value) (A : Around) (outer : List Env) (s : Shared) (H : Hp) (vs : List V) (Q : VK) (E : XK), Room k (A.deeper (envOfC qual scope s.heap.objs.size f cdv)) → sp vs H Q E →
      ∃ t, PSs (cxOf CX0 P w K mg base N qual scope f cdv A outer s H E).nox body t ∧ t { nx := fun _ H' => Q .non H', rt := Q } (start N vs) H) : FnR P w K mg base CX0 (k + 1) f sp := by
  obtain ⟨fd, F⟩ := hF
  have G : FnOk P w K mg base CX0 (k + 1) f fd ps sp := FunD.ok F S len fun cdv A outer s H vs Q E hr h => by
    obtain ⟨t, h1, h2⟩ := hbody cdv A outer s H vs Q E hr h
    exact ⟨t, h1.nox, h2⟩
  refine (FnOk.raw G (FunD.bindsN F hb) .nil).imp fun vs H Q E h => ?_
  rw [List.append_nil]
  exact h
theorem Txt.kpf (T : Txt K mg) {x : Str} (d : He.DefD) (h : ∃ fd, FunD K d.name d.qual d.params d.body d.scope (d.dvs K) (d.kws K) (He.fAd K d.at_) fd) : PySem.W.keepIn K (.ref (He.fAd K d.at_)) = true := let ⟨_, F⟩ := h; F.kp
end
section
variable {X : Cx} {k : Nat} {f C : Addr} {sp : Sp} {E : XK} {x m : Str} {p pos apos : Pos} {e o : Expr} {es : List Expr} {ta : TE} {t : TA}
/-- f(e, ..) by a positional promise -/
def tCallF (sp : Sp) (t : TA) : TE := fun σ H Q => t σ H fun vs H1 => sp vs H1 Q E0
theorem pe_callF (F : FnR X.prog X.w X.K X.mg X.base CX0 k f sp) (hr : Room k X.A) (hm : X.mg x = some (.ref f)) (hk : PySem.W.keepIn X.K (.ref f) = true) (ha : PA X (e :: es) t) (hg : Gl X x := by rfl)
    (hdb : (x == ("__debug__" : Str)) = false := by decide) (he : starEach (e :: es) X.env = (false, eval e X.env) :: starEach es X.env := by rfl) (hpl : (backTo pos (starEach es X.env)).any (·.1) = false := by rfl) :
    PE X (.Call (.Name x p) (e :: es) [] pos) (tCallF sp t) := by
  refine ⟨fun pins s σ H Q I h => ?_⟩
  refine wpAny_Call_Name_kw (ld_glob I hg hm ?_ hdb)
  refine PySem.W.callWith_K (h₀ := X.base) I.ok.mod.kin hk (thn (ha.run pos pins s σ H _ I h) fun us s1 ⟨vs, H1, I1, r, q⟩ => ⟨I1.kIn, ?_⟩) he hpl
  exact wpAny_call (run_fnR F hr pass0 I1 r q)
/-- o.m() by a positional promise -/
theorem pe_methR0 {pl : Sem Bool} (he : PE X o ta) (c : Cls X.K C) (hm : Meth X.K C m f) (F : FnR X.prog X.w X.K X.mg X.base CX0 k f sp) (hr : Room k X.A)
    (ht : eval (.Call (.Attribute o m apos) [] [] pos) X.env = (do
      let ov ← eval o X.env
      standAt apos.atName
      let (f, first) ← holding [ov] (getMethod ov m pl)
      callWith pos f first (backTo pos (starEach [] X.env)) (backToKw pos (keywordEach [] X.env))) := by rfl) :
    PE X (.Call (.Attribute o m apos) [] [] pos) (tMethR C m sp E0 ta tNil) := by
  refine ⟨fun pins s σ H Q I h => ?_⟩
  refine PySem.W.methodCall_KW (pl := pl) (thn (he.run pins s σ H _ I h) fun u s1 ⟨x, H1, I1, rx, a, dx, fs, ex, ea, l, q⟩ => ?_) ht
  subst ex
  obtain rfl : u = Value.ref a := rx
  refine getmeth_ok I1 ea c hm l ?_
  exact PySem.W.callWith_K0 (first := [.ref a]) I1.kIn hm.kp (wpAny_call (run_fnR (us := [.ref a]) (vs := [.ref a]) F hr pass0 I1 (.cons rfl .nil) q))
end
end K94
set_option maxRecDepth 100000
set_option maxHeartbeats 4000000
/-! K94A: the small defs. -/
namespace K94
open PySem PySem.Spec PyProof.Rows L2
section
variable {P : Program} {w : World} {K : PySem.W.Frag} {mg : Str → Option Value} {base : Heap}
theorem kit_int_int : PySem.W.kitOne K (.type "int") (.type "int") = some true := kit_ty (by decide +kernel)
theorem kit_int_bool : PySem.W.kitOne K (.type "int") (.type "bool") = some false := kit_ty (by decide +kernel)
theorem kit_list_list : PySem.W.kitOne K (.type "list") (.type "list") = some true := kit_ty (by decide +kernel)
theorem kit_tuple_tuple : PySem.W.kitOne K (.type "tuple") (.type "tuple") = some true := kit_ty (by decide +kernel)
theorem kit_str_str : PySem.W.kitOne K (.type "str") (.type "str") = some true := kit_ty (by decide +kernel)
/-- isinstance's answer -/
theorem isi {H : Hp} {Q : VK} {x c : V} {t u : Value} {b : Bool} (k : ClsV c u) (ty : TyX K H x t) (e : PySem.W.kitOne K t u = some b) (q : Q (.bl b) H) : rIsi K [x, c] H Q := ⟨x, c, t, u, b, rfl, k, ty, e, q⟩
theorem tyx_ins {H : Hp} {a C dx : Addr} {fs : List (Str × V)} (e : H a = some (.ins C dx fs)) (c : C8.InsC K C) : TyX K H (.ref a) (.ref C) := .base (.ins e c.cl c.ha c.hn c.htk c.hm)

/-! ### is_whole, is_between, is_number -/
abbrev N_is_whole : List Str := ["thing"]
theorem sc_is_whole : FnScope N_is_whole ["thing"] (defScope s_is_whole) := ⟨rfl, rfl, rfl, by decide +kernel, rfl, by decide +kernel, by decide +kernel⟩
def spIsWhole : Sp := fun vs H Q _ => ∃ i : Int, vs = [.int i] ∧ Q (.bl true) H
theorem ok_is_whole (T : Txt K mg) : FnR P w K mg base CX0 1 (He.ga K "is_whole") spIsWhole := by
  refine fnr_of T.d_is_whole sc_is_whole (fun vs H Q E h => ?_) (fun _ _ _ _ _ _ us hl => match us, hl with | [_], _ => rfl) (fun cdv A outer s H vs Q E hr h => ?_)
  · obtain ⟨i, rfl, _⟩ := h
    rfl
  · obtain ⟨i, rfl, k⟩ := h
    refine ⟨_, (pss_one (ps_ret (pe_and (pe_callB call_isi (by rfl) T.g_isinstance (by decide +kernel) (pa_cons (pv 0) (pa_cons (pe_bltn (v := .ty "int") (by rfl) T.g_int (by decide +kernel) rfl) pa_nil))) (pe_one (pe_not (pe_callB call_isi (by rfl) T.g_isinstance (by decide +kernel) (pa_cons (pv 0) (pa_cons (pe_bltn (v := .ty "bool") (by rfl) T.g_bool (by decide +kernel) rfl) pa_nil)))))))), ?_⟩
    refine ⟨_, rfl, _, _, _, _, _, rfl, (.ty _), (.base (.int i)), kit_int_int, true, rfl, iteT ?_⟩
    exact ⟨_, rfl, _, _, _, _, _, rfl, (.ty _), (.base (.int i)), kit_int_bool, false, rfl, k⟩

abbrev N_is_between : List Str := ["thing", "least", "most"]
theorem sc_is_between : FnScope N_is_between ["thing", "least", "most"] (defScope s_is_between) := ⟨rfl, rfl, rfl, by decide +kernel, rfl, by decide +kernel, by decide +kernel⟩
def spIsBetween : Sp := fun vs H Q _ => ∃ i l m : Int, vs = [.int i, .int l, .int m] ∧ Q (.bl (decide (l ≤ i) && decide (i ≤ m))) H
theorem ok_is_between (T : Txt K mg) : FnR P w K mg base CX0 2 (He.ga K "is_between") spIsBetween := by
  have G_is_whole := ok_is_whole (P := P) (w := w) (base := base) T
  refine fnr_of T.d_is_between sc_is_between (fun vs H Q E h => ?_) (fun _ _ _ _ _ _ us hl => match us, hl with | [_, _, _], _ => rfl) (fun cdv A outer s H vs Q E hr h => ?_)
  · obtain ⟨i, l, m, rfl, _⟩ := h
    rfl
  · obtain ⟨i, l, m, rfl, k⟩ := h
    refine ⟨_, (pss_one (ps_ret (pe_and (pe_callF G_is_whole (hr.mono (by decide)) T.f_is_whole T.kp_is_whole (pa_cons (pv 0) pa_nil)) (pe_one (pe_chain op_le op_le (pv 1) (pv 0) (pv 2)))))), ?_⟩
    refine ⟨_, rfl, i, rfl, true, rfl, iteT ?_⟩
    refine ⟨_, rfl, _, rfl, _, _, rfl, rfl, _, rfl, ?_⟩
    by_cases h1 : l ≤ i
    · rw [decide_eq_true h1]
      rw [decide_eq_true h1] at k
      refine iteT ⟨_, rfl, _, _, rfl, rfl, ?_⟩
      exact k
    · rw [decide_eq_false h1]
      rw [decide_eq_false h1] at k
      exact iteF k

abbrev N_is_number : List Str := ["thing"]
theorem sc_is_number : FnScope N_is_number ["thing"] (defScope s_is_number) := ⟨rfl, rfl, rfl, by decide +kernel, rfl, by decide +kernel, by decide +kernel⟩
def spIsNumber : Sp := fun vs H Q _ => ∃ i : Int, vs = [.int i] ∧ 0 ≤ i ∧ i ≤ 65535 ∧ Q (.bl true) H
theorem ok_is_number (T : Txt K mg) : FnR P w K mg base CX0 3 (He.ga K "is_number") spIsNumber := by
  have G_is_between := ok_is_between (P := P) (w := w) (base := base) T
  refine fnr_of T.d_is_number sc_is_number (fun vs H Q E h => ?_) (fun _ _ _ _ _ _ us hl => match us, hl with | [_], _ => rfl) (fun cdv A outer s H vs Q E hr h => ?_)
  · obtain ⟨i, rfl, _⟩ := h
    rfl
  · obtain ⟨i, rfl, h0, h1, k⟩ := h
    refine ⟨_, (pss_one (ps_ret (pe_callF G_is_between (hr.mono (by decide)) T.f_is_between T.kp_is_between (pa_cons (pv 0) (pa_cons pe_int (pa_cons (pe_glob (v := .int 65535) (by rfl) T.g_GREATEST.choose_spec ⟨_, rfl⟩) pa_nil)))))), ?_⟩
    refine ⟨_, rfl, i, 0, 65535, rfl, ?_⟩
    rw [decide_eq_true h0, decide_eq_true h1]
    exact k

/-! ### refusals that do not come -/
def spTrue : Sp := fun vs H Q _ => vs = [.bl true] ∧ Q .non H
abbrev N_needed : List Str := ["truth"]
theorem sc_needed : FnScope N_needed ["truth"] (defScope s_needed) := ⟨rfl, rfl, rfl, by decide +kernel, rfl, by decide +kernel, by decide +kernel⟩
theorem ok_needed (T : Txt K mg) : FnR P w K mg base CX0 1 (He.ga K "needed") spTrue := by
  refine fnr_of T.d_needed sc_needed (fun vs H Q E h => ?_) (fun _ _ _ _ _ _ us hl => match us, hl with | [_], _ => rfl) (fun cdv A outer s H vs Q E hr h => ?_)
  · obtain ⟨rfl, _⟩ := h
    rfl
  · obtain ⟨rfl, k⟩ := h
    refine ⟨_, (pss_one (ps_if (pt_not (pt_val (pv 0))) (pss_one ps_never) pss_nil)), ?_⟩
    exact ⟨_, rfl, true, rfl, iteF k⟩
abbrev N_wanted : List Str := ["truth"]
theorem sc_wanted : FnScope N_wanted ["truth"] (defScope s_wanted) := ⟨rfl, rfl, rfl, by decide +kernel, rfl, by decide +kernel, by decide +kernel⟩
theorem ok_wanted (T : Txt K mg) : FnR P w K mg base CX0 1 (He.ga K "wanted") spTrue := by
  refine fnr_of T.d_wanted sc_wanted (fun vs H Q E h => ?_) (fun _ _ _ _ _ _ us hl => match us, hl with | [_], _ => rfl) (fun cdv A outer s H vs Q E hr h => ?_)
  · obtain ⟨rfl, _⟩ := h
    rfl
  · obtain ⟨rfl, k⟩ := h
    refine ⟨_, (pss_one (ps_if (pt_not (pt_val (pv 0))) (pss_one ps_never) pss_nil)), ?_⟩
    exact ⟨_, rfl, true, rfl, iteF k⟩
abbrev N_allowed : List Str := ["truth"]
theorem sc_allowed : FnScope N_allowed ["truth"] (defScope s_allowed) := ⟨rfl, rfl, rfl, by decide +kernel, rfl, by decide +kernel, by decide +kernel⟩
theorem ok_allowed (T : Txt K mg) : FnR P w K mg base CX0 1 (He.ga K "allowed") spTrue := by
  refine fnr_of T.d_allowed sc_allowed (fun vs H Q E h => ?_) (fun _ _ _ _ _ _ us hl => match us, hl with | [_], _ => rfl) (fun cdv A outer s H vs Q E hr h => ?_)
  · obtain ⟨rfl, _⟩ := h
    rfl
  · obtain ⟨rfl, k⟩ := h
    refine ⟨_, (pss_one (ps_if (pt_not (pt_val (pv 0))) (pss_one ps_never) pss_nil)), ?_⟩
    exact ⟨_, rfl, true, rfl, iteF k⟩

/-! ### is_signs, is_deed -/
/-- a list of True's that a comprehension makes of ints -/
abbrev N_is_signs : List Str := ["thing", "one"]
theorem sc_is_signs : FnScope N_is_signs ["thing"] (defScope s_is_signs) := ⟨rfl, rfl, rfl, by decide +kernel, rfl, by decide +kernel, by decide +kernel⟩
def spIsSigns : Sp := fun vs H Q _ => ∃ (a : Addr) (ns : List Int), vs = [.ref a] ∧ H a = some (.lst (ns.map V.int)) ∧ ns.length ≤ 100000 ∧ ∀ H', Same H H' → Q (.bl true) H'
theorem all_true (n : Nat) : (List.replicate n true).all id = true := by
  induction n with
  | zero => rfl
  | succ n ih => rw [List.replicate_succ, List.all_cons, ih]; rfl
theorem map_int_get {ns : List Int} {i : Nat} {x : V} (h : (ns.map V.int)[i]? = some x) : ∃ n, ns[i]? = some n ∧ x = V.int n := by
  rw [List.getElem?_map] at h
  cases e : ns[i]? with
  | none =>
    rw [e] at h
    cases h
  | some n =>
    rw [e] at h
    exact ⟨n, rfl, (Option.some.inj h).symm⟩
theorem ok_is_signs (T : Txt K mg) : FnR P w K mg base CX0 2 (He.ga K "is_signs") spIsSigns := by
  have G_is_whole := ok_is_whole (P := P) (w := w) (base := base) T
  refine fnr_of T.d_is_signs sc_is_signs (fun vs H Q E h => ?_) (fun _ _ _ _ _ _ us hl => match us, hl with | [_], _ => rfl) (fun cdv A outer s H vs Q E hr h => ?_)
  · obtain ⟨a, ns, rfl, _⟩ := h
    rfl
  · obtain ⟨a, ns, rfl, ha, hz, k⟩ := h
    refine ⟨_, (pss_one (ps_ret (pe_and (pe_callB call_isi (by rfl) T.g_isinstance (by decide +kernel) (pa_cons (pv 0) (pa_cons (pe_bltn (v := .ty "list") (by rfl) T.g_list (by decide +kernel) rfl) pa_nil))) (pe_one (pe_callB (cr_all rfl) (by rfl) T.g_all (by decide +kernel) (pa_cons (pe_lc (own := [("one", 1)]) rfl sc_is_signs.nd (pi_list (pv 0)) (blkOk_by (own := [("one", 1)]) (N := N_is_signs) (sc := defScope s_is_signs) (by decide +kernel)) (fun _ _ _ _ _ => (pg_name (i := 1) sc_is_signs.nd rfl (Or.inl rfl))) (fun _ _ _ _ _ => pts_nil) (fun _ _ _ _ _ => (pe_callF G_is_whole (hr.mono (by decide)) T.f_is_whole T.kp_is_whole (pa_cons (pv 1) pa_nil)))) pa_nil)))))), ?_⟩
    refine ⟨_, rfl, _, _, _, _, _, rfl, (.ty _), (.base (.lst ha)), kit_list_list, true, rfl, iteT ?_⟩
    refine ⟨_, rfl, a, rfl, ⟨_, SqL.of ha⟩, fun D hD => ?_⟩
    have haD : a ≠ D := ne_of_none ha hD
    refine lc_list0 (K := K) (a := a) (xs := ns.map V.int) (fun i H1 => H1 = upd H D (.lst ((List.replicate i true).map V.bl))) rfl (fun i H1 _ e => by rw [e]; exact SqL.of (by rw [upd_ne haD]; exact ha)) (fun i x H1 hx e => ?_) (fun H1 e => ?_)
    · subst e
      obtain ⟨n, hn, rfl⟩ := map_int_get hx
      have hi : i < ns.length := (List.getElem?_eq_some_iff.mp hn).1
      refine ⟨rfl, _, rfl, n, rfl, _, upd_same, (by rw [List.length_map, List.length_replicate]; exact sl5 (by omega)), ?_⟩
      rw [upd_upd, List.replicate_succ', List.map_append]
      rfl
    · subst e
      refine ⟨D, _, rfl, SqL.of upd_same, ?_⟩
      rw [all_true]
      exact k _ (same_new hD)

theorem wd_in (k : Bool) : inV (.str (wd k)) [.str "keep", .str "take"] = true := by cases k <;> decide +kernel
theorem wd_put (k : Bool) : decide (V.str (wd k) = V.str "put") = false := by cases k <;> decide +kernel
abbrev N_is_deed : List Str := ["thing", "word", "what"]
theorem sc_is_deed : FnScope N_is_deed ["thing"] (defScope s_is_deed) := ⟨rfl, rfl, rfl, by decide +kernel, rfl, by decide +kernel, by decide +kernel⟩
def spIsDeed : Sp := fun vs H Q _ => ∃ (v : V) (r : Rw), vs = [v] ∧ RowAt H v r ∧ (puts [r]).length ≤ 100000 ∧ ∀ H', Same H H' → Q (.bl true) H'
theorem ok_is_deed (T : Txt K mg) : FnR P w K mg base CX0 3 (He.ga K "is_deed") spIsDeed := by
  have G_is_whole := ok_is_whole (P := P) (w := w) (base := base) T
  have G_is_signs := ok_is_signs (P := P) (w := w) (base := base) T
  refine fnr_of T.d_is_deed sc_is_deed (fun vs H Q E h => ?_) (fun _ _ _ _ _ _ us hl => match us, hl with | [_], _ => rfl) (fun cdv A outer s H vs Q E hr h => ?_)
  · obtain ⟨v, r, rfl, _⟩ := h
    rfl
  · obtain ⟨v, r, rfl, hR, hz, k⟩ := h
    refine ⟨_, (pss_cons (ps_if (PW.pt (pw_or (pt_not (pt_val (pe_callB call_isi (by rfl) T.g_isinstance (by decide +kernel) (pa_cons (pv 0) (pa_cons (pe_bltn (v := .ty "tuple") (by rfl) T.g_tuple (by decide +kernel) rfl) pa_nil))))) (pw_or (pt_cmpR op_ne (pe_callB call_len_seq (by rfl) T.g_len (by decide +kernel) (pa_cons (pv 0) pa_nil)) pe_int (nomark _)) (pw_or1 (pt_not (pt_val (pe_callB call_isi (by rfl) T.g_isinstance (by decide +kernel) (pa_cons (pe_ix ix_tup (pv 0) pe_int (fun _ _ => rfl)) (pa_cons (pe_bltn (v := .ty "str") (by rfl) T.g_str (by decide +kernel) rfl) pa_nil))))))))) (pss_one (ps_ret pe_bl)) pss_nil)
      (pss_cons (ps_asg (pv 0) (pg_tup rfl (pgs_cons (pg_name (i := 1) sc_is_deed.nd rfl (Or.inl rfl)) (pgs_cons (pg_name (i := 2) sc_is_deed.nd rfl (Or.inl rfl)) pgs_nil))))
      (pss_cons (ps_if (pt_cmpR op_eq (pv 1) pe_str (nomark _)) (pss_one (ps_ret (pe_callF G_is_signs (hr.mono (by decide)) T.f_is_signs T.kp_is_signs (pa_cons (pv 2) pa_nil)))) pss_nil)
      (pss_one (ps_ret (pe_and (pe_cmpR op_in_seq (pv 1) (pe_tup (pa_cons pe_str (pa_cons pe_str pa_nil))) rfl) (pe_and (pe_callF G_is_whole (hr.mono (by decide)) T.f_is_whole T.kp_is_whole (pa_cons (pv 2) pa_nil)) (pe_one (pe_cmpR op_ge (pv 2) pe_int (nomark _)))))))))), ?_⟩
    cases r with
    | mv b n =>
      obtain ⟨t, rfl, ht⟩ := hR
      refine ⟨_, rfl, _, _, _, _, _, rfl, (.ty _), (.base (.tup ht)), kit_tuple_tuple, true, rfl, iteF ?_⟩
      refine ⟨_, rfl, t, _, rfl, .inr (SqT.of ht), rfl, _, rfl, ?_⟩
      refine iteF ⟨_, rfl, t, _, _, _, rfl, rfl, SqT.of ht, rfl, _, _, _, _, _, rfl, (.ty _), (.base (.str _)), kit_str_str, true, rfl, iteF ?_⟩
      refine ⟨_, rfl, t, _, rfl, SqT.of ht, rfl, _, _, rfl, _, _, rfl, rfl, ?_⟩
      refine ⟨_, rfl, rfl, _, rfl, ?_⟩
      rw [wd_put]
      refine iteF ?_
      refine ⟨_, rfl, (by show 2 ≤ sizeLine; decide), fun p hp => ?_⟩
      refine ⟨p, _, rfl, .inr (SqT.of upd_same), rfl, rfl, true, ?_, iteT ?_⟩
      · rw [show (if false = true then !inV (V.str (wd b)) [V.str "keep", V.str "take"] else inV (V.str (wd b)) [V.str "keep", V.str "take"]) = inV (V.str (wd b)) [V.str "keep", V.str "take"] from rfl, wd_in]
      · refine ⟨_, rfl, _, rfl, true, rfl, iteT ⟨_, rfl, _, _, rfl, rfl, ?_⟩⟩
        show Q (V.bl (decide ((0 : Int) ≤ (n : Int)))) _
        rw [decide_eq_true (Int.natCast_nonneg n)]
        exact k _ (same_new hp)
    | put xs =>
      obtain ⟨t, q, rfl, ht, hq⟩ := hR
      refine ⟨_, rfl, _, _, _, _, _, rfl, (.ty _), (.base (.tup ht)), kit_tuple_tuple, true, rfl, iteF ?_⟩
      refine ⟨_, rfl, t, _, rfl, .inr (SqT.of ht), rfl, _, rfl, ?_⟩
      refine iteF ⟨_, rfl, t, _, _, _, rfl, rfl, SqT.of ht, rfl, _, _, _, _, _, rfl, (.ty _), (.base (.str _)), kit_str_str, true, rfl, iteF ?_⟩
      refine ⟨_, rfl, t, _, rfl, SqT.of ht, rfl, _, _, rfl, _, _, rfl, rfl, ?_⟩
      refine ⟨_, rfl, rfl, _, rfl, ?_⟩
      refine iteT ⟨_, rfl, q, xs, rfl, hq, ?_, fun H' hs => k H' hs⟩
      simp [puts] at hz
      omega

/-! ### check_change, checked_table, checked_text -/
abbrev N_check_change : List Str := ["thing"]
theorem sc_check_change : FnScope N_check_change ["thing"] (defScope s_check_change) := ⟨rfl, rfl, rfl, by decide +kernel, rfl, by decide +kernel, by decide +kernel⟩
def spCheckChange (K : PySem.W.Frag) : Sp := fun vs H Q _ => ∃ (c dx : Addr) (fs : List (Str × V)), vs = [.ref c] ∧ H c = some (.ins (C_Change K) dx fs) ∧ Q .non H
theorem ok_check_change (T : Txt K mg) : FnR P w K mg base CX0 2 (He.ga K "check_change") (spCheckChange K) := by
  have G_allowed := ok_allowed (P := P) (w := w) (base := base) T
  refine fnr_of T.d_check_change sc_check_change (fun vs H Q E h => ?_) (fun _ _ _ _ _ _ us hl => match us, hl with | [_], _ => rfl) (fun cdv A outer s H vs Q E hr h => ?_)
  · obtain ⟨c, dx, fs, rfl, _⟩ := h
    rfl
  · obtain ⟨c, dx, fs, rfl, hc, k⟩ := h
    refine ⟨_, (pss_one (ps_expr (pe_callF G_allowed (hr.mono (by decide)) T.f_allowed T.kp_allowed (pa_cons (pe_callB call_isi (by rfl) T.g_isinstance (by decide +kernel) (pa_cons (pv 0) (pa_cons (pe_glob (v := .ref _) (by rfl) T.c_Change rfl) pa_nil))) pa_nil)))), ?_⟩
    exact ⟨_, rfl, _, _, _, _, _, rfl, (.own _), (tyx_ins hc T.i_Change), T.i_Change.me, rfl, k⟩

/-- a table: which numbers it has; TbF: its attributes -/
structure TbAt (K : PySem.W.Frag) (H : Hp) (tb : Addr) (S : Int → Prop) : Prop where
  ex : ∃ (dx d1 d2 : Addr) (fs : List (Str × V)) (k1 k2 : List (Key × V)), H tb = some (.ins (He.ga K "Table") dx fs) ∧ fs.lookup ("sign_by" : Str) = some (.ref d1) ∧ fs.lookup ("ready_by" : Str) = some (.ref d2) ∧ H d1 = some (.dK k1) ∧ H d2 = some (.dK k2) ∧
    ∀ n, S n → (0 ≤ n ∧ n ≤ 65535) ∧ ((valV k1 (.inl n)).isSome = true ∨ (valV k2 (.inl n)).isSome = true)
theorem TbAt.mono {H H' : Hp} {tb : Addr} {S : Int → Prop} (s : Same H H') (h : TbAt K H tb S) : TbAt K H' tb S := by
  obtain ⟨dx, d1, d2, fs, k1, k2, a, b, c, d, e, f⟩ := h.ex
  exact ⟨dx, d1, d2, fs, k1, k2, s _ _ a, b, c, s _ _ d, s _ _ e, f⟩
abbrev N_checked_table : List Str := ["table"]
theorem sc_checked_table : FnScope N_checked_table ["table"] (defScope s_checked_table) := ⟨rfl, rfl, rfl, by decide +kernel, rfl, by decide +kernel, by decide +kernel⟩
def spCheckedTable (K : PySem.W.Frag) : Sp := fun vs H Q _ => ∃ (c dx : Addr) (fs : List (Str × V)), vs = [.ref c] ∧ H c = some (.ins (He.ga K "Table") dx fs) ∧ Q .non H
theorem ok_checked_table (T : Txt K mg) : FnR P w K mg base CX0 1 (He.ga K "checked_table") (spCheckedTable K) := by
  refine fnr_of T.d_checked_table sc_checked_table (fun vs H Q E h => ?_) (fun _ _ _ _ _ _ us hl => match us, hl with | [_], _ => rfl) (fun cdv A outer s H vs Q E hr h => ?_)
  · obtain ⟨c, dx, fs, rfl, _⟩ := h
    rfl
  · obtain ⟨c, dx, fs, rfl, hc, k⟩ := h
    refine ⟨_, (pss_one (ps_if (pt_not (pt_val (pe_callB call_isi (by rfl) T.g_isinstance (by decide +kernel) (pa_cons (pv 0) (pa_cons (pe_glob (v := .ref _) (by rfl) T.c_Table rfl) pa_nil))))) (pss_one ps_never) pss_nil)), ?_⟩
    exact ⟨_, rfl, _, _, _, _, _, rfl, (.own _), (tyx_ins hc T.i_Table), T.i_Table.me, true, rfl, iteF k⟩
abbrev N_checked_text : List Str := ["table", "text", "one"]
theorem sc_checked_text : FnScope N_checked_text ["table", "text"] (defScope s_checked_text) := ⟨rfl, rfl, rfl, by decide +kernel, rfl, by decide +kernel, by decide +kernel⟩
def spCheckedText (K : PySem.W.Frag) : Sp := fun vs H Q _ => ∃ (tb a : Addr) (S : Int → Prop) (ns : List Int), vs = [.ref tb, .ref a] ∧ TbAt K H tb S ∧ H a = some (.lst (ns.map V.int)) ∧ ns.length ≤ 100000 ∧ (∀ n ∈ ns, S n) ∧ ∀ H', Same H H' → Q .non H'
theorem ok_checked_text (T : Txt K mg) : FnR P w K mg base CX0 4 (He.ga K "checked_text") (spCheckedText K) := by
  have G_checked_table := ok_checked_table (P := P) (w := w) (base := base) T
  have G_is_number := ok_is_number (P := P) (w := w) (base := base) T
  refine fnr_of T.d_checked_text sc_checked_text (fun vs H Q E h => ?_) (fun _ _ _ _ _ _ us hl => match us, hl with | [_, _], _ => rfl) (fun cdv A outer s H vs Q E hr h => ?_)
  · obtain ⟨tb, a, S, ns, rfl, _⟩ := h
    rfl
  · obtain ⟨tb, a, S, ns, rfl, hT, ha, hz, hS, k⟩ := h
    obtain ⟨dx, d1, d2, fs, k1, k2, h1, l1, l2, h2, h3, hk⟩ := hT.ex
    refine ⟨_, (pss_cons (ps_expr (pe_callF G_checked_table (hr.mono (by decide)) T.f_checked_table T.kp_checked_table (pa_cons (pv 0) pa_nil)))
      (pss_cons (ps_if (PW.pt (pw_or (pt_not (pt_val (pe_callB call_isi (by rfl) T.g_isinstance (by decide +kernel) (pa_cons (pv 1) (pa_cons (pe_bltn (v := .ty "list") (by rfl) T.g_list (by decide +kernel) rfl) pa_nil))))) (pw_or1 (pt_not (pt_val (pe_callB (cr_all rfl) (by rfl) T.g_all (by decide +kernel) (pa_cons (pe_lc (own := [("one", 2)]) rfl sc_checked_text.nd (pi_list (pv 1)) (blkOk_by (own := [("one", 2)]) (N := N_checked_text) (sc := defScope s_checked_text) (by decide +kernel)) (fun _ _ _ _ _ => (pg_name (i := 2) sc_checked_text.nd rfl (Or.inl rfl))) (fun _ _ _ _ _ => pts_nil) (fun _ _ _ _ _ => (pe_callF G_is_number (hr.mono (by decide)) T.f_is_number T.kp_is_number (pa_cons (pv 2) pa_nil)))) pa_nil))))))) (pss_one ps_never) pss_nil)
      (pss_one (ps_for PassesOwn.never rfl (pi_list (pv 1)) (pg_name (i := 2) sc_checked_text.nd rfl (Or.inl rfl)) (pss_one (ps_if (PW.pt (pw_and (pt_cmp (pc_dnotin (hu_of hr) (pv 2) (pe_fld (pv 0) rfl))) (pw_and1 (pt_cmp (pc_dnotin (hu_of hr) (pv 2) (pe_fld (pv 0) rfl)))))) (pss_one ps_never) pss_nil)))))), ?_⟩
    refine ⟨_, rfl, tb, dx, fs, rfl, h1, ?_⟩
    refine ⟨_, rfl, _, _, _, _, _, rfl, (.ty _), (.base (.lst ha)), kit_list_list, true, rfl, iteF ?_⟩
    refine ⟨_, rfl, a, rfl, ⟨_, SqL.of ha⟩, fun D hD => ?_⟩
    have haD : a ≠ D := ne_of_none ha hD
    refine lc_list0 (K := K) (a := a) (xs := ns.map V.int) (fun i H1 => H1 = upd H D (.lst ((List.replicate i true).map V.bl))) rfl (fun i H1 _ e => by rw [e]; exact SqL.of (by rw [upd_ne haD]; exact ha)) (fun i x H1 hx e => ?_) (fun H1 e => ?_)
    · subst e
      obtain ⟨n, hn, rfl⟩ := map_int_get hx
      have hi : i < ns.length := (List.getElem?_eq_some_iff.mp hn).1
      obtain ⟨⟨b0, b1⟩, _⟩ := hk n (hS n (List.mem_of_getElem? hn))
      refine ⟨rfl, _, rfl, n, rfl, b0, b1, _, upd_same, (by rw [List.length_map, List.length_replicate]; exact sl5 (by omega)), ?_⟩
      rw [upd_upd, List.replicate_succ', List.map_append]
      rfl
    · subst e
      refine ⟨D, _, rfl, SqL.of upd_same, ?_⟩
      rw [all_true]
      refine ⟨true, rfl, iteF ?_⟩
      have sD := same_new (o := HO.lst ((List.replicate (ns.map V.int).length true).map V.bl)) hD
      refine ⟨_, rfl, a, rfl, ⟨_, SqL.of (sD _ _ ha)⟩, for_list (K := K) (a := a) (xs := ns.map V.int) (fun i σ H1 => ∃ v, σ = [some (.ref tb), some (.ref a), v] ∧ Same H H1) ⟨_, rfl, sD⟩ (fun i σ H1 _ ⟨_, _, e⟩ => SqL.of (e _ _ ha)) ?_ ?_⟩
      · rintro i x σ H1 hx ⟨v, rfl, sm⟩
        obtain ⟨n, hn, rfl⟩ := map_int_get hx
        obtain ⟨_, hin⟩ := hk n (hS n (List.mem_of_getElem? hn))
        refine ⟨_, rfl, _, rfl, tb, _, dx, fs, _, rfl, sm _ _ h1, T.k_Table, T.n_Table_sign_by, l1, d1, _, rfl, DGet.k (k := Sum.inl n) (sm _ _ h2), _, rfl, ?_⟩
        cases e1 : (valV k1 (.inl n)).isSome with
        | true => exact iteF (iteF ⟨_, rfl, sm⟩)
        | false =>
          refine iteT ⟨_, rfl, _, rfl, tb, _, dx, fs, _, rfl, sm _ _ h1, T.k_Table, T.n_Table_ready_by, l2, d2, _, rfl, DGet.k (k := Sum.inl n) (sm _ _ h3), _, rfl, ?_⟩
          have e2 : (valV k2 (.inl n)).isSome = true := by
            rcases hin with z | z
            · rw [e1] at z; cases z
            · exact z
          rw [e2]
          exact iteF ⟨_, rfl, sm⟩
      · rintro σ H1 ⟨v, rfl, sm⟩
        exact k H1 sm
end
end K94
set_option maxRecDepth 100000
set_option maxHeartbeats 4000000
/-! K94B: rows in one form; a change made. -/
namespace K94
open PySem PySem.Spec PyProof.Rows L2
section
variable {P : Program} {w : World} {K : PySem.W.Frag} {mg : Str → Option Value} {base : Heap}
theorem hid2_step {H0 H H' : Hp} {ms ns : List Addr} (h : ∀ b o, b ∉ ms → H b = some o → H' b = some o ∧ b ∉ ns) : Same (hid ms (newIn H0 H)) (hid ns (newIn H0 H')) := fun b o e => by
  obtain ⟨e1, n⟩ := of_hid e
  obtain ⟨e2, e3⟩ := of_newIn e1
  obtain ⟨h1, h2⟩ := h b o n e3
  exact hid_get (newIn_get e2 h1) h2
theorem lst_ne_ref {xs : List V} {ns : List Int} {a : Addr} (h : V.ref a ∈ xs) : HO.lst xs ≠ HO.lst (ns.map V.int) := fun e => by
  injection e with e
  rw [e] at h
  simp at h
theorem stepG_len (p : Gs × Gr) (x : Rw) : (stepG p x).1.length ≤ p.1.length + 1 := by
  obtain ⟨ds, l⟩ := p
  cases x with
  | put xs => simp [stepG]
  | mv k n =>
    cases k with
    | false => simp [stepG]
    | true =>
      simp only [stepG]
      split <;> simp
theorem fold_len : ∀ (rows : List Rw) (p : Gs × Gr), (rows.foldl stepG p).1.length ≤ p.1.length + rows.length
  | [], p => by simp
  | x :: r, p => by
    have h1 := stepG_len p x
    have h2 := fold_len r (stepG p x)
    simp only [List.foldl_cons, List.length_cons]
    omega
theorem fold_signs (rows : List Rw) : (rows.foldl stepG ([], g0)).2.signs.length ≤ (puts rows).length := by
  have h := (fold_facts rows ([], g0)).2.2.1
  have c : puts (stR ([], g0)) = [] := rfl
  rw [c, List.nil_append] at h
  rw [← h]
  unfold stR
  rw [puts_app, puts_rowsG, List.length_append]
  omega
theorem fold_take {rows : List Rw} {i : Nat} {r : Rw} (h : rows[i]? = some r) : (rows.take (i + 1)).foldl stepG ([], g0) = stepG ((rows.take i).foldl stepG ([], g0)) r := by
  rw [take_succ_get h, List.foldl_append]
  rfl

theorem puts_take (rows : List Rw) (n : Nat) : (puts (rows.take n)).length ≤ (puts rows).length := by
  have h : puts rows = puts (rows.take n) ++ puts (rows.drop n) := by rw [← puts_app, List.take_append_drop]
  rw [h, List.length_append]
  omega
/-- in_groups between two turns: the list at p, its last group at lq -/
structure GI (H0 H : Hp) (p : Addr) (st : Gs × Gr) : Prop where
  sm : Same H0 H
  ex : ∃ (lq q : Addr) (dIt : List V), H0 p = none ∧ H0 lq = none ∧ H0 q = none ∧ H p = some (.lst (dIt ++ [.ref lq])) ∧ H lq = some (.lst [.int st.2.many, .ref q, .int st.2.fewer]) ∧ H q = some (.lst (st.2.signs.map V.int)) ∧ GrsAt (hid [p, lq] (newIn H0 H)) dIt st.1

abbrev N_in_groups : List Str := ["rows", "found", "word", "what", "last"]
theorem sc_in_groups : FnScope N_in_groups ["rows"] (defScope s_in_groups) := ⟨rfl, rfl, rfl, by decide +kernel, rfl, by decide +kernel, by decide +kernel⟩
def spInGroups (K : PySem.W.Frag) : Sp := fun vs H Q _ => ∃ (a : Addr) (items : List V) (rows : List Rw), vs = [.ref a] ∧ H a = some (.lst items) ∧ RowsAt H items rows ∧ rows.length + (puts rows).length ≤ 50000 ∧
  ∀ (H' : Hp) (l : Addr) (its : List V), Same H H' → H l = none → H' l = some (.lst its) → GrsAt (newIn H H') its (inG rows) → Q (.ref l) H'
theorem ok_in_groups (T : Txt K mg) : FnR P w K mg base CX0 1 (He.ga K "in_groups") (spInGroups K) := by
  refine fnr_of T.d_in_groups sc_in_groups (fun vs H Q E h => ?_) (fun _ _ _ _ _ _ us hl => match us, hl with | [_], _ => rfl) (fun cdv A outer s H vs Q E hr h => ?_)
  · obtain ⟨a, items, rows, rfl, _⟩ := h
    rfl
  · obtain ⟨a, items, rows, rfl, ha, hR, hz, k⟩ := h
    have hlen := paired_len hR
    refine ⟨_, (pss_cons (ps_set (i := 1) sc_in_groups.nd rfl (Or.inl rfl) (pe_lst (pa_cons (pe_lst (pa_cons pe_int (pa_cons (pe_lst pa_nil) (pa_cons pe_int pa_nil)))) pa_nil)))
      (pss_cons (ps_for PassesOwn.never rfl (pi_list (pv 0)) (pg_tup rfl (pgs_cons (pg_name (i := 2) sc_in_groups.nd rfl (Or.inl rfl)) (pgs_cons (pg_name (i := 3) sc_in_groups.nd rfl (Or.inl rfl)) pgs_nil))) (pss_cons (ps_set (i := 4) sc_in_groups.nd rfl (Or.inl rfl) (pe_ix ix_list (pv 1) (pe_un un_neg pe_int) (fun _ _ => rfl)))
      (pss_one (ps_if (pt_cmpR op_eq (pv 2) pe_str (nomark _)) (pss_one (ps_asg (pe_op op_cat (pe_ix ix_list (pv 4) pe_int (fun _ _ => rfl)) (pv 3)) (pg_sub (pv 4) pe_int set_list))) (pss_one (ps_if (pt_cmpR op_eq (pv 2) pe_str (nomark _)) (pss_one (ps_augS (pv 4) pe_int get_list (pv 3) ip_add set_list)) (pss_one (ps_if (PW.pt (pw_and (pt_cmpR op_gt (pv 3) pe_int (nomark _)) (pw_and1 (PW.pt (pw_or (pt_cmpR (op_neNil hr.units0) (pe_ix ix_list (pv 4) pe_int (fun _ _ => rfl)) (pe_lst pa_nil) (nomark _)) (pw_or1 (pt_cmpR op_gt (pe_ix ix_list (pv 4) pe_int (fun _ _ => rfl)) pe_int (nomark _)))))))) (pss_one (ps_expr (pe_bm PySem.F.plainAttrs_list PySem.F.slot_list_append PySem.F.type_list_append mt_append (pv 1) (pa_cons (pe_lst (pa_cons (pv 3) (pa_cons (pe_lst pa_nil) (pa_cons pe_int pa_nil)))) pa_nil)))) (pss_one (ps_augS (pv 4) pe_int get_list (pv 3) ip_add set_list))))))))))
      (pss_cons (ps_if (PW.pt (pw_and (pt_cmpR (op_eqNil hr.units0) (pe_ix ix_list (pe_ix ix_list (pv 1) (pe_un un_neg pe_int) (fun _ _ => rfl)) pe_int (fun _ _ => rfl)) (pe_lst pa_nil) (nomark _)) (pw_and1 (pt_cmpR op_eq (pe_ix ix_list (pe_ix ix_list (pv 1) (pe_un un_neg pe_int) (fun _ _ => rfl)) pe_int (fun _ _ => rfl)) pe_int (nomark _))))) (pss_one (ps_expr (pe_bm0 PySem.F.plainAttrs_list PySem.F.slot_list_pop PySem.F.type_list_pop mt_pop (pv 1)))) pss_nil)
      (pss_one (ps_ret (pv 1)))))), ?_⟩
    -- found = [[0, [], 0]]
    refine ⟨(by show 0 ≤ sizeLine; decide), fun q hq => ⟨(by show 3 ≤ sizeLine; decide), fun lq hlq => ⟨(by show 1 ≤ sizeLine; decide), fun p hp => ?_⟩⟩⟩
    have s1 := same_new (o := HO.lst []) hq
    have s2 := same_new (o := HO.lst [V.int 0, V.ref q, V.int 0]) hlq
    have s3 := same_new (o := HO.lst [V.ref lq]) hp
    have s03 := (s1.trans s2).trans s3
    have g0' : GI H _ p ([], g0) := ⟨s03, lq, q, [], (s1.trans s2).free hp, s1.free hlq, hq, upd_same, s3 _ _ upd_same, s3 _ _ (s2 _ _ upd_same), .nil⟩
    refine ⟨_, rfl, a, rfl, ⟨_, SqL.of (s03 _ _ ha)⟩, for_list (K := K) (a := a) (xs := items) (fun i σ H1 => ∃ v2 v3 v4, σ = [some (.ref a), some (.ref p), v2, v3, v4] ∧ GI H H1 p ((rows.take i).foldl stepG ([], g0)))
      ⟨none, none, none, rfl, g0'⟩ (fun i σ H1 _ ⟨_, _, _, _, g⟩ => SqL.of (g.sm _ _ ha)) ?_ ?_⟩
    · rintro i y σ H1 hi ⟨v2, v3, v4, rfl, g⟩
      obtain ⟨r, hr', hy⟩ := paired_get hR hi
      have hy1 := RowAt.mono g.sm hy
      have hil : i < rows.length := (List.getElem?_eq_some_iff.mp hr').1
      have hfl := fold_len (rows.take i) ([], g0)
      have hsg := fold_signs (rows.take i)
      have hpt := puts_take rows (i + 1)
      rw [take_succ_get hr', puts_app, List.length_append] at hpt
      rw [fold_take hr']
      rw [List.length_take] at hfl
      generalize (rows.take i).foldl stepG ([], g0) = st at g hfl hsg ⊢
      obtain ⟨ds, l⟩ := st
      obtain ⟨sm, lq, q, dIt, p0, lq0, q0, hp, hlq, hq, hD⟩ := g
      have hdl := paired_len hD
      dsimp only at hlq hq hD hdl hsg
      simp only [List.length_nil, Nat.zero_add] at hfl
      have plq : p ≠ lq := ne_of hp hlq (fun e => by
        injection e with e
        have h1 := congrArg List.length e
        have h2 : (dIt ++ [V.ref lq]).getLast? = some (V.ref lq) := by simp
        rw [e] at h2
        simp at h2)
      have pq : p ≠ q := ne_of hp hq (lst_ne_ref (a := lq) (by simp))
      have lqq : lq ≠ q := ne_of hlq hq (lst_ne_ref (a := q) (by simp))
      have lqp := plq.symm
      cases r with
      | put xs =>
        obtain ⟨t, q2, rfl, ht, hq2⟩ := hy1
        refine ⟨t, _, rfl, SqT.of ht, rfl, _, _, rfl, _, _, rfl, rfl, ?_⟩
        refine ⟨_, rfl, _, rfl, p, _, _, _, rfl, rfl, SqL.of hp, atI_last _ _, ?_⟩
        refine ⟨_, rfl, rfl, _, rfl, iteT ?_⟩
        simp only [puts, List.append_nil] at hpt
        refine ⟨_, rfl, lq, _, _, _, rfl, rfl, SqL.of hlq, atI_nat (j := 1) rfl, _, rfl, q, q2, _, _, rfl, rfl, hq, hq2, sz5 (by simp; omega), fun r1 hr1 => ?_⟩
        have e0 := same_new (o := HO.lst (List.map V.int l.signs ++ List.map V.int xs)) hr1
        have nlq : lq ≠ r1 := ne_of_none hlq hr1
        have np : p ≠ r1 := ne_of_none hp hr1
        refine ⟨_, rfl, lq, _, 1, 1, rfl, rfl, e0 _ _ hlq, rfl, ?_⟩
        refine ⟨_, _, _, rfl, ⟨fun b o e => ?_, lq, r1, dIt, p0, lq0, sm.free hr1, ?_, upd_same, ?_, GrsAt.mono (hid2_step fun b o n e => ⟨?_, n⟩) hD⟩⟩
        · rw [upd_ne (fun z => by rw [z, lq0] at e; cases e)]
          exact e0 _ _ (sm _ _ e)
        · rw [upd_ne plq]
          exact e0 _ _ hp
        · rw [upd_ne nlq.symm, upd_same]
          simp only [stepG, List.map_append]
        · rw [upd_ne (fun z => n (by simp [z]))]
          exact e0 _ _ e
      | mv b n =>
        obtain ⟨t, rfl, ht⟩ := hy1
        refine ⟨t, _, rfl, SqT.of ht, rfl, _, _, rfl, _, _, rfl, rfl, ?_⟩
        refine ⟨_, rfl, _, rfl, p, _, _, _, rfl, rfl, SqL.of hp, atI_last _ _, ?_⟩
        refine ⟨_, rfl, rfl, _, rfl, ?_⟩
        rw [wd_put]
        refine iteF ?_
        refine ⟨_, rfl, rfl, _, rfl, ?_⟩
        cases b with
        | false =>
          refine iteT ?_
          refine ⟨_, rfl, lq, _, _, _, rfl, rfl, SqL.of hlq, atI_nat (j := 2) rfl, _, rfl, _, _, rfl, rfl, lq, _, 2, 2, rfl, rfl, hlq, rfl, ?_⟩
          refine ⟨_, _, _, rfl, ⟨fun b o e => ?_, lq, q, dIt, p0, lq0, q0, ?_, ?_, ?_, GrsAt.mono (hid2_step fun b o n e => ⟨?_, n⟩) hD⟩⟩
          · rw [upd_ne (fun z => by rw [z, lq0] at e; cases e)]
            exact sm _ _ e
          · rw [upd_ne plq]
            exact hp
          · rw [upd_same]
            simp [stepG]
          · rw [upd_ne lqq.symm]
            exact hq
          · rw [upd_ne (fun z => n (by simp [z]))]
            exact e
        | true =>
          refine iteF ?_
          refine if_test (decide (0 < n ∧ (l.signs ≠ [] ∨ 0 < l.fewer))) (fun H' => Same H1 H') (fun Q hQ => ?_) (fun H2 sm2 => ?_)
          · refine ⟨_, rfl, _, _, rfl, rfl, _, rfl, ?_⟩
            refine iteD (fun hn => ?_) (fun hn => ?_)
            · have hn' : 0 < n := by omega
              refine ⟨_, rfl, lq, _, _, _, rfl, rfl, SqL.of hlq, atI_nat (j := 1) rfl, (by show 0 ≤ sizeLine; decide), fun e1 he1 => ?_⟩
              have e0 := same_new (o := HO.lst []) he1
              refine ⟨q, e1, _, rfl, rfl, SqL.of (e0 _ _ hq), SqL.of upd_same, _, rfl, ?_⟩
              cases hc : l.signs with
              | nil =>
                refine iteF ⟨_, rfl, lq, _, _, _, rfl, rfl, SqL.of (e0 _ _ hlq), atI_nat (j := 2) rfl, _, _, rfl, rfl, _, rfl, ?_⟩
                have e2 : decide ((0 : Int) < (l.fewer : Int)) = decide (0 < n ∧ (l.signs ≠ [] ∨ 0 < l.fewer)) := by
                  apply decide_eq_decide.mpr
                  simp [hn', hc]
                show Q (decide ((0 : Int) < (l.fewer : Int))) _
                rw [e2]
                exact hQ _ e0
              | cons z zs =>
                refine iteT ?_
                have e2 : decide (0 < n ∧ (l.signs ≠ [] ∨ 0 < l.fewer)) = true := decide_eq_true ⟨hn', .inl (by rw [hc]; simp)⟩
                have := hQ _ e0
                rw [e2] at this
                exact this
            · have e2 : decide (0 < n ∧ (l.signs ≠ [] ∨ 0 < l.fewer)) = false := decide_eq_false fun z => hn (by omega)
              have := hQ _ (Same.refl H1)
              rw [e2] at this
              exact this
          · have hp2 := sm2 _ _ hp
            have hlq2 := sm2 _ _ hlq
            have hq2 := sm2 _ _ hq
            have smm := sm.trans sm2
            refine iteD (fun hc => ?_) (fun hc => ?_)
            · -- found.append([what, [], 0])
              refine ⟨_, rfl, .inl ⟨rfl, _, SqL.of hp2⟩, _, rfl, (by show 0 ≤ sizeLine; decide), fun q1 hq1 => ⟨(by show 3 ≤ sizeLine; decide), fun r1 hr1 => ?_⟩⟩
              have s1 := same_new (o := HO.lst []) hq1
              have s2 := same_new (o := HO.lst [V.int n, V.ref q1, V.int 0]) hr1
              have s12 := s1.trans s2
              refine ⟨p, _, _, rfl, rfl, s12 _ _ hp2, sl5 (by simp; omega), ?_⟩
              have np : p ≠ r1 := ne_of_none (s1 _ _ hp2) hr1
              have np1 : p ≠ q1 := ne_of_none hp2 hq1
              refine ⟨_, _, _, rfl, ⟨fun b o e => ?_, r1, q1, dIt ++ [.ref lq], p0, smm.free (s1.free hr1), smm.free hq1, upd_same, ?_, ?_, ?_⟩⟩
              · rw [upd_ne (fun z => by rw [z, p0] at e; cases e)]
                exact s12 _ _ (smm _ _ e)
              · rw [upd_ne np.symm, upd_same]
                simp only [stepG, if_pos hc]
                rfl
              · rw [upd_ne np1.symm]
                simp only [stepG, if_pos hc]
                exact s2 _ _ upd_same
              · simp only [stepG, if_pos hc]
                refine paired_app (GrsAt.mono (hid2_step fun b o n e => ⟨?_, ?_⟩) hD) (paired_one ⟨lq, q, rfl, ?_, ?_⟩)
                · rw [upd_ne (fun z => n (by simp [z]))]
                  exact s12 _ _ (sm2 _ _ e)
                · have : b ≠ r1 := ne_of_none (s1 _ _ (sm2 _ _ e)) hr1
                  simp only [List.mem_cons, List.not_mem_nil, or_false, not_or] at n ⊢
                  exact ⟨n.1, this⟩
                · refine hid_get (newIn_get lq0 ?_) ?_
                  · rw [upd_ne lqp]
                    exact s12 _ _ hlq2
                  · have : lq ≠ r1 := ne_of_none (s1 _ _ hlq2) hr1
                    simp [lqp, this]
                · refine hid_get (newIn_get q0 ?_) ?_
                  · rw [upd_ne pq.symm]
                    exact s12 _ _ hq2
                  · have : q ≠ r1 := ne_of_none (s1 _ _ hq2) hr1
                    simp [pq.symm, this]
            · refine ⟨_, rfl, lq, _, _, _, rfl, rfl, SqL.of hlq2, atI_nat (j := 0) rfl, _, rfl, _, _, rfl, rfl, lq, _, 0, 0, rfl, rfl, hlq2, rfl, ?_⟩
              refine ⟨_, _, _, rfl, ⟨fun b o e => ?_, lq, q, dIt, p0, lq0, q0, ?_, ?_, ?_, ?_⟩⟩
              · rw [upd_ne (fun z => by rw [z, lq0] at e; cases e)]
                exact smm _ _ e
              · rw [upd_ne plq]
                exact hp2
              · rw [upd_same]
                simp only [stepG, if_neg hc]
                rfl
              · rw [upd_ne lqq.symm]
                simp only [stepG, if_neg hc]
                exact hq2
              · simp only [stepG, if_neg hc]
                refine GrsAt.mono (hid2_step fun b o n e => ⟨?_, n⟩) hD
                rw [upd_ne (fun z => n (by simp [z]))]
                exact sm2 _ _ e
    · rintro σ H1 ⟨v2, v3, v4, rfl, g⟩
      rw [hlen, List.take_of_length_le (Nat.le_refl _)] at g
      have hin : inG rows = endG (rows.foldl stepG ([], g0)) := rfl
      rw [hin] at k
      generalize rows.foldl stepG ([], g0) = st at g k
      obtain ⟨ds, l⟩ := st
      obtain ⟨sm, lq, q, dIt, p0, lq0, q0, hp, hlq, hq, hD⟩ := g
      dsimp only at hlq hq hD
      have plq : p ≠ lq := ne_of hp hlq (fun e => by
        injection e with e
        have h2 : (dIt ++ [V.ref lq]).getLast? = some (V.ref lq) := by simp
        rw [e] at h2
        simp at h2)
      have pq : p ≠ q := ne_of hp hq (lst_ne_ref (a := lq) (by simp))
      have lqq : lq ≠ q := ne_of hlq hq (lst_ne_ref (a := q) (by simp))
      dsimp only
      refine seq_test (decide (l.signs = [] ∧ l.fewer = 0)) (fun H' => Same H1 H') (fun Q hQ => ?_) (fun H2 sm2 => ?_)
      · refine ⟨_, rfl, _, rfl, p, _, _, _, rfl, rfl, SqL.of hp, atI_last _ _, lq, _, _, _, rfl, rfl, SqL.of hlq, atI_nat (j := 1) rfl, (by show 0 ≤ sizeLine; decide), fun e1 he1 => ?_⟩
        have e0 := same_new (o := HO.lst []) he1
        refine ⟨q, e1, _, rfl, rfl, SqL.of (e0 _ _ hq), SqL.of upd_same, _, rfl, ?_⟩
        cases hc : l.signs with
        | nil =>
          refine iteT ⟨_, rfl, _, rfl, p, _, _, _, rfl, rfl, SqL.of (e0 _ _ hp), atI_last _ _, lq, _, _, _, rfl, rfl, SqL.of (e0 _ _ hlq), atI_nat (j := 2) rfl, rfl, _, rfl, ?_⟩
          have e2 : decide (V.int (l.fewer : Int) = V.int 0) = decide (l.signs = [] ∧ l.fewer = 0) := by
            apply decide_eq_decide.mpr
            simp [hc]
          show Q (decide (V.int (l.fewer : Int) = V.int 0)) _
          rw [e2]
          exact hQ _ e0
        | cons z zs =>
          refine iteF ?_
          have e2 : decide (l.signs = [] ∧ l.fewer = 0) = false := decide_eq_false fun z => by rw [hc] at z; cases z.1
          have := hQ _ e0
          rw [e2] at this
          exact this
      · have hp2 := sm2 _ _ hp
        have hlq2 := sm2 _ _ hlq
        have hq2 := sm2 _ _ hq
        have smm := sm.trans sm2
        refine iteD (fun hc => ?_) (fun hc => ?_)
        · refine ⟨_, rfl, .inl ⟨rfl, _, SqL.of hp2⟩, p, _, _, rfl, rfl, hp2, (by rw [List.length_append, List.length_singleton, Nat.add_sub_cancel, List.getElem?_append_right (Nat.le_refl _), Nat.sub_self]; rfl), ?_⟩
          refine ⟨_, rfl, ?_⟩
          have eg : endG (ds, l) = ds := by unfold endG; exact if_pos hc
          rw [List.dropLast_concat]
          rw [eg] at k
          refine k _ p dIt (fun b o e => ?_) p0 upd_same (GrsAt.mono (fun b o e => ?_) hD)
          · rw [upd_ne (fun z => by rw [z, p0] at e; cases e)]
            exact smm _ _ e
          · obtain ⟨e1, n⟩ := of_hid e
            obtain ⟨e2, e3⟩ := of_newIn e1
            exact newIn_get e2 (by rw [upd_ne (fun z => n (by simp [z]))]; exact sm2 _ _ e3)
        · refine ⟨_, rfl, ?_⟩
          have eg : endG (ds, l) = ds ++ [l] := by unfold endG; exact if_neg hc
          rw [eg] at k
          refine k _ p _ smm p0 hp2 (paired_app (GrsAt.mono (fun b o e => ?_) hD) (paired_one ⟨lq, q, rfl, newIn_get lq0 hlq2, newIn_get q0 hq2⟩))
          obtain ⟨e1, n⟩ := of_hid e
          obtain ⟨e2, e3⟩ := of_newIn e1
          exact newIn_get e2 (sm2 _ _ e3)

/-! ### Change.__init__ -/
theorem bl_is {b : Bool} {Q : VK} {H : Hp} (e : b = true) (q : Q (.bl true) H) : Q (.bl b) H := by rw [e]; exact q
theorem puts_one (rows : List Rw) {i : Nat} {r : Rw} (h : rows[i]? = some r) : (puts [r]).length ≤ (puts rows).length := by
  have h1 := puts_take rows (i + 1)
  rw [take_succ_get h, puts_app, List.length_append] at h1
  omega
abbrev N_Change_init : List Str := ["self", "rows", "one"]
theorem sc_Change_init : FnScope N_Change_init ["self", "rows"] (defScope s_Change_init) := ⟨rfl, rfl, rfl, by decide +kernel, rfl, by decide +kernel, by decide +kernel⟩
def spChangeInit (K : PySem.W.Frag) : Sp := fun vs H Q _ => ∃ (x dx a : Addr) (items : List V) (rows : List Rw) (H0 : Hp), vs = [.ref x, .ref a] ∧ H0 x = none ∧ H0 dx = none ∧ dx ≠ x ∧ H = upd (upd H0 dx (.own x)) x (.ins (C_Change K) dx []) ∧
  H0 a = some (.lst items) ∧ RowsAt H0 items rows ∧ rows.length + (puts rows).length ≤ 50000 ∧ ∀ H', Same H0 H' → ChAt K (newIn H0 H') x (inG rows) → Q .non H'
theorem ok_Change_init (T : Txt K mg) : FnR P w K mg base CX0 4 (He.ma K (He.ga K "Change") "__init__") (spChangeInit K) := by
  have G_allowed := ok_allowed (P := P) (w := w) (base := base) T
  have G_is_deed := ok_is_deed (P := P) (w := w) (base := base) T
  have G_in_groups := ok_in_groups (P := P) (w := w) (base := base) T
  refine fnr_of T.d_Change_init sc_Change_init (fun vs H Q E h => ?_) (fun _ _ _ _ _ _ us hl => match us, hl with | [_, _], _ => rfl) (fun cdv A outer s H vs Q E hr h => ?_)
  · obtain ⟨x, dx, a, items, rows, H0, rfl, _⟩ := h
    rfl
  · obtain ⟨x, dx, a, items, rows, H0, rfl, x0, d0, ne, rfl, ha, hR, hz, k⟩ := h
    have hlen := paired_len hR
    refine ⟨_, (pss_cons (ps_expr (pe_callF G_allowed (hr.mono (by decide)) T.f_allowed T.kp_allowed (pa_cons (pe_and (pe_callB call_isi (by rfl) T.g_isinstance (by decide +kernel) (pa_cons (pv 1) (pa_cons (pe_bltn (v := .ty "list") (by rfl) T.g_list (by decide +kernel) rfl) pa_nil))) (pe_one (pe_callB (cr_all rfl) (by rfl) T.g_all (by decide +kernel) (pa_cons (pe_lc (own := [("one", 2)]) rfl sc_Change_init.nd (pi_list (pv 1)) (blkOk_by (own := [("one", 2)]) (N := N_Change_init) (sc := defScope s_Change_init) (by decide +kernel)) (fun _ _ _ _ _ => (pg_name (i := 2) sc_Change_init.nd rfl (Or.inl rfl) (Or.inr rfl))) (fun _ _ _ _ _ => pts_nil) (fun _ _ _ _ _ => (pe_callF G_is_deed (hr.mono (by decide)) T.f_is_deed T.kp_is_deed (pa_cons (pv 2) pa_nil)))) pa_nil)))) pa_nil)))
      (pss_one (ps_fld (pv 0) (pe_callF G_in_groups (hr.mono (by decide)) T.f_in_groups T.kp_in_groups (pa_cons (pv 1) pa_nil)) rfl))), ?_⟩
    have s1 : Same H0 (upd (upd H0 dx (.own x)) x (.ins (C_Change K) dx [])) := (same_new d0).trans (same_new (by rw [upd_ne ne.symm]; exact x0))
    have hx : (upd (upd H0 dx (.own x)) x (.ins (C_Change K) dx [])) x = some (.ins (C_Change K) dx []) := upd_same
    generalize upd (upd H0 dx (.own x)) x (.ins (C_Change K) dx []) = H1 at s1 hx
    refine ⟨_, rfl, _, _, _, _, _, rfl, .ty _, .base (.lst (s1 _ _ ha)), kit_list_list, true, rfl, iteT ?_⟩
    refine ⟨_, rfl, a, rfl, ⟨_, SqL.of (s1 _ _ ha)⟩, fun D hD => ?_⟩
    have sD : Same H1 (upd H1 D (.lst [])) := same_new hD
    have D0 := s1.free hD
    refine lc_list0 (K := K) (a := a) (xs := items) (fun i H2 => Same H1 (hid [D] H2) ∧ H2 D = some (.lst ((List.replicate i true).map V.bl))) ⟨same_hid sD (by simp [hD]), upd_same⟩ (fun i H2 _ e => SqL.of (hid_same _ _ (e.1 _ _ (s1 _ _ ha)))) (fun i y H2 hi e => ?_) (fun H2 e => ?_)
    · obtain ⟨sm, hDD⟩ := e
      obtain ⟨r, hr', hy⟩ := paired_get hR hi
      have hil : i < rows.length := (List.getElem?_eq_some_iff.mp hr').1
      have hy1 : RowAt H2 y r := RowAt.mono ((s1.trans sm).trans hid_same) hy
      have hp1 := puts_one rows hr'
      refine ⟨rfl, _, rfl, y, r, rfl, hy1, by omega, fun H3 s3 => ⟨_, s3 _ _ hDD, (by rw [List.length_map, List.length_replicate]; exact sl5 (by omega)), ?_, ?_⟩⟩
      · intro b o e
        have e1 := sm _ _ e
        obtain ⟨e2, n⟩ := of_hid e1
        exact hid_get (by rw [upd_ne (by simpa using n)]; exact s3 _ _ e2) n
      · rw [upd_same, List.replicate_succ', List.map_append]
        rfl
    · obtain ⟨sm, hDD⟩ := e
      have sm2 := s1.trans (sm.trans hid_same)
      refine ⟨D, _, rfl, SqL.of hDD, ?_⟩
      refine ⟨by rw [all_true], ?_⟩
      have x2 := sm.trans hid_same
      refine ⟨_, rfl, a, items, rows, rfl, sm2 _ _ ha, RowsAt.mono sm2 hR, hz, fun H3 l its s3 l0 hl hg => ?_⟩
      have hx3 := s3 _ _ (x2 _ _ hx)
      refine ⟨_, rfl, x, _, dx, _, rfl, hx3, T.k_Change, T.n_Change_groups, (by show 0 < 1000; decide), ?_⟩
      have hlx : l ≠ x := (ne_of_none (x2 _ _ hx) l0).symm
      have l00 := sm2.free l0
      have ex : (putF "groups" (V.ref l) []) = chF l := rfl
      rw [ex]
      refine k _ (fun b o e => ?_) ⟨dx, l, its, newIn_get x0 upd_same, newIn_get l00 (by rw [upd_ne hlx]; exact hl), GrsAt.mono (fun b o e => ?_) hg⟩
      · rw [upd_ne (fun z => by rw [z, x0] at e; cases e)]
        exact s3 _ _ (sm2 _ _ e)
      · obtain ⟨e1, e2⟩ := of_newIn e
        exact newIn_get (sm2.free e1) (by rw [upd_ne (fun z => by rw [z, x2 _ _ hx] at e1; cases e1)]; exact e2)
/-- Change(rows), from a caller -/
theorem mk_change {H1 : Hp} {Q : VK} {a : Addr} {items : List V} {rows : List Rw} (ha : H1 a = some (.lst items)) (hR : RowsAt H1 items rows) (hz : rows.length + (puts rows).length ≤ 50000)
    (k : ∀ H' x, Same H1 H' → H1 x = none → ChAt K (newIn H1 H') x (inG rows) → Q (.ref x) H') (x dx : Addr) (x0 : H1 x = none) (d0 : H1 dx = none) (ne : dx ≠ x) :
    spChangeInit K [.ref x, .ref a] (upd (upd H1 dx (.own x)) x (.ins (C_Change K) dx [])) (fun v H2 => v = .non ∧ Q (.ref x) H2) E0 :=
  ⟨x, dx, a, items, rows, H1, rfl, x0, d0, ne, rfl, ha, hR, hz, fun H' s h => ⟨rfl, k H' x s x0 h⟩⟩

/-! ### Change.rows -/
theorem paired_split {α β : Type} {F : α → β → Prop} : ∀ {a : List α} {b : List β} {i : Nat} {x : α}, Paired F a b → a[i]? = some x → ∃ y, b[i]? = some y ∧ F x y := fun h e => paired_get h e
theorem rowsOf_take {gs : Gs} {i : Nat} {g : Gr} (h : gs[i]? = some g) : rowsOf (gs.take (i + 1)) = rowsOf (gs.take i) ++ rowsG g := by
  rw [take_succ_get h, rowsOf_app]
  simp [rowsOf]
theorem rowsG_len (g : Gr) : (rowsG g).length ≤ 3 := by
  unfold rowsG
  split <;> split <;> split <;> simp
theorem rowsOf_len : ∀ gs : Gs, (rowsOf gs).length ≤ 3 * gs.length
  | [] => by simp [rowsOf]
  | g :: r => by
    have h1 := rowsG_len g
    have h2 := rowsOf_len r
    simp only [rowsOf, List.length_append, List.length_cons]
    omega
/-- a list l made here, of rows; what else is new stays -/
structure LI (H0 H : Hp) (l : Addr) (rows : List Rw) : Prop where
  sm : Same H0 H
  l0 : H0 l = none
  ex : ∃ its, H l = some (.lst its) ∧ RowsAt (hid [l] (newIn H0 H)) its rows
theorem LI.push {H0 H : Hp} {l t : Addr} {rows : List Rw} {r : Rw} {vs : List V} {its : List V} (sm : Same H0 H) (l0 : H0 l = none) (hl : H l = some (.lst its)) (hR : RowsAt (hid [l] (newIn H0 H)) its rows) (t0 : H t = none)
    (hr : RowAt (hid [l] (newIn H0 (upd H t (.tup vs)))) (.ref t) r) : LI H0 (upd (upd H t (.tup vs)) l (.lst (its ++ [.ref t]))) l (rows ++ [r]) := by
  have s1 := same_new (o := HO.tup vs) t0
  have q1 : ∀ b o, b ∉ [l] → upd H t (.tup vs) b = some o → upd (upd H t (.tup vs)) l (.lst (its ++ [.ref t])) b = some o ∧ b ∉ [l] := fun b o n e => ⟨by rw [upd_ne (by simpa using n)]; exact e, n⟩
  refine ⟨fun b o e => ?_, l0, _, upd_same, paired_app (RowsAt.mono (hid2_step fun b o n e => q1 b o n (s1 _ _ e)) hR) (paired_one (RowAt.mono (hid2_step q1) hr))⟩
  rw [upd_ne (fun z => by rw [z, l0] at e; cases e)]
  exact s1 _ _ (sm _ _ e)
abbrev N_Change_rows : List Str := ["self", "found", "many", "signs", "fewer"]
theorem sc_Change_rows : FnScope N_Change_rows ["self"] (defScope s_Change_rows) := ⟨rfl, rfl, rfl, by decide +kernel, rfl, by decide +kernel, by decide +kernel⟩
def spRows (K : PySem.W.Frag) : Sp := fun vs H Q _ => ∃ (c : Addr) (gs : Gs), vs = [.ref c] ∧ ChAt K H c gs ∧ gs.length ≤ 30000 ∧ ∀ H' l, LI H H' l (rowsOf gs) → Q (.ref l) H'
theorem ok_Change_rows (T : Txt K mg) : FnR P w K mg base CX0 1 (He.ma K (He.ga K "Change") "rows") (spRows K) := by
  refine fnr_of T.d_Change_rows sc_Change_rows (fun vs H Q E h => ?_) (fun _ _ _ _ _ _ us hl => match us, hl with | [_], _ => rfl) (fun cdv A outer s H vs Q E hr h => ?_)
  · obtain ⟨c, gs, rfl, _⟩ := h
    rfl
  · obtain ⟨c, gs, rfl, ⟨dx, gl, gits, hc, hgl, hG⟩, hz, k⟩ := h
    have hlen := paired_len hG
    refine ⟨_, (pss_cons (ps_set (i := 1) sc_Change_rows.nd rfl (Or.inl rfl) (pe_lst pa_nil))
      (pss_cons (ps_for PassesOwn.never rfl (pi_list (pe_fld (pv 0) rfl)) (pg_unl rfl (pgs_cons (pg_name (i := 2) sc_Change_rows.nd rfl (Or.inl rfl)) (pgs_cons (pg_name (i := 3) sc_Change_rows.nd rfl (Or.inl rfl)) (pgs_cons (pg_name (i := 4) sc_Change_rows.nd rfl (Or.inl rfl)) pgs_nil)))) (C8.pss_cut (ps_if (pt_cmpR op_gt (pv 2) pe_int (nomark _)) (pss_one (ps_expr (pe_bm PySem.F.plainAttrs_list PySem.F.slot_list_append PySem.F.type_list_append mt_append (pv 1) (pa_cons (pe_tup (pa_cons pe_str (pa_cons (pv 2) pa_nil))) pa_nil)))) pss_nil)
      (C8.pss_cut (ps_if (pt_cmpR (op_neNil hr.units0) (pv 3) (pe_lst pa_nil) (nomark _)) (pss_one (ps_expr (pe_bm PySem.F.plainAttrs_list PySem.F.slot_list_append PySem.F.type_list_append mt_append (pv 1) (pa_cons (pe_tup (pa_cons pe_str (pa_cons (pe_callTy call_list_of (by rfl) T.g_list (by decide +kernel) (pa_cons (pv 3) pa_nil)) pa_nil))) pa_nil)))) pss_nil)
      (pss_one (ps_if (pt_cmpR op_gt (pv 4) pe_int (nomark _)) (pss_one (ps_expr (pe_bm PySem.F.plainAttrs_list PySem.F.slot_list_append PySem.F.type_list_append mt_append (pv 1) (pa_cons (pe_tup (pa_cons pe_str (pa_cons (pv 4) pa_nil))) pa_nil)))) pss_nil)))))
      (pss_one (ps_ret (pv 1))))), ?_⟩
    refine ⟨(by show 0 ≤ sizeLine; decide), fun l l0 => ?_⟩
    have s1 := same_new (o := HO.lst []) l0
    refine ⟨_, rfl, c, _, dx, _, _, rfl, s1 _ _ hc, T.k_Change, T.n_Change_groups, rfl, gl, rfl, ⟨_, SqL.of (s1 _ _ hgl)⟩, for_list (K := K) (a := gl) (xs := gits)
      (fun i σ H1 => ∃ v2 v3 v4, σ = [some (.ref c), some (.ref l), v2, v3, v4] ∧ LI H H1 l (rowsOf (gs.take i))) ⟨none, none, none, rfl, ⟨s1, l0, [], upd_same, .nil⟩⟩ (fun i σ H1 _ ⟨_, _, _, _, g⟩ => SqL.of (g.sm _ _ hgl)) ?_ ?_⟩
    · rintro i y σ H1 hi ⟨v2, v3, v4, rfl, g⟩
      obtain ⟨gr, hgr, hy⟩ := paired_get hG hi
      have hil : i < gs.length := (List.getElem?_eq_some_iff.mp hgr).1
      obtain ⟨q1, q2, rfl, hq1, hq2⟩ := hy
      rw [rowsOf_take hgr]
      have hlr := rowsOf_len (gs.take i)
      rw [List.length_take] at hlr
      generalize rowsOf (gs.take i) = R at g hlr ⊢
      obtain ⟨sm, _, its, hl, hR⟩ := g
      have hil2 := paired_len hR
      refine ⟨q1, _, rfl, SqL.of (sm _ _ hq1), rfl, _, _, rfl, _, _, rfl, _, _, rfl, rfl, ?_⟩
      -- if many > 0: found.append(("keep", many))
      refine ⟨fun σ' H' => σ' = [some (.ref c), some (.ref l), some (.int gr.many), some (.ref q2), some (.int gr.fewer)] ∧ LI H H' l (R ++ if 0 < gr.many then [.mv true gr.many] else []), ?_, ?_⟩
      · refine ⟨_, rfl, _, _, rfl, rfl, _, rfl, iteD (fun hc1 => ?_) (fun hc1 => ?_)⟩
        · refine ⟨_, rfl, .inl ⟨rfl, _, SqL.of hl⟩, _, rfl, (by show 2 ≤ sizeLine; decide), fun t t0 => ?_⟩
          refine ⟨l, _, _, rfl, rfl, (by rw [upd_ne (ne_of_none hl t0)]; exact hl), sl5 (by omega), rfl, ?_⟩
          rw [if_pos (show 0 < gr.many by omega)]
          exact LI.push sm l0 hl hR t0 ⟨t, rfl, hid_get (newIn_get (sm.free t0) upd_same) (by simpa using (ne_of_none hl t0).symm)⟩
        · rw [if_neg (show ¬ 0 < gr.many by omega), List.append_nil]
          exact ⟨rfl, sm, l0, its, hl, hR⟩
      clear hR hl sm hil2 its
      rintro σ' H' ⟨rfl, g⟩
      have hR1 : (R ++ if 0 < gr.many then [Rw.mv true gr.many] else []).length ≤ R.length + 1 := by split <;> simp
      have er : rowsG gr = (if 0 < gr.many then [Rw.mv true gr.many] else []) ++ ((if gr.signs ≠ [] then [.put gr.signs] else []) ++ (if 0 < gr.fewer then [.mv false gr.fewer] else [])) := by
        unfold rowsG
        rw [List.append_assoc]
      rw [er, ← List.append_assoc]
      clear er
      generalize (R ++ if 0 < gr.many then [Rw.mv true gr.many] else []) = R1 at g hR1 ⊢
      obtain ⟨sm, _, its, hl, hR⟩ := g
      have hil2 := paired_len hR
      have hq2' := sm _ _ hq2
      -- if signs != []: found.append(("put", list(signs)))
      refine ⟨fun σ' H' => σ' = [some (.ref c), some (.ref l), some (.int gr.many), some (.ref q2), some (.int gr.fewer)] ∧ LI H H' l (R1 ++ if gr.signs ≠ [] then [.put gr.signs] else []), ?_, ?_⟩
      · refine ⟨_, rfl, (by show 0 ≤ sizeLine; decide), fun e1 he1 => ⟨q2, e1, _, rfl, rfl, SqL.of (same_new he1 _ _ hq2'), SqL.of upd_same, _, rfl, ?_⟩⟩
        have s2 := same_new (o := HO.lst []) he1
        have hl2 := s2 _ _ hl
        have hR2 := RowsAt.mono (hid2_step (H0 := H) (ms := [l]) (ns := [l]) fun b o n e => ⟨s2 _ _ e, n⟩) hR
        have sm2 := sm.trans s2
        have hq22 := s2 _ _ hq2'
        cases hs : gr.signs with
        | nil =>
          refine iteF ⟨rfl, ?_⟩
          rw [if_neg (by simp), List.append_nil]
          exact ⟨sm2, l0, its, hl2, hR2⟩
        | cons z zs =>
          refine iteT ⟨_, rfl, .inl ⟨rfl, _, SqL.of hl2⟩, _, rfl, q2, _, rfl, .inl (SqL.of hq22), fun r r0 => ⟨(by show 2 ≤ sizeLine; decide), fun t t0 => ?_⟩⟩
          have s3 := same_new (o := HO.lst (List.map V.int gr.signs)) r0
          have hl3 := s3 _ _ hl2
          refine ⟨l, _, _, rfl, rfl, (by rw [upd_ne (ne_of_none hl3 t0)]; exact hl3), sl5 (by omega), rfl, ?_⟩
          rw [if_pos (by simp)]
          refine LI.push (sm2.trans s3) l0 hl3 (RowsAt.mono (hid2_step (H0 := H) (ms := [l]) (ns := [l]) fun b o n e => ⟨s3 _ _ e, n⟩) hR2) t0 ⟨t, r, rfl, hid_get (newIn_get ((sm2.trans s3).free t0) upd_same) (by simpa using (ne_of_none hl3 t0).symm), ?_⟩
          refine hid_get (newIn_get (sm2.free r0) ?_) (by simpa using (ne_of_none hl2 r0).symm)
          rw [upd_ne (fun z => by rw [← z, upd_same] at t0; cases t0), upd_same, ← hs]
      clear hR hl sm hil2 its hq2'
      rintro σ' H' ⟨rfl, g⟩
      have hR2 : (R1 ++ if gr.signs ≠ [] then [Rw.put gr.signs] else []).length ≤ R1.length + 1 := by split <;> simp
      rw [← List.append_assoc]
      generalize (R1 ++ if gr.signs ≠ [] then [Rw.put gr.signs] else []) = R2 at g hR2 ⊢
      obtain ⟨sm, _, its, hl, hR⟩ := g
      have hil2 := paired_len hR
      -- if fewer > 0: found.append(("take", fewer))
      refine ⟨_, rfl, _, _, rfl, rfl, _, rfl, iteD (fun hc1 => ?_) (fun hc1 => ?_)⟩
      · refine ⟨_, rfl, .inl ⟨rfl, _, SqL.of hl⟩, _, rfl, (by show 2 ≤ sizeLine; decide), fun t t0 => ?_⟩
        refine ⟨l, _, _, rfl, rfl, (by rw [upd_ne (ne_of_none hl t0)]; exact hl), sl5 (by omega), _, _, _, rfl, ?_⟩
        rw [if_pos (show 0 < gr.fewer by omega)]
        exact LI.push sm l0 hl hR t0 ⟨t, rfl, hid_get (newIn_get (sm.free t0) upd_same) (by simpa using (ne_of_none hl t0).symm)⟩
      · rw [if_neg (show ¬ 0 < gr.fewer by omega), List.append_nil]
        exact ⟨_, _, _, rfl, sm, l0, its, hl, hR⟩
    · rintro σ H1 ⟨v2, v3, v4, rfl, g⟩
      rw [hlen, List.take_of_length_le (Nat.le_refl _)] at g
      exact ⟨_, rfl, k _ _ g⟩

/-! ### Change.check_row, done, undoing -/
def needs (gs : Gs) : List Int := gs.map fun g => (g.many : Int) + g.fewer
theorem needs_sum : ∀ gs : Gs, (needs gs).sum = (need gs : Nat)
  | [] => rfl
  | g :: r => by
    have ih := needs_sum r
    unfold needs at ih ⊢
    simp only [List.map_cons, List.sum_cons, ih, need]
    omega
theorem needs_take {gs : Gs} {i : Nat} {g : Gr} (h : gs[i]? = some g) : needs (gs.take (i + 1)) = needs (gs.take i) ++ [(g.many : Int) + g.fewer] := by
  unfold needs
  rw [take_succ_get h, List.map_append]
  rfl
abbrev N_Change_check_row : List Str := ["self", "row", "many", "signs", "fewer"]
theorem sc_Change_check_row : FnScope N_Change_check_row ["self", "row"] (defScope s_Change_check_row) := ⟨rfl, rfl, rfl, by decide +kernel, rfl, by decide +kernel, by decide +kernel⟩
def spCheckRow (K : PySem.W.Frag) : Sp := fun vs H Q _ => ∃ (c a : Addr) (gs : Gs) (row : List Int), vs = [.ref c, .ref a] ∧ ChAt K H c gs ∧ H a = some (.lst (row.map V.int)) ∧ gs.length ≤ 30000 ∧ row.length ≤ 30000 ∧ need gs ≤ row.length ∧ ∀ H', Same H H' → Q .non H'
theorem ok_Change_check_row (T : Txt K mg) : FnR P w K mg base CX0 3 (He.ma K (He.ga K "Change") "check_row") (spCheckRow K) := by
  have G_allowed := ok_allowed (P := P) (w := w) (base := base) T
  have G_is_signs := ok_is_signs (P := P) (w := w) (base := base) T
  refine fnr_of T.d_Change_check_row sc_Change_check_row (fun vs H Q E h => ?_) (fun _ _ _ _ _ _ us hl => match us, hl with | [_, _], _ => rfl) (fun cdv A outer s H vs Q E hr h => ?_)
  · obtain ⟨c, a, gs, row, rfl, _⟩ := h
    rfl
  · obtain ⟨c, a, gs, row, rfl, ⟨dx, gl, gits, hc, hgl, hG⟩, ha, hz, hz2, hn, k⟩ := h
    have hlen := paired_len hG
    refine ⟨_, (pss_cons (ps_if (pt_not (pt_val (pe_callF G_is_signs (hr.mono (by decide)) T.f_is_signs T.kp_is_signs (pa_cons (pv 1) pa_nil)))) (pss_one ps_never) pss_nil)
      (pss_one (ps_expr (pe_callF G_allowed (hr.mono (by decide)) T.f_allowed T.kp_allowed (pa_cons (pe_cmpR op_le (pe_callB (cr_sum rfl) (by rfl) T.g_sum (by decide +kernel) (pa_cons (pe_lc (own := [("many", 2), ("signs", 3), ("fewer", 4)]) (g := gUnl K 3 (gCons (gName 2) (gCons (gName 3) (gCons (gName 4) gNil)))) rfl sc_Change_check_row.nd (pi_list (pe_fld (pv 0) rfl)) (blkOk_by (own := [("many", 2), ("signs", 3), ("fewer", 4)]) (N := N_Change_check_row) (sc := defScope s_Change_check_row) (by decide +kernel)) (fun _ _ _ _ _ => (pg_unl rfl (pgs_cons (pg_name (i := 2) sc_Change_check_row.nd rfl (Or.inl rfl) (Or.inr rfl)) (pgs_cons (pg_name (i := 3) sc_Change_check_row.nd rfl (Or.inl rfl) (Or.inr rfl)) (pgs_cons (pg_name (i := 4) sc_Change_check_row.nd rfl (Or.inl rfl) (Or.inr rfl)) pgs_nil))))) (fun _ _ _ _ _ => pts_nil) (fun _ _ _ _ _ => (pe_op op_add (pv 2) (pv 4)))) pa_nil)) (pe_callB call_len_seq (by rfl) T.g_len (by decide +kernel) (pa_cons (pv 1) pa_nil)) (nomark _)) pa_nil))))), ?_⟩
    refine ⟨_, rfl, a, row, rfl, ha, by omega, fun H1 s1 => ⟨true, rfl, iteF ?_⟩⟩
    refine ⟨_, rfl, c, _, dx, _, _, rfl, s1 _ _ hc, T.k_Change, T.n_Change_groups, rfl, gl, rfl, ⟨_, SqL.of (s1 _ _ hgl)⟩, fun D hD => ?_⟩
    have sD := same_new (o := HO.lst []) hD
    have s0 := s1.trans sD
    refine lc_list0 (K := K) (a := gl) (xs := gits) (fun i H2 => H2 = upd H1 D (.lst ((needs (gs.take i)).map V.int))) (by rfl) (fun i H2 _ e => by rw [e]; exact SqL.of (same_new hD _ _ (s1 _ _ hgl))) (fun i y H2 hi e => ?_) (fun H2 e => ?_)
    · obtain ⟨gr, hgr, q1, q2, rfl, hq1, hq2⟩ := paired_get hG hi
      have hil : i < gs.length := (List.getElem?_eq_some_iff.mp hgr).1
      subst e
      refine ⟨q1, _, rfl, SqL.of (same_new hD _ _ (s1 _ _ hq1)), rfl, _, _, rfl, _, _, rfl, _, _, rfl, rfl, rfl, ?_⟩
      refine ⟨_, rfl, _, rfl, _, _, rfl, rfl, _, upd_same, sl5 (by unfold needs; simp; omega), ?_⟩
      rw [upd_upd, needs_take hgr, List.map_append]
      rfl
    · subst e
      rw [hlen, List.take_of_length_le (Nat.le_refl _)]
      refine ⟨D, _, rfl, SqL.of upd_same, ?_⟩
      refine ⟨_, rfl, a, _, rfl, .inl (SqL.of (same_new hD _ _ (s1 _ _ ha))), _, _, rfl, rfl, ?_⟩
      have e1 : decide ((needs gs).sum ≤ ((row.map V.int).length : Int)) = true := by
        rw [needs_sum, List.length_map]
        exact decide_eq_true (by omega)
      refine ⟨(by show [V.bl (decide ((needs gs).sum ≤ ((row.map V.int).length : Int)))] = _; rw [e1]), ?_⟩
      exact k _ (s1.trans (same_new hD))

/-- what a loop over the groups has made so far, and where it stands -/
theorem doneG_take : ∀ {gs : Gs} {i : Nat} {g : Gr} (row : List Int), gs[i]? = some g → need (gs.take (i + 1)) = need (gs.take i) + (g.many + g.fewer) := fun {gs i g} row h => by
  rw [take_succ_get h, need_app]
  simp [need]
/-- found and what is left make what is done -/
def partG : Gs → List Int → List Int
  | [], _ => []
  | g :: r, row => row.take g.many ++ g.signs ++ partG r (row.drop (g.many + g.fewer))
theorem partG_app : ∀ (a b : Gs) (row : List Int), partG (a ++ b) row = partG a row ++ partG b (row.drop (need a))
  | [], b, row => by simp [partG, need]
  | g :: r, b, row => by simp [partG, need, partG_app r b, List.drop_drop]
theorem doneG_part : ∀ (gs : Gs) (row : List Int), doneG gs row = partG gs row ++ row.drop (need gs)
  | [], row => by simp [doneG, partG, need]
  | g :: r, row => by simp [doneG, partG, need, doneG_part r, List.drop_drop]
theorem partG_take {gs : Gs} {i : Nat} {g : Gr} (row : List Int) (h : gs[i]? = some g) : partG (gs.take (i + 1)) row = partG (gs.take i) row ++ ((row.drop (need (gs.take i))).take g.many ++ g.signs) := by
  rw [take_succ_get h, partG_app]
  simp [partG]
theorem partG_len {gs : Gs} (row : List Int) : (partG gs row).length ≤ need gs + pt gs := by
  induction gs generalizing row with
  | nil => simp [partG]
  | cons g r ih =>
    have := ih (row.drop (g.many + g.fewer))
    have e : pt (g :: r) = g.signs.length + pt r := by
      unfold pt
      simp only [rowsOf]
      rw [puts_app, puts_rowsG, List.length_append]
    simp only [partG, List.length_append, List.length_take, need, e]
    omega
theorem need_take_le (gs : Gs) (i : Nat) : need (gs.take i) ≤ need gs := by
  have h := need_app (gs.take i) (gs.drop i)
  rw [List.take_append_drop] at h
  omega
theorem pt_take_le (gs : Gs) (i : Nat) : pt (gs.take i) ≤ pt gs := by
  have h := congrArg List.length (congrArg puts (rowsOf_app (gs.take i) (gs.drop i)))
  rw [List.take_append_drop, puts_app, List.length_append] at h
  unfold pt
  omega
theorem cut_some {xs : List V} {i j : Nat} (hi : i ≤ j) (hj : j ≤ xs.length) : cutV xs (some (i : Int)) (some (j : Int)) = (xs.drop i).take (j - i) := by
  unfold cutV
  rw [HT.sIx_nat, HT.sIx_nat, Nat.min_eq_left hj, Nat.min_eq_left (by omega)]
theorem cut_from {xs : List V} {i : Nat} (hi : i ≤ xs.length) : cutV xs (some (i : Int)) none = xs.drop i := by
  unfold cutV
  rw [HT.sIx_nat, HT.sIx_none, Nat.min_eq_left hi, List.take_of_length_le]
  rw [List.length_drop]
  exact Nat.le_refl _
abbrev N_Change_done : List Str := ["self", "row", "found", "at", "many", "signs", "fewer"]
theorem sc_Change_done : FnScope N_Change_done ["self", "row"] (defScope s_Change_done) := ⟨rfl, rfl, rfl, by decide +kernel, rfl, by decide +kernel, by decide +kernel⟩
def spDone (K : PySem.W.Frag) : Sp := fun vs H Q _ => ∃ (c a : Addr) (gs : Gs) (row : List Int), vs = [.ref c, .ref a] ∧ ChAt K H c gs ∧ H a = some (.lst (row.map V.int)) ∧ gs.length ≤ 30000 ∧ row.length ≤ 30000 ∧ pt gs ≤ 30000 ∧ need gs ≤ row.length ∧
  ∀ H' l, Same H H' → H l = none → H' l = some (.lst ((doneG gs row).map V.int)) → Q (.ref l) H'
theorem ok_Change_done (T : Txt K mg) : FnR P w K mg base CX0 4 (He.ma K (He.ga K "Change") "done") (spDone K) := by
  have G_Change_check_row := ok_Change_check_row (P := P) (w := w) (base := base) T
  refine fnr_of T.d_Change_done sc_Change_done (fun vs H Q E h => ?_) (fun _ _ _ _ _ _ us hl => match us, hl with | [_, _], _ => rfl) (fun cdv A outer s H vs Q E hr h => ?_)
  · obtain ⟨c, a, gs, row, rfl, _⟩ := h
    rfl
  · obtain ⟨c, a, gs, row, rfl, hC, ha, hz, hz2, hz3, hn, k⟩ := h
    obtain ⟨dx, gl, gits, hc, hgl, hG⟩ := id hC
    have hlen := paired_len hG
    refine ⟨_, (pss_cons (ps_expr (pe_methR (pv 0) T.k_Change T.m_Change_check_row G_Change_check_row (hr.mono (by decide)) pass0 (pa_cons (pv 1) pa_nil)))
      (pss_cons (ps_set (i := 2) sc_Change_done.nd rfl (Or.inl rfl) (pe_lst pa_nil))
      (pss_cons (ps_set (i := 3) sc_Change_done.nd rfl (Or.inl rfl) pe_int)
      (pss_cons (ps_for PassesOwn.never rfl (pi_list (pe_fld (pv 0) rfl)) (pg_unl rfl (pgs_cons (pg_name (i := 4) sc_Change_done.nd rfl (Or.inl rfl)) (pgs_cons (pg_name (i := 5) sc_Change_done.nd rfl (Or.inl rfl)) (pgs_cons (pg_name (i := 6) sc_Change_done.nd rfl (Or.inl rfl)) pgs_nil)))) (pss_cons (ps_expr (pe_bm PySem.F.plainAttrs_list PySem.F.slot_list_extend PySem.F.type_list_extend mt_extend (pv 2) (pa_cons (pe_op op_cat (pe_slice sl_list (pv 1) (po_some (pv 3)) (po_some (pe_op op_add (pv 3) (pv 4)))) (pv 5)) pa_nil)))
      (pss_one (ps_aug (i := 3) sc_Change_done.nd rfl (Or.inl rfl) (pe_op op_add (pv 4) (pv 6)) ip_add))))
      (pss_one (ps_ret (pe_op op_cat (pv 2) (pe_slice sl_list (pv 1) (po_some (pv 3)) po_none)))))))), ?_⟩
    refine ⟨_, rfl, c, dx, _, rfl, hc, rfl, _, rfl, c, a, gs, row, rfl, hC, ha, hz, hz2, hn, fun H1 s1 => ?_⟩
    refine ⟨(by show 0 ≤ sizeLine; decide), fun l l0 => ?_⟩
    have sl := same_new (o := HO.lst []) l0
    have s1l := s1.trans sl
    refine ⟨_, rfl, c, _, dx, _, _, rfl, s1l _ _ hc, T.k_Change, T.n_Change_groups, rfl, gl, rfl, ⟨_, SqL.of (s1l _ _ hgl)⟩, for_list (K := K) (a := gl) (xs := gits)
      (fun i σ H2 => ∃ v4 v5 v6, σ = [some (.ref c), some (.ref a), some (.ref l), some (.int (need (gs.take i))), v4, v5, v6] ∧ Same H H2 ∧ H2 l = some (.lst ((partG (gs.take i) row).map V.int)))
      ⟨none, none, none, rfl, s1l, upd_same⟩ (fun i σ H2 _ ⟨_, _, _, _, g, _⟩ => SqL.of (g _ _ hgl)) ?_ ?_⟩
    · rintro i y σ H2 hi ⟨v4, v5, v6, rfl, sm, hl⟩
      obtain ⟨gr, hgr, q1, q2, rfl, hq1, hq2⟩ := paired_get hG hi
      have hnt := need_take_le gs (i + 1)
      have hen := doneG_take row hgr
      have hll := partG_len (gs := gs.take i) row
      have hll2 := partG_len (gs := gs.take (i + 1)) row
      have hpt := pt_take_le gs i
      have hpt2 := pt_take_le gs (i + 1)
      have hnl := need_take_le gs i
      rw [partG_take row hgr] at hll2 ⊢
      rw [hen] at hnt ⊢
      refine ⟨q1, _, rfl, SqL.of (sm _ _ hq1), rfl, _, _, rfl, _, _, rfl, _, _, rfl, rfl, ?_⟩
      -- found.extend(row[at:at + many] + signs)
      refine ⟨_, rfl, .inl ⟨rfl, _, SqL.of hl⟩, _, rfl, _, rfl, _, rfl, _, rfl, _, rfl, _, _, rfl, rfl, _, rfl, a, _, rfl, SqL.of (sm _ _ ha), fun r r0 => ?_⟩
      have er : cutV (row.map V.int) (some ((need (gs.take i) : Nat) : Int)) (some ((need (gs.take i) : Nat) + (gr.many : Int))) = ((row.drop (need (gs.take i))).take gr.many).map V.int := by
        rw [show ((need (gs.take i) : Nat) : Int) + (gr.many : Int) = ((need (gs.take i) + gr.many : Nat) : Int) by omega, cut_some (by omega) (by rw [List.length_map]; omega), Nat.add_sub_cancel_left, List.map_take, List.map_drop]
      simp only [er]
      have sr := same_new (o := HO.lst (((row.drop (need (gs.take i))).take gr.many).map V.int)) r0
      have hl3 := sr _ _ hl
      simp only [List.length_append] at hll2
      refine ⟨_, rfl, r, q2, _, _, rfl, rfl, upd_same, sr _ _ (sm _ _ hq2), sz5 (by simp only [List.length_map]; omega), fun e e0 => ?_⟩
      have se := same_new (o := HO.lst (((row.drop (need (gs.take i))).take gr.many).map V.int ++ gr.signs.map V.int)) e0
      refine ⟨l, e, _, _, rfl, rfl, se _ _ hl3, upd_same, sz5 (by simp only [List.length_append, List.length_map]; omega), ?_⟩
      -- at += many + fewer
      refine ⟨_, rfl, _, rfl, _, rfl, _, _, rfl, rfl, _, _, rfl, rfl, ?_⟩
      refine ⟨some (.int gr.many), some (.ref q2), some (.int gr.fewer), ?_, fun b o h => ?_, ?_⟩
      · show [_, _, _, some (V.int (((need (gs.take i) : Nat) : Int) + ((gr.many : Int) + (gr.fewer : Int)))), _, _, _] = _
        rw [show (((need (gs.take i) : Nat) : Int) + ((gr.many : Int) + (gr.fewer : Int))) = ((need (gs.take i) + (gr.many + gr.fewer) : Nat) : Int) by omega]
      · rw [upd_ne (fun z => by rw [z, s1.free l0] at h; cases h)]
        exact se _ _ (sr _ _ (sm _ _ h))
      · rw [upd_same, List.map_append, List.map_append]
    · rintro σ H2 ⟨v4, v5, v6, rfl, sm, hl⟩
      rw [hlen, List.take_of_length_le (Nat.le_refl _)] at hl ⊢
      have hll := partG_len (gs := gs) row
      refine ⟨_, rfl, _, rfl, _, rfl, _, rfl, a, _, rfl, SqL.of (sm _ _ ha), fun r r0 => ?_⟩
      have er : cutV (row.map V.int) (some ((need gs : Nat) : Int)) none = (row.drop (need gs)).map V.int := by
        rw [cut_from (by rw [List.length_map]; omega), List.map_drop]
      simp only [er]
      have sr := same_new (o := HO.lst ((row.drop (need gs)).map V.int)) r0
      refine ⟨l, r, _, _, rfl, rfl, sr _ _ hl, upd_same, sz5 (by simp only [List.length_map, List.length_drop]; omega), fun e e0 => ?_⟩
      refine k _ e ((sm.trans sr).trans (same_new e0)) ((sm.trans sr).free e0) ?_
      rw [upd_same, doneG_part, List.map_append]
end
end K94
set_option maxRecDepth 100000
set_option maxHeartbeats 4000000
/-! K94C: undoing, one change and then another. -/
namespace K94
open PySem PySem.Spec PyProof.Rows L2
section
variable {P : Program} {w : World} {K : PySem.W.Frag} {mg : Str → Option Value} {base : Heap}
/-- rows made so far by undoing -/
def undP : Gs → List Int → List Rw
  | [], _ => []
  | g :: r, row => .mv true g.many :: .put ((row.drop g.many).take g.fewer) :: .mv false g.signs.length :: undP r (row.drop (g.many + g.fewer))
theorem undP_eq : ∀ (gs : Gs) (row : List Int), undP gs row = undoR gs row
  | [], _ => rfl
  | g :: r, row => by simp [undP, undoR, undP_eq r]
theorem undP_app : ∀ (a b : Gs) (row : List Int), undP (a ++ b) row = undP a row ++ undP b (row.drop (need a))
  | [], b, row => by simp [undP, need]
  | g :: r, b, row => by simp [undP, need, undP_app r b, List.drop_drop]
theorem undP_take {gs : Gs} {i : Nat} {g : Gr} (row : List Int) (h : gs[i]? = some g) : undP (gs.take (i + 1)) row = undP (gs.take i) row ++ [.mv true g.many, .put (((row.drop (need (gs.take i))).drop g.many).take g.fewer), .mv false g.signs.length] := by
  rw [take_succ_get h, undP_app]
  simp [undP]
theorem undP_len : ∀ (gs : Gs) (row : List Int), (undP gs row).length = 3 * gs.length
  | [], _ => rfl
  | g :: r, row => by
    simp only [undP, List.length_cons, undP_len r]
    omega
theorem undP_puts : ∀ (gs : Gs) (row : List Int), (puts (undP gs row)).length ≤ need gs
  | [], _ => by simp [undP, puts]
  | g :: r, row => by
    have := undP_puts r (row.drop (g.many + g.fewer))
    simp only [undP, puts, List.length_append, List.length_take, need]
    omega
abbrev N_Change_undoing : List Str := ["self", "row", "rows", "at", "many", "signs", "fewer"]
theorem sc_Change_undoing : FnScope N_Change_undoing ["self", "row"] (defScope s_Change_undoing) := ⟨rfl, rfl, rfl, by decide +kernel, rfl, by decide +kernel, by decide +kernel⟩
def spUndoing (K : PySem.W.Frag) : Sp := fun vs H Q _ => ∃ (c a : Addr) (gs : Gs) (row : List Int), vs = [.ref c, .ref a] ∧ ChAt K H c gs ∧ H a = some (.lst (row.map V.int)) ∧ gs.length ≤ 10000 ∧ row.length ≤ 10000 ∧ need gs ≤ row.length ∧
  ∀ H' x, Same H H' → H x = none → ChAt K (newIn H H') x (undoG gs row) → Q (.ref x) H'
theorem ok_Change_undoing (T : Txt K mg) : FnR P w K mg base CX0 6 (He.ma K (He.ga K "Change") "undoing") (spUndoing K) := by
  have G_Change_check_row := ok_Change_check_row (P := P) (w := w) (base := base) T
  have G_Change := ok_Change_init (P := P) (w := w) (base := base) T
  refine fnr_of T.d_Change_undoing sc_Change_undoing (fun vs H Q E h => ?_) (fun _ _ _ _ _ _ us hl => match us, hl with | [_, _], _ => rfl) (fun cdv A outer s H vs Q E hr h => ?_)
  · obtain ⟨c, a, gs, row, rfl, _⟩ := h
    rfl
  · obtain ⟨c, a, gs, row, rfl, hC, ha, hz, hz2, hn, k⟩ := h
    obtain ⟨dx, gl, gits, hc, hgl, hG⟩ := id hC
    have hlen := paired_len hG
    refine ⟨_, (pss_cons (ps_expr (pe_methR (pv 0) T.k_Change T.m_Change_check_row G_Change_check_row (hr.mono (by decide)) pass0 (pa_cons (pv 1) pa_nil)))
      (pss_cons (ps_set (i := 2) sc_Change_undoing.nd rfl (Or.inl rfl) (pe_lst pa_nil))
      (pss_cons (ps_set (i := 3) sc_Change_undoing.nd rfl (Or.inl rfl) pe_int)
      (pss_cons (ps_for PassesOwn.never rfl (pi_list (pe_fld (pv 0) rfl)) (pg_unl rfl (pgs_cons (pg_name (i := 4) sc_Change_undoing.nd rfl (Or.inl rfl)) (pgs_cons (pg_name (i := 5) sc_Change_undoing.nd rfl (Or.inl rfl)) (pgs_cons (pg_name (i := 6) sc_Change_undoing.nd rfl (Or.inl rfl)) pgs_nil)))) (pss_cons (ps_aug (i := 3) sc_Change_undoing.nd rfl (Or.inl rfl) (pv 4) ip_add)
      (pss_cons (ps_expr (pe_bm PySem.F.plainAttrs_list PySem.F.slot_list_extend PySem.F.type_list_extend mt_extend (pv 2) (pa_cons (pe_lst (pa_cons (pe_tup (pa_cons pe_str (pa_cons (pv 4) pa_nil))) (pa_cons (pe_tup (pa_cons pe_str (pa_cons (pe_slice sl_list (pv 1) (po_some (pv 3)) (po_some (pe_op op_add (pv 3) (pv 6)))) pa_nil))) (pa_cons (pe_tup (pa_cons pe_str (pa_cons (pe_callB call_len_seq (by rfl) T.g_len (by decide +kernel) (pa_cons (pv 5) pa_nil)) pa_nil))) pa_nil)))) pa_nil)))
      (pss_one (ps_aug (i := 3) sc_Change_undoing.nd rfl (Or.inl rfl) (pv 6) ip_add)))))
      (pss_one (ps_ret (StX.pe_makeR T.mk_Change G_Change (hr.mono (by decide)) (by rfl) T.c_Change pass0 (pa_cons (pv 2) pa_nil)))))))), ?_⟩
    refine ⟨_, rfl, c, dx, _, rfl, hc, rfl, _, rfl, c, a, gs, row, rfl, hC, ha, by omega, by omega, hn, fun H1 s1 => ?_⟩
    refine ⟨(by show 0 ≤ sizeLine; decide), fun l l0 => ?_⟩
    have sl := same_new (o := HO.lst []) l0
    have s1l := s1.trans sl
    refine ⟨_, rfl, c, _, dx, _, _, rfl, s1l _ _ hc, T.k_Change, T.n_Change_groups, rfl, gl, rfl, ⟨_, SqL.of (s1l _ _ hgl)⟩, for_list (K := K) (a := gl) (xs := gits)
      (fun i σ H2 => ∃ v4 v5 v6, σ = [some (.ref c), some (.ref a), some (.ref l), some (.int (need (gs.take i))), v4, v5, v6] ∧ LI H H2 l (undP (gs.take i) row))
      ⟨none, none, none, rfl, s1l, s1.free l0, [], upd_same, .nil⟩ (fun i σ H2 _ ⟨_, _, _, _, g⟩ => SqL.of (g.sm _ _ hgl)) ?_ ?_⟩
    · rintro i y σ H2 hi ⟨v4, v5, v6, rfl, sm, l0', its, hl, hR⟩
      obtain ⟨gr, hgr, q1, q2, rfl, hq1, hq2⟩ := paired_get hG hi
      have hil : i < gs.length := (List.getElem?_eq_some_iff.mp hgr).1
      have hil2 := paired_len hR
      rw [undP_len, List.length_take] at hil2
      have hnt := need_take_le gs (i + 1)
      have hen := doneG_take row hgr
      rw [undP_take row hgr]
      rw [hen] at hnt ⊢
      refine ⟨q1, _, rfl, SqL.of (sm _ _ hq1), rfl, _, _, rfl, _, _, rfl, _, _, rfl, rfl, ?_⟩
      -- at += many
      refine ⟨_, rfl, _, rfl, _, _, rfl, rfl, ?_⟩
      -- rows.extend([..])
      refine ⟨_, rfl, .inl ⟨rfl, _, SqL.of hl⟩, _, rfl, (by show 2 ≤ sizeLine; decide), fun t1 t1n => ?_⟩
      have e1 := same_new (o := HO.tup [V.str "keep", V.int gr.many]) t1n
      refine ⟨_, rfl, _, rfl, _, rfl, _, rfl, _, rfl, _, _, rfl, rfl, _, rfl, a, _, rfl, SqL.of (e1 _ _ (sm _ _ ha)), fun r r0 => ?_⟩
      have er : cutV (row.map V.int) (some (((need (gs.take i) : Nat) : Int) + (gr.many : Int))) (some (((need (gs.take i) : Nat) : Int) + (gr.many : Int) + (gr.fewer : Int))) = (((row.drop (need (gs.take i))).drop gr.many).take gr.fewer).map V.int := by
        rw [show ((need (gs.take i) : Nat) : Int) + (gr.many : Int) + (gr.fewer : Int) = ((need (gs.take i) + gr.many + gr.fewer : Nat) : Int) by omega, show ((need (gs.take i) : Nat) : Int) + (gr.many : Int) = ((need (gs.take i) + gr.many : Nat) : Int) by omega,
          cut_some (by omega) (by rw [List.length_map]; omega), Nat.add_sub_cancel_left, List.drop_drop, List.map_take, List.map_drop]
      simp only [er]
      have e2 := same_new (o := HO.lst ((((row.drop (need (gs.take i))).drop gr.many).take gr.fewer).map V.int)) r0
      refine ⟨(by show 2 ≤ sizeLine; decide), fun t2 t2n => ?_⟩
      have e3 := same_new (o := HO.tup [V.str "put", V.ref r]) t2n
      refine ⟨_, rfl, q2, _, rfl, .inl (SqL.of (e3 _ _ (e2 _ _ (e1 _ _ (sm _ _ hq2))))), (by show 2 ≤ sizeLine; decide), fun t3 t3n => ?_⟩
      have e4 := same_new (o := HO.tup [V.str "take", V.int ((gr.signs.map V.int).length : Nat)]) t3n
      refine ⟨(by show 3 ≤ sizeLine; decide), fun e en => ?_⟩
      have e5 := same_new (o := HO.lst [V.ref t1, V.ref t2, V.ref t3]) en
      have e35 := (e3.trans e4).trans e5
      have e25 := e2.trans e35
      have e15 := e1.trans e25
      have hl7 := e15 _ _ hl
      refine ⟨l, e, _, _, rfl, rfl, hl7, upd_same, sz5 (by simp only [List.length_cons, List.length_nil]; omega), ?_⟩
      -- at += fewer
      refine ⟨_, rfl, _, rfl, _, _, rfl, rfl, ?_⟩
      have k1 := e25 _ _ (upd_same (H := H2) (a := t1) (o := HO.tup [V.str "keep", V.int gr.many]))
      have k2 := e35 _ _ (upd_same (a := r) (o := HO.lst ((((row.drop (need (gs.take i))).drop gr.many).take gr.fewer).map V.int)))
      have k3 := (e4.trans e5) _ _ (upd_same (a := t2) (o := HO.tup [V.str "put", V.ref r]))
      have k4 := e5 _ _ (upd_same (a := t3) (o := HO.tup [V.str "take", V.int ((gr.signs.map V.int).length : Nat)]))
      have n1 := sm.free t1n
      have n2 := (sm.trans e1).free r0
      have n3 := ((sm.trans e1).trans e2).free t2n
      have n4 := (((sm.trans e1).trans e2).trans e3).free t3n
      have m1 := ne_of_none hl t1n
      have m2 := ne_of_none (e1 _ _ hl) r0
      have m3 := ne_of_none (e2 _ _ (e1 _ _ hl)) t2n
      have m4 := ne_of_none (e3 _ _ (e2 _ _ (e1 _ _ hl))) t3n
      have sm7 := sm.trans e15
      generalize hH7 : upd (upd (upd (upd (upd H2 t1 (HO.tup [V.str "keep", V.int gr.many])) r (HO.lst ((((row.drop (need (gs.take i))).drop gr.many).take gr.fewer).map V.int))) t2 (HO.tup [V.str "put", V.ref r])) t3 (HO.tup [V.str "take", V.int ((gr.signs.map V.int).length : Nat)])) e (HO.lst [V.ref t1, V.ref t2, V.ref t3]) = H7 at *
      have put7 : ∀ b o, H7 b = some o → l ≠ b → H b = none → hid [l] (newIn H (upd H7 l (HO.lst (its ++ [V.ref t1, V.ref t2, V.ref t3])))) b = some o := fun b o h1 h2 h3 => hid_get (newIn_get h3 (by rw [upd_ne h2.symm]; exact h1)) (by simpa using h2.symm)
      refine ⟨some (.int gr.many), some (.ref q2), some (.int gr.fewer), ?_, fun b o h => ?_, l0', _, upd_same, ?_⟩
      · show [_, _, _, some (V.int (((need (gs.take i) : Nat) : Int) + (gr.many : Int) + (gr.fewer : Int))), _, _, _] = _
        rw [show ((need (gs.take i) : Nat) : Int) + (gr.many : Int) + (gr.fewer : Int) = ((need (gs.take i) + (gr.many + gr.fewer) : Nat) : Int) by omega]
      · rw [upd_ne (fun z => by rw [z, l0'] at h; cases h)]
        exact sm7 _ _ h
      · refine paired_app (RowsAt.mono (hid2_step fun b o n h => ⟨?_, n⟩) hR) (.cons ⟨t1, rfl, put7 _ _ k1 m1 n1⟩ (.cons ⟨t2, r, rfl, put7 _ _ k3 m3 n3, put7 _ _ k2 m2 n2⟩ (.cons ⟨t3, rfl, ?_⟩ .nil)))
        · rw [upd_ne (by simpa using n)]
          exact e15 _ _ h
        · rw [List.length_map] at k4
          exact put7 _ _ k4 m4 n4
    · rintro σ H2 ⟨v4, v5, v6, rfl, g⟩
      rw [hlen, List.take_of_length_le (Nat.le_refl _), undP_eq] at g
      obtain ⟨sm, _, its, hl, hR⟩ := g
      have h1 := undP_len gs row
      have h2 := undP_puts gs row
      rw [undP_eq] at h1 h2
      refine ⟨_, rfl, fun x dx' x0 d0 ne => ?_⟩
      exact mk_change hl (RowsAt.mono (hid_same.trans newIn_same) hR) (by omega) (fun H3 x s3 x0 hch => k _ x (sm.trans s3) (sm.free x0) (ChAt.mono (newIn_late sm) hch)) x dx' x0 d0 ne
end
end K94
set_option maxRecDepth 100000
set_option maxHeartbeats 4000000
/-! K94D: rows taken off a list of rows. -/
namespace K94
open PySem PySem.Spec PyProof.Rows L2
/-- old things as in J, new ones as in H' -/
def grow (J H H' : Hp) : Hp := fun b => if (H b).isSome then J b else H' b
section
variable {J H H' H1 H2 : Hp} {ms ns : List Addr} {b p : Addr} {o : HO}
theorem grow_new (h : H b = none) (e : H' b = some o) : grow J H H' b = some o := by unfold grow; rw [h]; exact e
theorem grow_old (s : Same J H) : Same J (grow J H H') := fun b o e => by
  unfold grow
  rw [s b o e]
  exact e
theorem of_grow (e : grow J H H' b = some o) : (J b = some o ∧ (H b).isSome = true) ∨ (H b = none ∧ H' b = some o) := by
  unfold grow at e
  split at e
  · rename_i h
    exact .inl ⟨e, h⟩
  · rename_i h
    refine .inr ⟨?_, e⟩
    cases q : H b with
    | none => rfl
    | some x => rw [q] at h; simp at h
theorem grow_step (h : ∀ b o, b ∉ ms → H b = none → H1 b = some o → H2 b = some o ∧ b ∉ ns) (hn : ∀ b, b ∉ ms → (H b).isSome = true → b ∉ ns) : Same (hid ms (grow J H H1)) (hid ns (grow J H H2)) := fun b o e => by
  obtain ⟨e1, n⟩ := of_hid e
  rcases of_grow e1 with ⟨h1, h2⟩ | ⟨h1, h2⟩
  · refine hid_get ?_ (hn b n h2)
    unfold grow
    rw [if_pos h2]
    exact h1
  · obtain ⟨h3, h4⟩ := h b o n h1 h2
    exact hid_get (grow_new h1 h3) h4
/-- what grow holds is there, if the old ones of J are -/
theorem grow_same (s : ∀ b o, J b = some o → H' b = some o) : Same (grow J H H') H' := fun b o e => by
  rcases of_grow e with ⟨h1, _⟩ | ⟨_, h2⟩
  · exact s b o h1
  · exact h2
end
theorem Room.unitsT {k : Nat} {A : Around} (r : L2.Room k A) : A.units + 65 < cLine := by have := r.un; omega
section
variable {P : Program} {w : World} {K : PySem.W.Frag} {mg : Str → Option Value} {base : Heap}
/-! ### parted -/
abbrev N_parted : List Str := ["word", "what", "many"]
theorem sc_parted : FnScope N_parted ["word", "what", "many"] (defScope s_parted) := ⟨rfl, rfl, rfl, by decide +kernel, rfl, by decide +kernel, by decide +kernel⟩
def spPartedK : Sp := fun vs H Q _ => ∃ (n m : Nat), vs = [.str "keep", .int n, .int m] ∧ ∀ t, H t = none → Q (.ref t) (upd H t (.tup [.int (min n m : Nat), .int (min n m : Nat), .int (n - min n m : Nat)]))
def spPartedP (K : PySem.W.Frag) : Sp := fun vs H Q _ => ∃ (q : Addr) (xs : List Int) (m : Nat), vs = [.str "put", .ref q, .int m] ∧ H q = some (.lst (xs.map V.int)) ∧
  ∀ H' t r1 r2, Same H H' → H t = none → H r1 = none → H r2 = none → H' t = some (.tup [.ref r1, .int ((xs.take m).length : Nat), .ref r2]) → H' r1 = some (.lst ((xs.take m).map V.int)) → H' r2 = some (.lst ((xs.drop m).map V.int)) → Q (.ref t) H'
theorem cut_to {xs : List V} {j : Nat} : cutV xs none (some (j : Int)) = xs.take j := by
  unfold cutV
  rw [HT.sIx_nat, HT.sIx_none, List.drop_zero, Nat.sub_zero]
  by_cases h : j ≤ xs.length
  · rw [Nat.min_eq_left h]
  · rw [Nat.min_eq_right (by omega), List.take_of_length_le (Nat.le_refl _), List.take_of_length_le (by omega)]
theorem cut_from' {xs : List V} {i : Nat} : cutV xs (some (i : Int)) none = xs.drop i := by
  by_cases h : i ≤ xs.length
  · exact cut_from h
  · unfold cutV
    rw [HT.sIx_nat, HT.sIx_none, Nat.min_eq_right (by omega), List.drop_of_length_le (Nat.le_refl _), List.drop_of_length_le (by omega)]
    simp
theorem min_if (n m : Nat) : (if (m : Int) < (n : Int) then (m : Int) else (n : Int)) = ((min n m : Nat) : Int) := by
  by_cases h : (m : Int) < (n : Int)
  · rw [if_pos h]
    omega
  · rw [if_neg h]
    omega
theorem ok_parted (T : Txt K mg) : FnR P w K mg base CX0 1 (He.ga K "parted") (fun vs H Q E => spPartedK vs H Q E ∨ spPartedP K vs H Q E) := by
  refine fnr_of T.d_parted sc_parted (fun vs H Q E h => ?_) (fun _ _ _ _ _ _ us hl => match us, hl with | [_, _, _], _ => rfl) (fun cdv A outer s H vs Q E hr h => ?_)
  · rcases h with ⟨n, m, rfl, _⟩ | ⟨q, xs, m, rfl, _⟩ <;> rfl
  · refine ⟨_, (pss_cons (ps_if (pt_cmpR op_eq (pv 0) pe_str (nomark _)) (pss_one (ps_ret (pe_tup (pa_cons (pe_slice sl_list (pv 1) po_none (po_some (pv 2))) (pa_cons (pe_callB call_len_seq (by rfl) T.g_len (by decide +kernel) (pa_cons (pe_slice sl_list (pv 1) po_none (po_some (pv 2))) pa_nil)) (pa_cons (pe_slice sl_list (pv 1) (po_some (pv 2)) po_none) pa_nil)))))) pss_nil)
      (pss_one (ps_ret (pe_tup (pa_cons (pe_callB (call_min2 rfl) (by rfl) T.g_min (by decide +kernel) (pa_cons (pv 1) (pa_cons (pv 2) pa_nil))) (pa_cons (pe_callB (call_min2 rfl) (by rfl) T.g_min (by decide +kernel) (pa_cons (pv 1) (pa_cons (pv 2) pa_nil))) (pa_cons (pe_op op_sub (pv 1) (pe_callB (call_min2 rfl) (by rfl) T.g_min (by decide +kernel) (pa_cons (pv 1) (pa_cons (pv 2) pa_nil)))) pa_nil))))))), ?_⟩
    rcases h with ⟨n, m, rfl, k⟩ | ⟨q, xs, m, rfl, hq, k⟩
    · refine ⟨_, rfl, rfl, _, rfl, ?_⟩
      rw [show decide (V.str "keep" = V.str "put") = false from by decide +kernel]
      refine iteF ?_
      refine ⟨_, rfl, _, rfl, _, _, rfl, _, rfl, _, rfl, _, _, rfl, _, rfl, _, rfl, _, rfl, _, _, rfl, _, _, rfl, rfl, (by show 3 ≤ sizeLine; decide), fun t t0 => ?_⟩
      have h1 := k t t0
      rw [min_if]
      show Q (V.ref t) (upd H t (HO.tup [V.int (min n m : Nat), V.int (min n m : Nat), V.int ((n : Int) - ((min n m : Nat) : Int))]))
      rw [show ((n : Int) - ((min n m : Nat) : Int)) = ((n - min n m : Nat) : Int) by omega]
      exact h1
    · refine ⟨_, rfl, rfl, _, rfl, ?_⟩
      refine iteT ?_
      refine ⟨_, rfl, _, rfl, _, rfl, q, _, rfl, SqL.of hq, fun r1 r10 => ?_⟩
      have s1 := same_new (o := HO.lst (cutV (xs.map V.int) none (some (m : Int)))) r10
      refine ⟨_, rfl, _, rfl, _, rfl, q, _, rfl, SqL.of (s1 _ _ hq), fun r3 r30 => ?_⟩
      have s2 := same_new (o := HO.lst (cutV (xs.map V.int) none (some (m : Int)))) r30
      refine ⟨r3, _, rfl, .inl (SqL.of upd_same), ?_⟩
      refine ⟨_, rfl, _, rfl, _, rfl, q, _, rfl, SqL.of (s2 _ _ (s1 _ _ hq)), fun r2 r20 => ?_⟩
      have s3 := same_new (o := HO.lst (cutV (xs.map V.int) (some (m : Int)) none)) r20
      refine ⟨(by show 3 ≤ sizeLine; decide), fun t t0 => ?_⟩
      have s4 := same_new (o := HO.tup [V.ref r1, V.int ((cutV (xs.map V.int) none (some (m : Int))).length : Nat), V.ref r2]) t0
      refine k _ t r1 r2 (((s1.trans s2).trans s3).trans s4) ((s1.trans (s2.trans s3)).free t0) r10 ((s1.trans s2).free r20) ?_ ?_ ?_
      · rw [upd_same, cut_to, ← List.map_take, List.length_map]
      · have h1 := ((s2.trans s3).trans s4) _ _ (upd_same (H := H) (a := r1) (o := HO.lst (cutV (xs.map V.int) none (some (m : Int)))))
        rw [h1, cut_to, List.map_take]
      · have h1 := s4 _ _ (upd_same (a := r2) (o := HO.lst (cutV (xs.map V.int) (some (m : Int)) none)))
        rw [h1, cut_from', List.map_drop]

/-! ### put_off -/
theorem pop0 {x : V} {xs : List V} : seqIndex? 0 (x :: xs).length = some 0 := by
  rw [seqIndex_of (by decide) (by simp only [List.length_cons]; omega)]
  rfl
abbrev N_put_off : List Str := ["left"]
theorem sc_put_off : FnScope N_put_off ["left"] (defScope s_put_off) := ⟨rfl, rfl, rfl, by decide +kernel, rfl, by decide +kernel, by decide +kernel⟩
def spPutOff (K : PySem.W.Frag) : Sp := fun vs H Q _ => ∃ (l : Addr) (its : List V) (rows : List Rw) (J : Hp), vs = [.ref l] ∧ H l = some (.lst its) ∧ Same J H ∧ J l = none ∧ RowsAt J its rows ∧
  ∀ H' p its1 its2, (∀ b o, b ≠ l → H b = some o → H' b = some o) → H p = none → H' p = some (.lst its1) → H' l = some (.lst its2) → RowsAt J its1 (putOff rows).1 → RowsAt J its2 (putOff rows).2 → Q (.ref p) H'
theorem ok_put_off (T : Txt K mg) : FnR P w K mg base CX0 1 (He.ga K "put_off") (spPutOff K) := by
  refine fnr_of T.d_put_off sc_put_off (fun vs H Q E h => ?_) (fun _ _ _ _ _ _ us hl => match us, hl with | [_], _ => rfl) (fun cdv A outer s H vs Q E hr h => ?_)
  · obtain ⟨l, its, rows, J, rfl, _⟩ := h
    rfl
  · obtain ⟨l, its, rows, J, rfl, hl, sJ, hJ, hR, k⟩ := h
    refine ⟨_, (pss_cons (ps_if (PW.pt (pw_and (pt_cmpR (op_neNil hr.units0) (pv 0) (pe_lst pa_nil) (nomark _)) (pw_and1 (pt_cmpR op_eq (pe_ix ix_tup (pe_ix ix_list (pv 0) pe_int (fun _ _ => rfl)) pe_int (fun _ _ => rfl)) pe_str (nomark _))))) (pss_one (ps_ret (pe_lst (pa_cons (pe_bm PySem.F.plainAttrs_list PySem.F.slot_list_pop PySem.F.type_list_pop mt_popAt (pv 0) (pa_cons pe_int pa_nil)) pa_nil)))) pss_nil)
      (pss_one (ps_ret (pe_lst pa_nil)))), ?_⟩
    refine ⟨_, rfl, (by show 0 ≤ sizeLine; decide), fun e e0 => ⟨l, e, _, rfl, rfl, SqL.of (same_new e0 _ _ hl), SqL.of upd_same, _, rfl, ?_⟩⟩
    have s1 := same_new (o := HO.lst []) e0
    have hl1 := s1 _ _ hl
    have no : ∀ (H1 : Hp), Same H H1 → H1 l = some (.lst its) → putOff rows = ([], rows) → ∀ p, H1 p = none → Q (.ref p) (upd H1 p (.lst [])) := fun H1 sH h1 ep p p0 => by
      rw [ep] at k
      exact k _ p [] its (fun b o hb h => same_new p0 _ _ (sH _ _ h)) (sH.free p0) upd_same (same_new p0 _ _ h1) .nil hR
    cases hR with
    | nil => exact iteF (iteF ⟨(by show 0 ≤ sizeLine; decide), fun p p0 => no _ s1 hl1 rfl p p0⟩)
    | cons hx ht =>
      rename_i x r xs rs
      refine iteT ?_
      cases r with
      | mv b n =>
        obtain ⟨t, rfl, ht'⟩ := hx
        refine ⟨_, rfl, l, _, _, _, rfl, rfl, SqL.of hl1, atI_nat (j := 0) rfl, t, _, _, _, rfl, rfl, SqT.of (s1 _ _ (sJ _ _ ht')), atI_nat (j := 0) rfl, rfl, _, rfl, ?_⟩
        rw [wd_put]
        exact iteF ⟨(by show 0 ≤ sizeLine; decide), fun p p0 => no _ s1 hl1 rfl p p0⟩
      | put zs =>
        obtain ⟨t, q, rfl, ht', hq'⟩ := hx
        refine ⟨_, rfl, l, _, _, _, rfl, rfl, SqL.of hl1, atI_nat (j := 0) rfl, t, _, _, _, rfl, rfl, SqT.of (s1 _ _ (sJ _ _ ht')), atI_nat (j := 0) rfl, rfl, _, rfl, ?_⟩
        refine iteT ⟨_, rfl, .inl ⟨rfl, _, SqL.of hl1⟩, l, _, _, 0, _, rfl, rfl, hl1, by decide, by decide, pop0, rfl, (by show 1 ≤ sizeLine; decide), fun p p0 => ?_⟩
        have lp : p ≠ l := fun z => by rw [z, upd_same] at p0; cases p0
        rw [upd_ne lp] at p0
        refine k _ p [.ref t] xs (fun b o hb h => ?_) (s1.free p0) upd_same ?_ (paired_one ⟨t, q, rfl, ht', hq'⟩) ht
        · rw [upd_ne (ne_of_none (s1 _ _ h) p0), upd_ne hb]
          exact s1 _ _ h
        · rw [upd_ne lp.symm, upd_same]
          rfl
end
end K94
set_option maxRecDepth 100000
set_option maxHeartbeats 4000000
/-! K94E: come_to, stretch_off. -/
namespace K94
open PySem PySem.Spec PyProof.Rows L2
theorem anyN (n : Nat) : (!(([.int 0, .list []] : List PyData).any fun z => PyData.eqv z (.int n))) = decide (0 < n) := by
  by_cases h : n = 0
  · subst h; decide
  · have h1 : ¬ (0 : Int) = (n : Int) := by omega
    have h2 : 0 < n := by omega
    simp [PyData.eqv, h1, h2]
theorem anyL (xs : List Int) : (!(([.int 0, .list []] : List PyData).any fun z => PyData.eqv z (.list (xs.map PyData.int)))) = decide (xs ≠ []) := by
  cases xs with
  | nil => decide
  | cons x xs => simp [PyData.eqv, PyData.eqvAll]
theorem dp_ints (K : PySem.W.Frag) (H : Hp) : ∀ xs : List Int, DpAll K H (xs.map V.int) (xs.map PyData.int)
  | [] => .nil
  | x :: xs => .cons (.int x) (dp_ints K H xs)

theorem can_ints : ∀ ns : List Int, PyData.canLayAll0 (ns.map PyData.int) = true
  | [] => rfl
  | _ :: r => by simp [PyData.canLayAll0, PyData.canLay0, can_ints r]
theorem dep_ints : ∀ ns : List Int, PyData.depthAll (ns.map PyData.int) = 0
  | [] => rfl
  | _ :: r => by simp [PyData.depthAll, PyData.depth, dep_ints r]
theorem shp_ints (ns : List Int) : SeqAt.shaped (.list (ns.map PyData.int)) = true := by
  simp [SeqAt.shaped, PyData.canLay0, PyData.depth, can_ints, dep_ints]
/-- a list l that changes and a list p that grows: what lies in them -/
structure CI (J H H1 : Hp) (l p : Addr) (ls fs : List Rw) : Prop where
  fr : ∀ b o, b ≠ l → H b = some o → H1 b = some o
  p0 : H p = none
  ex : ∃ lits fits, H1 l = some (.lst lits) ∧ H1 p = some (.lst fits) ∧ RowsAt (hid [p] (grow J H H1)) lits ls ∧ RowsAt (hid [p] (grow J H H1)) fits fs
section
variable {J H H1 H2 : Hp} {l p t q : Addr} {ls fs : List Rw} {o : HO} {v : V} {r : Rw}
theorem ci_free (fr : ∀ b o, b ≠ l → H b = some o → H1 b = some o) (hl : H1 l = some o) (h : H1 t = none) : H t = none := by
  cases e : H t with
  | none => rfl
  | some u =>
    by_cases z : t = l
    · rw [z, hl] at h
      cases h
    · rw [fr t u z e] at h
      cases h
theorem ci_same (fr : ∀ b o, b ≠ l → H b = some o → H1 b = some o) (sJ : Same J H) (hJ : J l = none) : Same (hid [p] (grow J H H1)) H1 :=
  hid_same.trans (grow_same fun b o e => fr b o (ne_of_none e hJ) (sJ _ _ e))
theorem ci_step (hl : (H l).isSome = true) (h : ∀ b o, b ≠ l → b ≠ p → H1 b = some o → H2 b = some o) : Same (hid [p] (grow J H H1)) (hid [p] (grow J H H2)) :=
  grow_step (fun b o n h0 e => ⟨h b o (fun z => by rw [z] at h0; rw [h0] at hl; cases hl) (by simpa using n) e, n⟩) (fun b n _ => n)
theorem ci_new (fr : ∀ b o, b ≠ l → H b = some o → H1 b = some o) {u : HO} (hl : H1 l = some u) (hp : t ≠ p) (h : H1 t = none) (e : H2 t = some o) : hid [p] (grow J H H2) t = some o :=
  hid_get (grow_new (ci_free fr hl h) e) (by simpa using hp)
theorem CI.more (g : CI J H H1 l p ls fs) (hl : (H l).isSome = true) (s : Same H1 H2) : CI J H H2 l p ls fs := by
  obtain ⟨fr, p0, lits, fits, e1, e2, e3, e4⟩ := g
  have c : Same (hid [p] (grow J H H1)) (hid [p] (grow J H H2)) := ci_step hl fun b o _ _ h => s _ _ h
  exact ⟨fun b o n h => s _ _ (fr b o n h), p0, lits, fits, s _ _ e1, s _ _ e2, RowsAt.mono c e3, RowsAt.mono c e4⟩
theorem CI.lp (g : CI J H H1 l p ls fs) (hl : (H l).isSome = true) : l ≠ p := fun e => by
  have h := g.p0
  rw [← e] at h
  rw [h] at hl
  cases hl
theorem CI.setL (g : CI J H H1 l p ls fs) (hl : (H l).isSome = true) {ls' : List Rw} {lits' : List V} (h : RowsAt (hid [p] (grow J H H1)) lits' ls') : CI J H (upd H1 l (.lst lits')) l p ls' fs := by
  have lp := g.lp hl
  obtain ⟨fr, p0, lits, fits, e1, e2, e3, e4⟩ := g
  have c : Same (hid [p] (grow J H H1)) (hid [p] (grow J H (upd H1 l (.lst lits')))) := ci_step hl fun b o n _ h => by rw [upd_ne n]; exact h
  exact ⟨fun b o n h => by rw [upd_ne n]; exact fr b o n h, p0, _, fits, upd_same, by rw [upd_ne lp.symm]; exact e2, RowsAt.mono c h, RowsAt.mono c e4⟩
theorem CI.setP (g : CI J H H1 l p ls fs) (hl : (H l).isSome = true) {fs' : List Rw} {fits' : List V} (h : RowsAt (hid [p] (grow J H H1)) fits' fs') : CI J H (upd H1 p (.lst fits')) l p ls fs' := by
  have lp := g.lp hl
  obtain ⟨fr, p0, lits, fits, e1, e2, e3, e4⟩ := g
  have c : Same (hid [p] (grow J H H1)) (hid [p] (grow J H (upd H1 p (.lst fits')))) := ci_step hl fun b o _ n h => by rw [upd_ne n]; exact h
  exact ⟨fun b o n h => by rw [upd_ne (fun z => by rw [z, p0] at h; cases h)]; exact fr b o n h, p0, lits, _, by rw [upd_ne lp]; exact e1, upd_same, RowsAt.mono c e3, RowsAt.mono c h⟩
theorem CI.fits (g : CI J H H1 l p ls fs) (hl : (H l).isSome = true) : ∃ fits, H1 p = some (.lst fits) ∧ fits.length = fs.length ∧ ∀ t r u, H1 t = none → RowAt (hid [p] (grow J H (upd H1 t u))) (.ref t) r → CI J H (upd (upd H1 t u) p (.lst (fits ++ [.ref t]))) l p ls (fs ++ [r]) := by
  obtain ⟨lits, fits, e1, e2, e3, e4⟩ := g.ex
  refine ⟨fits, e2, paired_len e4, fun t r u t0 h => ?_⟩
  have s := same_new (o := u) t0
  refine (g.more hl s).setP hl (paired_app (RowsAt.mono ?_ e4) (paired_one h))
  exact ci_step hl fun b o _ _ h => s _ _ h
theorem CI.lits (g : CI J H H1 l p ls fs) (hl : (H l).isSome = true) : ∃ lits, H1 l = some (.lst lits) ∧ lits.length = ls.length ∧ ∀ t r u, H1 t = none → RowAt (hid [p] (grow J H (upd H1 t u))) (.ref t) r → CI J H (upd (upd H1 t u) l (.lst (.ref t :: lits))) l p (r :: ls) fs := by
  obtain ⟨lits, fits, e1, e2, e3, e4⟩ := g.ex
  refine ⟨lits, e1, paired_len e3, fun t r u t0 h => ?_⟩
  have s := same_new (o := u) t0
  refine (g.more hl s).setL hl (.cons h (RowsAt.mono ?_ e3))
  exact ci_step hl fun b o _ _ h => s _ _ h
theorem CI.new (g : CI J H H1 l p ls fs) (t0 : H1 t = none) (e : H2 t = some o) : hid [p] (grow J H H2) t = some o := by
  obtain ⟨lits, fits, e1, e2, e3, e4⟩ := g.ex
  exact ci_new g.fr e1 (ne_of_none e2 t0).symm t0 e
end
section
variable {P : Program} {w : World} {K : PySem.W.Frag} {mg : Str → Option Value} {base : Heap}
/-! ### come_to -/
abbrev N_come_to : List Str := ["left", "many", "found", "word", "what", "here", "size", "more"]
theorem sc_come_to : FnScope N_come_to ["left", "many"] (defScope s_come_to) := ⟨rfl, rfl, rfl, by decide +kernel, rfl, by decide +kernel, by decide +kernel⟩
def spComeTo (K : PySem.W.Frag) : Sp := fun vs H Q _ => ∃ (l : Addr) (its : List V) (rows : List Rw) (J : Hp) (m : Nat), vs = [.ref l, .int m] ∧ H l = some (.lst its) ∧ Same J H ∧ J l = none ∧ RowsAt J its rows ∧ rows.length ≤ 80000 ∧
  ∀ H' p, CI J H H' l p (comeTo rows m).2 (comeTo rows m).1 → (comeTo rows m).1.length + (comeTo rows m).2.length ≤ rows.length + 1 → Q (.ref p) H'
theorem comeTo_zero (ls : List Rw) : comeTo ls 0 = ([], ls) := by
  cases ls with
  | nil => rfl
  | cons x r =>
    cases x with
    | put xs => simp [comeTo]
    | mv k n => cases k <;> simp [comeTo]
/-- come_to between two turns -/
structure CW (rows : List Rw) (m many : Nat) (ls fs : List Rw) : Prop where
  eq : comeTo rows m = (fs ++ (comeTo ls many).1, (comeTo ls many).2)
  sz : fs.length + ls.length ≤ rows.length + (if many = 0 then 1 else 0)
theorem ok_come_to (T : Txt K mg) : FnR P w K mg base CX0 2 (He.ga K "come_to") (spComeTo K) := by
  have G_parted := ok_parted (P := P) (w := w) (base := base) T
  refine fnr_of T.d_come_to sc_come_to (fun vs H Q E h => ?_) (fun _ _ _ _ _ _ us hl => match us, hl with | [_, _], _ => rfl) (fun cdv A outer s H vs Q E hr h => ?_)
  · obtain ⟨l, its, rows, J, m, rfl, _⟩ := h
    rfl
  · obtain ⟨l, its, rows, J, m, rfl, hl, sJ, hJ, hR, hz, k⟩ := h
    have hls : (H l).isSome = true := by rw [hl]; rfl
    refine ⟨_, (pss_cons (ps_set (i := 2) sc_come_to.nd rfl (Or.inl rfl) (pe_lst pa_nil))
      (pss_cons (ps_while PassesOwn.never (pt_cmpR op_gt (pv 1) pe_int (nomark _)) (C8.pss_cut (ps_if (pt_cmpR (op_eqNil hr.units0) (pv 0) (pe_lst pa_nil) (nomark _)) (pss_one (ps_expr (pe_bm PySem.F.plainAttrs_list PySem.F.slot_list_append PySem.F.type_list_append mt_append (pv 0) (pa_cons (pe_tup (pa_cons pe_str (pa_cons (pv 1) pa_nil))) pa_nil)))) pss_nil)
      (pss_cons (ps_asg (pe_bm PySem.F.plainAttrs_list PySem.F.slot_list_pop PySem.F.type_list_pop mt_popAt (pv 0) (pa_cons pe_int pa_nil)) (pg_tup rfl (pgs_cons (pg_name (i := 3) sc_come_to.nd rfl (Or.inl rfl)) (pgs_cons (pg_name (i := 4) sc_come_to.nd rfl (Or.inl rfl)) pgs_nil))))
      (pss_one (ps_if (pt_cmpR op_eq (pv 3) pe_str (nomark _)) (pss_one (ps_expr (pe_bm PySem.F.plainAttrs_list PySem.F.slot_list_append PySem.F.type_list_append mt_append (pv 2) (pa_cons (pe_tup (pa_cons (pv 3) (pa_cons (pv 4) pa_nil))) pa_nil)))) (pss_cons (ps_asg (pe_callF G_parted (hr.mono (by decide)) T.f_parted T.kp_parted (pa_cons (pv 3) (pa_cons (pv 4) (pa_cons (pv 1) pa_nil)))) (pg_tup rfl (pgs_cons (pg_name (i := 5) sc_come_to.nd rfl (Or.inl rfl)) (pgs_cons (pg_name (i := 6) sc_come_to.nd rfl (Or.inl rfl)) (pgs_cons (pg_name (i := 7) sc_come_to.nd rfl (Or.inl rfl)) pgs_nil)))))
      (pss_cons (ps_expr (pe_bm PySem.F.plainAttrs_list PySem.F.slot_list_append PySem.F.type_list_append mt_append (pv 2) (pa_cons (pe_tup (pa_cons (pv 3) (pa_cons (pv 5) pa_nil))) pa_nil)))
      (pss_cons (ps_aug (i := 1) sc_come_to.nd rfl (Or.inl rfl) (pv 6) ip_sub)
      (pss_one (ps_if (pt_cmpR (op_notInDT (K94.Room.unitsT hr)) (pv 7) (pe_tup (pa_cons pe_int (pa_cons (pe_lst pa_nil) pa_nil))) rfl) (pss_one (ps_expr (pe_bm PySem.F.plainAttrs_list PySem.F.slot_list_insert PySem.F.type_list_insert mt_insert (pv 0) (pa_cons pe_int (pa_cons (pe_tup (pa_cons (pv 3) (pa_cons (pv 7) pa_nil))) pa_nil))))) pss_nil))))))))))
      (pss_one (ps_ret (pv 2))))), ?_⟩
    refine ⟨(by show 0 ≤ sizeLine; decide), fun p p0 => ?_⟩
    have lp : l ≠ p := ne_of_none hl p0
    have g0 : CI J H (upd H p (.lst [])) l p rows [] := by
      refine ⟨fun b o n h => by rw [upd_ne (ne_of_none h p0)]; exact h, p0, its, [], by rw [upd_ne lp]; exact hl, upd_same, ?_, .nil⟩
      exact RowsAt.mono (fun b o h => hid_get (grow_old sJ _ _ h) (by simpa using ne_of_none (sJ _ _ h) p0)) hR
    refine ⟨fun μ σ H1 => ∃ many ls fs v3 v4 v5 v6 v7, μ = many + ls.length ∧ σ = [some (.ref l), some (.int (many : Nat)), some (.ref p), v3, v4, v5, v6, v7] ∧ CI J H H1 l p ls fs ∧ CW rows m many ls fs,
      ⟨_, m, rows, [], none, none, none, none, none, rfl, rfl, g0, ⟨by simp, by simp⟩⟩, ?_⟩
    rintro _ σ H1 ⟨many, ls, fs, v3, v4, v5, v6, v7, rfl, rfl, g, W⟩
    refine ⟨_, rfl, _, _, rfl, rfl, _, rfl, iteD (fun hc => ?_) (fun hc => ?_)⟩
    · have hm : 0 < many := by omega
      have hm0 : many ≠ 0 := by omega
      have W1 := W.sz
      rw [if_neg hm0] at W1
      refine ⟨_, fun σ' H' h => h, ?_⟩
      -- if left == []: left.append(("keep", many))
      refine ⟨fun σ' H' => σ' = [some (.ref l), some (.int (many : Nat)), some (.ref p), v3, v4, v5, v6, v7] ∧ ∃ x r, CI J H H' l p (x :: r) fs ∧ ((x :: r = ls) ∨ (ls = [] ∧ r = [] ∧ x = .mv true many)), ?_, ?_⟩
      · refine ⟨_, rfl, (by show 0 ≤ sizeLine; decide), fun e e0 => ?_⟩
        have g1 := g.more hls (same_new (o := HO.lst []) e0)
        obtain ⟨lits, fits, e1, e2, e3, e4⟩ := g1.ex
        refine ⟨l, e, lits, rfl, rfl, SqL.of e1, SqL.of upd_same, _, rfl, ?_⟩
        cases ls with
        | cons x r =>
          cases e3
          exact iteF ⟨rfl, x, r, g1, .inl rfl⟩
        | nil =>
          cases e3
          refine iteT ⟨_, rfl, .inl ⟨rfl, _, SqL.of e1⟩, _, rfl, (by show 2 ≤ sizeLine; decide), fun t t0 => ?_⟩
          have lt := ne_of_none e1 t0
          have pt := ne_of_none e2 t0
          have g2 := g1.more hls (same_new (o := HO.tup [V.str "keep", V.int many]) t0)
          refine ⟨l, _, _, rfl, rfl, (by rw [upd_ne lt]; exact e1), sl5 (by simp), rfl, ?_⟩
          refine ⟨.mv true many, [], g2.setL hls (.cons ⟨t, rfl, ?_⟩ .nil), .inr ⟨rfl, rfl, rfl⟩⟩
          exact ci_new g1.fr e1 pt.symm t0 upd_same
      · clear g
        rintro σ' H' ⟨rfl, x, r, g, hx⟩
        obtain ⟨lits, fits, e1, e2, e3, e4⟩ := g.ex
        have hf := paired_len e4
        have hsame : Same (hid [p] (grow J H H')) H' := ci_same g.fr sJ hJ
        have hrl : r.length ≤ ls.length := by rcases hx with rfl | ⟨rfl, rfl, _⟩ <;> simp
        have heq : comeTo ls many = comeTo (x :: r) many := by
          rcases hx with rfl | ⟨rfl, rfl, rfl⟩
          · rfl
          · simp [comeTo, hm0, leftOf]
        have W2 := W.eq
        rw [heq] at W2
        cases e3 with
        | cons ex er =>
        rename_i v lits
        have g' := g.setL hls er
        -- word, what = left.pop(0)
        cases x with
        | mv b n =>
          obtain ⟨t, rfl, ht⟩ := ex
          have ht' := hsame _ _ ht
          have tl : t ≠ l := fun z => by rw [z, e1] at ht'; cases ht'
          refine ⟨_, rfl, .inl ⟨rfl, _, SqL.of e1⟩, l, _, _, 0, _, rfl, rfl, e1, by decide, by decide, pop0, rfl, t, _, rfl, SqT.of (by rw [upd_ne tl]; exact ht'), rfl, _, _, rfl, _, _, rfl, rfl, ?_⟩
          refine ⟨_, rfl, rfl, _, rfl, ?_⟩
          rw [show ((V.ref t :: lits).eraseIdx 0) = lits from rfl]
          have gl : (upd H' l (.lst lits)) t = some (.tup [.str (wd b), .int n]) := by rw [upd_ne tl]; exact ht'
          generalize upd H' l (.lst lits) = H2 at g' gl ⊢
          cases b with
          | false =>
            have hx' : Rw.mv false n :: r = ls := by
              rcases hx with h | ⟨_, _, h⟩
              · exact h
              · cases h
            obtain ⟨fits, hp, hfl, push⟩ := g'.fits hls
            rw [← hx', List.length_cons] at W1
            refine iteT ⟨_, rfl, .inl ⟨rfl, _, SqL.of hp⟩, _, rfl, _, rfl, (by show 2 ≤ sizeLine; decide), fun t2 t20 => ?_⟩
            refine ⟨p, _, _, rfl, rfl, (by rw [upd_ne (ne_of_none hp t20)]; exact hp), sl5 (by omega), _, (by rw [← hx', List.length_cons]; exact Nat.lt_succ_self (many + r.length)), many, r, _, _, _, _, _, _, rfl, rfl, push t2 (.mv false n) _ t20 ⟨t2, rfl, g'.new t20 upd_same⟩, ?_, ?_⟩
            · rw [W2]
              simp [comeTo, hm0]
            · rw [List.length_append, List.length_singleton]
              omega
          | true =>
            rw [show decide (V.str (wd true) = V.str "take") = false from by decide +kernel]
            refine iteF ⟨_, rfl, _, rfl, _, rfl, .inl ⟨n, many, rfl, fun t2 t20 => ?_⟩⟩
            refine ⟨t2, _, rfl, SqT.of upd_same, rfl, _, _, rfl, _, _, rfl, _, _, rfl, rfl, ?_⟩
            have g2 := g'.more hls (same_new (o := .tup [.int (min n many : Nat), .int (min n many : Nat), .int (n - min n many : Nat)]) t20)
            generalize upd H2 t2 (.tup [.int (min n many : Nat), .int (min n many : Nat), .int (n - min n many : Nat)]) = H3 at g2 ⊢
            obtain ⟨fits, hp, hfl, push⟩ := g2.fits hls
            refine ⟨_, rfl, .inl ⟨rfl, _, SqL.of hp⟩, _, rfl, _, rfl, (by show 2 ≤ sizeLine; decide), fun t3 t30 => ?_⟩
            refine ⟨p, _, _, rfl, rfl, (by rw [upd_ne (ne_of_none hp t30)]; exact hp), sl5 (by omega), ?_⟩
            have g3 := push t3 (.mv true (min n many)) _ t30 ⟨t3, rfl, g2.new t30 upd_same⟩
            generalize upd (upd H3 t3 (.tup [.str (wd true), .int (min n many : Nat)])) p (.lst (fits ++ [.ref t3])) = H4 at g3 ⊢
            refine ⟨_, rfl, _, rfl, _, _, rfl, rfl, ?_⟩
            dsimp only [List.set]
            rw [show ((many : Int) - ((min n many : Nat) : Int)) = ((many - min n many : Nat) : Int) by omega]
            refine ⟨_, rfl, (by show 0 ≤ sizeLine; decide), fun e e0 => ⟨(by show 2 ≤ sizeLine; decide), fun e2 e20 => ?_⟩⟩
            have s5 := (same_new (o := .lst []) e0).trans (same_new (o := .tup [.int 0, .ref e]) e20)
            have g5 := g3.more hls s5
            refine ⟨.int (n - min n many : Nat), [.int 0, .list []], .int _, .tup (SqT.of upd_same) (.cons (.int 0) (.cons (.lst (SqL.of (same_new e20 _ _ upd_same)) .nil) .nil)), rfl, rfl, ?_⟩
            generalize upd (upd H4 e (.lst [])) e2 (.tup [.int 0, .ref e]) = H5 at g5 ⊢
            rw [anyN]
            obtain ⟨lits', hl5, hll, ins⟩ := g5.lits hls
            refine ⟨_, rfl, iteD (fun hc1 => ?_) (fun hc1 => ?_)⟩
            · refine ⟨_, rfl, .inl ⟨rfl, _, SqL.of hl5⟩, _, rfl, _, rfl, (by show 2 ≤ sizeLine; decide), fun t4 t40 => ?_⟩
              refine ⟨l, lits', 0, _, rfl, rfl, (by rw [upd_ne (ne_of_none hl5 t40)]; exact hl5), sl5 (by omega), by decide, by decide, ?_⟩
              have g6 := ins t4 (.mv true (n - min n many)) _ t40 ⟨t4, rfl, g5.new t40 upd_same⟩
              refine ⟨_, ?_, many - min n many, _, _, _, _, _, _, _, rfl, rfl, g6, ?_, ?_⟩
              · rcases hx with rfl | ⟨rfl, rfl, h⟩
                · simp only [List.length_cons]; omega
                · injection h with _ h; omega
              · rw [W2, show many - min n many = 0 by omega, comeTo_zero]
                simp only [comeTo, if_neg hm0, if_neg (show ¬ n < many by omega), leftOf, if_pos (show many < n by omega), show min n many = many by omega, List.append_nil]
              · rw [if_pos (by omega)]
                rw [List.length_append, List.length_singleton, List.length_cons]
                rcases hx with rfl | ⟨rfl, rfl, h⟩
                · simp only [List.length_cons] at W1; omega
                · injection h with _ h; omega
            · refine ⟨_, ?_, many - min n many, _, _, _, _, _, _, _, rfl, rfl, g5, ?_, ?_⟩
              · rcases hx with rfl | ⟨rfl, rfl, h⟩
                · simp only [List.length_cons]; omega
                · simp only [List.length_nil]
                  injection h with _ h; omega
              · rw [W2]
                by_cases hn : n < many
                · simp only [comeTo, if_neg hm0, if_pos hn, show min n many = n by omega, List.append_assoc, List.singleton_append]
                · rw [show many - min n many = 0 by omega, comeTo_zero]
                  simp only [comeTo, if_neg hm0, if_neg hn, leftOf, if_neg (show ¬ many < n by omega), show min n many = many by omega, List.append_nil]
              · rw [List.length_append, List.length_singleton]
                rcases hx with rfl | ⟨rfl, rfl, h⟩
                · simp only [List.length_cons] at W1; omega
                · injection h with _ h
                  simp only [List.length_nil] at W1 ⊢
                  rw [if_pos (by omega)]
                  omega
        | put xs =>
          have hx' : Rw.put xs :: r = ls := by
            rcases hx with h | ⟨_, _, h⟩
            · exact h
            · cases h
          rw [← hx', List.length_cons] at W1
          obtain ⟨t, q, rfl, ht, hq⟩ := ex
          have ht' := hsame _ _ ht
          have hq' := hsame _ _ hq
          have tl : t ≠ l := fun z => by rw [z, e1] at ht'; cases ht'
          have ql : q ≠ l := fun z => by
            rw [z] at hq
            have h1 := (of_hid hq).1
            unfold grow at h1
            rw [if_pos hls, hJ] at h1
            cases h1
          refine ⟨_, rfl, .inl ⟨rfl, _, SqL.of e1⟩, l, _, _, 0, _, rfl, rfl, e1, by decide, by decide, pop0, rfl, t, _, rfl, SqT.of (by rw [upd_ne tl]; exact ht'), rfl, _, _, rfl, _, _, rfl, rfl, ?_⟩
          refine ⟨_, rfl, rfl, _, rfl, ?_⟩
          rw [show ((V.ref t :: lits).eraseIdx 0) = lits from rfl]
          have gq : (upd H' l (.lst lits)) q = some (.lst (xs.map V.int)) := by rw [upd_ne ql]; exact hq'
          generalize upd H' l (.lst lits) = H2 at g' gq ⊢
          rw [show decide (V.str "put" = V.str "take") = false from by decide +kernel]
          refine iteF ⟨_, rfl, _, rfl, _, rfl, .inr ⟨q, xs, many, rfl, gq, fun H3 t2 r1 r2 s3 t20 r10 r20 h31 h32 h33 => ?_⟩⟩
          refine ⟨t2, _, rfl, SqT.of h31, rfl, _, _, rfl, _, _, rfl, _, _, rfl, rfl, ?_⟩
          have g2 := g'.more hls s3
          obtain ⟨fits, hp, hfl, push⟩ := g2.fits hls
          refine ⟨_, rfl, .inl ⟨rfl, _, SqL.of hp⟩, _, rfl, _, rfl, (by show 2 ≤ sizeLine; decide), fun t3 t30 => ?_⟩
          refine ⟨p, _, _, rfl, rfl, (by rw [upd_ne (ne_of_none hp t30)]; exact hp), sl5 (by omega), ?_⟩
          have st3 := same_new (o := .tup [.str "put", .ref r1]) t30
          have g3 := push t3 (.put (xs.take many)) _ t30 ⟨t3, r1, rfl, g2.new t30 upd_same, g'.new r10 (st3 _ _ h32)⟩
          have pr2 : p ≠ r2 := by
            obtain ⟨_, _, _, h, _⟩ := g'.ex
            exact ne_of_none h r20
          have h43 : (upd (upd H3 t3 (.tup [.str "put", .ref r1])) p (.lst (fits ++ [.ref t3]))) r2 = some (.lst ((xs.drop many).map V.int)) := by
            rw [upd_ne pr2.symm]
            exact st3 _ _ h33
          generalize upd (upd H3 t3 (.tup [.str "put", .ref r1])) p (.lst (fits ++ [.ref t3])) = H4 at g3 h43 ⊢
          refine ⟨_, rfl, _, rfl, _, _, rfl, rfl, ?_⟩
          dsimp only [List.set]
          have hmin : (xs.take many).length = min xs.length many := by rw [List.length_take]; omega
          rw [show ((many : Int) - (((xs.take many).length : Nat) : Int)) = ((many - (xs.take many).length : Nat) : Int) by omega]
          refine ⟨_, rfl, (by show 0 ≤ sizeLine; decide), fun e e0 => ⟨(by show 2 ≤ sizeLine; decide), fun e2 e20 => ?_⟩⟩
          have s5 := (same_new (o := .lst []) e0).trans (same_new (o := .tup [.int 0, .ref e]) e20)
          have g5 := g3.more hls s5
          have h53 := s5 _ _ h43
          refine ⟨.list ((xs.drop many).map PyData.int), [.int 0, .list []], .lst (SqL.of h53) (dp_ints _ _ _), .tup (SqT.of upd_same) (.cons (.int 0) (.cons (.lst (SqL.of (same_new e20 _ _ upd_same)) .nil) .nil)), (shp_ints _), rfl, ?_⟩
          generalize upd (upd H4 e (.lst [])) e2 (.tup [.int 0, .ref e]) = H5 at g5 h53 ⊢
          rw [anyL]
          obtain ⟨lits', hl5, hll, ins⟩ := g5.lits hls
          refine ⟨_, rfl, iteD (fun hc1 => ?_) (fun hc1 => ?_)⟩
          · have hlt : many < xs.length := by
              rcases Nat.lt_or_ge many xs.length with h | h
              · exact h
              · exact absurd (List.drop_of_length_le h) hc1
            refine ⟨_, rfl, .inl ⟨rfl, _, SqL.of hl5⟩, _, rfl, _, rfl, (by show 2 ≤ sizeLine; decide), fun t4 t40 => ?_⟩
            refine ⟨l, lits', 0, _, rfl, rfl, (by rw [upd_ne (ne_of_none hl5 t40)]; exact hl5), sl5 (by omega), by decide, by decide, ?_⟩
            have s6 := same_new (o := .tup [.str "put", .ref r2]) t40
            have g6 := ins t4 (.put (xs.drop many)) _ t40 ⟨t4, r2, rfl, g5.new t40 upd_same, g'.new r20 (s6 _ _ h53)⟩
            refine ⟨_, ?_, many - (xs.take many).length, _, _, _, _, _, _, _, rfl, rfl, g6, ?_, ?_⟩
            · rw [← hx']; simp only [List.length_cons]; omega
            · rw [W2, show many - (xs.take many).length = 0 by omega, comeTo_zero]
              simp only [comeTo, if_neg hm0, if_neg (show ¬ xs.length < many by omega), if_neg hc1, List.append_nil]
            · rw [if_pos (by omega)]
              rw [List.length_append, List.length_singleton, List.length_cons]
              omega
          · have hd : xs.drop many = [] := Classical.byContradiction hc1
            have hge : xs.length ≤ many := by
              have := congrArg List.length hd
              rw [List.length_drop, List.length_nil] at this
              omega
            refine ⟨_, ?_, many - (xs.take many).length, _, _, _, _, _, _, _, rfl, rfl, g5, ?_, ?_⟩
            · rw [← hx']; simp only [List.length_cons]; omega
            · rw [W2]
              by_cases hn : xs.length < many
              · simp only [comeTo, if_neg hm0, if_pos hn, hmin, show min xs.length many = xs.length by omega, List.append_assoc, List.singleton_append, List.take_of_length_le hge]
              · rw [show many - (xs.take many).length = 0 by omega, comeTo_zero]
                simp only [comeTo, if_neg hm0, if_neg hn, hd, if_pos, List.append_nil]
            · rw [List.length_append, List.length_singleton]
              omega
    · have hm : many = 0 := by omega
      subst hm
      have e := W.eq
      have z := W.sz
      rw [comeTo_zero] at e
      dsimp only at e
      rw [List.append_nil] at e
      refine ⟨_, rfl, k _ p (by rw [e]; exact g) (by rw [e]; simpa using z)⟩
/-! ### stretch_off -/
end
/-- two lists that change -/
structure EI (J H H1 : Hp) (l1 l2 : Addr) (ms ts : List Rw) : Prop where
  fr : ∀ b o, b ≠ l1 → b ≠ l2 → H b = some o → H1 b = some o
  ex : ∃ a c, H1 l1 = some (.lst a) ∧ H1 l2 = some (.lst c) ∧ RowsAt (grow J H H1) a ms ∧ RowsAt (grow J H H1) c ts
section
variable {J H H1 H2 : Hp} {l1 l2 p t q : Addr} {ms ts : List Rw} {o : HO} {v : V} {r : Rw}
theorem ei_step (h1 : (H l1).isSome = true) (h2 : (H l2).isSome = true) (h : ∀ b o, b ≠ l1 → b ≠ l2 → H1 b = some o → H2 b = some o) : Same (grow J H H1) (grow J H H2) := by
  have := grow_step (J := J) (H := H) (H1 := H1) (H2 := H2) (ms := []) (ns := []) (fun b o n h0 e => ⟨h b o (fun z => by rw [z] at h0; rw [h0] at h1; cases h1) (fun z => by rw [z] at h0; rw [h0] at h2; cases h2) e, by simp⟩) (fun b n _ => n)
  rwa [hid_nil, hid_nil] at this
theorem EI.same (g : EI J H H1 l1 l2 ms ts) (sJ : Same J H) (j1 : J l1 = none) (j2 : J l2 = none) : Same (grow J H H1) H1 :=
  grow_same fun b o e => g.fr b o (ne_of_none e j1) (ne_of_none e j2) (sJ _ _ e)
theorem EI.free (g : EI J H H1 l1 l2 ms ts) (h : H1 t = none) : H t = none := by
  obtain ⟨a, c, e1, e2, _, _⟩ := g.ex
  cases e : H t with
  | none => rfl
  | some u =>
    by_cases z : t = l1
    · rw [z, e1] at h
      cases h
    · by_cases z2 : t = l2
      · rw [z2, e2] at h
        cases h
      · rw [g.fr t u z z2 e] at h
        cases h
theorem EI.new (g : EI J H H1 l1 l2 ms ts) (h : H1 t = none) (e : H2 t = some o) : grow J H H2 t = some o := grow_new (g.free h) e
theorem EI.more (g : EI J H H1 l1 l2 ms ts) (h1 : (H l1).isSome = true) (h2 : (H l2).isSome = true) (s : Same H1 H2) : EI J H H2 l1 l2 ms ts := by
  obtain ⟨fr, a, c, e1, e2, e3, e4⟩ := g
  have z : Same (grow J H H1) (grow J H H2) := ei_step h1 h2 fun b o _ _ h => s _ _ h
  exact ⟨fun b o n n2 h => s _ _ (fr b o n n2 h), a, c, s _ _ e1, s _ _ e2, RowsAt.mono z e3, RowsAt.mono z e4⟩
theorem EI.set1 (g : EI J H H1 l1 l2 ms ts) (h1 : (H l1).isSome = true) (h2 : (H l2).isSome = true) (hn : l1 ≠ l2) {ms' : List Rw} {a' : List V} (h : RowsAt (grow J H H1) a' ms') : EI J H (upd H1 l1 (.lst a')) l1 l2 ms' ts := by
  obtain ⟨fr, a, c, e1, e2, e3, e4⟩ := g
  have z : Same (grow J H H1) (grow J H (upd H1 l1 (.lst a'))) := ei_step h1 h2 fun b o n _ h => by rw [upd_ne n]; exact h
  exact ⟨fun b o n n2 h => by rw [upd_ne n]; exact fr b o n n2 h, a', c, upd_same, by rw [upd_ne hn.symm]; exact e2, RowsAt.mono z h, RowsAt.mono z e4⟩
theorem EI.set2 (g : EI J H H1 l1 l2 ms ts) (h1 : (H l1).isSome = true) (h2 : (H l2).isSome = true) (hn : l1 ≠ l2) {ts' : List Rw} {a' : List V} (h : RowsAt (grow J H H1) a' ts') : EI J H (upd H1 l2 (.lst a')) l1 l2 ms ts' := by
  obtain ⟨fr, a, c, e1, e2, e3, e4⟩ := g
  have z : Same (grow J H H1) (grow J H (upd H1 l2 (.lst a'))) := ei_step h1 h2 fun b o _ n h => by rw [upd_ne n]; exact h
  exact ⟨fun b o n n2 h => by rw [upd_ne n2]; exact fr b o n n2 h, a, a', by rw [upd_ne hn]; exact e1, upd_same, RowsAt.mono z e3, RowsAt.mono z h⟩
theorem EI.ins1 (g : EI J H H1 l1 l2 ms ts) (h1 : (H l1).isSome = true) (h2 : (H l2).isSome = true) (hn : l1 ≠ l2) : ∃ a, H1 l1 = some (.lst a) ∧ a.length = ms.length ∧ ∀ t b n, H1 t = none → EI J H (upd (upd H1 t (.tup [.str (wd b), .int (n : Nat)])) l1 (.lst (.ref t :: a))) l1 l2 (.mv b n :: ms) ts := by
  obtain ⟨a, c, e1, e2, e3, e4⟩ := g.ex
  refine ⟨a, e1, paired_len e3, fun t b n t0 => ?_⟩
  have s := same_new (o := .tup [.str (wd b), .int (n : Nat)]) t0
  exact (g.more h1 h2 s).set1 h1 h2 hn (.cons ⟨t, rfl, g.new t0 upd_same⟩ (RowsAt.mono (ei_step h1 h2 fun b o _ _ h => s _ _ h) e3))
theorem EI.ins2 (g : EI J H H1 l1 l2 ms ts) (h1 : (H l1).isSome = true) (h2 : (H l2).isSome = true) (hn : l1 ≠ l2) : ∃ a, H1 l2 = some (.lst a) ∧ a.length = ts.length ∧ ∀ t b n, H1 t = none → EI J H (upd (upd H1 t (.tup [.str (wd b), .int (n : Nat)])) l2 (.lst (.ref t :: a))) l1 l2 ms (.mv b n :: ts) := by
  obtain ⟨a, c, e1, e2, e3, e4⟩ := g.ex
  refine ⟨c, e2, paired_len e4, fun t b n t0 => ?_⟩
  have s := same_new (o := .tup [.str (wd b), .int (n : Nat)]) t0
  exact (g.more h1 h2 s).set2 h1 h2 hn (.cons ⟨t, rfl, g.new t0 upd_same⟩ (RowsAt.mono (ei_step h1 h2 fun b o _ _ h => s _ _ h) e4))
/-- with a result at p -/
structure StrE (J H H1 : Hp) (l1 l2 p : Addr) (ms ts rs : List Rw) : Prop where
  fr : ∀ b o, b ≠ l1 → b ≠ l2 → H b = some o → H1 b = some o
  p0 : H p = none
  ex : ∃ a c r, H1 l1 = some (.lst a) ∧ H1 l2 = some (.lst c) ∧ H1 p = some (.lst r) ∧ RowsAt (hid [p] (grow J H H1)) a ms ∧ RowsAt (hid [p] (grow J H H1)) c ts ∧ RowsAt (hid [p] (grow J H H1)) r rs
theorem EI.end' (g : EI J H H1 l1 l2 ms ts) (h1 : (H l1).isSome = true) (h2 : (H l2).isSome = true) {rs : List Rw} {its : List V} (h : RowsAt (grow J H H1) its rs) (sJ : Same J H) (j1 : J l1 = none) (j2 : J l2 = none) (p0 : H1 p = none) : StrE J H (upd H1 p (.lst its)) l1 l2 p ms ts rs := by
  have gs := g.same sJ j1 j2
  have pf := g.free p0
  obtain ⟨fr, a, c, e1, e2, e3, e4⟩ := g
  have z1 : Same (grow J H H1) (grow J H (upd H1 p (.lst its))) := ei_step h1 h2 fun b o _ _ h => same_new p0 _ _ h
  have z : Same (grow J H H1) (hid [p] (grow J H (upd H1 p (.lst its)))) := fun b o h => hid_get (z1 _ _ h) (by simpa using ne_of_none (gs _ _ h) p0)
  exact ⟨fun b o n n2 h => same_new p0 _ _ (fr b o n n2 h), pf, a, c, its, same_new p0 _ _ e1, same_new p0 _ _ e2, upd_same, RowsAt.mono z e3, RowsAt.mono z e4, RowsAt.mono z h⟩
end
section
variable {P : Program} {w : World} {K : PySem.W.Frag} {mg : Str → Option Value} {base : Heap}
abbrev N_stretch_off : List Str := ["mine", "its", "word", "many", "its_word", "its_many", "size"]
theorem sc_stretch_off : FnScope N_stretch_off ["mine", "its"] (defScope s_stretch_off) := ⟨rfl, rfl, rfl, by decide +kernel, rfl, by decide +kernel, by decide +kernel⟩
def spStretch (K : PySem.W.Frag) : Sp := fun vs H Q _ => ∃ (l1 l2 : Addr) (a c : List V) (ms ts : List Rw) (J : Hp), vs = [.ref l1, .ref l2] ∧ l1 ≠ l2 ∧ H l1 = some (.lst a) ∧ H l2 = some (.lst c) ∧ Same J H ∧ J l1 = none ∧ J l2 = none ∧ RowsAt J a ms ∧ RowsAt J c ts ∧
  ms.length + ts.length ≤ 90000 ∧ ms ≠ [] ∧ (∀ ys q, ms ≠ .put ys :: q) ∧ (∀ ys q, ts ≠ .put ys :: q) ∧
  ∀ H' p, StrE J H H' l1 l2 p (stretch ms ts).2.1 (stretch ms ts).2.2 (stretch ms ts).1 → Q (.ref p) H'
theorem ok_stretch_off (T : Txt K mg) : FnR P w K mg base CX0 1 (He.ga K "stretch_off") (spStretch K) := by
  refine fnr_of T.d_stretch_off sc_stretch_off (fun vs H Q E h => ?_) (fun _ _ _ _ _ _ us hl => match us, hl with | [_, _], _ => rfl) (fun cdv A outer s H vs Q E hr h => ?_)
  · obtain ⟨l1, l2, a, c, ms, ts, J, rfl, _⟩ := h
    rfl
  · obtain ⟨l1, l2, a, c, ms, ts, J, rfl, hn, hl1, hl2, sJ, j1, j2, ha, hc, hz, m0, mp, tp, k⟩ := h
    have h1 : (H l1).isSome = true := by rw [hl1]; rfl
    have h2 : (H l2).isSome = true := by rw [hl2]; rfl
    have hJ : Same J (grow J H H) := grow_old sJ
    cases ms with
    | nil => exact absurd rfl m0
    | cons x ms =>
    cases x with
    | put ys => exact absurd rfl (mp ys ms)
    | mv b n =>
    have g0 : EI J H H l1 l2 (.mv b n :: ms) ts := ⟨fun _ _ _ _ h => h, a, c, hl1, hl2, RowsAt.mono hJ ha, RowsAt.mono hJ hc⟩
    refine ⟨_, (C8.pss_cut (ps_if (pt_cmpR (op_eqNil hr.units0) (pv 1) (pe_lst pa_nil) (nomark _)) (pss_one (ps_expr (pe_bm PySem.F.plainAttrs_list PySem.F.slot_list_append PySem.F.type_list_append mt_append (pv 1) (pa_cons (pe_tup (pa_cons pe_str (pa_cons (pe_ix ix_tup (pe_ix ix_list (pv 0) pe_int (fun _ _ => rfl)) pe_int (fun _ _ => rfl)) pa_nil))) pa_nil)))) pss_nil)
      (pss_cons (ps_asg (pe_bm PySem.F.plainAttrs_list PySem.F.slot_list_pop PySem.F.type_list_pop mt_popAt (pv 0) (pa_cons pe_int pa_nil)) (pg_tup rfl (pgs_cons (pg_name (i := 2) sc_stretch_off.nd rfl (Or.inl rfl)) (pgs_cons (pg_name (i := 3) sc_stretch_off.nd rfl (Or.inl rfl)) pgs_nil))))
      (pss_cons (ps_asg (pe_bm PySem.F.plainAttrs_list PySem.F.slot_list_pop PySem.F.type_list_pop mt_popAt (pv 1) (pa_cons pe_int pa_nil)) (pg_tup rfl (pgs_cons (pg_name (i := 4) sc_stretch_off.nd rfl (Or.inl rfl)) (pgs_cons (pg_name (i := 5) sc_stretch_off.nd rfl (Or.inl rfl)) pgs_nil))))
      (pss_cons (ps_set (i := 6) sc_stretch_off.nd rfl (Or.inl rfl) (pe_callB (call_min2 rfl) (by rfl) T.g_min (by decide +kernel) (pa_cons (pv 3) (pa_cons (pv 5) pa_nil))))
      (C8.pss_cut (ps_if (pt_cmpR op_gt (pv 3) (pv 6) (nomark _)) (pss_one (ps_expr (pe_bm PySem.F.plainAttrs_list PySem.F.slot_list_insert PySem.F.type_list_insert mt_insert (pv 0) (pa_cons pe_int (pa_cons (pe_tup (pa_cons (pv 2) (pa_cons (pe_op op_sub (pv 3) (pv 6)) pa_nil))) pa_nil))))) pss_nil)
      (C8.pss_cut (ps_if (pt_cmpR op_gt (pv 5) (pv 6) (nomark _)) (pss_one (ps_expr (pe_bm PySem.F.plainAttrs_list PySem.F.slot_list_insert PySem.F.type_list_insert mt_insert (pv 1) (pa_cons pe_int (pa_cons (pe_tup (pa_cons (pv 4) (pa_cons (pe_op op_sub (pv 5) (pv 6)) pa_nil))) pa_nil))))) pss_nil)
      (pss_one (ps_ret (pe_ifExp (pt_cmpR op_eq (pv 4) pe_str (nomark _)) (pe_lst (pa_cons (pe_tup (pa_cons (pv 2) (pa_cons (pv 6) pa_nil))) pa_nil)) (pe_lst pa_nil)))))))))), ?_⟩
    -- if its == []: its.append(("keep", mine[0][1]))
    refine ⟨fun σ' H' => σ' = [some (V.ref l1), some (V.ref l2), none, none, none, none, none] ∧ ∃ b2 n2 t', EI J H H' l1 l2 (.mv b n :: ms) (.mv b2 n2 :: t') ∧ t'.length ≤ ts.length ∧ stretch (.mv b n :: ms) ts = stretch (.mv b n :: ms) (.mv b2 n2 :: t'), ?_, ?_⟩
    · refine ⟨_, rfl, (by show 0 ≤ sizeLine; decide), fun e e0 => ?_⟩
      have g1 := g0.more h1 h2 (same_new (o := HO.lst []) e0)
      have sm1 := g1.same sJ j1 j2
      obtain ⟨a1, c1, e1, e2, e3, e4⟩ := g1.ex
      refine ⟨l2, e, c1, rfl, rfl, SqL.of e2, SqL.of upd_same, _, rfl, ?_⟩
      cases ts with
      | cons y t' =>
        cases y with
        | put ys => exact absurd rfl (tp ys t')
        | mv b2 n2 =>
          cases e4
          exact iteF ⟨rfl, b2, n2, t', g1, by simp, rfl⟩
      | nil =>
        cases e4
        cases e3 with
        | cons ex er =>
        obtain ⟨t, rfl, ht⟩ := ex
        refine iteT ⟨_, rfl, .inl ⟨rfl, _, SqL.of e2⟩, _, rfl, l1, _, _, _, rfl, rfl, SqL.of e1, atI_nat (j := 0) rfl, t, _, _, _, rfl, rfl, SqT.of (sm1 _ _ ht), atI_nat (j := 1) rfl, (by show 2 ≤ sizeLine; decide), fun t2 t20 => ?_⟩
        refine ⟨l2, _, _, rfl, rfl, (by rw [upd_ne (ne_of_none e2 t20)]; exact e2), sl5 (by simp), rfl, ?_⟩
        obtain ⟨a3, e5, e6, ins⟩ := g1.ins2 h1 h2 hn
        rw [e2] at e5
        cases e5
        exact ⟨true, n, [], ins t2 true n t20, by simp, by simp [stretch, leftOf]⟩
    · clear g0 hJ
      rintro σ' H' ⟨rfl, b2, n2, t', g, htl, es⟩
      rw [es] at k
      clear es hc tp
      have sm := g.same sJ j1 j2
      obtain ⟨a1, c1, e1, e2, e3, e4⟩ := g.ex
      cases e3 with
      | cons ex er =>
      cases e4 with
      | cons fx fr =>
      rename_i va a1 vc c1
      obtain ⟨t, rfl, ht⟩ := ex
      obtain ⟨u, rfl, hu⟩ := fx
      have ht' := sm _ _ ht
      have hu' := sm _ _ hu
      have t1 : t ≠ l1 := fun z => by rw [z, e1] at ht'; cases ht'
      have u1 : u ≠ l1 := fun z => by rw [z, e1] at hu'; cases hu'
      have u2 : u ≠ l2 := fun z => by rw [z, e2] at hu'; cases hu'
      have g1 := g.set1 h1 h2 hn er
      have z1 : Same (grow J H H') (grow J H (upd H' l1 (.lst a1))) := ei_step h1 h2 fun b o n _ h => by rw [upd_ne n]; exact h
      have g2 := g1.set2 h1 h2 hn (RowsAt.mono z1 fr)
      refine ⟨_, rfl, .inl ⟨rfl, _, SqL.of e1⟩, l1, _, _, 0, _, rfl, rfl, e1, by decide, by decide, pop0, rfl, t, _, rfl, SqT.of (by rw [upd_ne t1]; exact ht'), rfl, _, _, rfl, _, _, rfl, rfl, ?_⟩
      rw [show ((V.ref t :: a1).eraseIdx 0) = a1 from rfl]
      have e21 : (upd H' l1 (.lst a1)) l2 = some (.lst (.ref u :: c1)) := by rw [upd_ne hn.symm]; exact e2
      refine ⟨_, rfl, .inl ⟨rfl, _, SqL.of e21⟩, l2, _, _, 0, _, rfl, rfl, e21, by decide, by decide, pop0, rfl, u, _, rfl, SqT.of (by rw [upd_ne u2, upd_ne u1]; exact hu'), rfl, _, _, rfl, _, _, rfl, rfl, ?_⟩
      rw [show ((V.ref u :: c1).eraseIdx 0) = c1 from rfl]
      generalize upd (upd H' l1 (.lst a1)) l2 (.lst c1) = H2 at g2 ⊢
      -- size = min(many, its_many)
      refine ⟨_, rfl, _, rfl, _, _, rfl, ?_⟩
      dsimp only [List.set]
      rw [min_if]
      -- if many > size
      refine ⟨fun σ' H' => σ' = [some (V.ref l1), some (V.ref l2), some (.str (wd b)), some (.int (n : Nat)), some (.str (wd b2)), some (.int (n2 : Nat)), some (.int (min n n2 : Nat))] ∧ EI J H H' l1 l2 (leftOf b n (min n n2) ms) t', ?_, ?_⟩
      · refine ⟨_, rfl, _, rfl, _, _, rfl, rfl, _, rfl, iteD (fun hc1 => ?_) (fun hc1 => ?_)⟩
        · obtain ⟨a3, f1, f2, ins⟩ := g2.ins1 h1 h2 hn
          refine ⟨_, rfl, .inl ⟨rfl, _, SqL.of f1⟩, _, rfl, _, rfl, _, rfl, _, _, rfl, rfl, (by show 2 ≤ sizeLine; decide), fun t4 t40 => ?_⟩
          refine ⟨l1, a3, 0, _, rfl, rfl, (by rw [upd_ne (ne_of_none f1 t40)]; exact f1), sl5 (by simp only [List.length_cons] at hz; omega), by decide, by decide, rfl, ?_⟩
          have g3 := ins t4 b (n - min n n2) t40
          unfold leftOf
          rw [if_pos (by omega)]
          rw [← show ((n : Int) - ((min n n2 : Nat) : Int)) = ((n - min n n2 : Nat) : Int) by omega] at g3
          exact g3
        · refine ⟨rfl, ?_⟩
          unfold leftOf
          rw [if_neg (by omega)]
          exact g2
      clear g2 g1
      rintro σ' H' ⟨rfl, g2⟩
      -- if its_many > size
      refine ⟨fun σ' H' => σ' = [some (V.ref l1), some (V.ref l2), some (.str (wd b)), some (.int (n : Nat)), some (.str (wd b2)), some (.int (n2 : Nat)), some (.int (min n n2 : Nat))] ∧ EI J H H' l1 l2 (leftOf b n (min n n2) ms) (leftOf b2 n2 (min n n2) t'), ?_, ?_⟩
      · refine ⟨_, rfl, _, rfl, _, _, rfl, rfl, _, rfl, iteD (fun hc1 => ?_) (fun hc1 => ?_)⟩
        · obtain ⟨a3, f1, f2, ins⟩ := g2.ins2 h1 h2 hn
          refine ⟨_, rfl, .inl ⟨rfl, _, SqL.of f1⟩, _, rfl, _, rfl, _, rfl, _, _, rfl, rfl, (by show 2 ≤ sizeLine; decide), fun t4 t40 => ?_⟩
          refine ⟨l2, a3, 0, _, rfl, rfl, (by rw [upd_ne (ne_of_none f1 t40)]; exact f1), sl5 (by simp only [List.length_cons] at hz; omega), by decide, by decide, rfl, ?_⟩
          have g3 := ins t4 b2 (n2 - min n n2) t40
          unfold leftOf
          rw [if_pos (show min n n2 < n2 by omega)]
          rw [← show ((n2 : Int) - ((min n n2 : Nat) : Int)) = ((n2 - min n n2 : Nat) : Int) by omega] at g3
          exact g3
        · refine ⟨rfl, ?_⟩
          unfold leftOf
          rw [if_neg (show ¬ min n n2 < n2 by omega)]
          exact g2
      clear g2
      rintro σ' H' ⟨rfl, g⟩
      refine ⟨_, rfl, rfl, _, rfl, ?_⟩
      cases b2 with
      | true =>
        refine iteT ⟨_, rfl, _, rfl, (by show 2 ≤ sizeLine; decide), fun t3 t30 => ⟨(by show 1 ≤ sizeLine; decide), fun p p0 => ?_⟩⟩
        have g' := g.more h1 h2 (same_new (o := .tup [.str (wd b), .int (min n n2 : Nat)]) t30)
        refine k _ p (g'.end' h1 h2 (.cons ⟨t3, rfl, g.new t30 upd_same⟩ .nil) sJ j1 j2 p0)
      | false =>
        rw [show decide (V.str (wd false) = V.str "keep") = false from by decide +kernel]
        refine iteF ⟨(by show 0 ≤ sizeLine; decide), fun p p0 => ?_⟩
        exact k _ p (g.end' h1 h2 .nil sJ j1 j2 p0)
end
end K94
set_option maxRecDepth 100000
set_option maxHeartbeats 4000000
/-! K94F: one change and then another; one past another; alike. -/
namespace K94
open PySem PySem.Spec PyProof.Rows L2
/-- an expression with a word between it and what follows -/
def tCutE (t : TE) : TE := fun σ H Q => ∃ R : VK, t σ H R ∧ ∀ v H', R v H' → Q v H'
theorem pe_cut {X : Cx} {e : Expr} {t : TE} (he : PE X e t) : PE X e (tCutE t) :=
  ⟨fun pins s σ H Q I ⟨R, h, k⟩ => thn (he.run pins s σ H R I h) fun u s1 ⟨x, H1, I1, r, q⟩ => ⟨x, H1, I1, r, k _ _ q⟩⟩
/-! ### plain -/
theorem comeTo_puts : ∀ (l : List Rw) (m : Nat), (puts (comeTo l m).1).length + (puts (comeTo l m).2).length = (puts l).length
  | [], m => by
    simp only [comeTo]
    split <;> simp [puts]
  | .mv false n :: r, m => by
    simp only [comeTo]
    split
    · simp [puts]
    · simpa [puts] using comeTo_puts r m
  | .mv true n :: r, m => by
    simp only [comeTo]
    split
    · simp [puts]
    · split
      · simpa [puts] using comeTo_puts r (m - n)
      · simp [puts, puts_leftOf]
  | .put xs :: r, m => by
    simp only [comeTo]
    split
    · simp [puts]
    · split
      · have := comeTo_puts r (m - xs.length)
        simp only [puts, List.length_append]
        omega
      · split
        · rename_i h1 h2 h
          have := congrArg List.length h
          simp only [List.length_drop, List.length_nil] at this
          simp only [puts, List.length_append, List.length_take, List.length_nil]
          omega
        · simp only [puts, List.length_append, List.length_take, List.length_drop, List.length_nil]
          omega
theorem takes_puts : ∀ l : List Rw, puts (takesOf l) = []
  | [] => rfl
  | .mv _ n :: r => by simp [takesOf, puts, takes_puts r]
  | .put _ :: r => by simp [takesOf, takes_puts r]
theorem thenF_puts : ∀ (b l : List Rw), (puts (thenF b l)).length ≤ (puts b).length + (puts l).length
  | [], l => by simp [thenF, puts]
  | .put xs :: b, l => by
    have := thenF_puts b l
    simp only [thenF, puts, List.length_append]
    omega
  | .mv true n :: b, l => by
    have h1 := comeTo_puts l n
    have h2 := thenF_puts b (comeTo l n).2
    simp only [thenF, puts, puts_app, List.length_append]
    omega
  | .mv false n :: b, l => by
    have h1 := comeTo_puts l n
    have h2 := thenF_puts b (comeTo l n).2
    simp only [thenF, puts, puts_app, List.length_append, takes_puts, List.length_nil]
    omega
theorem takes_take {l : List Rw} {i : Nat} {x : Rw} (h : l[i]? = some x) : takesOf (l.take (i + 1)) = takesOf (l.take i) ++ takesOf [x] := by
  rw [take_succ_get h]
  generalize l.take i = a
  clear h
  induction a with
  | nil => rfl
  | cons y a ih => cases y <;> simp [takesOf, ih]
theorem takes_len : ∀ l : List Rw, (takesOf l).length ≤ l.length
  | [] => Nat.le_refl _
  | .mv _ n :: r => by have := takes_len r; simp only [takesOf, List.length_cons]; omega
  | .put _ :: r => by have := takes_len r; simp only [takesOf, List.length_cons]; omega
/-! ### heaps -/
/-- the new things of H1, without these -/
abbrev IM (H H1 : Hp) (ms : List Addr) : Hp := hid ms (newIn H H1)
section
variable {H H1 H2 J : Hp} {ms ns : List Addr} {l p q o : Addr}
/-- after a walk over J = IM H H1 ms that changed l alone and made q -/
theorem im_grow (hl : l ∈ ms) (hm : ∀ b ∈ ms, (H1 b).isSome = true) (sm : Same H H1) (fr : ∀ b u, b ≠ l → H1 b = some u → H2 b = some u) : Same (hid [q] (grow (IM H H1 ms) H1 H2)) (IM H H2 ms) := fun b u e => by
  obtain ⟨e1, n⟩ := of_hid e
  rcases of_grow e1 with ⟨h1, h2⟩ | ⟨h1, h2⟩
  · obtain ⟨h3, h4⟩ := of_hid h1
    obtain ⟨h5, h6⟩ := of_newIn h3
    exact hid_get (newIn_get h5 (fr b u (fun z => h4 (by rw [z]; exact hl)) h6)) h4
  · exact hid_get (newIn_get (sm.free h1) h2) fun z => by
      have := hm b z
      rw [h1] at this
      cases this
theorem im_step (h : ∀ b u, b ∉ ms → H1 b = some u → H2 b = some u) : Same (IM H H1 ms) (IM H H2 ms) := hid2_step fun b u n e => ⟨h b u n e, n⟩
end
/-- then, between two turns -/
structure ThenI (H H1 : Hp) (l p o : Addr) (oits : List V) (orows left made : List Rw) : Prop where
  sm : Same H H1
  l0 : H l = none
  p0 : H p = none
  o0 : H o = none
  ex : ∃ lits mits, H1 l = some (.lst lits) ∧ H1 p = some (.lst mits) ∧ H1 o = some (.lst oits) ∧ l ≠ p ∧ l ≠ o ∧ p ≠ o ∧ RowsAt (IM H H1 [l, p, o]) lits left ∧ RowsAt (IM H H1 [l, p, o]) mits made ∧ RowsAt (IM H H1 [l, p, o]) oits orows
section
variable {H H1 H2 : Hp} {l p o : Addr} {oits : List V} {orows left made left' made' : List Rw} {lits' mits' : List V}
theorem ThenI.upd (g : ThenI H H1 l p o oits orows left made) (f : ∀ b u, b ≠ l → b ≠ p → H1 b = some u → H2 b = some u) (h1 : H2 l = some (.lst lits')) (h2 : H2 p = some (.lst mits')) (h3 : RowsAt (IM H H2 [l, p, o]) lits' left') (h4 : RowsAt (IM H H2 [l, p, o]) mits' made') :
    ThenI H H2 l p o oits orows left' made' := by
  obtain ⟨sm, l0, p0, o0, lits, mits, e1, e2, e3, n1, n2, n3, e4, e5, e6⟩ := g
  refine ⟨fun b u h => f b u (fun z => by rw [z, l0] at h; cases h) (fun z => by rw [z, p0] at h; cases h) (sm _ _ h), l0, p0, o0, lits', mits', h1, h2, f o _ n2.symm n3.symm e3, n1, n2, n3, h3, h4, RowsAt.mono ?_ e6⟩
  exact im_step fun b u n e => f b u (by simp at n; exact n.1) (by simp at n; exact n.2.1) e
end
section
variable {P : Program} {w : World} {K : PySem.W.Frag} {mg : Str → Option Value} {base : Heap}
abbrev N_Change_then : List Str := ["self", "other", "left", "made", "word", "what", "deed", "many"]
theorem sc_Change_then : FnScope N_Change_then ["self", "other"] (defScope s_Change_then) := ⟨rfl, rfl, rfl, by decide +kernel, rfl, by decide +kernel, by decide +kernel⟩
def spThen (K : PySem.W.Frag) : Sp := fun vs H Q _ => ∃ (c d : Addr) (a b : Gs), vs = [.ref c, .ref d] ∧ ChAt K H c a ∧ ChAt K H d b ∧ a.length ≤ 2000 ∧ b.length ≤ 2000 ∧ (puts (rowsOf a)).length + (puts (rowsOf b)).length ≤ 20000 ∧
  ∀ H' x, Same H H' → H x = none → ChAt K (newIn H H') x (thenG a b) → Q (.ref x) H'
theorem ok_Change_then (T : Txt K mg) : FnR P w K mg base CX0 6 (He.ma K (He.ga K "Change") "then") (spThen K) := by
  have G_check_change := ok_check_change (P := P) (w := w) (base := base) T
  have G_Change_rows := ok_Change_rows (P := P) (w := w) (base := base) T
  have G_come_to := ok_come_to (P := P) (w := w) (base := base) T
  have G_Change := ok_Change_init (P := P) (w := w) (base := base) T
  refine fnr_of T.d_Change_then sc_Change_then (fun vs H Q E h => ?_) (fun _ _ _ _ _ _ us hl => match us, hl with | [_, _], _ => rfl) (fun cdv A outer s H vs Q E hr h => ?_)
  · obtain ⟨c, d, a, b, rfl, _⟩ := h
    rfl
  · obtain ⟨c, d, a, b, rfl, hC, hD, za, zb, zp, k⟩ := h
    obtain ⟨cx, cl, cit, hc1, hc2, hc3⟩ := id hC
    obtain ⟨dx, dl, dit, hd1, hd2, hd3⟩ := id hD
    have ra := rowsOf_len a
    have rb := rowsOf_len b
    refine ⟨_, (pss_cons (ps_expr (pe_callF G_check_change (hr.mono (by decide)) T.f_check_change T.kp_check_change (pa_cons (pv 1) pa_nil)))
      (pss_cons (ps_set (i := 2) sc_Change_then.nd rfl (Or.inl rfl) (pe_methR0 (pv 0) T.k_Change T.m_Change_rows G_Change_rows (hr.mono (by decide))))
      (pss_cons (ps_set (i := 3) sc_Change_then.nd rfl (Or.inl rfl) (pe_lst pa_nil))
      (pss_cons (ps_for PassesOwn.never rfl (pi_list (pe_methR0 (pv 1) T.k_Change T.m_Change_rows G_Change_rows (hr.mono (by decide)))) (pg_tup rfl (pgs_cons (pg_name (i := 4) sc_Change_then.nd rfl (Or.inl rfl)) (pgs_cons (pg_name (i := 5) sc_Change_then.nd rfl (Or.inl rfl)) pgs_nil))) (pss_one (ps_if (pt_cmpR op_eq (pv 4) pe_str (nomark _)) (pss_one (ps_expr (pe_bm PySem.F.plainAttrs_list PySem.F.slot_list_append PySem.F.type_list_append mt_append (pv 3) (pa_cons (pe_tup (pa_cons (pv 4) (pa_cons (pv 5) pa_nil))) pa_nil)))) (pss_one (ps_if (pt_cmpR op_eq (pv 4) pe_str (nomark _)) (pss_one (ps_expr (pe_bm PySem.F.plainAttrs_list PySem.F.slot_list_extend PySem.F.type_list_extend mt_extend (pv 3) (pa_cons (pe_callF G_come_to (hr.mono (by decide)) T.f_come_to T.kp_come_to (pa_cons (pv 2) (pa_cons (pv 5) pa_nil))) pa_nil)))) (pss_one (ps_expr (pe_bm PySem.F.plainAttrs_list PySem.F.slot_list_extend PySem.F.type_list_extend mt_extend (pv 3) (pa_cons (pe_lc (own := [("deed", 6), ("many", 7)]) (g := gTup K 2 (gCons (gName 6) (gCons (gName 7) gNil))) rfl sc_Change_then.nd (pi_list (pe_callF G_come_to (hr.mono (by decide)) T.f_come_to T.kp_come_to (pa_cons (pv 2) (pa_cons (pv 5) pa_nil)))) (blkOk_by (own := [("deed", 6), ("many", 7)]) (N := N_Change_then) (sc := defScope s_Change_then) (by decide +kernel)) (fun _ _ _ _ _ => (pg_tup rfl (pgs_cons (pg_name (i := 6) sc_Change_then.nd rfl (Or.inl rfl) (Or.inr rfl)) (pgs_cons (pg_name (i := 7) sc_Change_then.nd rfl (Or.inl rfl) (Or.inr rfl)) pgs_nil)))) (fun _ _ _ _ _ => (pts_one (pt_cmpR op_ne (pv 6) pe_str (nomark _)))) (fun _ _ _ _ _ => (pe_tup (pa_cons pe_str (pa_cons (pv 7) pa_nil))))) pa_nil)))))))))
      (pss_one (ps_ret (StX.pe_makeR T.mk_Change G_Change (hr.mono (by decide)) (by rfl) T.c_Change pass0 (pa_cons (pe_op op_cat (pv 3) (pv 2)) pa_nil)))))))), ?_⟩
    refine ⟨_, rfl, d, dx, _, rfl, hd1, ?_⟩
    refine ⟨_, rfl, c, cx, _, rfl, hc1, rfl, c, a, rfl, hC, by omega, fun H1 l g1 => ?_⟩
    refine ⟨(by show 0 ≤ sizeLine; decide), fun p p0 => ?_⟩
    have s1 := same_new (o := HO.lst []) p0
    have s01 := g1.sm.trans s1
    refine ⟨_, rfl, d, dx, _, rfl, s01 _ _ hd1, rfl, d, b, rfl, hD.mono s01, by omega, fun H2 o g2 => ?_⟩
    obtain ⟨oits, ho, hoR⟩ := g2.ex
    have hol := paired_len hoR
    have t0 : ThenI H H2 l p o oits (rowsOf b) (rowsOf a) [] := by
      obtain ⟨lits, hl, hlR⟩ := g1.ex
      have hl1 := s1 _ _ hl
      have lp := ne_of_none hl p0
      have lo := ne_of_none hl1 g2.l0
      have po : p ≠ o := ne_of_none upd_same g2.l0
      refine ⟨s01.trans g2.sm, g1.l0, g1.sm.free p0, s01.free g2.l0, lits, [], g2.sm _ _ hl1, g2.sm _ _ upd_same, ho, lp, lo, po, ?_, .nil, ?_⟩
      · refine RowsAt.mono (hid2_step fun b u n e => ⟨g2.sm _ _ (s1 _ _ e), ?_⟩) hlR
        simp only [List.mem_cons, List.not_mem_nil, or_false, not_or] at n ⊢
        exact ⟨n, ne_of_none e p0, ne_of_none (s1 _ _ e) g2.l0⟩
      · refine RowsAt.mono (fun b u e => ?_) hoR
        obtain ⟨e1, n⟩ := of_hid e
        obtain ⟨e2, e3⟩ := of_newIn e1
        refine hid_get (newIn_get (s01.free e2) e3) ?_
        simp only [List.mem_cons, List.not_mem_nil, or_false, not_or] at n ⊢
        refine ⟨fun z => ?_, fun z => ?_, n⟩
        · rw [z, hl1] at e2
          cases e2
        · rw [z, upd_same] at e2
          cases e2
    refine ⟨o, rfl, ⟨_, SqL.of ho⟩, for_list (K := K) (a := o) (xs := oits) (fun i σ H3 => ∃ v4 v5 v6 v7 left made, σ = [some (.ref c), some (.ref d), some (.ref l), some (.ref p), v4, v5, v6, v7] ∧ ThenI H H3 l p o oits (rowsOf b) left made ∧
        thenF (rowsOf b) (rowsOf a) = made ++ thenF ((rowsOf b).drop i) left ∧ made.length + left.length ≤ (rowsOf a).length + i)
      ⟨none, none, none, none, rowsOf a, [], rfl, t0, by simp, by simp⟩ (fun i σ H3 _ ⟨_, _, _, _, _, _, _, g, _⟩ => by obtain ⟨_, _, _, _, h, _⟩ := g.ex; exact SqL.of h) ?_ ?_⟩
    · rintro i y σ H3 hi ⟨v4, v5, v6, v7, left, made, rfl, g, eq, sz⟩
      obtain ⟨lits, mits, e1, e2, e3, n1, n2, n3, e4, e5, e6⟩ := g.ex
      obtain ⟨r, hr', hy⟩ := paired_get e6 hi
      have hil : i < (rowsOf b).length := (List.getElem?_eq_some_iff.mp hr').1
      have hy3 := RowAt.mono (hid_same.trans newIn_same) hy
      have q1 := paired_len e4
      have q2 := paired_len e5
      rw [drop_get hr'] at eq
      have sJ : Same (IM H H3 [l, p, o]) H3 := hid_same.trans newIn_same
      have jl : IM H H3 [l, p, o] l = none := by unfold IM hid; rw [if_pos (by simp)]
      have hm : ∀ b ∈ [l, p, o], (H3 b).isSome = true := by
        intro b hb
        simp only [List.mem_cons, List.not_mem_nil, or_false] at hb
        rcases hb with rfl | rfl | rfl
        · rw [e1]; rfl
        · rw [e2]; rfl
        · rw [e3]; rfl
      cases r with
      | put xs =>
        obtain ⟨t, q, rfl, ht, hq⟩ := hy
        refine ⟨t, _, rfl, SqT.of (sJ _ _ ht), rfl, _, _, rfl, _, _, rfl, rfl, ?_⟩
        refine ⟨_, rfl, rfl, _, rfl, ?_⟩
        refine iteT ⟨_, rfl, .inl ⟨rfl, _, SqL.of e2⟩, _, rfl, _, rfl, (by show 2 ≤ sizeLine; decide), fun t2 t20 => ?_⟩
        refine ⟨p, _, _, rfl, rfl, (by rw [upd_ne (ne_of_none e2 t20)]; exact e2), sl5 (by omega), _, _, _, _, left, made ++ [.put xs], rfl, ?_, ?_, ?_⟩
        · have z : Same (IM H H3 [l, p, o]) (IM H (upd (upd H3 t2 (.tup [.str "put", .ref q])) p (.lst (mits ++ [.ref t2]))) [l, p, o]) := im_step fun b u n e => by
            rw [upd_ne (by simp at n; exact n.2.1)]
            exact same_new t20 _ _ e
          refine g.upd (fun b u m1 m2 e => by rw [upd_ne m2]; exact same_new t20 _ _ e) (by rw [upd_ne n1]; exact same_new t20 _ _ e1) upd_same (RowsAt.mono z e4) (paired_app (RowsAt.mono z e5) (paired_one ⟨t2, q, rfl, ?_, z _ _ hq⟩))
          refine hid_get (newIn_get (g.sm.free t20) (by rw [upd_ne (ne_of_none e2 t20).symm]; exact upd_same)) ?_
          simp only [List.mem_cons, List.not_mem_nil, or_false, not_or]
          exact ⟨(ne_of_none e1 t20).symm, (ne_of_none e2 t20).symm, (ne_of_none e3 t20).symm⟩
        · rw [eq]
          simp [thenF]
        · rw [List.length_append, List.length_singleton]
          omega
      | mv bb n =>
        obtain ⟨t, rfl, ht⟩ := hy
        refine ⟨t, _, rfl, SqT.of (sJ _ _ ht), rfl, _, _, rfl, _, _, rfl, rfl, ?_⟩
        refine ⟨_, rfl, rfl, _, rfl, ?_⟩
        rw [wd_put]
        refine iteF ⟨_, rfl, rfl, _, rfl, ?_⟩
        cases bb with
        | true =>
          refine iteT ⟨_, rfl, .inl ⟨rfl, _, SqL.of e2⟩, _, rfl, _, rfl, l, lits, left, IM H H3 [l, p, o], n, rfl, e1, sJ, jl, e4, by omega, fun H4 q g4 hz4 => ?_⟩
          have z4 := im_grow (q := q) (ms := [l, p, o]) (H := H) (by simp) hm g.sm g4.fr
          obtain ⟨fr, q0, lits4, fits, f1, f2, f3, f4⟩ := g4
          have hf := paired_len f4
          have pq := ne_of_none e2 q0
          refine ⟨p, q, mits, fits, rfl, rfl, fr _ _ n1.symm e2, f2, sz5 (by omega), _, _, _, _, (comeTo left n).2, made ++ (comeTo left n).1, rfl, ?_, ?_, ?_⟩
          · have z5 : Same (IM H H4 [l, p, o]) (IM H (upd H4 p (.lst (mits ++ fits))) [l, p, o]) := im_step fun b u n e => by
              rw [upd_ne (by simp at n; exact n.2.1)]
              exact e
            have z3 : Same (IM H H3 [l, p, o]) (IM H H4 [l, p, o]) := im_step fun b u n e => fr b u (by simp at n; exact n.1) e
            exact g.upd (fun b u m1 m2 e => by rw [upd_ne m2]; exact fr b u m1 e) (by rw [upd_ne n1]; exact f1) upd_same (RowsAt.mono (z4.trans z5) f3) (paired_app (RowsAt.mono (z3.trans z5) e5) (RowsAt.mono (z4.trans z5) f4))
          · rw [eq]
            simp [thenF]
          · rw [List.length_append]
            omega
        | false =>
          rw [show decide (V.str (wd false) = V.str "keep") = false from by decide +kernel]
          refine iteF ⟨_, rfl, .inl ⟨rfl, _, SqL.of e2⟩, ?_⟩
          refine ⟨_, rfl, _, rfl, l, lits, left, IM H H3 [l, p, o], n, rfl, e1, sJ, jl, e4, by omega, fun H4 q g4 hz4 => ?_⟩
          have z4 := im_grow (q := q) (ms := [l, p, o]) (H := H) (by simp) hm g.sm g4.fr
          obtain ⟨fr, q0, lits4, fits, f1, f2, f3, f4⟩ := g4
          have hf := paired_len f4
          have pq := ne_of_none e2 q0
          have p4 := fr _ _ n1.symm e2
          have f4' := RowsAt.mono ((z4.trans hid_same).trans newIn_same) f4
          refine ⟨q, rfl, ⟨_, SqL.of f2⟩, fun D hD => ?_⟩
          refine lc_list (K := K) (a := q) (xs := fits) (fun j H5 => (∀ b u, b ≠ D → H4 b = some u → H5 b = some u) ∧ ∃ acc, H5 D = some (.lst acc) ∧ acc.length ≤ j ∧ RowsAt (hid [D] (newIn H4 H5)) acc (takesOf ((comeTo left n).1.take j)))
            ⟨fun b u m e => by rw [upd_ne m]; exact e, [], upd_same, by simp, .nil⟩ (fun j H5 _ e => SqL.of (e.1 _ _ (ne_of_none f2 hD) f2)) (fun j y H5 hj e => ?_) (fun H5 e => ?_)
          · obtain ⟨x, hx, hy⟩ := paired_get f4' hj
            obtain ⟨fr5, acc, a1, a2, a3⟩ := e
            have hjl : j < fits.length := (List.getElem?_eq_some_iff.mp hj).1
            have f5 : ∀ b u, H4 b = some u → H5 b = some u := fun b u e => fr5 b u (ne_of_none e hD) e
            rw [takes_take hx]
            cases x with
            | put xs =>
              obtain ⟨t2, q2, rfl, ht2, hq2⟩ := hy
              refine ⟨t2, _, rfl, SqT.of (f5 _ _ ht2), rfl, _, _, rfl, _, _, rfl, rfl, rfl, ?_⟩
              refine ⟨_, rfl, rfl, _, rfl, ?_⟩
              rw [show decide (V.str "put" = V.str "put") = true from by decide +kernel]
              refine iteF ⟨fr5, acc, a1, by omega, ?_⟩
              simpa [takesOf] using a3
            | mv b2 n2 =>
              obtain ⟨t2, rfl, ht2⟩ := hy
              refine ⟨t2, _, rfl, SqT.of (f5 _ _ ht2), rfl, _, _, rfl, _, _, rfl, rfl, rfl, ?_⟩
              refine ⟨_, rfl, rfl, _, rfl, ?_⟩
              rw [wd_put]
              refine iteT ⟨_, rfl, (by show 2 ≤ sizeLine; decide), fun t3 t30 => ?_⟩
              have Dt := ne_of_none a1 t30
              refine ⟨acc, (by rw [upd_ne Dt]; exact a1), sl5 (by omega), fun b u m e => ?_, _, upd_same, by rw [List.length_append, List.length_singleton]; omega, ?_⟩
              · rw [upd_ne m]
                exact same_new t30 _ _ (fr5 b u m e)
              · refine paired_app (RowsAt.mono (hid2_step fun b u n e => ⟨?_, n⟩) a3) (paired_one ⟨t3, rfl, hid_get (newIn_get ?_ (by rw [upd_ne Dt.symm]; exact upd_same)) (by simpa using Dt.symm)⟩)
                · rw [upd_ne (by simpa using n)]
                  exact same_new t30 _ _ e
                · cases e : H4 t3 with
                  | none => rfl
                  | some u => rw [f5 _ _ e] at t30; cases t30
          · obtain ⟨fr5, acc, a1, a2, a3⟩ := e
            rw [List.take_of_length_le (by omega)] at a3
            have f5 : ∀ b u, H4 b = some u → H5 b = some u := fun b u e => fr5 b u (ne_of_none e hD) e
            have ha := paired_len a3
            have hta := takes_len (comeTo left n).1
            refine ⟨p, D, mits, acc, rfl, rfl, f5 _ _ p4, a1, sz5 (by omega), _, _, _, _, (comeTo left n).2, made ++ takesOf (comeTo left n).1, rfl, ?_, ?_, ?_⟩
            · have z5 : Same (IM H H4 [l, p, o]) (IM H (upd H5 p (.lst (mits ++ acc))) [l, p, o]) := im_step fun b u n e => by
                rw [upd_ne (by simp at n; exact n.2.1)]
                exact f5 _ _ e
              have z3 : Same (IM H H3 [l, p, o]) (IM H H4 [l, p, o]) := im_step fun b u n e => fr b u (by simp at n; exact n.1) e
              refine g.upd (fun b u m1 m2 e => by rw [upd_ne m2]; exact f5 _ _ (fr b u m1 e)) (by rw [upd_ne n1]; exact f5 _ _ f1) upd_same (RowsAt.mono (z4.trans z5) f3) (paired_app (RowsAt.mono (z3.trans z5) e5) (RowsAt.mono (fun b u e => ?_) a3))
              obtain ⟨b1, b2⟩ := of_hid e
              obtain ⟨b3, b4⟩ := of_newIn b1
              have bl : b ≠ l := fun z => by rw [z, f1] at b3; cases b3
              have bp : b ≠ p := fun z => by rw [z, p4] at b3; cases b3
              have bo : b ≠ o := fun z => by rw [z, fr _ _ n2.symm e3] at b3; cases b3
              refine hid_get (newIn_get ?_ (by rw [upd_ne bp]; exact b4)) (by simp [bl, bp, bo])
              cases e : H b with
              | none => rfl
              | some u => rw [fr _ _ bl (g.sm _ _ e)] at b3; cases b3
            · rw [eq]
              simp [thenF]
            · rw [List.length_append]
              omega
    · rintro σ H3 ⟨v4, v5, v6, v7, left, made, rfl, g, eq, sz⟩
      rw [hol, List.drop_of_length_le (Nat.le_refl _)] at eq
      simp only [thenF] at eq
      have hp := thenF_puts (rowsOf b) (rowsOf a)
      rw [eq] at hp
      obtain ⟨sm, l0, p0, o0, lits, mits, e1, e2, e3, n1, n2, n3, e4, e5, e6⟩ := g
      have q1 := paired_len e4
      have q2 := paired_len e5
      refine ⟨_, rfl, _, rfl, p, l, _, _, rfl, rfl, e2, e1, sz5 (by omega), fun r r0 x dx' x0 d0 ne => ?_⟩
      have s3 := same_new (o := HO.lst (mits ++ lits)) r0
      have z : Same (IM H H3 [l, p, o]) (upd H3 r (HO.lst (mits ++ lits))) := (hid_same.trans newIn_same).trans s3
      have hss := sm.trans s3
      refine mk_change upd_same (RowsAt.mono z (paired_app e5 e4)) (by rw [List.length_append]; omega) (fun H6 x s6 x0 hch => k _ x (hss.trans s6) (hss.free x0) ?_) x dx' x0 d0 ne
      have hch := ChAt.mono (newIn_late (H' := H6) hss) hch
      rw [← eq] at hch
      exact hch
/-! ### past -/
def farL : List Rw → List Rw
  | [] => []
  | .put xs :: r => .mv true xs.length :: farL r
  | .mv _ _ :: r => farL r
theorem farL_off (l : List Rw) : farL (putOff l).1 = farOf l := by
  cases l with
  | nil => rfl
  | cons x r => cases x <;> rfl
theorem off_puts {l : List Rw} {i : Nat} {x : Rw} (h : (putOff l).1[i]? = some x) : ∃ xs, x = .put xs := by
  cases l with
  | nil => simp [putOff] at h
  | cons y r =>
    cases y with
    | mv k n => simp [putOff] at h
    | put xs =>
      cases i with
      | zero => simp [putOff] at h; exact ⟨xs, h.symm⟩
      | succ i => simp [putOff] at h
theorem farL_take {l : List Rw} {i : Nat} {xs : List Int} (h : l[i]? = some (.put xs)) : farL (l.take (i + 1)) = farL (l.take i) ++ [.mv true xs.length] := by
  rw [take_succ_get h]
  generalize l.take i = a
  clear h
  induction a with
  | nil => rfl
  | cons y a ih => cases y <;> simp [farL, ih]
theorem off_len (l : List Rw) : (putOff l).1.length + (putOff l).2.length = l.length ∧ (putOff l).1.length ≤ 1 := by
  cases l with
  | nil => simp [putOff]
  | cons y r => cases y <;> simp [putOff] <;> omega
theorem farOf_len (l : List Rw) : (farOf l).length ≤ 1 := by
  cases l with
  | nil => simp [farOf]
  | cons y r => cases y <;> simp [farOf]
theorem leftOf_len (k : Bool) (n s : Nat) (r : List Rw) : (leftOf k n s r).length ≤ r.length + (if s < n then 1 else 0) := by
  unfold leftOf
  split <;> simp
theorem stretch_len {m t : List Rw} (m0 : m ≠ []) (mp : ∀ ys q, m ≠ .put ys :: q) (tp : ∀ ys q, t ≠ .put ys :: q) : (stretch m t).1.length ≤ 1 ∧ (stretch m t).2.1.length + (stretch m t).2.2.length + 1 ≤ m.length + t.length := by
  cases m with
  | nil => exact absurd rfl m0
  | cons x m =>
  cases x with
  | put ys => exact absurd rfl (mp ys m)
  | mv k n =>
  cases t with
  | nil => simp [stretch]
  | cons y t =>
  cases y with
  | put ys => exact absurd rfl (tp ys t)
  | mv k2 n2 =>
    have h1 := leftOf_len k n (min n n2) m
    have h2 := leftOf_len k2 n2 (min n n2) t
    simp only [stretch, List.length_cons]
    refine ⟨by split <;> simp, ?_⟩
    split at h1 <;> split at h2 <;> omega
theorem msr_pos {m : List Rw} (h : m ≠ []) : 0 < msr m := by
  cases m with
  | nil => exact absurd rfl h
  | cons x r => cases x <;> simp [msr] <;> omega
/-- past, between two turns -/
structure PastI (H H1 : Hp) (l1 l2 p : Addr) (mine its made : List Rw) : Prop where
  sm : Same H H1
  l10 : H l1 = none
  l20 : H l2 = none
  p0 : H p = none
  ex : ∃ ms ts ds, H1 l1 = some (.lst ms) ∧ H1 l2 = some (.lst ts) ∧ H1 p = some (.lst ds) ∧ l1 ≠ l2 ∧ l1 ≠ p ∧ l2 ≠ p ∧ RowsAt (IM H H1 [l1, l2, p]) ms mine ∧ RowsAt (IM H H1 [l1, l2, p]) ts its ∧ RowsAt (IM H H1 [l1, l2, p]) ds made
end
section
variable {H H1 H2 : Hp} {l1 l2 p : Addr} {mine its made mine' its' made' : List Rw} {ms' ts' ds' : List V}
theorem PastI.put (g : PastI H H1 l1 l2 p mine its made) (f : ∀ b u, b ∉ [l1, l2, p] → H1 b = some u → H2 b = some u) (h1 : H2 l1 = some (.lst ms')) (h2 : H2 l2 = some (.lst ts')) (h3 : H2 p = some (.lst ds')) (h4 : RowsAt (IM H H2 [l1, l2, p]) ms' mine') (h5 : RowsAt (IM H H2 [l1, l2, p]) ts' its') (h6 : RowsAt (IM H H2 [l1, l2, p]) ds' made') : PastI H H2 l1 l2 p mine' its' made' := by
  obtain ⟨sm, l0, p0, o0, lits, mits, ds, e1, e2, e3, n1, n2, n3, e4, e5, e6⟩ := g
  refine ⟨fun b u h => f b u (fun z => ?_) (sm _ _ h), l0, p0, o0, ms', ts', ds', h1, h2, h3, n1, n2, n3, h4, h5, h6⟩
  simp only [List.mem_cons, List.not_mem_nil, or_false] at z
  rcases z with rfl | rfl | rfl
  · rw [l0] at h; cases h
  · rw [p0] at h; cases h
  · rw [o0] at h; cases h
theorem im_grow' {ms : List Addr} {q : Addr} (hm : ∀ b ∈ ms, (H1 b).isSome = true) (sm : Same H H1) (fr : ∀ b u, b ∉ ms → H1 b = some u → H2 b = some u) : Same (hid [q] (grow (IM H H1 ms) H1 H2)) (IM H H2 ms) := fun b u e => by
  obtain ⟨e1, n⟩ := of_hid e
  rcases of_grow e1 with ⟨h1, h2⟩ | ⟨h1, h2⟩
  · obtain ⟨h3, h4⟩ := of_hid h1
    obtain ⟨h5, h6⟩ := of_newIn h3
    exact hid_get (newIn_get h5 (fr b u h4 h6)) h4
  · exact hid_get (newIn_get (sm.free h1) h2) fun z => by
      have := hm b z
      rw [h1] at this
      cases this
theorem nin3 {b l1 l2 p : Addr} (h : b ∉ [l1, l2, p]) : b ≠ l1 ∧ b ≠ l2 ∧ b ≠ p := by
  simpa using h
theorem PastI.there (g : PastI H H1 l1 l2 p mine its made) : ∀ b ∈ [l1, l2, p], (H1 b).isSome = true := by
  obtain ⟨_, _, _, _, _, _, _, e1, e2, e3, _⟩ := g
  intro b hb
  simp only [List.mem_cons, List.not_mem_nil, or_false] at hb
  rcases hb with rfl | rfl | rfl
  · rw [e1]; rfl
  · rw [e2]; rfl
  · rw [e3]; rfl
theorem PastI.setP (g : PastI H H1 l1 l2 p mine its made) {ds' : List V} (h : RowsAt (IM H H1 [l1, l2, p]) ds' made') : PastI H (upd H1 p (.lst ds')) l1 l2 p mine its made' := by
  have g' := g
  obtain ⟨sm, l0, p0, o0, lits, mits, ds, e1, e2, e3, n1, n2, n3, e4, e5, e6⟩ := g
  have z : Same (IM H H1 [l1, l2, p]) (IM H (upd H1 p (.lst ds')) [l1, l2, p]) := im_step fun b u n e => by rw [upd_ne (nin3 n).2.2]; exact e
  exact g'.put (fun b u n e => by rw [upd_ne (nin3 n).2.2]; exact e) (by rw [upd_ne n2]; exact e1) (by rw [upd_ne n3]; exact e2) upd_same (RowsAt.mono z e4) (RowsAt.mono z e5) (RowsAt.mono z h)
theorem PastI.more (g : PastI H H1 l1 l2 p mine its made) (s : Same H1 H2) : PastI H H2 l1 l2 p mine its made := by
  have g' := g
  obtain ⟨sm, l0, p0, o0, lits, mits, ds, e1, e2, e3, n1, n2, n3, e4, e5, e6⟩ := g
  have z : Same (IM H H1 [l1, l2, p]) (IM H H2 [l1, l2, p]) := im_step fun b u n e => s _ _ e
  exact g'.put (fun b u n e => s _ _ e) (s _ _ e1) (s _ _ e2) (s _ _ e3) (RowsAt.mono z e4) (RowsAt.mono z e5) (RowsAt.mono z e6)
end
section
variable {P : Program} {w : World} {K : PySem.W.Frag} {mg : Str → Option Value} {base : Heap}
abbrev N_Change_past : List Str := ["self", "other", "ahead", "mine", "its", "made", "own", "far", "word", "what"]
theorem sc_Change_past : FnScope N_Change_past ["self", "other", "ahead"] (defScope s_Change_past) := ⟨rfl, rfl, rfl, by decide +kernel, rfl, by decide +kernel, by decide +kernel⟩
def spPast (K : PySem.W.Frag) : Sp := fun vs H Q _ => ∃ (c d : Addr) (a b : Gs) (ah : Bool), vs = [.ref c, .ref d, .bl ah] ∧ ChAt K H c a ∧ ChAt K H d b ∧ Canon a ∧ Canon b ∧ a.length ≤ 2000 ∧ b.length ≤ 2000 ∧ pt a ≤ 10000 ∧
  ∀ H' x, Same H H' → H x = none → ChAt K (newIn H H') x (pastG ah a b) → Q (.ref x) H'
theorem okK_Change_past (T : Txt K mg) {fd : FuncData} (F : FunD K d_Change_past.name d_Change_past.qual d_Change_past.params d_Change_past.body d_Change_past.scope (d_Change_past.dvs K) (d_Change_past.kws K) (He.fAd K d_Change_past.at_) fd) :
    FnOk P w K mg base CX0 6 (He.ma K (He.ga K "Change") "past") fd ["self", "other", "ahead"] (spPast K) := by
  have G_check_change := ok_check_change (P := P) (w := w) (base := base) T
  have G_Change_rows := ok_Change_rows (P := P) (w := w) (base := base) T
  have G_put_off := ok_put_off (P := P) (w := w) (base := base) T
  have G_stretch_off := ok_stretch_off (P := P) (w := w) (base := base) T
  have G_Change := ok_Change_init (P := P) (w := w) (base := base) T
  refine FunD.ok F sc_Change_past (fun vs H Q E h => ?_) fun cdv A outer s H vs Q E hr h => ?_
  · obtain ⟨c, d, a, b, ah, rfl, _⟩ := h
    rfl
  · obtain ⟨c, d, a, b, ah, rfl, hC, hD, ka, kb, za, zb, zp, k⟩ := h
    obtain ⟨cx, cl, cit, hc1, hc2, hc3⟩ := id hC
    obtain ⟨dx, dl, dit, hd1, hd2, hd3⟩ := id hD
    have ra := rowsOf_len a
    have rb := rowsOf_len b
    refine ⟨_, PSs.nox ((pss_cons (ps_expr (pe_callF G_check_change (hr.mono (by decide)) T.f_check_change T.kp_check_change (pa_cons (pv 1) pa_nil)))
      (pss_cons (ps_set (i := 3) sc_Change_past.nd rfl (Or.inl rfl) (pe_methR0 (pv 0) T.k_Change T.m_Change_rows G_Change_rows (hr.mono (by decide))))
      (pss_cons (ps_set (i := 4) sc_Change_past.nd rfl (Or.inl rfl) (pe_methR0 (pv 1) T.k_Change T.m_Change_rows G_Change_rows (hr.mono (by decide))))
      (pss_cons (ps_set (i := 5) sc_Change_past.nd rfl (Or.inl rfl) (pe_lst pa_nil))
      (pss_cons (ps_while PassesOwn.never (pt_cmpR (op_neNil hr.units0) (pv 3) (pe_lst pa_nil) (nomark _)) (pss_cons (ps_set (i := 6) sc_Change_past.nd rfl (Or.inl rfl) (pe_callF G_put_off (hr.mono (by decide)) T.f_put_off T.kp_put_off (pa_cons (pv 3) pa_nil)))
      (pss_cons (ps_setLc (i := 7) (own := [("word", 8), ("what", 9)]) (g := gTup K 2 (gCons (gName 8) (gCons (gName 9) gNil))) (te := tTup (tCons (tC (.str "keep")) (tCons (tCB (fun xs H Q => ∃ p ys, xs = [.ref p] ∧ (SqL K H p ys ∨ SqT K H p ys) ∧ Q (.int ys.length) H) (tCons (tVar 9) tNil)) tNil))) rfl sc_Change_past.nd rfl rfl (sw_true rfl rfl rfl (by decide +kernel)) (pi_list (pe_callF G_put_off (hr.mono (by decide)) T.f_put_off T.kp_put_off (pa_cons (pv 4) pa_nil))) (blkOk_by (own := [("word", 8), ("what", 9)]) (N := N_Change_past) (sc := defScope s_Change_past) (by decide +kernel)) (fun _ _ _ _ _ => (pg_tup rfl (pgs_cons (pg_name (i := 8) sc_Change_past.nd rfl (Or.inl rfl) (Or.inr rfl)) (pgs_cons (pg_name (i := 9) sc_Change_past.nd rfl (Or.inl rfl) (Or.inr rfl)) pgs_nil)))) (fun _ _ _ _ _ => pts_nil) (fun _ _ _ _ _ => (pe_tup (pa_cons pe_str (pa_cons (pe_callB call_len_seq (by rfl) T.g_len (by decide +kernel) (pa_cons (pv 9) pa_nil)) pa_nil)))))
      (pss_cons (ps_expr (pe_bm PySem.F.plainAttrs_list PySem.F.slot_list_extend PySem.F.type_list_extend mt_extend (pv 5) (pa_cons (pe_cut (pe_ifExp (pt_val (pv 2)) (pe_op op_cat (pv 6) (pv 7)) (pe_op op_cat (pv 7) (pv 6)))) pa_nil)))
      (pss_one (ps_if (pt_cmpR (op_neNil hr.units0) (pv 3) (pe_lst pa_nil) (nomark _)) (pss_one (ps_expr (pe_bm PySem.F.plainAttrs_list PySem.F.slot_list_extend PySem.F.type_list_extend mt_extend (pv 5) (pa_cons (pe_callF G_stretch_off (hr.mono (by decide)) T.f_stretch_off T.kp_stretch_off (pa_cons (pv 3) (pa_cons (pv 4) pa_nil))) pa_nil)))) pss_nil))))))
      (pss_one (ps_ret (StX.pe_makeR T.mk_Change G_Change (hr.mono (by decide)) (by rfl) T.c_Change pass0 (pa_cons (pv 5) pa_nil)))))))))), ?_⟩
    refine ⟨_, rfl, d, dx, _, rfl, hd1, ?_⟩
    refine ⟨_, rfl, c, cx, _, rfl, hc1, rfl, c, a, rfl, hC, by omega, fun H1 l1 g1 => ?_⟩
    refine ⟨_, rfl, d, dx, _, rfl, g1.sm _ _ hd1, rfl, d, b, rfl, hD.mono g1.sm, by omega, fun H2 l2 g2 => ?_⟩
    refine ⟨(by show 0 ≤ sizeLine; decide), fun p p0 => ?_⟩
    have s12 := g1.sm.trans g2.sm
    have sp := same_new (o := HO.lst []) p0
    have t0 : PastI H (upd H2 p (.lst [])) l1 l2 p (rowsOf a) (rowsOf b) [] := by
      obtain ⟨ms, hl, hlR⟩ := g1.ex
      obtain ⟨ts, hl2, hl2R⟩ := g2.ex
      have hl' := g2.sm _ _ hl
      have n1 : l1 ≠ l2 := ne_of_none hl g2.l0
      have n2 : l1 ≠ p := ne_of_none hl' p0
      have n3 : l2 ≠ p := ne_of_none hl2 p0
      refine ⟨s12.trans sp, g1.l0, g1.sm.free g2.l0, s12.free p0, ms, ts, [], sp _ _ hl', sp _ _ hl2, upd_same, n1, n2, n3, ?_, ?_, .nil⟩
      · refine RowsAt.mono (hid2_step fun b u n e => ⟨sp _ _ (g2.sm _ _ e), ?_⟩) hlR
        simp only [List.mem_cons, List.not_mem_nil, or_false, not_or] at n ⊢
        exact ⟨n, ne_of_none e g2.l0, ne_of_none (g2.sm _ _ e) p0⟩
      · refine RowsAt.mono (fun b u e => ?_) hl2R
        obtain ⟨e1, n⟩ := of_hid e
        obtain ⟨e2, e3⟩ := of_newIn e1
        refine hid_get (newIn_get (g1.sm.free e2) (sp _ _ e3)) ?_
        simp only [List.mem_cons, List.not_mem_nil, or_false, not_or] at n ⊢
        refine ⟨fun z => ?_, n, ne_of_none e3 p0⟩
        rw [z, hl] at e2
        cases e2
    refine ⟨fun μ σ H3 => ∃ v6 v7 v8 v9 mine its made, μ = msr mine + msr its ∧ σ = [some (.ref c), some (.ref d), some (.bl ah), some (.ref l1), some (.ref l2), some (.ref p), v6, v7, v8, v9] ∧ PastI H H3 l1 l2 p mine its made ∧ noPP mine ∧ noPP its ∧
        pastF ah (rowsOf a) (rowsOf b) = made ++ pastF ah mine its ∧ made.length + 3 * (mine.length + its.length) ≤ 3 * ((rowsOf a).length + (rowsOf b).length),
      ⟨_, none, none, none, none, rowsOf a, rowsOf b, [], rfl, rfl, t0, noPP_rowsOf ka, noPP_rowsOf kb, rfl, by simp⟩, ?_⟩
    clear t0 p0 sp
    rintro _ σ H3 ⟨v6, v7, v8, v9, mine, its, made, rfl, rfl, g, pm, pi, eq, sz⟩
    refine ⟨_, rfl, (by show 0 ≤ sizeLine; decide), fun e e0 => ?_⟩
    have g := g.more (same_new (o := HO.lst []) e0)
    obtain ⟨ms, ts, ds, e1, e2, e3, n1, n2, n3, e4, e5, e6⟩ := g.ex
    refine ⟨l1, e, ms, rfl, rfl, SqL.of e1, SqL.of upd_same, _, rfl, ?_⟩
    generalize upd H3 e (HO.lst []) = H4 at g e1 e2 e3 e4 e5 e6 ⊢
    clear e0
    have q1 := paired_len e4
    have q2 := paired_len e5
    have q3 := paired_len e6
    refine iteB (fun hc => ?_) (fun hc => ?_)
    · have hm0 : mine ≠ [] := fun z => by
        rw [z] at q1
        rw [List.length_eq_zero_iff.mp q1] at hc
        cases hc
      refine ⟨_, fun σ' H' h => h, ?_⟩
      have sJ : ∀ H', Same (IM H H' [l1, l2, p]) H' := fun H' => hid_same.trans newIn_same
      have jn : ∀ H' b, b ∈ [l1, l2, p] → IM H H' [l1, l2, p] b = none := fun H' b hb => by unfold IM hid; rw [if_pos hb]
      -- own = put_off(mine)
      refine ⟨_, rfl, l1, ms, mine, IM H H4 [l1, l2, p], rfl, e1, sJ _, jn _ _ (by simp), e4, fun H5 ow owi mi f5 ow0 ow1 m5 r1 r2 => ?_⟩
      have z45 : Same (IM H H4 [l1, l2, p]) (IM H H5 [l1, l2, p]) := im_step fun b u n e => f5 _ _ (nin3 n).1 e
      have g5 := g.put (fun b u n e => f5 _ _ (nin3 n).1 e) m5 (f5 _ _ n1.symm e2) (f5 _ _ n2.symm e3) (RowsAt.mono z45 r2) (RowsAt.mono z45 e5) (RowsAt.mono z45 e6)
      have h5l2 := f5 _ _ n1.symm e2
      have r1 := RowsAt.mono z45 r1
      have owl := paired_len r1
      have o1 := off_len mine
      have o2 := off_len its
      have o3 := farOf_len its
      obtain ⟨pm2, pmh⟩ := noPP_putOff pm
      obtain ⟨pi2, pih⟩ := noPP_putOff pi
      have hmsr := msr_pos hm0
      have m1 := msr_putOff mine
      have m2 := msr_putOff its
      have ow12 : ow ≠ l1 ∧ ow ≠ l2 ∧ ow ≠ p := ⟨(ne_of_none e1 ow0).symm, (ne_of_none e2 ow0).symm, (ne_of_none e3 ow0).symm⟩
      -- far = [..]
      refine ⟨_, rfl, l2, ts, its, IM H H5 [l1, l2, p], rfl, h5l2, sJ _, jn _ _ (by simp), RowsAt.mono z45 e5, fun H6 fo foi ti f6 fo0 fo1 t6 u1 u2 => ?_⟩
      have z56 : Same (IM H H5 [l1, l2, p]) (IM H H6 [l1, l2, p]) := im_step fun b u n e => f6 _ _ (nin3 n).2.1 e
      obtain ⟨ms5, ts5, ds5, v1, v2, v3, _, _, _, v4, v5, v6'⟩ := g5.ex
      have g6 := g5.put (fun b u n e => f6 _ _ (nin3 n).2.1 e) (f6 _ _ n1 v1) t6 (f6 _ _ n3.symm v3) (RowsAt.mono z56 v4) (RowsAt.mono z56 u2) (RowsAt.mono z56 v6')
      have r1 := RowsAt.mono z56 r1
      have ow6 := f6 _ _ ow12.2.1 ow1
      have u1 := RowsAt.mono (sJ _) (RowsAt.mono z56 u1)
      have ful := paired_len u1
      refine ⟨fo, rfl, ⟨_, SqL.of fo1⟩, fun D hD => ?_⟩
      refine lc_list0 (K := K) (a := fo) (xs := foi) (fun j H7 => (∀ b u, b ≠ D → H6 b = some u → H7 b = some u) ∧ ∃ acc, H7 D = some (.lst acc) ∧ acc.length ≤ j ∧ RowsAt (hid [D] (newIn H6 H7)) acc (farL ((putOff its).1.take j)))
        ⟨fun b u m e => by rw [upd_ne m]; exact e, [], upd_same, by simp, .nil⟩ (fun j H7 _ e => SqL.of (e.1 _ _ (ne_of_none fo1 hD) fo1)) (fun j y H7 hj e => ?_) (fun H7 e => ?_)
      · obtain ⟨x, hx, hy⟩ := paired_get u1 hj
        obtain ⟨xs, rfl⟩ := off_puts hx
        obtain ⟨fr7, acc, a1, a2, a3⟩ := e
        have hjl : j < foi.length := (List.getElem?_eq_some_iff.mp hj).1
        have f7 : ∀ b u, H6 b = some u → H7 b = some u := fun b u e => fr7 b u (ne_of_none e hD) e
        rw [farL_take hx]
        obtain ⟨t2, q2', rfl, ht2, hq2⟩ := hy
        refine ⟨t2, _, rfl, SqT.of (f7 _ _ ht2), rfl, _, _, rfl, _, _, rfl, rfl, rfl, ?_⟩
        refine ⟨_, rfl, q2', _, rfl, .inl (SqL.of (f7 _ _ hq2)), (by show 2 ≤ sizeLine; decide), fun t3 t30 => ?_⟩
        have Dt := ne_of_none a1 t30
        refine ⟨acc, (by rw [upd_ne Dt]; exact a1), sl5 (by omega), fun b u m e => ?_, _, upd_same, by rw [List.length_append, List.length_singleton]; omega, ?_⟩
        · rw [upd_ne m]
          exact same_new t30 _ _ (fr7 b u m e)
        · refine paired_app (RowsAt.mono (hid2_step fun b u n e => ⟨?_, n⟩) a3) (paired_one ⟨t3, rfl, hid_get (newIn_get ?_ (by rw [upd_ne Dt.symm, upd_same, List.length_map]; rfl)) (by simpa using Dt.symm)⟩)
          · rw [upd_ne (by simpa using n)]
            exact same_new t30 _ _ e
          · cases e : H6 t3 with
            | none => rfl
            | some u => rw [f7 _ _ e] at t30; cases t30
      · obtain ⟨fr7, fa, a1, a2, a3⟩ := e
        rw [List.take_of_length_le (by omega), farL_off] at a3
        have s67 : Same H6 H7 := fun b u e => fr7 b u (ne_of_none e hD) e
        have hfa := paired_len a3
        have g7 := g6.more s67
        have r1 := RowsAt.mono (im_step (ms := [l1, l2, p]) fun b u n e => s67 _ _ e) r1
        have ow7 := s67 _ _ ow6
        obtain ⟨ms6, ts6, ds6, w1, w2, w3, _, _, _, w4, w5, w6⟩ := g6.ex
        have a3 : RowsAt (IM H H7 [l1, l2, p]) fa (farOf its) := RowsAt.mono (fun b u e => by
          obtain ⟨b1, b2⟩ := of_hid e
          obtain ⟨b3, b4⟩ := of_newIn b1
          refine hid_get (newIn_get (g6.sm.free b3) b4) fun z => ?_
          have := g6.there b z
          rw [b3] at this
          cases this) a3
        clear a2 fr7 w1 w2 w3 w4 w5 w6 v1 v2 v3 v4 v5 v6' f6 f5 u1 u2 r2 e1 e2 e3 e4 e5 e6 g6 g5 g
        obtain ⟨ms7, ts7, ds7, w1, w2, w3, _, _, _, w4, w5, w6⟩ := id g7.ex
        have k1 := paired_len w4
        have k2 := paired_len w5
        have k3 := paired_len w6
        -- made.extend(own + far if ahead else far + own)
        refine ⟨_, rfl, .inl ⟨rfl, _, SqL.of w3⟩, fun v H' => ∃ x pit, v = .ref x ∧ Same H7 H' ∧ H7 x = none ∧ H' x = some (.lst pit) ∧ RowsAt (IM H H7 [l1, l2, p]) pit (if ah = true then (putOff mine).1 ++ farOf its else farOf its ++ (putOff mine).1), ?_, ?_⟩
        · refine ⟨_, rfl, _, rfl, ?_⟩
          cases ah with
          | true => exact iteT ⟨_, rfl, _, rfl, ow, D, owi, fa, rfl, rfl, ow7, a1, sz5 (by omega), fun x x0 => ⟨x, _, rfl, same_new x0, x0, upd_same, paired_app r1 a3⟩⟩
          | false => exact iteF ⟨_, rfl, _, rfl, D, ow, fa, owi, rfl, rfl, a1, ow7, sz5 (by omega), fun x x0 => ⟨x, _, rfl, same_new x0, x0, upd_same, paired_app a3 r1⟩⟩
        rintro _ H8 ⟨x, pit, rfl, s78, x0, hx, hpit⟩
        have z78 : Same (IM H H7 [l1, l2, p]) (IM H H8 [l1, l2, p]) := im_step fun b u n e => s78 _ _ e
        have hpl := paired_len hpit
        have hpre : pit.length ≤ (putOff mine).1.length + 1 := by
          rw [hpl]
          split <;> simp only [List.length_append] <;> omega
        refine ⟨p, x, ds7, pit, rfl, rfl, s78 _ _ w3, hx, sz5 (by omega), ?_⟩
        have g8 := (g7.more s78).setP (made' := made ++ (if ah = true then (putOff mine).1 ++ farOf its else farOf its ++ (putOff mine).1)) (ds' := ds7 ++ pit) (paired_app (RowsAt.mono z78 w6) (RowsAt.mono z78 hpit))
        have lm : (made ++ (if ah = true then (putOff mine).1 ++ farOf its else farOf its ++ (putOff mine).1)).length ≤ made.length + ((putOff mine).1.length + 1) := by
          rw [List.length_append, ← hpl]
          omega
        rw [pastF_cons ah its hm0, ← List.append_assoc] at eq
        clear g7 w1 w2 w3 w4 w5 w6 hpit hx a3 r1 ow7 a1 z78 s78
        generalize made ++ (if ah = true then (putOff mine).1 ++ farOf its else farOf its ++ (putOff mine).1) = made2 at g8 lm eq
        generalize upd H8 p (HO.lst (ds7 ++ pit)) = H9 at g8 ⊢
        -- if mine != []
        refine ⟨_, rfl, (by show 0 ≤ sizeLine; decide), fun e2 e20 => ?_⟩
        have g9 := g8.more (same_new (o := HO.lst []) e20)
        obtain ⟨ms9, ts9, ds9, w1, w2, w3, _, _, _, w4, w5, w6⟩ := id g9.ex
        have k1 := paired_len w4
        have k2 := paired_len w5
        have k3 := paired_len w6
        refine ⟨l1, e2, ms9, rfl, rfl, SqL.of w1, SqL.of upd_same, _, rfl, ?_⟩
        generalize upd H9 e2 (HO.lst []) = H10 at g9 w1 w2 w3 w4 w5 w6 ⊢
        clear e20 g8
        refine iteB (fun hc2 => ?_) (fun hc2 => ?_)
        · have hm2 : (putOff mine).2 ≠ [] := fun z => by
            rw [z] at k1
            rw [List.length_eq_zero_iff.mp k1] at hc2
            cases hc2
          rw [if_neg hm2, ← List.append_assoc] at eq
          have m3 := msr_stretch _ (putOff its).2 hm2
          obtain ⟨sl1, sl2⟩ := stretch_len hm2 pmh pih
          have SF := stretch_facts pm2 pi2 pmh pih hm2
          refine ⟨_, rfl, .inl ⟨rfl, _, SqL.of w3⟩, _, rfl, _, rfl, l1, l2, ms9, ts9, _, _, IM H H10 [l1, l2, p], rfl, n1, w1, w2, sJ _, jn _ _ (by simp), jn _ _ (by simp), w4, w5, by omega, hm2, pmh, pih, fun H11 q g11 => ?_⟩
          obtain ⟨fr, q0, ma, ta, ra', x1, x2, x3, x4, x5, x6⟩ := g11
          have zz := im_grow' (q := q) g9.there g9.sm (fun b u n e => fr b u (nin3 n).1 (nin3 n).2.1 e)
          have z1 : Same (IM H H10 [l1, l2, p]) (IM H H11 [l1, l2, p]) := im_step fun b u n e => fr b u (nin3 n).1 (nin3 n).2.1 e
          have hp11 := fr _ _ n2.symm n3.symm w3
          have g11 := g9.put (fun b u n e => fr b u (nin3 n).1 (nin3 n).2.1 e) x1 x2 hp11 (RowsAt.mono zz x4) (RowsAt.mono zz x5) (RowsAt.mono z1 w6)
          have hra := paired_len x6
          refine ⟨p, q, ds9, ra', rfl, rfl, hp11, x3, sz5 (by omega), _, ?_, _, _, _, _, (stretch (putOff mine).2 (putOff its).2).2.1, (stretch (putOff mine).2 (putOff its).2).2.2, made2 ++ (stretch (putOff mine).2 (putOff its).2).1, rfl, rfl, g11.setP (paired_app (RowsAt.mono z1 w6) (RowsAt.mono zz x6)), SF.pp1, SF.pp2, eq, ?_⟩
          · omega
          · rw [List.length_append]
            omega
        · have hm2 : (putOff mine).2 = [] := by
            have : ms9 = [] := by
              cases ms9 with
              | nil => rfl
              | cons _ _ => cases hc2
            rw [this] at k1
            exact List.length_eq_zero_iff.mp k1.symm
          rw [if_pos hm2, List.append_nil] at eq
          rw [hm2] at g9 o1
          simp only [List.length_nil] at o1
          refine ⟨_, ?_, _, _, _, _, [], (putOff its).2, made2, rfl, rfl, g9, trivial, pi2, ?_, ?_⟩
          · simp only [msr]
            omega
          · rw [pastF_nil, List.append_nil]
            exact eq
          · simp only [List.length_nil]
            have := List.length_pos_iff.mpr hm0
            omega
    · have hm0 : mine = [] := by
        have : ms = [] := by
          cases ms with
          | nil => rfl
          | cons _ _ => cases hc
        rw [this] at q1
        exact List.length_eq_zero_iff.mp q1.symm
      subst hm0
      rw [pastF_nil, List.append_nil] at eq
      have hp := (past_facts ah _ _ _ (Nat.le_refl _) (noPP_rowsOf ka) (noPP_rowsOf kb)).1
      rw [eq] at hp
      refine ⟨_, rfl, fun x dx' x0 d0 ne => ?_⟩
      refine mk_change e3 (RowsAt.mono (hid_same.trans newIn_same) e6) (by rw [hp]; unfold pt at zp; omega) (fun H6 x s6 x0 hch => k _ x (g.sm.trans s6) (g.sm.free x0) ?_) x dx' x0 d0 ne
      have hch := ChAt.mono (newIn_late (H' := H6) g.sm) hch
      rw [← eq] at hch
      exact hch
theorem b_past {fd : FuncData} (F : FunD K d_Change_past.name d_Change_past.qual d_Change_past.params d_Change_past.body d_Change_past.scope (d_Change_past.dvs K) (d_Change_past.kws K) (He.fAd K d_Change_past.at_) fd) :
    ∃ ds, Vals [.bl false] ds ∧ Binds K fd ["self", "other", "ahead"] ds := by
  refine FunD.binds0 (ps := ["self", "other", "ahead"]) F 2 (fun e => by cases e) rfl fun D doc pm an cdv ct us ks hu hk => ?_
  match us, hu, ks, hk with
  | [a, b], _, [c], _ => exact ⟨_, _, _, _, _, _, rfl, rfl, rfl⟩
theorem k_past {fd : FuncData} (F : FunD K d_Change_past.name d_Change_past.qual d_Change_past.params d_Change_past.body d_Change_past.scope (d_Change_past.dvs K) (d_Change_past.kws K) (He.fAd K d_Change_past.at_) fd) :
    ∃ mv : List Value, KBn K fd ["self", "other", "ahead"] 2 ["ahead"] (fun us ws => us ++ ws) (fun vs zs => vs ++ zs) := by
  have := FunD.kbinds0 (ps := ["self", "other", "ahead"]) F 2 ["ahead"] [] (fun us mv ws => us ++ ws) (fun e => by cases e) (by simp) (fun r _ r2 => r.append r2) fun D doc pm an cdv ct us mv ws hu hm hw => ?_
  · exact this
  match us, hu, mv, hm, ws, hw with
  | [a, b], _, [], _, [c], _ => rfl
/-- its.past(change) -/
theorem ok_Change_past (T : Txt K mg) : FnR P w K mg base CX0 6 (He.ma K (He.ga K "Change") "past") (fun vs H Q E => spPast K (vs ++ [.bl false]) H Q E) := by
  obtain ⟨fd, F⟩ := T.d_Change_past
  obtain ⟨ds, r, hb⟩ := b_past F
  exact FnOk.raw (okK_Change_past T F) hb r
/-- its.past(change, ahead=True) -/
theorem okN_Change_past (T : Txt K mg) : ∃ fd, FnOk P w K mg base CX0 6 (He.ma K (He.ga K "Change") "past") fd ["self", "other", "ahead"] (spPast K) ∧ KBn K fd ["self", "other", "ahead"] 2 ["ahead"] (fun us ws => us ++ ws) (fun vs zs => vs ++ zs) := by
  obtain ⟨fd, F⟩ := T.d_Change_past
  obtain ⟨_, hb⟩ := k_past F
  exact ⟨fd, okK_Change_past T F, hb⟩
end
end K94
set_option maxRecDepth 100000
set_option maxHeartbeats 4000000
/-! K94G: alike; changed; a side. -/
namespace K94
open PySem PySem.Spec PyProof.Rows L2
section
variable {P : Program} {w : World} {K : PySem.W.Frag} {mg : Str → Option Value} {base : Heap}
def grD (g : Gr) : PyData := .list [.int g.many, .list (g.signs.map PyData.int), .int g.fewer]
theorem dp_gs {H : Hp} : ∀ {its : List V} {gs : Gs}, GrsAt H its gs → DpAll K H its (gs.map grD)
  | _, _, .nil => .nil
  | _, _, .cons ⟨l, q, e, h1, h2⟩ t => .cons (by rw [e]; exact .lst (SqL.of h1) (.cons (.int _) (.cons (.lst (SqL.of h2) (dp_ints _ _ _)) (.cons (.int _) .nil)))) (dp_gs t)
theorem can_gs : ∀ gs : Gs, PyData.canLayAll0 (gs.map grD) = true
  | [] => rfl
  | g :: r => by simp [grD, PyData.canLayAll0, PyData.canLay0, can_ints, can_gs r]
theorem dep_gs : ∀ gs : Gs, PyData.depthAll (gs.map grD) ≤ 2
  | [] => by simp [PyData.depthAll]
  | g :: r => by
    have := dep_gs r
    simp [grD, PyData.depthAll, PyData.depth, dep_ints]
    omega
theorem shp_gs (gs : Gs) : SeqAt.shaped (.list (gs.map grD)) = true := by
  have := dep_gs gs
  simp [SeqAt.shaped, PyData.canLay0, PyData.depth, can_gs]
  omega
theorem eqv_ints : ∀ ns : List Int, PyData.eqvAll (ns.map PyData.int) (ns.map PyData.int) = true
  | [] => rfl
  | _ :: r => by simp [PyData.eqvAll, PyData.eqv, eqv_ints r]
theorem eqv_gs : ∀ gs : Gs, PyData.eqvAll (gs.map grD) (gs.map grD) = true
  | [] => rfl
  | _ :: r => by simp [grD, PyData.eqvAll, PyData.eqv, eqv_ints, eqv_gs r]
abbrev N_Change_eq : List Str := ["self", "other"]
theorem sc_Change_eq : FnScope N_Change_eq ["self", "other"] (defScope s_Change_eq) := ⟨rfl, rfl, rfl, by decide +kernel, rfl, by decide +kernel, by decide +kernel⟩
def spEqC (K : PySem.W.Frag) : Sp := fun vs H Q _ => ∃ (c d : Addr) (gs : Gs), vs = [.ref c, .ref d] ∧ ChAt K H c gs ∧ ChAt K H d gs ∧ Q (.bl true) H
theorem ok_Change_eq (T : Txt K mg) : FnR P w K mg base CX0 1 (He.ma K (He.ga K "Change") "__eq__") (spEqC K) := by
  refine fnr_of T.d_Change_eq sc_Change_eq (fun vs H Q E h => ?_) (fun _ _ _ _ _ _ us hl => match us, hl with | [_, _], _ => rfl) (fun cdv A outer s H vs Q E hr h => ?_)
  · obtain ⟨c, d, gs, rfl, _⟩ := h
    rfl
  · obtain ⟨c, d, gs, rfl, ⟨cx, cl, cit, hc1, hc2, hc3⟩, ⟨dx, dl, dit, hd1, hd2, hd3⟩, k⟩ := h
    refine ⟨_, (pss_one (ps_ret (pe_and (pe_callB call_isi (by rfl) T.g_isinstance (by decide +kernel) (pa_cons (pv 1) (pa_cons (pe_glob (v := .ref _) (by rfl) T.c_Change rfl) pa_nil))) (pe_one (pe_cmpR (op_eqD hr.units) (pe_fld (pv 0) rfl) (pe_fld (pv 1) rfl) (nomark _)))))), ?_⟩
    refine ⟨_, rfl, _, _, _, _, _, rfl, .own _, tyx_ins hd1 T.i_Change, T.i_Change.me, _, rfl, iteT ?_⟩
    refine ⟨_, rfl, c, _, cx, _, _, rfl, hc1, T.k_Change, T.n_Change_groups, rfl, _, rfl, d, _, dx, _, _, rfl, hd1, T.k_Change, T.n_Change_groups, rfl, .list (gs.map grD), .list (gs.map grD), .lst (SqL.of hc2) (dp_gs hc3), .lst (SqL.of hd2) (dp_gs hd3), shp_gs _, shp_gs _, ?_⟩
    rw [show PyData.eqv (.list (gs.map grD)) (.list (gs.map grD)) = true from by simp [PyData.eqv, eqv_gs]]
    exact k
end

/-! ### steps of the heap: F changes, F' may change after it -/
structure Stp (H : Hp) (F : List Addr) (H' : Hp) (F' : List Addr) : Prop where
  fr : ∀ b o, b ∉ F → H b = some o → H' b = some o
  kp : ∀ b, (H b).isSome = true → (H' b).isSome = true
  fs : ∀ b ∈ F', b ∈ F ∨ H b = none
  th : ∀ b ∈ F', (H' b).isSome = true
/-- what never changes, after the step -/
def nextI (I H H' : Hp) (F' : List Addr) : Hp := hid F' (grow I H H')
section
variable {I H H' H1 H2 : Hp} {F F' F1 F2 R : List Addr} {a b t : Addr} {o u : HO}
theorem some_of (h : H b = some o) : (H b).isSome = true := by rw [h]; rfl
theorem Stp.refl (h : ∀ b ∈ F, (H b).isSome = true) : Stp H F H F := ⟨fun _ _ _ h => h, fun _ h => h, fun _ h => .inl h, h⟩
theorem Stp.ofSame (s : Same H H') (h : ∀ b ∈ F, (H b).isSome = true) : Stp H F H' F :=
  ⟨fun _ _ _ e => s _ _ e, fun b e => by
    cases q : H b with
    | none => rw [q] at e; cases e
    | some o => exact some_of (s _ _ q), fun _ h => .inl h, fun b e => by
    have := h b e
    cases q : H b with
    | none => rw [q] at this; cases this
    | some o => exact some_of (s _ _ q)⟩
theorem of_nextI (h : nextI I H H' F' b = some o) : b ∉ F' ∧ ((I b = some o ∧ (H b).isSome = true) ∨ (H b = none ∧ H' b = some o)) := by
  obtain ⟨h1, h2⟩ := of_hid h
  exact ⟨h2, of_grow h1⟩
theorem nextI_old (h : I b = some o) (h1 : (H b).isSome = true) (n : b ∉ F') : nextI I H H' F' b = some o := by
  refine hid_get ?_ n
  unfold grow
  rw [if_pos h1]
  exact h
theorem nextI_fresh (h : H b = none) (e : H' b = some o) (n : b ∉ F') : nextI I H H' F' b = some o := hid_get (grow_new h e) n
theorem Stp.same (S : Stp H F H' F') (sI : Same I H) (hF : ∀ b ∈ F, I b = none) : Same (nextI I H H' F') H' := fun b o h => by
  obtain ⟨n, ⟨h1, h2⟩ | ⟨h1, h2⟩⟩ := of_nextI h
  · exact S.fr b o (fun z => by rw [hF b z] at h1; cases h1) (sI _ _ h1)
  · exact h2
theorem Stp.gone (S : Stp H F H' F') : ∀ b ∈ F', nextI I H H' F' b = none := fun b h => by
  unfold nextI hid
  rw [if_pos h]
theorem Stp.mono (S : Stp H F H' F') (sI : Same I H) (hF : ∀ b ∈ F, I b = none) : Same I (nextI I H H' F') := fun b o h => by
  refine nextI_old h (some_of (sI _ _ h)) fun z => ?_
  rcases S.fs b z with h1 | h1
  · rw [hF b h1] at h
    cases h
  · rw [sI _ _ h] at h1
    cases h1
theorem Stp.trans (S : Stp H F H1 F1) (T : Stp H1 F1 H2 F2) : Stp H F H2 F2 := by
  refine ⟨fun b o n h => T.fr b o (fun z => ?_) (S.fr b o n h), fun b h => T.kp b (S.kp b h), fun b h => ?_, T.th⟩
  · rcases S.fs b z with h1 | h1
    · exact n h1
    · rw [h] at h1
      cases h1
  · rcases T.fs b h with h1 | h1
    · exact S.fs b h1
    · right
      cases q : H b with
      | none => rfl
      | some o =>
        have := S.kp b (some_of q)
        rw [h1] at this
        cases this
theorem Stp.keepNone (S : Stp H F H1 F1) (h : H1 b = none) : H b = none := by
  cases q : H b with
  | none => rfl
  | some o =>
    have := S.kp b (some_of q)
    rw [h] at this
    cases this
/-- two steps -/
theorem Stp.next (S : Stp H F H1 F1) (T : Stp H1 F1 H2 F2) : Same (nextI (nextI I H H1 F1) H1 H2 F2) (nextI I H H2 F2) := fun b o h => by
  obtain ⟨n, ⟨h1, h2⟩ | ⟨h1, h2⟩⟩ := of_nextI h
  · obtain ⟨n1, ⟨h3, h4⟩ | ⟨h3, h4⟩⟩ := of_nextI h1
    · exact nextI_old h3 h4 n
    · exact nextI_fresh h3 (T.fr b o n1 h4) n
  · exact nextI_fresh (S.keepNone h1) h2 n
/-- more steps of one part: the rest of what changes stays -/
theorem Stp.more (S : Stp H F H' F') (hR : ∀ b ∈ R, (H b).isSome = true) : Stp H (F ++ R) H' (F' ++ R) :=
  ⟨fun b o n h => S.fr b o (fun z => n (by simp [z])) h, S.kp, fun b h => by
    rcases List.mem_append.mp h with h | h
    · rcases S.fs b h with h | h
      · exact .inl (by simp [h])
      · exact .inr h
    · exact .inl (by simp [h]), fun b h => by
    rcases List.mem_append.mp h with h | h
    · exact S.th b h
    · exact S.kp b (hR b h)⟩
theorem nextI_more (hI : ∀ b ∈ R, I b = none) (hR : ∀ b ∈ R, (H b).isSome = true) : Same (nextI I H H' F') (nextI I H H' (F' ++ R)) := fun b o h => by
  obtain ⟨n, ⟨h1, h2⟩ | ⟨h1, h2⟩⟩ := of_nextI h
  · refine nextI_old h1 h2 fun z => ?_
    rcases List.mem_append.mp z with z | z
    · exact n z
    · rw [hI b z] at h1
      cases h1
  · refine nextI_fresh h1 h2 fun z => ?_
    rcases List.mem_append.mp z with z | z
    · exact n z
    · have := hR b z
      rw [h1] at this
      cases this
theorem nextI_sub (h : ∀ b ∈ F1, b ∈ F2) : Same (nextI I H H' F2) (nextI I H H' F1) := hid_sub h
theorem Stp.sub (S : Stp H F H1 F2) (h : ∀ b ∈ F1, b ∈ F2) : Stp H F H1 F1 := ⟨S.fr, S.kp, fun b z => S.fs b (h b z), fun b z => S.th b (h b z)⟩
/-- the three small steps -/
theorem Stp.set (S : Stp H F H1 F1) (h : a ∈ F1) : Stp H F (upd H1 a o) F1 ∧ Same (nextI I H H1 F1) (nextI I H (upd H1 a o) F1) := by
  have T : Stp H1 F1 (upd H1 a o) F1 := ⟨fun b u n e => by rw [upd_ne (fun z => n (by rw [z]; exact h))]; exact e, fun b e => by
    by_cases z : b = a
    · rw [z, upd_same]; rfl
    · rw [upd_ne z]; exact e, fun b z => .inl z, fun b z => by
    by_cases y : b = a
    · rw [y, upd_same]; rfl
    · rw [upd_ne y]; exact S.th b z⟩
  refine ⟨S.trans T, fun b u e => ?_⟩
  obtain ⟨n, ⟨h1, h2⟩ | ⟨h1, h2⟩⟩ := of_nextI e
  · exact nextI_old h1 h2 n
  · exact nextI_fresh h1 (T.fr b u n h2) n
theorem Stp.pure (S : Stp H F H1 F1) (s : Same H1 H2) : Stp H F H2 F1 ∧ Same (nextI I H H1 F1) (nextI I H H2 F1) ∧ Same (newIn H1 H2) (nextI I H H2 F1) := by
  have T := Stp.ofSame s S.th
  refine ⟨S.trans T, fun b u e => ?_, fun b u e => ?_⟩
  · obtain ⟨n, ⟨h1, h2⟩ | ⟨h1, h2⟩⟩ := of_nextI e
    · exact nextI_old h1 h2 n
    · exact nextI_fresh h1 (s _ _ h2) n
  · obtain ⟨h1, h2⟩ := of_newIn e
    refine nextI_fresh (S.keepNone h1) h2 fun z => ?_
    have := S.th b z
    rw [h1] at this
    cases this
theorem Stp.add (S : Stp H F H1 F1) (h : H1 a = none) : Stp H F (upd H1 a o) (a :: F1) ∧ Same (nextI I H H1 F1) (nextI I H (upd H1 a o) (a :: F1)) := by
  have T : Stp H1 F1 (upd H1 a o) (a :: F1) := by
    have s := same_new (o := o) h
    have T0 := Stp.ofSame s S.th
    refine ⟨T0.fr, T0.kp, fun b z => ?_, fun b z => ?_⟩
    · rcases List.mem_cons.mp z with rfl | z
      · exact .inr h
      · exact .inl z
    · rcases List.mem_cons.mp z with rfl | z
      · rw [upd_same]; rfl
      · exact T0.th b z
  refine ⟨S.trans T, fun b u e => ?_⟩
  obtain ⟨n, ⟨h1, h2⟩ | ⟨h1, h2⟩⟩ := of_nextI e
  · refine nextI_old h1 h2 fun z => ?_
    rcases List.mem_cons.mp z with rfl | z
    · rw [S.keepNone h] at h2
      cases h2
    · exact n z
  · refine nextI_fresh h1 (same_new h _ _ h2) fun z => ?_
    rcases List.mem_cons.mp z with rfl | z
    · rw [h] at h2
      cases h2
    · exact n z
theorem nextI_new (S : Stp H F H1 F1) (h : H1 t = none) : nextI I H (upd H1 t o) F1 t = some o := by
  refine nextI_fresh (S.keepNone h) upd_same fun z => ?_
  have := S.th t z
  rw [h] at this
  cases this
end

/-! ### a side in the heap -/
structure SA where
  s : Addr
  o : Addr
  f : Addr
  t : Addr
  u : Addr
def SA.all (a : SA) : List Addr := [a.s, a.o, a.f, a.t, a.u]
abbrev C_Side (K : PySem.W.Frag) : Addr := He.ga K "Side"
def sdF (r o f t : Addr) (came sent : Nat) (u : Addr) : List (Str × V) := [("row", .ref r), ("own", .ref o), ("from_it", .ref f), ("to_it", .ref t), ("came", .int came), ("sent", .int sent), ("unsure", .ref u)]
def OwnV (K : PySem.W.Frag) (I : Hp) (v : V) (c : Gs) : Prop := ∃ a, v = .ref a ∧ ChAt K I a c
def FrmV (K : PySem.W.Frag) (I : Hp) (v : V) (p : Gs × Nat) : Prop := ∃ t a, v = .ref t ∧ I t = some (.tup [.ref a, .int p.2]) ∧ ChAt K I a p.1
def ToV (K : PySem.W.Frag) (I : Hp) (v : V) (o : Option Gs) : Prop := match o with
  | none => v = .non
  | some c => ∃ a, v = .ref a ∧ ChAt K I a c
def UnsV (K : PySem.W.Frag) (I : Hp) (v : V) (p : Nat × Gs) : Prop := ∃ t a, v = .ref t ∧ I t = some (.tup [.int p.1, .ref a]) ∧ ChAt K I a p.2
def LsAt {α : Type} (H : Hp) (F : V → α → Prop) (l : Addr) (xs : List α) : Prop := ∃ its, H l = some (.lst its) ∧ Paired F its xs
structure SdAt (K : PySem.W.Frag) (I H : Hp) (a : SA) (σ : Sd) : Prop where
  ob : ∃ dx r, H a.s = some (.ins (C_Side K) dx (sdF r a.o a.f a.t σ.came σ.sent a.u)) ∧ I r = some (.lst (σ.row.map V.int))
  own : LsAt H (OwnV K I) a.o σ.own
  frm : LsAt H (FrmV K I) a.f σ.frm
  to : LsAt H (ToV K I) a.t σ.to
  uns : LsAt H (UnsV K I) a.u σ.uns
  nd : a.all.Nodup
section
variable {K : PySem.W.Frag} {I I' J H H' : Hp} {a : SA} {σ : Sd}
theorem OwnV.mono (s : Same I I') {v : V} {c : Gs} : OwnV K I v c → OwnV K I' v c := fun ⟨a, e, h⟩ => ⟨a, e, h.mono s⟩
theorem FrmV.mono (s : Same I I') {v : V} {c : Gs × Nat} : FrmV K I v c → FrmV K I' v c := fun ⟨t, a, e, h, h'⟩ => ⟨t, a, e, s _ _ h, h'.mono s⟩
theorem UnsV.mono (s : Same I I') {v : V} {c : Nat × Gs} : UnsV K I v c → UnsV K I' v c := fun ⟨t, a, e, h, h'⟩ => ⟨t, a, e, s _ _ h, h'.mono s⟩
theorem ToV.mono (s : Same I I') {v : V} : ∀ {c : Option Gs}, ToV K I v c → ToV K I' v c
  | none, h => h
  | some _, ⟨a, e, h⟩ => ⟨a, e, h.mono s⟩
theorem LsAt.imp {α : Type} {F G : V → α → Prop} {l : Addr} {xs : List α} (h : LsAt H F l xs) (e : ∀ o, H l = some o → H' l = some o) (k : ∀ v x, F v x → G v x) : LsAt H' G l xs := by
  obtain ⟨its, h1, h2⟩ := h
  exact ⟨its, e _ h1, Paired.mapP h2 k⟩
theorem SdAt.mono (h : SdAt K I H a σ) (s : Same I I') (e : ∀ b ∈ a.all, ∀ o, H b = some o → H' b = some o) : SdAt K I' H' a σ := by
  obtain ⟨⟨dx, r, h1, h2⟩, h3, h4, h5, h6, h7⟩ := h
  exact ⟨⟨dx, r, e _ (by simp [SA.all]) _ h1, s _ _ h2⟩, h3.imp (e _ (by simp [SA.all])) fun _ _ => OwnV.mono s, h4.imp (e _ (by simp [SA.all])) fun _ _ => FrmV.mono s, h5.imp (e _ (by simp [SA.all])) fun _ _ => ToV.mono s, h6.imp (e _ (by simp [SA.all])) fun _ _ => UnsV.mono s, h7⟩
theorem SdAt.there (h : SdAt K I H a σ) : ∀ b ∈ a.all, (H b).isSome = true := by
  obtain ⟨⟨dx, r, h1, h2⟩, ⟨_, h3, _⟩, ⟨_, h4, _⟩, ⟨_, h5, _⟩, ⟨_, h6, _⟩, h7⟩ := h
  intro b hb
  simp only [SA.all, List.mem_cons, List.not_mem_nil, or_false] at hb
  rcases hb with rfl | rfl | rfl | rfl | rfl
  · exact some_of h1
  · exact some_of h3
  · exact some_of h4
  · exact some_of h5
  · exact some_of h6
end
end K94
set_option maxRecDepth 100000
set_option maxHeartbeats 4000000
/-! K94H: changed; what a side does. -/
namespace K94
open PySem PySem.Spec PyProof.Rows L2
section
variable {K : PySem.W.Frag} {I I' H H' : Hp} {a : SA} {σ : Sd}
theorem sa_ne (h : a.all.Nodup) : (a.s ≠ a.o ∧ a.s ≠ a.f ∧ a.s ≠ a.t ∧ a.s ≠ a.u) ∧ (a.o ≠ a.f ∧ a.o ≠ a.t ∧ a.o ≠ a.u) ∧ (a.f ≠ a.t ∧ a.f ≠ a.u) ∧ a.t ≠ a.u := by
  simp only [SA.all, List.nodup_cons, List.mem_cons, List.not_mem_nil, or_false, not_or, List.nodup_nil, and_true, not_false_eq_true] at h
  exact h
theorem LsAt.upd_ne {α : Type} {F : V → α → Prop} {l x : Addr} {o : HO} {xs : List α} (h : LsAt H F l xs) (n : l ≠ x) : LsAt (upd H x o) F l xs := h.imp (fun u e => by rw [L2.upd_ne n]; exact e) fun _ _ h => h
theorem LsAt.set {α : Type} {F : V → α → Prop} {l : Addr} {xs : List α} {its : List V} (h : Paired F its xs) : LsAt (upd H l (.lst its)) F l xs := ⟨its, upd_same, h⟩
theorem LsAt.mono {α : Type} {F G : V → α → Prop} {l : Addr} {xs : List α} (h : LsAt H F l xs) (k : ∀ v x, F v x → G v x) : LsAt H G l xs := h.imp (fun _ h => h) k
theorem SdAt.setO (h : SdAt K I H a σ) {its : List V} {xs : List Gs} (hp : Paired (OwnV K I) its xs) : SdAt K I (upd H a.o (.lst its)) a { σ with own := xs } := by
  obtain ⟨⟨dx, r, h1, h2⟩, h3, h4, h5, h6, h7⟩ := h
  obtain ⟨⟨n1, n2, n3, n4⟩, ⟨n5, n6, n7⟩, ⟨n8, n9⟩, n10⟩ := sa_ne h7
  exact ⟨⟨dx, r, by rw [upd_ne n1]; exact h1, h2⟩, .set hp, h4.upd_ne n5.symm, h5.upd_ne n6.symm, h6.upd_ne n7.symm, h7⟩
theorem SdAt.setF (h : SdAt K I H a σ) {its : List V} {xs : List (Gs × Nat)} (hp : Paired (FrmV K I) its xs) : SdAt K I (upd H a.f (.lst its)) a { σ with frm := xs } := by
  obtain ⟨⟨dx, r, h1, h2⟩, h3, h4, h5, h6, h7⟩ := h
  obtain ⟨⟨n1, n2, n3, n4⟩, ⟨n5, n6, n7⟩, ⟨n8, n9⟩, n10⟩ := sa_ne h7
  exact ⟨⟨dx, r, by rw [upd_ne n2]; exact h1, h2⟩, h3.upd_ne n5, .set hp, h5.upd_ne n8.symm, h6.upd_ne n9.symm, h7⟩
theorem SdAt.setT (h : SdAt K I H a σ) {its : List V} {xs : List (Option Gs)} (hp : Paired (ToV K I) its xs) : SdAt K I (upd H a.t (.lst its)) a { σ with to := xs } := by
  obtain ⟨⟨dx, r, h1, h2⟩, h3, h4, h5, h6, h7⟩ := h
  obtain ⟨⟨n1, n2, n3, n4⟩, ⟨n5, n6, n7⟩, ⟨n8, n9⟩, n10⟩ := sa_ne h7
  exact ⟨⟨dx, r, by rw [upd_ne n3]; exact h1, h2⟩, h3.upd_ne n6, h4.upd_ne n8, .set hp, h6.upd_ne n10.symm, h7⟩
theorem SdAt.setU (h : SdAt K I H a σ) {its : List V} {xs : List (Nat × Gs)} (hp : Paired (UnsV K I) its xs) : SdAt K I (upd H a.u (.lst its)) a { σ with uns := xs } := by
  obtain ⟨⟨dx, r, h1, h2⟩, h3, h4, h5, h6, h7⟩ := h
  obtain ⟨⟨n1, n2, n3, n4⟩, ⟨n5, n6, n7⟩, ⟨n8, n9⟩, n10⟩ := sa_ne h7
  exact ⟨⟨dx, r, by rw [upd_ne n4]; exact h1, h2⟩, h3.upd_ne n7, h4.upd_ne n9, h5.upd_ne n10, .set hp, h7⟩
/-- the object alone -/
theorem SdAt.setS (h : SdAt K I H a σ) {dx r : Addr} {came sent : Nat} {row : List Int} (hr : I r = some (.lst (row.map V.int))) : SdAt K I (upd H a.s (.ins (C_Side K) dx (sdF r a.o a.f a.t came sent a.u))) a { σ with row := row, came := came, sent := sent } := by
  obtain ⟨⟨dx', r', h1, h2⟩, h3, h4, h5, h6, h7⟩ := h
  obtain ⟨⟨n1, n2, n3, n4⟩, ⟨n5, n6, n7⟩, ⟨n8, n9⟩, n10⟩ := sa_ne h7
  exact ⟨⟨dx, r, upd_same, hr⟩, h3.upd_ne n1.symm, h4.upd_ne n2.symm, h5.upd_ne n3.symm, h6.upd_ne n4.symm, h7⟩
/-- another list of what is unsure -/
theorem SdAt.newU (h : SdAt K I H a σ) {dx r u : Addr} {xs : List (Nat × Gs)} {its : List V} (hs : H a.s = some (.ins (C_Side K) dx (sdF r a.o a.f a.t σ.came σ.sent a.u))) (hr : I r = some (.lst (σ.row.map V.int))) (hu : H u = some (.lst its)) (hp : Paired (UnsV K I) its xs) (n : u ∉ a.all) :
    SdAt K I (upd H a.s (.ins (C_Side K) dx (sdF r a.o a.f a.t σ.came σ.sent u))) { a with u := u } { σ with uns := xs } := by
  obtain ⟨⟨dx', r', h1, h2⟩, h3, h4, h5, h6, h7⟩ := h
  obtain ⟨⟨n1, n2, n3, n4⟩, ⟨n5, n6, n7⟩, ⟨n8, n9⟩, n10⟩ := sa_ne h7
  simp only [SA.all, List.mem_cons, List.not_mem_nil, or_false, not_or] at n
  obtain ⟨m1, m2, m3, m4, m5⟩ := n
  refine ⟨⟨dx, r, upd_same, hr⟩, h3.upd_ne n1.symm, h4.upd_ne n2.symm, h5.upd_ne n3.symm, ⟨its, by rw [L2.upd_ne m1]; exact hu, hp⟩, ?_⟩
  simp [SA.all, n1, n2, n3, n5, n6, n8, Ne.symm m1, Ne.symm m2, Ne.symm m3, Ne.symm m4]
/-- another list of its own -/
theorem SdAt.newO (h : SdAt K I H a σ) {dx r o : Addr} {xs : List Gs} {its : List V} (hs : H a.s = some (.ins (C_Side K) dx (sdF r a.o a.f a.t σ.came σ.sent a.u))) (hr : I r = some (.lst (σ.row.map V.int))) (hu : H o = some (.lst its)) (hp : Paired (OwnV K I) its xs) (n : o ∉ a.all) :
    SdAt K I (upd H a.s (.ins (C_Side K) dx (sdF r o a.f a.t σ.came σ.sent a.u))) { a with o := o } { σ with own := xs } := by
  obtain ⟨⟨dx', r', h1, h2⟩, h3, h4, h5, h6, h7⟩ := h
  obtain ⟨⟨n1, n2, n3, n4⟩, ⟨n5, n6, n7⟩, ⟨n8, n9⟩, n10⟩ := sa_ne h7
  simp only [SA.all, List.mem_cons, List.not_mem_nil, or_false, not_or] at n
  obtain ⟨m1, m2, m3, m4, m5⟩ := n
  refine ⟨⟨dx, r, upd_same, hr⟩, ⟨its, by rw [L2.upd_ne m1]; exact hu, hp⟩, h4.upd_ne n2.symm, h5.upd_ne n3.symm, h6.upd_ne n4.symm, ?_⟩
  simp [SA.all, n2, n3, n4, n8, n9, n10, Ne.symm m1, m3, m4, m5]
end
section
variable {P : Program} {w : World} {K : PySem.W.Frag} {mg : Str → Option Value} {base : Heap}
abbrev N_changed : List Str := ["table", "row", "change", "found"]
theorem sc_changed : FnScope N_changed ["table", "row", "change"] (defScope s_changed) := ⟨rfl, rfl, rfl, by decide +kernel, rfl, by decide +kernel, by decide +kernel⟩
def spChanged (K : PySem.W.Frag) : Sp := fun vs H Q _ => ∃ (tb r c : Addr) (S : Int → Prop) (gs : Gs) (row : List Int), vs = [.ref tb, .ref r, .ref c] ∧ TbAt K H tb S ∧ ChAt K H c gs ∧ H r = some (.lst (row.map V.int)) ∧ gs.length ≤ 30000 ∧ row.length ≤ 30000 ∧ pt gs ≤ 30000 ∧ need gs ≤ row.length ∧ (∀ n ∈ doneG gs row, S n) ∧
  ∀ H' l, Same H H' → H l = none → H' l = some (.lst ((doneG gs row).map V.int)) → Q (.ref l) H'
theorem ok_changed (T : Txt K mg) : FnR P w K mg base CX0 5 (He.ga K "changed") (spChanged K) := by
  have G_checked_text := ok_checked_text (P := P) (w := w) (base := base) T
  have G_Change_done := ok_Change_done (P := P) (w := w) (base := base) T
  refine fnr_of T.d_changed sc_changed (fun vs H Q E h => ?_) (fun _ _ _ _ _ _ us hl => match us, hl with | [_, _, _], _ => rfl) (fun cdv A outer s H vs Q E hr h => ?_)
  · obtain ⟨tb, r, c, S, gs, row, rfl, _⟩ := h
    rfl
  · obtain ⟨tb, r, c, S, gs, row, rfl, hT, hC, hr', z1, z2, z3, hn, hS, k⟩ := h
    obtain ⟨dx, l, its, hc, _, _⟩ := id hC
    have hl := len_done hn
    refine ⟨_, (pss_cons (ps_if (pt_not (pt_val (pe_callB call_isi (by rfl) T.g_isinstance (by decide +kernel) (pa_cons (pv 2) (pa_cons (pe_glob (v := .ref _) (by rfl) T.c_Change rfl) pa_nil))))) (pss_one ps_never) pss_nil)
      (pss_cons (ps_set (i := 3) sc_changed.nd rfl (Or.inl rfl) (pe_methR (pv 2) T.k_Change T.m_Change_done G_Change_done (hr.mono (by decide)) pass0 (pa_cons (pv 1) pa_nil)))
      (pss_cons (ps_try_never (fun _ _ h => h) (pss_one (ps_expr (pe_callF G_checked_text (hr.mono (by decide)) T.f_checked_text T.kp_checked_text (pa_cons (pv 0) (pa_cons (pv 3) pa_nil))))) pss_nil)
      (pss_one (ps_ret (pv 3)))))), ?_⟩
    refine ⟨_, rfl, _, _, _, _, _, rfl, .own _, tyx_ins hc T.i_Change, T.i_Change.me, true, rfl, iteF ?_⟩
    refine ⟨_, rfl, c, dx, _, rfl, hc, rfl, _, rfl, c, r, gs, row, rfl, hC, hr', z1, z2, z3, hn, fun H1 l1 s1 l10 h1 => ?_⟩
    refine ⟨_, rfl, _, rfl, tb, l1, S, _, rfl, hT.mono s1, h1, by omega, hS, fun H2 s2 => ?_⟩
    exact ⟨_, rfl, k _ l1 (s1.trans s2) l10 (s2 _ _ h1)⟩
/-! ### Side.send -/
def Sd.unsW (σ : Sd) (oc : Option Gs) : Sd := { σ with uns := (match oc with | some c => σ.uns ++ [(σ.sent, c)] | none => σ.uns) }
theorem send_eq (σ : Sd) (oc : Option Gs) : σ.send oc = { (σ.unsW oc) with row := (σ.unsW oc).row, came := (σ.unsW oc).came, sent := (σ.unsW oc).sent + 1, to := (σ.unsW oc).to ++ [oc] } := rfl
abbrev N_Side_send : List Str := ["self", "change"]
theorem sc_Side_send : FnScope N_Side_send ["self", "change"] (defScope s_Side_send) := ⟨rfl, rfl, rfl, by decide +kernel, rfl, by decide +kernel, by decide +kernel⟩
def spSend (K : PySem.W.Frag) : Sp := fun vs H Q _ => ∃ (a : SA) (σ : Sd) (I : Hp) (v : V) (oc : Option Gs), vs = [.ref a.s, v] ∧ Same I H ∧ (∀ b ∈ a.all, I b = none) ∧ SdAt K I H a σ ∧ ToV K I v oc ∧ σ.uns.length ≤ 90000 ∧ σ.to.length ≤ 90000 ∧
  ∀ H', Stp H a.all H' a.all → SdAt K (nextI I H H' a.all) H' a (σ.send oc) → Q .non H'
theorem ok_Side_send (T : Txt K mg) : FnR P w K mg base CX0 1 (He.ma K (He.ga K "Side") "send") (spSend K) := by
  refine fnr_of T.d_Side_send sc_Side_send (fun vs H Q E h => ?_) (fun _ _ _ _ _ _ us hl => match us, hl with | [_, _], _ => rfl) (fun cdv A outer s H vs Q E hr h => ?_)
  · obtain ⟨a, σ, I, v, oc, rfl, _⟩ := h
    rfl
  · obtain ⟨a, σ, I, v, oc, rfl, sI, hF, h, hv, z1, z2, k⟩ := h
    refine ⟨_, (C8.pss_cut (ps_if (pt_cmpR op_notN (pv 1) pe_non (nomark _)) (pss_one (ps_expr (pe_bm PySem.F.plainAttrs_list PySem.F.slot_list_append PySem.F.type_list_append mt_append (pe_fld (pv 0) rfl) (pa_cons (pe_tup (pa_cons (pe_fld (pv 0) rfl) (pa_cons (pv 1) pa_nil))) pa_nil)))) pss_nil)
      (pss_cons (ps_fldaug (pv 0) pe_int in_add)
      (pss_one (ps_expr (pe_bm PySem.F.plainAttrs_list PySem.F.slot_list_append PySem.F.type_list_append mt_append (pe_fld (pv 0) rfl) (pa_cons (pv 1) pa_nil)))))), ?_⟩
    have S0 : Stp H a.all H a.all := .refl h.there
    have i0 : Same I (nextI I H H a.all) := S0.mono sI hF
    refine ⟨fun σ' H' => σ' = [some (.ref a.s), some v] ∧ Stp H a.all H' a.all ∧ SdAt K (nextI I H H' a.all) H' a (σ.unsW oc), ?_, ?_⟩
    · refine ⟨_, rfl, rfl, _, rfl, ?_⟩
      cases oc with
      | none =>
        obtain rfl : v = .non := hv
        exact iteF ⟨rfl, S0, h.mono i0 fun _ _ _ e => e⟩
      | some c =>
        obtain ⟨ca, rfl, hca⟩ := hv
        obtain ⟨dx, r, h1, h2⟩ := h.ob
        obtain ⟨its, hu, hup⟩ := h.uns
        refine iteT ⟨_, rfl, a.s, _, dx, _, _, rfl, h1, T.k_Side, T.n_Side_unsure, rfl, .inl ⟨rfl, _, SqL.of hu⟩, _, rfl, a.s, _, dx, _, _, rfl, h1, T.k_Side, T.n_Side_sent, rfl, _, rfl, (by show 2 ≤ sizeLine; decide), fun t t0 => ?_⟩
        refine ⟨a.u, its, _, rfl, rfl, (by rw [upd_ne (ne_of_none hu t0)]; exact hu), sl5 (by rw [paired_len hup]; omega), rfl, ?_⟩
        obtain ⟨S1, i1, _⟩ := S0.pure (I := I) (same_new (o := .tup [V.int σ.sent, V.ref ca]) t0)
        have hu1 : (UnsV K (nextI I H (upd H t (.tup [V.int σ.sent, V.ref ca])) a.all)) (.ref t) (σ.sent, c) := ⟨t, ca, rfl, nextI_new S0 t0, hca.mono (i0.trans i1)⟩
        have g1 := h.mono (i0.trans i1) (H' := upd H t (.tup [V.int σ.sent, V.ref ca])) fun _ _ _ e => same_new t0 _ _ e
        obtain ⟨S2, i2⟩ := S1.set (I := I) (a := a.u) (o := .lst (its ++ [.ref t])) (by simp [SA.all])
        refine ⟨S2, (g1.setU (paired_app (Paired.mapP hup fun _ _ => UnsV.mono (i0.trans i1)) (paired_one hu1))).mono i2 fun _ _ _ e => e⟩
    · rintro σ' H1 ⟨rfl, S1, g⟩
      have ez : (σ.unsW oc).to = σ.to := rfl
      rw [send_eq] at k
      generalize σ.unsW oc = σ1 at g k ez
      obtain ⟨dx, r, h1, h2⟩ := g.ob
      obtain ⟨its, ht, htp⟩ := g.to
      refine ⟨_, rfl, a.s, _, dx, _, _, rfl, h1, T.k_Side, T.n_Side_sent, rfl, _, _, rfl, rfl, dx, _, h1, (by show 7 < 1000; decide), ?_⟩
      obtain ⟨S2, i2⟩ := S1.set (I := I) (a := a.s) (o := .ins (C_Side K) dx (sdF r a.o a.f a.t σ1.came (σ1.sent + 1) a.u)) (by simp [SA.all])
      have g2 := (g.setS (dx := dx) (came := σ1.came) (sent := σ1.sent + 1) h2).mono i2 fun _ _ _ e => e
      have eH : upd H1 a.s (.ins (C_Side K) dx (putF ("sent" : Str) (.int ((σ1.sent : Int) + 1)) (sdF r a.o a.f a.t σ1.came σ1.sent a.u))) = upd H1 a.s (.ins (C_Side K) dx (sdF r a.o a.f a.t σ1.came (σ1.sent + 1) a.u)) := rfl
      rw [eH]
      have n3 := (sa_ne g.nd).1.2.2.1
      obtain ⟨dx2, r2, h12, h22⟩ := g2.ob
      obtain ⟨its2, ht2, htp2⟩ := g2.to
      refine ⟨_, rfl, a.s, _, dx2, _, _, rfl, h12, T.k_Side, T.n_Side_to_it, rfl, .inl ⟨rfl, _, SqL.of ht2⟩, _, rfl, a.t, its2, _, rfl, rfl, ht2, sl5 (by rw [paired_len htp2]; show σ1.to.length < 100000; rw [ez]; omega), ?_⟩
      obtain ⟨S3, i3⟩ := S2.set (I := I) (a := a.t) (o := .lst (its2 ++ [v])) (by simp [SA.all])
      have hv2 : ToV K (nextI I H (upd H1 a.s (.ins (C_Side K) dx (sdF r a.o a.f a.t σ1.came (σ1.sent + 1) a.u))) a.all) v oc := hv.mono (S2.mono sI hF)
      refine k _ S3 ((g2.setT (paired_app htp2 (paired_one hv2))).mono i3 fun _ _ _ e => e)
/-! ### Side.taken_in -/
theorem nextI_pure_get {I H H1 H2 : Hp} {F F1 : List Addr} {b : Addr} {o : HO} (S : Stp H F H1 F1) (h : H1 b = none) (e : H2 b = some o) : nextI I H H2 F1 b = some o := by
  refine nextI_fresh (S.keepNone h) e fun z => ?_
  have := S.th b z
  rw [h] at this
  cases this
theorem nin_of {H : Hp} {b : Addr} {l : List Addr} (h : ∀ a ∈ l, (H a).isSome = true) (n : H b = none) : b ∉ l := fun z => by
  have := h b z
  rw [n] at this
  cases this
abbrev N_Side_taken_in : List Str := ["self", "change", "known", "unsure", "number", "its"]
theorem sc_Side_taken_in : FnScope N_Side_taken_in ["self"] (defScope s_Side_taken_in) := ⟨rfl, rfl, rfl, by decide +kernel, rfl, by decide +kernel, by decide +kernel⟩
def spTakenIn (K : PySem.W.Frag) : Sp := fun vs H Q _ => ∃ (a : SA) (σ : Sd) (I : Hp) (G : Int → Prop) (c : Gs) (k : Nat) (F0 : List (Gs × Nat)), vs = [.ref a.s] ∧ Same I H ∧ (∀ b ∈ a.all, I b = none) ∧ SdAt K I H a σ ∧ σ.frm = (c, k) :: F0 ∧ GC G c ∧ GCs G (σ.uns.map (·.2)) ∧ σ.uns.length ≤ 90000 ∧
  ∀ H' (a' : SA) x, a'.s = a.s → Stp H a.all H' a'.all → SdAt K (nextI I H H' a'.all) H' a' σ.takenIn.2 → ChAt K (nextI I H H' a'.all) x σ.takenIn.1 → Q (.ref x) H'
theorem ok_Side_taken_in (T : Txt K mg) : FnR P w K mg base CX0 7 (He.ma K (He.ga K "Side") "taken_in") (spTakenIn K) := by
  have G_Change_past := ok_Change_past (P := P) (w := w) (base := base) T
  obtain ⟨pfd, G_Change_past_K, B_Change_past⟩ := okN_Change_past (P := P) (w := w) (base := base) T
  refine fnr_of T.d_Side_taken_in sc_Side_taken_in (fun vs H Q E h => ?_) (fun _ _ _ _ _ _ us hl => match us, hl with | [_], _ => rfl) (fun cdv A outer s H vs Q E hr h => ?_)
  · obtain ⟨a, σ, I, G, c, k, F0, rfl, _⟩ := h
    rfl
  · obtain ⟨a, σ, I, G, c, k, F0, rfl, sI, hF, h, ef, gc, gU, z1, kont⟩ := h
    have et : σ.takenIn = ((crossV (knownTo k σ.uns) c).2, { σ with frm := F0, uns := (crossV (knownTo k σ.uns) c).1 }) := by
      unfold Sd.takenIn
      rw [ef]
    rw [et] at kont
    dsimp only at kont
    refine ⟨_, (pss_cons (ps_asg (pe_bm PySem.F.plainAttrs_list PySem.F.slot_list_pop PySem.F.type_list_pop mt_popAt (pe_fld (pv 0) rfl) (pa_cons pe_int pa_nil)) (pg_tup rfl (pgs_cons (pg_name (i := 1) sc_Side_taken_in.nd rfl (Or.inl rfl)) (pgs_cons (pg_name (i := 2) sc_Side_taken_in.nd rfl (Or.inl rfl)) pgs_nil))))
      (pss_cons (ps_set (i := 3) sc_Side_taken_in.nd rfl (Or.inl rfl) (pe_lst pa_nil))
      (pss_cons (ps_for PassesOwn.never rfl (pi_list (pe_fld (pv 0) rfl)) (pg_tup rfl (pgs_cons (pg_name (i := 4) sc_Side_taken_in.nd rfl (Or.inl rfl)) (pgs_cons (pg_name (i := 5) sc_Side_taken_in.nd rfl (Or.inl rfl)) pgs_nil))) (pss_one (ps_if (pt_cmpR op_ge (pv 4) (pv 2) (nomark _)) (pss_cons (ps_expr (pe_bm PySem.F.plainAttrs_list PySem.F.slot_list_append PySem.F.type_list_append mt_append (pv 3) (pa_cons (pe_tup (pa_cons (pv 4) (pa_cons (pe_methN (pv 5) T.k_Change T.m_Change_past G_Change_past_K (hr.mono (by decide)) B_Change_past pass0 (pa_cons (pv 1) pa_nil) (pk_cons pe_bl pk_nil)) pa_nil))) pa_nil)))
      (pss_one (ps_set (i := 1) sc_Side_taken_in.nd rfl (Or.inl rfl) (pe_methR (pv 1) T.k_Change T.m_Change_past G_Change_past (hr.mono (by decide)) pass0 (pa_cons (pv 5) pa_nil))))) pss_nil)))
      (pss_cons (ps_fld (pv 0) (pv 3) rfl)
      (pss_one (ps_ret (pv 1))))))), ?_⟩
    have S0 : Stp H a.all H a.all := .refl h.there
    have i0 : Same I (nextI I H H a.all) := S0.mono sI hF
    obtain ⟨dx, r, h1, h2⟩ := h.ob
    obtain ⟨fits, hf, hfp⟩ := h.frm
    rw [ef] at hfp
    cases hfp with
    | cons fx fr =>
    rename_i v fits
    obtain ⟨t, ca, rfl, ht, hca⟩ := fx
    have g1 := h.setF (its := fits) (xs := F0) fr
    obtain ⟨S1, i1⟩ := S0.set (I := I) (a := a.f) (o := .lst fits) (by simp [SA.all])
    have i01 := i0.trans i1
    have g1 := g1.mono i01 fun _ _ _ e => e
    have tf : t ≠ a.f := fun z => by rw [z, hF _ (by simp [SA.all])] at ht; cases ht
    -- change, known = self.from_it.pop(0)
    refine ⟨_, rfl, a.s, _, dx, _, _, rfl, h1, T.k_Side, T.n_Side_from_it, rfl, .inl ⟨rfl, _, SqL.of hf⟩, a.f, _, _, 0, _, rfl, rfl, hf, by decide, by decide, pop0, rfl, t, _, rfl, SqT.of (by rw [upd_ne tf]; exact sI _ _ ht), rfl, _, _, rfl, _, _, rfl, rfl, ?_⟩
    rw [show ((V.ref t :: fits).eraseIdx 0) = fits from rfl]
    have hca1 : ChAt K (nextI I H (upd H a.f (.lst fits)) a.all) ca c := hca.mono i01
    generalize upd H a.f (.lst fits) = H1 at S1 i1 i01 g1 hca1 ⊢
    clear h1 hf fr ht hca tf h2 i1 h i0 S0
    -- unsure = []
    refine ⟨(by show 0 ≤ sizeLine; decide), fun p p0 => ?_⟩
    have pn : p ∉ a.all := nin_of S1.th p0
    have S2' : Stp H a.all (upd H1 p (.lst [])) (p :: a.all) ∧ Same (nextI I H H1 a.all) (nextI I H (upd H1 p (.lst [])) (p :: a.all)) := S1.add (I := I) p0
    obtain ⟨S2, i2⟩ := S2'
    have g2 := g1.mono (H' := upd H1 p (.lst [])) i2 fun b _ o e => same_new p0 _ _ e
    have hca2 := hca1.mono i2
    have hp2 : (upd H1 p (.lst [])) p = some (.lst []) := upd_same
    generalize upd H1 p (.lst []) = H2 at S2 i2 g2 hca2 hp2 ⊢
    clear g1 hca1 S1 p0 i2
    obtain ⟨dx, r, h1, h2⟩ := g2.ob
    obtain ⟨uits, hu, hup⟩ := g2.uns
    have hul : uits.length = σ.uns.length := paired_len hup
    refine ⟨_, rfl, a.s, _, dx, _, _, rfl, h1, T.k_Side, T.n_Side_unsure, rfl, a.u, rfl, ⟨_, SqL.of hu⟩, for_list (K := K) (a := a.u) (xs := uits)
      (fun i σ1 H3 => ∃ v4 v5 cb cg dn, σ1 = [some (.ref a.s), some (.ref cb), some (.int (k : Nat)), some (.ref p), v4, v5] ∧ Stp H a.all H3 (p :: a.all) ∧ Same (nextI I H H2 (p :: a.all)) (nextI I H H3 (p :: a.all)) ∧ (∀ b ∈ a.all, ∀ o, H2 b = some o → H3 b = some o) ∧
        LsAt H3 (UnsV K (nextI I H H3 (p :: a.all))) p dn ∧ ChAt K (nextI I H H3 (p :: a.all)) cb cg ∧ GC G cg ∧ dn.length ≤ i ∧ crossV (knownTo k σ.uns) c = (dn ++ (crossV (knownTo k (σ.uns.drop i)) cg).1, (crossV (knownTo k (σ.uns.drop i)) cg).2))
      ⟨none, none, ca, c, [], rfl, S2, fun _ _ h => h, fun _ _ _ h => h, ⟨[], hp2, .nil⟩, hca2, gc, Nat.le_refl _, by simp⟩ (fun i σ1 H3 _ ⟨_, _, _, _, _, _, _, _, e, _⟩ => SqL.of (e _ (by simp [SA.all]) _ hu)) ?_ ?_⟩
    · rintro i y σ1 H3 hi ⟨v4, v5, cb, cg, dn, rfl, S3, i3, e3, hdn, hcb, gcb, hl, eq⟩
      obtain ⟨⟨num, ug⟩, hug, t, ub, rfl, ht, hub⟩ := paired_get hup hi
      have hil : i < uits.length := (List.getElem?_eq_some_iff.mp hi).1
      have gu : GC G ug := gU ug (List.mem_map.mpr ⟨_, List.mem_of_getElem? hug, rfl⟩)
      dsimp only at ht hub
      have hJ3 : Same (nextI I H H3 (p :: a.all)) H3 := S3.same sI hF
      have ht3 := hJ3 _ _ (i3 _ _ ht)
      have hub3 := hub.mono i3
      rw [drop_get hug] at eq
      refine ⟨t, _, rfl, SqT.of ht3, rfl, _, _, rfl, _, _, rfl, rfl, ?_⟩
      refine ⟨_, rfl, _, rfl, _, _, rfl, rfl, _, rfl, iteD (fun hc => ?_) (fun hc => ?_)⟩
      · have hk : k ≤ num := by omega
        have ek : knownTo k ((num, ug) :: σ.uns.drop (i + 1)) = (num, ug) :: knownTo k (σ.uns.drop (i + 1)) := by
          simp [knownTo, hk]
        rw [ek] at eq
        obtain ⟨pits, hp3, hpp⟩ := hdn
        have hpl := paired_len hpp
        obtain ⟨ux, ul, uit, hub1, hub2, _⟩ := id (hub3.mono hJ3)
        -- unsure.append((number, its.past(change, ahead=True)))
        refine ⟨_, rfl, .inl ⟨rfl, _, SqL.of hp3⟩, _, rfl, _, rfl, ub, ux, _, rfl, hub1, rfl, _, rfl, rfl, rfl, ub, cb, ug, cg, true, rfl, hub3.mono hJ3, hcb.mono hJ3, gu.can, gcb.can, by have := gu.len; omega, by have := gcb.len; omega, by have := gu.few; omega, fun H4 x s4 x0 hx => ?_⟩
        obtain ⟨S4, i4, n4⟩ := S3.pure (I := I) s4
        have hx4 := hx.mono n4
        refine ⟨(by show 2 ≤ sizeLine; decide), fun t2 t20 => ?_⟩
        obtain ⟨S5, i5, n5⟩ := S4.pure (I := I) (same_new (o := .tup [.int (num : Nat), .ref x]) t20)
        have hp5 := same_new (o := .tup [.int (num : Nat), .ref x]) t20 _ _ (s4 _ _ hp3)
        refine ⟨p, pits, _, rfl, rfl, hp5, sl5 (by omega), ?_⟩
        obtain ⟨S6, i6⟩ := S5.set (I := I) (a := p) (o := .lst (pits ++ [.ref t2])) (by simp)
        have hnew : UnsV K (nextI I H (upd (upd H4 t2 (.tup [.int (num : Nat), .ref x])) p (.lst (pits ++ [.ref t2]))) (p :: a.all)) (.ref t2) (num, pastG true ug cg) := ⟨t2, x, rfl, i6 _ _ (nextI_new S4 t20), (hx4.mono i5).mono i6⟩
        have i36 := (i4.trans i5).trans i6
        have e36 : ∀ b ∈ a.all, ∀ o, H2 b = some o → (upd (upd H4 t2 (.tup [.int (num : Nat), .ref x])) p (.lst (pits ++ [.ref t2]))) b = some o := fun b hb o e => by
          rw [upd_ne (fun z => pn (by rw [← z]; exact hb))]
          exact same_new t20 _ _ (s4 _ _ (e3 b hb o e))
        have hdn6 : LsAt (upd (upd H4 t2 (.tup [.int (num : Nat), .ref x])) p (.lst (pits ++ [.ref t2]))) (UnsV K (nextI I H (upd (upd H4 t2 (.tup [.int (num : Nat), .ref x])) p (.lst (pits ++ [.ref t2]))) (p :: a.all))) p (dn ++ [(num, pastG true ug cg)]) := .set (paired_app (Paired.mapP hpp fun _ _ => UnsV.mono i36) (paired_one hnew))
        generalize upd (upd H4 t2 (.tup [.int (num : Nat), .ref x])) p (.lst (pits ++ [.ref t2])) = H6 at S6 i6 i36 e36 hdn6 ⊢
        have hJ6 : Same (nextI I H H6 (p :: a.all)) H6 := S6.same sI hF
        have hcb6 := hcb.mono i36
        have hub6 := hub3.mono i36
        obtain ⟨bx, bl, bit, hb1, hb2, _⟩ := id (hcb6.mono hJ6)
        -- change = change.past(its)
        refine ⟨_, rfl, cb, bx, _, rfl, hb1, rfl, _, rfl, cb, ub, cg, ug, false, rfl, hcb6.mono hJ6, hub6.mono hJ6, gcb.can, gu.can, by have := gcb.len; omega, by have := gu.len; omega, by have := gcb.few; omega, fun H7 x7 s7 x70 hx7 => ?_⟩
        obtain ⟨S7, i7, n7⟩ := S6.pure (I := I) s7
        refine ⟨_, _, x7, pastG false cg ug, dn ++ [(num, pastG true ug cg)], rfl, S7, (i3.trans i36).trans i7, fun b hb o e => s7 _ _ (e36 b hb o e), hdn6.imp (fun _ e => s7 _ _ e) fun _ _ => UnsV.mono i7, hx7.mono n7, gcb.past gu, by rw [List.length_append, List.length_singleton]; omega, ?_⟩
        rw [eq]
        simp [crossV]
      · have hk : ¬ k ≤ num := by omega
        have ek : knownTo k ((num, ug) :: σ.uns.drop (i + 1)) = knownTo k (σ.uns.drop (i + 1)) := by
          simp [knownTo, hk]
        rw [ek] at eq
        exact ⟨_, _, cb, cg, dn, rfl, S3, i3, e3, hdn, hcb, gcb, by omega, eq⟩
    · rintro σ1 H3 ⟨v4, v5, cb, cg, dn, rfl, S3, i3, e3, hdn, hcb, gcb, hl, eq⟩
      rw [hul, List.drop_of_length_le (Nat.le_refl _)] at eq
      simp only [knownTo, List.filter_nil, crossV, List.append_nil] at eq
      have eq' : crossV (knownTo k σ.uns) c = (dn, cg) := eq
      rw [eq'] at kont
      dsimp only at kont
      have g3 := g2.mono i3 e3
      have h13 := e3 _ (by simp [SA.all]) _ h1
      obtain ⟨pits, hp3, hpp⟩ := hdn
      refine ⟨_, rfl, _, rfl, a.s, _, dx, _, rfl, h13, T.k_Side, T.n_Side_unsure, (by show 7 < 1000; decide), ?_⟩
      have eH : upd H3 a.s (.ins (C_Side K) dx (putF ("unsure" : Str) (.ref p) (sdF r a.o a.f a.t σ.came σ.sent a.u))) = upd H3 a.s (.ins (C_Side K) dx (sdF r a.o a.f a.t σ.came σ.sent p)) := rfl
      have g4 := g3.newU (u := p) h13 (i3 _ _ h2) hp3 hpp pn
      obtain ⟨S4, i4⟩ := S3.set (I := I) (a := a.s) (o := .ins (C_Side K) dx (sdF r a.o a.f a.t σ.came σ.sent p)) (by simp [SA.all])
      rw [← eH] at S4 i4 g4
      have hsub : ∀ b ∈ ({ a with u := p } : SA).all, b ∈ p :: a.all := by
        intro b hb
        simp only [SA.all, List.mem_cons, List.not_mem_nil, or_false] at hb ⊢
        rcases hb with h | h | h | h | h <;> simp [h]
      refine ⟨_, rfl, kont _ { a with u := p } cb rfl (S4.sub hsub) ?_ ?_⟩
      · exact g4.mono (i4.trans (nextI_sub hsub)) fun _ _ _ e => e
      · exact hcb.mono (i4.trans (nextI_sub hsub))
/-! ### Side.take_in -/
abbrev N_Side_take_in : List Str := ["self", "change", "own", "mine"]
theorem sc_Side_take_in : FnScope N_Side_take_in ["self"] (defScope s_Side_take_in) := ⟨rfl, rfl, rfl, by decide +kernel, rfl, by decide +kernel, by decide +kernel⟩
def spTakeIn (K : PySem.W.Frag) : Sp := fun vs H Q _ => ∃ (a : SA) (σ : Sd) (I : Hp) (G : Int → Prop) (oc : Option Gs) (T0 : List (Option Gs)), vs = [.ref a.s] ∧ Same I H ∧ (∀ b ∈ a.all, I b = none) ∧ SdAt K I H a σ ∧ σ.to = oc :: T0 ∧ (oc = none → σ.own ≠ []) ∧
  (∀ c, oc = some c → GC G c ∧ GC G (crossO σ.own c).2 ∧ need (crossO σ.own c).2 ≤ σ.row.length) ∧ GCs G σ.own ∧ σ.own.length ≤ 90000 ∧ σ.row.length ≤ 30000 ∧
  ∀ H' (a' : SA), a'.s = a.s → Stp H a.all H' a'.all → SdAt K (nextI I H H' a'.all) H' a' σ.takeIn → Q .non H'
theorem ok_Side_take_in (T : Txt K mg) : FnR P w K mg base CX0 7 (He.ma K (He.ga K "Side") "take_in") (spTakeIn K) := by
  have G_Change_past := ok_Change_past (P := P) (w := w) (base := base) T
  have G_Change_done := ok_Change_done (P := P) (w := w) (base := base) T
  obtain ⟨pfd, G_Change_past_K, B_Change_past⟩ := okN_Change_past (P := P) (w := w) (base := base) T
  refine fnr_of T.d_Side_take_in sc_Side_take_in (fun vs H Q E h => ?_) (fun _ _ _ _ _ _ us hl => match us, hl with | [_], _ => rfl) (fun cdv A outer s H vs Q E hr h => ?_)
  · obtain ⟨a, σ, I, G, oc, T0, rfl, _⟩ := h
    rfl
  · obtain ⟨a, σ, I, G, oc, T0, rfl, sI, hF, h, ef, hno, hso, gO, z1, z2, kont⟩ := h
    refine ⟨_, (pss_cons (ps_set (i := 1) sc_Side_take_in.nd rfl (Or.inl rfl) (pe_bm PySem.F.plainAttrs_list PySem.F.slot_list_pop PySem.F.type_list_pop mt_popAt (pe_fld (pv 0) rfl) (pa_cons pe_int pa_nil)))
      (pss_cons (ps_fldaug (pv 0) pe_int in_add)
      (pss_cons (ps_if (pt_cmpR op_isN (pv 1) pe_non (nomark _)) (pss_cons (ps_expr (pe_bm PySem.F.plainAttrs_list PySem.F.slot_list_pop PySem.F.type_list_pop mt_popAt (pe_fld (pv 0) rfl) (pa_cons pe_int pa_nil)))
      (pss_one ps_retN)) pss_nil)
      (pss_cons (ps_set (i := 2) sc_Side_take_in.nd rfl (Or.inl rfl) (pe_lst pa_nil))
      (pss_cons (ps_for PassesOwn.never rfl (pi_list (pe_fld (pv 0) rfl)) (pg_name (i := 3) sc_Side_take_in.nd rfl (Or.inl rfl)) (pss_cons (ps_expr (pe_bm PySem.F.plainAttrs_list PySem.F.slot_list_append PySem.F.type_list_append mt_append (pv 2) (pa_cons (pe_methR (pv 3) T.k_Change T.m_Change_past G_Change_past (hr.mono (by decide)) pass0 (pa_cons (pv 1) pa_nil)) pa_nil)))
      (pss_one (ps_set (i := 1) sc_Side_take_in.nd rfl (Or.inl rfl) (pe_methN (pv 1) T.k_Change T.m_Change_past G_Change_past_K (hr.mono (by decide)) B_Change_past pass0 (pa_cons (pv 3) pa_nil) (pk_cons pe_bl pk_nil))))))
      (pss_cons (ps_fld (pv 0) (pv 2) rfl)
      (pss_one (ps_fld (pv 0) (pe_methR (pv 1) T.k_Change T.m_Change_done G_Change_done (hr.mono (by decide)) pass0 (pa_cons (pe_fld (pv 0) rfl) pa_nil)) rfl)))))))), ?_⟩
    have S0 : Stp H a.all H a.all := .refl h.there
    have i0 : Same I (nextI I H H a.all) := S0.mono sI hF
    obtain ⟨dx, r, h1, h2⟩ := h.ob
    obtain ⟨tits, hf, hfp⟩ := h.to
    rw [ef] at hfp
    cases hfp with
    | cons fx fr =>
    rename_i v tits
    have g1 := h.setT (its := tits) (xs := T0) fr
    obtain ⟨S1, i1⟩ := S0.set (I := I) (a := a.t) (o := .lst tits) (by simp [SA.all])
    have i01 := i0.trans i1
    have g1 := g1.mono i01 fun _ _ _ e => e
    have fx1 := fx.mono i01
    -- change = self.to_it.pop(0)
    refine ⟨_, rfl, a.s, _, dx, _, _, rfl, h1, T.k_Side, T.n_Side_to_it, rfl, .inl ⟨rfl, _, SqL.of hf⟩, a.t, _, _, 0, _, rfl, rfl, hf, by decide, by decide, pop0, rfl, ?_⟩
    rw [show ((v :: tits).eraseIdx 0) = tits from rfl]
    generalize upd H a.t (.lst tits) = H1 at S1 i1 i01 g1 fx1 ⊢
    clear h1 hf fr fx h2 h i0 S0
    -- self.came += 1
    obtain ⟨dx, r, h1, h2⟩ := g1.ob
    refine ⟨_, rfl, a.s, _, dx, _, _, rfl, h1, T.k_Side, T.n_Side_came, rfl, _, _, rfl, rfl, dx, _, h1, (by show 7 < 1000; decide), ?_⟩
    have eH : upd H1 a.s (.ins (C_Side K) dx (putF ("came" : Str) (.int ((σ.came : Int) + 1)) (sdF r a.o a.f a.t σ.came σ.sent a.u))) = upd H1 a.s (.ins (C_Side K) dx (sdF r a.o a.f a.t (σ.came + 1) σ.sent a.u)) := rfl
    have g2 := g1.setS (dx := dx) (came := σ.came + 1) (sent := σ.sent) h2
    obtain ⟨S2, i2⟩ := S1.set (I := I) (a := a.s) (o := .ins (C_Side K) dx (sdF r a.o a.f a.t (σ.came + 1) σ.sent a.u)) (by simp [SA.all])
    have g2 := g2.mono i2 fun _ _ _ e => e
    have fx2 := fx1.mono i2
    rw [← eH] at S2 i2 g2 fx2
    generalize upd H1 a.s (.ins (C_Side K) dx (putF ("came" : Str) (.int ((σ.came : Int) + 1)) (sdF r a.o a.f a.t σ.came σ.sent a.u))) = H2 at S2 i2 g2 fx2 ⊢
    clear eH h1 h2 g1 fx1
    obtain ⟨dx, r, h1, h2⟩ := g2.ob
    obtain ⟨oits, ho, hop⟩ := g2.own
    have hol : oits.length = σ.own.length := paired_len hop
    refine ⟨_, rfl, rfl, _, rfl, ?_⟩
    cases oc with
    | none =>
      obtain rfl : v = .non := fx2
      have ne := hno rfl
      have et : σ.takeIn = { { ({ σ with to := T0 } : Sd) with row := σ.row, came := σ.came + 1, sent := σ.sent } with own := σ.own.tail } := by
        unfold Sd.takeIn
        rw [ef]
      have hop : Paired (OwnV K (nextI I H H2 a.all)) oits σ.own := hop
      obtain ⟨x, os, eo⟩ : ∃ x os, σ.own = x :: os := by
        cases e : σ.own with
        | nil => exact absurd e ne
        | cons x os => exact ⟨x, os, rfl⟩
      rw [eo] at hop
      cases hop with
      | cons oy orr =>
      rename_i v oits
      refine iteT ⟨_, rfl, a.s, _, dx, _, _, rfl, h1, T.k_Side, T.n_Side_own, rfl, .inl ⟨rfl, _, SqL.of ho⟩, a.o, _, _, 0, _, rfl, rfl, ho, by decide, by decide, pop0, rfl, ?_⟩
      rw [show ((v :: oits).eraseIdx 0) = oits from rfl]
      obtain ⟨S3, i3⟩ := S2.set (I := I) (a := a.o) (o := .lst oits) (by simp [SA.all])
      refine kont _ a rfl S3 ?_
      rw [et, eo]
      exact (g2.setO (its := oits) (xs := os) orr).mono i3 fun _ _ _ e => e
    | some c =>
      obtain ⟨ca, rfl, hca⟩ := fx2
      obtain ⟨gc, gfin, hneed⟩ := hso c rfl
      have et : σ.takeIn = { { ({ σ with to := T0 } : Sd) with row := doneG (crossO σ.own c).2 σ.row, came := σ.came + 1, sent := σ.sent } with own := (crossO σ.own c).1 } := by
        unfold Sd.takeIn
        rw [ef]
      rw [et] at kont
      refine iteF ?_
      -- own = []
      refine ⟨(by show 0 ≤ sizeLine; decide), fun p p0 => ?_⟩
      have pn : p ∉ a.all := nin_of S2.th p0
      have S3' : Stp H a.all (upd H2 p (.lst [])) (p :: a.all) ∧ Same (nextI I H H2 a.all) (nextI I H (upd H2 p (.lst [])) (p :: a.all)) := S2.add (I := I) p0
      obtain ⟨S3, i3⟩ := S3'
      have g3 := g2.mono (H' := upd H2 p (.lst [])) i3 fun b _ o e => same_new p0 _ _ e
      have hca3 := hca.mono i3
      have hp3 : (upd H2 p (.lst [])) p = some (.lst []) := upd_same
      have h13 := same_new (o := HO.lst []) p0 _ _ h1
      have ho3 := same_new (o := HO.lst []) p0 _ _ ho
      have hop3 : Paired (OwnV K (nextI I H (upd H2 p (.lst [])) (p :: a.all))) oits σ.own := Paired.mapP hop fun _ _ => OwnV.mono i3
      have h23 := i3 _ _ h2
      generalize upd H2 p (.lst []) = H3 at S3 i3 g3 hca3 hp3 h13 ho3 hop3 h23 ⊢
      clear g2 hca S2 p0 i3 h1 ho hop h2
      refine ⟨_, rfl, a.s, _, dx, _, _, rfl, h13, T.k_Side, T.n_Side_own, rfl, a.o, rfl, ⟨_, SqL.of ho3⟩, for_list (K := K) (a := a.o) (xs := oits)
        (fun i σ1 H4 => ∃ v3 cb cg dn, σ1 = [some (.ref a.s), some (.ref cb), some (.ref p), v3] ∧ Stp H a.all H4 (p :: a.all) ∧ Same (nextI I H H3 (p :: a.all)) (nextI I H H4 (p :: a.all)) ∧ (∀ b ∈ a.all, ∀ o, H3 b = some o → H4 b = some o) ∧
          LsAt H4 (OwnV K (nextI I H H4 (p :: a.all))) p dn ∧ ChAt K (nextI I H H4 (p :: a.all)) cb cg ∧ GC G cg ∧ dn.length ≤ i ∧ crossO σ.own c = (dn ++ (crossO (σ.own.drop i) cg).1, (crossO (σ.own.drop i) cg).2))
        ⟨none, ca, c, [], rfl, S3, fun _ _ h => h, fun _ _ _ h => h, ⟨[], hp3, .nil⟩, hca3, gc, Nat.le_refl _, by simp⟩ (fun i σ1 H4 _ ⟨_, _, _, _, _, _, _, e, _⟩ => SqL.of (e _ (by simp [SA.all]) _ ho3)) ?_ ?_⟩
      · rintro i y σ1 H4 hi ⟨v3, cb, cg, dn, rfl, S4, i4, e4, hdn, hcb, gcb, hl, eq⟩
        obtain ⟨ug, hug, ub, rfl, hub⟩ := paired_get hop3 hi
        have hil : i < oits.length := (List.getElem?_eq_some_iff.mp hi).1
        have gu : GC G ug := gO ug (List.mem_of_getElem? hug)
        have hJ4 : Same (nextI I H H4 (p :: a.all)) H4 := S4.same sI hF
        have hub4 := hub.mono i4
        rw [drop_get hug] at eq
        obtain ⟨pits, hp4, hpp⟩ := hdn
        have hpl := paired_len hpp
        obtain ⟨ux, ul, uit, hub1, hub2, _⟩ := id (hub4.mono hJ4)
        -- own.append(mine.past(change))
        refine ⟨_, rfl, .inl ⟨rfl, _, SqL.of hp4⟩, _, rfl, ub, ux, _, rfl, hub1, rfl, _, rfl, ub, cb, ug, cg, false, rfl, hub4.mono hJ4, hcb.mono hJ4, gu.can, gcb.can, by have := gu.len; omega, by have := gcb.len; omega, by have := gu.few; omega, fun H5 x s5 x0 hx => ?_⟩
        obtain ⟨S5, i5, n5⟩ := S4.pure (I := I) s5
        have hx5 := hx.mono n5
        have hp5 := s5 _ _ hp4
        refine ⟨p, pits, _, rfl, rfl, hp5, sl5 (by omega), ?_⟩
        obtain ⟨S6, i6⟩ := S5.set (I := I) (a := p) (o := .lst (pits ++ [.ref x])) (by simp)
        have i46 := i5.trans i6
        have e46 : ∀ b ∈ a.all, ∀ o, H3 b = some o → (upd H5 p (.lst (pits ++ [.ref x]))) b = some o := fun b hb o e => by
          rw [upd_ne (fun z => pn (by rw [← z]; exact hb))]
          exact s5 _ _ (e4 b hb o e)
        have hdn6 : LsAt (upd H5 p (.lst (pits ++ [.ref x]))) (OwnV K (nextI I H (upd H5 p (.lst (pits ++ [.ref x]))) (p :: a.all))) p (dn ++ [pastG false ug cg]) := .set (paired_app (Paired.mapP hpp fun _ _ => OwnV.mono i46) (paired_one ⟨x, rfl, hx5.mono i6⟩))
        generalize upd H5 p (.lst (pits ++ [.ref x])) = H6 at S6 i6 i46 e46 hdn6 ⊢
        have hJ6 : Same (nextI I H H6 (p :: a.all)) H6 := S6.same sI hF
        have hcb6 := hcb.mono i46
        have hub6 := hub4.mono i46
        obtain ⟨bx, bl, bit, hb1, hb2, _⟩ := id (hcb6.mono hJ6)
        -- change = change.past(mine, ahead=True)
        refine ⟨_, rfl, cb, bx, _, rfl, hb1, rfl, _, rfl, rfl, rfl, cb, ub, cg, ug, true, rfl, hcb6.mono hJ6, hub6.mono hJ6, gcb.can, gu.can, by have := gcb.len; omega, by have := gu.len; omega, by have := gcb.few; omega, fun H7 x7 s7 x70 hx7 => ?_⟩
        obtain ⟨S7, i7, n7⟩ := S6.pure (I := I) s7
        refine ⟨_, x7, pastG true cg ug, dn ++ [pastG false ug cg], rfl, S7, (i4.trans i46).trans i7, fun b hb o e => s7 _ _ (e46 b hb o e), hdn6.imp (fun _ e => s7 _ _ e) fun _ _ => OwnV.mono i7, hx7.mono n7, gcb.past gu, by rw [List.length_append, List.length_singleton]; omega, ?_⟩
        rw [eq]
        simp [crossO]
      · rintro σ1 H4 ⟨v3, cb, cg, dn, rfl, S4, i4, e4, hdn, hcb, gcb, hl, eq⟩
        rw [hol, List.drop_of_length_le (Nat.le_refl _)] at eq
        simp only [crossO, List.append_nil] at eq
        rw [eq] at kont gfin hneed
        dsimp only at kont gfin hneed
        have g4 := g3.mono i4 e4
        have h14 := e4 _ (by simp [SA.all]) _ h13
        obtain ⟨pits, hp4, hpp⟩ := hdn
        -- self.own = own
        refine ⟨_, rfl, _, rfl, a.s, _, dx, _, rfl, h14, T.k_Side, T.n_Side_own, (by show 7 < 1000; decide), ?_⟩
        have eH : upd H4 a.s (.ins (C_Side K) dx (putF ("own" : Str) (.ref p) (sdF r a.o a.f a.t (σ.came + 1) σ.sent a.u))) = upd H4 a.s (.ins (C_Side K) dx (sdF r p a.f a.t (σ.came + 1) σ.sent a.u)) := rfl
        have g5 := g4.newO (o := p) h14 (i4 _ _ h23) hp4 hpp pn
        obtain ⟨S5, i5⟩ := S4.set (I := I) (a := a.s) (o := .ins (C_Side K) dx (sdF r p a.f a.t (σ.came + 1) σ.sent a.u)) (by simp [SA.all])
        have hsub : ∀ b ∈ ({ a with o := p } : SA).all, b ∈ p :: a.all := by
          intro b hb
          simp only [SA.all, List.mem_cons, List.not_mem_nil, or_false] at hb ⊢
          rcases hb with h | h | h | h | h <;> simp [h]
        have hcb5 := hcb.mono i5
        have h25 := i5 _ _ (i4 _ _ h23)
        have h15 : upd H4 a.s (.ins (C_Side K) dx (sdF r p a.f a.t (σ.came + 1) σ.sent a.u)) a.s = some (.ins (C_Side K) dx (sdF r p a.f a.t (σ.came + 1) σ.sent a.u)) := upd_same
        have g5 := g5.mono (i5.trans (nextI_sub hsub)) fun _ _ _ e => e
        have S5 := S5.sub hsub
        have h25 := nextI_sub (I := I) (H := H) hsub _ _ h25
        have hcb5 := hcb5.mono (nextI_sub hsub)
        rw [← eH] at S5 i5 g5 hcb5 h25 h15
        generalize upd H4 a.s (.ins (C_Side K) dx (putF ("own" : Str) (.ref p) (sdF r a.o a.f a.t (σ.came + 1) σ.sent a.u))) = H5 at S5 i5 g5 hcb5 h25 h15 ⊢
        have hJ5 : Same (nextI I H H5 ({ a with o := p } : SA).all) H5 := S5.same sI hF
        obtain ⟨bx, bl, bit, hb1, hb2, _⟩ := id (hcb5.mono hJ5)
        -- self.row = change.done(self.row)
        refine ⟨_, rfl, cb, bx, _, rfl, hb1, rfl, _, rfl, a.s, _, dx, _, _, rfl, h15, T.k_Side, T.n_Side_row, rfl, cb, r, cg, σ.row, rfl, hcb5.mono hJ5, hJ5 _ _ h25, by have := gfin.len; omega, z2, by have := gfin.few; omega, hneed, fun H6 l s6 l0 hl6 => ?_⟩
        obtain ⟨S6, i6, n6⟩ := S5.pure (I := I) s6
        have hl6' := n6 _ _ (newIn_get l0 hl6)
        have g6 := g5.mono i6 fun _ _ _ e => s6 _ _ e
        have h16 := s6 _ _ h15
        refine ⟨_, rfl, a.s, _, dx, _, rfl, h16, T.k_Side, T.n_Side_row, (by show 7 < 1000; decide), ?_⟩
        have eH2 : upd H6 a.s (.ins (C_Side K) dx (putF ("row" : Str) (.ref l) (sdF r p a.f a.t (σ.came + 1) σ.sent a.u))) = upd H6 a.s (.ins (C_Side K) dx (sdF l p a.f a.t (σ.came + 1) σ.sent a.u)) := rfl
        have g7 := g6.setS (dx := dx) (came := σ.came + 1) (sent := σ.sent) hl6'
        obtain ⟨S7, i7⟩ := S6.set (I := I) (a := a.s) (o := .ins (C_Side K) dx (sdF l p a.f a.t (σ.came + 1) σ.sent a.u)) (by simp [SA.all])
        have g7 := g7.mono i7 fun _ _ _ e => e
        rw [← eH2] at S7 g7
        exact kont _ { a with o := p } rfl S7 g7
end
end K94
set_option maxRecDepth 100000
set_option maxHeartbeats 4000000
/-! K94I: the meeting in the heap; a side made. -/
namespace K94
open PySem PySem.Spec PyProof.Rows L2
section
variable {I H H' H1 H2 : Hp} {F F' A A' : List Addr}
theorem Stp.lift (S : Stp H A H' A') (hA : ∀ b ∈ A, b ∈ F) (hF : ∀ b ∈ F, (H b).isSome = true) (hF' : ∀ b ∈ F', b ∈ A' ∨ b ∈ F) : Stp H F H' F' :=
  ⟨fun b o n h => S.fr b o (fun z => n (hA b z)) h, S.kp, fun b h => by
    rcases hF' b h with h | h
    · rcases S.fs b h with h | h
      · exact .inl (hA b h)
      · exact .inr h
    · exact .inl h, fun b h => by
    rcases hF' b h with h | h
    · exact S.th b h
    · exact S.kp b (hF b h)⟩
theorem nextI_lift (hI : ∀ b ∈ F, I b = none) (hF : ∀ b ∈ F, (H b).isSome = true) (hF' : ∀ b ∈ F', b ∈ A' ∨ b ∈ F) : Same (nextI I H H' A') (nextI I H H' F') := fun b o h => by
  obtain ⟨n, ⟨h1, h2⟩ | ⟨h1, h2⟩⟩ := of_nextI h
  · refine nextI_old h1 h2 fun z => ?_
    rcases hF' b z with z | z
    · exact n z
    · rw [hI b z] at h1
      cases h1
  · refine nextI_fresh h1 h2 fun z => ?_
    rcases hF' b z with z | z
    · exact n z
    · have := hF b z
      rw [h1] at this
      cases this
end
theorem paired_set {α β : Type} {F G : α → β → Prop} : ∀ {xs : List α} {ys : List β} {h : Nat} {x' : α} {y' : β}, Paired F xs ys → (∀ i x y, i ≠ h → xs[i]? = some x → F x y → G x y) → G x' y' → Paired G (xs.set h x') (ys.set h y')
  | _, _, _, _, _, .nil, _, _ => .nil
  | _, _, 0, _, _, .cons r t, k, g => .cons g (by
    have : ∀ {as : List α} {bs : List β}, Paired F as bs → (∀ i x y, as[i]? = some x → F x y → G x y) → Paired G as bs := fun {as bs} t => by
      induction t with
      | nil => exact fun _ => .nil
      | cons r t ih => exact fun k => .cons (k 0 _ _ rfl r) (ih fun i x y e f => k (i + 1) x y (by simpa using e) f)
    exact this t fun i x y e f => k (i + 1) x y (by omega) (by simpa using e) f)
  | _, _, h + 1, _, _, .cons r t, k, g => .cons (k 0 _ _ (by omega) rfl r) (paired_set t (fun i x y n e f => k (i + 1) x y (by omega) (by simpa using e) f) g)
theorem paired_get2 {α β : Type} {F : α → β → Prop} : ∀ {a : List α} {b : List β} {i : Nat} {y : β}, Paired F a b → b[i]? = some y → ∃ x, a[i]? = some x ∧ F x y
  | _, _, _, _, .nil, e => by simp at e
  | _, _, 0, _, .cons r _, e => by
    simp at e
    subst e
    exact ⟨_, rfl, r⟩
  | _, _, i + 1, _, .cons _ t, e => by
    obtain ⟨y, h1, h2⟩ := paired_get2 (i := i) t (by simpa using e)
    exact ⟨y, by simpa using h1, h2⟩
theorem modify_get {α : Type} {f : α → α} : ∀ {l : List α} {h : Nat} {x : α}, l[h]? = some x → l.modify h f = l.set h (f x)
  | [], h, x, e => by simp at e
  | y :: l, 0, x, e => by
    simp at e
    subst e
    rfl
  | y :: l, h + 1, x, e => by
    have := modify_get (f := f) (l := l) (h := h) (x := x) (by simpa using e)
    simpa using this

/-! ### sides apart from one another -/
def allOf (ss : List SA) : List Addr := ss.flatMap SA.all
theorem mem_allOf {ss : List SA} {b : Addr} : b ∈ allOf ss ↔ ∃ a ∈ ss, b ∈ a.all := List.mem_flatMap
theorem mem_all_get {ss : List SA} {i : Nat} {a : SA} {b : Addr} (h : ss[i]? = some a) (hb : b ∈ a.all) : b ∈ allOf ss := mem_allOf.mpr ⟨a, List.mem_of_getElem? h, hb⟩
theorem allOf_cons (a : SA) (ss : List SA) : allOf (a :: ss) = a.all ++ allOf ss := by simp [allOf]
theorem apart : ∀ {ss : List SA} {i j : Nat} {a c : SA} {b : Addr}, (allOf ss).Nodup → ss[i]? = some a → ss[j]? = some c → i ≠ j → b ∈ a.all → b ∉ c.all
  | [], i, j, a, c, b, _, e, _, _, _ => by simp at e
  | x :: ss, 0, 0, a, c, b, _, _, _, n, _ => absurd rfl n
  | x :: ss, 0, j + 1, a, c, b, h, e1, e2, _, hb => fun hc => by
    simp at e1
    subst e1
    rw [allOf_cons, List.nodup_append] at h
    exact h.2.2 b hb b (mem_all_get (i := j) (by simpa using e2) hc) rfl
  | x :: ss, i + 1, 0, a, c, b, h, e1, e2, _, hb => fun hc => by
    simp at e2
    subst e2
    rw [allOf_cons, List.nodup_append] at h
    exact h.2.2 b hc b (mem_all_get (i := i) (by simpa using e1) hb) rfl
  | x :: ss, i + 1, j + 1, a, c, b, h, e1, e2, n, hb => by
    rw [allOf_cons, List.nodup_append] at h
    exact apart h.2.1 (by simpa using e1) (by simpa using e2) (by omega) hb
theorem mem_allOf_set : ∀ {ss : List SA} {i : Nat} {a' : SA} {b : Addr}, b ∈ allOf (ss.set i a') → b ∈ a'.all ∨ b ∈ allOf ss
  | [], i, a', b, h => by simp [allOf] at h
  | x :: ss, 0, a', b, h => by
    rw [List.set_cons_zero, allOf_cons, List.mem_append] at h
    rw [allOf_cons, List.mem_append]
    rcases h with h | h
    · exact .inl h
    · exact .inr (.inr h)
  | x :: ss, i + 1, a', b, h => by
    rw [List.set_cons_succ, allOf_cons, List.mem_append] at h
    rw [allOf_cons, List.mem_append]
    rcases h with h | h
    · exact .inr (.inl h)
    · rcases mem_allOf_set h with h | h
      · exact .inl h
      · exact .inr (.inr h)
/-- one side in other places -/
theorem nodup_set : ∀ {ss : List SA} {i : Nat} {a a' : SA} {Z : List Addr}, (Z ++ allOf ss).Nodup → ss[i]? = some a → a'.all.Nodup → (∀ b ∈ a'.all, b ∈ a.all ∨ b ∉ Z ++ allOf ss) → (Z ++ allOf (ss.set i a')).Nodup
  | [], i, a, a', Z, _, e, _, _ => by simp at e
  | x :: ss, 0, a, a', Z, h, e, h1, h2 => by
    simp at e
    subst e
    rw [List.set_cons_zero, allOf_cons]
    rw [allOf_cons] at h h2
    rw [List.nodup_append] at h ⊢
    obtain ⟨g1, g2, g3⟩ := h
    rw [List.nodup_append] at g2 ⊢
    obtain ⟨g4, g5, g6⟩ := g2
    refine ⟨g1, ⟨h1, g5, fun b hb c hc => ?_⟩, fun b hb c hc => ?_⟩
    · rcases h2 b hb with h | h
      · exact g6 b h c hc
      · intro z
        exact h (by simp [z, hc])
    · rcases List.mem_append.mp hc with hc | hc
      · intro z
        subst z
        rcases h2 b hc with h | h
        · exact g3 b hb b (by simp [h]) rfl
        · exact h (by simp [hb])
      · exact g3 b hb c (by simp [hc])
  | x :: ss, i + 1, a, a', Z, h, e, h1, h2 => by
    rw [List.set_cons_succ, allOf_cons, ← List.append_assoc]
    rw [allOf_cons, ← List.append_assoc] at h h2
    exact nodup_set h (by simpa using e) h1 h2

/-! ### a meeting in the heap -/
abbrev C_Meeting (K : PySem.W.Frag) : Addr := He.ga K "Meeting"
def mtF (tb r sl dl : Addr) : List (Str × V) := [("table", .ref tb), ("row", .ref r), ("sides", .ref sl), ("done_there", .ref dl)]
def StoV (K : PySem.W.Frag) (I : Hp) (v : V) (p : Nat × Gs) : Prop := UnsV K I v p
structure MtAt (K : PySem.W.Frag) (I H : Hp) (m tb : Addr) (F : List Addr) (M : Mt) : Prop where
  ex : ∃ (dx r sl dl : Addr) (ss : List SA), H m = some (.ins (C_Meeting K) dx (mtF tb r sl dl)) ∧ I r = some (.lst (M.row.map V.int)) ∧ I sl = some (.lst (ss.map fun a => V.ref a.s)) ∧ LsAt H (StoV K I) dl M.story ∧
    Paired (SdAt K I H) ss M.sides ∧ F = [m, dl] ++ allOf ss ∧ F.Nodup
section
variable {K : PySem.W.Frag} {I I' H H' : Hp} {m tb : Addr} {F : List Addr} {M : Mt}
theorem paired_mem {α β : Type} {F : α → β → Prop} : ∀ {a : List α} {b : List β} {x : α}, Paired F a b → x ∈ a → ∃ y, y ∈ b ∧ F x y
  | _, _, _, .nil, e => by simp at e
  | _, _, _, .cons r t, e => by
    rcases List.mem_cons.mp e with rfl | e
    · exact ⟨_, by simp, r⟩
    · obtain ⟨y, h1, h2⟩ := paired_mem t e
      exact ⟨y, by simp [h1], h2⟩
theorem paired_imp {α β : Type} {F G : α → β → Prop} : ∀ {a : List α} {b : List β}, Paired F a b → (∀ x ∈ a, ∀ y, F x y → G x y) → Paired G a b
  | _, _, .nil, _ => .nil
  | _, _, .cons r t, k => .cons (k _ (by simp) _ r) (paired_imp t fun x hx y f => k x (by simp [hx]) y f)
theorem MtAt.there (h : MtAt K I H m tb F M) : ∀ b ∈ F, (H b).isSome = true := by
  obtain ⟨dx, r, sl, dl, ss, h1, h2, h3, ⟨_, h4, _⟩, h5, rfl, h7⟩ := h
  intro b hb
  simp only [List.cons_append, List.nil_append, List.mem_cons] at hb
  rcases hb with rfl | rfl | hb
  · exact some_of h1
  · exact some_of h4
  · obtain ⟨a, ha, hb⟩ := mem_allOf.mp hb
    obtain ⟨σ, _, hs⟩ := paired_mem h5 ha
    exact hs.there b hb
theorem MtAt.mono (h : MtAt K I H m tb F M) (s : Same I I') (e : ∀ b ∈ F, ∀ o, H b = some o → H' b = some o) : MtAt K I' H' m tb F M := by
  obtain ⟨dx, r, sl, dl, ss, h1, h2, h3, h4, h5, rfl, h7⟩ := h
  exact ⟨dx, r, sl, dl, ss, e _ (by simp) _ h1, s _ _ h2, s _ _ h3, h4.imp (e _ (by simp)) fun _ _ => UnsV.mono s, paired_imp h5 fun a ha σ hs => hs.mono s fun b hb => e b (by simp; exact .inr (.inr (mem_allOf.mpr ⟨a, ha, hb⟩))), rfl, h7⟩
/-- one side of a meeting, and the meeting when that side has changed -/
theorem MtAt.side (h : MtAt K I H m tb F M) (sI : Same I H) (hI : ∀ b ∈ F, I b = none) {i : Nat} {σ : Sd} (hi : M.sides[i]? = some σ) : ∃ (a : SA), (∀ b ∈ a.all, b ∈ F) ∧ SdAt K I H a σ ∧ (∀ b ∈ a.all, I b = none) ∧
    (∃ (dx r sl dl : Addr) (sits : List V), H m = some (.ins (C_Meeting K) dx (mtF tb r sl dl)) ∧ I sl = some (.lst sits) ∧ sits[i]? = some (.ref a.s) ∧ sits.length = M.sides.length) ∧ m ∉ a.all ∧
    ∀ (H' : Hp) (a' : SA) (σ' : Sd), a'.s = a.s → Stp H a.all H' a'.all → SdAt K (nextI I H H' a'.all) H' a' σ' → ∃ F', Stp H F H' F' ∧ MtAt K (nextI I H H' F') H' m tb F' { M with sides := M.sides.set i σ' } ∧ Same (nextI I H H' a'.all) (nextI I H H' F') := by
  have th := h.there
  obtain ⟨dx, r, sl, dl, ss, h1, h2, h3, h4, h5, rfl, h7⟩ := h
  obtain ⟨a, ha, hs⟩ := paired_get2 h5 hi
  have sub : ∀ b ∈ a.all, b ∈ [m, dl] ++ allOf ss := fun b hb => List.mem_append_right _ (mem_all_get ha hb)
  have hss : (allOf ss).Nodup := (List.nodup_append.mp h7).2.1
  have hap := (List.nodup_append.mp h7).2.2
  refine ⟨a, sub, hs, fun b hb => hI b (sub b hb), ⟨dx, r, sl, dl, _, h1, h3, by rw [List.getElem?_map, ha]; rfl, by rw [List.length_map]; exact paired_len h5⟩, fun z => hap m (by simp) m (mem_all_get ha z) rfl, fun H' a' σ' ea S g => ?_⟩
  have hF' : ∀ b ∈ [m, dl] ++ allOf (ss.set i a'), b ∈ a'.all ∨ b ∈ [m, dl] ++ allOf ss := fun b hb => by
    rcases List.mem_append.mp hb with hb | hb
    · exact .inr (List.mem_append_left _ hb)
    · rcases mem_allOf_set hb with hb | hb
      · exact .inl hb
      · exact .inr (List.mem_append_right _ hb)
  have S' : Stp H ([m, dl] ++ allOf ss) H' ([m, dl] ++ allOf (ss.set i a')) := S.lift sub th hF'
  have z : Same (nextI I H H' a'.all) (nextI I H H' ([m, dl] ++ allOf (ss.set i a'))) := nextI_lift hI th hF'
  have nd : ([m, dl] ++ allOf (ss.set i a')).Nodup := by
    refine nodup_set h7 ha g.nd fun b hb => ?_
    rcases S.fs b hb with h | h
    · exact .inl h
    · refine .inr fun w => ?_
      have := th b w
      rw [h] at this
      cases this
  have mI : Same I (nextI I H H' ([m, dl] ++ allOf (ss.set i a'))) := S'.mono sI hI
  have hm : m ∉ a.all := fun z => hap m (by simp) m (mem_all_get ha z) rfl
  have hdl : dl ∉ a.all := fun z => hap dl (by simp) dl (mem_all_get ha z) rfl
  have emap : (ss.set i a').map (fun a => V.ref a.s) = ss.map (fun a => V.ref a.s) := by
    rw [List.map_set, ea]
    refine List.ext_getElem? fun j => ?_
    by_cases h : i = j
    · subst h
      rw [List.getElem?_set_self (by rw [List.length_map]; exact (List.getElem?_eq_some_iff.mp ha).1), List.getElem?_map, ha]
      rfl
    · rw [List.getElem?_set_ne h]
  refine ⟨_, S', ⟨dx, r, sl, dl, ss.set i a', S.fr _ _ hm h1, mI _ _ h2, by rw [emap]; exact mI _ _ h3, h4.imp (fun o e => S.fr _ _ hdl e) fun _ _ => UnsV.mono mI, ?_, rfl, nd⟩, z⟩
  exact paired_set h5 (fun j x y n e f => f.mono mI fun b hb o eo => S.fr b o (apart hss e ha n hb) eo) (g.mono z fun _ _ _ e => e)
end
end K94
set_option maxRecDepth 100000
set_option maxHeartbeats 4000000
/-! K94J: a side made; a meeting made, asked. -/
namespace K94
open PySem PySem.Spec PyProof.Rows L2
section
variable {P : Program} {w : World} {K : PySem.W.Frag} {mg : Str → Option Value} {base : Heap}
/-- all but x is as it was -/
def But (x : Addr) (H H' : Hp) : Prop := ∀ b u, b ≠ x → H b = some u → H' b = some u
theorem But.trans {x : Addr} {H H1 H2 : Hp} (a : But x H H1) (b : But x H1 H2) : But x H H2 := fun c u n h => b c u n (a c u n h)
theorem but_upd {x : Addr} {H : Hp} {o : HO} : But x H (upd H x o) := fun b u n h => by rw [upd_ne n]; exact h
theorem but_new {x l : Addr} {H : Hp} {o v : HO} (h : H l = none) : But x H (upd (upd H l v) x o) := fun b u n e => by
  rw [upd_ne n]
  exact same_new h _ _ e
theorem But.free {x l : Addr} {H H' : Hp} (a : But x H H') (n : l ≠ x) (h : H' l = none) : H l = none := by
  cases q : H l with
  | none => rfl
  | some u => rw [a l u n q] at h; cases h
/-- this alone -/
def one (r : Addr) (o : HO) : Hp := fun b => if b = r then some o else none
theorem one_same {r : Addr} {o : HO} {H : Hp} (h : H r = some o) : Same (one r o) H := fun b u e => by
  unfold one at e
  split at e
  · rename_i z
    cases e
    rw [z]
    exact h
  · cases e
theorem one_get (r : Addr) (o : HO) : one r o r = some o := by unfold one; rw [if_pos rfl]
abbrev N_Side_init : List Str := ["self", "row"]
theorem sc_Side_init : FnScope N_Side_init ["self", "row"] (defScope s_Side_init) := ⟨rfl, rfl, rfl, by decide +kernel, rfl, by decide +kernel, by decide +kernel⟩
def spSideInit (K : PySem.W.Frag) : Sp := fun vs H Q _ => ∃ (x dx r : Addr) (row : List Int) (H0 : Hp), vs = [.ref x, .ref r] ∧ H0 x = none ∧ H0 dx = none ∧ dx ≠ x ∧ H = upd (upd H0 dx (.own x)) x (.ins (C_Side K) dx []) ∧ H0 r = some (.lst (row.map V.int)) ∧
  ∀ H' (a : SA), a.s = x → Same H0 H' → (∀ b ∈ a.all, H0 b = none) → SdAt K (one r (.lst (row.map V.int))) H' a (Sd.new row) → Q .non H'
theorem ok_Side_init (T : Txt K mg) : FnR P w K mg base CX0 1 (He.ma K (He.ga K "Side") "__init__") (spSideInit K) := by
  refine fnr_of T.d_Side_init sc_Side_init (fun vs H Q E h => ?_) (fun _ _ _ _ _ _ us hl => match us, hl with | [_, _], _ => rfl) (fun cdv A outer s H vs Q E hr h => ?_)
  · obtain ⟨x, dx, r, row, H0, rfl, _⟩ := h
    rfl
  · obtain ⟨x, dx, r, row, H0, rfl, x0, d0, ne, rfl, hr0, k⟩ := h
    have b0 : But x H0 (upd (upd H0 dx (.own x)) x (.ins (C_Side K) dx [])) := but_new d0
    have hx : (upd (upd H0 dx (.own x)) x (.ins (C_Side K) dx [])) x = some (.ins (C_Side K) dx []) := upd_same
    have rx : r ≠ x := ne_of_none hr0 x0
    generalize upd (upd H0 dx (.own x)) x (.ins (C_Side K) dx []) = H at b0 hx ⊢
    refine ⟨_, (pss_cons (ps_fld (pv 0) (pv 1) rfl)
      (pss_cons (ps_fld (pv 0) (pe_lst pa_nil) rfl)
      (pss_cons (ps_fld (pv 0) (pe_lst pa_nil) rfl)
      (pss_cons (ps_fld (pv 0) (pe_lst pa_nil) rfl)
      (pss_cons (ps_fld (pv 0) pe_int rfl)
      (pss_cons (ps_fld (pv 0) pe_int rfl)
      (pss_one (ps_fld (pv 0) (pe_lst pa_nil) rfl)))))))), ?_⟩
    -- self.row = row
    refine ⟨_, rfl, _, rfl, x, _, dx, _, rfl, hx, T.k_Side, T.n_Side_row, (by show 0 < 1000; decide), ?_⟩
    have b1 := b0.trans (but_upd (x := x) (H := H) (o := .ins (C_Side K) dx (putF "row" (.ref r) [])))
    have hx1 : (upd H x (.ins (C_Side K) dx (putF "row" (.ref r) []))) x = some (.ins (C_Side K) dx (putF "row" (.ref r) [])) := upd_same
    generalize upd H x (.ins (C_Side K) dx (putF "row" (.ref r) [])) = H1 at b1 hx1 ⊢
    -- self.own = []
    refine ⟨(by show 0 ≤ sizeLine; decide), fun o o0 => ⟨_, rfl, x, _, dx, _, rfl, same_new o0 _ _ hx1, T.k_Side, T.n_Side_own, (by show 1 < 1000; decide), ?_⟩⟩
    have ox := ne_of_none hx1 o0
    have n1 := b1.free ox.symm o0
    have b2 := b1.trans (but_new (x := x) (H := H1) (l := o) (v := .lst []) (o := .ins (C_Side K) dx (putF "own" (.ref o) (putF "row" (.ref r) []))) o0)
    have hx2 : (upd (upd H1 o (.lst [])) x (.ins (C_Side K) dx (putF "own" (.ref o) (putF "row" (.ref r) [])))) x = some (.ins (C_Side K) dx (putF "own" (.ref o) (putF "row" (.ref r) []))) := upd_same
    have ho2 : (upd (upd H1 o (.lst [])) x (.ins (C_Side K) dx (putF "own" (.ref o) (putF "row" (.ref r) [])))) o = some (.lst []) := by rw [upd_ne ox.symm]; exact upd_same
    generalize upd (upd H1 o (.lst [])) x (.ins (C_Side K) dx (putF "own" (.ref o) (putF "row" (.ref r) []))) = H2 at b2 hx2 ho2 ⊢
    -- self.from_it = []
    refine ⟨(by show 0 ≤ sizeLine; decide), fun f f0 => ⟨_, rfl, x, _, dx, _, rfl, same_new f0 _ _ hx2, T.k_Side, T.n_Side_from_it, (by show 2 < 1000; decide), ?_⟩⟩
    have fx := ne_of_none hx2 f0
    have of := ne_of_none ho2 f0
    have n2 := b2.free fx.symm f0
    have c3 := but_new (x := x) (H := H2) (l := f) (v := .lst []) (o := .ins (C_Side K) dx (putF "from_it" (.ref f) (putF "own" (.ref o) (putF "row" (.ref r) [])))) f0
    have b3 := b2.trans c3
    have hx3 : (upd (upd H2 f (.lst [])) x (.ins (C_Side K) dx (putF "from_it" (.ref f) (putF "own" (.ref o) (putF "row" (.ref r) []))))) x = some (.ins (C_Side K) dx (putF "from_it" (.ref f) (putF "own" (.ref o) (putF "row" (.ref r) [])))) := upd_same
    have hf3 : (upd (upd H2 f (.lst [])) x (.ins (C_Side K) dx (putF "from_it" (.ref f) (putF "own" (.ref o) (putF "row" (.ref r) []))))) f = some (.lst []) := by rw [upd_ne fx.symm]; exact upd_same
    have ho3 := c3 _ _ ox.symm ho2
    generalize upd (upd H2 f (.lst [])) x (.ins (C_Side K) dx (putF "from_it" (.ref f) (putF "own" (.ref o) (putF "row" (.ref r) [])))) = H3 at b3 hx3 hf3 ho3 ⊢
    -- self.to_it = []
    refine ⟨(by show 0 ≤ sizeLine; decide), fun t t0 => ⟨_, rfl, x, _, dx, _, rfl, same_new t0 _ _ hx3, T.k_Side, T.n_Side_to_it, (by show 3 < 1000; decide), ?_⟩⟩
    have tx := ne_of_none hx3 t0
    have ot := ne_of_none ho3 t0
    have ft := ne_of_none hf3 t0
    have n3 := b3.free tx.symm t0
    have c4 := but_new (x := x) (H := H3) (l := t) (v := .lst []) (o := .ins (C_Side K) dx (putF "to_it" (.ref t) (putF "from_it" (.ref f) (putF "own" (.ref o) (putF "row" (.ref r) []))))) t0
    have b4 := b3.trans c4
    have hx4 : (upd (upd H3 t (.lst [])) x (.ins (C_Side K) dx (putF "to_it" (.ref t) (putF "from_it" (.ref f) (putF "own" (.ref o) (putF "row" (.ref r) [])))))) x = some (.ins (C_Side K) dx (putF "to_it" (.ref t) (putF "from_it" (.ref f) (putF "own" (.ref o) (putF "row" (.ref r) []))))) := upd_same
    have ht4 : (upd (upd H3 t (.lst [])) x (.ins (C_Side K) dx (putF "to_it" (.ref t) (putF "from_it" (.ref f) (putF "own" (.ref o) (putF "row" (.ref r) [])))))) t = some (.lst []) := by rw [upd_ne tx.symm]; exact upd_same
    have ho4 := c4 _ _ ox.symm ho3
    have hf4 := c4 _ _ fx.symm hf3
    generalize upd (upd H3 t (.lst [])) x (.ins (C_Side K) dx (putF "to_it" (.ref t) (putF "from_it" (.ref f) (putF "own" (.ref o) (putF "row" (.ref r) []))))) = H4 at b4 hx4 hf4 ho4 ht4 ⊢
    -- self.came = 0; self.sent = 0
    refine ⟨_, rfl, x, _, dx, _, rfl, hx4, T.k_Side, T.n_Side_came, (by show 4 < 1000; decide), ?_⟩
    refine ⟨_, rfl, x, _, dx, _, rfl, upd_same, T.k_Side, T.n_Side_sent, (by show 5 < 1000; decide), ?_⟩
    rw [upd_upd]
    have c5 := but_upd (x := x) (H := H4) (o := .ins (C_Side K) dx (putF "sent" (.int 0) (putF "came" (.int 0) (putF "to_it" (.ref t) (putF "from_it" (.ref f) (putF "own" (.ref o) (putF "row" (.ref r) [])))))))
    have b5 := b4.trans c5
    have hx5 : (upd H4 x (.ins (C_Side K) dx (putF "sent" (.int 0) (putF "came" (.int 0) (putF "to_it" (.ref t) (putF "from_it" (.ref f) (putF "own" (.ref o) (putF "row" (.ref r) [])))))))) x = some (.ins (C_Side K) dx (putF "sent" (.int 0) (putF "came" (.int 0) (putF "to_it" (.ref t) (putF "from_it" (.ref f) (putF "own" (.ref o) (putF "row" (.ref r) []))))))) := upd_same
    have ho5 := c5 _ _ ox.symm ho4
    have hf5 := c5 _ _ fx.symm hf4
    have ht5 := c5 _ _ tx.symm ht4
    generalize upd H4 x (.ins (C_Side K) dx (putF "sent" (.int 0) (putF "came" (.int 0) (putF "to_it" (.ref t) (putF "from_it" (.ref f) (putF "own" (.ref o) (putF "row" (.ref r) []))))))) = H5 at b5 hx5 hf5 ho5 ht5 ⊢
    -- self.unsure = []
    refine ⟨(by show 0 ≤ sizeLine; decide), fun u u0 => ⟨_, rfl, x, _, dx, _, rfl, same_new u0 _ _ hx5, T.k_Side, T.n_Side_unsure, (by show 6 < 1000; decide), ?_⟩⟩
    have ux := ne_of_none hx5 u0
    have ou := ne_of_none ho5 u0
    have fu := ne_of_none hf5 u0
    have tu := ne_of_none ht5 u0
    have n4 := b5.free ux.symm u0
    have c6 := but_new (x := x) (H := H5) (l := u) (v := .lst []) (o := .ins (C_Side K) dx (putF "unsure" (.ref u) (putF "sent" (.int 0) (putF "came" (.int 0) (putF "to_it" (.ref t) (putF "from_it" (.ref f) (putF "own" (.ref o) (putF "row" (.ref r) [])))))))) u0
    have b6 := b5.trans c6
    have hsm : Same H0 (upd (upd H5 u (.lst [])) x (.ins (C_Side K) dx (putF "unsure" (.ref u) (putF "sent" (.int 0) (putF "came" (.int 0) (putF "to_it" (.ref t) (putF "from_it" (.ref f) (putF "own" (.ref o) (putF "row" (.ref r) []))))))))) := fun b o e => b6 b o (ne_of_none e x0) e
    refine k _ ⟨x, o, f, t, u⟩ rfl hsm ?_ ⟨⟨dx, r, upd_same, ?_⟩, ⟨[], c6 _ _ ox.symm ho5, .nil⟩, ⟨[], c6 _ _ fx.symm hf5, .nil⟩, ⟨[], c6 _ _ tx.symm ht5, .nil⟩, ⟨[], by rw [upd_ne ux.symm]; exact upd_same, .nil⟩, ?_⟩
    · intro b hb
      simp only [SA.all, List.mem_cons, List.not_mem_nil, or_false] at hb
      rcases hb with rfl | rfl | rfl | rfl | rfl
      · exact x0
      · exact n1
      · exact n2
      · exact n3
      · exact n4
    · exact one_get _ _
    · simp [SA.all, ox, fx, tx, ux, of, ot, ou, ft, fu, tu]
/-! ### Meeting.__init__ -/
abbrev N_Meeting_init : List Str := ["self", "table", "text", "hands", "number"]
theorem sc_Meeting_init : FnScope N_Meeting_init ["self", "table", "text", "hands"] (defScope s_Meeting_init) := ⟨rfl, rfl, rfl, by decide +kernel, rfl, by decide +kernel, by decide +kernel⟩
def spMeetingInit (K : PySem.W.Frag) : Sp := fun vs H Q _ => ∃ (x dx tb r : Addr) (row : List Int) (n : Nat) (S : Int → Prop) (H0 : Hp), vs = [.ref x, .ref tb, .ref r, .int n] ∧ H0 x = none ∧ H0 dx = none ∧ dx ≠ x ∧ H = upd (upd H0 dx (.own x)) x (.ins (C_Meeting K) dx []) ∧
  TbAt K H0 tb S ∧ H0 r = some (.lst (row.map V.int)) ∧ row.length ≤ 90000 ∧ (∀ y ∈ row, S y) ∧ 1 ≤ n ∧ n ≤ 4 ∧
  ∀ H' (F : List Addr), Same H0 H' → (∀ b ∈ F, H0 b = none) → MtAt K (hid F (newIn H0 H')) H' x tb F (Mt.new row n) → Q .non H'
theorem ok_Meeting_init (T : Txt K mg) : FnR P w K mg base CX0 5 (He.ma K (He.ga K "Meeting") "__init__") (spMeetingInit K) := by
  have G_checked_text := ok_checked_text (P := P) (w := w) (base := base) T
  have G_is_between := ok_is_between (P := P) (w := w) (base := base) T
  have G_Side := ok_Side_init (P := P) (w := w) (base := base) T
  refine fnr_of T.d_Meeting_init sc_Meeting_init (fun vs H Q E h => ?_) (fun _ _ _ _ _ _ us hl => match us, hl with | [_, _, _, _], _ => rfl) (fun cdv A outer s H vs Q E hr h => ?_)
  · obtain ⟨x, dx, tb, r, row, n, S, H0, rfl, _⟩ := h
    rfl
  · obtain ⟨x, dx, tb, r, row, n, S, H0, rfl, x0, d0, ne, rfl, hT, hr0, hz, hS, hn1, hn4, k⟩ := h
    have b0 : But x H0 (upd (upd H0 dx (.own x)) x (.ins (C_Meeting K) dx [])) := but_new d0
    have hx : (upd (upd H0 dx (.own x)) x (.ins (C_Meeting K) dx [])) x = some (.ins (C_Meeting K) dx []) := upd_same
    have rx : r ≠ x := ne_of_none hr0 x0
    have s0 : Same H0 (upd (upd H0 dx (.own x)) x (.ins (C_Meeting K) dx [])) := fun b o e => b0 b o (ne_of_none e x0) e
    generalize upd (upd H0 dx (.own x)) x (.ins (C_Meeting K) dx []) = H at b0 hx s0 ⊢
    refine ⟨_, (pss_cons (ps_expr (pe_callF G_checked_text (hr.mono (by decide)) T.f_checked_text T.kp_checked_text (pa_cons (pv 1) (pa_cons (pv 2) pa_nil))))
      (pss_cons (ps_if (pt_not (pt_val (pe_callF G_is_between (hr.mono (by decide)) T.f_is_between T.kp_is_between (pa_cons (pv 3) (pa_cons pe_int (pa_cons (pe_glob (v := .int 4) (by rfl) T.g_MOST_HANDS.choose_spec ⟨_, rfl⟩) pa_nil)))))) (pss_one ps_never) pss_nil)
      (pss_cons (ps_fld (pv 0) (pv 1) rfl)
      (pss_cons (ps_fld (pv 0) (pe_callTy call_list_of (by rfl) T.g_list (by decide +kernel) (pa_cons (pv 2) pa_nil)) rfl)
      (pss_cons (ps_fld (pv 0) (pe_lc (own := [("number", 4)]) (te := StX.tMakeR (C_Side K) (spSideInit K) E0 (tCons (tCB (fun xs H Q => ∃ p ys, xs = [.ref p] ∧ (SqL K H p ys ∨ SqT K H p ys) ∧ ∀ (l : Addr), H l = none → Q (.ref l) (upd H l (.lst ys))) (tCons (tVar 2) tNil)) tNil)) rfl sc_Meeting_init.nd (pi_range1 (by rfl) T.g_range (pa_cons (pv 3) pa_nil)) (blkOk_by (own := [("number", 4)]) (N := N_Meeting_init) (sc := defScope s_Meeting_init) (by decide +kernel)) (fun _ _ _ _ _ => (pg_name (i := 4) sc_Meeting_init.nd rfl (Or.inl rfl) (Or.inr rfl))) (fun _ _ _ _ _ => pts_nil) (fun _ _ _ _ _ => (StX.pe_makeR T.mk_Side G_Side (hr.mono (by decide)) (by rfl) T.c_Side pass0 (pa_cons (pe_callTy call_list_of (by rfl) T.g_list (by decide +kernel) (pa_cons (pv 2) pa_nil)) pa_nil)))) rfl)
      (pss_one (ps_fld (pv 0) (pe_lst pa_nil) rfl))))))), ?_⟩
    -- checked_text(table, text)
    refine ⟨_, rfl, _, rfl, tb, r, S, row, rfl, hT.mono s0, s0 _ _ hr0, by omega, hS, fun H1 s1 => ?_⟩
    have b1 : But x H0 H1 := b0.trans fun b o _ e => s1 _ _ e
    have hx1 := s1 _ _ hx
    clear hx b0 s0 s1
    refine ⟨_, rfl, n, 1, 4, rfl, ?_⟩
    have e14 : (decide ((1 : Int) ≤ (n : Int)) && decide ((n : Int) ≤ 4)) = true := by
      rw [decide_eq_true (by omega), decide_eq_true (by omega)]; rfl
    rw [e14]
    refine ⟨true, rfl, iteF ?_⟩
    -- self.table = table
    refine ⟨_, rfl, _, rfl, x, _, dx, _, rfl, hx1, T.k_Meeting, T.n_Meeting_table, (by show 0 < 1000; decide), ?_⟩
    have b2 := b1.trans (but_upd (x := x) (H := H1) (o := .ins (C_Meeting K) dx (putF "table" (.ref tb) [])))
    have hx2 : (upd H1 x (.ins (C_Meeting K) dx (putF "table" (.ref tb) []))) x = some (.ins (C_Meeting K) dx (putF "table" (.ref tb) [])) := upd_same
    generalize upd H1 x (.ins (C_Meeting K) dx (putF "table" (.ref tb) [])) = H2 at b2 hx2 ⊢
    clear hx1 b1
    -- self.row = list(text)
    refine ⟨_, rfl, r, _, rfl, .inl (SqL.of (b2 _ _ rx hr0)), fun rr rr0 => ?_⟩
    refine ⟨_, rfl, x, _, dx, _, rfl, same_new rr0 _ _ hx2, T.k_Meeting, T.n_Meeting_row, (by show 1 < 1000; decide), ?_⟩
    have rrx := ne_of_none hx2 rr0
    have n1 := b2.free rrx.symm rr0
    have b3 := b2.trans (but_new (x := x) (H := H2) (l := rr) (v := .lst (row.map V.int)) (o := .ins (C_Meeting K) dx (putF "row" (.ref rr) (putF "table" (.ref tb) []))) rr0)
    have hx3 : (upd (upd H2 rr (.lst (row.map V.int))) x (.ins (C_Meeting K) dx (putF "row" (.ref rr) (putF "table" (.ref tb) [])))) x = some (.ins (C_Meeting K) dx (putF "row" (.ref rr) (putF "table" (.ref tb) []))) := upd_same
    have hrr3 : (upd (upd H2 rr (.lst (row.map V.int))) x (.ins (C_Meeting K) dx (putF "row" (.ref rr) (putF "table" (.ref tb) [])))) rr = some (.lst (row.map V.int)) := by rw [upd_ne rrx.symm]; exact upd_same
    generalize upd (upd H2 rr (.lst (row.map V.int))) x (.ins (C_Meeting K) dx (putF "row" (.ref rr) (putF "table" (.ref tb) []))) = H3 at b3 hx3 hrr3 ⊢
    clear b2 hx2
    -- self.sides = [..]
    refine ⟨_, rfl, n, rfl, by omega, by omega, fun D hD => ?_⟩
    have Dx := ne_of_none hx3 hD
    have hD0 := b3.free Dx.symm hD
    have hr3 := b3 _ _ rx hr0
    refine lc_range0 (fun i H4 => ∃ ss : List SA, ss.length = i ∧ (∀ b o, b ≠ D → H3 b = some o → H4 b = some o) ∧ H4 D = some (.lst (ss.map fun a => V.ref a.s)) ∧ (∀ b ∈ allOf ss, H3 b = none) ∧ D ∉ allOf ss ∧ (allOf ss).Nodup ∧ Paired (SdAt K (hid (x :: D :: allOf ss) (newIn H0 H4)) H4) ss (List.replicate i (Sd.new row)))
      ⟨[], rfl, fun b o m e => by rw [upd_ne m]; exact e, upd_same, by simp [allOf], by simp [allOf], by simp [allOf], .nil⟩ (fun i H4 hi e => ?_) (fun H4 e => ?_)
    · obtain ⟨ss, hl, f4, hD4, hfr, hDn, hnd, hP⟩ := e
      have f4' : Same H3 H4 := fun b o e => f4 b o (ne_of_none e hD) e
      refine ⟨rfl, _, rfl, r, _, rfl, .inl (SqL.of (f4' _ _ hr3)), fun q q0 x' dx' x0' d0' ne' => ?_⟩
      have s5 := same_new (o := HO.lst (row.map V.int)) q0
      refine ⟨x', dx', q, row, _, rfl, x0', d0', ne', rfl, upd_same, fun H6 a ea s6 ha g => ⟨rfl, ss.map fun a => V.ref a.s, ?_⟩⟩
      have s46 := s5.trans s6
      have ha4 : ∀ b ∈ a.all, H4 b = none := fun b hb => s5.free (ha b hb)
      have hD6 := s46 _ _ hD4
      refine ⟨hD6, sl5 (by rw [List.length_map]; omega), ss ++ [a], by rw [List.length_append, hl]; rfl, fun b o m e => ?_, by rw [upd_same, List.map_append, ← ea]; rfl, ?_, ?_, ?_, ?_⟩
      · rw [upd_ne m]
        exact s46 _ _ (f4 b o m e)
      · intro b hb
        simp only [allOf, List.flatMap_append, List.mem_append] at hb
        rcases hb with hb | hb
        · exact hfr b hb
        · simp at hb
          exact f4'.free (ha4 b hb)
      · simp only [allOf, List.flatMap_append, List.mem_append]
        rintro (hb | hb)
        · exact hDn hb
        · simp at hb
          rw [ha4 D hb] at hD4
          cases hD4
      · simp only [allOf, List.flatMap_append]
        rw [List.nodup_append]
        refine ⟨hnd, by simpa using g.nd, fun b hb c hc => ?_⟩
        simp at hc
        intro z
        subst z
        obtain ⟨a1, h1, h2⟩ := mem_allOf.mp hb
        obtain ⟨σ, _, hs⟩ := paired_mem hP h1
        have := hs.there b h2
        rw [ha4 b hc] at this
        cases this
      · have hx4 := f4 _ _ Dx hx3
        rw [List.replicate_succ']
        refine paired_app (paired_imp hP fun a1 h1 σ hs => hs.mono (fun b u e => ?_) fun b hb u e => ?_) (paired_one (g.mono (one_same (hid_get ?_ ?_)) fun b hb u e => ?_))
        · obtain ⟨e2, nm⟩ := of_hid e
          obtain ⟨e0, e1⟩ := of_newIn e2
          simp only [List.mem_cons, not_or] at nm
          refine hid_get (newIn_get e0 (by rw [upd_ne nm.2.1]; exact s46 _ _ e1)) ?_
          simp only [List.mem_cons, allOf, List.flatMap_append, List.mem_append, not_or]
          refine ⟨nm.1, nm.2.1, nm.2.2, fun hb => ?_⟩
          simp at hb
          rw [ha4 b hb] at e1
          cases e1
        · rw [upd_ne (fun z => hDn (by rw [← z]; exact mem_allOf.mpr ⟨a1, h1, hb⟩))]
          exact s46 _ _ e
        · refine newIn_get (b3.free (ne_of_none hx4 q0).symm (f4'.free q0)) ?_
          rw [upd_ne (ne_of_none hD4 q0).symm]
          exact s6 _ _ upd_same
        · simp only [List.mem_cons, allOf, List.flatMap_append, List.mem_append, not_or]
          refine ⟨(ne_of_none hx4 q0).symm, (ne_of_none hD4 q0).symm, fun hb => ?_, fun hb => ?_⟩
          · obtain ⟨a1, h1, h2⟩ := mem_allOf.mp hb
            obtain ⟨σ, _, hs⟩ := paired_mem hP h1
            have := hs.there q h2
            rw [q0] at this
            cases this
          · simp at hb
            have := ha q hb
            rw [upd_same] at this
            cases this
        · rw [upd_ne (fun z => by rw [← z, ha4 b hb] at hD4; cases hD4)]
          exact e
    · obtain ⟨ss, hl, f4, hD4, hfr, hDn, hnd, hP⟩ := e
      have f4' : Same H3 H4 := fun b o e => f4 b o (ne_of_none e hD) e
      have hx4 := f4' _ _ hx3
      have hrr4 := f4' _ _ hrr3
      -- self.sides
      refine ⟨_, rfl, x, _, dx, _, rfl, hx4, T.k_Meeting, T.n_Meeting_sides, (by show 2 < 1000; decide), ?_⟩
      have c5 := but_upd (x := x) (H := H4) (o := .ins (C_Meeting K) dx (putF "sides" (.ref D) (putF "row" (.ref rr) (putF "table" (.ref tb) []))))
      have hx5 : (upd H4 x (.ins (C_Meeting K) dx (putF "sides" (.ref D) (putF "row" (.ref rr) (putF "table" (.ref tb) []))))) x = some (.ins (C_Meeting K) dx (putF "sides" (.ref D) (putF "row" (.ref rr) (putF "table" (.ref tb) [])))) := upd_same
      generalize upd H4 x (.ins (C_Meeting K) dx (putF "sides" (.ref D) (putF "row" (.ref rr) (putF "table" (.ref tb) [])))) = H5 at c5 hx5 ⊢
      -- self.done_there = []
      refine ⟨(by show 0 ≤ sizeLine; decide), fun dl dl0 => ⟨_, rfl, x, _, dx, _, rfl, same_new dl0 _ _ hx5, T.k_Meeting, T.n_Meeting_done_there, (by show 3 < 1000; decide), ?_⟩⟩
      have dlx := ne_of_none hx5 dl0
      have c6 := c5.trans (but_new (x := x) (H := H5) (l := dl) (v := .lst []) (o := .ins (C_Meeting K) dx (putF "done_there" (.ref dl) (putF "sides" (.ref D) (putF "row" (.ref rr) (putF "table" (.ref tb) []))))) dl0)
      have hx6 : (upd (upd H5 dl (.lst [])) x (.ins (C_Meeting K) dx (putF "done_there" (.ref dl) (putF "sides" (.ref D) (putF "row" (.ref rr) (putF "table" (.ref tb) [])))))) x = some (.ins (C_Meeting K) dx (putF "done_there" (.ref dl) (putF "sides" (.ref D) (putF "row" (.ref rr) (putF "table" (.ref tb) []))))) := upd_same
      have hdl6 : (upd (upd H5 dl (.lst [])) x (.ins (C_Meeting K) dx (putF "done_there" (.ref dl) (putF "sides" (.ref D) (putF "row" (.ref rr) (putF "table" (.ref tb) [])))))) dl = some (.lst []) := by rw [upd_ne dlx.symm]; exact upd_same
      have dl4 : H4 dl = none := c5.free dlx.symm dl0
      have dl3 : H3 dl = none := f4'.free dl4
      generalize upd (upd H5 dl (.lst [])) x (.ins (C_Meeting K) dx (putF "done_there" (.ref dl) (putF "sides" (.ref D) (putF "row" (.ref rr) (putF "table" (.ref tb) []))))) = H6 at c6 hx6 hdl6 ⊢
      have hxs : x ∉ allOf ss := fun z => by rw [hfr x z] at hx3; cases hx3
      have hrs : rr ∉ allOf ss := fun z => by rw [hfr rr z] at hrr3; cases hrr3
      have hdls : dl ∉ allOf ss := fun z => by
        obtain ⟨a1, h1, h2⟩ := mem_allOf.mp z
        obtain ⟨σ, _, hs⟩ := paired_mem hP h1
        have := hs.there dl h2
        rw [dl4] at this
        cases this
      refine k _ ([x, dl] ++ allOf ss) (fun b u e => ?_) (fun b hb => ?_) ⟨dx, rr, D, dl, ss, hx6, hid_get (newIn_get n1 (c6 _ _ rrx.symm hrr4)) ?_, hid_get (newIn_get hD0 (c6 _ _ Dx.symm hD4)) ?_, ⟨[], hdl6, .nil⟩, paired_imp hP fun a1 h1 σ hs => hs.mono (fun b u e => ?_) fun b hb u e => ?_, rfl, ?_⟩
      · have bx := ne_of_none e x0
        exact c6 b u bx (f4' _ _ (b3 b u bx e))
      · simp only [List.cons_append, List.nil_append, List.mem_cons] at hb
        rcases hb with rfl | rfl | hb
        · exact x0
        · exact b3.free dlx.symm dl3
        · exact b3.free (fun z => hxs (by rw [← z]; exact hb)) (hfr b hb)
      · simp only [List.cons_append, List.nil_append, List.mem_cons, not_or]
        exact ⟨rrx.symm, ne_of_none hrr4 dl4, hrs⟩
      · simp only [List.cons_append, List.nil_append, List.mem_cons, not_or]
        exact ⟨Dx.symm, ne_of_none hD4 dl4, hDn⟩
      · obtain ⟨e2, nm⟩ := of_hid e
        obtain ⟨e0, e1⟩ := of_newIn e2
        simp only [List.mem_cons, not_or] at nm
        refine hid_get (newIn_get e0 (c6 _ _ nm.1 e1)) ?_
        simp only [List.cons_append, List.nil_append, List.mem_cons, not_or]
        exact ⟨nm.1, ne_of_none e1 dl4, nm.2.2⟩
      · exact c6 _ _ (fun z => hxs (by rw [← z]; exact mem_allOf.mpr ⟨a1, h1, hb⟩)) e
      · simp [dlx, hxs, hdls, hnd]
end
end K94
set_option maxRecDepth 100000
set_option maxHeartbeats 4000000
/-! K94K: what a meeting does. -/
namespace K94
open PySem PySem.Spec PyProof.Rows L2
section
variable {K : PySem.W.Frag} {I I' H H' : Hp} {m tb : Addr} {F : List Addr} {M : Mt}
/-- the object alone -/
theorem MtAt.setRow (h : MtAt K I H m tb F M) {dx r sl dl l : Addr} {row : List Int} (hm : H m = some (.ins (C_Meeting K) dx (mtF tb r sl dl))) (hl : I l = some (.lst (row.map V.int))) : MtAt K I (upd H m (.ins (C_Meeting K) dx (mtF tb l sl dl))) m tb F { M with row := row } := by
  obtain ⟨dx', r', sl', dl', ss, h1, h2, h3, h4, h5, rfl, h7⟩ := h
  rw [hm] at h1
  cases h1
  have nd := List.nodup_append.mp h7
  have n1 : dl ≠ m := fun z => by
    have := nd.1
    simp [z] at this
  exact ⟨dx, l, sl, dl, ss, upd_same, hl, h3, h4.upd_ne n1, paired_imp h5 fun a ha σ hs => hs.mono (fun _ _ h => h) fun b hb o e => by
    rw [upd_ne (fun z => nd.2.2 m (by simp) b (mem_allOf.mpr ⟨a, ha, hb⟩) z.symm)]
    exact e, rfl, h7⟩
theorem MtAt.setStory (h : MtAt K I H m tb F M) {dx r sl dl : Addr} {its : List V} {st : List (Nat × Gs)} (hm : H m = some (.ins (C_Meeting K) dx (mtF tb r sl dl))) (hp : Paired (StoV K I) its st) : MtAt K I (upd H dl (.lst its)) m tb F { M with story := st } := by
  obtain ⟨dx', r', sl', dl', ss, h1, h2, h3, h4, h5, rfl, h7⟩ := h
  rw [hm] at h1
  cases h1
  have nd := List.nodup_append.mp h7
  have n1 : m ≠ dl := fun z => by
    have := nd.1
    simp [z] at this
  exact ⟨dx, r, sl, dl, ss, by rw [upd_ne n1]; exact hm, h2, h3, .set hp, paired_imp h5 fun a ha σ hs => hs.mono (fun _ _ h => h) fun b hb o e => by
    rw [upd_ne (fun z => nd.2.2 dl (by simp) b (mem_allOf.mpr ⟨a, ha, hb⟩) z.symm)]
    exact e, rfl, h7⟩
theorem MtAt.ob (h : MtAt K I H m tb F M) : ∃ (dx r sl dl : Addr), H m = some (.ins (C_Meeting K) dx (mtF tb r sl dl)) ∧ I r = some (.lst (M.row.map V.int)) ∧ LsAt H (StoV K I) dl M.story ∧ m ∈ F ∧ dl ∈ F := by
  obtain ⟨dx', r', sl', dl', ss, h1, h2, h3, h4, h5, rfl, h7⟩ := h
  exact ⟨dx', r', sl', dl', h1, h2, h4, by simp, by simp⟩
end
section
variable {P : Program} {w : World} {K : PySem.W.Frag} {mg : Str → Option Value} {base : Heap}
abbrev N_Meeting_side : List Str := ["self", "hand"]
theorem sc_Meeting_side : FnScope N_Meeting_side ["self", "hand"] (defScope s_Meeting_side) := ⟨rfl, rfl, rfl, by decide +kernel, rfl, by decide +kernel, by decide +kernel⟩
def spSide (K : PySem.W.Frag) : Sp := fun vs H Q _ => ∃ (m dx tb r sl dl : Addr) (sits : List V) (i : Nat) (v : V), vs = [.ref m, .int i] ∧ H m = some (.ins (C_Meeting K) dx (mtF tb r sl dl)) ∧ H sl = some (.lst sits) ∧ sits[i]? = some v ∧ Q v H
theorem ok_Meeting_side (T : Txt K mg) : FnR P w K mg base CX0 3 (He.ma K (He.ga K "Meeting") "side") (spSide K) := by
  have G_is_between := ok_is_between (P := P) (w := w) (base := base) T
  refine fnr_of T.d_Meeting_side sc_Meeting_side (fun vs H Q E h => ?_) (fun _ _ _ _ _ _ us hl => match us, hl with | [_, _], _ => rfl) (fun cdv A outer s H vs Q E hr h => ?_)
  · obtain ⟨m, dx, tb, r, sl, dl, sits, i, v, rfl, _⟩ := h
    rfl
  · obtain ⟨m, dx, tb, r, sl, dl, sits, i, v, rfl, hm, hsl, hi, k⟩ := h
    have hil : i < sits.length := (List.getElem?_eq_some_iff.mp hi).1
    refine ⟨_, (pss_cons (ps_if (pt_not (pt_val (pe_callF G_is_between (hr.mono (by decide)) T.f_is_between T.kp_is_between (pa_cons (pv 1) (pa_cons pe_int (pa_cons (pe_op op_sub (pe_callB call_len_seq (by rfl) T.g_len (by decide +kernel) (pa_cons (pe_fld (pv 0) rfl) pa_nil)) pe_int) pa_nil)))))) (pss_one ps_never) pss_nil)
      (pss_one (ps_ret (pe_ix ix_list (pe_fld (pv 0) rfl) (pv 1) (fun _ _ => rfl))))), ?_⟩
    refine ⟨_, rfl, _, rfl, m, _, dx, _, _, rfl, hm, T.k_Meeting, T.n_Meeting_sides, rfl, sl, _, rfl, .inl (SqL.of hsl), _, _, rfl, rfl, _, _, _, rfl, ?_⟩
    have e14 : (decide ((0 : Int) ≤ (i : Int)) && decide ((i : Int) ≤ (sits.length : Int) - 1)) = true := by
      rw [decide_eq_true (by omega), decide_eq_true (by omega)]; rfl
    rw [e14]
    refine ⟨true, rfl, iteF ?_⟩
    exact ⟨_, rfl, m, _, dx, _, _, rfl, hm, T.k_Meeting, T.n_Meeting_sides, rfl, _, rfl, sl, _, _, _, rfl, rfl, SqL.of hsl, atI_nat hi, k⟩
/-- a meeting is there: I never changes, F may -/
structure MtIn (K : PySem.W.Frag) (I H : Hp) (m tb : Addr) (F : List Addr) (M : Mt) : Prop where
  sI : Same I H
  hF : ∀ b ∈ F, I b = none
  at' : MtAt K I H m tb F M
abbrev N_Meeting_do : List Str := ["self", "hand", "change", "side"]
theorem sc_Meeting_do : FnScope N_Meeting_do ["self", "hand", "change"] (defScope s_Meeting_do) := ⟨rfl, rfl, rfl, by decide +kernel, rfl, by decide +kernel, by decide +kernel⟩
def spDo (K : PySem.W.Frag) : Sp := fun vs H Q _ => ∃ (m tb c : Addr) (F : List Addr) (M : Mt) (I : Hp) (S : Int → Prop) (i : Nat) (σ : Sd) (gs : Gs), vs = [.ref m, .int i, .ref c] ∧ MtIn K I H m tb F M ∧ TbAt K I tb S ∧ M.sides[i]? = some σ ∧ ChAt K I c gs ∧ need gs ≤ σ.row.length ∧
  gs.length ≤ 30000 ∧ σ.row.length ≤ 30000 ∧ pt gs ≤ 30000 ∧ σ.own.length ≤ 90000 ∧ σ.frm.length ≤ 90000 ∧ (∀ n ∈ doneG gs σ.row, S n) ∧
  ∀ H' F', Stp H F H' F' → MtAt K (nextI I H H' F') H' m tb F' (M.did i gs) → Q .non H'
theorem ok_Meeting_do (T : Txt K mg) : FnR P w K mg base CX0 6 (He.ma K (He.ga K "Meeting") "do") (spDo K) := by
  have G_Meeting_side := ok_Meeting_side (P := P) (w := w) (base := base) T
  have G_changed := ok_changed (P := P) (w := w) (base := base) T
  refine fnr_of T.d_Meeting_do sc_Meeting_do (fun vs H Q E h => ?_) (fun _ _ _ _ _ _ us hl => match us, hl with | [_, _, _], _ => rfl) (fun cdv A outer s H vs Q E hr h => ?_)
  · obtain ⟨m, tb, c, F, M, I, S, i, σ, gs, rfl, _⟩ := h
    rfl
  · obtain ⟨m, tb, c, F, M, I, S, i, σ, gs, rfl, ⟨sI, hF, hM⟩, hT, hi, hC, hn, z1, z2, z3, z4, z5, hS, k⟩ := h
    obtain ⟨a, aF, g, aI, ⟨dx, r, sl, dl, sits, hm, hsl, hsi, hsl2⟩, ma, back⟩ := hM.side sI hF hi
    refine ⟨_, (pss_cons (ps_set (i := 3) sc_Meeting_do.nd rfl (Or.inl rfl) (pe_methR (pv 0) T.k_Meeting T.m_Meeting_side G_Meeting_side (hr.mono (by decide)) pass0 (pa_cons (pv 1) pa_nil)))
      (pss_cons (ps_fld (pv 3) (pe_callF G_changed (hr.mono (by decide)) T.f_changed T.kp_changed (pa_cons (pe_fld (pv 0) rfl) (pa_cons (pe_fld (pv 3) rfl) (pa_cons (pv 2) pa_nil)))) rfl)
      (pss_cons (ps_expr (pe_bm PySem.F.plainAttrs_list PySem.F.slot_list_append PySem.F.type_list_append mt_append (pe_fld (pv 3) rfl) (pa_cons (pv 2) pa_nil)))
      (pss_one (ps_expr (pe_bm PySem.F.plainAttrs_list PySem.F.slot_list_append PySem.F.type_list_append mt_append (pe_fld (pv 3) rfl) (pa_cons (pe_tup (pa_cons (pv 2) (pa_cons (pe_fld (pv 3) rfl) pa_nil))) pa_nil))))))), ?_⟩
    refine ⟨_, rfl, m, dx, _, rfl, hm, rfl, _, rfl, m, dx, tb, r, sl, dl, sits, i, _, rfl, hm, sI _ _ hsl, hsi, ?_⟩
    obtain ⟨ax, ar, ha1, ha2⟩ := g.ob
    -- side.row = changed(self.table, side.row, change)
    refine ⟨_, rfl, m, _, dx, _, _, rfl, hm, T.k_Meeting, T.n_Meeting_table, rfl, _, rfl, a.s, _, ax, _, _, rfl, ha1, T.k_Side, T.n_Side_row, rfl, _, rfl, ?_⟩
    refine ⟨tb, ar, c, S, gs, σ.row, rfl, hT.mono sI, hC.mono sI, sI _ _ ha2, z1, z2, z3, hn, hS, fun H1 l s1 l0 hl => ?_⟩
    have S0 : Stp H a.all H a.all := .refl g.there
    have i0 : Same I (nextI I H H a.all) := S0.mono sI aI
    obtain ⟨S1, i1, n1⟩ := S0.pure (I := I) s1
    have g1 := g.mono (i0.trans i1) fun b _ o e => s1 _ _ e
    have hl1 := n1 _ _ (newIn_get l0 hl)
    have h11 := s1 _ _ ha1
    refine ⟨_, rfl, a.s, _, ax, _, rfl, h11, T.k_Side, T.n_Side_row, (by show 7 < 1000; decide), ?_⟩
    have eH : upd H1 a.s (.ins (C_Side K) ax (putF ("row" : Str) (.ref l) (sdF ar a.o a.f a.t σ.came σ.sent a.u))) = upd H1 a.s (.ins (C_Side K) ax (sdF l a.o a.f a.t σ.came σ.sent a.u)) := rfl
    have g2 := g1.setS (dx := ax) (came := σ.came) (sent := σ.sent) hl1
    obtain ⟨S2, i2⟩ := S1.set (I := I) (a := a.s) (o := .ins (C_Side K) ax (sdF l a.o a.f a.t σ.came σ.sent a.u)) (by simp [SA.all])
    have g2 := g2.mono i2 fun _ _ _ e => e
    have hC2 : ChAt K (nextI I H (upd H1 a.s (.ins (C_Side K) ax (sdF l a.o a.f a.t σ.came σ.sent a.u))) a.all) c gs := hC.mono ((i0.trans i1).trans i2)
    rw [← eH] at S2 g2 hC2
    generalize upd H1 a.s (.ins (C_Side K) ax (putF ("row" : Str) (.ref l) (sdF ar a.o a.f a.t σ.came σ.sent a.u))) = H2 at S2 g2 hC2 ⊢
    -- side.own.append(change)
    obtain ⟨bx, br, hb1, hb2⟩ := g2.ob
    obtain ⟨oits, ho, hop⟩ := g2.own
    have hol : oits.length = σ.own.length := paired_len hop
    refine ⟨_, rfl, a.s, _, bx, _, _, rfl, hb1, T.k_Side, T.n_Side_own, rfl, .inl ⟨rfl, _, SqL.of ho⟩, _, rfl, a.o, oits, _, rfl, rfl, ho, sl5 (by omega), ?_⟩
    obtain ⟨S3, i3⟩ := S2.set (I := I) (a := a.o) (o := .lst (oits ++ [.ref c])) (by simp [SA.all])
    have g3 := (g2.setO (its := oits ++ [.ref c]) (xs := σ.own ++ [gs]) (paired_app hop (paired_one ⟨c, rfl, hC2⟩))).mono i3 fun _ _ _ e => e
    have hC3 := hC2.mono i3
    generalize upd H2 a.o (.lst (oits ++ [.ref c])) = H3 at S3 g3 hC3 ⊢
    clear g2 hb1 hb2 ho hop S2 hC2 i3
    -- side.from_it.append((change, side.came))
    obtain ⟨bx, br, hb1, hb2⟩ := g3.ob
    obtain ⟨fits, hf, hfp⟩ := g3.frm
    have hfl : fits.length = σ.frm.length := paired_len hfp
    refine ⟨_, rfl, a.s, _, bx, _, _, rfl, hb1, T.k_Side, T.n_Side_from_it, rfl, .inl ⟨rfl, _, SqL.of hf⟩, _, rfl, _, rfl, a.s, _, bx, _, _, rfl, hb1, T.k_Side, T.n_Side_came, rfl, (by show 2 ≤ sizeLine; decide), fun t t0 => ?_⟩
    obtain ⟨S4, i4, n4⟩ := S3.pure (I := I) (same_new (o := .tup [.ref c, .int σ.came]) t0)
    have hf4 := same_new (o := .tup [.ref c, .int σ.came]) t0 _ _ hf
    refine ⟨a.f, fits, _, rfl, rfl, hf4, sl5 (by omega), ?_⟩
    have ht4 := nextI_new (I := I) (o := .tup [.ref c, .int σ.came]) S3 t0
    have g4 := g3.mono (H' := upd H3 t (.tup [.ref c, .int σ.came])) i4 fun b _ o e => same_new t0 _ _ e
    obtain ⟨S5, i5⟩ := S4.set (I := I) (a := a.f) (o := .lst (fits ++ [.ref t])) (by simp [SA.all])
    have hfp4 : Paired (FrmV K (nextI I H (upd H3 t (.tup [.ref c, .int σ.came])) a.all)) (fits ++ [.ref t]) (σ.frm ++ [(gs, σ.came)]) := paired_app (Paired.mapP hfp fun _ _ => FrmV.mono i4) (paired_one ⟨t, c, rfl, ht4, hC3.mono i4⟩)
    have g5 := (g4.setF hfp4).mono i5 fun _ _ _ e => e
    obtain ⟨F', SF, gM, _⟩ := back _ a (σ.did gs) rfl S5 g5
    refine k _ F' SF ?_
    unfold Mt.did
    rw [modify_get hi]
    exact gM
abbrev N_Meeting_down : List Str := ["self", "hand", "side"]
theorem sc_Meeting_down : FnScope N_Meeting_down ["self", "hand"] (defScope s_Meeting_down) := ⟨rfl, rfl, rfl, by decide +kernel, rfl, by decide +kernel, by decide +kernel⟩
def spDown (K : PySem.W.Frag) : Sp := fun vs H Q _ => ∃ (m tb : Addr) (F : List Addr) (M : Mt) (I : Hp) (G : Int → Prop) (i : Nat) (σ : Sd), vs = [.ref m, .int i] ∧ MtIn K I H m tb F M ∧ M.sides[i]? = some σ ∧ σ.to ≠ [] ∧ (∀ T, σ.to = none :: T → σ.own ≠ []) ∧
  (∀ c T, σ.to = some c :: T → GC G c ∧ GC G (crossO σ.own c).2 ∧ need (crossO σ.own c).2 ≤ σ.row.length) ∧ GCs G σ.own ∧ σ.own.length ≤ 90000 ∧ σ.row.length ≤ 30000 ∧
  ∀ H' F', Stp H F H' F' → MtAt K (nextI I H H' F') H' m tb F' (M.down i) → Q .non H'
theorem ok_Meeting_down (T : Txt K mg) : FnR P w K mg base CX0 8 (He.ma K (He.ga K "Meeting") "down") (spDown K) := by
  have G_Meeting_side := ok_Meeting_side (P := P) (w := w) (base := base) T
  have G_Side_take_in := ok_Side_take_in (P := P) (w := w) (base := base) T
  refine fnr_of T.d_Meeting_down sc_Meeting_down (fun vs H Q E h => ?_) (fun _ _ _ _ _ _ us hl => match us, hl with | [_, _], _ => rfl) (fun cdv A outer s H vs Q E hr h => ?_)
  · obtain ⟨m, tb, F, M, I, G, i, σ, rfl, _⟩ := h
    rfl
  · obtain ⟨m, tb, F, M, I, G, i, σ, rfl, ⟨sI, hF, hM⟩, hi, hne, hn1, hs1, gO, z1, z2, k⟩ := h
    obtain ⟨a, aF, g, aI, ⟨dx, r, sl, dl, sits, hm, hsl, hsi, hsl2⟩, ma, back⟩ := hM.side sI hF hi
    refine ⟨_, (pss_cons (ps_set (i := 2) sc_Meeting_down.nd rfl (Or.inl rfl) (pe_methR (pv 0) T.k_Meeting T.m_Meeting_side G_Meeting_side (hr.mono (by decide)) pass0 (pa_cons (pv 1) pa_nil)))
      (pss_cons (ps_if (pt_cmpR (op_eqNil hr.units0) (pe_fld (pv 2) rfl) (pe_lst pa_nil) (nomark _)) (pss_one ps_never) pss_nil)
      (pss_one (ps_expr (pe_methR0 (pv 2) T.k_Side T.m_Side_take_in G_Side_take_in (hr.mono (by decide))))))), ?_⟩
    refine ⟨_, rfl, m, dx, _, rfl, hm, rfl, _, rfl, m, dx, tb, r, sl, dl, sits, i, _, rfl, hm, sI _ _ hsl, hsi, ?_⟩
    obtain ⟨ax, ar, ha1, ha2⟩ := g.ob
    obtain ⟨tits, ht, htp⟩ := g.to
    have htl := paired_len htp
    refine ⟨_, rfl, a.s, _, ax, _, _, rfl, ha1, T.k_Side, T.n_Side_to_it, rfl, (by show 0 ≤ sizeLine; decide), fun e e0 => ?_⟩
    have s1 := same_new (o := HO.lst []) e0
    refine ⟨a.t, e, tits, rfl, rfl, SqL.of (s1 _ _ ht), SqL.of upd_same, _, rfl, ?_⟩
    have hemp : tits.isEmpty = false := by
      cases tits with
      | nil => exact absurd (List.length_eq_zero_iff.mp htl.symm) hne
      | cons _ _ => rfl
    rw [hemp]
    refine iteF ?_
    have S0 : Stp H a.all H a.all := .refl g.there
    have i0 : Same I (nextI I H H a.all) := S0.mono sI aI
    obtain ⟨S1, i1, _⟩ := S0.pure (I := I) s1
    have g1 := g.mono (i0.trans i1) fun b _ o e => s1 _ _ e
    obtain ⟨oc, T0, eT⟩ : ∃ oc T0, σ.to = oc :: T0 := by
      cases e : σ.to with
      | nil => exact absurd e hne
      | cons x y => exact ⟨x, y, rfl⟩
    have sI1 := S1.same sI aI
    refine ⟨_, rfl, a.s, ax, _, rfl, s1 _ _ ha1, rfl, a, σ, nextI I H (upd H e (.lst [])) a.all, G, oc, T0, rfl, sI1, S1.gone, g1, eT, fun e => hn1 T0 (by rw [eT, e]), fun c e => hs1 c T0 (by rw [eT, e]), gO, z1, z2, fun H' a' ea S' g' => ?_⟩
    have z := S1.next (I := I) S'
    obtain ⟨F', SF, gM, _⟩ := back _ a' σ.takeIn ea (S1.trans S') (g'.mono z fun _ _ _ e => e)
    refine k _ F' SF ?_
    unfold Mt.down
    rw [modify_get hi]
    exact gM
end
end K94
set_option maxRecDepth 100000
set_option maxHeartbeats 4000000
/-! K94L: a letter comes in; a meeting asked. -/
namespace K94
open PySem PySem.Spec PyProof.Rows L2
/-- the first j of a list have changed -/
def upto {α : Type} (j : Nat) (L : List α) (f : Nat → α → α) : List α := L.mapIdx fun x t => if x < j then f x t else t
theorem upto_zero {α : Type} (L : List α) (f : Nat → α → α) : upto 0 L f = L := by
  unfold upto
  refine List.ext_getElem? fun j => ?_
  rw [List.getElem?_mapIdx]
  cases L[j]? <;> simp
theorem upto_get {α : Type} {j : Nat} {L : List α} {f : Nat → α → α} {t : α} (h : L[j]? = some t) : (upto j L f)[j]? = some t := by
  unfold upto
  rw [List.getElem?_mapIdx, h]
  simp
theorem upto_set {α : Type} {j : Nat} {L : List α} {f : Nat → α → α} {t : α} (h : L[j]? = some t) : (upto j L f).set j (f j t) = upto (j + 1) L f := by
  unfold upto
  refine List.ext_getElem? fun x => ?_
  have hl : j < L.length := (List.getElem?_eq_some_iff.mp h).1
  by_cases e : j = x
  · subst e
    rw [List.getElem?_set_self (by rw [List.length_mapIdx]; exact hl), List.getElem?_mapIdx, h]
    simp
  · rw [List.getElem?_set_ne e, List.getElem?_mapIdx, List.getElem?_mapIdx]
    cases q : L[x]? with
    | none => rfl
    | some u =>
      simp only [Option.map_some]
      by_cases h1 : x < j
      · rw [if_pos h1, if_pos (by omega)]
      · rw [if_neg h1, if_neg (by omega)]
theorem upto_all {α : Type} (L : List α) (f : Nat → α → α) : upto L.length L f = L.mapIdx f := by
  unfold upto
  refine List.ext_getElem? fun x => ?_
  rw [List.getElem?_mapIdx, List.getElem?_mapIdx]
  cases q : L[x]? with
  | none => rfl
  | some u =>
    simp only [Option.map_some]
    rw [if_pos (List.getElem?_eq_some_iff.mp q).1]
theorem upto_len {α : Type} (j : Nat) (L : List α) (f : Nat → α → α) : (upto j L f).length = L.length := by
  unfold upto
  rw [List.length_mapIdx]
section
variable {P : Program} {w : World} {K : PySem.W.Frag} {mg : Str → Option Value} {base : Heap}
abbrev N_Meeting_up : List Str := ["self", "hand", "side", "change", "number", "other"]
theorem sc_Meeting_up : FnScope N_Meeting_up ["self", "hand"] (defScope s_Meeting_up) := ⟨rfl, rfl, rfl, by decide +kernel, rfl, by decide +kernel, by decide +kernel⟩
def spUp (K : PySem.W.Frag) : Sp := fun vs H Q _ => ∃ (m tb : Addr) (F : List Addr) (M : Mt) (I : Hp) (G : Int → Prop) (i : Nat) (σ : Sd) (c : Gs) (k : Nat) (F0 : List (Gs × Nat)), vs = [.ref m, .int i] ∧ MtIn K I H m tb F M ∧ M.sides[i]? = some σ ∧ σ.frm = (c, k) :: F0 ∧ GC G c ∧ GCs G (σ.uns.map (·.2)) ∧
  GC G σ.takenIn.1 ∧ need σ.takenIn.1 ≤ M.row.length ∧ M.row.length ≤ 30000 ∧ M.story.length ≤ 90000 ∧ (∀ t ∈ M.sides, t.uns.length ≤ 80000 ∧ t.to.length ≤ 80000) ∧ M.sides.length ≤ 4 ∧
  ∀ H' F', Stp H F H' F' → MtAt K (nextI I H H' F') H' m tb F' (M.up i) → Q .non H'
theorem ok_Meeting_up (T : Txt K mg) : FnR P w K mg base CX0 8 (He.ma K (He.ga K "Meeting") "up") (spUp K) := by
  have G_Meeting_side := ok_Meeting_side (P := P) (w := w) (base := base) T
  have G_Side_taken_in := ok_Side_taken_in (P := P) (w := w) (base := base) T
  have G_Side_send := ok_Side_send (P := P) (w := w) (base := base) T
  have G_Change_done := ok_Change_done (P := P) (w := w) (base := base) T
  refine fnr_of T.d_Meeting_up sc_Meeting_up (fun vs H Q E h => ?_) (fun _ _ _ _ _ _ us hl => match us, hl with | [_, _], _ => rfl) (fun cdv A outer s H vs Q E hr h => ?_)
  · obtain ⟨m, tb, F, M, I, G, i, σ, c, k, F0, rfl, _⟩ := h
    rfl
  · obtain ⟨m, tb, F, M, I, G, i, σ, c, k, F0, rfl, ⟨sI, hF, hM⟩, hi, ef, gc, gU, gt, hneed, z1, z2, z3, z4, kont⟩ := h
    have hil : i < M.sides.length := (List.getElem?_eq_some_iff.mp hi).1
    have eup : M.up i = ⟨doneG σ.takenIn.1 M.row, (M.sides.set i σ.takenIn.2).mapIdx fun j t => t.send (if j = i then none else some σ.takenIn.1), M.story ++ [(i, σ.takenIn.1)]⟩ := by
      unfold Mt.up
      rw [hi]
    rw [eup] at kont
    have hul : σ.takenIn.2.uns.length ≤ σ.uns.length ∧ σ.takenIn.2.to = σ.to := by
      unfold Sd.takenIn
      rw [ef]
      dsimp only
      rw [crossV_len]
      exact ⟨List.length_filter_le _ _, rfl⟩
    obtain ⟨a, aF, g, aI, ⟨dx, r, sl, dl, sits, hm, hsl, hsi, hsl2⟩, ma, back⟩ := hM.side sI hF hi
    refine ⟨_, (pss_cons (ps_set (i := 2) sc_Meeting_up.nd rfl (Or.inl rfl) (pe_methR (pv 0) T.k_Meeting T.m_Meeting_side G_Meeting_side (hr.mono (by decide)) pass0 (pa_cons (pv 1) pa_nil)))
      (pss_cons (ps_if (pt_cmpR (op_eqNil hr.units0) (pe_fld (pv 2) rfl) (pe_lst pa_nil) (nomark _)) (pss_one ps_never) pss_nil)
      (pss_cons (ps_set (i := 3) sc_Meeting_up.nd rfl (Or.inl rfl) (pe_methR0 (pv 2) T.k_Side T.m_Side_taken_in G_Side_taken_in (hr.mono (by decide))))
      (pss_cons (ps_fld (pv 0) (pe_methR (pv 3) T.k_Change T.m_Change_done G_Change_done (hr.mono (by decide)) pass0 (pa_cons (pe_fld (pv 0) rfl) pa_nil)) rfl)
      (pss_cons (ps_expr (pe_bm PySem.F.plainAttrs_list PySem.F.slot_list_append PySem.F.type_list_append mt_append (pe_fld (pv 0) rfl) (pa_cons (pe_tup (pa_cons (pv 1) (pa_cons (pv 3) pa_nil))) pa_nil)))
      (pss_one (ps_for PassesOwn.never rfl (pi_enum (by rfl) T.g_enumerate (pa_cons (pe_fld (pv 0) rfl) pa_nil)) (pg_tup rfl (pgs_cons (pg_name (i := 4) sc_Meeting_up.nd rfl (Or.inl rfl)) (pgs_cons (pg_name (i := 5) sc_Meeting_up.nd rfl (Or.inl rfl)) pgs_nil))) (pss_one (ps_expr (pe_methR (pv 5) T.k_Side T.m_Side_send G_Side_send (hr.mono (by decide)) pass0 (pa_cons (pe_ifExp (pt_cmpR op_eq (pv 4) (pv 1) (nomark _)) pe_non (pv 3)) pa_nil))))))))))), ?_⟩
    refine ⟨_, rfl, m, dx, _, rfl, hm, rfl, _, rfl, m, dx, tb, r, sl, dl, sits, i, _, rfl, hm, sI _ _ hsl, hsi, ?_⟩
    obtain ⟨ax, ar, ha1, ha2⟩ := g.ob
    obtain ⟨fits, ht, htp⟩ := g.frm
    have htl := paired_len htp
    refine ⟨_, rfl, a.s, _, ax, _, _, rfl, ha1, T.k_Side, T.n_Side_from_it, rfl, (by show 0 ≤ sizeLine; decide), fun e e0 => ?_⟩
    have s1 := same_new (o := HO.lst []) e0
    refine ⟨a.f, e, fits, rfl, rfl, SqL.of (s1 _ _ ht), SqL.of upd_same, _, rfl, ?_⟩
    have hemp : fits.isEmpty = false := by
      cases fits with
      | nil => rw [ef] at htl; cases htl
      | cons _ _ => rfl
    rw [hemp]
    refine iteF ?_
    -- change = side.taken_in()
    have S0 : Stp H a.all H a.all := .refl g.there
    have i0 : Same I (nextI I H H a.all) := S0.mono sI aI
    obtain ⟨S1, i1, _⟩ := S0.pure (I := I) s1
    have g1 := g.mono (i0.trans i1) fun b _ o e => s1 _ _ e
    have sI1 := S1.same sI aI
    refine ⟨_, rfl, a.s, ax, _, rfl, s1 _ _ ha1, rfl, a, σ, nextI I H (upd H e (.lst [])) a.all, G, c, k, F0, rfl, sI1, S1.gone, g1, ef, gc, gU, by have := (z3 σ (List.mem_of_getElem? hi)).1; omega, fun H2 a' x ea S' g' hx => ?_⟩
    have z := S1.next (I := I) S'
    obtain ⟨F2, S2, gM2, zF⟩ := back _ a' σ.takenIn.2 ea (S1.trans S') (g'.mono z fun _ _ _ e => e)
    have hx2 : ChAt K (nextI I H H2 F2) x σ.takenIn.1 := hx.mono (z.trans zF)
    clear g' S' z g1 S1 i1 s1 e0 ha1 ht htp hm hsl back g S0 i0 zF hx sI1 hsi
    generalize hc' : σ.takenIn.1 = c' at gt hneed kont hx2 eup
    generalize hσ' : σ.takenIn.2 = σ' at kont gM2 hul eup
    -- self.row = change.done(self.row)
    obtain ⟨dx, r, sl, dl, hm2, hr2, hst2, mF2, dlF2⟩ := gM2.ob
    have hJ2 : Same (nextI I H H2 F2) H2 := S2.same sI hF
    obtain ⟨cx, cl, cit, hc1, hc2, _⟩ := id (hx2.mono hJ2)
    refine ⟨_, rfl, x, cx, _, rfl, hc1, rfl, _, rfl, m, _, dx, _, _, rfl, hm2, T.k_Meeting, T.n_Meeting_row, rfl, x, r, c', M.row, rfl, hx2.mono hJ2, hJ2 _ _ hr2, by have := gt.len; omega, by omega, by have := gt.few; omega, hneed, fun H3 l s3 l0 hl => ?_⟩
    obtain ⟨S3, i3, n3⟩ := S2.pure (I := I) s3
    have gM3 := gM2.mono i3 fun b _ o e => s3 _ _ e
    have hl3 := n3 _ _ (newIn_get l0 hl)
    have hm3 := s3 _ _ hm2
    refine ⟨_, rfl, m, _, dx, _, rfl, hm3, T.k_Meeting, T.n_Meeting_row, (by show 4 < 1000; decide), ?_⟩
    have eH : upd H3 m (.ins (C_Meeting K) dx (putF ("row" : Str) (.ref l) (mtF tb r sl dl))) = upd H3 m (.ins (C_Meeting K) dx (mtF tb l sl dl)) := rfl
    obtain ⟨S4, i4⟩ := S3.set (I := I) (a := m) (o := .ins (C_Meeting K) dx (mtF tb l sl dl)) mF2
    have gM4 := (gM3.setRow (row := doneG c' M.row) hm3 hl3).mono i4 fun _ _ _ e => e
    have hx4 := (hx2.mono i3).mono i4
    rw [← eH] at S4 gM4 hx4
    generalize upd H3 m (.ins (C_Meeting K) dx (putF ("row" : Str) (.ref l) (mtF tb r sl dl))) = H4 at S4 gM4 hx4 ⊢
    clear gM3 gM2 S3 i3 n3 hm3 hl3 hx2 hc1 hc2 hm2 hr2 hst2 eH S2 hJ2 mF2 dlF2
    -- self.done_there.append((hand, change))
    obtain ⟨dx, r, sl, dl, hm4, hr4, ⟨dits, hd4, hdp⟩, mF, dlF⟩ := gM4.ob
    have hdl : dits.length = M.story.length := paired_len hdp
    refine ⟨_, rfl, m, _, dx, _, _, rfl, hm4, T.k_Meeting, T.n_Meeting_done_there, rfl, .inl ⟨rfl, _, SqL.of hd4⟩, _, rfl, _, rfl, (by show 2 ≤ sizeLine; decide), fun t t0 => ?_⟩
    have s5 := same_new (o := .tup [.int (i : Nat), .ref x]) t0
    obtain ⟨S5, i5, n5⟩ := S4.pure (I := I) s5
    refine ⟨dl, dits, _, rfl, rfl, s5 _ _ hd4, sl5 (by omega), ?_⟩
    have gM5 := gM4.mono i5 fun b _ o e => s5 _ _ e
    obtain ⟨S6, i6⟩ := S5.set (I := I) (a := dl) (o := .lst (dits ++ [.ref t])) dlF
    have gM6 := (gM5.setStory (st := M.story ++ [(i, c')]) (s5 _ _ hm4) (paired_app (Paired.mapP hdp fun _ _ => UnsV.mono i5) (paired_one ⟨t, x, rfl, nextI_new S4 t0, hx4.mono i5⟩))).mono i6 fun _ _ _ e => e
    have hx6 := (hx4.mono i5).mono i6
    generalize upd (upd H4 t (.tup [.int (i : Nat), .ref x])) dl (.lst (dits ++ [.ref t])) = H6 at S6 gM6 hx6 ⊢
    clear gM5 S5 i5 n5 i6 i4 gM4 hx4 hd4 hdp s5 t0 S4 hm4 hr4
    -- for number, other in enumerate(self.sides): other.send(..)
    obtain ⟨dx, r, sl, dl2, ss, hm6, hr6, hsl6, hst6, hss6, eF6, nd6⟩ := id gM6.ex
    have hssl : ss.length = M.sides.length := by
      rw [paired_len hss6]
      show (M.sides.set i σ').length = _
      rw [List.length_set]
    have hJ6 : Same (nextI I H H6 F2) H6 := S6.same sI hF
    refine ⟨_, rfl, m, _, dx, _, _, rfl, hm6, T.k_Meeting, T.n_Meeting_sides, rfl, sl, _, rfl, SqL.of (hJ6 _ _ hsl6), ?_⟩
    refine for_it (walk_enum (xs := ss.map fun a => V.ref a.s)) (fun j σ1 H7 => ∃ v4 v5 F7, σ1 = [some (.ref m), some (.int (i : Nat)), some (.ref a.s), some (.ref x), v4, v5] ∧ Stp H F H7 F7 ∧ Same (nextI I H H6 F2) (nextI I H H7 F7) ∧ H7 m = some (.ins (C_Meeting K) dx (mtF tb r sl dl2)) ∧
        MtAt K (nextI I H H7 F7) H7 m tb F7 ⟨doneG c' M.row, upto j (M.sides.set i σ') (fun j t => t.send (if j = i then none else some c')), M.story ++ [(i, c')]⟩)
      ⟨none, none, F2, rfl, S6, fun _ _ h => h, hm6, by rw [upto_zero]; exact gM6⟩ ?_ ?_ ?_
    · rintro j σ1 H7 _ ⟨v4, v5, F7, rfl, S7, i7, hm7, gM7⟩
      exact SqL.of (S7.same sI hF _ _ (i7 _ _ hsl6))
    · rintro j y σ1 H7 H8 hj ⟨v4, v5, F7, rfl, S7, i7, hm7, gM7⟩ ⟨t, x1, x2, rfl, t0, rfl, hx1, hx2⟩
      rw [List.length_map] at hj
      cases hx1
      obtain ⟨τ, hτ⟩ : ∃ τ, (M.sides.set i σ')[j]? = some τ := ⟨_, List.getElem?_eq_getElem (by rw [List.length_set]; omega)⟩
      have hτ7 := upto_get (f := fun j t => t.send (if j = i then none else some c')) hτ
      have s8 := same_new (o := .tup [.int (j : Nat), x2]) t0
      obtain ⟨S8, i8, _⟩ := S7.pure (I := I) s8
      have gM8 := gM7.mono i8 fun b _ o e => s8 _ _ e
      have sJ8 := S8.same sI hF
      obtain ⟨b, bF, gb, bI, ⟨dx', r', sl', dl', sits', hm', hsl', hsi', _⟩, mb, back'⟩ := gM8.side sJ8 S8.gone hτ7
      have hx8 : x2 = .ref b.s := by
        rw [s8 _ _ hm7] at hm'
        cases hm'
        rw [i8 _ _ (i7 _ _ hsl6)] at hsl'
        cases hsl'
        have hx2 : (ss.map fun a => V.ref a.s)[j]? = some x2 := hx2
        rw [hx2] at hsi'
        cases hsi'
        rfl
      subst hx8
      have hbs : τ.uns.length ≤ 80000 ∧ τ.to.length ≤ 80000 := by
        by_cases e : i = j
        · subst e
          rw [List.getElem?_set_self (by omega)] at hτ
          cases hτ
          have := z3 σ (List.mem_of_getElem? hi)
          rw [hul.2]
          omega
        · rw [List.getElem?_set_ne e] at hτ
          exact z3 τ (List.mem_of_getElem? hτ)
      refine ⟨t, _, rfl, SqT.of upd_same, rfl, _, _, rfl, _, _, rfl, rfl, ?_⟩
      obtain ⟨bx, br, hb1, hb2⟩ := gb.ob
      have key : ∀ (v : V) (oc : Option Gs), oc = (if j = i then none else some c') → ToV K (nextI I H (upd H7 t (.tup [.int (j : Nat), .ref b.s])) F7) v oc → spSend K [.ref b.s, v] (upd H7 t (.tup [.int (j : Nat), .ref b.s])) (fun _ H' => ∃ v4 v5 F7, [some (.ref m), some (.int (i : Nat)), some (.ref a.s), some (.ref x), some (V.int (j : Nat)), some (V.ref b.s)] = [some (.ref m), some (.int (i : Nat)), some (.ref a.s), some (.ref x), v4, v5] ∧ Stp H F H' F7 ∧ Same (nextI I H H6 F2) (nextI I H H' F7) ∧ H' m = some (.ins (C_Meeting K) dx (mtF tb r sl dl2)) ∧
        MtAt K (nextI I H H' F7) H' m tb F7 ⟨doneG c' M.row, upto (j + 1) (M.sides.set i σ') (fun j t => t.send (if j = i then none else some c')), M.story ++ [(i, c')]⟩) E0 := by
        rintro v oc rfl hv
        refine ⟨b, τ, _, v, _, rfl, sJ8, bI, gb, hv, by omega, by omega, fun H9 S9 g9 => ?_⟩
        obtain ⟨F9, T9, gM9, z9⟩ := back' _ b _ rfl S9 g9
        have i9 := S8.next (I := I) T9
        refine ⟨_, _, F9, rfl, S8.trans T9, ((i7.trans i8).trans (T9.mono sJ8 S8.gone)).trans i9, S9.fr _ _ mb (s8 _ _ hm7), ?_⟩
        rw [← upto_set hτ]
        exact gM9.mono i9 fun _ _ _ e => e
      refine ⟨_, rfl, b.s, bx, _, rfl, hb1, rfl, ?_⟩
      refine ⟨_, rfl, _, rfl, rfl, _, rfl, ?_⟩
      by_cases e : j = i
      · rw [decide_eq_true (show V.int (j : Nat) = V.int (i : Nat) by rw [e])]
        refine iteT ?_
        exact key .non none (by rw [if_pos e]) rfl
      · rw [decide_eq_false (show ¬ V.int (j : Nat) = V.int (i : Nat) by intro z; injection z with z; omega)]
        refine iteF ?_
        exact ⟨_, rfl, key (.ref x) (some c') (by rw [if_neg e]) ⟨x, rfl, (hx6.mono i7).mono i8⟩⟩
    · rintro σ1 H7 ⟨v4, v5, F7, rfl, S7, i7, hm7, gM7⟩
      rw [List.length_map, hssl, show M.sides.length = (M.sides.set i σ').length by rw [List.length_set], upto_all] at gM7
      exact kont _ _ S7 gM7
abbrev N_Meeting_middle : List Str := ["self"]
theorem sc_Meeting_middle : FnScope N_Meeting_middle ["self"] (defScope s_Meeting_middle) := ⟨rfl, rfl, rfl, by decide +kernel, rfl, by decide +kernel, by decide +kernel⟩
def spMiddle (K : PySem.W.Frag) : Sp := fun vs H Q _ => ∃ (m tb : Addr) (F : List Addr) (M : Mt) (I : Hp), vs = [.ref m] ∧ MtIn K I H m tb F M ∧ ∀ l, H l = none → Q (.ref l) (upd H l (.lst (M.row.map V.int)))
theorem ok_Meeting_middle (T : Txt K mg) : FnR P w K mg base CX0 1 (He.ma K (He.ga K "Meeting") "middle") (spMiddle K) := by
  refine fnr_of T.d_Meeting_middle sc_Meeting_middle (fun vs H Q E h => ?_) (fun _ _ _ _ _ _ us hl => match us, hl with | [_], _ => rfl) (fun cdv A outer s H vs Q E hr h => ?_)
  · obtain ⟨m, tb, F, M, I, rfl, _⟩ := h
    rfl
  · obtain ⟨m, tb, F, M, I, rfl, ⟨sI, hF, hM⟩, k⟩ := h
    obtain ⟨dx, r, sl, dl, hm, hr', _, _, _⟩ := hM.ob
    refine ⟨_, (pss_one (ps_ret (pe_callTy call_list_of (by rfl) T.g_list (by decide +kernel) (pa_cons (pe_fld (pv 0) rfl) pa_nil)))), ?_⟩
    exact ⟨_, rfl, m, _, dx, _, _, rfl, hm, T.k_Meeting, T.n_Meeting_row, rfl, r, _, rfl, .inl (SqL.of (sI _ _ hr')), k⟩
abbrev N_Meeting_text : List Str := ["self", "hand"]
theorem sc_Meeting_text : FnScope N_Meeting_text ["self", "hand"] (defScope s_Meeting_text) := ⟨rfl, rfl, rfl, by decide +kernel, rfl, by decide +kernel, by decide +kernel⟩
def spText (K : PySem.W.Frag) : Sp := fun vs H Q _ => ∃ (m tb : Addr) (F : List Addr) (M : Mt) (I : Hp) (i : Nat) (σ : Sd), vs = [.ref m, .int i] ∧ MtIn K I H m tb F M ∧ M.sides[i]? = some σ ∧ ∀ l, H l = none → Q (.ref l) (upd H l (.lst (σ.row.map V.int)))
theorem ok_Meeting_text (T : Txt K mg) : FnR P w K mg base CX0 4 (He.ma K (He.ga K "Meeting") "text") (spText K) := by
  have G_Meeting_side := ok_Meeting_side (P := P) (w := w) (base := base) T
  refine fnr_of T.d_Meeting_text sc_Meeting_text (fun vs H Q E h => ?_) (fun _ _ _ _ _ _ us hl => match us, hl with | [_, _], _ => rfl) (fun cdv A outer s H vs Q E hr h => ?_)
  · obtain ⟨m, tb, F, M, I, i, σ, rfl, _⟩ := h
    rfl
  · obtain ⟨m, tb, F, M, I, i, σ, rfl, ⟨sI, hF, hM⟩, hi, k⟩ := h
    obtain ⟨a, aF, g, aI, ⟨dx, r, sl, dl, sits, hm, hsl, hsi, hsl2⟩, ma, back⟩ := hM.side sI hF hi
    obtain ⟨ax, ar, ha1, ha2⟩ := g.ob
    refine ⟨_, (pss_one (ps_ret (pe_callTy call_list_of (by rfl) T.g_list (by decide +kernel) (pa_cons (pe_fld (pe_methR (pv 0) T.k_Meeting T.m_Meeting_side G_Meeting_side (hr.mono (by decide)) pass0 (pa_cons (pv 1) pa_nil)) rfl) pa_nil)))), ?_⟩
    refine ⟨_, rfl, m, dx, _, rfl, hm, rfl, _, rfl, m, dx, tb, r, sl, dl, sits, i, _, rfl, hm, sI _ _ hsl, hsi, ?_⟩
    exact ⟨a.s, _, ax, _, _, rfl, ha1, T.k_Side, T.n_Side_row, rfl, ar, _, rfl, .inl (SqL.of (sI _ _ ha2)), k⟩
abbrev N_Meeting_waiting : List Str := ["self", "hand", "side"]
theorem sc_Meeting_waiting : FnScope N_Meeting_waiting ["self", "hand"] (defScope s_Meeting_waiting) := ⟨rfl, rfl, rfl, by decide +kernel, rfl, by decide +kernel, by decide +kernel⟩
def spWaiting (K : PySem.W.Frag) : Sp := fun vs H Q _ => ∃ (m tb : Addr) (F : List Addr) (M : Mt) (I : Hp) (i : Nat) (σ : Sd), vs = [.ref m, .int i] ∧ MtIn K I H m tb F M ∧ M.sides[i]? = some σ ∧ ∀ l, H l = none → Q (.ref l) (upd H l (.tup [.int (σ.frm.length : Nat), .int (σ.to.length : Nat)]))
theorem ok_Meeting_waiting (T : Txt K mg) : FnR P w K mg base CX0 4 (He.ma K (He.ga K "Meeting") "waiting") (spWaiting K) := by
  have G_Meeting_side := ok_Meeting_side (P := P) (w := w) (base := base) T
  refine fnr_of T.d_Meeting_waiting sc_Meeting_waiting (fun vs H Q E h => ?_) (fun _ _ _ _ _ _ us hl => match us, hl with | [_, _], _ => rfl) (fun cdv A outer s H vs Q E hr h => ?_)
  · obtain ⟨m, tb, F, M, I, i, σ, rfl, _⟩ := h
    rfl
  · obtain ⟨m, tb, F, M, I, i, σ, rfl, ⟨sI, hF, hM⟩, hi, k⟩ := h
    obtain ⟨a, aF, g, aI, ⟨dx, r, sl, dl, sits, hm, hsl, hsi, hsl2⟩, ma, back⟩ := hM.side sI hF hi
    obtain ⟨ax, ar, ha1, ha2⟩ := g.ob
    obtain ⟨fits, hf, hfp⟩ := g.frm
    obtain ⟨tits, ht, htp⟩ := g.to
    refine ⟨_, (pss_cons (ps_set (i := 2) sc_Meeting_waiting.nd rfl (Or.inl rfl) (pe_methR (pv 0) T.k_Meeting T.m_Meeting_side G_Meeting_side (hr.mono (by decide)) pass0 (pa_cons (pv 1) pa_nil)))
      (pss_one (ps_ret (pe_tup (pa_cons (pe_callB call_len_seq (by rfl) T.g_len (by decide +kernel) (pa_cons (pe_fld (pv 2) rfl) pa_nil)) (pa_cons (pe_callB call_len_seq (by rfl) T.g_len (by decide +kernel) (pa_cons (pe_fld (pv 2) rfl) pa_nil)) pa_nil)))))), ?_⟩
    refine ⟨_, rfl, m, dx, _, rfl, hm, rfl, _, rfl, m, dx, tb, r, sl, dl, sits, i, _, rfl, hm, sI _ _ hsl, hsi, ?_⟩
    refine ⟨_, rfl, a.s, _, ax, _, _, rfl, ha1, T.k_Side, T.n_Side_from_it, rfl, a.f, _, rfl, .inl (SqL.of hf), _, rfl, a.s, _, ax, _, _, rfl, ha1, T.k_Side, T.n_Side_to_it, rfl, a.t, _, rfl, .inl (SqL.of ht), (by show 2 ≤ sizeLine; decide), fun l l0 => ?_⟩
    have h1 : fits.length = σ.frm.length := paired_len hfp
    have h2 : tits.length = σ.to.length := paired_len htp
    rw [h1, h2]
    exact k l l0
abbrev N_Meeting_story : List Str := ["self"]
theorem sc_Meeting_story : FnScope N_Meeting_story ["self"] (defScope s_Meeting_story) := ⟨rfl, rfl, rfl, by decide +kernel, rfl, by decide +kernel, by decide +kernel⟩
def spStory (K : PySem.W.Frag) : Sp := fun vs H Q _ => ∃ (m tb : Addr) (F : List Addr) (M : Mt) (I : Hp), vs = [.ref m] ∧ MtIn K I H m tb F M ∧ ∀ l its, H l = none → Paired (StoV K I) its M.story → Q (.ref l) (upd H l (.lst its))
theorem ok_Meeting_story (T : Txt K mg) : FnR P w K mg base CX0 1 (He.ma K (He.ga K "Meeting") "story") (spStory K) := by
  refine fnr_of T.d_Meeting_story sc_Meeting_story (fun vs H Q E h => ?_) (fun _ _ _ _ _ _ us hl => match us, hl with | [_], _ => rfl) (fun cdv A outer s H vs Q E hr h => ?_)
  · obtain ⟨m, tb, F, M, I, rfl, _⟩ := h
    rfl
  · obtain ⟨m, tb, F, M, I, rfl, ⟨sI, hF, hM⟩, k⟩ := h
    obtain ⟨dx, r, sl, dl, hm, hr', ⟨its, hd, hp⟩, _, _⟩ := hM.ob
    refine ⟨_, (pss_one (ps_ret (pe_callTy call_list_of (by rfl) T.g_list (by decide +kernel) (pa_cons (pe_fld (pv 0) rfl) pa_nil)))), ?_⟩
    exact ⟨_, rfl, m, _, dx, _, _, rfl, hm, T.k_Meeting, T.n_Meeting_done_there, rfl, dl, _, rfl, .inl (SqL.of hd), fun l l0 => k l its l0 hp⟩
end
end K94
set_option maxRecDepth 100000
set_option maxHeartbeats 4000000
/-! K94R2: more rules. -/
namespace K94
open PySem PySem.Spec PyProof.Rows L2
theorem vals_snd : ∀ {kvs : List (Key × V)} {vs : List (Key × Value)}, KV kvs vs → Vals (kvs.map (·.2)) (vs.map (·.2))
  | _, _, .nil => .nil
  | _, _, .cons h t => .cons h.2 (vals_snd t)
/-- list(d.values()) -/
def tListVals (te : TE) : TE := fun σ H Q => te σ H fun x H1 => ∃ (d : Addr) (kvs : List (Key × V)), x = .ref d ∧ H1 d = some (.dK kvs) ∧ ∀ q, H1 q = none → Q (.ref q) (upd H1 q (.lst (kvs.map (·.2))))
theorem pe_listVals {X : Cx} {e : Expr} {te : TE} {p apos cpos pos : Pos} (calm : X.calm = true) (inner : PE X e te) (hg : Gl X "list") (hm : X.mg "list" = none) (hv : bootBuiltins "list" = some (.type "list"))
    (hb : attributeBase e "values" X.env (eval e X.env) = eval e X.env := by rfl) (hl : (apos.endLine == cpos.line) = true := by rfl)
    (hst : starEach [.Call (.Attribute e "values" apos) [] [] cpos] X.env = (false, eval (.Call (.Attribute e "values" apos) [] [] cpos) X.env) :: starEach [] X.env := by rfl) :
    PE X (.Call (.Name "list" p) [.Call (.Attribute e "values" apos) [] [] cpos] [] pos) (tListVals te) := by
  refine ⟨fun pins s σ H Q I want => wpAny_Call_Name_kw (ld_blt I hg hm hv (PyProof.Rows.callWith_type1 ?_ hst rfl))⟩
  rw [hst]
  show wpAny _ _ (spliced ((false, eval (.Call (.Attribute e "values" apos) [] [] cpos) X.env) :: backTo pos (starEach [] X.env))) _ _ s
  refine Calls.spliced_cons (wpAny_Call_method (T := "dict") (id := "dict.values") hb rfl hl F.plainAttrs_dict F.slot_dict_values F.type_dict_values (thn (inner.run pins s σ H _ I want) fun u s1 ⟨x, H1, I1, rx, d, kvs, ex, hd, q⟩ => ?_))
  cases ex
  obtain rfl : u = Value.ref d := rx
  obtain ⟨size, notSys, vs, rel, isDict⟩ := I1.hok d _ hd
  obtain ⟨ep, hat⟩ := isDict.dictAt
  have lenEq : kvs.length = vs.length := Paired.length rel
  have I2 : Inv X pins σ H1 { s1 with heap := s1.heap.push { cls := .type "dict_values", data := .fields #[.ref d] } } := I1.kept (t' := s1.toks) fun b ob g => Heap.get?_push_of_some _ g
  refine ⟨isDict.typeIs, isDict.mapOf.noDict, ?_⟩
  show wpAny _ _ (callWith cpos (.builtin "dict.values") [.ref d] [] []) _ X.xe s1
  refine method_meetsIn F.slot_dict_values F.entry_dict_values rfl (PySem.evalArgs_none ⟨rfl, isDict.typeIs, F.args_dict_values_1 _, _, meets_dict_values (mixKind X.prog X.w) d notSys, ⟨vs, isDict⟩, Calls.spliced_nil ?_⟩)
  refine PySem.W.kdl_call (PySem.W.kdl_values (knd := mixKind X.prog X.w) (kvs := vs) (ep := ep)) (I2.ok.hd calm) ⟨⟨_, Heap.get?_push_size _ rfl, rfl, rfl⟩, hat.push _⟩ (by rw [← lenEq]; exact size) fun h' tk acc c hk hS hacc => ?_
  refine ⟨.ref _, upd H1 _ (.lst (kvs.map (·.2))), I2.laid hk (Nat.le_refl _) ⟨by rw [List.length_map]; exact size, acc.toList, c, ?_, ?_⟩, rfl, q _ (I2.hok.fresh (Nat.le_refl _))⟩
  · have same : acc.toList = vs.map (·.2) := PySem.W.kdl_vals_eq acc.toList (by rw [Array.length_toList]; exact hacc.1) fun j v e => hacc.2 j v (by rw [← Array.getElem?_toList]; exact e)
    rw [same]
    exact vals_snd rel
  · rw [Array.toArray_toList]
    exact hS
/-- y = {..: .. for ..}, y a local of the def -/
theorem swaps_dict {k v : Expr} {gens : List Comprehension} {inner : Scope} {at1 at2 : Pos} {y : Str} {row : Nat} {env : Env} (fn : env.scope.kind = .function) (loc : env.scope.names.lookup y = some .local) (same : (at2.line == at1.line) = true)
    (none : (inner.names.any fun (n, k) => n == y && (k == .local || k == .cell)) = false) : swapsWith (.DictComp k v gens inner at1) (some (.Name y at2)) row env = pure true := by
  have isFn : env.blockKind = .function := by unfold Env.blockKind; rw [fn]; rfl
  have isLoc : env.kindOf y = some .local := loc
  unfold swapsWith
  simp only [isFn, isLoc, none, Expr.pos, same]
  rfl
theorem ps_setDc {X : Cx} {i : Nat} {y : Str} {at1 at2 at3 : Pos} {k v t e : Expr} {tests : List Expr} {inner : Scope} {own : List (Str × Nat)} {wi : TI} {g : TG} {tt : TT} {tk tv : TE} (calm : X.calm = true) (nd : X.N.Nodup) (slot : X.N[i]? = some y) (loc : X.env.scope.names.lookup y = some .local)
    (swap : swapsWith (.DictComp k v [⟨t, e, tests, 0⟩] inner at1) (some (.Name y at2)) at3.line X.env = pure true) (pi : PI X t e wi) (blk : BlkOk X.N X.env.scope inner own)
    (pg : ∀ (s : Shared) (H : Hp) (C : Addr) (cl : List (Str × Addr)) (fp : List Addr), PG (X.blk s H inner (compEnvC inner cl C X.env) fp) t g)
    (pt : ∀ (s : Shared) (H : Hp) (C : Addr) (cl : List (Str × Addr)) (fp : List Addr), PTs (X.blk s H inner (compEnvC inner cl C X.env) fp) tests tt)
    (pk : ∀ (s : Shared) (H : Hp) (C : Addr) (cl : List (Str × Addr)) (fp : List Addr), PE (X.blk s H inner (compEnvC inner cl C X.env) fp) k tk)
    (pv' : ∀ (s : Shared) (H : Hp) (C : Addr) (cl : List (Str × Addr)) (fp : List Addr), PE (X.blk s H inner (compEnvC inner cl C X.env) fp) v tv) (fold : ∀ x, foldedSetIterable e X.env x = pure x := by intro _; rfl) :
    PS X (.Assign [.Name y at2] (.DictComp k v [⟨t, e, tests, 0⟩] inner at1) at3) (tAsg (tDc wi g tt tk tv (own.map (·.2))) (gName i)) := by
  refine ⟨fun pins s σ H D I want => ?_⟩
  have want : tDc wi g tt tk tv (own.map (·.2)) σ H (fun x H1 => gName i x σ H1 D.nx) := want
  rw [exec_Assign_Name_used _ _ _ _ swap]
  refine wpAny_bind (wpAny_standAt (wpAny_bind ?_))
  show wpAny _ X.A (do let _ ← comprehension (.DictComp k v [⟨t, e, tests, 0⟩] inner at1) inner X.env (firstIterPos [⟨t, e, tests, 0⟩] at1) newDict false (eval e X.env) (some (assign (.Name y at2) X.env))) _ _ s
  refine wpAny_bind (thn (dc_core (Qf := fun _ s' => SP X pins D .next s') calm nd I pi blk pg pt pk pv' fold want fun L C s' m H' I' q hn f => ?_) fun _ s' hq => wpAny_pure (wpAny_pure hq))
  show wpAny _ _ (assign (.Name y at2) X.env (.ref L)) _ _ _
  refine wpAny_assign_Name (store_ok2 (v := V.ref L) I' nd slot (.inl loc) rfl (fun s2 I2 ⟨c, upto, place⟩ => ?_) (.inr loc))
  have apart : C ≠ c := by
    rcases place with z | z
    · rw [z]; exact f.2.1
    · exact fun e => f.2.2.2.2.1 y c z e.symm
  exact ⟨m, hn.sameBut upto apart, fun h3 but => ⟨_, H', I2.turned (t' := s2.toks) (fun b o hb e => (but.2 b hb).trans e) f.1 f.2.1 f.2.2.2.1 f.2.2.2.2.1 f.2.2.2.2.2, q⟩⟩
/-! ### first, *others = a tuple -/
theorem unpack_one_star {prog : Program} {w : World} {A : Around} {E : Value → Shared → Prop} {s : Shared} {t : Addr} {items : Array Value} {x : Value} {xs : List Value} {Q : List Value → Shared → Prop} (calm : A.handled = none) (isT : IsTup s.heap t items) (split : items.toList = x :: xs) (fit : items.size ≤ sizeLine)
    (k : ∀ (h' : Heap) (tk : Nat), (∀ b o, s.heap.get? b = some o → h'.get? b = some o) → Q [x, .ref h'.objs.size] { s with heap := h'.push { cls := .type "list", data := .seq xs.toArray }, toks := tk }) :
    wpAny (model prog w) A (unpackItems (.ref t) 2 (some 1)) Q E s := by
  have tlt : t < s.heap.objs.size := by obtain ⟨o, ho, _⟩ := isT; exact Heap.lt_size ho
  have tne : t ≠ s.heap.objs.size := Nat.ne_of_lt tlt
  have one : 1 ≤ items.size := by
    have := congrArg List.length split
    rw [Array.length_toList, List.length_cons] at this
    omega
  unfold unpackItems
  refine wpAny_bind ?_
  unfold notIterableAtAll
  refine wpAny_bind (wpAny_specialOf isT.typeIs slot_tuple_iter.lookup (wpAny_pure ?_))
  simp only [Bool.false_eq_true, if_false]
  refine wpAny_bind (wpAny_holding (iter_tuple isT (wpAny_bind (wpAny_holding (draw_tuple tne 1 0 _ _ ⟨_, Heap.get?_push_size _ rfl, rfl, rfl⟩ (isT.push _) (by omega) fun h1 it1 sb1 => ?_)))))
  have isT1 : IsTup h1 t items := (isT.push _).extBut sb1.extBut tne
  rw [Nat.zero_add] at it1
  rw [List.drop_zero, split]
  obtain ⟨oi, hoi, _⟩ := id it1
  obtain ⟨ol, hol, _⟩ := id isT1
  rw [if_neg (show ¬ (List.take 1 (x :: xs)).length < 1 by simp)]
  refine wpAny_bind (wpAny_holding (PySem.W.kun_collect (s := { s with heap := h1 }) (T := "tuple_iterator") (.inr (.inr (.inr rfl))) (Walks.tuple (A := A.in1) calm s.heap.objs.size t tne items) (fun j u st => st.1.typeIs) (k := 1) one ⟨it1, isT1⟩ (Heap.lt_size hoi) (Heap.lt_size hol) (fun h2 tk hk => ?_) fit))
  have rest : items.toList.drop 1 = xs := by rw [split]; rfl
  rw [rest]
  rw [if_neg (show ¬ xs.length < 2 - 1 - 1 from Nat.not_lt_zero _)]
  have grow : ∀ b o, s.heap.get? b = some o → h2.get? b = some o := fun b o e => hk b o (Nat.ne_of_lt (Heap.lt_size e)) (sb1.extBut b o (Nat.ne_of_lt (Heap.lt_size e)) (Heap.get?_push_of_some _ e))
  have all : xs.take (xs.length - (2 - 1 - 1)) = xs := by simp
  have none : xs.drop (xs.length - (2 - 1 - 1)) = [] := by simp
  rw [all, none]
  have xl : xs.length ≤ sizeLine := by
    have := congrArg List.length split
    rw [Array.length_toList, List.length_cons] at this
    omega
  exact wpAny_bind (wpAny_newList (wpAny_pure (k h2 tk grow)) xl)
def gStar (K : PySem.W.Frag) (t : TGs) : TG := fun v σ H Q => ∃ a x xs, v = .ref a ∧ SqT K H a (x :: xs) ∧ ∀ D, H D = none → t [x, .ref D] σ (upd H D (.lst xs)) Q
theorem pgs_star {X : Cx} {e : Expr} {p : Pos} {t : TG} (one : PG X e t) (is : (assignEach [.Starred e p] X.env).map (·.2) = [assign e X.env] := by rfl) : PGs X [.Starred e p] (gCons t gNil) := by
  refine ⟨fun pins s σ H vs us Q I r want => ?_⟩
  obtain ⟨v, vr, rfl, want⟩ := want
  cases r with
  | cons r rr =>
    rw [is]
    exact assignInOrder_cons (thn (one.run pins s σ H _ _ _ I r want) fun _ s1 ⟨σ1, H1, I1, nil, q1⟩ => by
      subst nil
      cases rr
      exact assignInOrder_nil ⟨σ1, H1, I1, q1⟩)
theorem pg_star {X : Cx} {es : List Expr} {n : Nat} {p : Pos} {t : TGs} (calm : X.calm = true) (h : PGs X es t) (two : (assignEach es X.env).length = 2 := by rfl) (at1 : (assignEach es X.env).findIdx? (·.1) = some 1 := by rfl) : PG X (.Tuple es n p) (gStar X.K t) := by
  refine ⟨fun pins s σ H v u Q I r want => ?_⟩
  obtain ⟨a, x, xs, rfl, isT, want⟩ := want
  cases r
  obtain ⟨its, rv, isTup, fit⟩ := I.tuple isT
  cases rv with
  | cons rx rxs =>
  rename_i ux uxs
  rw [PyProof.Rows.assign_Tuple]
  refine wpAny_bind (wpAny_standAt ?_)
  unfold unpack
  rw [two, at1]
  refine wpAny_bind (wpAny_holding (unpack_one_star (I.ok.hd calm) isTup (x := ux) (xs := uxs) (by simp) (by have := rxs.length; simp at fit ⊢; omega) fun h' tk grow => ?_))
  have I1 : Inv X pins σ H { s with heap := h', toks := tk } := I.kept (t' := tk) grow
  have D0 := I1.hok.fresh (Nat.le_refl _)
  refine h.run pins _ σ _ [x, .ref h'.objs.size] _ Q (I1.laid (t' := tk) (fun b u e => Heap.get?_push_of_some _ e) (Nat.le_refl _) (o := .lst xs) ?_) (.cons rx (.cons rfl .nil)) (want _ D0)
  exact ⟨by simp at fit; omega, uxs, 0, rxs, Heap.get?_push_size _ rfl⟩
end K94
set_option maxRecDepth 100000
set_option maxHeartbeats 4000000
/-! K94M: the sheet. -/
namespace K94
open PySem PySem.Spec PyProof.Rows L2
theorem pe_neverE {X : Cx} {e : Expr} : PE X e (fun _ _ _ => False) := ⟨fun _ _ _ _ _ _ h => h.elim⟩
theorem pg_never {X : Cx} {tg : Expr} : PG X tg (fun _ _ _ _ => False) := ⟨fun _ _ _ _ _ _ _ _ _ h => h.elim⟩
section
variable {P : Program} {w : World} {K : PySem.W.Frag} {mg : Str → Option Value} {base : Heap}
abbrev C_Sheet (K : PySem.W.Frag) : Addr := He.ga K "Sheet"
def shF (tb r dl pd : Addr) (ah : V) : List (Str × V) := [("table", .ref tb), ("row", .ref r), ("deeds", .ref dl), ("pins", .ref pd), ("ahead", ah)]
def DeedV (I : Hp) (v : V) (old : List Int) : Prop := ∃ t r st b, v = .ref t ∧ I t = some (.tup [.ref r, .ref st, .ref b]) ∧ I r = some (.lst (old.map V.int))
structure ShAt (K : PySem.W.Frag) (I H : Hp) (s tb : Addr) (F : List Addr) (row : List Int) (olds : List (List Int)) : Prop where
  ex : ∃ (dx r dl pd : Addr) (ah : V), H s = some (.ins (C_Sheet K) dx (shF tb r dl pd ah)) ∧ I r = some (.lst (row.map V.int)) ∧ LsAt H (DeedV I) dl olds ∧ H pd = some (.dK []) ∧ F = [s, dl, pd] ∧ F.Nodup
structure ShIn (K : PySem.W.Frag) (I H : Hp) (s tb : Addr) (F : List Addr) (row : List Int) (olds : List (List Int)) : Prop where
  sI : Same I H
  hF : ∀ b ∈ F, I b = none
  at' : ShAt K I H s tb F row olds
theorem DeedV.mono {I I' : Hp} (s : Same I I') {v : V} {o : List Int} : DeedV I v o → DeedV I' v o := fun ⟨t, r, st, b, e, h, h'⟩ => ⟨t, r, st, b, e, s _ _ h, s _ _ h'⟩
theorem ShAt.mono {I I' H H' : Hp} {s tb : Addr} {F : List Addr} {row : List Int} {olds : List (List Int)} (h : ShAt K I H s tb F row olds) (z : Same I I') (e : ∀ b ∈ F, ∀ o, H b = some o → H' b = some o) : ShAt K I' H' s tb F row olds := by
  obtain ⟨dx, r, dl, pd, ah, h1, h2, h3, h4, rfl, h6⟩ := h
  exact ⟨dx, r, dl, pd, ah, e _ (by simp) _ h1, z _ _ h2, h3.imp (e _ (by simp)) fun _ _ => DeedV.mono z, e _ (by simp) _ h4, rfl, h6⟩
theorem ShAt.there {I H : Hp} {s tb : Addr} {F : List Addr} {row : List Int} {olds : List (List Int)} (h : ShAt K I H s tb F row olds) : ∀ b ∈ F, (H b).isSome = true := by
  obtain ⟨dx, r, dl, pd, ah, h1, h2, ⟨_, h3, _⟩, h4, rfl, h6⟩ := h
  intro b hb
  simp only [List.mem_cons, List.not_mem_nil, or_false] at hb
  rcases hb with rfl | rfl | rfl
  · exact some_of h1
  · exact some_of h3
  · exact some_of h4
abbrev N_Sheet_init : List Str := ["self", "table", "text"]
theorem sc_Sheet_init : FnScope N_Sheet_init ["self", "table", "text"] (defScope s_Sheet_init) := ⟨rfl, rfl, rfl, by decide +kernel, rfl, by decide +kernel, by decide +kernel⟩
def spSheetInit (K : PySem.W.Frag) : Sp := fun vs H Q _ => ∃ (x dx tb r : Addr) (row : List Int) (S : Int → Prop) (H0 : Hp), vs = [.ref x, .ref tb, .ref r] ∧ H0 x = none ∧ H0 dx = none ∧ dx ≠ x ∧ H = upd (upd H0 dx (.own x)) x (.ins (C_Sheet K) dx []) ∧
  TbAt K H0 tb S ∧ H0 r = some (.lst (row.map V.int)) ∧ row.length ≤ 90000 ∧ (∀ y ∈ row, S y) ∧
  ∀ H' (F : List Addr), Same H0 H' → (∀ b ∈ F, H0 b = none) → ShAt K (hid F (newIn H0 H')) H' x tb F row [] → Q .non H'
theorem ok_Sheet_init (T : Txt K mg) : FnR P w K mg base CX0 5 (He.ma K (He.ga K "Sheet") "__init__") (spSheetInit K) := by
  have G_checked_text := ok_checked_text (P := P) (w := w) (base := base) T
  refine fnr_of T.d_Sheet_init sc_Sheet_init (fun vs H Q E h => ?_) (fun _ _ _ _ _ _ us hl => match us, hl with | [_, _, _], _ => rfl) (fun cdv A outer s H vs Q E hr h => ?_)
  · obtain ⟨x, dx, tb, r, row, S, H0, rfl, _⟩ := h
    rfl
  · obtain ⟨x, dx, tb, r, row, S, H0, rfl, x0, d0, ne, rfl, hT, hr0, hz, hS, k⟩ := h
    have b0 : But x H0 (upd (upd H0 dx (.own x)) x (.ins (C_Sheet K) dx [])) := but_new d0
    have hx : (upd (upd H0 dx (.own x)) x (.ins (C_Sheet K) dx [])) x = some (.ins (C_Sheet K) dx []) := upd_same
    have rx : r ≠ x := ne_of_none hr0 x0
    have s0 : Same H0 (upd (upd H0 dx (.own x)) x (.ins (C_Sheet K) dx [])) := fun b o e => b0 b o (ne_of_none e x0) e
    generalize upd (upd H0 dx (.own x)) x (.ins (C_Sheet K) dx []) = H at b0 hx s0 ⊢
    refine ⟨_, (pss_cons (ps_expr (pe_callF G_checked_text (hr.mono (by decide)) T.f_checked_text T.kp_checked_text (pa_cons (pv 1) (pa_cons (pv 2) pa_nil))))
      (pss_cons (ps_fld (pv 0) (pv 1) rfl)
      (pss_cons (ps_fld (pv 0) (pe_callTy call_list_of (by rfl) T.g_list (by decide +kernel) (pa_cons (pv 2) pa_nil)) rfl)
      (pss_cons (ps_fld (pv 0) (pe_lst pa_nil) rfl)
      (pss_cons (ps_fld (pv 0) pe_dnewK rfl)
      (pss_one (ps_fld (pv 0) pe_non rfl))))))), ?_⟩
    refine ⟨_, rfl, _, rfl, tb, r, S, row, rfl, hT.mono s0, s0 _ _ hr0, by omega, hS, fun H1 s1 => ?_⟩
    have b1 : But x H0 H1 := b0.trans fun b o _ e => s1 _ _ e
    have hx1 := s1 _ _ hx
    clear hx b0 s0 s1
    -- self.table = table
    refine ⟨_, rfl, _, rfl, x, _, dx, _, rfl, hx1, T.k_Sheet, T.n_Sheet_table, (by show 0 < 1000; decide), ?_⟩
    have b2 := b1.trans (but_upd (x := x) (H := H1) (o := .ins (C_Sheet K) dx (putF "table" (.ref tb) [])))
    have hx2 : (upd H1 x (.ins (C_Sheet K) dx (putF "table" (.ref tb) []))) x = some (.ins (C_Sheet K) dx (putF "table" (.ref tb) [])) := upd_same
    generalize upd H1 x (.ins (C_Sheet K) dx (putF "table" (.ref tb) [])) = H2 at b2 hx2 ⊢
    -- self.row = list(text)
    refine ⟨_, rfl, r, _, rfl, .inl (SqL.of (b2 _ _ rx hr0)), fun rr rr0 => ?_⟩
    refine ⟨_, rfl, x, _, dx, _, rfl, same_new rr0 _ _ hx2, T.k_Sheet, T.n_Sheet_row, (by show 1 < 1000; decide), ?_⟩
    have rrx := ne_of_none hx2 rr0
    have n1 := b2.free rrx.symm rr0
    have b3 := b2.trans (but_new (x := x) (H := H2) (l := rr) (v := .lst (row.map V.int)) (o := .ins (C_Sheet K) dx (putF "row" (.ref rr) (putF "table" (.ref tb) []))) rr0)
    have hx3 : (upd (upd H2 rr (.lst (row.map V.int))) x (.ins (C_Sheet K) dx (putF "row" (.ref rr) (putF "table" (.ref tb) [])))) x = some (.ins (C_Sheet K) dx (putF "row" (.ref rr) (putF "table" (.ref tb) []))) := upd_same
    have hrr3 : (upd (upd H2 rr (.lst (row.map V.int))) x (.ins (C_Sheet K) dx (putF "row" (.ref rr) (putF "table" (.ref tb) [])))) rr = some (.lst (row.map V.int)) := by rw [upd_ne rrx.symm]; exact upd_same
    generalize upd (upd H2 rr (.lst (row.map V.int))) x (.ins (C_Sheet K) dx (putF "row" (.ref rr) (putF "table" (.ref tb) []))) = H3 at b3 hx3 hrr3 ⊢
    -- self.deeds = []
    refine ⟨(by show 0 ≤ sizeLine; decide), fun dl dl0 => ⟨_, rfl, x, _, dx, _, rfl, same_new dl0 _ _ hx3, T.k_Sheet, T.n_Sheet_deeds, (by show 2 < 1000; decide), ?_⟩⟩
    have dlx := ne_of_none hx3 dl0
    have n2 := b3.free dlx.symm dl0
    have rdl := ne_of_none hrr3 dl0
    have c4 := but_new (x := x) (H := H3) (l := dl) (v := .lst []) (o := .ins (C_Sheet K) dx (putF "deeds" (.ref dl) (putF "row" (.ref rr) (putF "table" (.ref tb) [])))) dl0
    have b4 := b3.trans c4
    have hx4 : (upd (upd H3 dl (.lst [])) x (.ins (C_Sheet K) dx (putF "deeds" (.ref dl) (putF "row" (.ref rr) (putF "table" (.ref tb) []))))) x = some (.ins (C_Sheet K) dx (putF "deeds" (.ref dl) (putF "row" (.ref rr) (putF "table" (.ref tb) [])))) := upd_same
    have hdl4 : (upd (upd H3 dl (.lst [])) x (.ins (C_Sheet K) dx (putF "deeds" (.ref dl) (putF "row" (.ref rr) (putF "table" (.ref tb) []))))) dl = some (.lst []) := by rw [upd_ne dlx.symm]; exact upd_same
    have hrr4 := c4 _ _ rrx.symm hrr3
    generalize upd (upd H3 dl (.lst [])) x (.ins (C_Sheet K) dx (putF "deeds" (.ref dl) (putF "row" (.ref rr) (putF "table" (.ref tb) [])))) = H4 at b4 hx4 hdl4 hrr4 ⊢
    -- self.pins = {}
    refine fun pd pd0 => ⟨_, rfl, x, _, dx, _, rfl, same_new pd0 _ _ hx4, T.k_Sheet, T.n_Sheet_pins, (by show 3 < 1000; decide), ?_⟩
    have pdx := ne_of_none hx4 pd0
    have n3 := b4.free pdx.symm pd0
    have rpd := ne_of_none hrr4 pd0
    have dpd := ne_of_none hdl4 pd0
    have c5 := but_new (x := x) (H := H4) (l := pd) (v := .dK []) (o := .ins (C_Sheet K) dx (putF "pins" (.ref pd) (putF "deeds" (.ref dl) (putF "row" (.ref rr) (putF "table" (.ref tb) []))))) pd0
    have b5 := b4.trans c5
    have hx5 : (upd (upd H4 pd (.dK [])) x (.ins (C_Sheet K) dx (putF "pins" (.ref pd) (putF "deeds" (.ref dl) (putF "row" (.ref rr) (putF "table" (.ref tb) [])))))) x = some (.ins (C_Sheet K) dx (putF "pins" (.ref pd) (putF "deeds" (.ref dl) (putF "row" (.ref rr) (putF "table" (.ref tb) []))))) := upd_same
    have hpd5 : (upd (upd H4 pd (.dK [])) x (.ins (C_Sheet K) dx (putF "pins" (.ref pd) (putF "deeds" (.ref dl) (putF "row" (.ref rr) (putF "table" (.ref tb) [])))))) pd = some (.dK []) := by rw [upd_ne pdx.symm]; exact upd_same
    have hrr5 := c5 _ _ rrx.symm hrr4
    have hdl5 := c5 _ _ dlx.symm hdl4
    generalize upd (upd H4 pd (.dK [])) x (.ins (C_Sheet K) dx (putF "pins" (.ref pd) (putF "deeds" (.ref dl) (putF "row" (.ref rr) (putF "table" (.ref tb) []))))) = H5 at b5 hx5 hpd5 hrr5 hdl5 ⊢
    -- self.ahead = None
    refine ⟨_, rfl, x, _, dx, _, rfl, hx5, T.k_Sheet, T.n_Sheet_ahead, (by show 4 < 1000; decide), ?_⟩
    have c6 := but_upd (x := x) (H := H5) (o := .ins (C_Sheet K) dx (putF "ahead" .non (putF "pins" (.ref pd) (putF "deeds" (.ref dl) (putF "row" (.ref rr) (putF "table" (.ref tb) []))))))
    have b6 := b5.trans c6
    refine k _ [x, dl, pd] (fun b o e => b6 b o (ne_of_none e x0) e) (fun b hb => ?_) ⟨dx, rr, dl, pd, .non, upd_same, hid_get (newIn_get n1 (c6 _ _ rrx.symm hrr5)) ?_, ⟨[], c6 _ _ dlx.symm hdl5, .nil⟩, c6 _ _ pdx.symm hpd5, rfl, ?_⟩
    · simp only [List.mem_cons, List.not_mem_nil, or_false] at hb
      rcases hb with rfl | rfl | rfl
      · exact x0
      · exact n2
      · exact n3
    · simp only [List.mem_cons, List.not_mem_nil, or_false, not_or]
      exact ⟨rrx.symm, rdl, rpd⟩
    · simp [dlx, pdx, dpd]
abbrev N_Sheet_text : List Str := ["self"]
theorem sc_Sheet_text : FnScope N_Sheet_text ["self"] (defScope s_Sheet_text) := ⟨rfl, rfl, rfl, by decide +kernel, rfl, by decide +kernel, by decide +kernel⟩
def spSheetText (K : PySem.W.Frag) : Sp := fun vs H Q _ => ∃ (m tb : Addr) (F : List Addr) (row : List Int) (olds : List (List Int)) (I : Hp), vs = [.ref m] ∧ ShIn K I H m tb F row olds ∧ ∀ l, H l = none → Q (.ref l) (upd H l (.lst (row.map V.int)))
theorem ok_Sheet_text (T : Txt K mg) : FnR P w K mg base CX0 1 (He.ma K (He.ga K "Sheet") "text") (spSheetText K) := by
  refine fnr_of T.d_Sheet_text sc_Sheet_text (fun vs H Q E h => ?_) (fun _ _ _ _ _ _ us hl => match us, hl with | [_], _ => rfl) (fun cdv A outer s H vs Q E hr h => ?_)
  · obtain ⟨m, tb, F, row, olds, I, rfl, _⟩ := h
    rfl
  · obtain ⟨m, tb, F, row, olds, I, rfl, ⟨sI, hF, hM⟩, k⟩ := h
    obtain ⟨dx, r, dl, pd, ah, h1, h2, h3, h4, h5, h6⟩ := hM
    refine ⟨_, (pss_one (ps_ret (pe_callTy call_list_of (by rfl) T.g_list (by decide +kernel) (pa_cons (pe_fld (pv 0) rfl) pa_nil)))), ?_⟩
    exact ⟨_, rfl, m, _, dx, _, _, rfl, h1, T.k_Sheet, T.n_Sheet_row, rfl, r, _, rfl, .inl (SqL.of (sI _ _ h2)), k⟩
theorem upd_back {H : Hp} {d : Addr} {x u : HO} (h : H d = some u) : upd (upd H d x) d u = H := by
  funext b
  by_cases e : b = d
  · rw [e, upd_same, h]
  · rw [upd_ne e, upd_ne e]
abbrev N_Sheet_alter : List Str := ["self", "change", "row", "back", "stood", "name", "pin"]
theorem sc_Sheet_alter : FnScope N_Sheet_alter ["self", "change"] (defScope s_Sheet_alter) := ⟨rfl, rfl, rfl, by decide +kernel, rfl, by decide +kernel, by decide +kernel⟩
def spAlter (K : PySem.W.Frag) : Sp := fun vs H Q _ => ∃ (m tb c : Addr) (F : List Addr) (row : List Int) (olds : List (List Int)) (I : Hp) (S : Int → Prop) (gs : Gs), vs = [.ref m, .ref c] ∧ ShIn K I H m tb F row olds ∧ TbAt K I tb S ∧ ChAt K I c gs ∧ need gs ≤ row.length ∧ gs.length ≤ 10000 ∧ row.length ≤ 10000 ∧ pt gs ≤ 30000 ∧
  (∀ n ∈ doneG gs row, S n) ∧ olds.length ≤ 90000 ∧ ∀ H', Stp H F H' F → ShAt K (nextI I H H' F) H' m tb F (doneG gs row) (olds ++ [row]) → Q .non H'
theorem ok_Sheet_alter (T : Txt K mg) : FnR P w K mg base CX0 7 (He.ma K (He.ga K "Sheet") "alter") (spAlter K) := by
  have G_checked_text := ok_checked_text (P := P) (w := w) (base := base) T
  have G_Change_done := ok_Change_done (P := P) (w := w) (base := base) T
  have G_Change_undoing := ok_Change_undoing (P := P) (w := w) (base := base) T
  refine fnr_of T.d_Sheet_alter sc_Sheet_alter (fun vs H Q E h => ?_) (fun _ _ _ _ _ _ us hl => match us, hl with | [_, _], _ => rfl) (fun cdv A outer s H vs Q E hr h => ?_)
  · obtain ⟨m, tb, c, F, row, olds, I, S, gs, rfl, _⟩ := h
    rfl
  · obtain ⟨m, tb, c, F, row, olds, I, S, gs, rfl, ⟨sI, hF, hM⟩, hT, hC, hn, z1, z2, z3, hS, z4, k⟩ := h
    have th := hM.there
    obtain ⟨dx, r, dl, pd, ah, h1, h2, ⟨dits, h3, h3p⟩, h4, rfl, nd⟩ := hM
    have hdl : dits.length = olds.length := paired_len h3p
    have hlen := len_done hn
    obtain ⟨cx, cl, cit, hc1, hc2, _⟩ := id (hC.mono sI)
    have n1 : m ≠ dl ∧ m ≠ pd ∧ dl ≠ pd := by
      simp only [List.nodup_cons, List.mem_cons, List.not_mem_nil, or_false, not_or] at nd
      exact ⟨nd.1.1, nd.1.2, nd.2.1⟩
    refine ⟨_, (pss_cons (ps_set (i := 2) sc_Sheet_alter.nd rfl (Or.inl rfl) (pe_methR (pv 1) T.k_Change T.m_Change_done G_Change_done (hr.mono (by decide)) pass0 (pa_cons (pe_fld (pv 0) rfl) pa_nil)))
      (pss_cons (ps_try_never (fun _ _ h => h) (pss_one (ps_expr (pe_callF G_checked_text (hr.mono (by decide)) T.f_checked_text T.kp_checked_text (pa_cons (pe_fld (pv 0) rfl) (pa_cons (pv 2) pa_nil))))) pss_nil)
      (pss_cons (ps_set (i := 3) sc_Sheet_alter.nd rfl (Or.inl rfl) (pe_methR (pv 1) T.k_Change T.m_Change_undoing G_Change_undoing (hr.mono (by decide)) pass0 (pa_cons (pe_fld (pv 0) rfl) pa_nil)))
      (pss_cons (ps_lock (ps_setDc (i := 4) (own := [("name", 5), ("pin", 6)]) rfl sc_Sheet_alter.nd rfl rfl (swaps_dict rfl rfl rfl (by decide +kernel)) (pi_items (pe_fld (pv 0) rfl)) (blkOk_by (own := [("name", 5), ("pin", 6)]) (N := N_Sheet_alter) (sc := defScope s_Sheet_alter) (by decide +kernel)) (fun _ _ _ _ _ => pg_never) (fun _ _ _ _ _ => pts_nil) (fun _ _ _ _ _ => pe_neverE) (fun _ _ _ _ _ => pe_neverE)))
      (pss_cons (ps_expr (pe_bm PySem.F.plainAttrs_list PySem.F.slot_list_append PySem.F.type_list_append mt_append (pe_fld (pv 0) rfl) (pa_cons (pe_tup (pa_cons (pe_fld (pv 0) rfl) (pa_cons (pv 4) (pa_cons (pv 3) pa_nil)))) pa_nil)))
      (pss_cons (ps_fld (pv 0) (pe_fld (pv 0) rfl) rfl)
      (pss_cons (ps_fld (pv 0) (pv 2) rfl)
      (pss_one (ps_for PassesOwn.never rfl (pi_list (pe_listVals rfl (pe_fld (pv 0) rfl) (by rfl) T.g_list (by decide +kernel))) (pg_name (i := 6) sc_Sheet_alter.nd rfl (Or.inl rfl)) (pss_one ps_never)))))))))), ?_⟩
    -- row = change.done(self.row)
    refine ⟨_, rfl, c, cx, _, rfl, hc1, rfl, _, rfl, m, _, dx, _, _, rfl, h1, T.k_Sheet, T.n_Sheet_row, rfl, c, r, gs, row, rfl, hC.mono sI, sI _ _ h2, by omega, by omega, z3, hn, fun H1 l s1 l0 hl => ?_⟩
    -- checked_text
    refine ⟨_, rfl, m, _, dx, _, _, rfl, s1 _ _ h1, T.k_Sheet, T.n_Sheet_table, rfl, _, rfl, tb, l, S, _, rfl, (hT.mono sI).mono s1, hl, by omega, hS, fun H2 s2 => ?_⟩
    have s12 := s1.trans s2
    -- back = change.undoing(self.row)
    refine ⟨_, rfl, c, cx, _, rfl, s12 _ _ hc1, rfl, _, rfl, m, _, dx, _, _, rfl, s12 _ _ h1, T.k_Sheet, T.n_Sheet_row, rfl, c, r, gs, row, rfl, (hC.mono sI).mono s12, s12 _ _ (sI _ _ h2), z1, z2, hn, fun H3 x s3 x0 hx => ?_⟩
    have s13 := s12.trans s3
    -- stood
    refine ⟨pd, _, s13 _ _ h4, trivial, fun od => ?_⟩
    refine ⟨_, rfl, m, _, dx, _, _, rfl, (by rw [upd_ne n1.2.1]; exact s13 _ _ h1), T.k_Sheet, T.n_Sheet_pins, rfl, pd, od, [], rfl, upd_same, fun D D0 => ?_⟩
    have Dpd : D ≠ pd := fun z => by rw [z, upd_same] at D0; cases D0
    refine ⟨fun i μ H4 => i = 0 ∧ H4 = upd (upd H3 pd (.frz od (.dK []))) D (.dK []), ⟨0, rfl, rfl⟩, ?_⟩
    rintro i μ H4 ⟨rfl, rfl⟩
    refine .inl ⟨⟨by rw [upd_ne Dpd.symm]; exact upd_same, Nat.le_refl _⟩, by rw [upd_ne Dpd.symm]; exact upd_same, ?_⟩
    have eH : upd (upd (upd H3 pd (.frz od (.dK []))) D (.dK [])) pd (.dK []) = upd H3 D (.dK []) := by
      funext b
      by_cases e : b = pd
      · rw [e, upd_same, upd_ne Dpd.symm, s13 _ _ h4]
      · rw [upd_ne e]
        by_cases e2 : b = D
        · rw [e2, upd_same, upd_same]
        · rw [upd_ne e2, upd_ne e2, upd_ne e]
    rw [upd_ne Dpd] at D0
    rw [eH]
    have s4 := s13.trans (same_new (o := .dK []) D0)
    have s4' := (s3.trans (same_new (o := .dK []) D0))
    generalize upd H3 D (.dK []) = H4 at s4 s4' ⊢
    clear eH s3 s13
    -- self.deeds.append((self.row, stood, back))
    refine ⟨_, rfl, m, _, dx, _, _, rfl, s4 _ _ h1, T.k_Sheet, T.n_Sheet_deeds, rfl, .inl ⟨rfl, _, SqL.of (s4 _ _ h3)⟩, _, rfl, m, _, dx, _, _, rfl, s4 _ _ h1, T.k_Sheet, T.n_Sheet_row, rfl, _, rfl, _, rfl, (by show 3 ≤ sizeLine; decide), fun t t0 => ?_⟩
    have s5 := s4.trans (same_new (o := .tup [.ref r, .ref D, .ref x]) t0)
    refine ⟨dl, dits, _, rfl, rfl, s5 _ _ h3, sl5 (by omega), ?_⟩
    have S0 : Stp H [m, dl, pd] H [m, dl, pd] := .refl th
    have i0 : Same I (nextI I H H [m, dl, pd]) := S0.mono sI hF
    have tH : H t = none := s4.free t0
    have lH : H l = none := l0
    have hl4 := (s2.trans s4') _ _ hl
    obtain ⟨S5, i5, _⟩ := S0.pure (I := I) s5
    have it : nextI I H (upd H4 t (.tup [.ref r, .ref D, .ref x])) [m, dl, pd] t = some (.tup [.ref r, .ref D, .ref x]) := nextI_pure_get S0 tH upd_same
    have il : nextI I H (upd H4 t (.tup [.ref r, .ref D, .ref x])) [m, dl, pd] l = some (.lst ((doneG gs row).map V.int)) := nextI_pure_get S0 lH (same_new t0 _ _ hl4)
    have i05 := i0.trans i5
    have hnew : DeedV (nextI I H (upd H4 t (.tup [.ref r, .ref D, .ref x])) [m, dl, pd]) (.ref t) row := ⟨t, r, D, x, rfl, it, i05 _ _ h2⟩
    have hdp5 := Paired.mapP h3p fun _ _ => DeedV.mono i05
    have h15 := s5 _ _ h1
    have h45 := s5 _ _ h4
    generalize upd H4 t (.tup [.ref r, .ref D, .ref x]) = H5 at S5 it il i05 hnew hdp5 h15 h45 ⊢
    obtain ⟨S6, i6⟩ := S5.set (I := I) (a := dl) (o := .lst (dits ++ [.ref t])) (by simp)
    have h16 : (upd H5 dl (.lst (dits ++ [.ref t]))) m = some (.ins (C_Sheet K) dx (shF tb r dl pd ah)) := by rw [upd_ne n1.1]; exact h15
    have h46 : (upd H5 dl (.lst (dits ++ [.ref t]))) pd = some (.dK []) := by rw [upd_ne n1.2.2.symm]; exact h45
    have h36 : (upd H5 dl (.lst (dits ++ [.ref t]))) dl = some (.lst (dits ++ [.ref t])) := upd_same
    generalize upd H5 dl (.lst (dits ++ [.ref t])) = H6 at S6 i6 h16 h46 h36 ⊢
    -- self.ahead = self.row
    refine ⟨_, rfl, m, _, dx, _, _, rfl, h16, T.k_Sheet, T.n_Sheet_row, rfl, _, rfl, m, _, dx, _, rfl, h16, T.k_Sheet, T.n_Sheet_ahead, (by show 5 < 1000; decide), ?_⟩
    -- self.row = row
    refine ⟨_, rfl, _, rfl, m, _, dx, _, rfl, upd_same, T.k_Sheet, T.n_Sheet_row, (by show 5 < 1000; decide), ?_⟩
    rw [upd_upd]
    have eH : upd H6 m (.ins (C_Sheet K) dx (putF ("row" : Str) (.ref l) (putF ("ahead" : Str) (.ref r) (shF tb r dl pd ah)))) = upd H6 m (.ins (C_Sheet K) dx (shF tb l dl pd (.ref r))) := rfl
    rw [eH]
    obtain ⟨S7, i7⟩ := S6.set (I := I) (a := m) (o := .ins (C_Sheet K) dx (shF tb l dl pd (.ref r))) (by simp)
    have h17 : (upd H6 m (.ins (C_Sheet K) dx (shF tb l dl pd (.ref r)))) m = some (.ins (C_Sheet K) dx (shF tb l dl pd (.ref r))) := upd_same
    have h37 : (upd H6 m (.ins (C_Sheet K) dx (shF tb l dl pd (.ref r)))) dl = some (.lst (dits ++ [.ref t])) := by rw [upd_ne n1.1.symm]; exact h36
    have h47 : (upd H6 m (.ins (C_Sheet K) dx (shF tb l dl pd (.ref r)))) pd = some (.dK []) := by rw [upd_ne n1.2.1.symm]; exact h46
    have i57 := i6.trans i7
    generalize upd H6 m (.ins (C_Sheet K) dx (shF tb l dl pd (.ref r))) = H7 at S7 i57 h17 h37 h47 i7 ⊢
    -- for pin in list(self.pins.values())
    refine ⟨_, rfl, m, _, dx, _, _, rfl, h17, T.k_Sheet, T.n_Sheet_pins, rfl, pd, [], rfl, h47, fun q q0 => ?_⟩
    obtain ⟨S8, i8, _⟩ := S7.pure (I := I) (same_new (o := .lst []) q0)
    refine ⟨q, rfl, ⟨_, SqL.of upd_same⟩, for_list (K := K) (a := q) (xs := []) (fun i σ1 H8 => H8 = upd H7 q (.lst [])) rfl (fun i σ1 H8 _ e => by rw [e]; exact SqL.of upd_same) (fun i y σ1 H8 e => by simp at e) (fun σ1 H8 e => ?_)⟩
    subst e
    refine k _ S8 ⟨dx, l, dl, pd, .ref r, same_new q0 _ _ h17, (i57.trans i8) _ _ il, ⟨_, same_new q0 _ _ h37, Paired.mapP (paired_app hdp5 (paired_one hnew)) fun _ _ => DeedV.mono (i57.trans i8)⟩, same_new q0 _ _ h47, rfl, nd⟩
abbrev N_Sheet_change : List Str := ["self", "change"]
theorem sc_Sheet_change : FnScope N_Sheet_change ["self", "change"] (defScope s_Sheet_change) := ⟨rfl, rfl, rfl, by decide +kernel, rfl, by decide +kernel, by decide +kernel⟩
theorem ok_Sheet_change (T : Txt K mg) : FnR P w K mg base CX0 8 (He.ma K (He.ga K "Sheet") "change") (spAlter K) := by
  have G_Sheet_alter := ok_Sheet_alter (P := P) (w := w) (base := base) T
  refine fnr_of T.d_Sheet_change sc_Sheet_change (fun vs H Q E h => ?_) (fun _ _ _ _ _ _ us hl => match us, hl with | [_, _], _ => rfl) (fun cdv A outer s H vs Q E hr h => ?_)
  · obtain ⟨m, tb, c, F, row, olds, I, S, gs, rfl, _⟩ := h
    rfl
  · obtain ⟨m, tb, c, F, row, olds, I, S, gs, rfl, hIn, hT, hC, hn, z1, z2, z3, hS, z4, k⟩ := h
    obtain ⟨cx, cl, cit, hc1, hc2, _⟩ := id (hC.mono hIn.sI)
    obtain ⟨dx, r, dl, pd, ah, h1, _⟩ := hIn.at'.ex
    refine ⟨_, (pss_cons (ps_if (pt_not (pt_val (pe_callB call_isi (by rfl) T.g_isinstance (by decide +kernel) (pa_cons (pv 1) (pa_cons (pe_glob (v := .ref _) (by rfl) T.c_Change rfl) pa_nil))))) (pss_one ps_never) pss_nil)
      (pss_one (ps_expr (pe_methR (pv 0) T.k_Sheet T.m_Sheet_alter G_Sheet_alter (hr.mono (by decide)) pass0 (pa_cons (pv 1) pa_nil))))), ?_⟩
    refine ⟨_, rfl, _, _, _, _, _, rfl, .own _, tyx_ins hc1 T.i_Change, T.i_Change.me, true, rfl, iteF ?_⟩
    exact ⟨_, rfl, m, dx, _, rfl, h1, rfl, _, rfl, m, tb, c, F, row, olds, I, S, gs, rfl, hIn, hT, hC, hn, z1, z2, z3, hS, z4, k⟩
abbrev N_Sheet_undo : List Str := ["self", "row", "stood", "back", "name", "pin", "old", "at"]
theorem sc_Sheet_undo : FnScope N_Sheet_undo ["self"] (defScope s_Sheet_undo) := ⟨rfl, rfl, rfl, by decide +kernel, rfl, by decide +kernel, by decide +kernel⟩
def spUndo (K : PySem.W.Frag) : Sp := fun vs H Q _ => ∃ (m tb : Addr) (F : List Addr) (row old : List Int) (olds : List (List Int)) (I : Hp), vs = [.ref m] ∧ ShIn K I H m tb F row (olds ++ [old]) ∧ ∀ H', Stp H F H' F → ShAt K (nextI I H H' F) H' m tb F old olds → Q .non H'
theorem ok_Sheet_undo (T : Txt K mg) : FnR P w K mg base CX0 1 (He.ma K (He.ga K "Sheet") "undo") (spUndo K) := by
  refine fnr_of T.d_Sheet_undo sc_Sheet_undo (fun vs H Q E h => ?_) (fun _ _ _ _ _ _ us hl => match us, hl with | [_], _ => rfl) (fun cdv A outer s H vs Q E hr h => ?_)
  · obtain ⟨m, tb, F, row, old, olds, I, rfl, _⟩ := h
    rfl
  · obtain ⟨m, tb, F, row, old, olds, I, rfl, ⟨sI, hF, hM⟩, k⟩ := h
    have th := hM.there
    obtain ⟨dx, r, dl, pd, ah, h1, h2, ⟨dits, h3, h3p⟩, h4, rfl, nd⟩ := hM
    have hdl : dits.length = olds.length + 1 := by rw [paired_len h3p, List.length_append]; rfl
    have n1 : m ≠ dl ∧ m ≠ pd ∧ dl ≠ pd := by
      simp only [List.nodup_cons, List.mem_cons, List.not_mem_nil, or_false, not_or] at nd
      exact ⟨nd.1.1, nd.1.2, nd.2.1⟩
    -- the last one
    obtain ⟨y, hy⟩ : ∃ y, dits[dits.length - 1]? = some y := ⟨_, List.getElem?_eq_getElem (by omega)⟩
    obtain ⟨o', ho', hyV⟩ := paired_get h3p hy
    have eo : o' = old := by
      rw [show dits.length - 1 = olds.length by omega, List.getElem?_append_right (Nat.le_refl _), Nat.sub_self] at ho'
      simpa using ho'.symm
    subst eo
    obtain ⟨t, r2, st, bk, rfl, ht, hr2⟩ := hyV
    have hdrop : Paired (DeedV I) dits.dropLast olds := by
      have h := paired_take (dits.length - 1) h3p
      rw [← List.dropLast_eq_take, show dits.length - 1 = olds.length by omega, List.take_left'  rfl] at h
      exact h
    refine ⟨_, (pss_cons (ps_if (pt_cmpR (op_eqNil hr.units0) (pe_fld (pv 0) rfl) (pe_lst pa_nil) (nomark _)) (pss_one ps_never) pss_nil)
      (pss_cons (ps_asg (pe_bm0 PySem.F.plainAttrs_list PySem.F.slot_list_pop PySem.F.type_list_pop mt_pop (pe_fld (pv 0) rfl)) (pg_tup rfl (pgs_cons (pg_name (i := 1) sc_Sheet_undo.nd rfl (Or.inl rfl)) (pgs_cons (pg_name (i := 2) sc_Sheet_undo.nd rfl (Or.inl rfl)) (pgs_cons (pg_name (i := 3) sc_Sheet_undo.nd rfl (Or.inl rfl)) pgs_nil)))))
      (pss_cons (ps_lock (ps_for PassesOwn.never rfl (pi_items (pe_fld (pv 0) rfl)) pg_never (pss_cons ps_never (pss_one ps_never))))
      (pss_cons (ps_fld (pv 0) (pe_fld (pv 0) rfl) rfl)
      (pss_one (ps_fld (pv 0) (pv 1) rfl)))))), ?_⟩
    refine ⟨_, rfl, m, _, dx, _, _, rfl, h1, T.k_Sheet, T.n_Sheet_deeds, rfl, (by show 0 ≤ sizeLine; decide), fun e e0 => ?_⟩
    have s1 := same_new (o := HO.lst []) e0
    refine ⟨dl, e, dits, rfl, rfl, SqL.of (s1 _ _ h3), SqL.of upd_same, _, rfl, ?_⟩
    have hemp : dits.isEmpty = false := by
      cases dits with
      | nil => simp at hdl
      | cons _ _ => rfl
    rw [hemp]
    refine iteF ?_
    have S0 : Stp H [m, dl, pd] H [m, dl, pd] := .refl th
    have i0 : Same I (nextI I H H [m, dl, pd]) := S0.mono sI hF
    obtain ⟨S1, i1, _⟩ := S0.pure (I := I) s1
    have i01 := i0.trans i1
    have h11 := s1 _ _ h1
    have h31 := s1 _ _ h3
    have h41 := s1 _ _ h4
    have ht1 := s1 _ _ (sI _ _ ht)
    have tdl : t ≠ dl := fun z => by rw [z, hF _ (by simp)] at ht; cases ht
    have tpd : t ≠ pd := fun z => by rw [z, hF _ (by simp)] at ht; cases ht
    generalize upd H e (HO.lst []) = H1 at S1 i01 h11 h31 h41 ht1 ⊢
    -- row, stood, back = self.deeds.pop()
    refine ⟨_, rfl, m, _, dx, _, _, rfl, h11, T.k_Sheet, T.n_Sheet_deeds, rfl, .inl ⟨rfl, _, SqL.of h31⟩, dl, dits, _, rfl, rfl, h31, hy, t, _, rfl, SqT.of (by rw [upd_ne tdl]; exact ht1), rfl, _, _, rfl, _, _, rfl, _, _, rfl, rfl, ?_⟩
    obtain ⟨S2, i2⟩ := S1.set (I := I) (a := dl) (o := .lst dits.dropLast) (by simp)
    have i02 := i01.trans i2
    have h12 : (upd H1 dl (.lst dits.dropLast)) m = some (.ins (C_Sheet K) dx (shF tb r dl pd ah)) := by rw [upd_ne n1.1]; exact h11
    have h32 : (upd H1 dl (.lst dits.dropLast)) dl = some (.lst dits.dropLast) := upd_same
    have h42 : (upd H1 dl (.lst dits.dropLast)) pd = some (.dK []) := by rw [upd_ne n1.2.2.symm]; exact h41
    generalize upd H1 dl (.lst dits.dropLast) = H2 at S2 i02 h12 h32 h42 ⊢
    -- the pins
    refine ⟨pd, _, h42, trivial, fun od => ?_⟩
    refine ⟨_, rfl, m, _, dx, _, _, rfl, (by rw [upd_ne n1.2.1]; exact h12), T.k_Sheet, T.n_Sheet_pins, rfl, pd, od, [], rfl, upd_same, ?_⟩
    refine ⟨fun i μ σ1 H4 => i = 0 ∧ σ1 = _ ∧ H4 = upd H2 pd (.frz od (.dK [])), ⟨0, rfl, rfl, rfl⟩, ?_⟩
    rintro i μ σ1 H4 ⟨rfl, rfl, rfl⟩
    refine .inl ⟨⟨upd_same, Nat.le_refl _⟩, upd_same, ?_⟩
    rw [upd_back h42]
    -- self.ahead = self.row; self.row = row
    refine ⟨_, rfl, m, _, dx, _, _, rfl, h12, T.k_Sheet, T.n_Sheet_row, rfl, _, rfl, m, _, dx, _, rfl, h12, T.k_Sheet, T.n_Sheet_ahead, (by show 5 < 1000; decide), ?_⟩
    refine ⟨_, rfl, _, rfl, m, _, dx, _, rfl, upd_same, T.k_Sheet, T.n_Sheet_row, (by show 5 < 1000; decide), ?_⟩
    rw [upd_upd]
    have eH : upd H2 m (.ins (C_Sheet K) dx (putF ("row" : Str) (.ref r2) (putF ("ahead" : Str) (.ref r) (shF tb r dl pd ah)))) = upd H2 m (.ins (C_Sheet K) dx (shF tb r2 dl pd (.ref r))) := rfl
    rw [eH]
    obtain ⟨S3, i3⟩ := S2.set (I := I) (a := m) (o := .ins (C_Sheet K) dx (shF tb r2 dl pd (.ref r))) (by simp)
    exact k _ S3 ⟨dx, r2, dl, pd, .ref r, upd_same, (i02.trans i3) _ _ hr2, ⟨_, by rw [upd_ne n1.1.symm]; exact h32, Paired.mapP hdrop fun _ _ => DeedV.mono (i02.trans i3)⟩, by rw [upd_ne n1.2.1.symm]; exact h42, rfl, nd⟩
end
end K94
set_option maxRecDepth 100000
set_option maxHeartbeats 4000000
/-! K94R3: a set made of a list of ints. -/
namespace K94
open PySem PySem.Spec PyProof.Rows L2
abbrev noSet (w : World) : Obj := { cls := .type "set", dict := none, data := .set #[] 0 (.fresh 0 0 (!w.params.followText "set-order")) }
section
variable {P : Program} {w : World} {A : Around} {E : Value → Shared → Prop} {s : Shared}
/-- set(l), l a list of ints -/
theorem set_of_ints {l : Addr} {its : Array Value} (ks : List Int) {Q : Value → Shared → Prop} (calm : A.handled = none) (isL : s.heap.IsList l its) (allI : IntsAre its.toList ks) (room : ks.length + 1 < scanBound)
    (out : ∀ (h' : Heap) (tk n : Nat), SetR w h' s.heap.objs.size (fun j => decide (j ∈ ks)) n → n ≤ ks.length → (∀ b o, s.heap.get? b = some o → h'.get? b = some o) → Q (.ref s.heap.objs.size) { s with heap := h', toks := tk }) :
    wpAny (model P w) A (call (.type "set") [.ref l]) Q E s := by
  have many : its.size = ks.length := by rw [← IntsAre.length allI, Array.length_toList]
  obtain ⟨c, tl, mro⟩ := F.called_set.mro
  have m1 := F.called_set.made
  have m2 := F.called_set.sub
  have m3 := F.called_set.notType
  have m4 := F.called_set.canCreate
  have m5 := F.typeCall_set_1 (.ref l)
  refine wpAny_call (codeAny_of_tree (show wpAny _ _ (callAny (.type "set") _) _ _ _ from ?_))
  refine wpAny_pure ⟨Code.quiet_builtin _ (by decide +kernel), codeAny_builtin F.entry_type_call ?_⟩
  rw [Around.under_plain (weight_type_call_type "set" [.ref l] []) rfl]
  repeat (any_goals (first | assumption | wp_step))
  refine codeAny_mono (code_set_led1 (.ref l) (E := E) (Q₁ := fun v z => v = .ref s.heap.objs.size ∧ z = { s with heap := s.heap.push (noSet w) }) ⟨rfl, rfl⟩) fun r z hr => ?_
  match r, hr with
  | .error e, hr => exact hr
  | .ok .next, hr => exact hr.elim
  | .ok .brk, hr => exact hr.elim
  | .ok .cont, hr => exact hr.elim
  | .ok (.ret v), ⟨ev, ez⟩ =>
    cases ev
    cases ez
    have hS : (s.heap.push (noSet w)).get? s.heap.objs.size = some (noSet w) := Heap.get?_push_size _ rfl
    have hT : Shared.TypeIs { s with heap := s.heap.push (noSet w) } (.ref s.heap.objs.size) "set" := ⟨_, hS, rfl⟩
    have m6 := F.called_set.init.lookup
    have m7 := F.called_set.init.bind (.ref s.heap.objs.size)
    repeat (any_goals (first | assumption | wp_step))
    refine codeAny_mono (codeAny_call_builtin (R := wants (fun r z => r = .none ∧ ∃ h' tk n, z = { s with heap := h', toks := tk } ∧ SetR w h' s.heap.objs.size (fun j => decide (j ∈ ks)) n ∧ n ≤ ks.length ∧ (∀ b o, s.heap.get? b = some o → h'.get? b = some o)) E) F.called_set.init.plain F.entry_set_init (check_set_init_1 hT ?_)) fun r2 z2 hr2 => ?_
    · obtain ⟨⟨_, dict, _, slots⟩, at1, rfl, cap, rfl⟩ := isL
      have at2 : (s.heap.push (noSet w)).get? l = some { cls := .type "list", dict := dict, data := .seq its cap, slots := slots } := Heap.get?_push_of_some _ at1
      have f1 := F.sub_list_set
      have f2 := F.sub_list_frozenset
      have f3 : (Value.type "list" == Value.type "dict") = false := by decide
      have isL2 : (s.heap.push (noSet w)).IsList l its := ⟨_, at2, rfl, cap, rfl⟩
      unfold Builtin.«set.__init__» noKeywords Builtin.Frozenset.updateFrom
      generalize kp : pyIter = PI
      wp_walk
      subst kp
      refine wpAny_pyIter_list isL2 (wpAny_bind (wpAny_runValue ?_))
      have below : l < s.heap.objs.size := Heap.lt_size at1
      have sz : (s.heap.push (noSet w)).objs.size = s.heap.objs.size + 1 := Heap.size_push ..
      have apart : l ≠ (s.heap.push (noSet w)).objs.size := by rw [sz]; exact Nat.ne_of_lt (Nat.lt_succ_of_lt below)
      refine set_update_ints ((Walks.list (by simp [calm]) _ l apart its).toS) s.heap.objs.size (by rw [sz]; simp only [List.mem_cons, List.not_mem_nil, or_false, not_or]; exact ⟨Nat.ne_of_lt (Nat.lt_succ_self _), Nat.ne_of_gt below⟩) ks many room (fun i v hv => ?_) (its.size - 0) 0 _ (by omega) (Nat.zero_le _) ⟨⟨_, Heap.get?_push_size _ rfl, rfl, rfl⟩, isL2.push _⟩
        ⟨0, Nat.le_refl 0, setR_new_at (Heap.get?_push_of_some _ hS)⟩ fun z n moved hn got => ?_
      · have hi : i < ks.length := by rw [← many]; exact (Array.getElem?_eq_some_iff.mp hv).1
        obtain ⟨t, e⟩ := IntsAre.int_at allI i v (by rw [Array.getElem?_toList]; exact hv)
        exact ⟨ks[i], t, List.getElem?_eq_getElem hi, by rw [e, List.getD_eq_getElem?_getD, List.getElem?_eq_getElem hi]; rfl⟩
      · obtain ⟨h', g, d, tk, os⟩ := z
        cases (show g = s.gens from moved.gens)
        cases (show d = s.drawn from moved.drawn)
        cases (show os = s.os from moved.os)
        refine (show wpAny _ _ _ _ _ _ from wpAny_pure (show wpAny _ _ (ret Value.none) _ _ _ from wpAny_pure ⟨rfl, h', tk, n, rfl, got, by rw [many] at hn; exact hn, fun b o e => ?_⟩))
        have lt := Heap.lt_size e
        refine moved.heap b o ?_ (Heap.get?_push_of_some _ (Heap.get?_push_of_some _ e))
        rw [sz]
        simp only [List.mem_cons, List.not_mem_nil, or_false, not_or]
        exact ⟨Nat.ne_of_lt lt, Nat.ne_of_lt (Nat.lt_succ_of_lt lt)⟩
    · match r2, hr2 with
      | .error e, hr2 => exact hr2
      | .ok .next, hr2 => exact hr2.elim
      | .ok .brk, hr2 => exact hr2.elim
      | .ok .cont, hr2 => exact hr2.elim
      | .ok (.ret v2), ⟨e1, h', tk, n, e2, g1, g2, g3⟩ =>
        cases e1
        cases e2
        repeat (any_goals (first | assumption | wp_step))
        exact out _ _ _ g1 g2 g3
end
end K94
set_option maxRecDepth 100000
set_option maxHeartbeats 4000000
/-! K94R4: sets as values. -/
namespace K94
open PySem PySem.Spec PyProof.Rows L2
def rSetL (K : PySem.W.Frag) (w : World) : List V → Hp → VK → Prop := fun xs H Q => ∃ (l : Addr) (ks : List Int), xs = [.ref l] ∧ SqL K H l (ks.map V.int) ∧ ks.length < 60 ∧ ∀ p n, H p = none → n ≤ ks.length → Q (.ref p) (upd H p (SetO w p (fun j => decide (j ∈ ks)) n))
theorem cr_setL {X : Cx} (calm : X.calm = true) : CallR X (.type "set") (rSetL X.K X.w) := by
  intro pins s σ H xs us Q I r want
  obtain ⟨l, ks, rfl, isL, few, want⟩ := want
  obtain ⟨u, rfl, ru⟩ := vals1 r
  obtain rfl : u = Value.ref l := ru
  obtain ⟨its, rv, pl, _⟩ := I.list isL
  refine set_of_ints ks (I.ok.hd calm) pl.isList (by simpa using rv.ints) (by unfold scanBound; omega) fun h' tk n got le grow => ?_
  exact ⟨.ref s.heap.objs.size, upd H s.heap.objs.size (SetO X.w s.heap.objs.size (fun j => decide (j ∈ ks)) n), I.laid (t' := tk) grow (Nat.le_refl _) (setO_new got), rfl, want _ _ (I.hok.fresh (Nat.le_refl _)) le⟩
/-- len(a set of tuples) -/
def rLenTO (K : PySem.W.Frag) (P : Program) (w : World) : List V → Hp → VK → Prop := fun xs H Q => ∃ (a : Addr) (L : List (Addr × List Int)), xs = [.ref a] ∧ H a = some (SetTO P w a L) ∧ (∀ p ∈ L, SqT K H p.1 (p.2.map V.int)) ∧ ((L.map (·.2)).Nodup → L.length < 64 → Q (.int L.length) H)
theorem cr_lenTO {X : Cx} (calm : X.calm = true) : CallR X (.builtin "len") (rLenTO X.K X.prog X.w) := by
  intro pins s σ H xs us Q I r want
  obtain ⟨a, L, rfl, ha, tups, want⟩ := want
  obtain ⟨u, rfl, ru⟩ := vals1 r
  obtain rfl : u = Value.ref a := ru
  obtain ⟨es, ep, t, R⟩ := ((I.hok a _ ha).1 : SetT0 X.prog X.w s.heap a L).full fun p hp => I.isT (tups p hp)
  obtain ⟨o, ho, exact', data⟩ := R.ob
  have size := R.size
  have few := R.few
  refine call_len_set ho exact' data R.fits (by rw [size]; omega) ⟨.int L.length, H, I.tok _, ⟨_, by rw [size]⟩, want R.nd few⟩
end K94
set_option maxRecDepth 100000
set_option maxHeartbeats 4000000
/-! K94R5: a dict comprehension whose keys are tuples. -/
namespace K94
open PySem PySem.Spec PyProof.Rows L2
section
variable {X : Cx} {pins : List (Addr × Obj)} {σ : L2.St} {H : Hp} {s : Shared}
/-- a tuple key is put in by a comprehension -/
theorem put_tupKey {E : Value → Shared → Prop} {D b : Addr} {rows : List (List Key × V)} {k : List Key} {v : V} {r : Value} {Q : Unit → Shared → Prop} (room : X.A.units + 1 < cLine) (I : Inv X pins σ H s) (hD : H D = some (.dT rows)) (hb : H b = some (.tup (k.map kV))) (less : rows.length < sizeLine) (rv : RelV v r)
    (then_ : ∀ s', Inv X pins σ (upd H D (.dT (putK rows k v))) s' → Q () s') : wpAny (model X.prog X.w) X.A (dictSet D (.ref b) r) Q E s := by
  obtain ⟨fit, notSys, xs, rel, isD⟩ := dt_of I.hok hD
  have long : (putK rows k v).length ≤ sizeLine := by have := length_putK rows k v; omega
  refine wpAny_dictSet_heap (hsz := by rw [← Paired.length rel]; exact fit) (by show X.A.units < cLine; omega) (key_of I.hok hb) isD fun h' ⟨o, es, ep, g1, g2, g3, g4, g5, g6⟩ same => then_ _ ?_
  exact d_write I (by rw [hD]; exact True.intro) same ⟨o, g1⟩ ⟨long, notSys, _, (rel.put k hb rv).keeps fun c ys e => by rw [upd_ne (ne_of e hD fun z => nomatch z)]; exact e, o, es, ep, g1, g2, g3, g4, g6⟩
end
/-- {k: v for target in iter if ..}, every key a tuple: D the new dict -/
def tDcT (wi : TI) (g : TG) (tt : TT) (tk tv : TE) (own : List Nat) : TE := fun σ H Q => wi σ H fun J H1 => ∀ D, H1 D = none → ∃ W : Nat → Nat → Hp → Prop, (∃ m, W 0 m (upd H1 D (.dT []))) ∧ ∀ i m H, W i m H →
  (J.stop i H ∧ Q (.ref D) H) ∨ (J.go i H ∧ ∃ N : Hp → Prop, (∀ H', N H' → ∃ m', m' < m ∧ W (i + 1) m' H') ∧ ∀ x H', J.yld i H x H' → g x (wipe σ own) H' fun σ2 H2 => wipe σ2 own = wipe σ own ∧ tt σ2 H2 fun b H3 =>
    if b = true then tk σ2 H3 fun y H4 => tv σ2 H4 fun z H5 => ∃ rows k b, y = .ref b ∧ H5 b = some (.tup (k.map kV)) ∧ H5 D = some (.dT rows) ∧ rows.length < sizeLine ∧ N (upd H5 D (.dT (putK rows k z))) else N H3)
section
variable {X : Cx}
theorem pe_dcT {k v t e : Expr} {tests : List Expr} {inner : Scope} {own : List (Str × Nat)} {pos : Pos} {wi : TI} {g : TG} {tt : TT} {tk tv : TE} (calm : X.calm = true) (room : X.A.units + 1 < cLine) (nd : X.N.Nodup) (pi : PI X t e wi) (blk : BlkOk X.N X.env.scope inner own)
    (pg : ∀ (s : Shared) (H : Hp) (C : Addr) (cl : List (Str × Addr)) (fp : List Addr), PG (X.blk s H inner (compEnvC inner cl C X.env) fp) t g)
    (pt : ∀ (s : Shared) (H : Hp) (C : Addr) (cl : List (Str × Addr)) (fp : List Addr), PTs (X.blk s H inner (compEnvC inner cl C X.env) fp) tests tt)
    (pk : ∀ (s : Shared) (H : Hp) (C : Addr) (cl : List (Str × Addr)) (fp : List Addr), PE (X.blk s H inner (compEnvC inner cl C X.env) fp) k tk)
    (pw : ∀ (s : Shared) (H : Hp) (C : Addr) (cl : List (Str × Addr)) (fp : List Addr), PE (X.blk s H inner (compEnvC inner cl C X.env) fp) v tv) (fold : ∀ x, foldedSetIterable e X.env x = pure x := by intro _; rfl) :
    PE X (.DictComp k v [⟨t, e, tests, 0⟩] inner pos) (tDcT wi g tt tk tv (own.map (·.2))) := by
  refine ⟨fun pins s σ H Q I want => ?_⟩
  rw [arm_eval_DictComp]
  have cells : ∀ y ∈ inner.names, y.2 = .free → ∃ c, X.env.cells.lookup y.1 = some c := fun y hy q => (blk.free y hy q).elim (fun z => I.ok.has _ (.inl z)) fun z => I.ok.has _ (.inr z)
  refine wpAny_comprehension_free rfl fold (closure_ok cells) blk.kind (fun y hy q => by rw [blk.uniq y hy, q]) (thn (pi.run pins s σ H _ I want) fun _ s1 made => thn made fun _ s2 got => ?_)
  obtain ⟨it, fp, state, J, H2, rfl, I2, turn, st2, free2, want⟩ := got
  refine wpAny_newObj_type (newEnv_comp ?_)
  obtain ⟨D, hD⟩ : ∃ D, D = s2.heap.objs.size := ⟨_, rfl⟩
  rw [← hD]
  obtain ⟨W, ⟨m0, w0⟩, go⟩ := want D (I2.hok.fresh (Nat.le_of_eq hD.symm))
  obtain ⟨s3, hs3⟩ : ∃ z : Shared, z = { s2 with heap := s2.heap.push { cls := .type "dict", data := .dict #[] } } := ⟨_, rfl⟩
  have heap3 : s3.heap = s2.heap.push { cls := .type "dict", data := .dict #[] } := by rw [hs3]
  have I3 : Inv X pins σ (upd H2 D (.dT [])) s3 := by
    rw [hs3, hD]
    exact I2.laid (t' := s2.toks) (fun b o q => Heap.get?_push_of_some _ q) (Nat.le_refl _) (dt_empty s2.heap I2.big)
  have old : ∀ b ∈ fp, b < s2.heap.objs.size := fun b hb => let ⟨_, q, _⟩ := turn.obj _ _ st2 b hb; Heap.lt_size q
  have free3 : ∀ b ∈ fp, FpOk X pins (upd H2 D (.dT [])) b ∧ b < s3.heap.objs.size := fun b hb =>
    ⟨⟨by rw [upd_ne (by rw [hD]; exact Nat.ne_of_lt (old b hb))]; exact (free2 b hb).1, (free2 b hb).2⟩, by rw [heap3, Heap.size_push]; exact Nat.lt_succ_of_lt (old b hb)⟩
  have st3 : state 0 s3.heap := turn.keep _ _ _ st2 fun b _ o q => by rw [heap3]; exact Heap.get?_push_of_some _ q
  have I4 := block_start I3 blk nd free3
  have none3 : ∀ b ∈ fp, (upd H2 D (.dT [])) b = none := fun b hb => (free3 b hb).1.1
  have pg := pg s3 (upd H2 D (.dT [])) s3.heap.objs.size (cellsFrom (s3.heap.objs.size + 1) inner.names (cloFrom X.env.cells inner.names [])) fp
  have pt := pt s3 (upd H2 D (.dT [])) s3.heap.objs.size (cellsFrom (s3.heap.objs.size + 1) inner.names (cloFrom X.env.cells inner.names [])) fp
  have pk := pk s3 (upd H2 D (.dT [])) s3.heap.objs.size (cellsFrom (s3.heap.objs.size + 1) inner.names (cloFrom X.env.cells inner.names [])) fp
  have pw := pw s3 (upd H2 D (.dT [])) s3.heap.objs.size (cellsFrom (s3.heap.objs.size + 1) inner.names (cloFrom X.env.cells inner.names [])) fp
  rw [← hs3]
  show codeAny _ _ (.compStart (.DictComp k v [⟨t, e, tests, 0⟩] inner pos) 0 (.ref it) (.ref D) (compEnvC inner (cellsFrom (s3.heap.objs.size + 1) inner.names (cloFrom X.env.cells inner.names [])) s3.heap.objs.size X.env)) (compPost (model X.prog X.w) X.A X.xe none (EP X pins σ Q) (.ref D) s3.heap.objs.size) { s3 with heap := pushCells (s3.heap.push { cls := .type "dict", data := .dict #[] }) inner.names }
  have loc0 : (compEnvC inner (cellsFrom (s3.heap.objs.size + 1) inner.names (cloFrom X.env.cells inner.names [])) s3.heap.objs.size X.env).locals = s3.heap.objs.size := rfl
  generalize compEnvC inner (cellsFrom (s3.heap.objs.size + 1) inner.names (cloFrom X.env.cells inner.names [])) s3.heap.objs.size X.env = env at I4 pg pt pk pw loc0 ⊢
  generalize upd H2 D (.dT []) = H3 at I3 I4 pg pt pk pw w0 none3 free3
  obtain ⟨s4, hs4⟩ : ∃ z : Shared, z = { s3 with heap := pushCells (s3.heap.push { cls := .type "dict", data := .dict #[] }) inner.names } := ⟨_, rfl⟩
  rw [← hs4]
  have I4 : Inv (X.blk s3 H3 inner env fp) [] (wipe σ (own.map (·.2))) H3 s4 := by rw [hs4]; exact I4
  have st4 : state 0 s4.heap := turn.keep _ _ _ st3 fun b _ o q => by rw [hs4]; exact pushCells_keeps _ _ _ _ (Heap.get?_push_of_some _ q)
  -- what the iterator's objects are to the block
  have held : ∀ {σ' : L2.St} {H' : Hp} {s' : Shared}, Inv (X.blk s3 H3 inner env fp) [] σ' H' s' → (∀ b ∈ fp, H' b = none) → ∀ b ∈ fp, FpOk (X.blk s3 H3 inner env fp) [] H' b := fun J n b hb =>
    ⟨n b hb, (J.ok.exf b hb).1, J.ok.exfs b hb, .inl hb, fun x c => (J.ok.exf b hb).2 x c, fun q hq => absurd (show q ∈ ([] : List (Addr × Obj)) ++ [] from hq) List.not_mem_nil⟩
  have loop : codeAny (model X.prog X.w) X.A (.compLoop (.DictComp k v [⟨t, e, tests, 0⟩] inner pos) 0 (.ref it) (.ref D) env) (compPost (model X.prog X.w) X.A X.xe none (EP X pins σ Q) (.ref D) s3.heap.objs.size) s4 := by
    refine compLoop_anyD (fun n z => ∃ i H', Inv (X.blk s3 H3 inner env fp) [] (wipe σ (own.map (·.2))) H' z ∧ state i z.heap ∧ (∀ b ∈ fp, H' b = none) ∧ W i n H') (fun n z ⟨i, H5, I5, st5, n5, w5⟩ => ?_) m0 ⟨0, H3, I4, st4, none3, w0⟩
    rcases go i n H5 w5 with ⟨stop, last⟩ | ⟨gone, N, more, turn1⟩
    · refine thnF (turn.done (X.blk s3 H3 inner env fp) rfl rfl rfl calm i [] z _ H5 (fun _ _ => False) I5 (held I5 n5) st5 stop) fun r z2 ⟨er, I6⟩ => ?_
      subst er
      have I7 : Inv X pins σ H5 z2 := I3.call' (ch := fp) I6.os I6.base I6.hok I6.bare fun b hb => ⟨(free3 b hb).1.2.2.2.1, (free3 b hb).1.2.1, (free3 b hb).1.2.2.2.2.1, (free3 b hb).1.2.2.2.2.2⟩
      have free : H5 s3.heap.objs.size = none := by rw [← loc0]; exact I6.free
      obtain ⟨names, isNs, _⟩ := I6.loc
      have isNs : z2.heap.Ns s3.heap.objs.size names := by rw [← loc0]; exact isNs
      obtain ⟨f0, f1, f2, f3, f4, f5⟩ := I3.fpOk (Nat.le_refl _) free
      exact ⟨names, isNs, fun h'' but => ⟨.ref D, H5, I7.turned (t' := z2.toks) (fun b o hb q => (but.2 b hb).trans q) f0 f1 f3 f4 f5, rfl, last⟩⟩
    · refine thnF (turn.item (X.blk s3 H3 inner env fp) rfl rfl rfl calm i [] z _ H5 (fun _ _ => False) I5 (held I5 n5) st5 gone) fun r z6 ⟨u, er, h6⟩ => ?_
      subst er
      refine thnF h6 fun _ z7 ⟨x, H7, I7, rx, yl, st7, n7⟩ => ?_
      have I7' := I7.pinned (held I7 n7) (turn.obj _ _ st7)
      refine thnF (pg.run _ z7 _ H7 x u _ I7' rx (turn1 x H7 yl)) fun _ z8 ⟨σ8, H8, I8, wiped, q8⟩ => thnF (pt.run _ z8 σ8 H8 _ I8 q8) fun b z9 ⟨H9, I9, q9⟩ => ?_
      have close : ∀ {z' : Shared} {H' : Hp}, Inv (X.blk s3 H3 inner env fp) ([] ++ pinsAt fp z7.heap) σ8 H' z' → N H' → ∃ m, m < n ∧ ∃ i H', Inv (X.blk s3 H3 inner env fp) [] (wipe σ (own.map (·.2))) H' z' ∧ state i z'.heap ∧ (∀ b ∈ fp, H' b = none) ∧ W i m H' := fun {z' H'} J hN => by
        obtain ⟨m', lt, w'⟩ := more H' hN
        have kept : ∀ b ∈ fp, ∀ o, z7.heap.get? b = some o → z'.heap.get? b = some o ∧ H' b = none := fun b hb o q =>
          have y := J.pin (b, o) (List.mem_append_right _ (List.mem_append_right _ (mem_pinsAt hb q)))
          ⟨y.1, y.2.1⟩
        refine ⟨m', lt, i + 1, H', (J.unpinned (pins := [])).weak (by rw [← wiped, wipe_length]) (fun j y q => ?_), turn.keep _ _ _ st7 fun b hb o q => (kept b hb o q).1, fun b hb => ?_, w'⟩
        · rw [← wiped] at q
          exact (wipe_some q).1
        · obtain ⟨o, q, _⟩ := turn.obj _ _ st7 b hb
          exact (kept b hb o q).2
      cases b with
      | false =>
        simp only [Bool.false_eq_true, if_false] at q9 ⊢
        exact close I9 q9
      | true =>
        simp only [if_true] at q9 ⊢
        refine thnF (pk.run _ z9 σ8 H9 _ I9 q9) fun kv z10 ⟨yk, H10, I10, rk, q10⟩ => thnF (pw.run _ z10 σ8 H10 _ I10 q10) fun vv z11 ⟨yv, H11, I11, rv, rows, key, b, ek, tup, hD11, few, hN⟩ => ?_
        subst ek
        obtain rfl : kv = Value.ref b := rk
        exact put_tupKey (X := X.blk s3 H3 inner env fp) room I11 hD11 tup few rv fun z12 I12 => close I12 hN
  exact codeAny_compStart_dict loop (turn.self X.A 0 _ _ _ st4 loop)
end
end K94
set_option maxRecDepth 100000
set_option maxHeartbeats 4000000
/-! K94N: signs, ready ones. -/
namespace K94
open PySem PySem.Spec PyProof.Rows L2
theorem lc_tup0 {K : PySem.W.Frag} {a : Addr} {xs : List V} {g : TG} {te : TE} {vs : List Nat} {σ : L2.St} {H1 : Hp} {D : Addr} {Qd : Hp → Prop} (Pv : Nat → Hp → Prop) (h0 : Pv 0 (upd H1 D (.lst []))) (hl : ∀ i H, i ≤ xs.length → Pv i H → SqT K H a xs)
    (hs : ∀ i x H, xs[i]? = some x → Pv i H → g x (wipe σ vs) H fun σ2 H2 => wipe σ2 vs = wipe σ vs ∧ te σ2 H2 fun y H4 => ∃ acc, H4 D = some (.lst acc) ∧ acc.length < sizeLine ∧ Pv (i + 1) (upd H4 D (.lst (acc ++ [y])))) (hd : ∀ H, Pv xs.length H → Qd H) :
    ∃ W : Nat → Nat → Hp → Prop, (∃ m, W 0 m (upd H1 D (.lst []))) ∧ ∀ i m H, W i m H → ((Itt K a).stop i H ∧ Qd H) ∨ ((Itt K a).go i H ∧ ∃ Nx : Hp → Prop, (∀ H', Nx H' → ∃ m', m' < m ∧ W (i + 1) m' H') ∧ ∀ x H', (Itt K a).yld i H x H' → g x (wipe σ vs) H' fun σ2 H2 => wipe σ2 vs = wipe σ vs ∧ tYes σ2 H2 fun b H3 =>
        if b = true then te σ2 H3 fun y H4 => ∃ acc, H4 D = some (.lst acc) ∧ acc.length < sizeLine ∧ Nx (upd H4 D (.lst (acc ++ [y]))) else Nx H3) :=
  lc_it (tt := tYes) (walk_tup (K := K) (a := a) (xs := xs)) Pv h0 hl (fun i x H H' hi p y => by
    obtain ⟨e, hx⟩ := y
    subst e
    exact hs i x _ hx p) hd
section
variable {P : Program} {w : World} {K : PySem.W.Frag} {mg : Str → Option Value} {base : Heap}
abbrev N_is_word : List Str := ["thing", "words"]
theorem sc_is_word : FnScope N_is_word ["thing", "words"] (defScope s_is_word) := ⟨rfl, rfl, rfl, by decide +kernel, rfl, by decide +kernel, by decide +kernel⟩
def spIsWord (K : PySem.W.Frag) : Sp := fun vs H Q _ => ∃ (x : Str) (p : Addr) (xs : List V), vs = [.str x, .ref p] ∧ SqT K H p xs ∧ xs.all flatV = true ∧ inV (.str x) xs = true ∧ Q (.bl true) H
theorem ok_is_word (T : Txt K mg) : FnR P w K mg base CX0 1 (He.ga K "is_word") (spIsWord K) := by
  refine fnr_of T.d_is_word sc_is_word (fun vs H Q E h => ?_) (fun _ _ _ _ _ _ us hl => match us, hl with | [_, _], _ => rfl) (fun cdv A outer s H vs Q E hr h => ?_)
  · obtain ⟨x, p, xs, rfl, _⟩ := h
    rfl
  · obtain ⟨x, p, xs, rfl, hp, hf, hi, k⟩ := h
    refine ⟨_, (pss_one (ps_ret (pe_and (pe_callB call_isi (by rfl) T.g_isinstance (by decide +kernel) (pa_cons (pv 0) (pa_cons (pe_bltn (v := .ty "str") (by rfl) T.g_str (by decide +kernel) rfl) pa_nil))) (pe_one (pe_cmpR op_in_seq (pv 0) (pv 1) rfl))))), ?_⟩
    refine ⟨_, rfl, _, _, _, _, _, rfl, .ty _, .base (.str _), kit_str_str, true, rfl, iteT ?_⟩
    refine ⟨_, rfl, _, rfl, p, xs, rfl, .inr hp, rfl, hf, ?_⟩
    rw [show (if false = true then !inV (V.str x) xs else inV (V.str x) xs) = inV (V.str x) xs from rfl, hi]
    exact k
abbrev N_is_row : List Str := ["thing", "most", "one"]
theorem sc_is_row : FnScope N_is_row ["thing", "most"] (defScope s_is_row) := ⟨rfl, rfl, rfl, by decide +kernel, rfl, by decide +kernel, by decide +kernel⟩
def spIsRow (K : PySem.W.Frag) : Sp := fun vs H Q _ => ∃ (t : Addr) (ns : List Int) (most : Nat), vs = [.ref t, .int most] ∧ H t = some (.tup (ns.map V.int)) ∧ 1 ≤ ns.length ∧ ns.length ≤ most ∧ most ≤ 10 ∧ (∀ n ∈ ns, 0 ≤ n ∧ n ≤ 65535) ∧ ∀ H', Same H H' → Q (.bl true) H'
theorem ok_is_row (T : Txt K mg) : FnR P w K mg base CX0 4 (He.ga K "is_row") (spIsRow K) := by
  have G_is_number := ok_is_number (P := P) (w := w) (base := base) T
  refine fnr_of T.d_is_row sc_is_row (fun vs H Q E h => ?_) (fun _ _ _ _ _ _ us hl => match us, hl with | [_, _], _ => rfl) (fun cdv A outer s H vs Q E hr h => ?_)
  · obtain ⟨t, ns, most, rfl, _⟩ := h
    rfl
  · obtain ⟨t, ns, most, rfl, ht, l1, l2, l3, hn, k⟩ := h
    refine ⟨_, (pss_cons (ps_if (PW.pt (pw_or (pt_not (pt_val (pe_callB call_isi (by rfl) T.g_isinstance (by decide +kernel) (pa_cons (pv 0) (pa_cons (pe_bltn (v := .ty "tuple") (by rfl) T.g_tuple (by decide +kernel) rfl) pa_nil))))) (pw_or1 (pt_not (pt_chain op_le op_le pe_int (pe_callB call_len_seq (by rfl) T.g_len (by decide +kernel) (pa_cons (pv 0) pa_nil)) (pv 1)))))) (pss_one (ps_ret pe_bl)) pss_nil)
      (pss_one (ps_ret (pe_callB (cr_all rfl) (by rfl) T.g_all (by decide +kernel) (pa_cons (pe_lc (own := [("one", 2)]) rfl sc_is_row.nd (pi_tup (pv 0)) (blkOk_by (own := [("one", 2)]) (N := N_is_row) (sc := defScope s_is_row) (by decide +kernel)) (fun _ _ _ _ _ => (pg_name (i := 2) sc_is_row.nd rfl (Or.inl rfl) (Or.inr rfl))) (fun _ _ _ _ _ => pts_nil) (fun _ _ _ _ _ => (pe_callF G_is_number (hr.mono (by decide)) T.f_is_number T.kp_is_number (pa_cons (pv 2) pa_nil)))) pa_nil))))), ?_⟩
    refine ⟨_, rfl, _, _, _, _, _, rfl, .ty _, .base (.tup ht), kit_tuple_tuple, true, rfl, iteF ?_⟩
    refine ⟨_, rfl, t, _, rfl, .inr (SqT.of ht), _, _, rfl, rfl, _, rfl, ?_⟩
    have q1 : (ns.map V.int).length = ns.length := List.length_map ..
    refine iteD (fun _ => ?_) (fun c => absurd c (by rw [q1]; omega))
    refine ⟨_, rfl, _, _, rfl, rfl, _, rfl, ?_⟩
    rw [decide_eq_true (show ((ns.map V.int).length : Int) ≤ (most : Int) by rw [q1]; omega)]
    refine iteF ?_
    refine ⟨_, rfl, t, rfl, ⟨_, SqT.of ht⟩, fun D hD => ?_⟩
    have tD : t ≠ D := ne_of_none ht hD
    refine lc_tup0 (K := K) (a := t) (xs := ns.map V.int) (fun i H1 => H1 = upd H D (.lst ((List.replicate i true).map V.bl))) rfl (fun i H1 _ e => by rw [e]; exact SqT.of (by rw [upd_ne tD]; exact ht)) (fun i x H1 hx e => ?_) (fun H1 e => ?_)
    · subst e
      obtain ⟨n, hn', rfl⟩ := map_int_get hx
      have hi : i < ns.length := (List.getElem?_eq_some_iff.mp hn').1
      obtain ⟨b1, b2⟩ := hn n (List.mem_of_getElem? hn')
      refine ⟨rfl, _, rfl, n, rfl, b1, b2, _, upd_same, (by rw [List.length_map, List.length_replicate]; exact sl5 (by omega)), ?_⟩
      rw [upd_upd, List.replicate_succ', List.map_append]
      rfl
    · subst e
      refine ⟨D, _, rfl, SqL.of upd_same, ?_⟩
      rw [all_true]
      exact k _ (same_new hD)
/-! ### a sign, a ready one -/
abbrev C_Sign (K : PySem.W.Frag) : Addr := He.ga K "Sign"
abbrev C_Ready (K : PySem.W.Frag) : Addr := He.ga K "Ready"
def sgF (n : Int) (mark : Bool) : List (Str × V) := [("number", .int n), ("kind", .str (if mark then "mark" else "letter")), ("rank", .int (if mark then 3 else 0)), ("small", .non), ("great", .non), ("late", .non), ("fold", .non), ("way", .str "none"), ("wide", .int 1)]
def rdF (n : Int) (t : Addr) : List (Str × V) := [("number", .int n), ("parts", .ref t)]
def SgAt (K : PySem.W.Frag) (H : Hp) (x : Addr) (n : Int) (mark : Bool) : Prop := ∃ dx, H x = some (.ins (C_Sign K) dx (sgF n mark))
def RdAt (K : PySem.W.Frag) (H : Hp) (x : Addr) (n a b : Int) : Prop := ∃ dx t, H x = some (.ins (C_Ready K) dx (rdF n t)) ∧ H t = some (.tup [.int a, .int b])
abbrev N_Sign_init : List Str := ["self", "number", "kind", "rank", "small", "great", "late", "fold", "way", "wide", "least", "other"]
theorem sc_Sign_init : FnScope N_Sign_init ["self", "number", "kind", "rank", "small", "great", "late", "fold", "way", "wide"] (defScope s_Sign_init) := ⟨rfl, rfl, rfl, by decide +kernel, rfl, by decide +kernel, by decide +kernel⟩
def spSignInit (K : PySem.W.Frag) : Sp := fun vs H Q _ => ∃ (x dx : Addr) (n : Int) (mark : Bool) (H0 : Hp), vs = [.ref x, .int n, .str (if mark then "mark" else "letter"), .int (if mark then 3 else 0), .non, .non, .non, .non, .str "none", .int 1] ∧
  H0 x = none ∧ H0 dx = none ∧ dx ≠ x ∧ H = upd (upd H0 dx (.own x)) x (.ins (C_Sign K) dx []) ∧ 0 ≤ n ∧ n ≤ 65535 ∧ ∀ H', Same H0 H' → SgAt K H' x n mark → Q .non H'
theorem okK_Sign_init (T : Txt K mg) {fd : FuncData} (F : FunD K d_Sign_init.name d_Sign_init.qual d_Sign_init.params d_Sign_init.body d_Sign_init.scope (d_Sign_init.dvs K) (d_Sign_init.kws K) (He.fAd K d_Sign_init.at_) fd) :
    FnOk P w K mg base CX0 5 (He.ma K (He.ga K "Sign") "__init__") fd ["self", "number", "kind", "rank", "small", "great", "late", "fold", "way", "wide"] (spSignInit K) := by
  have G_needed := ok_needed (P := P) (w := w) (base := base) T
  have G_is_number := ok_is_number (P := P) (w := w) (base := base) T
  have G_is_word := ok_is_word (P := P) (w := w) (base := base) T
  have G_is_between := ok_is_between (P := P) (w := w) (base := base) T
  have G_is_row := ok_is_row (P := P) (w := w) (base := base) T
  refine FunD.ok F sc_Sign_init (fun vs H Q E h => ?_) fun cdv A outer s H vs Q E hr h => ?_
  · obtain ⟨x, dx, n, mark, H0, rfl, _⟩ := h
    rfl
  · obtain ⟨x, dx, n, mark, H0, rfl, x0, d0, ne, rfl, n0, n1, k⟩ := h
    have b0 : But x H0 (upd (upd H0 dx (.own x)) x (.ins (C_Sign K) dx [])) := but_new d0
    have hx : (upd (upd H0 dx (.own x)) x (.ins (C_Sign K) dx [])) x = some (.ins (C_Sign K) dx []) := upd_same
    generalize upd (upd H0 dx (.own x)) x (.ins (C_Sign K) dx []) = H at b0 hx ⊢
    refine ⟨_, PSs.nox ((pss_cons (ps_expr (pe_callF G_needed (hr.mono (by decide)) T.f_needed T.kp_needed (pa_cons (pe_and (pe_callF G_is_number (hr.mono (by decide)) T.f_is_number T.kp_is_number (pa_cons (pv 1) pa_nil)) (pe_one (pe_callF G_is_word (hr.mono (by decide)) T.f_is_word T.kp_is_word (pa_cons (pv 2) (pa_cons (pe_glob (v := .ref _) (by rfl) T.g_KINDS rfl) pa_nil))))) pa_nil)))
      (pss_cons (ps_set (i := 10) sc_Sign_init.nd rfl (Or.inl rfl) (pe_callTy call_int1 (by rfl) T.g_int (by decide +kernel) (pa_cons (pe_cmpR op_eq (pv 2) pe_str (nomark _)) pa_nil)))
      (pss_cons (ps_expr (pe_callF G_needed (hr.mono (by decide)) T.f_needed T.kp_needed (pa_cons (pe_callF G_is_between (hr.mono (by decide)) T.f_is_between T.kp_is_between (pa_cons (pv 3) (pa_cons (pv 10) (pa_cons (pe_op op_mul pe_int (pv 10)) pa_nil)))) pa_nil)))
      (pss_cons (ps_for PassesOwn.never rfl (pi_tup (pe_tup (pa_cons (pv 4) (pa_cons (pv 5) (pa_cons (pv 6) pa_nil))))) (pg_name (i := 11) sc_Sign_init.nd rfl (Or.inl rfl)) (pss_one (ps_expr (pe_callF G_needed (hr.mono (by decide)) T.f_needed T.kp_needed (pa_cons (pe_or (pe_cmpR op_isN (pv 11) pe_non (nomark _)) (pe_one (pe_and (pe_cmpR op_eq (pv 2) pe_str (nomark _)) (pe_one (pe_callF G_is_number (hr.mono (by decide)) T.f_is_number T.kp_is_number (pa_cons (pv 11) pa_nil)))))) pa_nil)))))
      (pss_cons (ps_expr (pe_callF G_needed (hr.mono (by decide)) T.f_needed T.kp_needed (pa_cons (pe_or (pe_cmpR op_isN (pv 7) pe_non (nomark _)) (pe_one (pe_and (pe_cmpR op_eq (pv 2) pe_str (nomark _)) (pe_one (pe_callF G_is_row (hr.mono (by decide)) T.f_is_row T.kp_is_row (pa_cons (pv 7) (pa_cons pe_int pa_nil))))))) pa_nil)))
      (pss_cons (ps_expr (pe_callF G_needed (hr.mono (by decide)) T.f_needed T.kp_needed (pa_cons (pe_and (pe_callF G_is_word (hr.mono (by decide)) T.f_is_word T.kp_is_word (pa_cons (pv 8) (pa_cons (pe_glob (v := .ref _) (by rfl) T.g_WAYS rfl) pa_nil))) (pe_one (pe_callF G_is_between (hr.mono (by decide)) T.f_is_between T.kp_is_between (pa_cons (pv 9) (pa_cons pe_int (pa_cons pe_int pa_nil)))))) pa_nil)))
      (pss_cons (ps_asg (pe_tup (pa_cons (pv 1) (pa_cons (pv 2) (pa_cons (pv 3) pa_nil)))) (pg_tup rfl (pgs_cons (pg_attr (pv 0)) (pgs_cons (pg_attr (pv 0)) (pgs_cons (pg_attr (pv 0)) pgs_nil)))))
      (pss_cons (ps_asg (pe_tup (pa_cons (pv 4) (pa_cons (pv 5) (pa_cons (pv 6) (pa_cons (pv 7) pa_nil))))) (pg_tup rfl (pgs_cons (pg_attr (pv 0)) (pgs_cons (pg_attr (pv 0)) (pgs_cons (pg_attr (pv 0)) (pgs_cons (pg_attr (pv 0)) pgs_nil))))))
      (pss_one (ps_asg (pe_tup (pa_cons (pv 8) (pa_cons (pv 9) pa_nil))) (pg_tup rfl (pgs_cons (pg_attr (pv 0)) (pgs_cons (pg_attr (pv 0)) pgs_nil)))))))))))))), ?_⟩
    -- needed(is_number(number) and is_word(kind, KINDS))
    refine ⟨_, rfl, n, rfl, n0, n1, true, rfl, iteT ?_⟩
    refine ⟨_, rfl, _, _, _, rfl, T.t_KINDS _, by decide +kernel, by cases mark <;> decide +kernel, rfl, ?_⟩
    -- least = int(kind == 'mark')
    refine ⟨_, rfl, rfl, .inr ⟨_, rfl, ?_⟩⟩
    have eL : (if decide (V.str (if mark = true then "mark" else "letter") = V.str "mark") = true then (1 : Int) else 0) = if mark = true then 1 else 0 := by cases mark <;> decide +kernel
    simp only [eL]
    -- needed(is_between(rank, least, 9 * least))
    refine ⟨_, rfl, _, rfl, _, rfl, _, _, rfl, rfl, .inl ⟨by decide, by decide⟩, _, _, _, rfl, ?_⟩
    refine ⟨by cases mark <;> decide +kernel, ?_⟩
    -- for other in (small, great, late)
    refine ⟨_, rfl, _, rfl, _, rfl, (by show 3 ≤ sizeLine; decide), fun t t0 => ⟨t, rfl, ⟨_, SqT.of upd_same⟩, for_tup (K := K) (a := t) (xs := [.non, .non, .non]) (fun i σ1 H1 => ∃ v, σ1 = [some (.ref x), some (.int n), some (.str (if mark = true then "mark" else "letter")), some (.int (if mark = true then 3 else 0)), some .non, some .non, some .non, some .non, some (.str "none"), some (.int 1), some (.int (if mark = true then 1 else 0)), v] ∧ H1 = upd H t (.tup [.non, .non, .non]))
      ⟨none, rfl, rfl⟩ (fun i σ1 H1 _ ⟨_, _, e⟩ => by rw [e]; exact SqT.of upd_same) ?_ ?_⟩⟩
    · rintro i y σ1 H1 hy ⟨v, rfl, rfl⟩
      have ey : y = .non := by
        have := List.mem_of_getElem? hy
        simpa using this
      subst ey
      exact ⟨_, rfl, rfl, true, rfl, iteT ⟨rfl, some .non, rfl, rfl⟩⟩
    rintro σ1 H1 ⟨v, rfl, rfl⟩
    have b1 := b0.trans (fun b u _ e => same_new (o := .tup [.non, .non, .non]) t0 b u e : But x H _)
    have hx1 := same_new (o := .tup [.non, .non, .non]) t0 _ _ hx
    generalize upd H t (.tup [.non, .non, .non]) = H1 at b1 hx1 ⊢
    -- needed(fold is None or ..)
    refine ⟨_, rfl, rfl, true, rfl, iteT ⟨rfl, ?_⟩⟩
    -- needed(is_word(way, WAYS) and is_between(wide, 0, 2))
    refine ⟨_, rfl, _, _, _, rfl, T.t_WAYS _, by decide +kernel, by decide +kernel, true, rfl, iteT ?_⟩
    refine ⟨_, rfl, _, _, _, rfl, ?_⟩
    refine ⟨by decide +kernel, ?_⟩
    -- self.number .. = ..
    refine ⟨_, rfl, _, rfl, _, rfl, (by show 3 ≤ sizeLine; decide), fun t1 t10 => ?_⟩
    have c1 := fun b u (_ : b ≠ x) e => same_new (o := .tup [V.int n, V.str (if mark = true then "mark" else "letter"), V.int (if mark = true then 3 else 0)]) t10 b u e
    have hx1a := same_new (o := .tup [V.int n, V.str (if mark = true then "mark" else "letter"), V.int (if mark = true then 3 else 0)]) t10 _ _ hx1
    have b1a := b1.trans c1
    have ht1 : (upd H1 t1 (.tup [V.int n, V.str (if mark = true then "mark" else "letter"), V.int (if mark = true then 3 else 0)])) t1 = some (.tup [V.int n, V.str (if mark = true then "mark" else "letter"), V.int (if mark = true then 3 else 0)]) := upd_same
    generalize upd H1 t1 (.tup [V.int n, V.str (if mark = true then "mark" else "letter"), V.int (if mark = true then 3 else 0)]) = H1a at b1a hx1a ht1 ⊢
    refine ⟨t1, _, rfl, SqT.of ht1, rfl, ?_⟩
    refine ⟨_, _, rfl, _, rfl, x, _, dx, _, rfl, hx1a, T.k_Sign, T.n_Sign_number, (by show 0 < 1000; decide), ?_⟩
    refine ⟨_, _, rfl, _, rfl, x, _, dx, _, rfl, upd_same, T.k_Sign, T.n_Sign_kind, (by show 1 < 1000; decide), ?_⟩
    refine ⟨_, _, rfl, _, rfl, x, _, dx, _, rfl, upd_same, T.k_Sign, T.n_Sign_rank, (by show 2 < 1000; decide), ?_⟩
    refine ⟨rfl, ?_⟩
    rw [upd_upd]
    rw [upd_upd]
    have b2 := b1a.trans (but_upd (x := x) (o := (.ins (C_Sign K) dx (putF "rank" (V.int (if mark = true then 3 else 0)) (putF "kind" (V.str (if mark = true then "mark" else "letter")) (putF "number" (V.int n) []))))))
    have hx2 : (upd H1a x (.ins (C_Sign K) dx (putF "rank" (V.int (if mark = true then 3 else 0)) (putF "kind" (V.str (if mark = true then "mark" else "letter")) (putF "number" (V.int n) []))))) x = some (.ins (C_Sign K) dx (putF "rank" (V.int (if mark = true then 3 else 0)) (putF "kind" (V.str (if mark = true then "mark" else "letter")) (putF "number" (V.int n) [])))) := upd_same
    generalize upd H1a x (.ins (C_Sign K) dx (putF "rank" (V.int (if mark = true then 3 else 0)) (putF "kind" (V.str (if mark = true then "mark" else "letter")) (putF "number" (V.int n) [])))) = H2 at b2 hx2 ⊢
    -- self.small .. = ..
    refine ⟨_, rfl, _, rfl, _, rfl, _, rfl, (by show 4 ≤ sizeLine; decide), fun t2 t20 => ?_⟩
    have c2 := fun b u (_ : b ≠ x) e => same_new (o := .tup [V.non, V.non, V.non, V.non]) t20 b u e
    have hx2a := same_new (o := .tup [V.non, V.non, V.non, V.non]) t20 _ _ hx2
    have b2a := b2.trans c2
    have ht2 : (upd H2 t2 (.tup [V.non, V.non, V.non, V.non])) t2 = some (.tup [V.non, V.non, V.non, V.non]) := upd_same
    generalize upd H2 t2 (.tup [V.non, V.non, V.non, V.non]) = H2a at b2a hx2a ht2 ⊢
    refine ⟨t2, _, rfl, SqT.of ht2, rfl, ?_⟩
    refine ⟨_, _, rfl, _, rfl, x, _, dx, _, rfl, hx2a, T.k_Sign, T.n_Sign_small, (by show 3 < 1000; decide), ?_⟩
    refine ⟨_, _, rfl, _, rfl, x, _, dx, _, rfl, upd_same, T.k_Sign, T.n_Sign_great, (by show 4 < 1000; decide), ?_⟩
    refine ⟨_, _, rfl, _, rfl, x, _, dx, _, rfl, upd_same, T.k_Sign, T.n_Sign_late, (by show 5 < 1000; decide), ?_⟩
    refine ⟨_, _, rfl, _, rfl, x, _, dx, _, rfl, upd_same, T.k_Sign, T.n_Sign_fold, (by show 6 < 1000; decide), ?_⟩
    refine ⟨rfl, ?_⟩
    rw [upd_upd]
    rw [upd_upd]
    rw [upd_upd]
    have b3 := b2a.trans (but_upd (x := x) (o := (.ins (C_Sign K) dx (putF "fold" (V.non) (putF "late" (V.non) (putF "great" (V.non) (putF "small" (V.non) (putF "rank" (V.int (if mark = true then 3 else 0)) (putF "kind" (V.str (if mark = true then "mark" else "letter")) (putF "number" (V.int n) []))))))))))
    have hx3 : (upd H2a x (.ins (C_Sign K) dx (putF "fold" (V.non) (putF "late" (V.non) (putF "great" (V.non) (putF "small" (V.non) (putF "rank" (V.int (if mark = true then 3 else 0)) (putF "kind" (V.str (if mark = true then "mark" else "letter")) (putF "number" (V.int n) []))))))))) x = some (.ins (C_Sign K) dx (putF "fold" (V.non) (putF "late" (V.non) (putF "great" (V.non) (putF "small" (V.non) (putF "rank" (V.int (if mark = true then 3 else 0)) (putF "kind" (V.str (if mark = true then "mark" else "letter")) (putF "number" (V.int n) [])))))))) := upd_same
    generalize upd H2a x (.ins (C_Sign K) dx (putF "fold" (V.non) (putF "late" (V.non) (putF "great" (V.non) (putF "small" (V.non) (putF "rank" (V.int (if mark = true then 3 else 0)) (putF "kind" (V.str (if mark = true then "mark" else "letter")) (putF "number" (V.int n) [])))))))) = H3 at b3 hx3 ⊢
    -- self.way .. = ..
    refine ⟨_, rfl, _, rfl, (by show 2 ≤ sizeLine; decide), fun t3 t30 => ?_⟩
    have c3 := fun b u (_ : b ≠ x) e => same_new (o := .tup [V.str "none", V.int 1]) t30 b u e
    have hx3a := same_new (o := .tup [V.str "none", V.int 1]) t30 _ _ hx3
    have b3a := b3.trans c3
    have ht3 : (upd H3 t3 (.tup [V.str "none", V.int 1])) t3 = some (.tup [V.str "none", V.int 1]) := upd_same
    generalize upd H3 t3 (.tup [V.str "none", V.int 1]) = H3a at b3a hx3a ht3 ⊢
    refine ⟨t3, _, rfl, SqT.of ht3, rfl, ?_⟩
    refine ⟨_, _, rfl, _, rfl, x, _, dx, _, rfl, hx3a, T.k_Sign, T.n_Sign_way, (by show 7 < 1000; decide), ?_⟩
    refine ⟨_, _, rfl, _, rfl, x, _, dx, _, rfl, upd_same, T.k_Sign, T.n_Sign_wide, (by show 8 < 1000; decide), ?_⟩
    refine ⟨rfl, ?_⟩
    rw [upd_upd]
    have b4 := b3a.trans (but_upd (x := x) (o := (.ins (C_Sign K) dx (putF "wide" (V.int 1) (putF "way" (V.str "none") (putF "fold" (V.non) (putF "late" (V.non) (putF "great" (V.non) (putF "small" (V.non) (putF "rank" (V.int (if mark = true then 3 else 0)) (putF "kind" (V.str (if mark = true then "mark" else "letter")) (putF "number" (V.int n) []))))))))))))
    have hx4 : (upd H3a x (.ins (C_Sign K) dx (putF "wide" (V.int 1) (putF "way" (V.str "none") (putF "fold" (V.non) (putF "late" (V.non) (putF "great" (V.non) (putF "small" (V.non) (putF "rank" (V.int (if mark = true then 3 else 0)) (putF "kind" (V.str (if mark = true then "mark" else "letter")) (putF "number" (V.int n) []))))))))))) x = some (.ins (C_Sign K) dx (putF "wide" (V.int 1) (putF "way" (V.str "none") (putF "fold" (V.non) (putF "late" (V.non) (putF "great" (V.non) (putF "small" (V.non) (putF "rank" (V.int (if mark = true then 3 else 0)) (putF "kind" (V.str (if mark = true then "mark" else "letter")) (putF "number" (V.int n) [])))))))))) := upd_same
    generalize upd H3a x (.ins (C_Sign K) dx (putF "wide" (V.int 1) (putF "way" (V.str "none") (putF "fold" (V.non) (putF "late" (V.non) (putF "great" (V.non) (putF "small" (V.non) (putF "rank" (V.int (if mark = true then 3 else 0)) (putF "kind" (V.str (if mark = true then "mark" else "letter")) (putF "number" (V.int n) [])))))))))) = H4 at b4 hx4 ⊢
    exact k _ (fun b o e => b4 b o (ne_of_none e x0) e) ⟨dx, hx4⟩
abbrev sgP : List Str := ["self", "number", "kind", "rank", "small", "great", "late", "fold", "way", "wide"]
theorem b_sign {fd : FuncData} (F : FunD K d_Sign_init.name d_Sign_init.qual d_Sign_init.params d_Sign_init.body d_Sign_init.scope (d_Sign_init.dvs K) (d_Sign_init.kws K) (He.fAd K d_Sign_init.at_) fd) :
    ∃ ds, Vals [.str "letter", .int 0, .non, .non, .non, .non, .str "none", .int 1] ds ∧ Binds K fd sgP ds := by
  refine FunD.binds0 (ps := sgP) F 2 (fun e => by cases e) rfl fun D doc pm an cdv ct us ks hu hk => ?_
  match us, hu, ks, hk with
  | [a, b], _, [c1, c2, c3, c4, c5, c6, c7, c8], _ => exact ⟨_, _, _, _, _, _, rfl, rfl, _, _, _, _, _, _, rfl, rfl, _, _, _, _, _, _, rfl, rfl, _, _, _, _, _, _, rfl, rfl, _, _, _, _, _, _, rfl, rfl, _, _, _, _, _, _, rfl, rfl, _, _, _, _, _, _, rfl, rfl, _, _, _, _, _, _, rfl, rfl, rfl⟩
theorem k_sign {fd : FuncData} (F : FunD K d_Sign_init.name d_Sign_init.qual d_Sign_init.params d_Sign_init.body d_Sign_init.scope (d_Sign_init.dvs K) (d_Sign_init.kws K) (He.fAd K d_Sign_init.at_) fd) :
    ∃ mv : List Value, KBn K fd sgP 2 ["kind", "rank"] (fun us ws => us ++ (ws ++ mv)) (fun vs zs => vs ++ (zs ++ [.non, .non, .non, .non, .str "none", .int 1])) := by
  have := FunD.kbinds0 (ps := sgP) F 2 ["kind", "rank"] [("small", .non), ("great", .non), ("late", .non), ("fold", .non), ("way", .str "none"), ("wide", .int 1)] (fun us mv ws => us ++ (ws ++ mv)) (fun e => by cases e) (fun q hq => List.mem_cons_of_mem _ (List.mem_cons_of_mem _ hq)) (fun r r1 r2 => r.append (r2.append r1)) fun D doc pm an cdv ct us mv ws hu hm hw => ?_
  · exact this
  match us, hu, mv, hm, ws, hw with
  | [a, b], _, [c1, c2, c3, c4, c5, c6], _, [e1, e2], _ => exact ⟨_, _, _, _, _, _, rfl, rfl, _, _, _, _, _, _, rfl, rfl, _, _, _, _, _, _, rfl, rfl, _, _, _, _, _, _, rfl, rfl, _, _, _, _, _, _, rfl, rfl, _, _, _, _, _, _, rfl, rfl, rfl⟩
/-- Sign(n) -/
theorem ok_Sign_init (T : Txt K mg) : FnR P w K mg base CX0 5 (He.ma K (He.ga K "Sign") "__init__") (fun vs H Q E => spSignInit K (vs ++ [.str "letter", .int 0, .non, .non, .non, .non, .str "none", .int 1]) H Q E) := by
  obtain ⟨fd, F⟩ := T.d_Sign_init
  obtain ⟨ds, r, hb⟩ := b_sign F
  exact FnOk.raw (okK_Sign_init T F) hb r
/-- Sign(n, kind=.., rank=..) -/
theorem okN_Sign_init (T : Txt K mg) : ∃ fd mv, FnOk P w K mg base CX0 5 (He.ma K (He.ga K "Sign") "__init__") fd sgP (spSignInit K) ∧ KBn K fd sgP 2 ["kind", "rank"] (fun us ws => us ++ (ws ++ mv)) (fun vs zs => vs ++ (zs ++ [.non, .non, .non, .non, .str "none", .int 1])) := by
  obtain ⟨fd, F⟩ := T.d_Sign_init
  obtain ⟨mv, hb⟩ := k_sign F
  exact ⟨fd, mv, okK_Sign_init T F, hb⟩
abbrev N_Ready_init : List Str := ["self", "number", "parts"]
theorem sc_Ready_init : FnScope N_Ready_init ["self", "number", "parts"] (defScope s_Ready_init) := ⟨rfl, rfl, rfl, by decide +kernel, rfl, by decide +kernel, by decide +kernel⟩
def spReadyInit (K : PySem.W.Frag) : Sp := fun vs H Q _ => ∃ (x dx t : Addr) (n a b : Int) (H0 : Hp), vs = [.ref x, .int n, .ref t] ∧ H0 x = none ∧ H0 dx = none ∧ dx ≠ x ∧ H = upd (upd H0 dx (.own x)) x (.ins (C_Ready K) dx []) ∧ H0 t = some (.tup [.int a, .int b]) ∧ (0 ≤ n ∧ n ≤ 65535) ∧ (0 ≤ a ∧ a ≤ 65535) ∧ (0 ≤ b ∧ b ≤ 65535) ∧
  ∀ H', Same H0 H' → (∃ dx, H' x = some (.ins (C_Ready K) dx (rdF n t))) → Q .non H'
theorem ok_Ready_init (T : Txt K mg) : FnR P w K mg base CX0 5 (He.ma K (He.ga K "Ready") "__init__") (spReadyInit K) := by
  have G_needed := ok_needed (P := P) (w := w) (base := base) T
  have G_is_number := ok_is_number (P := P) (w := w) (base := base) T
  have G_is_row := ok_is_row (P := P) (w := w) (base := base) T
  refine fnr_of T.d_Ready_init sc_Ready_init (fun vs H Q E h => ?_) (fun _ _ _ _ _ _ us hl => match us, hl with | [_, _, _], _ => rfl) (fun cdv A outer s H vs Q E hr h => ?_)
  · obtain ⟨x, dx, t, n, a, b, H0, rfl, _⟩ := h
    rfl
  · obtain ⟨x, dx, t, n, a, b, H0, rfl, x0, d0, ne, rfl, ht, ⟨n0, n1⟩, ⟨a0, a1⟩, ⟨b0, b1⟩, k⟩ := h
    have c0 : But x H0 (upd (upd H0 dx (.own x)) x (.ins (C_Ready K) dx [])) := but_new d0
    have hx : (upd (upd H0 dx (.own x)) x (.ins (C_Ready K) dx [])) x = some (.ins (C_Ready K) dx []) := upd_same
    have ht' := c0 _ _ (ne_of_none ht x0) ht
    generalize upd (upd H0 dx (.own x)) x (.ins (C_Ready K) dx []) = H at c0 hx ht' ⊢
    refine ⟨_, (pss_cons (ps_expr (pe_callF G_needed (hr.mono (by decide)) T.f_needed T.kp_needed (pa_cons (pe_and (pe_callF G_is_number (hr.mono (by decide)) T.f_is_number T.kp_is_number (pa_cons (pv 1) pa_nil)) (pe_one (pe_callF G_is_row (hr.mono (by decide)) T.f_is_row T.kp_is_row (pa_cons (pv 2) (pa_cons pe_int pa_nil))))) pa_nil)))
      (pss_cons (ps_fld (pv 0) (pv 1) rfl)
      (pss_one (ps_fld (pv 0) (pv 2) rfl)))), ?_⟩
    refine ⟨_, rfl, n, rfl, n0, n1, true, rfl, iteT ?_⟩
    refine ⟨_, rfl, t, [a, b], 2, rfl, ht', (by simp), (by simp), (by decide), fun m hm => ?_, fun H1 s1 => ⟨rfl, ?_⟩⟩
    · simp only [List.mem_cons, List.not_mem_nil, or_false] at hm
      rcases hm with rfl | rfl
      · exact ⟨a0, a1⟩
      · exact ⟨b0, b1⟩
    refine ⟨_, rfl, _, rfl, x, _, dx, _, rfl, s1 _ _ hx, T.k_Ready, T.n_Ready_number, (by show 0 < 1000; decide), ?_⟩
    refine ⟨_, rfl, _, rfl, x, _, dx, _, rfl, upd_same, T.k_Ready, T.n_Ready_parts, (by show 1 < 1000; decide), ?_⟩
    refine k _ (fun c o e => ?_) ⟨dx, upd_same⟩
    have cx := ne_of_none e x0
    rw [upd_ne cx, upd_ne cx]
    exact s1 _ _ (c0 c o cx e)
end
end K94
set_option maxRecDepth 100000
set_option maxHeartbeats 4000000
/-! K94O: what a table checks. -/
namespace K94
open PySem PySem.Spec PyProof.Rows L2
section
variable {P : Program} {w : World} {K : PySem.W.Frag} {mg : Str → Option Value} {base : Heap}
abbrev C_Table (K : PySem.W.Frag) : Addr := He.ga K "Table"
abbrev N_Table_numbers : List Str := ["self"]
theorem sc_Table_numbers : FnScope N_Table_numbers ["self"] (defScope s_Table_numbers) := ⟨rfl, rfl, rfl, by decide +kernel, rfl, by decide +kernel, by decide +kernel⟩
def spNumbers (K : PySem.W.Frag) : Sp := fun vs H Q _ => ∃ (x dx d1 d2 : Addr) (fs : List (Str × V)) (k1 k2 : List (Key × V)) (ns : List Int), vs = [.ref x] ∧ H x = some (.ins (C_Table K) dx fs) ∧ fs.lookup ("sign_by" : Str) = some (.ref d1) ∧ fs.lookup ("ready_by" : Str) = some (.ref d2) ∧ H d1 = some (.dK k1) ∧ H d2 = some (.dK k2) ∧
  (k1.map fun kv => kV kv.1) ++ (k2.map fun kv => kV kv.1) = ns.map V.int ∧ ns.Nodup ∧ ns.length < 60 ∧ ∀ H' q (out : List Int), Same H H' → H' q = some (.lst (out.map V.int)) → out.length = ns.length → Q (.ref q) H'
theorem ok_Table_numbers (T : Txt K mg) : FnR P w K mg base CX0 1 (He.ma K (He.ga K "Table") "numbers") (spNumbers K) := by
  refine fnr_of T.d_Table_numbers sc_Table_numbers (fun vs H Q E h => ?_) (fun _ _ _ _ _ _ us hl => match us, hl with | [_], _ => rfl) (fun cdv A outer s H vs Q E hr h => ?_)
  · obtain ⟨x, dx, d1, d2, fs, k1, k2, ns, rfl, _⟩ := h
    rfl
  · obtain ⟨x, dx, d1, d2, fs, k1, k2, ns, rfl, hx, l1, l2, h1, h2, e, nd, few, k⟩ := h
    refine ⟨_, (pss_one (ps_ret (pe_callB (cr_sortedSet rfl) (by rfl) T.g_sorted (by decide +kernel) (pa_cons (pe_callTy (cr_setL rfl) (by rfl) T.g_set (by decide +kernel) (pa_cons (pe_op op_cat (pe_callTy (call_list_dK rfl) (by rfl) T.g_list (by decide +kernel) (pa_cons (pe_fld (pv 0) rfl) pa_nil)) (pe_callTy (call_list_dK rfl) (by rfl) T.g_list (by decide +kernel) (pa_cons (pe_fld (pv 0) rfl) pa_nil))) pa_nil)) pa_nil)))), ?_⟩
    refine ⟨_, rfl, x, _, dx, fs, _, rfl, hx, T.k_Table, T.n_Table_sign_by, l1, d1, k1, rfl, h1, fun a a0 => ?_⟩
    have s1 := same_new (o := .lst (k1.map fun kv => kV kv.1)) a0
    refine ⟨_, rfl, x, _, dx, fs, _, rfl, s1 _ _ hx, T.k_Table, T.n_Table_ready_by, l2, d2, k2, rfl, s1 _ _ h2, fun b b0 => ?_⟩
    have s2 := same_new (o := .lst (k2.map fun kv => kV kv.1)) b0
    refine ⟨a, b, _, _, rfl, rfl, s2 _ _ upd_same, upd_same, ?_, fun c c0 => ?_⟩
    · have := congrArg List.length e
      rw [List.length_append, List.length_map (f := V.int)] at this
      exact sz5 (by rw [this]; omega)
    have s3 := same_new (o := .lst ((k1.map fun kv => kV kv.1) ++ (k2.map fun kv => kV kv.1))) c0
    refine ⟨c, ns, rfl, SqL.of (by rw [upd_same, e]), few, fun p n p0 hn => ?_⟩
    have s4 := same_new (o := SetO w p (fun j => decide (j ∈ ns)) n) p0
    refine ⟨p, _, n, rfl, upd_same, by omega, fun out q ord mem _ q0 => ?_⟩
    refine k _ q out (((s1.trans s2).trans s3).trans (s4.trans (same_new q0))) upd_same ?_
    have pm : out.Perm ns := (List.perm_ext_iff_of_nodup (ord.imp fun h => by omega) nd).mpr fun z => by rw [mem z]; simp
    exact pm.length_eq
abbrev N_Table_check_letter : List Str := ["self", "one", "others", "other", "little", "last"]
theorem sc_Table_check_letter : FnScope N_Table_check_letter ["self", "one"] (defScope s_Table_check_letter) := ⟨rfl, rfl, rfl, by decide +kernel, rfl, by decide +kernel, by decide +kernel⟩
def spCheckLetter (K : PySem.W.Frag) : Sp := fun vs H Q _ => ∃ (x : V) (s : Addr) (n : Int) (mark : Bool), vs = [x, .ref s] ∧ SgAt K H s n mark ∧ ∀ H', Same H H' → Q .non H'
theorem ok_Table_check_letter (T : Txt K mg) : FnR P w K mg base CX0 1 (He.ma K (He.ga K "Table") "check_letter") (spCheckLetter K) := by
  refine fnr_of T.d_Table_check_letter sc_Table_check_letter (fun vs H Q E h => ?_) (fun _ _ _ _ _ _ us hl => match us, hl with | [_, _], _ => rfl) (fun cdv A outer s H vs Q E hr h => ?_)
  · obtain ⟨x, s, n, mark, rfl, _⟩ := h
    rfl
  · obtain ⟨x, sg, n, mark, rfl, ⟨dx, hs⟩, k⟩ := h
    refine ⟨_, (pss_cons (ps_setLc (i := 2) (own := [("other", 3)]) rfl sc_Table_check_letter.nd rfl rfl (sw_true rfl rfl rfl (by decide +kernel)) (pi_tup (pe_tup (pa_cons (pe_fld (pv 1) rfl) (pa_cons (pe_fld (pv 1) rfl) (pa_cons (pe_fld (pv 1) rfl) pa_nil))))) (blkOk_by (own := [("other", 3)]) (N := N_Table_check_letter) (sc := defScope s_Table_check_letter) (by decide +kernel)) (fun _ _ _ _ _ => (pg_name (i := 3) sc_Table_check_letter.nd rfl (Or.inl rfl) (Or.inr rfl))) (fun _ _ _ _ _ => (pts_one (pt_cmpR op_notN (pv 3) pe_non (nomark _)))) (fun _ _ _ _ _ => (pv 3)))
      (pss_cons (ps_for PassesOwn.never rfl (pi_list (pv 2)) (pg_name (i := 3) sc_Table_check_letter.nd rfl (Or.inl rfl)) (pss_one ps_never))
      (pss_cons (ps_if (pt_cmpR op_notN (pe_fld (pv 1) rfl) pe_non (nomark _)) (pss_one ps_never) pss_nil)
      (pss_cons (ps_if (pt_cmpR op_notN (pe_fld (pv 1) rfl) pe_non (nomark _)) (pss_cons ps_never (pss_one ps_never)) pss_nil)
      (pss_cons (ps_if (pt_cmpR op_notN (pe_fld (pv 1) rfl) pe_non (nomark _)) (pss_one ps_never) pss_nil)
      (pss_one (ps_if (pt_cmpR op_notN (pe_fld (pv 1) rfl) pe_non (nomark _)) (pss_cons ps_never (pss_one ps_never)) pss_nil))))))), ?_⟩
    -- others = [..]
    refine ⟨_, rfl, sg, _, dx, _, _, rfl, hs, T.k_Sign, T.n_Sign_small, rfl, _, rfl, sg, _, dx, _, _, rfl, hs, T.k_Sign, T.n_Sign_great, rfl, _, rfl, sg, _, dx, _, _, rfl, hs, T.k_Sign, T.n_Sign_late, rfl, (by show 3 ≤ sizeLine; decide), fun t t0 => ?_⟩
    have s1 := same_new (o := .tup [.non, .non, .non]) t0
    refine ⟨t, rfl, ⟨_, SqT.of upd_same⟩, fun D hD => ?_⟩
    have tD : t ≠ D := ne_of_none upd_same hD
    refine lc_it (walk_tup (K := K) (a := t) (xs := [.non, .non, .non])) (fun i H1 => H1 = upd (upd H t (.tup [.non, .non, .non])) D (.lst [])) rfl (fun i H1 _ e => by rw [e]; exact SqT.of (by rw [upd_ne tD]; exact upd_same)) (fun i y H1 H2 hi e z => ?_) (fun H1 e => ?_)
    · obtain ⟨rfl, hy⟩ := z
      subst e
      have ey : y = .non := by
        have := List.mem_of_getElem? hy
        simpa using this
      subst ey
      exact ⟨rfl, _, rfl, rfl, _, rfl, iteF rfl⟩
    subst e
    have s2 := s1.trans (same_new (o := .lst []) hD)
    have hD2 : (upd (upd H t (.tup [.non, .non, .non])) D (.lst [])) D = some (.lst []) := upd_same
    generalize upd (upd H t (.tup [.non, .non, .non])) D (.lst []) = H2 at s2 hD2 ⊢
    have hs2 := s2 _ _ hs
    refine ⟨_, rfl, D, rfl, ⟨_, SqL.of hD2⟩, for_list (K := K) (a := D) (xs := []) (fun i σ1 H3 => σ1 = _ ∧ H3 = H2) ⟨rfl, rfl⟩ (fun i σ1 H3 _ e => by rw [e.2]; exact SqL.of hD2) (fun i y σ1 H3 e => by simp at e) (fun σ1 H3 e => ?_)⟩
    obtain ⟨rfl, rfl⟩ := e
    refine ⟨_, rfl, sg, _, dx, _, _, rfl, hs2, T.k_Sign, T.n_Sign_fold, rfl, rfl, _, rfl, iteF ?_⟩
    refine ⟨_, rfl, sg, _, dx, _, _, rfl, hs2, T.k_Sign, T.n_Sign_small, rfl, rfl, _, rfl, iteF ?_⟩
    refine ⟨_, rfl, sg, _, dx, _, _, rfl, hs2, T.k_Sign, T.n_Sign_great, rfl, rfl, _, rfl, iteF ?_⟩
    refine ⟨_, rfl, sg, _, dx, _, _, rfl, hs2, T.k_Sign, T.n_Sign_late, rfl, rfl, _, rfl, iteF ?_⟩
    exact k _ s2
theorem rd_mono {H H' : Hp} {d : Addr} {u : HO} (s : Same H H') (h : Rd H d u) : Rd H' d u := h.elim (fun e => .inl (s _ _ e)) fun ⟨o, e⟩ => .inr ⟨o, s _ _ e⟩
abbrev N_Table_check_parts : List Str := ["self", "number", "firsts", "first", "others", "other"]
theorem sc_Table_check_parts : FnScope N_Table_check_parts ["self", "number"] (defScope s_Table_check_parts) := ⟨rfl, rfl, rfl, by decide +kernel, rfl, by decide +kernel, by decide +kernel⟩
def spCheckParts (K : PySem.W.Frag) : Sp := fun vs H Q _ => ∃ (x dx d1 d2 r sa sb : Addr) (fs : List (Str × V)) (k1 k2 : List (Key × V)) (f a b : Int), vs = [.ref x, .int f] ∧ H x = some (.ins (C_Table K) dx fs) ∧ fs.lookup ("sign_by" : Str) = some (.ref d1) ∧ fs.lookup ("ready_by" : Str) = some (.ref d2) ∧ Rd H d1 (.dK k1) ∧ Rd H d2 (.dK k2) ∧
  valV k2 (.inl f) = some (.ref r) ∧ RdAt K H r f a b ∧ a ≠ f ∧ valV k2 (.inl a) = none ∧ valV k1 (.inl a) = some (.ref sa) ∧ SgAt K H sa a false ∧ valV k1 (.inl b) = some (.ref sb) ∧ SgAt K H sb b true ∧ ∀ H', Same H H' → Q .non H'
theorem ok_Table_check_parts (T : Txt K mg) : FnR P w K mg base CX0 2 (He.ma K (He.ga K "Table") "check_parts") (spCheckParts K) := by
  have G_wanted := ok_wanted (P := P) (w := w) (base := base) T
  refine fnr_of T.d_Table_check_parts sc_Table_check_parts (fun vs H Q E h => ?_) (fun _ _ _ _ _ _ us hl => match us, hl with | [_, _], _ => rfl) (fun cdv A outer s H vs Q E hr h => ?_)
  · obtain ⟨x, dx, d1, d2, r, sa, sb, fs, k1, k2, f, a, b, rfl, _⟩ := h
    rfl
  · obtain ⟨x, dx, d1, d2, r, sa, sb, fs, k1, k2, f, a, b, rfl, hx, l1, l2, h1, h2, e1, ⟨rx, rt, hr1, hr2⟩, naf, e2, e3, ⟨ax, ha⟩, e4, ⟨bx, hb⟩, k⟩ := h
    refine ⟨_, (pss_cons (ps_set (i := 2) sc_Table_check_parts.nd rfl (Or.inl rfl) (pe_lst (pa_cons (pv 1) pa_nil)))
      (pss_cons (ps_while PassesOwn.never (pt_cmp (pc_din (hu_of hr) (pe_ix ix_list (pv 2) (pe_un un_neg pe_int) (fun _ _ => rfl)) (pe_fld (pv 0) rfl))) (pss_cons (ps_asg (pe_fld (pe_dget (hu_of hr) (pe_fld (pv 0) rfl) (pe_ix ix_list (pv 2) (pe_un un_neg pe_int) (fun _ _ => rfl)) (fun _ _ => rfl)) rfl) (pg_star rfl (pgs_cons (pg_name (i := 3) sc_Table_check_parts.nd rfl (Or.inl rfl)) (pgs_star (pg_name (i := 4) sc_Table_check_parts.nd rfl (Or.inl rfl))))))
      (pss_cons (ps_expr (pe_callF G_wanted (hr.mono (by decide)) T.f_wanted T.kp_wanted (pa_cons (pe_cmpR op_notIn_seq (pv 3) (pv 2) rfl) pa_nil)))
      (pss_cons (ps_expr (pe_bm PySem.F.plainAttrs_list PySem.F.slot_list_append PySem.F.type_list_append mt_append (pv 2) (pa_cons (pv 3) pa_nil)))
      (pss_one (ps_for PassesOwn.never rfl (pi_list (pv 4)) (pg_name (i := 5) sc_Table_check_parts.nd rfl (Or.inl rfl)) (pss_one (ps_expr (pe_callF G_wanted (hr.mono (by decide)) T.f_wanted T.kp_wanted (pa_cons (pe_and (pe_cmp (pc_din (hu_of hr) (pv 5) (pe_fld (pv 0) rfl))) (pe_one (pe_cmpR op_eq (pe_fld (pe_dget (hu_of hr) (pe_fld (pv 0) rfl) (pv 5) (fun _ _ => rfl)) rfl) pe_str (nomark _)))) pa_nil))))))))))
      (pss_one (ps_expr (pe_callF G_wanted (hr.mono (by decide)) T.f_wanted T.kp_wanted (pa_cons (pe_and (pe_cmp (pc_din (hu_of hr) (pe_ix ix_list (pv 2) (pe_un un_neg pe_int) (fun _ _ => rfl)) (pe_fld (pv 0) rfl))) (pe_one (pe_cmpR op_in_seq (pe_fld (pe_dget (hu_of hr) (pe_fld (pv 0) rfl) (pe_ix ix_list (pv 2) (pe_un un_neg pe_int) (fun _ _ => rfl)) (fun _ _ => rfl)) rfl) (pe_glob (v := .ref _) (by rfl) T.g_BASES rfl) rfl))) pa_nil)))))), ?_⟩
    refine ⟨_, rfl, (by show 1 ≤ sizeLine; decide), fun l l0 => ?_⟩
    have s1 := same_new (o := .lst [.int f]) l0
    refine ⟨fun μ σ1 H1 => ∃ v3 v4 v5 xs z, σ1 = [some (.ref x), some (.int f), some (.ref l), v3, v4, v5] ∧ Same H H1 ∧ H1 l = some (.lst (xs ++ [.int z])) ∧ ((μ = 1 ∧ xs = [] ∧ z = f) ∨ (μ = 0 ∧ z = a)), ⟨1, none, none, none, [], f, rfl, s1, upd_same, .inl ⟨rfl, rfl, rfl⟩⟩, ?_⟩
    rintro μ σ1 H1 ⟨v3, v4, v5, xs, z, rfl, sm, hl, hz⟩
    have hx1 := sm _ _ hx
    refine ⟨_, rfl, _, rfl, l, _, _, _, rfl, rfl, SqL.of hl, atI_last _ _, ?_⟩
    refine ⟨_, rfl, x, _, dx, fs, _, rfl, hx1, T.k_Table, T.n_Table_ready_by, l2, ?_⟩
    rcases hz with ⟨rfl, rfl, rfl⟩ | ⟨rfl, rfl⟩
    · refine ⟨d2, some (.ref r), rfl, .inl ⟨k2, .inl z, rd_mono sm h2, rfl, e1.symm⟩, _, rfl, iteT ?_⟩
      refine ⟨_, fun σ' H' h => h, ?_⟩
      -- first, *others = self.ready_by[firsts[-1]].parts
      refine ⟨_, rfl, x, _, dx, fs, _, rfl, hx1, T.k_Table, T.n_Table_ready_by, l2, _, rfl, _, rfl, l, _, _, _, rfl, rfl, SqL.of hl, atI_last _ _, d2, .ref r, rfl, .inl ⟨k2, .inl z, rd_mono sm h2, rfl, e1.symm⟩, ?_⟩
      refine ⟨r, _, rx, _, _, rfl, sm _ _ hr1, T.k_Ready, T.n_Ready_parts, rfl, ?_⟩
      refine ⟨rt, _, _, rfl, SqT.of (sm _ _ hr2), fun D hD => ⟨_, _, rfl, _, _, rfl, rfl, ?_⟩⟩
      have s2 := sm.trans (same_new (o := .lst [.int b]) hD)
      have hl2 := same_new (o := .lst [.int b]) hD _ _ hl
      have hD2 : (upd H1 D (.lst [.int b])) D = some (.lst [.int b]) := upd_same
      have lD : l ≠ D := ne_of_none hl hD
      generalize upd H1 D (.lst [.int b]) = H2 at s2 hl2 hD2 ⊢
      -- wanted(first not in firsts)
      refine ⟨_, rfl, _, rfl, l, _, rfl, .inl (SqL.of hl2), rfl, rfl, ⟨?_, ?_⟩⟩
      · show [V.bl (!inV (V.int a) [V.int z])] = [V.bl true]
        simp [inV, eqV, Ne.symm naf]
      -- firsts.append(first)
      refine ⟨_, rfl, .inl ⟨rfl, _, SqL.of hl2⟩, _, rfl, l, _, _, rfl, rfl, hl2, sl5 (by simp), ?_⟩
      have s3 : Same H (upd H2 l (.lst (([] ++ [.int z]) ++ [.int a]))) := fun c o e => by rw [upd_ne (ne_of_none e l0)]; exact s2 _ _ e
      have hl3 : (upd H2 l (.lst (([] ++ [.int z]) ++ [.int a]))) l = some (.lst (([] ++ [.int z]) ++ [.int a])) := upd_same
      have hD3 : (upd H2 l (.lst (([] ++ [.int z]) ++ [.int a]))) D = some (.lst [.int b]) := by rw [upd_ne lD.symm]; exact hD2
      generalize upd H2 l (.lst (([] ++ [.int z]) ++ [.int a])) = H3 at s3 hl3 hD3 ⊢
      -- for other in others
      refine ⟨_, rfl, D, rfl, ⟨_, SqL.of hD3⟩, for_list (K := K) (a := D) (xs := [.int b]) (fun i σ1 H4 => ∃ v5, σ1 = [some (.ref x), some (.int z), some (.ref l), some (.int a), some (.ref D), v5] ∧ H4 = H3) ⟨_, rfl, rfl⟩ (fun i σ1 H4 _ ⟨_, _, e⟩ => by rw [e]; exact SqL.of hD3) ?_ ?_⟩
      · rintro i y σ1 H4 hy ⟨v, rfl, rfl⟩
        have ey : y = .int b := by
          have := List.mem_of_getElem? hy
          simpa using this
        subst ey
        refine ⟨_, rfl, _, rfl, x, _, dx, fs, _, rfl, s3 _ _ hx, T.k_Table, T.n_Table_sign_by, l1, d1, some (.ref sb), rfl, .inl ⟨k1, .inl b, rd_mono s3 h1, rfl, e4.symm⟩, _, rfl, iteT ?_⟩
        refine ⟨_, rfl, x, _, dx, fs, _, rfl, s3 _ _ hx, T.k_Table, T.n_Table_sign_by, l1, _, rfl, d1, .ref sb, rfl, .inl ⟨k1, .inl b, rd_mono s3 h1, rfl, e4.symm⟩, ?_⟩
        refine ⟨sb, _, bx, _, _, rfl, s3 _ _ hb, T.k_Sign, T.n_Sign_kind, rfl, rfl, ⟨by decide +kernel, ?_⟩⟩
        exact ⟨_, rfl, rfl⟩
      · rintro σ1 H4 ⟨v, rfl, rfl⟩
        exact ⟨0, by decide, _, _, _, [] ++ [.int z], a, rfl, s3, hl3, .inr ⟨rfl, rfl⟩⟩
    · refine ⟨d2, none, rfl, .inl ⟨k2, .inl z, rd_mono sm h2, rfl, e2.symm⟩, _, rfl, iteF ?_⟩
      -- wanted(..)
      refine ⟨_, rfl, _, rfl, l, _, _, _, rfl, rfl, SqL.of hl, atI_last _ _, ?_⟩
      refine ⟨_, rfl, x, _, dx, fs, _, rfl, hx1, T.k_Table, T.n_Table_sign_by, l1, d1, some (.ref sa), rfl, .inl ⟨k1, .inl z, rd_mono sm h1, rfl, e3.symm⟩, _, rfl, iteT ?_⟩
      refine ⟨_, rfl, x, _, dx, fs, _, rfl, hx1, T.k_Table, T.n_Table_sign_by, l1, _, rfl, _, rfl, l, _, _, _, rfl, rfl, SqL.of hl, atI_last _ _, d1, .ref sa, rfl, .inl ⟨k1, .inl z, rd_mono sm h1, rfl, e3.symm⟩, ?_⟩
      refine ⟨sa, _, ax, _, _, rfl, sm _ _ ha, T.k_Sign, T.n_Sign_kind, rfl, _, _, rfl, .inr (T.t_BASES _), by decide +kernel, by decide +kernel, ⟨by decide +kernel, ?_⟩⟩
      exact k _ sm
end
end K94
set_option maxRecDepth 100000
set_option maxHeartbeats 4000000
/-! K94P: a table made. -/
namespace K94
open PySem PySem.Spec PyProof.Rows L2
section
variable {J : It} {n : Nat} {G : Hp → Prop} {Y : Nat → Hp → V → Hp → Prop}
/-- a dict comprehension by a word at every turn -/
theorem dc_word {O0 : HO} {put : V → Hp → (Hp → Prop) → Prop} {H1 : Hp} {D : Addr} {Qd : Hp → Prop} (w : Walk J n G Y) (Pv : Nat → Hp → Prop) (h0 : Pv 0 (upd H1 D O0)) (hG : ∀ i H, i ≤ n → Pv i H → G H)
    (hs : ∀ i x H H', i < n → Pv i H → Y i H x H' → put x H' (Pv (i + 1))) (hd : ∀ H, Pv n H → Qd H) :
    ∃ W : Nat → Nat → Hp → Prop, (∃ m, W 0 m (upd H1 D O0)) ∧ ∀ i m H, W i m H → (J.stop i H ∧ Qd H) ∨ (J.go i H ∧ ∃ N : Hp → Prop, (∀ H', N H' → ∃ m', m' < m ∧ W (i + 1) m' H') ∧ ∀ x H', J.yld i H x H' → put x H' N) := by
  refine ⟨fun i m H => m = n - i ∧ i ≤ n ∧ Pv i H, ⟨n, by omega, Nat.zero_le _, h0⟩, fun i m H ⟨em, hi, p⟩ => ?_⟩
  subst em
  by_cases lt : i < n
  · exact .inr ⟨w.goes i H lt (hG i H hi p), Pv (i + 1), fun H' q => ⟨n - (i + 1), by omega, rfl, lt, q⟩, fun x H' y => hs i x H H' lt p (w.yields i H x H' lt (hG i H hi p) y)⟩
  · have e : i = n := by omega
    subst e
    exact .inl ⟨w.stops H (hG _ H hi p), hd H p⟩
end
abbrev kS (l : List (Addr × Int × Bool)) : List (Key × V) := l.map fun p => ((.inl p.2.1 : Key), V.ref p.1)
theorem kS_none : ∀ {l : List (Addr × Int × Bool)} {n : Int}, n ∉ l.map (·.2.1) → valV (kS l) (.inl n) = none
  | [], n, _ => rfl
  | p :: l, n, h => by
    simp only [List.map_cons, List.mem_cons, not_or] at h
    show valV (((.inl p.2.1 : Key), V.ref p.1) :: kS l) (.inl n) = none
    rw [valV_neg (fun e => h.1 (by simpa using e.symm)), kS_none h.2]
theorem kS_some : ∀ {l : List (Addr × Int × Bool)} {s : Addr} {n : Int} {m : Bool}, (l.map (·.2.1)).Nodup → (s, n, m) ∈ l → valV (kS l) (.inl n) = some (.ref s)
  | [], s, n, m, _, h => by simp at h
  | p :: l, s, n, m, nd, h => by
    show valV (((.inl p.2.1 : Key), V.ref p.1) :: kS l) (.inl n) = _
    simp only [List.map_cons, List.nodup_cons] at nd
    rcases List.mem_cons.mp h with rfl | h
    · rw [valV_pos rfl]
    · rw [valV_neg, kS_some nd.2 h]
      intro e
      refine nd.1 ?_
      have e' : p.2.1 = n := by simpa using e
      rw [e']
      exact List.mem_map.mpr ⟨_, h, rfl⟩
theorem kS_keys (l : List (Addr × Int × Bool)) : (kS l).map (fun kv => kV kv.1) = (l.map (·.2.1)).map V.int := by
  simp [kS, kV, List.map_map, Function.comp_def]
section
variable {P : Program} {w : World} {K : PySem.W.Frag} {mg : Str → Option Value} {base : Heap}
abbrev N_Table_init : List Str := ["self", "signs", "ready", "one", "pairs", "number"]
theorem sc_Table_init : FnScope N_Table_init ["self", "signs", "ready"] (defScope s_Table_init) := ⟨rfl, rfl, rfl, by decide +kernel, rfl, by decide +kernel, by decide +kernel⟩
/-- the signs given -/
structure SgsAt (K : PySem.W.Frag) (H : Hp) (sg : List (Addr × Int × Bool)) : Prop where
  at' : ∀ p ∈ sg, SgAt K H p.1 p.2.1 p.2.2
  nd : (sg.map (·.2.1)).Nodup
  rng : ∀ p ∈ sg, 0 ≤ p.2.1 ∧ p.2.1 ≤ 65535
  few : sg.length ≤ 40
def spTableInit (K : PySem.W.Frag) : Sp := fun vs H Q _ => ∃ (x dx l1 l2 r sa sb : Addr) (sg : List (Addr × Int × Bool)) (f a b : Int) (H0 : Hp), vs = [.ref x, .ref l1, .ref l2] ∧ H0 x = none ∧ H0 dx = none ∧ dx ≠ x ∧ H = upd (upd H0 dx (.own x)) x (.ins (C_Table K) dx []) ∧
  H0 l1 = some (.lst (sg.map fun p => V.ref p.1)) ∧ SgsAt K H0 sg ∧ H0 l2 = some (.lst [.ref r]) ∧ RdAt K H0 r f a b ∧ (0 ≤ f ∧ f ≤ 65535) ∧ f ∉ sg.map (·.2.1) ∧ (sa, a, false) ∈ sg ∧ (sb, b, true) ∈ sg ∧
  ∀ H', Same H0 H' → TbAt K H' x (fun n => n ∈ sg.map (·.2.1) ∨ n = f) → Q .non H'
theorem okK_Table_init (T : Txt K mg) {fd : FuncData} (F : FunD K d_Table_init.name d_Table_init.qual d_Table_init.params d_Table_init.body d_Table_init.scope (d_Table_init.dvs K) (d_Table_init.kws K) (He.fAd K d_Table_init.at_) fd) :
    FnOk P w K mg base CX0 3 (He.ma K (He.ga K "Table") "__init__") fd ["self", "signs", "ready"] (spTableInit K) := by
  have G_wanted := ok_wanted (P := P) (w := w) (base := base) T
  have G_Table_numbers := ok_Table_numbers (P := P) (w := w) (base := base) T
  have G_Table_check_parts := ok_Table_check_parts (P := P) (w := w) (base := base) T
  have G_Table_check_letter := ok_Table_check_letter (P := P) (w := w) (base := base) T
  refine FunD.ok F sc_Table_init (fun vs H Q E h => ?_) fun cdv A outer s H vs Q E hr h => ?_
  · obtain ⟨x, dx, l1, l2, r, sa, sb, sg, f, a, b, H0, rfl, _⟩ := h
    rfl
  · obtain ⟨x, dx, l1, l2, r, sa, sb, sg, f, a, b, H0, rfl, x0, d0, ne, rfl, hl1, hsg, hl2, hrd, fr, fn, ha, hb, k⟩ := h
    refine ⟨_, PSs.nox ((pss_cons (ps_if (pt_cmpR op_isN (pv 2) pe_non (nomark _)) (pss_one (ps_set (i := 2) sc_Table_init.nd rfl (Or.inl rfl) (pe_lst pa_nil))) pss_nil)
      (pss_cons (ps_expr (pe_callF G_wanted (hr.mono (by decide)) T.f_wanted T.kp_wanted (pa_cons (pe_and (pe_callB call_isi (by rfl) T.g_isinstance (by decide +kernel) (pa_cons (pv 1) (pa_cons (pe_bltn (v := .ty "list") (by rfl) T.g_list (by decide +kernel) rfl) pa_nil))) (pe_one (pe_callB (cr_all rfl) (by rfl) T.g_all (by decide +kernel) (pa_cons (pe_lc (own := [("one", 3)]) (te := tCB (rIsi K) (tCons (tVar 3) (tCons (tC (.ref (He.ga K "Sign"))) tNil))) rfl sc_Table_init.nd (pi_list (pv 1)) (blkOk_by (own := [("one", 3)]) (N := N_Table_init) (sc := defScope s_Table_init) (by decide +kernel)) (fun _ _ _ _ _ => (pg_name (i := 3) sc_Table_init.nd rfl (Or.inl rfl) (Or.inr rfl))) (fun _ _ _ _ _ => pts_nil) (fun _ _ _ _ _ => (pe_callB call_isi (by rfl) T.g_isinstance (by decide +kernel) (pa_cons (pv 3) (pa_cons (pe_glob (v := .ref _) (by rfl) T.c_Sign rfl) pa_nil))))) pa_nil)))) pa_nil)))
      (pss_cons (ps_expr (pe_callF G_wanted (hr.mono (by decide)) T.f_wanted T.kp_wanted (pa_cons (pe_and (pe_callB call_isi (by rfl) T.g_isinstance (by decide +kernel) (pa_cons (pv 2) (pa_cons (pe_bltn (v := .ty "list") (by rfl) T.g_list (by decide +kernel) rfl) pa_nil))) (pe_one (pe_callB (cr_all rfl) (by rfl) T.g_all (by decide +kernel) (pa_cons (pe_lc (own := [("one", 3)]) (te := tCB (rIsi K) (tCons (tVar 3) (tCons (tC (.ref (He.ga K "Ready"))) tNil))) rfl sc_Table_init.nd (pi_list (pv 2)) (blkOk_by (own := [("one", 3)]) (N := N_Table_init) (sc := defScope s_Table_init) (by decide +kernel)) (fun _ _ _ _ _ => (pg_name (i := 3) sc_Table_init.nd rfl (Or.inl rfl) (Or.inr rfl))) (fun _ _ _ _ _ => pts_nil) (fun _ _ _ _ _ => (pe_callB call_isi (by rfl) T.g_isinstance (by decide +kernel) (pa_cons (pv 3) (pa_cons (pe_glob (v := .ref _) (by rfl) T.c_Ready rfl) pa_nil))))) pa_nil)))) pa_nil)))
      (pss_cons (ps_fld (pv 0) (pe_dc (own := [("one", 3)]) (tk := tFld K (tVar 3) "number") (tv := tVar 3) rfl sc_Table_init.nd (pi_list (pv 1)) (blkOk_by (own := [("one", 3)]) (N := N_Table_init) (sc := defScope s_Table_init) (by decide +kernel)) (fun _ _ _ _ _ => pg_name (i := 3) sc_Table_init.nd rfl (Or.inl rfl) (Or.inr rfl)) (fun _ _ _ _ _ => pts_nil) (fun _ _ _ _ _ => pe_fld (pv 3) rfl) (fun _ _ _ _ _ => pv 3)) rfl)
      (pss_cons (ps_fld (pv 0) (pe_dc (own := [("one", 3)]) (tk := tFld K (tVar 3) "number") (tv := tVar 3) rfl sc_Table_init.nd (pi_list (pv 2)) (blkOk_by (own := [("one", 3)]) (N := N_Table_init) (sc := defScope s_Table_init) (by decide +kernel)) (fun _ _ _ _ _ => pg_name (i := 3) sc_Table_init.nd rfl (Or.inl rfl) (Or.inr rfl)) (fun _ _ _ _ _ => pts_nil) (fun _ _ _ _ _ => pe_fld (pv 3) rfl) (fun _ _ _ _ _ => pv 3)) rfl)
      (pss_cons (ps_expr (pe_callF G_wanted (hr.mono (by decide)) T.f_wanted T.kp_wanted (pa_cons (pe_cmpR op_eq (pe_callB call_len_seq (by rfl) T.g_len (by decide +kernel) (pa_cons (pe_methR0 (pv 0) T.k_Table T.m_Table_numbers G_Table_numbers (hr.mono (by decide))) pa_nil)) (pe_op op_add (pe_callB call_len_seq (by rfl) T.g_len (by decide +kernel) (pa_cons (pv 1) pa_nil)) (pe_callB call_len_seq (by rfl) T.g_len (by decide +kernel) (pa_cons (pv 2) pa_nil))) (nomark _)) pa_nil)))
      (pss_cons (ps_setLc (i := 4) (own := [("one", 3)]) (te := tFld K (tVar 3) "parts") (tt := tTest (tOp rEq (tCB (fun xs H Q => ∃ p ys, xs = [.ref p] ∧ (SqL K H p ys ∨ SqT K H p ys) ∧ Q (.int ys.length) H) (tCons (tFld K (tVar 3) "parts") tNil)) (tC (.int 2)))) rfl sc_Table_init.nd rfl rfl (sw_true rfl rfl rfl (by decide +kernel)) (pi_list (pv 2)) (blkOk_by (own := [("one", 3)]) (N := N_Table_init) (sc := defScope s_Table_init) (by decide +kernel)) (fun _ _ _ _ _ => (pg_name (i := 3) sc_Table_init.nd rfl (Or.inl rfl) (Or.inr rfl))) (fun _ _ _ _ _ => (pts_one (pt_cmpR op_eq (pe_callB call_len_seq (by rfl) T.g_len (by decide +kernel) (pa_cons (pe_fld (pv 3) rfl) pa_nil)) pe_int (nomark _)))) (fun _ _ _ _ _ => (pe_fld (pv 3) rfl)))
      (pss_cons (ps_expr (pe_callF G_wanted (hr.mono (by decide)) T.f_wanted T.kp_wanted (pa_cons (pe_cmpR op_eq (pe_callB (cr_lenTO rfl) (by rfl) T.g_len (by decide +kernel) (pa_cons (pe_callTy (cr_setOfT rfl hr.units) (by rfl) T.g_set (by decide +kernel) (pa_cons (pv 4) pa_nil)) pa_nil)) (pe_callB call_len_seq (by rfl) T.g_len (by decide +kernel) (pa_cons (pv 4) pa_nil)) (nomark _)) pa_nil)))
      (pss_cons (ps_fld (pv 0) (pe_dcT (own := [("one", 3)]) (tk := tFld K (tVar 3) "parts") (tv := tFld K (tVar 3) "number") (tt := tTest (tOp rEq (tCB (fun xs H Q => ∃ p ys, xs = [.ref p] ∧ (SqL K H p ys ∨ SqT K H p ys) ∧ Q (.int ys.length) H) (tCons (tFld K (tVar 3) "parts") tNil)) (tC (.int 2)))) rfl (hu_of hr) sc_Table_init.nd (pi_list (pv 2)) (blkOk_by (own := [("one", 3)]) (N := N_Table_init) (sc := defScope s_Table_init) (by decide +kernel)) (fun _ _ _ _ _ => pg_name (i := 3) sc_Table_init.nd rfl (Or.inl rfl) (Or.inr rfl)) (fun _ _ _ _ _ => (pts_one (pt_cmpR op_eq (pe_callB call_len_seq (by rfl) T.g_len (by decide +kernel) (pa_cons (pe_fld (pv 3) rfl) pa_nil)) pe_int (nomark _)))) (fun _ _ _ _ _ => pe_fld (pv 3) rfl) (fun _ _ _ _ _ => pe_fld (pv 3) rfl)) rfl)
      (pss_cons (ps_fld (pv 0) pe_dnewK rfl)
      (pss_cons (ps_lock (ps_for PassesOwn.never rfl (pi_keys (pe_fld (pv 0) rfl)) (pg_name (i := 5) sc_Table_init.nd rfl (Or.inl rfl)) (pss_one (ps_expr (pe_methR (pv 0) T.k_Table T.m_Table_check_parts G_Table_check_parts (hr.mono (by decide)) pass0 (pa_cons (pv 5) pa_nil))))))
      (pss_one (ps_lock (ps_for PassesOwn.never rfl (pi_keys (pe_fld (pv 0) rfl)) (pg_name (i := 5) sc_Table_init.nd rfl (Or.inl rfl)) (pss_one (ps_expr (pe_methR (pv 0) T.k_Table T.m_Table_check_letter G_Table_check_letter (hr.mono (by decide)) pass0 (pa_cons (pe_dget (hu_of hr) (pe_fld (pv 0) rfl) (pv 5) (fun _ _ => rfl)) pa_nil))))))))))))))))))), ?_⟩
    have c0 : But x H0 (upd (upd H0 dx (.own x)) x (.ins (C_Table K) dx [])) := but_new d0
    have hx : (upd (upd H0 dx (.own x)) x (.ins (C_Table K) dx [])) x = some (.ins (C_Table K) dx []) := upd_same
    generalize upd (upd H0 dx (.own x)) x (.ins (C_Table K) dx []) = H at c0 hx ⊢
    have nx : ∀ {b o}, H0 b = some o → b ≠ x := fun e => ne_of_none e x0
    -- if ready is None
    refine ⟨_, rfl, rfl, _, rfl, iteF ?_⟩
    -- wanted(isinstance(signs, list) and all(..))
    have hl1' := c0 _ _ (nx hl1) hl1
    refine ⟨_, rfl, _, _, _, _, _, rfl, .ty _, .base (.lst hl1'), kit_list_list, true, rfl, iteT ?_⟩
    refine ⟨_, rfl, l1, rfl, ⟨_, SqL.of hl1'⟩, fun D hD => ?_⟩
    refine lc_list0 (K := K) (a := l1) (xs := sg.map fun p => V.ref p.1) (fun i H1 => H1 = upd H D (.lst ((List.replicate i true).map V.bl))) rfl (fun i H1 _ e => by rw [e]; exact SqL.of (same_new hD _ _ hl1')) (fun i y H1 hi e => ?_) (fun H1 e => ?_)
    · subst e
      rw [List.getElem?_map] at hi
      obtain ⟨p, hp, rfl⟩ := Option.map_eq_some_iff.mp hi
      have hil : i < sg.length := (List.getElem?_eq_some_iff.mp hp).1
      have few := hsg.few
      obtain ⟨px, hpx⟩ := hsg.at' p (List.mem_of_getElem? hp)
      refine ⟨rfl, _, rfl, _, _, _, _, _, rfl, .own _, tyx_ins (same_new hD _ _ (c0 _ _ (nx hpx) hpx)) T.i_Sign, T.i_Sign.me, _, upd_same, (by rw [List.length_map, List.length_replicate]; exact sl5 (by omega)), ?_⟩
      rw [upd_upd, List.replicate_succ', List.map_append]
      rfl
    subst e
    refine ⟨D, _, rfl, SqL.of upd_same, ?_⟩
    rw [all_true]
    refine ⟨rfl, ?_⟩
    have c1 := c0.trans (fun b o _ e => same_new (o := .lst ((List.replicate (sg.map fun p => V.ref p.1).length true).map V.bl)) hD b o e : But x H _)
    have hx1 := same_new (o := .lst ((List.replicate (sg.map fun p => V.ref p.1).length true).map V.bl)) hD _ _ hx
    generalize upd H D (.lst ((List.replicate (sg.map fun p => V.ref p.1).length true).map V.bl)) = H1 at c1 hx1 ⊢
    clear hD hl1' hx c0
    -- wanted(isinstance(ready, list) and all(..))
    have hl2' := c1 _ _ (nx hl2) hl2
    obtain ⟨rx, rt, hr1, hr2⟩ := id hrd
    refine ⟨_, rfl, _, _, _, _, _, rfl, .ty _, .base (.lst hl2'), kit_list_list, true, rfl, iteT ?_⟩
    refine ⟨_, rfl, l2, rfl, ⟨_, SqL.of hl2'⟩, fun D hD => ?_⟩
    refine lc_list0 (K := K) (a := l2) (xs := [.ref r]) (fun i H2 => H2 = upd H1 D (.lst ((List.replicate i true).map V.bl))) rfl (fun i H1 _ e => by rw [e]; exact SqL.of (same_new hD _ _ hl2')) (fun i y H2 hi e => ?_) (fun H2 e => ?_)
    · subst e
      have hil : i < 1 := (List.getElem?_eq_some_iff.mp hi).1
      have ey : y = .ref r := by
        have := List.mem_of_getElem? hi
        simpa using this
      subst ey
      refine ⟨rfl, _, rfl, _, _, _, _, _, rfl, .own _, tyx_ins (same_new hD _ _ (c1 _ _ (nx hr1) hr1)) T.i_Ready, T.i_Ready.me, _, upd_same, (by rw [List.length_map, List.length_replicate]; exact sl5 (by omega)), ?_⟩
      rw [upd_upd, List.replicate_succ', List.map_append]
      rfl
    subst e
    refine ⟨D, _, rfl, SqL.of upd_same, ?_⟩
    rw [all_true]
    refine ⟨rfl, ?_⟩
    have c2 := c1.trans (fun b o _ e => same_new (o := .lst ((List.replicate ([V.ref r] : List V).length true).map V.bl)) hD b o e : But x H1 _)
    have hx2 := same_new (o := .lst ((List.replicate ([V.ref r] : List V).length true).map V.bl)) hD _ _ hx1
    generalize upd H1 D (.lst ((List.replicate ([V.ref r] : List V).length true).map V.bl)) = H2 at c2 hx2 ⊢
    clear hD hl2' hx1 c1
    -- self.sign_by = {..}
    have hl1' := c2 _ _ (nx hl1) hl1
    refine ⟨_, rfl, l1, rfl, ⟨_, SqL.of hl1'⟩, fun d1 d10 => ?_⟩
    refine dc_word (walk_list (K := K) (a := l1) (xs := sg.map fun p => V.ref p.1)) (fun i H3 => H3 = upd H2 d1 (.dK (kS (sg.take i)))) rfl (fun i H3 _ e => by rw [e]; exact SqL.of (same_new d10 _ _ hl1')) (fun i y H3 H4 hi e z => ?_) (fun H3 e => ?_)
    · obtain ⟨rfl, hy⟩ := z
      subst e
      rw [List.getElem?_map] at hy
      obtain ⟨p, hp, rfl⟩ := Option.map_eq_some_iff.mp hy
      have hil : i < sg.length := (List.getElem?_eq_some_iff.mp hp).1
      have few := hsg.few
      obtain ⟨px, hpx⟩ := hsg.at' p (List.mem_of_getElem? hp)
      have hpx' := same_new (o := .dK (kS (sg.take i))) d10 _ _ (c2 _ _ (nx hpx) hpx)
      refine ⟨rfl, _, rfl, p.1, _, px, _, _, rfl, hpx', T.k_Sign, T.n_Sign_number, rfl, _, rfl, kS (sg.take i), .inl p.2.1, rfl, upd_same, sl5 (by rw [List.length_map, List.length_take]; omega), ?_⟩
      have no : p.2.1 ∉ (sg.take i).map (·.2.1) := by
        have nd := hsg.nd
        rw [← List.take_append_drop i sg, drop_get hp, List.map_append, List.nodup_append] at nd
        intro z
        exact nd.2.2 _ z _ (by simp) rfl
      rw [upd_upd, putK_new _ (kS_none no), take_succ_get hp]
      simp [kS]
    subst e
    rw [List.length_map, List.take_of_length_le (Nat.le_refl _)]
    have c3' := c2.trans (fun b o _ e => same_new (o := .dK (kS sg)) d10 b o e : But x H2 _)
    have hx3' := same_new (o := .dK (kS sg)) d10 _ _ hx2
    have h13 : (upd H2 d1 (.dK (kS sg))) d1 = some (.dK (kS sg)) := upd_same
    have d1x : d1 ≠ x := (ne_of_none hx2 d10).symm
    generalize upd H2 d1 (.dK (kS sg)) = H3 at c3' hx3' h13 ⊢
    refine ⟨_, rfl, x, _, dx, _, rfl, hx3', T.k_Table, T.n_Table_sign_by, (by show 0 < 1000; decide), ?_⟩
    have b3 := but_upd (x := x) (H := H3) (o := .ins (C_Table K) dx (putF "sign_by" (.ref d1) []))
    have c3 := c3'.trans b3
    have h13 := b3 _ _ d1x h13
    have hx3 : (upd H3 x (.ins (C_Table K) dx (putF "sign_by" (.ref d1) []))) x = some (.ins (C_Table K) dx (putF "sign_by" (.ref d1) [])) := upd_same
    generalize upd H3 x (.ins (C_Table K) dx (putF "sign_by" (.ref d1) [])) = H4 at c3 hx3 h13 ⊢
    clear b3 c3' hx3' d10 c2 hx2 hl1'
    -- self.ready_by = {..}
    have hl2' := c3 _ _ (nx hl2) hl2
    have hr1' := c3 _ _ (nx hr1) hr1
    refine ⟨_, rfl, l2, rfl, ⟨_, SqL.of hl2'⟩, fun d2 d20 => ?_⟩
    refine dc_word (walk_list (K := K) (a := l2) (xs := [.ref r])) (fun i H5 => H5 = upd H4 d2 (.dK (kS (([(r, f, false)] : List (Addr × Int × Bool)).take i)))) rfl (fun i H3 _ e => by rw [e]; exact SqL.of (same_new d20 _ _ hl2')) (fun i y H5 H6 hi e z => ?_) (fun H5 e => ?_)
    · obtain ⟨rfl, hy⟩ := z
      subst e
      have hil : i < 1 := (List.getElem?_eq_some_iff.mp hy).1
      have ei : i = 0 := by omega
      subst ei
      have ey : y = .ref r := by
        have := List.mem_of_getElem? hy
        simpa using this
      subst ey
      refine ⟨rfl, _, rfl, r, _, rx, _, _, rfl, same_new d20 _ _ hr1', T.k_Ready, T.n_Ready_number, rfl, _, rfl, [], .inl f, rfl, upd_same, sl5 (by simp), ?_⟩
      rw [upd_upd]
      rfl
    subst e
    have c5' := c3.trans (fun b o _ e => same_new (o := .dK (kS [(r, f, false)])) d20 b o e : But x H4 _)
    have s5 := same_new (o := .dK (kS [(r, f, false)])) d20
    have hx5' := s5 _ _ hx3
    have h15 := s5 _ _ h13
    have h25 : (upd H4 d2 (.dK (kS [(r, f, false)]))) d2 = some (.dK (kS [(r, f, false)])) := upd_same
    have d2x : d2 ≠ x := (ne_of_none hx3 d20).symm
    have d12 : d1 ≠ d2 := ne_of_none h13 d20
    rw [show (([(r, f, false)] : List (Addr × Int × Bool)).take ([V.ref r] : List V).length) = [(r, f, false)] from rfl]
    generalize upd H4 d2 (.dK (kS [(r, f, false)])) = H5 at c5' hx5' h15 h25 ⊢
    clear s5 d20 hl2' hr1' c3 hx3 h13
    refine ⟨_, rfl, x, _, dx, _, rfl, hx5', T.k_Table, T.n_Table_ready_by, (by show 1 < 1000; decide), ?_⟩
    have b5 := but_upd (x := x) (H := H5) (o := .ins (C_Table K) dx (putF "ready_by" (.ref d2) (putF "sign_by" (.ref d1) [])))
    have c5 := c5'.trans b5
    have h15 := b5 _ _ d1x h15
    have h25 := b5 _ _ d2x h25
    have hx5 : (upd H5 x (.ins (C_Table K) dx (putF "ready_by" (.ref d2) (putF "sign_by" (.ref d1) [])))) x = some (.ins (C_Table K) dx (putF "ready_by" (.ref d2) (putF "sign_by" (.ref d1) []))) := upd_same
    generalize upd H5 x (.ins (C_Table K) dx (putF "ready_by" (.ref d2) (putF "sign_by" (.ref d1) []))) = H6 at c5 hx5 h15 h25 ⊢
    clear b5 c5' hx5'
    -- wanted(len(self.numbers()) == len(signs) + len(ready))
    have nsl : (sg.map (·.2.1) ++ [f]).length = sg.length + 1 := by simp
    have few := hsg.few
    refine ⟨_, rfl, x, dx, _, rfl, hx5, rfl, x, dx, d1, d2, _, kS sg, kS [(r, f, false)], sg.map (·.2.1) ++ [f], rfl, hx5, rfl, rfl, h15, h25, ?_, ?_, by rw [nsl]; omega, fun H7 q out s7 hq ho => ?_⟩
    · rw [kS_keys, kS_keys]
      simp
    · rw [List.nodup_append]
      exact ⟨hsg.nd, by simp, fun p hp q hq e => fn (by simp at hq; rw [← hq, ← e]; exact hp)⟩
    refine ⟨q, _, rfl, .inl (SqL.of hq), _, rfl, l1, _, rfl, .inl (SqL.of (s7 _ _ (c5 _ _ (nx hl1) hl1))), _, rfl, l2, _, rfl, .inl (SqL.of (s7 _ _ (c5 _ _ (nx hl2) hl2))), _, _, rfl, rfl, rfl, ?_⟩
    refine ⟨?_, ?_⟩
    · have e1 : (out.map V.int).length = sg.length + 1 := by rw [List.length_map, ho, nsl]
      have e2 : (sg.map fun p => V.ref p.1).length = sg.length := List.length_map ..
      have e3 : V.int ((out.map V.int).length : Nat) = V.int (((sg.map fun p => V.ref p.1).length : Nat) + (([V.ref r] : List V).length : Nat)) := by
        rw [e1, e2]
        simp
      show [V.bl (decide (_ = _))] = [V.bl true]
      rw [decide_eq_true e3]
    have c7 := c5.trans (fun b o _ e => s7 b o e : But x H6 _)
    have hx7 := s7 _ _ hx5
    have h17 := s7 _ _ h15
    have h27 := s7 _ _ h25
    clear hq ho s7 c5 hx5 h15 h25
    -- pairs = [..]
    have hl2' := c7 _ _ (nx hl2) hl2
    have hr1' := c7 _ _ (nx hr1) hr1
    have hr2' := c7 _ _ (nx hr2) hr2
    refine ⟨_, rfl, l2, rfl, ⟨_, SqL.of hl2'⟩, fun D hD => ?_⟩
    refine lc_list (K := K) (a := l2) (xs := [.ref r]) (fun i H8 => H8 = upd H7 D (.lst (([V.ref rt] : List V).take i))) rfl (fun i H8 _ e => by rw [e]; exact SqL.of (same_new hD _ _ hl2')) (fun i y H8 hi e => ?_) (fun H8 e => ?_)
    · subst e
      have hil : i < 1 := (List.getElem?_eq_some_iff.mp hi).1
      have ei : i = 0 := by omega
      subst ei
      have ey : y = .ref r := by
        have := List.mem_of_getElem? hi
        simpa using this
      subst ey
      refine ⟨rfl, _, rfl, r, _, rx, _, _, rfl, same_new hD _ _ hr1', T.k_Ready, T.n_Ready_parts, rfl, rt, _, rfl, .inr (SqT.of (same_new hD _ _ hr2')), rfl, _, rfl, iteT ?_⟩
      refine ⟨_, rfl, r, _, rx, _, _, rfl, same_new hD _ _ hr1', T.k_Ready, T.n_Ready_parts, rfl, _, upd_same, sl5 (by simp), ?_⟩
      rw [upd_upd]
      rfl
    subst e
    rw [show (([V.ref rt] : List V).take ([V.ref r] : List V).length) = [V.ref rt] from rfl]
    have c8 := c7.trans (fun b o _ e => same_new (o := .lst [V.ref rt]) hD b o e : But x H7 _)
    have s8 := same_new (o := .lst [V.ref rt]) hD
    have hx8 := s8 _ _ hx7
    have h18 := s8 _ _ h17
    have h28 := s8 _ _ h27
    have hD8 : (upd H7 D (.lst [V.ref rt])) D = some (.lst [V.ref rt]) := upd_same
    generalize upd H7 D (.lst [V.ref rt]) = H8 at c8 hx8 h18 h28 hD8 ⊢
    clear s8 hl2' hr1' hr2' c7 hx7 h17 h27 hD
    have hr2' := c8 _ _ (nx hr2) hr2
    -- wanted(len(set(pairs)) == len(pairs))
    refine ⟨_, rfl, D, [(rt, [a, b])], rfl, SqL.of hD8, fun p hp => ?_, by simp, fun q L q0 hL hL2 => ?_⟩
    · simp only [List.mem_cons, List.not_mem_nil, or_false] at hp
      subst hp
      exact SqT.of hr2'
    have s9 := same_new (o := SetTO P w q L) q0
    refine ⟨q, L, rfl, upd_same, fun p hp => ?_, fun nd few2 => ?_⟩
    · have := hL p hp
      simp only [List.mem_cons, List.not_mem_nil, or_false] at this
      subst this
      exact SqT.of (s9 _ _ hr2')
    refine ⟨_, rfl, D, _, rfl, .inl (SqL.of (s9 _ _ hD8)), rfl, ?_⟩
    have eL : L.length = 1 := by
      match L, hL, hL2, nd with
      | [], _, hL2, _ => simp at hL2
      | [p], _, _, _ => rfl
      | p1 :: p2 :: L, hL, _, nd =>
        have e1 := hL p1 (by simp)
        have e2 := hL p2 (by simp)
        simp only [List.mem_cons, List.not_mem_nil, or_false] at e1 e2
        subst e1 e2
        simp at nd
    refine ⟨?_, ?_⟩
    · show [V.bl (decide (_ = _))] = [V.bl true]
      rw [decide_eq_true (by rw [eL]; rfl)]
    have c9 := c8.trans (fun b o _ e => s9 b o e : But x H8 _)
    have hx9 := s9 _ _ hx8
    have h19 := s9 _ _ h18
    have h29 := s9 _ _ h28
    dsimp only [cxOf, Cx.nox]
    generalize upd H8 q (SetTO P w q L) = H9 at c9 hx9 h19 h29 ⊢
    clear s9 hD8 c8 hx8 h18 h28 q0 hL hL2 nd few2 eL hr2'
    -- self.pairs = {..}
    have hl2' := c9 _ _ (nx hl2) hl2
    have hr1' := c9 _ _ (nx hr1) hr1
    have hr2' := c9 _ _ (nx hr2) hr2
    refine ⟨_, rfl, l2, rfl, ⟨_, SqL.of hl2'⟩, fun D2 hD => ?_⟩
    have sD := fun (o : HO) => same_new (o := o) hD
    refine dc_word (walk_list (K := K) (a := l2) (xs := [.ref r])) (fun i H10 => H10 = upd H9 D2 (.dT (([([.inl a, .inl b], .int f)] : List (List Key × V)).take i))) rfl (fun i H10 _ e => by rw [e]; exact SqL.of (sD _ _ _ hl2')) (fun i y H10 H11 hi e z => ?_) (fun H10 e => ?_)
    · obtain ⟨rfl, hy⟩ := z
      subst e
      have hil : i < 1 := (List.getElem?_eq_some_iff.mp hy).1
      have ei : i = 0 := by omega
      subst ei
      have ey : y = .ref r := by
        have := List.mem_of_getElem? hy
        simpa using this
      subst ey
      refine ⟨rfl, _, rfl, r, _, rx, _, _, rfl, sD _ _ _ hr1', T.k_Ready, T.n_Ready_parts, rfl, rt, _, rfl, .inr (SqT.of (sD _ _ _ hr2')), rfl, _, rfl, iteT ?_⟩
      refine ⟨_, rfl, r, _, rx, _, _, rfl, sD _ _ _ hr1', T.k_Ready, T.n_Ready_parts, rfl, _, rfl, r, _, rx, _, _, rfl, sD _ _ _ hr1', T.k_Ready, T.n_Ready_number, rfl, [], [.inl a, .inl b], rt, rfl, sD _ _ _ hr2', upd_same, sl5 (by simp), ?_⟩
      rw [upd_upd]
      rfl
    subst e
    have s10 := sD (.dT (([([.inl a, .inl b], .int f)] : List (List Key × V)).take ([V.ref r] : List V).length))
    have c10' := c9.trans (fun b o _ e => s10 b o e : But x H9 _)
    have hx10' := s10 _ _ hx9
    have h1a := s10 _ _ h19
    have h2a := s10 _ _ h29
    generalize upd H9 D2 (.dT (([([.inl a, .inl b], .int f)] : List (List Key × V)).take ([V.ref r] : List V).length)) = H10 at c10' hx10' h1a h2a ⊢
    clear s10 sD hD hl2' hr1' hr2' c9 hx9 h19 h29
    refine ⟨_, rfl, x, _, dx, _, rfl, hx10', T.k_Table, T.n_Table_pairs, (by show 2 < 1000; decide), ?_⟩
    -- self.wholes = {}
    refine fun wd wd0 => ⟨_, rfl, x, _, dx, _, rfl, same_new wd0 _ _ upd_same, T.k_Table, T.n_Table_wholes, (by show 3 < 1000; decide), ?_⟩
    generalize hfs : putF ("wholes" : Str) (V.ref wd) (putF ("pairs" : Str) (V.ref D2) (putF "ready_by" (.ref d2) (putF "sign_by" (.ref d1) []))) = fs
    have f1 : fs.lookup ("sign_by" : Str) = some (.ref d1) := by rw [← hfs]; rfl
    have f2 : fs.lookup ("ready_by" : Str) = some (.ref d2) := by rw [← hfs]; rfl
    have f3 : fs.lookup ("check_parts" : Str) = none := by rw [← hfs]; rfl
    have f4 : fs.lookup ("check_letter" : Str) = none := by rw [← hfs]; rfl
    have b10 := but_upd (x := x) (H := H10) (o := .ins (C_Table K) dx (putF ("pairs" : Str) (V.ref D2) (putF "ready_by" (.ref d2) (putF "sign_by" (.ref d1) []))))
    have b11 := b10.trans (but_new (x := x) (l := wd) (v := .dK []) (o := .ins (C_Table K) dx fs) wd0)
    have c11 := c10'.trans b11
    have h1b := b11 _ _ d1x h1a
    have h2b := b11 _ _ d2x h2a
    have hxb : (upd (upd (upd H10 x (.ins (C_Table K) dx (putF ("pairs" : Str) (V.ref D2) (putF "ready_by" (.ref d2) (putF "sign_by" (.ref d1) []))))) wd (.dK [])) x (.ins (C_Table K) dx fs)) x = some (.ins (C_Table K) dx fs) := upd_same
    generalize upd (upd (upd H10 x (.ins (C_Table K) dx (putF ("pairs" : Str) (V.ref D2) (putF "ready_by" (.ref d2) (putF "sign_by" (.ref d1) []))))) wd (.dK [])) x (.ins (C_Table K) dx fs) = H11 at c11 h1b h2b hxb ⊢
    clear b11 b10 wd0 h1a h2a hx10' c10' hfs
    have hall : ∀ {b o}, H0 b = some o → b ≠ d1 → b ≠ d2 → H11 b = some o := fun e _ _ => c11 _ _ (nx e) e
    have nd1 : ∀ {b o}, H11 b = some o → (∀ k, o ≠ .dK k) → b ≠ d1 ∧ b ≠ d2 := fun e n => ⟨fun z => n _ (by rw [z, h1b] at e; exact (Option.some.inj e).symm), fun z => n _ (by rw [z, h2b] at e; exact (Option.some.inj e).symm)⟩
    have hr1' := c11 _ _ (nx hr1) hr1
    have hr2' := c11 _ _ (nx hr2) hr2
    obtain ⟨ax, ha1⟩ := hsg.at' _ ha
    obtain ⟨bx, hb1⟩ := hsg.at' _ hb
    have ha1' := c11 _ _ (nx ha1) ha1
    have hb1' := c11 _ _ (nx hb1) hb1
    have q1 := nd1 hr1' (fun k => by simp)
    have q2 := nd1 hr2' (fun k => by simp)
    have q3 := nd1 ha1' (fun k => by simp)
    have q4 := nd1 hb1' (fun k => by simp)
    have q5 := nd1 hxb (fun k => by simp)
    -- for number in self.ready_by
    refine ⟨d2, _, h2b, trivial, fun od => ?_⟩
    refine ⟨_, rfl, x, _, dx, _, _, rfl, (by rw [upd_ne q5.2]; exact hxb), T.k_Table, T.n_Table_ready_by, f2, d2, od, rfl, .inl ⟨_, upd_same, for_it walk_keys (fun i σ1 H12 => ∃ v3 v5, σ1 = [some (.ref x), some (.ref l1), some (.ref l2), v3, some (.ref D), v5] ∧ Same (upd H11 d2 (.frz od (.dK (kS [(r, f, false)])))) H12) ⟨_, _, rfl, fun _ _ h => h⟩ (fun i σ1 H12 _ ⟨_, _, _, e⟩ => e _ _ upd_same) (fun i y σ1 H12 H13 hi e z => ?_) (fun σ1 H12 e => ?_)⟩⟩
    · obtain ⟨v3, v5, rfl, sm⟩ := e
      obtain ⟨rfl, kk, vv, hk, rfl⟩ := z
      have hil : i < 1 := (List.getElem?_eq_some_iff.mp hk).1
      have ei : i = 0 := by omega
      subst ei
      cases hk
      refine ⟨_, rfl, x, dx, fs, rfl, sm _ _ (by rw [upd_ne q5.2]; exact hxb), f3, _, rfl, x, dx, d1, d2, r, sa, sb, fs, kS sg, kS [(r, f, false)], f, a, b, rfl, sm _ _ (by rw [upd_ne q5.2]; exact hxb), f1, f2, .inl (sm _ _ (by rw [upd_ne d12]; exact h1b)), .inr ⟨od, sm _ _ upd_same⟩, ?_, ⟨rx, rt, sm _ _ (by rw [upd_ne q1.2]; exact hr1'), sm _ _ (by rw [upd_ne q2.2]; exact hr2')⟩, ?_, ?_, kS_some hsg.nd ha, ⟨ax, sm _ _ (by rw [upd_ne q3.2]; exact ha1')⟩, kS_some hsg.nd hb, ⟨bx, sm _ _ (by rw [upd_ne q4.2]; exact hb1')⟩, fun H14 s14 => ?_⟩
      · exact kS_some (by simp) (List.mem_singleton.mpr rfl)
      · intro e
        exact fn (by rw [← e]; exact List.mem_map.mpr ⟨_, ha, rfl⟩)
      · refine kS_none ?_
        simp only [List.map_cons, List.map_nil, List.mem_cons, List.not_mem_nil, or_false]
        intro e
        exact fn (by rw [← e]; exact List.mem_map.mpr ⟨_, ha, rfl⟩)
      · exact ⟨_, _, rfl, sm.trans s14⟩
    obtain ⟨v3, v5, rfl, sm⟩ := e
    refine ⟨sm _ _ upd_same, ?_⟩
    have s12 : Same H11 (upd H12 d2 (.dK (kS [(r, f, false)]))) := fun c o e => by
      by_cases z : c = d2
      · rw [z] at e ⊢
        rw [h2b] at e
        rw [upd_same]
        exact e
      · rw [upd_ne z]
        exact sm _ _ (by rw [upd_ne z]; exact e)
    generalize upd H12 d2 (.dK (kS [(r, f, false)])) = H13 at s12 ⊢
    clear sm
    have h1c := s12 _ _ h1b
    have hxc := s12 _ _ hxb
    -- for number in self.sign_by
    refine ⟨d1, _, h1c, trivial, fun od => ?_⟩
    refine ⟨_, rfl, x, _, dx, _, _, rfl, (by rw [upd_ne q5.1]; exact hxc), T.k_Table, T.n_Table_sign_by, f1, d1, od, rfl, .inl ⟨_, upd_same, for_it walk_keys (fun i σ1 H14 => ∃ v3 v5, σ1 = [some (.ref x), some (.ref l1), some (.ref l2), v3, some (.ref D), v5] ∧ Same (upd H13 d1 (.frz od (.dK (kS sg)))) H14) ⟨_, _, rfl, fun _ _ h => h⟩ (fun i σ1 H12 _ ⟨_, _, _, e⟩ => e _ _ upd_same) (fun i y σ1 H14 H15 hi e z => ?_) (fun σ1 H14 e => ?_)⟩⟩
    · obtain ⟨v3, v5, rfl, sm⟩ := e
      obtain ⟨rfl, kk, vv, hk, rfl⟩ := z
      rw [List.getElem?_map] at hk
      obtain ⟨p, hp, ep⟩ := Option.map_eq_some_iff.mp hk
      cases ep
      have pm := List.mem_of_getElem? hp
      obtain ⟨px, hpx⟩ := hsg.at' p pm
      have hpx' := c11 _ _ (nx hpx) hpx
      have q6 := nd1 hpx' (fun k => by simp)
      have hxl := sm _ _ (show (upd H13 d1 (.frz od (.dK (kS sg)))) x = _ by rw [upd_ne q5.1]; exact hxc)
      refine ⟨_, rfl, x, dx, fs, rfl, hxl, f4, _, rfl, x, _, dx, fs, _, rfl, hxl, T.k_Table, T.n_Table_sign_by, f1, _, rfl, d1, .ref p.1, rfl, .inl ⟨kS sg, .inl p.2.1, .inr ⟨od, sm _ _ upd_same⟩, rfl, (kS_some hsg.nd (s := p.1) (m := p.2.2) pm).symm⟩, .ref x, p.1, p.2.1, p.2.2, rfl, ⟨px, sm _ _ (by rw [upd_ne q6.1]; exact s12 _ _ hpx')⟩, fun H16 s16 => ?_⟩
      exact ⟨_, _, rfl, sm.trans s16⟩
    obtain ⟨v3, v5, rfl, sm⟩ := e
    refine ⟨sm _ _ upd_same, ?_⟩
    have s14 : Same H13 (upd H14 d1 (.dK (kS sg))) := fun c o e => by
      by_cases z : c = d1
      · rw [z] at e ⊢
        rw [h1c] at e
        rw [upd_same]
        exact e
      · rw [upd_ne z]
        exact sm _ _ (by rw [upd_ne z]; exact e)
    have st := s12.trans s14
    refine k _ (fun c o e => st _ _ (c11 _ _ (nx e) e)) ⟨dx, d1, d2, fs, kS sg, kS [(r, f, false)], st _ _ hxb, f1, f2, st _ _ h1b, st _ _ h2b, fun n hn => ?_⟩
    rcases hn with hn | rfl
    · obtain ⟨p, hp, rfl⟩ := List.mem_map.mp hn
      exact ⟨hsg.rng p hp, .inl (by rw [kS_some hsg.nd (s := p.1) (m := p.2.2) hp]; rfl)⟩
    · exact ⟨fr, .inr (by rw [kS_some (s := r) (m := false) (by simp) (by simp)]; rfl)⟩
/-- Table(signs, ready=..) -/
theorem okN_Table_init (T : Txt K mg) : ∃ fd, FnOk P w K mg base CX0 3 (He.ma K (He.ga K "Table") "__init__") fd ["self", "signs", "ready"] (spTableInit K) ∧ KBn K fd ["self", "signs", "ready"] 2 ["ready"] (fun us ws => us ++ ws) (fun vs zs => vs ++ zs) := by
  obtain ⟨fd, F⟩ := T.d_Table_init
  have := FunD.kbinds0 (ps := ["self", "signs", "ready"]) F 2 ["ready"] [] (fun us mv ws => us ++ ws) (fun e => by cases e) (by simp) (fun r _ r2 => r.append r2) fun D doc pm an cdv ct us mv ws hu hm hw => ?_
  · obtain ⟨_, hb⟩ := this
    exact ⟨fd, okK_Table_init T F, hb⟩
  match us, hu, mv, hm, ws, hw with
  | [a, b], _, [], _, [c], _ => rfl
end
end K94
set_option maxRecDepth 100000
set_option maxHeartbeats 4000000
/-! K94Q: what the law's own defs draw. -/
namespace K94
open PySem PySem.Spec PyProof.Rows L2
section
variable {P : Program} {w : World} {K : PySem.W.Frag} {mg : Str → Option Value} {base : Heap}
/-- any int -/
def anyI (Q : VK) (H : Hp) : Prop := ∀ r : Int, Q (.int r) H
abbrev N_law_cell_at : List Str := ["_law_script", "_law_k"]
theorem sc_law_cell_at : FnScope N_law_cell_at ["_law_script", "_law_k"] (defScope s_law_cell_at) := ⟨rfl, rfl, rfl, by decide +kernel, rfl, by decide +kernel, by decide +kernel⟩
def spCellAt (K : PySem.W.Frag) : Sp := fun vs H Q _ => ∃ (a : Addr) (ns : List Int) (k : Nat), vs = [.ref a, .int k] ∧ SqL K H a (ns.map V.int) ∧ anyI Q H
theorem ok_cell_at (T : Txt K mg) : FnR P w K mg base CX0 1 (He.ga K "_law_cell_at") (spCellAt K) := by
  refine fnr_of T.d_law_cell_at sc_law_cell_at (fun vs H Q E h => ?_) (fun _ _ _ _ _ _ us hl => match us, hl with | [_, _], _ => rfl) (fun cdv A outer s H vs Q E hr h => ?_)
  · obtain ⟨a, ns, k, rfl, _⟩ := h
    rfl
  · obtain ⟨a, ns, k, rfl, ha, q⟩ := h
    refine ⟨_, (pss_cons (ps_if (pt_cmpR op_lt (pv 1) (pe_callB call_len_seq (by rfl) T.g_len (by decide +kernel) (pa_cons (pv 0) pa_nil)) (nomark _)) (pss_one (ps_ret (pe_ix ix_list (pv 0) (pv 1) (fun _ _ => rfl)))) pss_nil)
      (pss_one (ps_ret pe_int))), ?_⟩
    refine ⟨_, rfl, _, rfl, a, _, rfl, .inl ha, _, _, rfl, rfl, _, rfl, iteD (fun c => ?_) (fun c => ?_)⟩
    · have hl : k < ns.length := by rw [List.length_map] at c; omega
      refine ⟨_, rfl, _, rfl, a, _, _, _, rfl, rfl, ha, atI_nat (j := k) (v := V.int (ns[k]'hl)) (by rw [List.getElem?_map, List.getElem?_eq_getElem hl]; rfl), q _⟩
    · exact q 0
abbrev N_law_mixed : List Str := ["_law_cell", "_law_k", "_law_low"]
theorem sc_law_mixed : FnScope N_law_mixed ["_law_cell", "_law_k"] (defScope s_law_mixed) := ⟨rfl, rfl, rfl, by decide +kernel, rfl, by decide +kernel, by decide +kernel⟩
def spMixed : Sp := fun vs H Q _ => ∃ i k : Int, vs = [.int i, .int k] ∧ anyI Q H
theorem ok_mixed (T : Txt K mg) : FnR P w K mg base CX0 1 (He.ga K "_law_mixed") spMixed := by
  refine fnr_of T.d_law_mixed sc_law_mixed (fun vs H Q E h => ?_) (fun _ _ _ _ _ _ us hl => match us, hl with | [_, _], _ => rfl) (fun cdv A outer s H vs Q E hr h => ?_)
  · obtain ⟨i, k, rfl, _⟩ := h
    rfl
  · obtain ⟨i, k, rfl, q⟩ := h
    refine ⟨_, (pss_cons (ps_set (i := 2) sc_law_mixed.nd rfl (Or.inl rfl) (pe_op op_add (pe_op op_mod (pv 0) pe_int) (pe_op op_mul (pe_op op_fdivW (pv 0) pe_int) pe_int)))
      (pss_cons (ps_set (i := 2) sc_law_mixed.nd rfl (Or.inl rfl) (pe_op op_mod (pe_op op_mul (pe_op op_add (pe_op op_add (pv 2) (pe_op op_mul pe_int (pv 1))) pe_int) pe_int) pe_int))
      (pss_cons (ps_set (i := 2) sc_law_mixed.nd rfl (Or.inl rfl) (pe_op op_mod (pe_op op_mul (pv 2) (pe_op op_add (pe_op op_add (pe_op op_fdiv (pv 2) pe_int) pe_int) (pv 1))) pe_int))
      (pss_one (ps_ret (pe_op op_mod (pe_op op_mul (pv 2) (pe_op op_add (pe_op op_fdiv (pv 2) pe_int) pe_int)) pe_int)))))), ?_⟩
    refine ⟨_, rfl, _, _, rfl, rfl, (show (0 : Int) < _ from by decide), _, rfl, _, _, rfl, rfl, ⟨by decide, by decide +kernel⟩, _, _, rfl, rfl, .inr ⟨by decide, by decide⟩, _, _, rfl, rfl, ?_⟩
    refine ⟨_, rfl, _, rfl, _, _, rfl, rfl, .inl ⟨by decide, by decide⟩, _, _, rfl, rfl, _, _, rfl, rfl, _, _, rfl, rfl, .inr ⟨by decide, by decide⟩, _, _, rfl, rfl, (show (0 : Int) < _ from by decide), ?_⟩
    dsimp only [List.set]
    generalize hz : (i % 2147483629 + i / 2147483629 * 30011 + 69621 * k + 1) * 48271 % 2147483629 = z
    have z0 : 0 ≤ z := by rw [← hz]; exact Int.emod_nonneg _ (by decide)
    have z1 : z < 2147483629 := by rw [← hz]; exact Int.emod_lt_of_pos _ (by decide)
    refine ⟨_, rfl, _, rfl, _, _, rfl, rfl, ⟨by decide, by decide⟩, _, _, rfl, rfl, _, rfl, _, _, rfl, rfl, _, _, rfl, rfl, .inl ⟨by omega, by omega⟩, _, _, rfl, rfl, (show (0 : Int) < _ from by decide), ?_⟩
    dsimp only [List.set]
    generalize hy : z * (z / 907 + 16831 + k) % 2147483587 = y
    have y0 : 0 ≤ y := by rw [← hy]; exact Int.emod_nonneg _ (by decide)
    have y1 : y < 2147483587 := by rw [← hy]; exact Int.emod_lt_of_pos _ (by decide)
    exact ⟨_, rfl, _, rfl, _, _, rfl, rfl, ⟨by decide, by decide⟩, _, _, rfl, rfl, _, _, rfl, rfl, .inl ⟨by omega, by omega⟩, _, _, rfl, rfl, (show (0 : Int) < _ from by decide), q _⟩
abbrev N_law_source : List Str := ["_law_script", "_law_k", "_law_cell"]
theorem sc_law_source : FnScope N_law_source ["_law_script", "_law_k"] (defScope s_law_source) := ⟨rfl, rfl, rfl, by decide +kernel, rfl, by decide +kernel, by decide +kernel⟩
def spSource (K : PySem.W.Frag) : Sp := fun vs H Q _ => ∃ (a : Addr) (ns : List Int) (k : Nat), vs = [.ref a, .int k] ∧ SqL K H a (ns.map V.int) ∧ ∀ l x y z, H l = none → Q (.ref l) (upd H l (.lst [.int x, .int y, .int z]))
theorem ok_source (T : Txt K mg) : FnR P w K mg base CX0 2 (He.ga K "_law_source") (spSource K) := by
  have G_law_cell_at := ok_cell_at (P := P) (w := w) (base := base) T
  have G_law_mixed := ok_mixed (P := P) (w := w) (base := base) T
  refine fnr_of T.d_law_source sc_law_source (fun vs H Q E h => ?_) (fun _ _ _ _ _ _ us hl => match us, hl with | [_, _], _ => rfl) (fun cdv A outer s H vs Q E hr h => ?_)
  · obtain ⟨a, ns, k, rfl, _⟩ := h
    rfl
  · obtain ⟨a, ns, k, rfl, ha, q⟩ := h
    refine ⟨_, (pss_cons (ps_if (pt_cmpR op_lt (pv 1) (pe_callB call_len_seq (by rfl) T.g_len (by decide +kernel) (pa_cons (pv 0) pa_nil)) (nomark _)) (pss_one (ps_ret (pe_lst (pa_cons (pe_ix ix_list (pv 0) (pv 1) (fun _ _ => rfl)) (pa_cons (pe_ix ix_list (pv 0) (pv 1) (fun _ _ => rfl)) (pa_cons pe_int pa_nil)))))) pss_nil)
      (pss_cons (ps_set (i := 2) sc_law_source.nd rfl (Or.inl rfl) (pe_callF G_law_mixed (hr.mono (by decide)) T.f_law_mixed T.kp_law_mixed (pa_cons (pe_callF G_law_cell_at (hr.mono (by decide)) T.f_law_cell_at T.kp_law_cell_at (pa_cons (pv 0) (pa_cons pe_int pa_nil))) (pa_cons (pe_op op_add pe_int (pv 1)) pa_nil))))
      (pss_one (ps_ret (pe_lst (pa_cons (pv 2) (pa_cons (pv 2) (pa_cons pe_int pa_nil)))))))), ?_⟩
    refine ⟨_, rfl, _, rfl, a, _, rfl, .inl ha, _, _, rfl, rfl, _, rfl, iteD (fun c => ?_) (fun c => ?_)⟩
    · have hl : k < ns.length := by rw [List.length_map] at c; omega
      have e := atI_nat (j := k) (v := V.int (ns[k]'hl)) (xs := ns.map V.int) (by rw [List.getElem?_map, List.getElem?_eq_getElem hl]; rfl)
      exact ⟨_, rfl, _, rfl, a, _, _, _, rfl, rfl, ha, e, _, rfl, _, rfl, a, _, _, _, rfl, rfl, ha, e, (by show 3 ≤ sizeLine; decide), fun l l0 => q l _ _ _ l0⟩
    · exact ⟨_, rfl, a, ns, 0, rfl, ha, fun c0 => ⟨_, rfl, _, _, rfl, rfl, _, _, rfl, fun c1 => ⟨_, rfl, _, rfl, (by show 3 ≤ sizeLine; decide), fun l l0 => q l _ _ _ l0⟩⟩⟩
abbrev N_law_next : List Str := ["_law_source_here", "_law_many", "_law_found"]
theorem sc_law_next : FnScope N_law_next ["_law_source_here", "_law_many"] (defScope s_law_next) := ⟨rfl, rfl, rfl, by decide +kernel, rfl, by decide +kernel, by decide +kernel⟩
/-- what is drawn from is a list of three ints -/
def SrcAt (H : Hp) (s : Addr) : Prop := ∃ x y z : Int, H s = some (.lst [.int x, .int y, .int z])
def spNext : Sp := fun vs H Q _ => ∃ (s : Addr) (m : Int), vs = [.ref s, .int m] ∧ SrcAt H s ∧ 0 < m ∧ m < 1073741824 ∧ ∀ r x y z, 0 ≤ r → r < m → Q (.int r) (upd H s (.lst [.int x, .int y, .int z]))
theorem ok_next (T : Txt K mg) : FnR P w K mg base CX0 2 (He.ga K "_law_next") spNext := by
  have G_law_mixed := ok_mixed (P := P) (w := w) (base := base) T
  refine fnr_of T.d_law_next sc_law_next (fun vs H Q E h => ?_) (fun _ _ _ _ _ _ us hl => match us, hl with | [_, _], _ => rfl) (fun cdv A outer s H vs Q E hr h => ?_)
  · obtain ⟨s, m, rfl, _⟩ := h
    rfl
  · obtain ⟨sr, m, rfl, ⟨x, y, z, hs⟩, m0, m1, q⟩ := h
    refine ⟨_, (pss_cons (ps_if (pt_cmpR op_ge (pe_ix ix_list (pv 0) pe_int (fun _ _ => rfl)) (pe_op op_pow pe_int pe_int) (nomark _)) (pss_cons (ps_set (i := 2) sc_law_next.nd rfl (Or.inl rfl) (pe_op op_mod (pe_ix ix_list (pv 0) pe_int (fun _ _ => rfl)) (pv 1)))
      (pss_cons (ps_asg (pe_op op_fdiv (pe_ix ix_list (pv 0) pe_int (fun _ _ => rfl)) (pv 1)) (pg_sub (pv 0) pe_int set_list))
      (pss_one (ps_ret (pv 2))))) pss_nil)
      (pss_cons (ps_asg (pe_op op_add (pe_ix ix_list (pv 0) pe_int (fun _ _ => rfl)) pe_int) (pg_sub (pv 0) pe_int set_list))
      (pss_one (ps_ret (pe_op op_mod (pe_callF G_law_mixed (hr.mono (by decide)) T.f_law_mixed T.kp_law_mixed (pa_cons (pe_ix ix_list (pv 0) pe_int (fun _ _ => rfl)) (pa_cons (pe_ix ix_list (pv 0) pe_int (fun _ _ => rfl)) pa_nil))) (pv 1)))))), ?_⟩
    refine ⟨_, rfl, sr, _, _, _, rfl, rfl, SqL.of hs, atI_nat (j := 0) rfl, _, _, rfl, rfl, ⟨by decide, by decide, by decide⟩, _, _, rfl, rfl, _, rfl, iteD (fun c => ?_) (fun c => ?_)⟩
    · refine ⟨_, rfl, sr, _, _, _, rfl, rfl, SqL.of hs, atI_nat (j := 0) rfl, _, rfl, _, _, rfl, rfl, m0, ?_⟩
      refine ⟨_, rfl, sr, _, _, _, rfl, rfl, SqL.of hs, atI_nat (j := 0) rfl, _, rfl, _, _, rfl, rfl, ⟨m0, m1⟩, _, rfl, sr, _, _, 0, rfl, rfl, hs, rfl, ?_⟩
      exact ⟨_, rfl, q _ _ _ _ (Int.emod_nonneg _ (by omega)) (Int.emod_lt_of_pos _ m0)⟩
    · refine ⟨_, rfl, sr, _, _, _, rfl, rfl, SqL.of hs, atI_nat (j := 2) rfl, _, _, rfl, rfl, _, rfl, sr, _, _, 2, rfl, rfl, hs, rfl, ?_⟩
      refine ⟨_, rfl, sr, _, _, _, rfl, rfl, SqL.of upd_same, atI_nat (j := 1) rfl, _, rfl, sr, _, _, _, rfl, rfl, SqL.of upd_same, atI_nat (j := 2) rfl, _, _, rfl, fun r => ⟨_, rfl, _, _, rfl, rfl, m0, ?_⟩⟩
      exact q _ _ _ _ (Int.emod_nonneg _ (by omega)) (Int.emod_lt_of_pos _ m0)
end
end K94
set_option maxRecDepth 100000
set_option maxHeartbeats 4000000
/-! K94R: the law's board. -/
namespace K94
open PySem PySem.Spec PyProof.Rows L2
theorem src_upd {H : Hp} {s : Addr} {x y z : Int} : SrcAt (upd H s (.lst [.int x, .int y, .int z])) s := ⟨x, y, z, upd_same⟩
theorem src_same {H H' : Hp} {s : Addr} (h : SrcAt H s) (sm : Same H H') : SrcAt H' s := let ⟨x, y, z, e⟩ := h; ⟨x, y, z, sm _ _ e⟩
theorem src_ne {H : Hp} {s b : Addr} (h : SrcAt H s) (e : H b = none) : s ≠ b := let ⟨x, y, z, q⟩ := h; ne_of_none q e
theorem but_src {H H' : Hp} {s : Addr} {o : HO} (h : But s H H') : But s H (upd H' s o) := h.trans but_upd
theorem but_same {H H' H2 : Hp} {s : Addr} (h : But s H H') (sm : Same H' H2) : But s H H2 := h.trans fun b o _ e => sm _ _ e
theorem TbAt.sub {K : PySem.W.Frag} {H : Hp} {tb : Addr} {S S' : Int → Prop} (h : TbAt K H tb S) (k : ∀ n, S' n → S n) : TbAt K H tb S' := by
  obtain ⟨dx, d1, d2, fs, k1, k2, a, b, c, d, e, f⟩ := h.ex
  exact ⟨dx, d1, d2, fs, k1, k2, a, b, c, d, e, fun n hn => f n (k n hn)⟩
theorem nodup_steps {ns : List Int} (h : ∀ (j : Nat) (v : Int), ns[j]? = some v → (20 + 9 * (j : Int)) ≤ v ∧ v < 29 + 9 * (j : Int)) : ns.Nodup := by
  refine List.pairwise_iff_getElem.mpr fun i j hi hj hij e => ?_
  have h1 := h j ns[j] (List.getElem?_eq_getElem hj)
  have h2 := h i ns[j] (by rw [List.getElem?_eq_getElem hi, e])
  omega
section
variable {P : Program} {w : World} {K : PySem.W.Frag} {mg : Str → Option Value} {base : Heap}
abbrev N_law_board : List Str := ["_law_source_here", "_law_found", "_law_k", "_law_signs", "_law_number"]
theorem sc_law_board : FnScope N_law_board ["_law_source_here"] (defScope s_law_board) := ⟨rfl, rfl, rfl, by decide +kernel, rfl, by decide +kernel, by decide +kernel⟩
def spBoard (K : PySem.W.Frag) : Sp := fun vs H Q _ => ∃ (s : Addr), vs = [.ref s] ∧ SrcAt H s ∧ ∀ H' t tb l (ns : List Int), But s H H' → SrcAt H' s → H t = none → H tb = none → H l = none → H' t = some (.tup [.ref tb, .ref l]) → H' l = some (.lst (ns.map V.int)) → ns.length = 12 → TbAt K H' tb (fun n => n ∈ ns) → Q (.ref t) H'
theorem ok_board (T : Txt K mg) : FnR P w K mg base CX0 7 (He.ga K "_law_board") (spBoard K) := by
  have G_law_next := ok_next (P := P) (w := w) (base := base) T
  have G_Sign := ok_Sign_init (P := P) (w := w) (base := base) T
  obtain ⟨sfd, smv, G_Sign_K, B_Sign⟩ := okN_Sign_init (P := P) (w := w) (base := base) T
  obtain ⟨tfd, G_Table_K, B_Table⟩ := okN_Table_init (P := P) (w := w) (base := base) T
  have G_Ready := ok_Ready_init (P := P) (w := w) (base := base) T
  refine fnr_of T.d_law_board sc_law_board (fun vs H Q E h => ?_) (fun _ _ _ _ _ _ us hl => match us, hl with | [_], _ => rfl) (fun cdv A outer s H vs Q E hr h => ?_)
  · obtain ⟨s, rfl, _⟩ := h
    rfl
  · obtain ⟨sr, rfl, hs, k⟩ := h
    refine ⟨_, (pss_cons (ps_setLc (i := 1) (own := [("_law_k", 2)]) rfl sc_law_board.nd rfl rfl (sw_true rfl rfl rfl (by decide +kernel)) (pi_range1 (by rfl) T.g_range (pa_cons pe_int pa_nil)) (blkOk_by (own := [("_law_k", 2)]) (N := N_law_board) (sc := defScope s_law_board) (by decide +kernel)) (fun _ _ _ _ _ => (pg_name (i := 2) sc_law_board.nd rfl (Or.inl rfl) (Or.inr rfl))) (fun _ _ _ _ _ => pts_nil) (fun _ _ _ _ _ => (pe_op op_add (pe_op op_add pe_int (pe_op op_mul pe_int (pv 2))) (pe_callF G_law_next (hr.mono (by decide)) T.f_law_next T.kp_law_next (pa_cons (pv 0) (pa_cons pe_int pa_nil))))))
      (pss_cons (ps_set (i := 1) sc_law_board.nd rfl (Or.inl rfl) (pe_op op_cat (pv 1) (pe_lst (pa_cons (pe_op op_add pe_int (pe_callF G_law_next (hr.mono (by decide)) T.f_law_next T.kp_law_next (pa_cons (pv 0) (pa_cons pe_int pa_nil)))) (pa_cons (pe_op op_add pe_int (pe_callF G_law_next (hr.mono (by decide)) T.f_law_next T.kp_law_next (pa_cons (pv 0) (pa_cons pe_int pa_nil)))) pa_nil)))))
      (pss_cons (ps_set (i := 3) sc_law_board.nd rfl (Or.inl rfl) (pe_op op_cat (pe_lc (own := [("_law_number", 4)]) rfl sc_law_board.nd (pi_list (pe_slice sl_list (pv 1) po_none (po_some pe_int))) (blkOk_by (own := [("_law_number", 4)]) (N := N_law_board) (sc := defScope s_law_board) (by decide +kernel)) (fun _ _ _ _ _ => (pg_name (i := 4) sc_law_board.nd rfl (Or.inl rfl) (Or.inr rfl))) (fun _ _ _ _ _ => pts_nil) (fun _ _ _ _ _ => (StX.pe_makeR T.mk_Sign G_Sign (hr.mono (by decide)) (by rfl) T.c_Sign pass0 (pa_cons (pv 4) pa_nil)))) (pe_lst (pa_cons (pe_makeN T.mk_Sign G_Sign_K (hr.mono (by decide)) (by rfl) T.c_Sign B_Sign pass0 (pa_cons (pe_ix ix_list (pv 1) pe_int (fun _ _ => rfl)) pa_nil) (pk_cons pe_str (pk_cons pe_int pk_nil))) pa_nil))))
      (pss_one (ps_ret (pe_tup (pa_cons (pe_makeN T.mk_Table G_Table_K (hr.mono (by decide)) (by rfl) T.c_Table B_Table pass0 (pa_cons (pv 3) pa_nil) (pk_cons (pe_lst (pa_cons (StX.pe_makeR T.mk_Ready G_Ready (hr.mono (by decide)) (by rfl) T.c_Ready pass0 (pa_cons (pe_ix ix_list (pv 1) pe_int (fun _ _ => rfl)) (pa_cons (pe_tup (pa_cons (pe_ix ix_list (pv 1) pe_int (fun _ _ => rfl)) (pa_cons (pe_ix ix_list (pv 1) pe_int (fun _ _ => rfl)) pa_nil))) pa_nil))) pa_nil)) pk_nil)) (pa_cons (pv 1) pa_nil)))))))), ?_⟩
    have b0 : But sr H H := fun _ _ _ h => h
    -- _law_found = [..]
    refine ⟨10, rfl, by decide, by decide, fun D hD => ?_⟩
    have sD := src_ne hs hD
    refine lc_range0 (fun i H1 => ∃ ns : List Int, ns.length = i ∧ (∀ (j : Nat) (v : Int), ns[j]? = some v → (20 + 9 * (j : Int)) ≤ v ∧ v < 29 + 9 * (j : Int)) ∧ But sr H H1 ∧ SrcAt H1 sr ∧ H1 D = some (.lst (ns.map V.int))) ⟨[], rfl, fun j v e => by simp at e, but_same b0 (same_new hD), src_same hs (same_new hD), upd_same⟩ (fun i H1 hi e => ?_) (fun H1 e => ?_)
    · obtain ⟨ns, hn, hr', b1, s1, hD1⟩ := e
      have hi : i < 10 := hi
      refine ⟨rfl, _, rfl, _, _, rfl, rfl, .inl ⟨by decide, by decide⟩, _, _, rfl, rfl, _, rfl, sr, 9, rfl, s1, by decide, by decide, fun r x y z r0 r1 => ⟨_, _, rfl, rfl, ns.map V.int, (by rw [upd_ne sD.symm]; exact hD1), sl5 (by rw [List.length_map]; omega), ns ++ [20 + 9 * (0 + (i : Int)) + r], by rw [List.length_append, hn]; rfl, fun j v e => ?_, fun b o n h => ?_, ?_, by rw [upd_same, List.map_append]; rfl⟩⟩
      · by_cases hj : j < ns.length
        · rw [List.getElem?_append_left hj] at e
          exact hr' j v e
        · have hj2 : j = i := by
            have := (List.getElem?_eq_some_iff.mp e).1
            rw [List.length_append, List.length_singleton] at this
            omega
          subst hj2
          rw [List.getElem?_append_right (by omega), hn, Nat.sub_self] at e
          simp at e
          omega
      · rw [upd_ne (ne_of_none h hD), upd_ne n]
        exact b1 b o n h
      · exact ⟨x, y, z, by rw [upd_ne sD]; exact upd_same⟩
    obtain ⟨ns, hn, hr', b1, s1, hD1⟩ := e
    have hn : ns.length = 10 := hn
    -- _law_found + [..]
    refine ⟨_, rfl, _, rfl, sr, 1000, rfl, s1, by decide, by decide, fun r1 x1 y1 z1 p1 p2 => ⟨_, _, rfl, rfl, ?_⟩⟩
    refine ⟨_, rfl, sr, 60000, rfl, src_upd, by decide, by decide, fun r2 x2 y2 z2 p3 p4 => ⟨_, _, rfl, rfl, (by show 2 ≤ sizeLine; decide), fun e e0 => ?_⟩⟩
    rw [upd_upd] at e0 ⊢
    have b2 : But sr H (upd H1 sr (.lst [.int x2, .int y2, .int z2])) := but_src b1
    have s2 : SrcAt (upd H1 sr (.lst [.int x2, .int y2, .int z2])) sr := src_upd
    have hD2 : (upd H1 sr (.lst [.int x2, .int y2, .int z2])) D = some (.lst (ns.map V.int)) := by rw [upd_ne sD.symm]; exact hD1
    generalize upd H1 sr (.lst [.int x2, .int y2, .int z2]) = H2 at b2 s2 hD2 e0 ⊢
    have s3' := same_new (o := .lst [V.int (300 + r1), V.int (3000 + r2)]) e0
    refine ⟨D, e, _, _, rfl, rfl, s3' _ _ hD2, upd_same, sz5 (by rw [List.length_map]; simp; omega), fun L L0 => ?_⟩
    have s3 := s3'.trans (same_new (o := .lst (ns.map V.int ++ [V.int (300 + r1), V.int (3000 + r2)])) L0)
    have hL3 : (upd (upd H2 e (.lst [V.int (300 + r1), V.int (3000 + r2)])) L (.lst (ns.map V.int ++ [V.int (300 + r1), V.int (3000 + r2)]))) L = some (.lst ((ns ++ [300 + r1, 3000 + r2]).map V.int)) := by rw [upd_same, List.map_append]; rfl
    have L0' : H2 L = none := s3'.free L0
    have b3 := but_same b2 s3
    have sr3 := src_same s2 s3
    have LH : H L = none := b2.free (fun z => by rw [z] at L0'; obtain ⟨_, _, _, q⟩ := s2; rw [q] at L0'; cases L0') L0'
    generalize upd (upd H2 e (.lst [V.int (300 + r1), V.int (3000 + r2)])) L (.lst (ns.map V.int ++ [V.int (300 + r1), V.int (3000 + r2)])) = H3 at b3 sr3 hL3 ⊢
    clear s3 L0' s3' L0 e0 hD2 s2 b2 hD1 s1 b1
    generalize hfs : ns ++ [300 + r1, 3000 + r2] = fs at hL3
    have fl : fs.length = 12 := by rw [← hfs, List.length_append, hn]; rfl
    have f10 : fs[10]? = some (300 + r1) := by rw [← hfs, List.getElem?_append_right (by omega), hn]; rfl
    have f11 : fs[11]? = some (3000 + r2) := by rw [← hfs, List.getElem?_append_right (by omega), hn]; rfl
    have ft : fs.take 10 = ns := by rw [← hfs, ← hn, List.take_left]
    have fget : ∀ {j : Nat} {v : Int}, fs[j]? = some v → (fs.map V.int)[j]? = some (V.int v) := fun e => by rw [List.getElem?_map, e]; rfl
    -- [Sign(n) for n in found[:10]]
    refine ⟨_, rfl, _, rfl, L, _, rfl, SqL.of hL3, fun c c0 => ?_⟩
    have ec : cutV (fs.map V.int) none (some 10) = ns.map V.int := by rw [show (some 10 : Option Int) = some ((10 : Nat) : Int) from rfl, cut_to, ← List.map_take, ft]
    simp only [ec]
    have sc := same_new (o := .lst (ns.map V.int)) c0
    refine ⟨c, rfl, ⟨_, SqL.of upd_same⟩, fun D2 hD2 => ?_⟩
    have cD2 : c ≠ D2 := ne_of_none upd_same hD2
    refine lc_list0 (K := K) (a := c) (xs := ns.map V.int) (fun i H5 => ∃ ss : List Addr, ss.length = i ∧ (∀ (j : Nat) (a : Addr) (v : Int), ss[j]? = some a → ns[j]? = some v → SgAt K (hid [D2] H5) a v false) ∧ (∀ b o, b ≠ D2 → (upd H3 c (.lst (ns.map V.int))) b = some o → H5 b = some o) ∧ H5 D2 = some (.lst (ss.map V.ref)))
      ⟨[], rfl, fun j a v e => by simp at e, fun b o n h => by rw [upd_ne n]; exact h, upd_same⟩ (fun i H5 _ ⟨_, _, _, q, _⟩ => SqL.of (q _ _ cD2 upd_same)) (fun i y H5 hi e => ?_) (fun H5 e => ?_)
    · obtain ⟨ss, hn2, hsg, f5, hD5⟩ := e
      obtain ⟨n, hn', rfl⟩ := map_int_get hi
      have hil : i < ns.length := (List.getElem?_eq_some_iff.mp hn').1
      obtain ⟨q1, q2⟩ := hr' i n hn'
      refine ⟨rfl, _, rfl, fun x dx x0 d0 ne => ⟨x, dx, n, false, H5, rfl, x0, d0, ne, rfl, by omega, by omega, fun H6 s6 hx => ⟨rfl, ss.map V.ref, s6 _ _ hD5, sl5 (by rw [List.length_map]; omega), ss ++ [x], by rw [List.length_append, hn2]; rfl, fun j a v e1 e2 => ?_, fun b o n h => ?_, by rw [upd_same, List.map_append]; rfl⟩⟩⟩
      · by_cases hj : j < ss.length
        · rw [List.getElem?_append_left hj] at e1
          obtain ⟨adx, ha⟩ := hsg j a v e1 e2
          obtain ⟨ha1, ha2⟩ := of_hid ha
          exact ⟨adx, hid_get (by rw [upd_ne (by simpa using ha2)]; exact s6 _ _ ha1) ha2⟩
        · have hj2 : j = i := by
            have := (List.getElem?_eq_some_iff.mp e1).1
            rw [List.length_append, List.length_singleton] at this
            omega
          subst hj2
          rw [List.getElem?_append_right (by omega), hn2, Nat.sub_self] at e1
          rw [hn'] at e2
          cases e2
          simp at e1
          subst e1
          obtain ⟨adx, ha⟩ := hx
          have xD : x ≠ D2 := (ne_of_none hD5 x0).symm
          exact ⟨adx, hid_get (by rw [upd_ne xD]; exact ha) (by simpa using xD)⟩
      · rw [upd_ne n]
        exact s6 _ _ (f5 b o n h)
    obtain ⟨ss, hn2, hsg, f5, hD5⟩ := e
    rw [List.length_map, hn] at hn2
    have f35 : Same H3 H5 := fun b o e => f5 b o (ne_of_none (sc _ _ e) hD2) (sc _ _ e)
    have b5 := but_same b3 f35
    have sr5 := src_same sr3 f35
    have hL5 := f35 _ _ hL3
    clear f5 cD2 hD2 sc ec c0
    -- [Sign(found[10], kind='mark', rank=3)]
    refine ⟨_, rfl, L, _, _, _, rfl, rfl, SqL.of hL5, atI_nat (j := 10) (fget f10), rfl, rfl, fun m dm m0 dm0 ne => ⟨m, dm, 300 + r1, true, H5, rfl, m0, dm0, ne, rfl, by omega, by omega, fun H6 s6 hm => ⟨rfl, (by show 1 ≤ sizeLine; decide), fun e e0 => ?_⟩⟩⟩
    have se := same_new (o := .lst [V.ref m]) e0
    refine ⟨D2, e, _, _, rfl, rfl, se _ _ (s6 _ _ hD5), upd_same, sz5 (by simp; omega), fun sl sl0 => ?_⟩
    have s57 := (s6.trans se).trans (same_new (o := .lst (ss.map V.ref ++ [V.ref m])) sl0)
    have hsl7 : (upd (upd H6 e (.lst [V.ref m])) sl (.lst (ss.map V.ref ++ [V.ref m]))) sl = some (.lst (ss.map V.ref ++ [V.ref m])) := upd_same
    obtain ⟨mdx, hm⟩ := hm
    have hm7 := (se.trans (same_new (o := .lst (ss.map V.ref ++ [V.ref m])) sl0)) _ _ hm
    generalize upd (upd H6 e (.lst [V.ref m])) sl (.lst (ss.map V.ref ++ [V.ref m])) = H7 at s57 hsl7 hm7 ⊢
    have hL7 := s57 _ _ hL5
    -- Table(signs, ready=[Ready(found[11], (found[0], found[10]))])
    obtain ⟨v0, f0⟩ : ∃ v0, fs[0]? = some v0 := ⟨_, List.getElem?_eq_getElem (by omega)⟩
    have n0 : ns[0]? = some v0 := by
      rw [← ft, List.getElem?_take_of_lt (by decide)]
      exact f0
    obtain ⟨w1, w2⟩ := hr' 0 v0 n0
    refine ⟨_, rfl, _, rfl, L, _, _, _, rfl, rfl, SqL.of hL7, atI_nat (j := 11) (fget f11), _, rfl, L, _, _, _, rfl, rfl, SqL.of hL7, atI_nat (j := 0) (fget f0), _, rfl, L, _, _, _, rfl, rfl, SqL.of hL7, atI_nat (j := 10) (fget f10), (by show 2 ≤ sizeLine; decide), fun t t0 => ?_⟩
    have st := same_new (o := .tup [V.int v0, V.int (300 + r1)]) t0
    refine fun rd rdx rd0 rdx0 rne => ⟨rd, rdx, t, 3000 + r2, v0, 300 + r1, _, rfl, rd0, rdx0, rne, rfl, upd_same, ⟨by omega, by omega⟩, ⟨by omega, by omega⟩, ⟨by omega, by omega⟩, fun H9 s9 hrd => ⟨rfl, (by show 1 ≤ sizeLine; decide), fun l2 l20 => ⟨rfl, rfl, ?_⟩⟩⟩
    obtain ⟨rdx', hrd⟩ := hrd
    have s10 := same_new (o := .lst [V.ref rd]) l20
    have ht10 := s10 _ _ (s9 _ _ (upd_same (H := H7) (a := t) (o := .tup [V.int v0, V.int (300 + r1)])))
    have hrd10 := s10 _ _ hrd
    have s710 := (st.trans s9).trans s10
    have hl210 : (upd H9 l2 (.lst [V.ref rd])) l2 = some (.lst [V.ref rd]) := upd_same
    generalize upd H9 l2 (.lst [V.ref rd]) = H10 at s710 hl210 ht10 hrd10 ⊢
    clear st s9 s10 t0 l20 rd0 rdx0
    have hL10 := s710 _ _ hL7
    have hsl10 := s710 _ _ hsl7
    have hm10 := s710 _ _ hm7
    have sg510 := s57.trans s710
    have nsl : ss.length = ns.length := by omega
    have hsgm : ((ss.zip ns).map (fun p => (p.1, p.2, false)) ++ [(m, 300 + r1, true)] : List (Addr × Int × Bool)).map (·.2.1) = ns ++ [300 + r1] := by
      rw [List.map_append, List.map_map, show ((fun x : Addr × Int × Bool => x.2.1) ∘ fun p : Addr × Int => (p.1, p.2, false)) = Prod.snd from rfl, List.map_snd_zip (by omega)]
      rfl
    have hsgr : ((ss.zip ns).map (fun p => (p.1, p.2, false)) ++ [(m, 300 + r1, true)] : List (Addr × Int × Bool)).map (fun p => V.ref p.1) = ss.map V.ref ++ [V.ref m] := by
      rw [List.map_append, List.map_map, show ((fun x : Addr × Int × Bool => V.ref x.1) ∘ fun p : Addr × Int => (p.1, p.2, false)) = V.ref ∘ Prod.fst from rfl, ← List.map_map, List.map_fst_zip (by omega)]
      rfl
    have low : ∀ v ∈ ns, 20 ≤ v ∧ v < 300 := fun v hv => by
      obtain ⟨j, hj, e⟩ := List.getElem_of_mem hv
      have := hr' j v (by rw [← e]; exact List.getElem?_eq_getElem hj)
      omega
    have nd : (ns ++ [300 + r1]).Nodup := by
      rw [List.nodup_append]
      refine ⟨nodup_steps hr', by simp, fun a ha b hb e => ?_⟩
      have := low a ha
      simp at hb
      omega
    obtain ⟨s0, hs0⟩ : ∃ s0, ss[0]? = some s0 := ⟨_, List.getElem?_eq_getElem (by omega)⟩
    have hf5 : Same (hid [D2] H5) H10 := hid_same.trans sg510
    refine fun x dx x0 d0 ne => ⟨x, dx, sl, l2, rd, s0, m, (ss.zip ns).map (fun p => (p.1, p.2, false)) ++ [(m, 300 + r1, true)], 3000 + r2, v0, 300 + r1, H10, rfl, x0, d0, ne, rfl, by rw [hsgr]; exact hsl10, ⟨fun p hp => ?_, by rw [hsgm]; exact nd, fun p hp => ?_, by simp; omega⟩, hl210, ⟨rdx', t, hrd10, ht10⟩, ⟨by omega, by omega⟩, ?_, ?_, by simp, fun H11 s11 hT => ⟨rfl, ?_⟩⟩
    · rcases List.mem_append.mp hp with hp | hp
      · obtain ⟨q, hq, rfl⟩ := List.mem_map.mp hp
        obtain ⟨j, hj, e⟩ := List.getElem_of_mem hq
        have e1 : ss[j]? = some q.1 := by
          rw [← e, List.getElem_zip]
          exact List.getElem?_eq_getElem _
        have e2 : ns[j]? = some q.2 := by
          rw [← e, List.getElem_zip]
          exact List.getElem?_eq_getElem _
        obtain ⟨adx, ha⟩ := hsg j q.1 q.2 e1 e2
        exact ⟨adx, hf5 _ _ ha⟩
      · simp only [List.mem_cons, List.not_mem_nil, or_false] at hp
        subst hp
        exact ⟨mdx, hm10⟩
    · have : p.2.1 ∈ ns ++ [300 + r1] := by rw [← hsgm]; exact List.mem_map.mpr ⟨p, hp, rfl⟩
      rcases List.mem_append.mp this with h | h
      · have := low _ h
        omega
      · simp at h
        omega
    · rw [hsgm]
      intro h
      rcases List.mem_append.mp h with h | h
      · have := low _ h
        omega
      · simp at h
        omega
    · refine List.mem_append_left _ (List.mem_map.mpr ⟨(s0, v0), ?_, rfl⟩)
      refine List.mem_of_getElem? (i := 0) ?_
      rw [List.getElem?_zip_eq_some]
      exact ⟨hs0, n0⟩
    · rw [hsgm] at hT
      have hT := hT.sub (S' := fun n => n ∈ fs) fun n hn => by
        rw [← hfs] at hn
        simp only [List.mem_append, List.mem_cons, List.not_mem_nil, or_false] at hn ⊢
        rcases hn with h | h | h
        · exact .inl (.inl h)
        · exact .inl (.inr h)
        · exact .inr h
      -- the pair
      refine ⟨_, rfl, (by show 2 ≤ sizeLine; decide), fun tt tt0 => ?_⟩
      have s12 := same_new (o := .tup [V.ref x, V.ref L]) tt0
      have bAll := but_same b5 ((sg510.trans s11).trans s12)
      have xs : ∀ {b}, H5 b = none → H b = none := fun {b} e => b5.free (fun z => by rw [z] at e; obtain ⟨_, _, _, q⟩ := sr5; rw [q] at e; cases e) e
      refine k _ tt x L fs bAll (src_same sr5 ((sg510.trans s11).trans s12)) (xs ((sg510.trans s11).free tt0)) (xs (sg510.free x0)) LH upd_same ((s11.trans s12) _ _ hL10) fl (hT.mono s12)
end
end K94
set_option maxRecDepth 100000
set_option maxHeartbeats 4000000
/-! K94S: the law's deeds. -/
namespace K94
open PySem PySem.Spec PyProof.Rows L2
section
variable {P : Program} {w : World} {K : PySem.W.Frag} {mg : Str → Option Value} {base : Heap}
abbrev N_law_deeds : List Str := ["_law_source_here", "_law_numbers", "_law_many", "_law_begin", "_law_found", "_law_k", "_law_pattern", "_law_j"]
theorem sc_law_deeds : FnScope N_law_deeds ["_law_source_here", "_law_numbers", "_law_many"] (defScope s_law_deeds) := ⟨rfl, rfl, rfl, by decide +kernel, rfl, by decide +kernel, by decide +kernel⟩
/-- deeds in the making -/
structure DI (H H1 : Hp) (s l p : Addr) (ns : List Int) (rows : List Rw) : Prop where
  b : But s H H1
  src : SrcAt H1 s
  p0 : H p = none
  ex : ∃ its, H1 p = some (.lst its) ∧ RowsAt (hid [p] (newIn H H1)) its rows
  l1 : H1 l = some (.lst (ns.map V.int))
  mem : ∀ x ∈ puts rows, x ∈ ns
theorem DI.more {H H1 H2 : Hp} {s l p : Addr} {ns : List Int} {rows : List Rw} (g : DI H H1 s l p ns rows) (sm : Same H1 H2) : DI H H2 s l p ns rows := by
  obtain ⟨b, src, p0, ⟨its, h1, h2⟩, l1, mem⟩ := g
  exact ⟨but_same b sm, src_same src sm, p0, ⟨its, sm _ _ h1, RowsAt.mono (hid2_step fun c u n e => ⟨sm _ _ e, n⟩) h2⟩, sm _ _ l1, mem⟩
theorem DI.draw {H H1 : Hp} {s l p : Addr} {ns : List Int} {rows : List Rw} {x y z : Int} (g : DI H H1 s l p ns rows) (hs : (H s).isSome = true) : DI H (upd H1 s (.lst [.int x, .int y, .int z])) s l p ns rows ∨ s = l := by
  obtain ⟨b, src, p0, ⟨its, h1, h2⟩, l1, mem⟩ := g
  by_cases e : s = l
  · exact .inr e
  refine .inl ⟨but_src b, src_upd, p0, ⟨its, ?_, RowsAt.mono (fun c u q => ?_) h2⟩, by rw [upd_ne (Ne.symm e)]; exact l1, mem⟩
  · rw [upd_ne (fun z => by rw [z] at p0; rw [p0] at hs; cases hs)]
    exact h1
  · obtain ⟨q1, q2⟩ := of_hid q
    obtain ⟨q3, q4⟩ := of_newIn q1
    exact hid_get (newIn_get q3 (by rw [upd_ne (fun z => by rw [z] at q3; rw [q3] at hs; cases hs)]; exact q4)) q2
theorem DI.frame {H H1 H2 : Hp} {s l p : Addr} {ns : List Int} {rows : List Rw} (g : DI H H1 s l p ns rows) (hs : (H s).isSome = true) (hne : s ≠ l) (f : ∀ b o, b ≠ s → H1 b = some o → H2 b = some o) (src2 : SrcAt H2 s) : DI H H2 s l p ns rows := by
  obtain ⟨b, src, p0, ⟨its, h1, h2⟩, l1, mem⟩ := g
  have ps : p ≠ s := fun z => by rw [z] at p0; rw [p0] at hs; cases hs
  refine ⟨fun c u n e => f c u n (b c u n e), src2, p0, ⟨its, f _ _ ps h1, RowsAt.mono (fun c u q => ?_) h2⟩, f _ _ hne.symm l1, mem⟩
  obtain ⟨q1, q2⟩ := of_hid q
  obtain ⟨q3, q4⟩ := of_newIn q1
  exact hid_get (newIn_get q3 (f c u (fun z => by rw [z] at q3; rw [q3] at hs; cases hs) q4)) q2
theorem DI.push {H H1 : Hp} {s l p t : Addr} {ns : List Int} {rows : List Rw} {r : Rw} {vs : List V} (g : DI H H1 s l p ns rows) (hsp : s ≠ p) (hlp : l ≠ p) (t0 : H1 t = none) (tn : H t = none) (hr : RowAt (hid [p] (newIn H (upd H1 t (.tup vs)))) (.ref t) r) (hm : ∀ x ∈ puts [r], x ∈ ns) :
    ∃ its, H1 p = some (.lst its) ∧ its.length = rows.length ∧ DI H (upd (upd H1 t (.tup vs)) p (.lst (its ++ [.ref t]))) s l p ns (rows ++ [r]) := by
  obtain ⟨b, src, p0, ⟨its, h1, h2⟩, l1, mem⟩ := g
  have s1 := same_new (o := HO.tup vs) t0
  have q1 : ∀ c u, c ∉ [p] → upd H1 t (.tup vs) c = some u → upd (upd H1 t (.tup vs)) p (.lst (its ++ [.ref t])) c = some u ∧ c ∉ [p] := fun c u n e => ⟨by rw [upd_ne (by simpa using n)]; exact e, n⟩
  refine ⟨its, h1, paired_len h2, fun c u n e => ?_, ?_, p0, ⟨_, upd_same, paired_app (RowsAt.mono (hid2_step fun c u n e => q1 c u n (s1 _ _ e)) h2) (paired_one (RowAt.mono (hid2_step q1) hr))⟩, by rw [upd_ne hlp]; exact s1 _ _ l1, fun x hx => ?_⟩
  · rw [upd_ne (fun z => by rw [z, p0] at e; cases e)]
    exact s1 _ _ (b c u n e)
  · obtain ⟨x, y, z, e⟩ := src
    exact ⟨x, y, z, by rw [upd_ne hsp]; exact s1 _ _ e⟩
  · rw [puts_app, List.mem_append] at hx
    exact hx.elim (mem x) (hm x)
def spDeeds (K : PySem.W.Frag) : Sp := fun vs H Q _ => ∃ (s l : Addr) (ns : List Int) (many : Nat), vs = [.ref s, .ref l, .int many] ∧ SrcAt H s ∧ H l = some (.lst (ns.map V.int)) ∧ ns.length = 12 ∧ s ≠ l ∧ many ≤ 1000000 ∧
  ∀ H' p its rows, But s H H' → SrcAt H' s → H p = none → H' p = some (.lst its) → RowsAt (newIn H H') its rows → nd rows ≤ many → (puts rows).length ≤ 10 → (∀ x ∈ puts rows, x ∈ ns) → rows.length ≤ 11 → Q (.ref p) H'
theorem ok_deeds (T : Txt K mg) : FnR P w K mg base CX0 3 (He.ga K "_law_deeds") (spDeeds K) := by
  have G_law_next := ok_next (P := P) (w := w) (base := base) T
  refine fnr_of T.d_law_deeds sc_law_deeds (fun vs H Q E h => ?_) (fun _ _ _ _ _ _ us hl => match us, hl with | [_, _, _], _ => rfl) (fun cdv A outer s H vs Q E hr h => ?_)
  · obtain ⟨s, l, ns, many, rfl, _⟩ := h
    rfl
  · obtain ⟨sr, l, ns, many, rfl, hs, hl, hn, hne, hm, k⟩ := h
    have hsome : (H sr).isSome = true := by obtain ⟨_, _, _, e⟩ := hs; rw [e]; rfl
    refine ⟨_, (pss_cons (ps_set (i := 3) sc_law_deeds.nd rfl (Or.inl rfl) (pe_op op_mul (pe_callF G_law_next (hr.mono (by decide)) T.f_law_next T.kp_law_next (pa_cons (pv 0) (pa_cons pe_int pa_nil))) (pe_callF G_law_next (hr.mono (by decide)) T.f_law_next T.kp_law_next (pa_cons (pv 0) (pa_cons (pe_op op_add (pv 2) pe_int) pa_nil)))))
      (pss_cons (ps_set (i := 4) sc_law_deeds.nd rfl (Or.inl rfl) (pe_lst (pa_cons (pe_tup (pa_cons pe_str (pa_cons (pv 3) pa_nil))) pa_nil)))
      (pss_cons (ps_for PassesOwn.never rfl (pi_range1 (by rfl) T.g_range (pa_cons (pe_op op_add (pe_callB (call_min2 rfl) (by rfl) T.g_min (by decide +kernel) (pa_cons (pe_op op_sub (pv 2) (pv 3)) (pa_cons (pe_callF G_law_next (hr.mono (by decide)) T.f_law_next T.kp_law_next (pa_cons (pv 0) (pa_cons pe_int pa_nil))) pa_nil))) pe_int) pa_nil)) (pg_name (i := 5) sc_law_deeds.nd rfl (Or.inl rfl)) (pss_cons (ps_set (i := 6) sc_law_deeds.nd rfl (Or.inl rfl) (pe_callF G_law_next (hr.mono (by decide)) T.f_law_next T.kp_law_next (pa_cons (pv 0) (pa_cons pe_int pa_nil))))
      (C8.pss_cut (ps_if (pt_cmpR op_lt (pv 6) pe_int (nomark _)) (pss_one (ps_expr (pe_bm PySem.F.plainAttrs_list PySem.F.slot_list_append PySem.F.type_list_append mt_append (pv 4) (pa_cons (pe_tup (pa_cons pe_str (pa_cons (pe_lc (own := [("_law_j", 7)]) (te := tOp (rIxL K) (tVar 1) (tCallF spNext (tCons (tVar 0) (tCons (tC (.int 12)) tNil)))) rfl sc_law_deeds.nd (pi_range1 (by rfl) T.g_range (pa_cons (pe_op op_add (pv 6) (pe_callF G_law_next (hr.mono (by decide)) T.f_law_next T.kp_law_next (pa_cons (pv 0) (pa_cons pe_int pa_nil)))) pa_nil)) (blkOk_by (own := [("_law_j", 7)]) (N := N_law_deeds) (sc := defScope s_law_deeds) (by decide +kernel)) (fun _ _ _ _ _ => (pg_name (i := 7) sc_law_deeds.nd rfl (Or.inl rfl) (Or.inr rfl))) (fun _ _ _ _ _ => pts_nil) (fun _ _ _ _ _ => (pe_ix ix_list (pv 1) (pe_callF G_law_next (hr.mono (by decide)) T.f_law_next T.kp_law_next (pa_cons (pv 0) (pa_cons pe_int pa_nil))) (fun _ _ => rfl)))) pa_nil))) pa_nil)))) pss_nil)
      (pss_one (ps_expr (pe_bm PySem.F.plainAttrs_list PySem.F.slot_list_append PySem.F.type_list_append mt_append (pv 4) (pa_cons (pe_tup (pa_cons (pe_ix ix_list (pe_lst (pa_cons pe_str (pa_cons pe_str (pa_cons pe_str pa_nil)))) (pe_callF G_law_next (hr.mono (by decide)) T.f_law_next T.kp_law_next (pa_cons (pv 0) (pa_cons pe_int pa_nil))) (fun _ _ => rfl)) (pa_cons (pe_callTy call_int1 (by rfl) T.g_int (by decide +kernel) (pa_cons (pe_cmpR op_lt (pe_op op_add (pv 3) (pv 5)) (pv 2) (nomark _)) pa_nil)) pa_nil))) pa_nil)))))))
      (pss_one (ps_ret (pv 4)))))), ?_⟩
    -- begin
    refine ⟨_, rfl, sr, 2, rfl, hs, by decide, by decide, fun u x1 y1 z1 u0 u1 => ?_⟩
    refine ⟨_, rfl, _, rfl, _, _, rfl, rfl, sr, _, rfl, src_upd, by omega, by omega, fun v x2 y2 z2 v0 v1 => ⟨_, _, rfl, rfl, .inl ⟨by omega, by omega⟩, ?_⟩⟩
    rw [upd_upd]
    have hb : ∃ bg : Nat, u * v = (bg : Int) ∧ bg ≤ many := by
      refine ⟨(u * v).toNat, ?_, ?_⟩
      · rw [Int.toNat_of_nonneg (Int.mul_nonneg u0 v0)]
      · have : u = 0 ∨ u = 1 := by omega
        rcases this with rfl | rfl
        · simp
        · rw [Int.one_mul]; omega
    obtain ⟨bg, ebg, hbg⟩ := hb
    dsimp only [List.set]
    rw [ebg]
    have b1 : But sr H (upd H sr (.lst [.int x2, .int y2, .int z2])) := but_upd
    have s1 : SrcAt (upd H sr (.lst [.int x2, .int y2, .int z2])) sr := src_upd
    have hl1 : (upd H sr (.lst [.int x2, .int y2, .int z2])) l = some (.lst (ns.map V.int)) := by rw [upd_ne hne.symm]; exact hl
    generalize upd H sr (.lst [.int x2, .int y2, .int z2]) = H1 at b1 s1 hl1 ⊢
    -- found = [('keep', begin)]
    refine ⟨_, rfl, (by show 2 ≤ sizeLine; decide), fun t t0 => ⟨(by show 1 ≤ sizeLine; decide), fun p p0 => ?_⟩⟩
    have sf : ∀ {H' : Hp} {b : Addr}, But sr H H' → SrcAt H' sr → H' b = none → H b = none := fun {H' b} bb ss e => bb.free (src_ne ss e).symm e
    have st := same_new (o := .tup [V.str "keep", V.int bg]) t0
    have tp : t ≠ p := ne_of_none upd_same p0
    have hp0 : H1 p = none := st.free p0
    have sp : sr ≠ p := src_ne s1 hp0
    have lp : l ≠ p := ne_of_none hl1 hp0
    have g1 : DI H (upd (upd H1 t (.tup [V.str "keep", V.int bg])) p (.lst [V.ref t])) sr l p ns [.mv true bg] := by
      have sm := st.trans (same_new (o := .lst [V.ref t]) p0)
      refine ⟨but_same b1 sm, src_same s1 sm, sf b1 s1 hp0, ⟨_, upd_same, paired_one ⟨t, rfl, hid_get (newIn_get (sf b1 s1 t0) (by rw [upd_ne tp]; exact upd_same)) (by simpa using tp)⟩⟩, sm _ _ hl1, by simp [puts]⟩
    generalize upd (upd H1 t (.tup [V.str "keep", V.int bg])) p (.lst [V.ref t]) = H2 at g1 ⊢
    clear st tp hp0 p0 t0 hl1 s1 b1
    -- for k in range(min(many - begin, next(5)) + 1)
    refine ⟨_, rfl, _, rfl, _, _, rfl, rfl, _, rfl, sr, 5, rfl, g1.src, by decide, by decide, fun r x3 y3 z3 q0 q1 => ?_⟩
    have g2 := (g1.draw (x := x3) (y := y3) (z := z3) hsome).resolve_right hne
    generalize upd H2 sr (.lst [.int x3, .int y3, .int z3]) = H3 at g2 ⊢
    refine ⟨_, _, rfl, _, _, rfl, rfl, ?_⟩
    have N1 : (if r < (many : Int) - (bg : Int) then r else (many : Int) - (bg : Int)) + 1 ≤ 5 ∧ (if r < (many : Int) - (bg : Int) then r else (many : Int) - (bg : Int)) + 1 ≤ (many : Int) - (bg : Int) + 1 ∧ 0 < (if r < (many : Int) - (bg : Int) then r else (many : Int) - (bg : Int)) + 1 := by
      split <;> omega
    refine ⟨_, rfl, by show -(2 ^ 62) ≤ ((if r < (many : Int) - (bg : Int) then r else (many : Int) - (bg : Int)) + 1); omega, by show ((if r < (many : Int) - (bg : Int) then r else (many : Int) - (bg : Int)) + 1) < 2 ^ 62; omega, ?_⟩
    generalize (if r < (many : Int) - (bg : Int) then r else (many : Int) - (bg : Int)) + 1 = N at N1 ⊢
    clear r q0 q1 x3 y3 z3 g1
    refine for_range (fun i σ1 H4 => ∃ v5 v6 v7 rows, σ1 = [some (.ref sr), some (.ref l), some (.int many), some (.int bg), some (.ref p), v5, v6, v7] ∧ DI H H4 sr l p ns rows ∧ nd rows ≤ bg + min i (many - bg) ∧ (puts rows).length ≤ 2 * i ∧ rows.length ≤ 1 + 2 * i) ⟨none, none, none, _, rfl, g2, by simp [nd], by simp [puts], by simp⟩ ?_ ?_
    · rintro i σ1 H4 hi ⟨v5, v6, v7, rows, rfl, g, n1, n2, n3⟩
      have hi5 : i < 5 := by omega
      -- pattern
      refine ⟨_, rfl, sr, 4, rfl, g.src, by decide, by decide, fun pt x4 y4 z4 p0 p1 => ?_⟩
      have g := (g.draw (x := x4) (y := y4) (z := z4) hsome).resolve_right hne
      generalize upd H4 sr (.lst [.int x4, .int y4, .int z4]) = H5 at g ⊢
      -- if pattern < 2
      refine ⟨fun σ' H' => ∃ v7 rows', σ' = [some (.ref sr), some (.ref l), some (.int many), some (.int bg), some (.ref p), some (.int (0 + (i : Int))), some (.int pt), v7] ∧ DI H H' sr l p ns rows' ∧ nd rows' = nd rows ∧ (puts rows').length ≤ (puts rows).length + 2 ∧ rows'.length ≤ rows.length + 1, ?_, ?_⟩
      · refine ⟨_, rfl, _, _, rfl, rfl, _, rfl, iteD (fun c => ?_) (fun c => ?_)⟩
        · obtain ⟨its, hp, _⟩ := g.ex
          refine ⟨_, rfl, .inl ⟨rfl, _, SqL.of hp⟩, _, rfl, _, rfl, sr, 2, rfl, g.src, by decide, by decide, fun r x5 y5 z5 q0 q1 => ?_⟩
          have g := (g.draw (x := x5) (y := y5) (z := z5) hsome).resolve_right hne
          generalize upd H5 sr (.lst [.int x5, .int y5, .int z5]) = H5 at g ⊢
          refine ⟨_, _, rfl, rfl, _, rfl, by show -(2 ^ 62) ≤ pt + r; omega, by show pt + r < 2 ^ 62; omega, fun D hD => ?_⟩
          have sD := src_ne g.src hD
          have lD := ne_of_none g.l1 hD
          obtain ⟨its0, hp0, _⟩ := g.ex
          have pD := ne_of_none hp0 hD
          refine lc_range0 (fun j H6 => ∃ vs : List Int, vs.length = j ∧ (∀ x ∈ vs, x ∈ ns) ∧ (∀ b o, b ≠ sr → b ≠ D → H5 b = some o → H6 b = some o) ∧ SrcAt H6 sr ∧ H6 D = some (.lst (vs.map V.int))) ⟨[], rfl, fun x hx => by simp at hx, fun b o n1 n2 h => by rw [upd_ne n2]; exact h, src_same g.src (same_new hD), upd_same⟩ (fun j H6 hj e => ?_) (fun H6 e => ?_)
          · obtain ⟨vs, hv, hm', f6, s6, hD6⟩ := e
            refine ⟨rfl, _, rfl, _, rfl, sr, 12, rfl, s6, by decide, by decide, fun w x6 y6 z6 w0 w1 => ?_⟩
            obtain ⟨wn, rfl⟩ : ∃ wn : Nat, w = wn := ⟨w.toNat, by omega⟩
            have hw : wn < ns.length := by omega
            have e1 : (ns.map V.int)[wn]? = some (V.int ns[wn]) := by rw [List.getElem?_map, List.getElem?_eq_getElem hw]; rfl
            refine ⟨l, _, _, _, rfl, rfl, SqL.of (by rw [upd_ne hne.symm]; exact f6 _ _ hne.symm lD g.l1), atI_nat (j := wn) e1, vs.map V.int, (by rw [upd_ne sD.symm]; exact hD6), sl5 (by rw [List.length_map]; omega), vs ++ [ns[wn]], by rw [List.length_append, hv]; rfl, fun x hx => ?_, fun b o n1 n2 h => ?_, ⟨x6, y6, z6, by rw [upd_ne sD]; exact upd_same⟩, by rw [upd_same, List.map_append]; rfl⟩
            · rcases List.mem_append.mp hx with h | h
              · exact hm' x h
              · simp at h
                rw [h]
                exact List.getElem_mem _
            · rw [upd_ne n2, upd_ne n1]
              exact f6 b o n1 n2 h
          · obtain ⟨vs, hv, hm', f6, s6, hD6⟩ := e
            have g6 := g.frame hsome hne (fun b o n h => f6 b o n (ne_of_none h hD) h) s6
            have hp6 := f6 _ _ sp.symm pD hp0
            have DH := sf g.b g.src hD
            refine ⟨(by show 2 ≤ sizeLine; decide), fun t t0 => ?_⟩
            obtain ⟨its, hp, hil, g7⟩ := g6.push (t := t) (vs := [V.str "put", V.ref D]) (r := .put vs) sp lp t0 (sf g6.b g6.src t0) ⟨t, D, rfl, hid_get (newIn_get (sf g6.b g6.src t0) upd_same) (by simpa using (ne_of_none hp6 t0).symm), hid_get (newIn_get DH (by rw [upd_ne (ne_of_none hD6 t0)]; exact hD6)) (by simpa using pD.symm)⟩ (by simpa [puts] using hm')
            refine ⟨p, its, _, rfl, rfl, same_new t0 _ _ hp, sl5 (by omega), _, rows ++ [.put vs], rfl, g7, by rw [nd_app]; rfl, ?_, by rw [List.length_append, List.length_singleton]; omega⟩
            rw [puts_app, List.length_append]
            simp only [puts, List.append_nil]
            have : (pt + r).toNat ≤ 2 := by omega
            omega
        · exact ⟨_, rows, rfl, g, rfl, by omega, by omega⟩
      rintro σ' H6 ⟨v7, rows', rfl, g, m1, m2, m3⟩
      obtain ⟨its, hp, _⟩ := g.ex
      refine ⟨_, rfl, .inl ⟨rfl, _, SqL.of hp⟩, (by show 3 ≤ sizeLine; decide), fun e e0 => ?_⟩
      have g := g.more (same_new (o := .lst [V.str "keep", V.str "take", V.str "keep"]) e0)
      have he : (upd H6 e (.lst [V.str "keep", V.str "take", V.str "keep"])) e = some (.lst [V.str "keep", V.str "take", V.str "keep"]) := upd_same
      generalize upd H6 e (.lst [V.str "keep", V.str "take", V.str "keep"]) = H7 at g he ⊢
      have se : sr ≠ e := fun z => by obtain ⟨_, _, _, q⟩ := g.src; rw [z, he] at q; cases q
      refine ⟨_, rfl, sr, 3, rfl, g.src, by decide, by decide, fun r x5 y5 z5 q0 q1 => ?_⟩
      have g := (g.draw (x := x5) (y := y5) (z := z5) hsome).resolve_right hne
      have he : (upd H7 sr (.lst [.int x5, .int y5, .int z5])) e = some (.lst [V.str "keep", V.str "take", V.str "keep"]) := by rw [upd_ne se.symm]; exact he
      generalize upd H7 sr (.lst [.int x5, .int y5, .int z5]) = H8 at g he ⊢
      obtain ⟨bw, hbw⟩ : ∃ bw : Bool, atI [V.str "keep", V.str "take", V.str "keep"] r = some (.str (wd bw)) := by
        have : r = 0 ∨ r = 1 ∨ r = 2 := by omega
        rcases this with rfl | rfl | rfl
        · exact ⟨true, atI_nat (j := 0) rfl⟩
        · exact ⟨false, atI_nat (j := 1) rfl⟩
        · exact ⟨true, atI_nat (j := 2) rfl⟩
      refine ⟨e, _, _, _, rfl, rfl, SqL.of he, hbw, _, rfl, _, rfl, _, _, rfl, rfl, _, rfl, _, _, rfl, rfl, .inr ⟨_, rfl, (by show 2 ≤ sizeLine; decide), fun t t0 => ?_⟩⟩
      obtain ⟨itsx, hpx, _⟩ := g.ex
      obtain ⟨cn, hcn, hc1⟩ : ∃ cn : Nat, (if decide ((bg : Int) + (0 + (i : Int)) < (many : Int)) = true then (1 : Int) else 0) = (cn : Int) ∧ ((cn = 1 ∧ bg + i < many) ∨ cn = 0) := by
        by_cases q : (bg : Int) + (0 + (i : Int)) < (many : Int)
        · exact ⟨1, by rw [decide_eq_true q]; rfl, .inl ⟨rfl, by omega⟩⟩
        · exact ⟨0, by rw [decide_eq_false q]; rfl, .inr rfl⟩
      simp only [hcn] at t0 ⊢
      obtain ⟨its, hp, hil, g9⟩ := g.push (t := t) (vs := [V.str (wd bw), V.int cn]) (r := .mv bw cn) sp lp t0 (sf g.b g.src t0) ⟨t, rfl, hid_get (newIn_get (sf g.b g.src t0) upd_same) (by simpa using (ne_of_none hpx t0).symm)⟩ (by simp [puts])
      refine ⟨p, its, _, rfl, rfl, same_new t0 _ _ hp, sl5 (by omega), _, _, _, rows' ++ [.mv bw cn], rfl, g9, ?_, ?_, by rw [List.length_append, List.length_singleton]; omega⟩
      · rw [nd_app, m1]
        simp only [nd]
        rcases hc1 with ⟨rfl, q⟩ | rfl <;> omega
      · rw [puts_app]
        simp only [puts, List.append_nil]
        omega
    · rintro σ1 H4 ⟨v5, v6, v7, rows, rfl, g, n1, n2, n3⟩
      obtain ⟨its, h1, h2⟩ := g.ex
      refine ⟨_, rfl, k _ p its rows g.b g.src g.p0 h1 (RowsAt.mono hid_same h2) (by omega) (by omega) g.mem (by omega)⟩
end
end K94
set_option maxHeartbeats 4000000
/-! K94Sync: the whole meeting as plain data, its invariant; hands that take everything at once. No program in sight. -/
namespace K94
/-- the middle's story, done one change after another -/
def SPath (P : Int → Prop) : List Int → List (Nat × Gs) → List Int → Prop
  | row, [], r => row = r
  | row, p :: t, r => GC P p.2 ∧ need p.2 ≤ row.length ∧ SPath P (doneG p.2 row) t r
section
variable {P : Int → Prop}
theorem spath_app : ∀ {row : List Int} {a b : List (Nat × Gs)} {mid r : List Int}, SPath P row a mid → SPath P mid b r → SPath P row (a ++ b) r
  | row, [], b, mid, r, h, h2 => by
    have e : row = mid := h
    subst e
    exact h2
  | row, p :: a, b, mid, r, h, h2 => ⟨h.1, h.2.1, spath_app h.2.2 h2⟩
structure SzOk (e : Nat) (s : Sd) : Prop where
  row : s.row.length ≤ 10 + 10 * e
  own : s.own.length ≤ e
  frm : s.frm.length ≤ e
  to : s.to.length ≤ e
  uns : s.uns.length ≤ e
structure MOk (P : Int → Prop) (text : List Int) (e n : Nat) (m : Mt) : Prop where
  cnt : m.sides.length = n
  sides : ∀ s ∈ m.sides, SOk P m.row.length s
  row : ∀ x ∈ m.row, P x
  txt : ∀ x ∈ text, P x
  st : SPath P text m.story m.row
  rz : m.row.length ≤ 10 + 10 * e
  sz : m.story.length ≤ e
  ss : ∀ s ∈ m.sides, SzOk e s
  hn : ∀ p ∈ m.story, p.1 < n
theorem SzOk.up {e f : Nat} {s : Sd} (h : SzOk e s) (l : e ≤ f) : SzOk f s := ⟨by have := h.row; omega, by have := h.own; omega, by have := h.frm; omega, by have := h.to; omega, by have := h.uns; omega⟩
theorem SOk.new {row : List Int} (h : ∀ x ∈ row, P x) : SOk P row.length (Sd.new row) :=
  ⟨(fun _ h => nomatch h), (fun _ h => nomatch h), (fun _ h => nomatch h), (fun _ h => nomatch h), h, rfl, rfl, rfl, (fun _ h => nomatch h), (fun _ h => nomatch h), rfl, ⟨_, rfl, rfl⟩⟩
theorem MOk.new {text : List Int} (h : ∀ x ∈ text, P x) (hl : text.length ≤ 10) (n : Nat) : MOk P text 0 n (Mt.new text n) := by
  refine ⟨by simp [Mt.new], fun s hs => ?_, h, h, rfl, by show text.length ≤ _; omega, Nat.le_refl _, fun s hs => ?_, (fun p hp => nomatch hp)⟩
  · have := List.eq_of_mem_replicate hs
    subst this
    exact SOk.new h
  · have := List.eq_of_mem_replicate hs
    subst this
    exact ⟨by show text.length ≤ _; omega, Nat.le_refl _, Nat.le_refl _, Nat.le_refl _, Nat.le_refl _⟩
theorem done_short {c : Gs} {row : List Int} {k : Nat} (gc : GC P c) (hn : need c ≤ row.length) (h : row.length ≤ k) : (doneG c row).length ≤ k + 10 := by
  have := len_done hn
  have := gc.few
  omega
theorem mem_set {α : Type} {l : List α} {i : Nat} {x y : α} (h : y ∈ l.set i x) : y = x ∨ y ∈ l := by
  rcases List.mem_or_eq_of_mem_set h with h | h
  · exact .inr h
  · exact .inl h
theorem modify_set {α : Type} {f : α → α} : ∀ {l : List α} {h : Nat} {x : α}, l[h]? = some x → l.modify h f = l.set h (f x)
  | [], h, x, e => by simp at e
  | y :: l, 0, x, e => by
    simp at e
    subst e
    rfl
  | y :: l, h + 1, x, e => by
    have := modify_set (f := f) (l := l) (h := h) (x := x) (by simpa using e)
    simpa using this
theorem MOk.did {text : List Int} {e n : Nat} {m : Mt} (h : MOk P text e n m) {i : Nat} {s : Sd} {c : Gs} (hi : m.sides[i]? = some s) (gc : GC P c) (hn : need c ≤ s.row.length) : MOk P text (e + 1) n (m.did i c) := by
  have sm := List.mem_of_getElem? hi
  have eS : (m.did i c).sides = m.sides.set i (s.did c) := modify_set hi
  refine ⟨by rw [eS, List.length_set]; exact h.cnt, fun t ht => ?_, h.row, h.txt, h.st, by have := h.rz; show m.row.length ≤ _; omega, by have := h.sz; show m.story.length ≤ _; omega, fun t ht => ?_, h.hn⟩
  · rw [eS] at ht
    rcases mem_set ht with rfl | ht
    · exact (h.sides s sm).did gc hn
    · exact h.sides t ht
  · rw [eS] at ht
    rcases mem_set ht with rfl | ht
    · have z := h.ss s sm
      exact ⟨by have := done_short gc hn z.row; show (doneG c s.row).length ≤ _; omega, by have := z.own; show (s.own ++ [c]).length ≤ _; simp; omega, by have := z.frm; show (s.frm ++ [(c, s.came)]).length ≤ _; simp; omega, by have := z.to; show s.to.length ≤ _; omega, by have := z.uns; show s.uns.length ≤ _; omega⟩
    · exact (h.ss t ht).up (Nat.le_succ _)
theorem taken_eq {s : Sd} {c : Gs} {k : Nat} {F : List (Gs × Nat)} (e : s.frm = (c, k) :: F) : s.takenIn = ((crossV (knownTo k s.uns) c).2, { s with frm := F, uns := (crossV (knownTo k s.uns) c).1 }) := by
  unfold Sd.takenIn
  rw [e]
theorem MOk.up {text : List Int} {e n : Nat} {m : Mt} (h : MOk P text e n m) {i : Nat} {s : Sd} (hi : m.sides[i]? = some s) (hf : s.frm ≠ []) : MOk P text (e + 1) n (m.up i) := by
  have sm := List.mem_of_getElem? hi
  have il : i < m.sides.length := (List.getElem?_eq_some_iff.mp hi).1
  obtain ⟨gc, hn, c, k, F, ef⟩ := (h.sides s sm).first hf
  have eU : m.up i = ⟨doneG s.takenIn.1 m.row, (m.sides.set i s.takenIn.2).mapIdx fun j t => t.send (if j = i then none else some s.takenIn.1), m.story ++ [(i, s.takenIn.1)]⟩ := by
    unfold Mt.up
    rw [hi]
  rw [eU]
  have parts : ∀ t ∈ (m.sides.set i s.takenIn.2).mapIdx fun j t => t.send (if j = i then none else some s.takenIn.1), t = s.takenIn.2.send none ∨ ∃ u ∈ m.sides, t = u.send (some s.takenIn.1) := fun t ht => by
    obtain ⟨j, hj, rfl⟩ := List.mem_mapIdx.mp ht
    by_cases q : j = i
    · subst q
      rw [if_pos rfl, List.getElem_set_self]
      exact .inl rfl
    · rw [if_neg q, List.getElem_set_ne (Ne.symm q)]
      exact .inr ⟨_, List.getElem_mem _, rfl⟩
  have z := h.ss s sm
  refine ⟨by rw [List.length_mapIdx, List.length_set]; exact h.cnt, fun t ht => ?_, mem_done P gc.sgn h.row, h.txt, spath_app h.st ⟨gc, hn, rfl⟩, by have := done_short gc hn h.rz; omega, by have := h.sz; simp; omega, fun t ht => ?_, fun p hp => ?_⟩
  · show SOk P (doneG s.takenIn.1 m.row).length t
    rw [nx_len hn]
    rcases parts t ht with rfl | ⟨u, hu, rfl⟩
    · exact (h.sides s sm).taken hf
    · exact (h.sides u hu).told gc hn
  · rcases parts t ht with rfl | ⟨u, hu, rfl⟩
    · have eF : s.frm.length = F.length + 1 := by rw [ef]; rfl
      rw [taken_eq ef]
      refine ⟨by have := z.row; show s.row.length ≤ _; omega, by have := z.own; show s.own.length ≤ _; omega, by have := z.frm; show F.length ≤ _; omega, by have := z.to; show (s.to ++ [none]).length ≤ _; simp; omega, ?_⟩
      have := z.uns
      show (crossV (knownTo k s.uns) c).1.length ≤ _
      rw [crossV_len]
      have : (knownTo k s.uns).length ≤ s.uns.length := List.length_filter_le _ _
      omega
    · have y := h.ss u hu
      exact ⟨by have := y.row; show u.row.length ≤ _; omega, by have := y.own; show u.own.length ≤ _; omega, by have := y.frm; show u.frm.length ≤ _; omega, by have := y.to; show (u.to ++ [_]).length ≤ _; simp; omega, by have := y.uns; show (u.uns ++ [(u.sent, s.takenIn.1)]).length ≤ _; simp; omega⟩
  · rcases List.mem_append.mp hp with hp | hp
    · exact h.hn p hp
    · simp at hp
      rw [hp]
      show i < n
      rw [← h.cnt]
      exact il
theorem crossO_row {s : Sd} {T : List (Option Gs)} {c : Gs} (e : s.to = some c :: T) : s.takeIn = { s with to := T, came := s.came + 1, own := (crossO s.own c).1, row := doneG (crossO s.own c).2 s.row } := by
  unfold Sd.takeIn
  rw [e]
theorem MOk.down {text : List Int} {e n : Nat} {m : Mt} (h : MOk P text e n m) {i : Nat} {s : Sd} (hi : m.sides[i]? = some s) : MOk P text (e + 1) n (m.down i) := by
  have sm := List.mem_of_getElem? hi
  have eS : (m.down i).sides = m.sides.set i s.takeIn := modify_set hi
  refine ⟨by rw [eS, List.length_set]; exact h.cnt, fun t ht => ?_, h.row, h.txt, h.st, by have := h.rz; show m.row.length ≤ _; omega, by have := h.sz; show m.story.length ≤ _; omega, fun t ht => ?_, h.hn⟩
  · rw [eS] at ht
    rcases mem_set ht with rfl | ht
    · exact (h.sides s sm).down
    · exact h.sides t ht
  · rw [eS] at ht
    rcases mem_set ht with rfl | ht
    · have z := h.ss s sm
      have so := h.sides s sm
      cases et : s.to with
      | nil =>
        have e0 : s.takeIn = s := by unfold Sd.takeIn; rw [et]
        rw [e0]
        exact z.up (Nat.le_succ _)
      | cons x T =>
        have zl := z.to
        rw [et, List.length_cons] at zl
        cases x with
        | none =>
          have e0 : s.takeIn = { s with to := T, came := s.came + 1, own := s.own.tail } := by unfold Sd.takeIn; rw [et]
          rw [e0]
          exact ⟨by have := z.row; show s.row.length ≤ _; omega, by have := z.own; show s.own.tail.length ≤ _; rw [List.length_tail]; omega, by have := z.frm; show s.frm.length ≤ _; omega, by show T.length ≤ _; omega, by have := z.uns; show s.uns.length ≤ _; omega⟩
        | some c =>
          obtain ⟨gc, g2, hn⟩ := so.to_some et
          rw [crossO_row et]
          exact ⟨by have := done_short g2 hn z.row; show (doneG (crossO s.own c).2 s.row).length ≤ _; omega, by have := z.own; show (crossO s.own c).1.length ≤ _; rw [crossO_len]; omega, by have := z.frm; show s.frm.length ≤ _; omega, by show T.length ≤ _; omega, by have := z.uns; show s.uns.length ≤ _; omega⟩
    · exact (h.ss t ht).up (Nat.le_succ _)
end
/-! ### at once -/
/-- this side has nothing under way -/
structure Still (row : List Int) (s : Sd) : Prop where
  row : s.row = row
  own : s.own = []
  frm : s.frm = []
  to : s.to = []
  came : s.came = s.sent
  tags : ∀ p ∈ s.uns, p.1 < s.sent
/-- a letter is on its way to this side -/
structure Pend (r0 : List Int) (c : Gs) (mine : Bool) (s : Sd) : Prop where
  row : s.row = if mine then doneG c r0 else r0
  own : s.own = if mine then [c] else []
  frm : s.frm = []
  to : s.to = if mine then [none] else [some c]
  came : s.came + 1 = s.sent
  tags : ∀ p ∈ s.uns, p.1 < s.sent
structure Sync (n : Nat) (m : Mt) : Prop where
  cnt : m.sides.length = n
  all : ∀ s ∈ m.sides, Still m.row s
structure SyncK (n : Nat) (r0 : List Int) (c : Gs) (h k : Nat) (m : Mt) : Prop where
  cnt : m.sides.length = n
  row : m.row = doneG c r0
  all : ∀ j s, m.sides[j]? = some s → (j < k → Still m.row s) ∧ (k ≤ j → Pend r0 c (decide (j = h)) s)
theorem Sync.new (text : List Int) (n : Nat) : Sync n (Mt.new text n) := by
  refine ⟨by simp [Mt.new], fun s hs => ?_⟩
  have := List.eq_of_mem_replicate hs
  subst this
  exact ⟨rfl, rfl, rfl, rfl, rfl, fun _ h => nomatch h⟩
theorem still_taken {row : List Int} {s : Sd} {c : Gs} (h : Still row s) : (s.did c).takenIn = (c, { s.did c with frm := [], uns := [] }) := by
  have ef : (s.did c).frm = [(c, s.came)] := by show s.frm ++ [(c, s.came)] = _; rw [h.frm]; rfl
  have ek : knownTo s.came (s.did c).uns = [] := by
    unfold knownTo
    rw [List.filter_eq_nil_iff]
    intro p hp
    have h1 := h.tags p hp
    have h2 := h.came
    simp
    omega
  rw [taken_eq ef, ek]
  rfl
/-- did, and in at once -/
theorem Sync.up {n : Nat} {m : Mt} {h : Nat} {c : Gs} (S : Sync n m) (hh : h < n) : SyncK n m.row c h 0 ((m.did h c).up h) ∧ ((m.did h c).up h).story = m.story ++ [(h, c)] ∧ ∃ s, (m.did h c).sides[h]? = some s ∧ s.frm ≠ [] := by
  have hl : h < m.sides.length := by rw [S.cnt]; exact hh
  obtain ⟨s, hs⟩ : ∃ s, m.sides[h]? = some s := ⟨_, List.getElem?_eq_getElem hl⟩
  have st := S.all s (List.mem_of_getElem? hs)
  have eS : (m.did h c).sides = m.sides.set h (s.did c) := modify_set hs
  have eg : (m.did h c).sides[h]? = some (s.did c) := by rw [eS, List.getElem?_set_self hl]
  have et := still_taken (c := c) st
  have eU : (m.did h c).up h = ⟨doneG c m.row, ((m.did h c).sides.set h { s.did c with frm := [], uns := [] }).mapIdx fun j t => t.send (if j = h then none else some c), m.story ++ [(h, c)]⟩ := by
    unfold Mt.up
    rw [eg]
    simp only [et]
    rfl
  refine ⟨?_, by rw [eU], s.did c, eg, ?_⟩
  · rw [eU]
    refine ⟨by rw [List.length_mapIdx, List.length_set, eS, List.length_set]; exact S.cnt, rfl, fun j t ht => ⟨fun q => absurd q (Nat.not_lt_zero _), fun _ => ?_⟩⟩
    rw [List.getElem?_mapIdx, eS, List.set_set] at ht
    obtain ⟨u, hu, rfl⟩ := Option.map_eq_some_iff.mp ht
    by_cases q : j = h
    · subst q
      rw [List.getElem?_set_self hl] at hu
      cases hu
      rw [if_pos rfl, decide_eq_true rfl]
      refine ⟨?_, ?_, rfl, ?_, ?_, fun p hp => nomatch hp⟩
      · show doneG c s.row = _
        rw [st.row]
        rfl
      · show s.own ++ [c] = _
        rw [st.own]
        rfl
      · show s.to ++ [none] = _
        rw [st.to]
        rfl
      · show s.came + 1 = s.sent + 1
        rw [st.came]
    · rw [List.getElem?_set_ne (Ne.symm q)] at hu
      have su := S.all u (List.mem_of_getElem? hu)
      rw [if_neg q, decide_eq_false q]
      refine ⟨su.row, su.own, su.frm, ?_, ?_, fun p hp => ?_⟩
      · show u.to ++ [some c] = _
        rw [su.to]
        rfl
      · show u.came + 1 = u.sent + 1
        rw [su.came]
      · have hp : p ∈ u.uns ++ [(u.sent, c)] := hp
        show p.1 < u.sent + 1
        rcases List.mem_append.mp hp with hp | hp
        · have := su.tags p hp
          omega
        · simp at hp
          rw [hp]
          omega
  · show s.frm ++ [(c, s.came)] ≠ []
    simp
theorem Pend.down {r0 : List Int} {c : Gs} {b : Bool} {s : Sd} (p : Pend r0 c b s) : Still (doneG c r0) s.takeIn := by
  have t := p.to
  cases b with
  | true =>
    have e0 : s.takeIn = { s with to := [], came := s.came + 1, own := s.own.tail } := by
      unfold Sd.takeIn
      rw [t]
      rfl
    rw [e0]
    refine ⟨p.row, ?_, p.frm, rfl, p.came, p.tags⟩
    show s.own.tail = []
    rw [p.own]
    rfl
  | false =>
    have t' : s.to = [some c] := t
    rw [crossO_row t']
    have o : s.own = [] := p.own
    refine ⟨?_, ?_, p.frm, rfl, p.came, p.tags⟩
    · show doneG (crossO s.own c).2 s.row = _
      rw [o, p.row]
      rfl
    · show (crossO s.own c).1 = []
      rw [o]
      rfl
theorem SyncK.down {n : Nat} {r0 : List Int} {c : Gs} {h k : Nat} {m : Mt} (S : SyncK n r0 c h k m) (hk : k < n) : SyncK n r0 c h (k + 1) (m.down k) ∧ (m.down k).story = m.story ∧ ∃ s, m.sides[k]? = some s ∧ s.to ≠ [] := by
  have hl : k < m.sides.length := by rw [S.cnt]; exact hk
  obtain ⟨s, hs⟩ : ∃ s, m.sides[k]? = some s := ⟨_, List.getElem?_eq_getElem hl⟩
  have eS : (m.down k).sides = m.sides.set k s.takeIn := modify_set hs
  have p := (S.all k s hs).2 (Nat.le_refl _)
  refine ⟨⟨by rw [eS, List.length_set]; exact S.cnt, S.row, fun j t ht => ?_⟩, rfl, s, hs, ?_⟩
  · rw [eS] at ht
    by_cases q : j = k
    · subst q
      rw [List.getElem?_set_self hl] at ht
      cases ht
      refine ⟨fun _ => ?_, fun z => by omega⟩
      show Still m.row _
      rw [S.row]
      exact p.down
    · rw [List.getElem?_set_ne (Ne.symm q)] at ht
      have a := S.all j t ht
      exact ⟨fun z => a.1 (by omega), fun z => a.2 (by omega)⟩
  · rw [p.to]
    split <;> simp
theorem SyncK.sync {n : Nat} {r0 : List Int} {c : Gs} {h : Nat} {m : Mt} (S : SyncK n r0 c h n m) : Sync n m :=
  ⟨S.cnt, fun s hs => by
    obtain ⟨j, hj⟩ := List.getElem?_of_mem hs
    exact (S.all j s hj).1 (by rw [← S.cnt]; exact (List.getElem?_eq_some_iff.mp hj).1)⟩
end K94
set_option maxRecDepth 100000
set_option maxHeartbeats 4000000
/-! K94U: one turn of a meeting. -/
namespace K94
open PySem PySem.Spec PyProof.Rows L2
def frmN (m : Mt) (h : Nat) : Nat := match m.sides[h]? with
  | some s => s.frm.length
  | none => 0
def toN (m : Mt) (h : Nat) : Nat := match m.sides[h]? with
  | some s => s.to.length
  | none => 0
def upM (m : Mt) (p : Nat × Bool) : Mt := if p.2 = true ∧ 0 < frmN m p.1 then m.up p.1 else m
def downM (m : Mt) (p : Nat × Bool) : Mt := if p.2 = false ∧ 0 < toN m p.1 then m.down p.1 else m
/-- a letter, if there is one -/
def letM (m : Mt) (p : Nat × Bool) : Mt := downM (upM m p) p
def doM (m : Mt) (h : Nat) : Option Gs → Mt
  | some c => m.did h c
  | none => m
def stepM (m : Mt) (oc : Option Gs) (h : Nat) (letters : List (Nat × Bool)) : Mt := letters.foldl letM (doM m h oc)
theorem MOk.more {P : Int → Prop} {text : List Int} {e f n : Nat} {m : Mt} (h : MOk P text e n m) (l : e ≤ f) : MOk P text f n m :=
  ⟨h.cnt, h.sides, h.row, h.txt, h.st, by have := h.rz; omega, by have := h.sz; omega, fun s hs => (h.ss s hs).up l, h.hn⟩
theorem MOk.get {P : Int → Prop} {text : List Int} {e n : Nat} {m : Mt} (h : MOk P text e n m) {i : Nat} (hi : i < n) : ∃ s, m.sides[i]? = some s := ⟨_, List.getElem?_eq_getElem (by rw [h.cnt]; exact hi)⟩
theorem MOk.let' {P : Int → Prop} {text : List Int} {e n : Nat} {m : Mt} (h : MOk P text e n m) {p : Nat × Bool} (hp : p.1 < n) : MOk P text (e + 1) n (letM m p) ∧ MOk P text (e + 1) n (upM m p) := by
  obtain ⟨s, hs⟩ := h.get hp
  obtain ⟨k, b⟩ := p
  cases b with
  | true =>
    have u : MOk P text (e + 1) n (upM m (k, true)) := by
      unfold upM
      split
      · rename_i c
        refine h.up hs fun z => ?_
        have := c.2
        unfold frmN at this
        rw [hs] at this
        simp [z] at this
      · exact h.more (Nat.le_succ _)
    refine ⟨?_, u⟩
    unfold letM downM
    rw [if_neg (by simp)]
    exact u
  | false =>
    have e0 : upM m (k, false) = m := by unfold upM; rw [if_neg (by simp)]
    unfold letM
    rw [e0]
    refine ⟨?_, h.more (Nat.le_succ _)⟩
    unfold downM
    split
    · exact h.down hs
    · exact h.more (Nat.le_succ _)
section
variable {P : Program} {w : World} {K : PySem.W.Frag} {mg : Str → Option Value} {base : Heap}
theorem gc_of {S : Int → Prop} {rows : List Rw} (h1 : nd rows ≤ 1000) (h2 : (puts rows).length ≤ 10) (h3 : ∀ x ∈ puts rows, S x) : GC S (inG rows) ∧ need (inG rows) ≤ nd rows :=
  ⟨⟨inG_canon _, by unfold pt; rw [inG_puts]; exact h2, by have := tk_need (inG rows); have := inG_need rows; omega, by rw [inG_puts]; exact h3⟩, inG_need rows⟩
theorem mk_changeR {H1 : Hp} {R : Hp → Prop} {a : Addr} {items : List V} {rows : List Rw} (ha : H1 a = some (.lst items)) (hR : RowsAt H1 items rows) (hz : rows.length + (puts rows).length ≤ 50000) (x dx : Addr) (x0 : H1 x = none) (d0 : H1 dx = none) (ne : dx ≠ x)
    (k : ∀ H', Same H1 H' → H1 x = none → ChAt K (newIn H1 H') x (inG rows) → R H') :
    spChangeInit K [.ref x, .ref a] (upd (upd H1 dx (.own x)) x (.ins (C_Change K) dx [])) (fun v H2 => v = .non ∧ R H2) E0 :=
  ⟨x, dx, a, items, rows, H1, rfl, x0, d0, ne, rfl, ha, hR, hz, fun H' s h => ⟨rfl, k H' s x0 h⟩⟩
def LetV (I : Hp) (v : V) (p : Nat × Bool) : Prop := ∃ t, v = .ref t ∧ I t = some (.tup [.int p.1, .bl p.2])
/-- deeds as they are given: none, or rows that the hand's row can bear -/
def DdsV (I : Hp) (S : Int → Prop) (n : Nat) (v : V) : Option (List Rw) → Prop
  | none => v = .non
  | some rows => ∃ dl its, v = .ref dl ∧ I dl = some (.lst its) ∧ RowsAt I its rows ∧ nd rows ≤ n ∧ n ≤ 1000 ∧ (puts rows).length ≤ 10 ∧ (∀ x ∈ puts rows, S x) ∧ rows.length ≤ 100
abbrev N_law_step : List Str := ["_law_met", "_law_deeds_here", "_law_hand", "_law_letters", "_law_number", "_law_goes_up"]
theorem sc_law_step : FnScope N_law_step ["_law_met", "_law_deeds_here", "_law_hand", "_law_letters"] (defScope s_law_step) := ⟨rfl, rfl, rfl, by decide +kernel, rfl, by decide +kernel, by decide +kernel⟩
def spStep (K : PySem.W.Frag) : Sp := fun vs H Q _ => ∃ (m tb ll : Addr) (v : V) (F : List Addr) (M : Mt) (I : Hp) (S : Int → Prop) (text : List Int) (e n h : Nat) (σ : Sd) (lits : List V) (ls : List (Nat × Bool)) (od : Option (List Rw)), vs = [.ref m, v, .int h, .ref ll] ∧ MtIn K I H m tb F M ∧ TbAt K I tb S ∧ MOk S text e n M ∧ e ≤ 90 ∧ n ≤ 4 ∧ h < n ∧
  M.sides[h]? = some σ ∧ DdsV I S σ.row.length v od ∧ I ll = some (.lst lits) ∧ Paired (LetV I) lits ls ∧ (∀ p ∈ ls, p.1 < n) ∧ ls.length ≤ 4 ∧
  ∀ H' F', Stp H F H' F' → MtAt K (nextI I H H' F') H' m tb F' (stepM M (od.map inG) h ls) → MOk S text (e + 5) n (stepM M (od.map inG) h ls) → Q .non H'
theorem ok_step (T : Txt K mg) : FnR P w K mg base CX0 9 (He.ga K "_law_step") (spStep K) := by
  have G_Change := ok_Change_init (P := P) (w := w) (base := base) T
  have G_Meeting_do := ok_Meeting_do (P := P) (w := w) (base := base) T
  have G_Meeting_up := ok_Meeting_up (P := P) (w := w) (base := base) T
  have G_Meeting_down := ok_Meeting_down (P := P) (w := w) (base := base) T
  have G_Meeting_waiting := ok_Meeting_waiting (P := P) (w := w) (base := base) T
  refine fnr_of T.d_law_step sc_law_step (fun vs H Q E h => ?_) (fun _ _ _ _ _ _ us hl => match us, hl with | [_, _, _, _], _ => rfl) (fun cdv A outer s H vs Q E hr h => ?_)
  · obtain ⟨m, tb, ll, v, F, M, I, S, text, e, n, h, σ, lits, ls, od, rfl, _⟩ := h
    rfl
  · obtain ⟨m, tb, ll, v, F, M, I, S, text, e, n, h, σ, lits, ls, od, rfl, ⟨sI, hF, hM⟩, hT, ok, z1, z2, hh, hσ, hd, hll, hls, hlt, hl4, k⟩ := h
    have S0 : Stp H F H F := .refl hM.there
    have i0 : Same I (nextI I H H F) := S0.mono sI hF
    have sk := ok.ss σ (List.mem_of_getElem? hσ)
    refine ⟨_, (C8.pss_cut (ps_if (pt_cmpR op_notN (pv 1) pe_non (nomark _)) (pss_one (ps_expr (pe_methR (pv 0) T.k_Meeting T.m_Meeting_do G_Meeting_do (hr.mono (by decide)) pass0 (pa_cons (pv 2) (pa_cons (StX.pe_makeR T.mk_Change G_Change (hr.mono (by decide)) (by rfl) T.c_Change pass0 (pa_cons (pv 1) pa_nil)) pa_nil))))) pss_nil)
      (pss_one (ps_for PassesOwn.never rfl (pi_list (pv 3)) (pg_tup rfl (pgs_cons (pg_name (i := 4) sc_law_step.nd rfl (Or.inl rfl)) (pgs_cons (pg_name (i := 5) sc_law_step.nd rfl (Or.inl rfl)) pgs_nil))) (C8.pss_cut (ps_if (PW.pt (pw_and (pt_val (pv 5)) (pw_and1 (pt_cmpR op_gt (pe_ix ix_tup (pe_methR (pv 0) T.k_Meeting T.m_Meeting_waiting G_Meeting_waiting (hr.mono (by decide)) pass0 (pa_cons (pv 4) pa_nil)) pe_int (fun _ _ => rfl)) pe_int (nomark _))))) (pss_one (ps_expr (pe_methR (pv 0) T.k_Meeting T.m_Meeting_up G_Meeting_up (hr.mono (by decide)) pass0 (pa_cons (pv 4) pa_nil)))) pss_nil)
      (pss_one (ps_if (PW.pt (pw_and (pt_not (pt_val (pv 5))) (pw_and1 (pt_cmpR op_gt (pe_ix ix_tup (pe_methR (pv 0) T.k_Meeting T.m_Meeting_waiting G_Meeting_waiting (hr.mono (by decide)) pass0 (pa_cons (pv 4) pa_nil)) pe_int (fun _ _ => rfl)) pe_int (nomark _))))) (pss_one (ps_expr (pe_methR (pv 0) T.k_Meeting T.m_Meeting_down G_Meeting_down (hr.mono (by decide)) pass0 (pa_cons (pv 4) pa_nil)))) pss_nil)))))), ?_⟩
    -- if deeds is not None: met.do(hand, Change(deeds))
    refine ⟨fun σ' H' => ∃ F', σ' = [some (.ref m), some v, some (.int h), some (.ref ll), none, none] ∧ Stp H F H' F' ∧ MtAt K (nextI I H H' F') H' m tb F' (doM M h (od.map inG)) ∧ MOk S text (e + 1) n (doM M h (od.map inG)), ?_, ?_⟩
    · refine ⟨_, rfl, rfl, _, rfl, ?_⟩
      cases od with
      | none =>
        obtain rfl : v = .non := hd
        exact iteF ⟨F, rfl, S0, hM.mono i0 fun _ _ _ e => e, ok.more (Nat.le_succ _)⟩
      | some rows =>
        obtain ⟨dl, its, rfl, hdl, hrows, w1, w2, w3, w4, w5⟩ := hd
        obtain ⟨gc, gn⟩ := gc_of (S := S) (by omega) w3 w4
        obtain ⟨dx, r, sl, dn, hm, _⟩ := hM.ob
        refine iteT ⟨_, rfl, m, dx, _, rfl, hm, rfl, _, rfl, _, rfl, fun x cdx x0 d0 ne => ?_⟩
        refine mk_changeR (sI _ _ hdl) (RowsAt.mono sI hrows) (by omega) x cdx x0 d0 ne fun H1 s1 x0 hx => ?_
        obtain ⟨S1, i1, n1⟩ := S0.pure (I := I) s1
        have sI1 := S1.same sI hF
        refine ⟨m, tb, x, F, M, nextI I H H1 F, S, h, σ, inG rows, rfl, ⟨sI1, S1.gone, hM.mono (i0.trans i1) fun b _ o e => s1 _ _ e⟩, hT.mono (i0.trans i1), hσ, hx.mono n1, by omega, by have := gc.len; omega, by have := sk.row; omega, by have := gc.few; omega, by have := sk.own; omega, by have := sk.frm; omega, mem_done S gc.sgn (ok.sides σ (List.mem_of_getElem? hσ)).row, fun H2 F2 S2 gM => ?_⟩
        exact ⟨F2, rfl, S1.trans S2, gM.mono (S1.next S2) fun _ _ _ e => e, ok.did hσ gc (by omega)⟩
    have eM : ∀ i, (ls.take i).foldl letM (doM M h (od.map inG)) = stepM M (od.map inG) h (ls.take i) := fun _ => rfl
    rintro σ' H1 ⟨F1, rfl, S1, g1, ok1⟩
    have hlen := paired_len hls
    have sIx : ∀ {H' : Hp} {F' : List Addr}, Stp H F H' F' → Same (nextI I H H' F') H' := fun S => S.same sI hF
    have iIx : ∀ {H' : Hp} {F' : List Addr}, Stp H F H' F' → Same I (nextI I H H' F') := fun S => S.mono sI hF
    refine ⟨_, rfl, ll, rfl, ⟨_, SqL.of (sIx S1 _ _ (iIx S1 _ _ hll))⟩, for_list (K := K) (a := ll) (xs := lits) (fun i σ1 H2 => ∃ v4 v5 F2, σ1 = [some (.ref m), some v, some (.int h), some (.ref ll), v4, v5] ∧ Stp H F H2 F2 ∧ MtAt K (nextI I H H2 F2) H2 m tb F2 (stepM M (od.map inG) h (ls.take i)) ∧ MOk S text (e + 1 + i) n (stepM M (od.map inG) h (ls.take i)))
      ⟨none, none, F1, rfl, S1, g1, ok1⟩ (fun i σ1 H2 _ ⟨_, _, F2, _, S2, _⟩ => SqL.of (sIx S2 _ _ (iIx S2 _ _ hll))) ?_ ?_⟩
    · rintro i y σ1 H2 hi ⟨v4, v5, F2, rfl, S2, g2, ok2⟩
      obtain ⟨⟨num, gup⟩, hp, t, rfl, ht⟩ := paired_get hls hi
      have hil : i < ls.length := (List.getElem?_eq_some_iff.mp hp).1
      have hnum : num < n := hlt _ (List.mem_of_getElem? hp)
      have et : stepM M (od.map inG) h (ls.take (i + 1)) = letM (stepM M (od.map inG) h (ls.take i)) (num, gup) := by
        unfold stepM
        rw [take_succ_get hp, List.foldl_append]
        rfl
      rw [et]
      generalize stepM M (od.map inG) h (ls.take i) = M2 at g2 ok2 et ⊢
      obtain ⟨okL, okU⟩ := ok2.let' (p := (num, gup)) hnum
      refine ⟨t, _, rfl, SqT.of (sIx S2 _ _ (iIx S2 _ _ ht)), rfl, _, _, rfl, _, _, rfl, rfl, ?_⟩
      -- if goes_up and waiting[0] > 0: up
      refine ⟨fun σ' H' => ∃ F', σ' = [some (.ref m), some v, some (.int h), some (.ref ll), some (.int num), some (.bl gup)] ∧ Stp H F H' F' ∧ MtAt K (nextI I H H' F') H' m tb F' (upM M2 (num, gup)), ?_, ?_⟩
      · refine ⟨_, rfl, _, rfl, ?_⟩
        cases gup with
        | false =>
          refine iteF (iteF ⟨F2, rfl, S2, ?_⟩)
          unfold upM
          rw [if_neg (by simp)]
          exact g2
        | true =>
          refine iteT ?_
          obtain ⟨s2, hs2⟩ := ok2.get hnum
          obtain ⟨dx, r, sl, dn, hm, _⟩ := g2.ob
          refine ⟨_, rfl, m, dx, _, rfl, hm, rfl, _, rfl, m, tb, F2, M2, nextI I H H2 F2, num, s2, rfl, ⟨sIx S2, S2.gone, g2⟩, hs2, fun t3 t30 => ?_⟩
          obtain ⟨S3, i3, _⟩ := S2.pure (I := I) (same_new (o := .tup [.int (s2.frm.length : Nat), .int (s2.to.length : Nat)]) t30)
          have g3 := g2.mono (H' := upd H2 t3 (.tup [.int (s2.frm.length : Nat), .int (s2.to.length : Nat)])) i3 fun b _ o e => same_new t30 _ _ e
          refine ⟨t3, _, _, _, rfl, rfl, SqT.of upd_same, atI_nat (j := 0) rfl, _, _, rfl, rfl, _, rfl, ?_⟩
          generalize upd H2 t3 (.tup [.int (s2.frm.length : Nat), .int (s2.to.length : Nat)]) = H3 at S3 i3 g3 ⊢
          have eF : frmN M2 num = s2.frm.length := by unfold frmN; rw [hs2]
          refine iteD (fun hc => ?_) (fun hc => ?_)
          · have hf : s2.frm ≠ [] := fun z => by rw [z] at hc; simp at hc
            have so := ok2.sides s2 (List.mem_of_getElem? hs2)
            obtain ⟨gc, gn, c, kk, F0, ef⟩ := so.first hf
            have eU : upM M2 (num, true) = M2.up num := by
              unfold upM
              rw [if_pos ⟨rfl, by show 0 < frmN M2 num; rw [eF]; exact List.length_pos_iff.mpr hf⟩]
            rw [eU]
            obtain ⟨dx3, r3, sl3, dn3, hm3, _⟩ := g3.ob
            refine ⟨_, rfl, m, dx3, _, rfl, hm3, rfl, _, rfl, m, tb, F2, M2, nextI I H H3 F2, S, num, s2, c, kk, F0, rfl, ⟨sIx S3, S3.gone, g3⟩, hs2, ef, so.frm (c, kk) (by rw [ef]; simp), so.uns, gc, gn, by have := ok2.rz; omega, by have := ok2.sz; omega, fun u hu => ?_, by rw [ok2.cnt]; exact z2, fun H4 F4 S4 g4 => ?_⟩
            · have := ok2.ss u hu
              have a1 := this.uns
              have a2 := this.to
              omega
            · exact ⟨F4, rfl, S3.trans S4, g4.mono (S3.next S4) fun _ _ _ e => e⟩
          · refine ⟨F2, rfl, S3, ?_⟩
            unfold upM
            rw [if_neg (fun z => hc (by have := z.2; show (0 : Int) < _; have e2 : 0 < s2.frm.length := by rw [← eF]; exact this
                                        omega))]
            exact g3
      rintro σ' H3 ⟨F3, rfl, S3, g3⟩
      generalize hMU : upM M2 (num, gup) = MU at g3 okU
      have eL : letM M2 (num, gup) = downM MU (num, gup) := by rw [← hMU]; rfl
      rw [eL] at okL ⊢
      -- if not goes_up and waiting[1] > 0: down
      refine ⟨_, rfl, _, rfl, ?_⟩
      cases gup with
      | true =>
        refine iteF (iteF ⟨_, _, F3, rfl, S3, ?_, okL⟩)
        unfold downM
        rw [if_neg (by simp)]
        exact g3
      | false =>
        refine iteT ?_
        obtain ⟨s2, hs2⟩ := okU.get hnum
        obtain ⟨dx, r, sl, dn, hm, _⟩ := g3.ob
        refine ⟨_, rfl, m, dx, _, rfl, hm, rfl, _, rfl, m, tb, F3, MU, nextI I H H3 F3, num, s2, rfl, ⟨sIx S3, S3.gone, g3⟩, hs2, fun t3 t30 => ?_⟩
        obtain ⟨S4, i4, _⟩ := S3.pure (I := I) (same_new (o := .tup [.int (s2.frm.length : Nat), .int (s2.to.length : Nat)]) t30)
        have g4 := g3.mono (H' := upd H3 t3 (.tup [.int (s2.frm.length : Nat), .int (s2.to.length : Nat)])) i4 fun b _ o e => same_new t30 _ _ e
        refine ⟨t3, _, _, _, rfl, rfl, SqT.of upd_same, atI_nat (j := 1) rfl, _, _, rfl, rfl, _, rfl, ?_⟩
        generalize upd H3 t3 (.tup [.int (s2.frm.length : Nat), .int (s2.to.length : Nat)]) = H4 at S4 i4 g4 ⊢
        have eT : toN MU num = s2.to.length := by unfold toN; rw [hs2]
        refine iteD (fun hc => ?_) (fun hc => ?_)
        · have hf : s2.to ≠ [] := fun z => by rw [z] at hc; simp at hc
          have so := okU.sides s2 (List.mem_of_getElem? hs2)
          have ss := okU.ss s2 (List.mem_of_getElem? hs2)
          have eD : downM MU (num, false) = MU.down num := by
            unfold downM
            rw [if_pos ⟨rfl, by show 0 < toN MU num; rw [eT]; exact List.length_pos_iff.mpr hf⟩]
          rw [eD] at okL ⊢
          obtain ⟨dx3, r3, sl3, dn3, hm3, _⟩ := g4.ob
          refine ⟨_, rfl, m, dx3, _, rfl, hm3, rfl, _, rfl, m, tb, F3, MU, nextI I H H4 F3, S, num, s2, rfl, ⟨sIx S4, S4.gone, g4⟩, hs2, hf, fun T e => so.own_none e, fun c T e => so.to_some e, so.own, by have := ss.own; omega, by have := ss.row; omega, fun H5 F5 S5 g5 => ?_⟩
          exact ⟨_, _, F5, rfl, S4.trans S5, g5.mono (S4.next S5) fun _ _ _ e => e, okL⟩
        · refine ⟨_, _, F3, rfl, S4, ?_, okL⟩
          unfold downM
          rw [if_neg (fun z => hc (by have := z.2; show (0 : Int) < _; have e2 : 0 < s2.to.length := by rw [← eT]; exact this
                                      omega))]
          exact g4
    · rintro σ1 H2 ⟨v4, v5, F2, rfl, S2, g2, ok2⟩
      rw [hlen, List.take_of_length_le (Nat.le_refl _)] at g2 ok2
      exact k _ F2 S2 g2 (ok2.more (by omega))
end
end K94
set_option maxRecDepth 100000
set_option maxHeartbeats 4000000
/-! K94V: a meeting's state as data. -/
namespace K94
open PySem PySem.Spec PyProof.Rows L2
def intsD (xs : List Int) : PyData := .list (xs.map PyData.int)
def sdD (s : Sd) : PyData := .tuple [intsD s.row, .tuple [.int (s.frm.length : Nat), .int (s.to.length : Nat)]]
def rwD : Rw → PyData
  | .mv k n => .tuple [.str (wd k), .int n]
  | .put xs => .tuple [.str "put", intsD xs]
def stoD (p : Nat × Gs) : PyData := .tuple [.int p.1, .list ((rowsOf p.2).map rwD)]
def stD (m : Mt) : PyData := .tuple [intsD m.row, .list (m.sides.map sdD), .list (m.story.map stoD)]
section
variable {K : PySem.W.Frag} {H H' : Hp}
mutual
theorem dp_mono (s : Same H H') : ∀ {v : V} {d : PyData}, Dp K H v d → Dp K H' v d
  | _, _, .non => .non
  | _, _, .bl b => .bl b
  | _, _, .int i => .int i
  | _, _, .str x => .str x
  | _, _, .lst h t => .lst (h.ext s) (dpAll_mono s t)
  | _, _, .tup h t => .tup (h.ext s) (dpAll_mono s t)
theorem dpAll_mono (s : Same H H') : ∀ {vs : List V} {ds : List PyData}, DpAll K H vs ds → DpAll K H' vs ds
  | _, _, .nil => .nil
  | _, _, .cons h t => .cons (dp_mono s h) (dpAll_mono s t)
end
theorem dpAll_app : ∀ {a : List V} {b : List PyData} {c : List V} {d : List PyData}, DpAll K H a b → DpAll K H c d → DpAll K H (a ++ c) (b ++ d)
  | _, _, _, _, .nil, h => h
  | _, _, _, _, .cons r t, h => .cons r (dpAll_app t h)
theorem dpAll_one {v : V} {d : PyData} (h : Dp K H v d) : DpAll K H [v] [d] := .cons h .nil
theorem dp_intsD {a : Addr} {xs : List Int} (h : H a = some (.lst (xs.map V.int))) : Dp K H (.ref a) (intsD xs) := .lst (SqL.of h) (dp_ints _ _ _)
theorem dp_row : ∀ {v : V} {r : Rw}, RowAt H v r → Dp K H v (rwD r)
  | _, .mv k n, ⟨t, e, h⟩ => by
    rw [e]
    exact .tup (SqT.of h) (.cons (.str _) (.cons (.int _) .nil))
  | _, .put xs, ⟨t, q, e, h, h'⟩ => by
    rw [e]
    exact .tup (SqT.of h) (.cons (.str _) (.cons (dp_intsD h') .nil))
theorem dp_rows : ∀ {vs : List V} {rs : List Rw}, RowsAt H vs rs → DpAll K H vs (rs.map rwD)
  | _, _, .nil => .nil
  | _, _, .cons h t => .cons (dp_row h) (dp_rows t)
theorem dpAll_len : ∀ {vs : List V} {ds : List PyData}, DpAll K H vs ds → vs.length = ds.length
  | _, _, .nil => rfl
  | _, _, .cons _ t => by rw [List.length_cons, List.length_cons, dpAll_len t]
end
/-! ### data as such -/
theorem can_map {α : Type} (f : α → PyData) (h : ∀ x, PyData.canLay0 (f x) = true) : ∀ xs : List α, PyData.canLayAll0 (xs.map f) = true
  | [] => rfl
  | x :: r => by simp [PyData.canLayAll0, h x, can_map f h r]
theorem dep_map {α : Type} (f : α → PyData) {k : Nat} (h : ∀ x, PyData.depth (f x) ≤ k) : ∀ xs : List α, PyData.depthAll (xs.map f) ≤ k
  | [] => by simp [PyData.depthAll]
  | x :: r => by
    have h1 := h x
    have h2 := dep_map f h r
    simp only [List.map_cons, PyData.depthAll]
    omega
theorem eqv_map {α : Type} (f : α → PyData) (h : ∀ x, PyData.eqv (f x) (f x) = true) : ∀ xs : List α, PyData.eqvAll (xs.map f) (xs.map f) = true
  | [] => rfl
  | x :: r => by simp [PyData.eqvAll, h x, eqv_map f h r]
theorem ints_d (xs : List Int) : PyData.canLay0 (intsD xs) = true ∧ PyData.depth (intsD xs) ≤ 1 ∧ PyData.eqv (intsD xs) (intsD xs) = true := by
  refine ⟨by simp [intsD, PyData.canLay0, can_ints], by simp [intsD, PyData.depth, dep_ints], by simp [intsD, PyData.eqv, eqv_ints]⟩
theorem rw_d (r : Rw) : PyData.canLay0 (rwD r) = true ∧ PyData.depth (rwD r) ≤ 2 ∧ PyData.eqv (rwD r) (rwD r) = true := by
  cases r with
  | mv k n => refine ⟨by cases k <;> simp [rwD, PyData.canLay0, PyData.canLayAll0] <;> decide +kernel, by simp [rwD, PyData.depth, PyData.depthAll], by simp [rwD, PyData.eqv, PyData.eqvAll]⟩
  | put xs =>
    obtain ⟨a, b, c⟩ := ints_d xs
    refine ⟨by simp [rwD, PyData.canLay0, PyData.canLayAll0, a]; decide +kernel, ?_, by simp [rwD, PyData.eqv, PyData.eqvAll, c]⟩
    simp [rwD, PyData.depth, PyData.depthAll]
    omega
theorem sd_d (s : Sd) : PyData.canLay0 (sdD s) = true ∧ PyData.depth (sdD s) ≤ 2 ∧ PyData.eqv (sdD s) (sdD s) = true := by
  obtain ⟨a, b, c⟩ := ints_d s.row
  refine ⟨by simp [sdD, PyData.canLay0, PyData.canLayAll0, a], ?_, by simp [sdD, PyData.eqv, PyData.eqvAll, c]⟩
  simp [sdD, PyData.depth, PyData.depthAll]
  omega
theorem sto_d (p : Nat × Gs) : PyData.canLay0 (stoD p) = true ∧ PyData.depth (stoD p) ≤ 4 ∧ PyData.eqv (stoD p) (stoD p) = true := by
  have a := can_map rwD (fun x => (rw_d x).1) (rowsOf p.2)
  have b := dep_map rwD (fun x => (rw_d x).2.1) (rowsOf p.2)
  have c := eqv_map rwD (fun x => (rw_d x).2.2) (rowsOf p.2)
  refine ⟨by simp [stoD, PyData.canLay0, PyData.canLayAll0, a], ?_, by simp [stoD, PyData.eqv, PyData.eqvAll, c]⟩
  simp [stoD, PyData.depth, PyData.depthAll]
  omega
theorem st_d (m : Mt) : SeqAt.shaped (stD m) = true ∧ PyData.eqv (stD m) (stD m) = true := by
  obtain ⟨a, b, c⟩ := ints_d m.row
  have a1 := can_map sdD (fun x => (sd_d x).1) m.sides
  have b1 := dep_map sdD (fun x => (sd_d x).2.1) m.sides
  have c1 := eqv_map sdD (fun x => (sd_d x).2.2) m.sides
  have a2 := can_map stoD (fun x => (sto_d x).1) m.story
  have b2 := dep_map stoD (fun x => (sto_d x).2.1) m.story
  have c2 := eqv_map stoD (fun x => (sto_d x).2.2) m.story
  refine ⟨?_, by simp [stD, PyData.eqv, PyData.eqvAll, c, c1, c2]⟩
  simp only [SeqAt.shaped, stD, PyData.canLay0, PyData.canLayAll0, PyData.depth, PyData.depthAll, a, a1, a2, Bool.and_eq_true, decide_eq_true_eq, and_true, true_and]
  omega
section
variable {P : Program} {w : World} {K : PySem.W.Frag} {mg : Str → Option Value} {base : Heap}
abbrev N_law_state : List Str := ["_law_met", "_law_many", "_law_some", "_law_k", "_law_number", "_law_made"]
theorem sc_law_state : FnScope N_law_state ["_law_met", "_law_many"] (defScope s_law_state) := ⟨rfl, rfl, rfl, by decide +kernel, rfl, by decide +kernel, by decide +kernel⟩
def spState (K : PySem.W.Frag) : Sp := fun vs H Q _ => ∃ (m tb : Addr) (F : List Addr) (M : Mt) (I : Hp) (n : Nat), vs = [.ref m, .int n] ∧ MtIn K I H m tb F M ∧ M.sides.length = n ∧ n ≤ 4 ∧ M.story.length ≤ 1000 ∧ (∀ p ∈ M.story, p.2.length ≤ 2000) ∧ ∀ H' t, Same H H' → Dp K H' (.ref t) (stD M) → Q (.ref t) H'
theorem ok_state (T : Txt K mg) : FnR P w K mg base CX0 5 (He.ga K "_law_state") (spState K) := by
  have G_Meeting_text := ok_Meeting_text (P := P) (w := w) (base := base) T
  have G_Meeting_waiting := ok_Meeting_waiting (P := P) (w := w) (base := base) T
  have G_Meeting_middle := ok_Meeting_middle (P := P) (w := w) (base := base) T
  have G_Meeting_story := ok_Meeting_story (P := P) (w := w) (base := base) T
  have G_Change_rows := ok_Change_rows (P := P) (w := w) (base := base) T
  refine fnr_of T.d_law_state sc_law_state (fun vs H Q E h => ?_) (fun _ _ _ _ _ _ us hl => match us, hl with | [_, _], _ => rfl) (fun cdv A outer s H vs Q E hr h => ?_)
  · obtain ⟨m, tb, F, M, I, n, rfl, _⟩ := h
    rfl
  · obtain ⟨m, tb, F, M, I, n, rfl, ⟨sI, hF, hM⟩, hn, n4, z1, z2, k⟩ := h
    refine ⟨_, (pss_cons (ps_setLc (i := 2) (own := [("_law_k", 3)]) rfl sc_law_state.nd rfl rfl (sw_true rfl rfl rfl (by decide +kernel)) (pi_range1 (by rfl) T.g_range (pa_cons (pv 1) pa_nil)) (blkOk_by (own := [("_law_k", 3)]) (N := N_law_state) (sc := defScope s_law_state) (by decide +kernel)) (fun _ _ _ _ _ => (pg_name (i := 3) sc_law_state.nd rfl (Or.inl rfl) (Or.inr rfl))) (fun _ _ _ _ _ => pts_nil) (fun _ _ _ _ _ => (pe_tup (pa_cons (pe_methR (pv 0) T.k_Meeting T.m_Meeting_text G_Meeting_text (hr.mono (by decide)) pass0 (pa_cons (pv 3) pa_nil)) (pa_cons (pe_methR (pv 0) T.k_Meeting T.m_Meeting_waiting G_Meeting_waiting (hr.mono (by decide)) pass0 (pa_cons (pv 3) pa_nil)) pa_nil)))))
      (pss_one (ps_ret (pe_tup (pa_cons (pe_methR0 (pv 0) T.k_Meeting T.m_Meeting_middle G_Meeting_middle (hr.mono (by decide))) (pa_cons (pv 2) (pa_cons (pe_lc (own := [("_law_number", 4), ("_law_made", 5)]) (g := gTup K 2 (gCons (gName 4) (gCons (gName 5) gNil))) rfl sc_law_state.nd (pi_list (pe_methR0 (pv 0) T.k_Meeting T.m_Meeting_story G_Meeting_story (hr.mono (by decide)))) (blkOk_by (own := [("_law_number", 4), ("_law_made", 5)]) (N := N_law_state) (sc := defScope s_law_state) (by decide +kernel)) (fun _ _ _ _ _ => (pg_tup rfl (pgs_cons (pg_name (i := 4) sc_law_state.nd rfl (Or.inl rfl) (Or.inr rfl)) (pgs_cons (pg_name (i := 5) sc_law_state.nd rfl (Or.inl rfl) (Or.inr rfl)) pgs_nil)))) (fun _ _ _ _ _ => pts_nil) (fun _ _ _ _ _ => (pe_tup (pa_cons (pv 4) (pa_cons (pe_methR0 (pv 5) T.k_Change T.m_Change_rows G_Change_rows (hr.mono (by decide))) pa_nil))))) pa_nil))))))), ?_⟩
    -- some = [(met.text(k), met.waiting(k)) for k in range(many)]
    refine ⟨_, rfl, _, rfl, by omega, by omega, fun D hD => ?_⟩
    have fD : ∀ {H1 : Hp}, (∀ b o, b ≠ D → H b = some o → H1 b = some o) → Same H H1 := fun f b o e => f b o (ne_of_none e hD) e
    have inn : ∀ {H1 : Hp}, Same H H1 → MtIn K I H1 m tb F M := fun s1 => ⟨sI.trans s1, hF, hM.mono (fun _ _ h => h) fun b _ o e => s1 _ _ e⟩
    refine lc_range0 (fun i H1 => Same H H1 ∧ ∃ acc, H1 D = some (.lst acc) ∧ acc.length = i ∧ DpAll K (hid [D] H1) acc ((M.sides.take i).map sdD)) ⟨same_new hD, [], upd_same, rfl, .nil⟩ (fun i H1 hi e => ?_) (fun H1 e => ?_)
    · obtain ⟨s1, acc, hD1, ha, hdp⟩ := e
      have hi : i < n := by simpa using hi
      obtain ⟨σ, hσ⟩ : ∃ σ, M.sides[i]? = some σ := ⟨_, List.getElem?_eq_getElem (by omega)⟩
      have g1 := inn s1
      obtain ⟨dx, r, sl, dn, hm, _⟩ := g1.at'.ob
      refine ⟨rfl, _, rfl, m, dx, _, rfl, hm, rfl, _, rfl, m, tb, F, M, I, i, σ, by simp, g1, hσ, fun a a0 => ?_⟩
      have sa := same_new (o := .lst (σ.row.map V.int)) a0
      have g2 := inn (s1.trans sa)
      obtain ⟨dx2, r2, sl2, dn2, hm2, _⟩ := g2.at'.ob
      refine ⟨_, rfl, m, dx2, _, rfl, hm2, rfl, _, rfl, m, tb, F, M, I, i, σ, by simp, g2, hσ, fun t t0 => ⟨(by show 2 ≤ sizeLine; decide), fun p p0 => ?_⟩⟩
      have st := same_new (o := .tup [.int (σ.frm.length : Nat), .int (σ.to.length : Nat)]) t0
      have sp := same_new (o := .tup [V.ref a, V.ref t]) p0
      have s14 := (sa.trans st).trans sp
      have hD4 := s14 _ _ hD1
      refine ⟨acc, hD4, sl5 (by omega), fun b o e => ?_, _, upd_same, by rw [List.length_append, ha]; rfl, ?_⟩
      · rw [upd_ne (ne_of_none e hD)]
        exact s14 _ _ (s1 _ _ e)
      · have aD : a ≠ D := (ne_of_none hD1 a0).symm
        have tD : t ≠ D := (ne_of_none (sa _ _ hD1) t0).symm
        have pD : p ≠ D := (ne_of_none ((sa.trans st) _ _ hD1) p0).symm
        have put : ∀ {b o}, b ≠ D → (upd (upd (upd H1 a (.lst (σ.row.map V.int))) t (.tup [.int (σ.frm.length : Nat), .int (σ.to.length : Nat)])) p (.tup [V.ref a, V.ref t])) b = some o → hid [D] (upd (upd (upd (upd H1 a (.lst (σ.row.map V.int))) t (.tup [.int (σ.frm.length : Nat), .int (σ.to.length : Nat)])) p (.tup [V.ref a, V.ref t])) D (.lst (acc ++ [.ref p]))) b = some o := fun n e => hid_get (by rw [upd_ne n]; exact e) (by simpa using n)
        rw [take_succ_get hσ, List.map_append]
        refine dpAll_app (dpAll_mono (fun b o e => ?_) hdp) (dpAll_one ?_)
        · obtain ⟨e1, n1⟩ := of_hid e
          exact put (by simpa using n1) (s14 _ _ e1)
        · exact .tup (SqT.of (put pD upd_same)) (.cons (dp_intsD (put aD ((st.trans sp) _ _ upd_same))) (.cons (.tup (SqT.of (put tD (sp _ _ upd_same))) (.cons (.int _) (.cons (.int _) .nil))) .nil))
    obtain ⟨s1, acc, hD1, ha, hdp⟩ := e
    rw [show (n : Int).toNat = n from by simp, ← hn, List.take_of_length_le (Nat.le_refl _)] at hdp
    have hdp := dpAll_mono hid_same hdp
    -- return (met.middle(), some, [..])
    have g1 := inn s1
    obtain ⟨dx, r, sl, dn, hm, _⟩ := g1.at'.ob
    refine ⟨_, rfl, m, dx, _, rfl, hm, rfl, m, tb, F, M, I, rfl, g1, fun a a0 => ⟨_, rfl, ?_⟩⟩
    have sa := same_new (o := .lst (M.row.map V.int)) a0
    have ha2 : (upd H1 a (.lst (M.row.map V.int))) a = some (.lst (M.row.map V.int)) := upd_same
    have s2 := s1.trans sa
    have hD2 := sa _ _ hD1
    have hdp := dpAll_mono sa hdp
    generalize upd H1 a (.lst (M.row.map V.int)) = H2 at s2 ha2 hD2 hdp ⊢
    have g2 := inn s2
    obtain ⟨dx, r, sl, dn, hm, _⟩ := g2.at'.ob
    refine ⟨_, rfl, m, dx, _, rfl, hm, rfl, m, tb, F, M, I, rfl, g2, fun q its q0 hits => ?_⟩
    have sq := same_new (o := .lst its) q0
    have hlen := paired_len hits
    refine ⟨q, rfl, ⟨_, SqL.of upd_same⟩, fun D3 hD3 => ?_⟩
    have hq3 : (upd H2 q (.lst its)) q = some (.lst its) := upd_same
    generalize upd H2 q (.lst its) = H3 at sq hD3 hq3 ⊢
    have s3 := s2.trans sq
    refine lc_list0 (K := K) (a := q) (xs := its) (fun i H4 => (∀ b o, b ≠ D3 → H3 b = some o → H4 b = some o) ∧ ∃ acc, H4 D3 = some (.lst acc) ∧ acc.length = i ∧ DpAll K (hid [D3] H4) acc ((M.story.take i).map stoD)) ⟨fun b o n e => by rw [upd_ne n]; exact e, [], upd_same, rfl, .nil⟩ (fun i H4 _ e => SqL.of (e.1 _ _ (ne_of_none hq3 hD3) hq3)) (fun i y H4 hi e => ?_) (fun H4 e => ?_)
    · obtain ⟨f4, acc3, hD4, ha4, hdp4⟩ := e
      have s4 : Same H3 H4 := fun b o e => f4 b o (ne_of_none e hD3) e
      obtain ⟨p, hp, t, c, rfl, ht, hc⟩ := paired_get hits hi
      have hil : i < its.length := (List.getElem?_eq_some_iff.mp hi).1
      have sH4 := (sI.trans s3).trans s4
      have hc4 := hc.mono sH4
      obtain ⟨cx, cl, cit, hc1, _⟩ := id hc4
      refine ⟨t, _, rfl, SqT.of (sH4 _ _ ht), rfl, _, _, rfl, _, _, rfl, rfl, rfl, _, rfl, _, rfl, c, cx, _, rfl, hc1, rfl, c, p.2, rfl, hc4, by have := z2 p (List.mem_of_getElem? hp); omega, fun H5 lr g5 => ⟨(by show 2 ≤ sizeLine; decide), fun u u0 => ?_⟩⟩
      obtain ⟨rit, hr1, hr2⟩ := g5.ex
      have su := same_new (o := .tup [V.int p.1, V.ref lr]) u0
      have hD5 := g5.sm _ _ hD4
      have lD : lr ≠ D3 := (ne_of_none hD4 g5.l0).symm
      have uD : u ≠ D3 := (ne_of_none hD5 u0).symm
      refine ⟨acc3, su _ _ hD5, sl5 (by omega), fun b o n e => ?_, _, upd_same, by rw [List.length_append, ha4]; rfl, ?_⟩
      · rw [upd_ne n]
        exact su _ _ (g5.sm _ _ (f4 b o n e))
      · have put : ∀ {b o}, b ≠ D3 → (upd H5 u (.tup [V.int p.1, V.ref lr])) b = some o → hid [D3] (upd (upd H5 u (.tup [V.int p.1, V.ref lr])) D3 (.lst (acc3 ++ [.ref u]))) b = some o := fun n e => hid_get (by rw [upd_ne n]; exact e) (by simpa using n)
        rw [take_succ_get hp, List.map_append]
        refine dpAll_app (dpAll_mono (fun b o e => ?_) hdp4) (dpAll_one (.tup (SqT.of (put uD upd_same)) (.cons (.int _) (.cons (.lst (SqL.of (put lD (su _ _ hr1))) (dpAll_mono (fun b o e => ?_) (dp_rows hr2))) .nil))))
        · obtain ⟨e1, n1⟩ := of_hid e
          exact put (by simpa using n1) (su _ _ (g5.sm _ _ e1))
        · obtain ⟨e1, n1⟩ := of_hid e
          obtain ⟨e2, e3⟩ := of_newIn e1
          exact put (fun z => by rw [z, hD4] at e2; cases e2) (su _ _ e3)
    obtain ⟨f4, acc3, hD4, ha4, hdp4⟩ := e
    rw [hlen, List.take_of_length_le (Nat.le_refl _)] at hdp4
    have s4 : Same H3 H4 := fun b o e => f4 b o (ne_of_none e hD3) e
    refine ⟨(by show 3 ≤ sizeLine; decide), fun t t0 => ?_⟩
    have st := same_new (o := .tup [V.ref a, V.ref D, V.ref D3]) t0
    refine k _ t ((s3.trans s4).trans st) (.tup (SqT.of upd_same) (.cons (dp_intsD (st _ _ (s4 _ _ (sq _ _ ha2)))) (.cons (.lst (SqL.of (st _ _ (s4 _ _ (sq _ _ hD2)))) (dpAll_mono ((sq.trans s4).trans st) hdp)) (.cons (.lst (SqL.of (st _ _ hD4)) (dpAll_mono (hid_same.trans st) hdp4)) .nil))))
end
end K94
set_option maxRecDepth 100000
set_option maxHeartbeats 4000000
/-! K94W: the middle's story. -/
namespace K94
open PySem PySem.Spec PyProof.Rows L2
/-! ### plain: the story's changes, one behind the other -/
def wholeOf (st : List (Nat × Gs)) : Gs := st.foldl (fun a p => thenG a p.2) (inG [])
def aloneOf (text : List Int) (st : List (Nat × Gs)) : Mt := st.foldl (fun a p => a.did 0 p.2) (Mt.new text 1)
theorem pt_then (a b : Gs) : pt (thenG a b) ≤ pt a + pt b := by
  unfold pt thenG
  rw [inG_puts]
  have := thenF_puts (rowsOf b) (rowsOf a)
  omega
structure StoF (S : Int → Prop) (text R : List Int) (st : List (Nat × Gs)) (i : Nat) (r : List Int) : Prop where
  rest : SPath S r (st.drop i) R
  done : doneG (wholeOf (st.take i)) text = r
  nd : need (wholeOf (st.take i)) ≤ text.length
  can : Canon (wholeOf (st.take i))
  pt' : pt (wholeOf (st.take i)) ≤ 10 * i
  one : ∃ σ, (aloneOf text (st.take i)).sides = [σ] ∧ σ.row = r ∧ σ.own.length = i ∧ σ.frm.length = i
  row : (aloneOf text (st.take i)).row = text
  len : r.length ≤ 10 + 10 * i
  mem : ∀ x ∈ r, S x
theorem story_facts {S : Int → Prop} {text R : List Int} {st : List (Nat × Gs)} (h : SPath S text st R) (hm : ∀ x ∈ text, S x) (hl : text.length ≤ 10) : ∀ i, i ≤ st.length → ∃ r, StoF S text R st i r
  | 0, _ => ⟨text, h, by
      have e : doneG (inG []) text = doneR [] text := inG_done [] text (Nat.zero_le _)
      exact e, Nat.le_trans (inG_need []) (Nat.zero_le _), (by show Canon (inG []); exact inG_canon _), by show pt (inG []) ≤ 0; unfold pt; rw [inG_puts]; exact Nat.le_refl _, ⟨_, rfl, rfl, rfl, rfl⟩, rfl, by omega, hm⟩
  | i + 1, hi => by
    obtain ⟨r, f⟩ := story_facts h hm hl i (by omega)
    obtain ⟨p, hp⟩ : ∃ p, st[i]? = some p := ⟨_, List.getElem?_eq_getElem (by omega)⟩
    have rs := f.rest
    rw [drop_get hp] at rs
    obtain ⟨gc, gn, rs⟩ := rs
    have ew : wholeOf (st.take (i + 1)) = thenG (wholeOf (st.take i)) p.2 := by unfold wholeOf; rw [take_succ_get hp, List.foldl_append]; rfl
    have ea : aloneOf text (st.take (i + 1)) = (aloneOf text (st.take i)).did 0 p.2 := by unfold aloneOf; rw [take_succ_get hp, List.foldl_append]; rfl
    obtain ⟨d1, d2⟩ := thenG_done (b := p.2) f.nd (by rw [f.done]; exact gn)
    obtain ⟨σ, s1, s2, s3, s4⟩ := f.one
    refine ⟨doneG p.2 r, rs, by rw [ew, d1, f.done], by rw [ew]; exact d2, by rw [ew]; exact inG_canon _, by have := pt_then (wholeOf (st.take i)) p.2; have := f.pt'; have := gc.few; rw [ew]; omega, ⟨σ.did p.2, ?_, ?_, ?_, ?_⟩, by rw [ea]; exact f.row, by have := done_short gc gn f.len; omega, mem_done S gc.sgn f.mem⟩
    · rw [ea]
      show (aloneOf text (st.take i)).sides.modify 0 _ = _
      rw [s1]
      rfl
    · show doneG p.2 σ.row = _
      rw [s2]
    · show (σ.own ++ [p.2]).length = _
      simp [s3]
    · show (σ.frm ++ [(p.2, σ.came)]).length = _
      simp [s4]
section
variable {P : Program} {w : World} {K : PySem.W.Frag} {mg : Str → Option Value} {base : Heap}
abbrev N_law_story_right : List Str := ["_law_board_here", "_law_met", "_law_text", "_law_many", "_law_whole", "_law_alone", "_law_number", "_law_made"]
theorem sc_law_story_right : FnScope N_law_story_right ["_law_board_here", "_law_met", "_law_text", "_law_many"] (defScope s_law_story_right) := ⟨rfl, rfl, rfl, by decide +kernel, rfl, by decide +kernel, by decide +kernel⟩
def spStoryRight (K : PySem.W.Frag) : Sp := fun vs H Q _ => ∃ (m tb tx : Addr) (F : List Addr) (M : Mt) (I : Hp) (S : Int → Prop) (text : List Int) (e n : Nat) (many : V), vs = [.ref tb, .ref m, .ref tx, many] ∧ MtIn K I H m tb F M ∧ TbAt K I tb S ∧ I tx = some (.lst (text.map V.int)) ∧ text.length ≤ 10 ∧ MOk S text e n M ∧ e ≤ 95 ∧ ∀ H', Same H H' → Q (.bl true) H'
theorem ok_story_right (T : Txt K mg) : FnR P w K mg base CX0 7 (He.ga K "_law_story_right") (spStoryRight K) := by
  have G_Change := ok_Change_init (P := P) (w := w) (base := base) T
  have G_Meeting := ok_Meeting_init (P := P) (w := w) (base := base) T
  have G_Meeting_story := ok_Meeting_story (P := P) (w := w) (base := base) T
  have G_Meeting_do := ok_Meeting_do (P := P) (w := w) (base := base) T
  have G_Meeting_text := ok_Meeting_text (P := P) (w := w) (base := base) T
  have G_Meeting_middle := ok_Meeting_middle (P := P) (w := w) (base := base) T
  have G_Change_then := ok_Change_then (P := P) (w := w) (base := base) T
  have G_Change_done := ok_Change_done (P := P) (w := w) (base := base) T
  have G_Change_undoing := ok_Change_undoing (P := P) (w := w) (base := base) T
  refine fnr_of T.d_law_story_right sc_law_story_right (fun vs H Q E h => ?_) (fun _ _ _ _ _ _ us hl => match us, hl with | [_, _, _, _], _ => rfl) (fun cdv A outer s H vs Q E hr h => ?_)
  · obtain ⟨m, tb, tx, F, M, I, S, text, e, n, many, rfl, _⟩ := h
    rfl
  · obtain ⟨m, tb, tx, F, M, I, S, text, e, n, many, rfl, ⟨sI, hF, hM⟩, hT, htx, htl, ok, he, k⟩ := h
    have inn : ∀ {H1 : Hp}, Same H H1 → MtIn K I H1 m tb F M := fun s1 => ⟨sI.trans s1, hF, hM.mono (fun _ _ h => h) fun b _ o e => s1 _ _ e⟩
    refine ⟨_, (pss_cons (ps_set (i := 4) sc_law_story_right.nd rfl (Or.inl rfl) (StX.pe_makeR T.mk_Change G_Change (hr.mono (by decide)) (by rfl) T.c_Change pass0 (pa_cons (pe_lst pa_nil) pa_nil)))
      (pss_cons (ps_set (i := 5) sc_law_story_right.nd rfl (Or.inl rfl) (StX.pe_makeR T.mk_Meeting G_Meeting (hr.mono (by decide)) (by rfl) T.c_Meeting pass0 (pa_cons (pv 0) (pa_cons (pv 2) (pa_cons pe_int pa_nil)))))
      (pss_cons (ps_for PassesOwn.never rfl (pi_list (pe_methR0 (pv 1) T.k_Meeting T.m_Meeting_story G_Meeting_story (hr.mono (by decide)))) (pg_tup rfl (pgs_cons (pg_name (i := 6) sc_law_story_right.nd rfl (Or.inl rfl)) (pgs_cons (pg_name (i := 7) sc_law_story_right.nd rfl (Or.inl rfl)) pgs_nil))) (pss_cons (ps_set (i := 4) sc_law_story_right.nd rfl (Or.inl rfl) (pe_methR (pv 4) T.k_Change T.m_Change_then G_Change_then (hr.mono (by decide)) pass0 (pa_cons (pv 7) pa_nil)))
      (pss_one (ps_expr (pe_methR (pv 5) T.k_Meeting T.m_Meeting_do G_Meeting_do (hr.mono (by decide)) pass0 (pa_cons pe_int (pa_cons (pv 7) pa_nil)))))))
      (pss_cons (ps_if (PW.pt (pw_or (pt_cmpR (op_neD hr.units) (pe_methR (pv 4) T.k_Change T.m_Change_done G_Change_done (hr.mono (by decide)) pass0 (pa_cons (pv 2) pa_nil)) (pe_methR0 (pv 1) T.k_Meeting T.m_Meeting_middle G_Meeting_middle (hr.mono (by decide))) (nomark _)) (pw_or1 (pt_cmpR (op_neD hr.units) (pe_methR (pe_methR (pv 4) T.k_Change T.m_Change_undoing G_Change_undoing (hr.mono (by decide)) pass0 (pa_cons (pv 2) pa_nil)) T.k_Change T.m_Change_done G_Change_done (hr.mono (by decide)) pass0 (pa_cons (pe_methR0 (pv 1) T.k_Meeting T.m_Meeting_middle G_Meeting_middle (hr.mono (by decide))) pa_nil)) (pv 2) (nomark _))))) (pss_one (ps_ret pe_bl)) pss_nil)
      (pss_one (ps_ret (pe_and (pe_cmpR (op_eqD hr.units) (pe_methR (pv 5) T.k_Meeting T.m_Meeting_text G_Meeting_text (hr.mono (by decide)) pass0 (pa_cons pe_int pa_nil)) (pe_methR0 (pv 1) T.k_Meeting T.m_Meeting_middle G_Meeting_middle (hr.mono (by decide))) (nomark _)) (pe_one (pe_cmpR (op_eqD hr.units) (pe_methR0 (pv 5) T.k_Meeting T.m_Meeting_middle G_Meeting_middle (hr.mono (by decide))) (pv 2) (nomark _)))))))))), ?_⟩
    -- whole = Change([])
    refine ⟨(by show 0 ≤ sizeLine; decide), fun e0 e00 x dx x0 d0 ne => ?_⟩
    have se := same_new (o := .lst []) e00
    refine mk_changeR (rows := []) upd_same .nil (by simp [puts]) x dx x0 d0 ne fun H1 s1 _ hw => ?_
    have s01 := se.trans s1
    have hw1 : ChAt K H1 x (inG []) := hw.mono newIn_same
    clear hw s1 x0 d0 se e00
    -- alone = Meeting(board, text, 1)
    refine ⟨_, rfl, _, rfl, fun a adx a0 ad0 ane => ?_⟩
    refine ⟨a, adx, tb, tx, text, 1, S, H1, rfl, a0, ad0, ane, rfl, (hT.mono sI).mono s01, s01 _ _ (sI _ _ htx), by omega, ok.txt, by decide, by decide, fun H2 Fa s2 fa hA => ⟨rfl, ?_⟩⟩
    have s02 := s01.trans s2
    have hA := hA.mono (H' := H2) (show Same (hid Fa (newIn H1 H2)) (hid Fa H2) from fun b o e => let ⟨e1, n⟩ := of_hid e; hid_get (newIn_same _ _ e1) n) fun _ _ _ e => e
    have hAin : MtIn K (hid Fa H2) H2 a tb Fa (Mt.new text 1) := ⟨hid_same, fun b hb => by unfold hid; rw [if_pos hb], hA⟩
    have oldI : Same H (hid Fa H2) := fun b o e => hid_get (s02 _ _ e) fun z => by
      have := fa b z
      rw [s01 _ _ e] at this
      cases this
    have thA := hA.there
    have xFa : x ∉ Fa := fun z => by
      obtain ⟨_, _, _, q, _⟩ := hw1
      rw [fa x z] at q
      cases q
    have hw2 : ChAt K (hid Fa H2) x (inG []) := hw1.mono fun b o e => hid_get (s2 _ _ e) fun z => by rw [fa b z] at e; cases e
    clear fa a0 ad0 hw1 xFa
    have S2 : Stp H2 Fa H2 Fa := .refl thA
    have i2 : Same (hid Fa H2) (nextI (hid Fa H2) H2 H2 Fa) := S2.mono hAin.sI hAin.hF
    have sIx : ∀ {H' : Hp} {F' : List Addr}, Stp H2 Fa H' F' → Same (nextI (hid Fa H2) H2 H' F') H' := fun S => S.same hAin.sI hAin.hF
    have iIx : ∀ {H' : Hp} {F' : List Addr}, Stp H2 Fa H' F' → Same (hid Fa H2) (nextI (hid Fa H2) H2 H' F') := fun S => S.mono hAin.sI hAin.hF
    -- for number, made in met.story()
    have g2 := inn s02
    obtain ⟨mdx, r, sl, dn, hm, _⟩ := g2.at'.ob
    refine ⟨_, rfl, m, mdx, _, rfl, hm, rfl, m, tb, F, M, I, rfl, g2, fun q its q0 hits => ?_⟩
    have hlen := paired_len hits
    obtain ⟨S3, i3, _⟩ := S2.pure (I := hid Fa H2) (same_new (o := .lst its) q0)
    have hq3 := nextI_new (I := hid Fa H2) (o := .lst its) S2 q0
    have gA3 := hA.mono (H' := upd H2 q (.lst its)) (i2.trans i3) fun b _ o e => same_new q0 _ _ e
    have hw3 := hw2.mono (i2.trans i3)
    have hq3' : (upd H2 q (.lst its)) q = some (.lst its) := upd_same
    generalize upd H2 q (.lst its) = H3 at S3 hq3 gA3 hw3 hq3' ⊢
    obtain ⟨r0, f0⟩ := story_facts ok.st ok.txt htl 0 (Nat.zero_le _)
    refine ⟨q, rfl, ⟨_, SqL.of hq3'⟩, for_list (K := K) (a := q) (xs := its) (fun i σ1 H4 => ∃ v6 v7 c F4 r, σ1 = [some (.ref tb), some (.ref m), some (.ref tx), some many, some (.ref c), some (.ref a), v6, v7] ∧ Stp H2 Fa H4 F4 ∧ Same (nextI (hid Fa H2) H2 H3 Fa) (nextI (hid Fa H2) H2 H4 F4) ∧ MtAt K (nextI (hid Fa H2) H2 H4 F4) H4 a tb F4 (aloneOf text (M.story.take i)) ∧
        ChAt K (nextI (hid Fa H2) H2 H4 F4) c (wholeOf (M.story.take i)) ∧ StoF S text M.row M.story i r)
      ⟨none, none, x, Fa, r0, rfl, S3, fun _ _ h => h, gA3, hw3, f0⟩ (fun i σ1 H4 _ ⟨_, _, _, F4, _, _, S4, i4, _⟩ => SqL.of (sIx S4 _ _ (i4 _ _ hq3))) ?_ ?_⟩
    · rintro i y σ1 H4 hi ⟨v6, v7, c, F4, r, rfl, S4, i4, gA, hw, f⟩
      obtain ⟨p, hp, t, ca, rfl, ht, hca⟩ := paired_get hits hi
      have hil : i < its.length := (List.getElem?_eq_some_iff.mp hi).1
      obtain ⟨r', f'⟩ := story_facts ok.st ok.txt htl (i + 1) (by omega)
      have ei : i ≤ 95 := by have := ok.sz; omega
      have rs := f.rest
      rw [drop_get hp] at rs
      obtain ⟨gc, gn, _⟩ := rs
      have ew : wholeOf (M.story.take (i + 1)) = thenG (wholeOf (M.story.take i)) p.2 := by unfold wholeOf; rw [take_succ_get hp, List.foldl_append]; rfl
      have ea : aloneOf text (M.story.take (i + 1)) = (aloneOf text (M.story.take i)).did 0 p.2 := by unfold aloneOf; rw [take_succ_get hp, List.foldl_append]; rfl
      have sI4 := sIx S4
      have old4 : Same I (nextI (hid Fa H2) H2 H4 F4) := (sI.trans oldI).trans (iIx S4)
      have hca4 := hca.mono old4
      have hw4 := hw.mono sI4
      obtain ⟨cx, cl, cit, hc1, _⟩ := id hw4
      refine ⟨t, _, rfl, SqT.of (sI4 _ _ (old4 _ _ ht)), rfl, _, _, rfl, _, _, rfl, rfl, ?_⟩
      -- whole = whole.then(made)
      have wl := canon_len f.can
      have wt := tk_need (wholeOf (M.story.take i))
      have w1 := f.nd
      have w2 := f.pt'
      have w3 := gc.few
      refine ⟨_, rfl, c, cx, _, rfl, hc1, rfl, _, rfl, c, ca, _, p.2, rfl, hw4, hca4.mono sI4, by omega, by have := gc.len; omega, by unfold pt at w2 w3; omega, fun H5 c5 s5 c50 hc5 => ?_⟩
      obtain ⟨S5, i5, n5⟩ := S4.pure (I := hid Fa H2) s5
      have gA5 := gA.mono i5 fun b _ o e => s5 _ _ e
      have hca5 := hca4.mono i5
      have hw5 := hc5.mono n5
      rw [← ew] at hw5
      obtain ⟨σ, o1, o2, o3, o4⟩ := f.one
      obtain ⟨adx2, ar, asl, adn, ham, _⟩ := gA5.ob
      -- alone.do(0, made)
      refine ⟨_, rfl, a, adx2, _, rfl, ham, rfl, _, rfl, a, tb, ca, F4, _, nextI (hid Fa H2) H2 H5 F4, S, 0, σ, p.2, rfl, ⟨sIx S5, S5.gone, gA5⟩, hT.mono ((old4.trans i5)), by rw [o1]; rfl, hca5, by rw [o2]; exact gn, by have := gc.len; omega, by have := f.len; rw [o2]; omega, by omega, by rw [o3]; omega, by rw [o4]; omega, by rw [o2]; exact mem_done S gc.sgn f.mem, fun H6 F6 S6 gA6 => ?_⟩
      have z6 := S5.next (I := hid Fa H2) S6
      have m6 := (S6.mono (sIx S5) S5.gone).trans z6
      exact ⟨_, _, c5, F6, r', rfl, S5.trans S6, (i4.trans i5).trans m6, by rw [ea]; exact gA6.mono z6 fun _ _ _ e => e, hw5.mono m6, f'⟩
    rintro σ1 H4 ⟨v6, v7, c, F4, r, rfl, S4, i4, gA, hw, f⟩
    rw [hlen] at f gA hw
    rw [List.take_of_length_le (Nat.le_refl _)] at gA hw
    have er : M.row = r := by
      have := f.rest
      rw [List.drop_of_length_le (Nat.le_refl _)] at this
      exact this.symm
    have fd := f.done
    have fn := f.nd
    have fc := f.can
    have fp := f.pt'
    obtain ⟨σ, o1, o2, o3, o4⟩ := f.one
    have frow := f.row
    rw [List.take_of_length_le (Nat.le_refl _)] at fd fn fc fp o1 frow
    have wl := canon_len fc
    have wt := tk_need (wholeOf M.story)
    have msz := ok.sz
    have mrz := ok.rz
    have sI4 := sIx S4
    have old4 : Same H (nextI (hid Fa H2) H2 H4 F4) := oldI.trans (iIx S4)
    have s04 : Same H H4 := old4.trans sI4
    have hw4 := hw.mono sI4
    obtain ⟨cx, cl, cit, hc1, _⟩ := id hw4
    have htx4 := s04 _ _ (sI _ _ htx)
    -- whole.done(text) != met.middle()
    refine ⟨_, rfl, c, cx, _, rfl, hc1, rfl, _, rfl, c, tx, wholeOf M.story, text, rfl, hw4, htx4, by omega, by omega, by omega, fn, fun H5 d5 s5 d50 hd5 => ?_⟩
    have g5 := inn (s04.trans s5)
    obtain ⟨mdx, mr, msl, mdn, hm5, _⟩ := g5.at'.ob
    refine ⟨_, rfl, m, mdx, _, rfl, hm5, rfl, m, tb, F, M, I, rfl, g5, fun l6 l60 => ?_⟩
    have s6 := same_new (o := .lst (M.row.map V.int)) l60
    rw [fd, ← er] at hd5
    refine ⟨intsD M.row, intsD M.row, dp_intsD (s6 _ _ hd5), dp_intsD upd_same, shp_ints _, shp_ints _, _, rfl, ?_⟩
    rw [(ints_d M.row).2.2]
    refine iteF ?_
    have s46 := s5.trans s6
    generalize upd H5 l6 (.lst (M.row.map V.int)) = H6 at s46 ⊢
    -- whole.undoing(text).done(met.middle()) != text
    obtain ⟨ud1, ud2⟩ := undoG_done (row := text) fn
    rw [fd, ← er] at ud1 ud2
    refine ⟨_, rfl, c, cx, _, rfl, s46 _ _ hc1, rfl, _, rfl, c, tx, wholeOf M.story, text, rfl, hw4.mono s46, s46 _ _ htx4, by omega, by omega, fn, fun H7 u7 s7 u70 hu7 => ?_⟩
    have hu7' := hu7.mono newIn_same
    obtain ⟨ux, ul, uit, hu1, _⟩ := id hu7'
    have g7 := inn ((s04.trans s46).trans s7)
    obtain ⟨mdx, mr, msl, mdn, hm7, _⟩ := g7.at'.ob
    refine ⟨u7, ux, _, rfl, hu1, rfl, _, rfl, m, mdx, _, rfl, hm7, rfl, m, tb, F, M, I, rfl, g7, fun l8 l80 => ?_⟩
    have s8 := same_new (o := .lst (M.row.map V.int)) l80
    have up : pt (undoG (wholeOf M.story) text) ≤ text.length := by
      have h2 := undP_puts (wholeOf M.story) text
      rw [undP_eq] at h2
      unfold pt undoG
      rw [inG_puts]
      omega
    have ul := canon_len (show Canon (undoG (wholeOf M.story) text) from inG_canon _)
    have ut := tk_need (undoG (wholeOf M.story) text)
    refine ⟨u7, l8, _, M.row, rfl, hu7'.mono s8, upd_same, by omega, by omega, by omega, ud2, fun H9 d9 s9 d90 hd9 => ?_⟩
    rw [ud1] at hd9
    have s09 := (((s04.trans s46).trans s7).trans s8).trans s9
    refine ⟨_, rfl, intsD text, intsD text, dp_intsD hd9, dp_intsD (s09 _ _ (sI _ _ htx)), shp_ints _, shp_ints _, _, rfl, ?_⟩
    rw [(ints_d text).2.2]
    refine iteF ?_
    -- return alone.text(0) == met.middle() and alone.middle() == text
    have s49 := ((s46.trans s7).trans s8).trans s9
    obtain ⟨S9, i9, _⟩ := S4.pure (I := hid Fa H2) s49
    have gA9 := gA.mono i9 fun b _ o e => s49 _ _ e
    have aIn : ∀ {H' : Hp}, Same H9 H' → MtIn K (nextI (hid Fa H2) H2 H9 F4) H' a tb F4 (aloneOf text M.story) := fun s1 => ⟨(sIx S9).trans s1, S9.gone, gA9.mono (fun _ _ h => h) fun b _ o e => s1 _ _ e⟩
    have a9 := aIn (fun _ _ h => h : Same H9 H9)
    obtain ⟨adx2, ar, asl, adn, ham, _⟩ := a9.at'.ob
    refine ⟨_, rfl, a, adx2, _, rfl, ham, rfl, a, tb, F4, _, _, 0, σ, rfl, a9, by rw [o1]; rfl, fun la la0 => ?_⟩
    have sa := same_new (o := .lst (σ.row.map V.int)) la0
    have g10 := inn (s09.trans sa)
    obtain ⟨mdx, mr, msl, mdn, hm10, _⟩ := g10.at'.ob
    refine ⟨_, rfl, m, mdx, _, rfl, hm10, rfl, m, tb, F, M, I, rfl, g10, fun lb lb0 => ?_⟩
    have sb := same_new (o := .lst (M.row.map V.int)) lb0
    have es : σ.row = M.row := by rw [o2, er]
    refine ⟨intsD M.row, intsD M.row, dp_intsD (sb _ _ (by rw [upd_same, es])), dp_intsD upd_same, shp_ints _, shp_ints _, ?_⟩
    rw [(ints_d M.row).2.2]
    refine ⟨_, rfl, iteT ?_⟩
    have sab := sa.trans sb
    generalize upd (upd H9 la (.lst (σ.row.map V.int))) lb (.lst (M.row.map V.int)) = H11 at sab ⊢
    have a11 := aIn sab
    obtain ⟨adx3, ar, asl, adn, ham, _⟩ := a11.at'.ob
    refine ⟨_, rfl, a, adx3, _, rfl, ham, rfl, a, tb, F4, _, _, rfl, a11, fun lc lc0 => ?_⟩
    have sc := same_new (o := .lst ((aloneOf text M.story).row.map V.int)) lc0
    have s0c := (s09.trans sab).trans sc
    refine ⟨_, rfl, intsD text, intsD text, dp_intsD (by rw [upd_same, frow]), dp_intsD (s0c _ _ (sI _ _ htx)), shp_ints _, shp_ints _, ?_⟩
    rw [(ints_d text).2.2]
    exact k _ s0c
end
end K94
set_option maxRecDepth 100000
set_option maxHeartbeats 4000000
/-! K94X0: parts that change, side by side. -/
namespace K94
open PySem PySem.Spec PyProof.Rows L2
section
variable {I H0 H1 H2 : Hp} {F0 F1 F2 A A' : List Addr}
/-- a step of one part -/
theorem Stp.part (S : Stp H0 F0 H1 F1) (sI : Same I H0) (hF : ∀ b ∈ F0, I b = none) (T : Stp H1 A H2 A') (hA : ∀ b ∈ A, b ∈ F1) (hF2 : ∀ b ∈ F2, b ∈ A' ∨ b ∈ F1) :
    Stp H0 F0 H2 F2 ∧ Same (nextI (nextI I H0 H1 F1) H1 H2 A') (nextI I H0 H2 F2) ∧ Same (nextI I H0 H1 F1) (nextI I H0 H2 F2) := by
  have T1 : Stp H1 F1 H2 F2 := T.lift hA S.th hF2
  exact ⟨S.trans T1, (nextI_lift S.gone S.th hF2).trans (S.next T1), (T1.mono (S.same sI hF) S.gone).trans (S.next T1)⟩
end
abbrev aoF (s tl : Addr) (Fm Fs : List Addr) : List Addr := [s] ++ Fm ++ Fs ++ [tl]
abbrev aoI (s tl : Addr) (Fm Fs : List Addr) (H0 H1 : Hp) : Hp := nextI (hid [s] H0) H0 H1 (aoF s tl Fm Fs)
def TxV (J : Hp) (v : V) (r : List Int) : Prop := ∃ a, v = .ref a ∧ J a = some (.lst (r.map V.int))
/-- a meeting, a sheet, a list of texts, and what is drawn from -/
structure AO (K : PySem.W.Frag) (H0 H1 : Hp) (s m sh tb tl : Addr) (Fm Fs : List Addr) (M : Mt) (row : List Int) (olds texts : List (List Int)) : Prop where
  S : Stp H0 [s] H1 (aoF s tl Fm Fs)
  src : SrcAt H1 s
  met : MtAt K (aoI s tl Fm Fs H0 H1) H1 m tb Fm M
  sht : ShAt K (aoI s tl Fm Fs H0 H1) H1 sh tb Fs row olds
  txt : LsAt H1 (TxV (aoI s tl Fm Fs H0 H1)) tl texts
  d1 : s ∉ Fm
  d2 : s ∉ Fs
  d3 : s ≠ tl
  d4 : tl ∉ Fm
  d5 : tl ∉ Fs
  d6 : ∀ b ∈ Fm, b ∉ Fs
section
variable {K : PySem.W.Frag} {H0 H1 H2 : Hp} {s m sh tb tl : Addr} {Fm Fm' Fs : List Addr} {M M' : Mt} {row row' : List Int} {olds olds' texts : List (List Int)}
theorem TxV.mono {J J' : Hp} (z : Same J J') {v : V} {r : List Int} : TxV J v r → TxV J' v r := fun ⟨a, e, h⟩ => ⟨a, e, z _ _ h⟩
theorem hid_none {s : Addr} {H0 : Hp} : ∀ b ∈ [s], hid [s] H0 b = none := fun b hb => by unfold hid; rw [if_pos hb]
theorem AO.sJ (g : AO K H0 H1 s m sh tb tl Fm Fs M row olds texts) : Same (aoI s tl Fm Fs H0 H1) H1 := g.S.same hid_same hid_none
theorem AO.inM (g : AO K H0 H1 s m sh tb tl Fm Fs M row olds texts) : MtIn K (aoI s tl Fm Fs H0 H1) H1 m tb Fm M := ⟨g.sJ, fun b hb => g.S.gone b (by simp [aoF, hb]), g.met⟩
theorem AO.inS (g : AO K H0 H1 s m sh tb tl Fm Fs M row olds texts) : ShIn K (aoI s tl Fm Fs H0 H1) H1 sh tb Fs row olds := ⟨g.sJ, fun b hb => g.S.gone b (by simp [aoF, hb]), g.sht⟩
/-- nothing of these changes but what is drawn from -/
theorem AO.but (g : AO K H0 H1 s m sh tb tl Fm Fs M row olds texts) (b : But s H1 H2) (src : SrcAt H2 s) : AO K H0 H2 s m sh tb tl Fm Fs M row olds texts ∧ Same (aoI s tl Fm Fs H0 H1) (aoI s tl Fm Fs H0 H2) := by
  have T : Stp H1 [s] H2 [s] := ⟨fun c o n e => b c o (by simpa using n) e, fun c h => by
    by_cases e : c = s
    · obtain ⟨_, _, _, q⟩ := src
      rw [e, q]
      rfl
    · obtain ⟨o, ho⟩ := Option.isSome_iff_exists.mp h
      rw [b c o e ho]
      rfl, fun c h => .inl h, fun c h => by
    obtain ⟨_, _, _, q⟩ := src
    simp only [List.mem_cons, List.not_mem_nil, or_false] at h
    rw [h, q]
    rfl⟩
  obtain ⟨S2, _, z⟩ := g.S.part (I := hid [s] H0) (F2 := aoF s tl Fm Fs) hid_same hid_none T (fun c h => by simp [aoF] at h ⊢; exact .inl h) (fun c h => .inr h)
  refine ⟨⟨S2, src, g.met.mono z fun c h o e => b c o (fun q => g.d1 (by rw [← q]; exact h)) e, g.sht.mono z fun c h o e => b c o (fun q => g.d2 (by rw [← q]; exact h)) e, g.txt.imp (fun o e => b _ o (Ne.symm g.d3) e) fun _ _ => TxV.mono z, g.d1, g.d2, g.d3, g.d4, g.d5, g.d6⟩, z⟩
theorem AO.pure (g : AO K H0 H1 s m sh tb tl Fm Fs M row olds texts) (sm : Same H1 H2) : AO K H0 H2 s m sh tb tl Fm Fs M row olds texts ∧ Same (aoI s tl Fm Fs H0 H1) (aoI s tl Fm Fs H0 H2) := g.but (fun b o _ e => sm _ _ e) (src_same g.src sm)
/-- the meeting has taken a step -/
theorem AO.stepM (g : AO K H0 H1 s m sh tb tl Fm Fs M row olds texts) (T : Stp H1 Fm H2 Fm') (h : MtAt K (nextI (aoI s tl Fm Fs H0 H1) H1 H2 Fm') H2 m tb Fm' M') : AO K H0 H2 s m sh tb tl Fm' Fs M' row olds texts ∧ Same (aoI s tl Fm Fs H0 H1) (aoI s tl Fm' Fs H0 H2) := by
  have th := g.S.th
  have new : ∀ c ∈ Fm', c ∈ Fm ∨ H1 c = none := T.fs
  have ne : ∀ c, (H1 c).isSome = true → c ∉ Fm → c ∉ Fm' := fun c hc hn hm => by
    rcases new c hm with q | q
    · exact hn q
    · rw [q] at hc
      cases hc
  obtain ⟨S2, z1, z⟩ := g.S.part (I := hid [s] H0) (F2 := aoF s tl Fm' Fs) hid_same hid_none T (fun c h => by simp [aoF, h]) (fun c h => by
    simp only [aoF, List.mem_append] at h ⊢
    rcases h with ((h | h) | h) | h
    · exact .inr (.inl (.inl (.inl h)))
    · exact .inl h
    · exact .inr (.inl (.inr h))
    · exact .inr (.inr h))
  obtain ⟨x, y, w, q⟩ := g.src
  refine ⟨⟨S2, ⟨x, y, w, T.fr _ _ g.d1 q⟩, h.mono z1 fun _ _ _ e => e, g.sht.mono z fun c hc o e => T.fr c o (fun q => g.d6 c q hc) e, g.txt.imp (fun o e => T.fr _ o g.d4 e) fun _ _ => TxV.mono z, ne s (th s (by simp [aoF])) g.d1, g.d2, g.d3, ne tl (th tl (by simp [aoF])) g.d4, g.d5, fun c hc hs => ?_⟩, z⟩
  rcases new c hc with q | q
  · exact g.d6 c q hs
  · have := th c (by simp [aoF, hs])
    rw [q] at this
    cases this
/-- the sheet has taken a step -/
theorem AO.stepS (g : AO K H0 H1 s m sh tb tl Fm Fs M row olds texts) (T : Stp H1 Fs H2 Fs) (h : ShAt K (nextI (aoI s tl Fm Fs H0 H1) H1 H2 Fs) H2 sh tb Fs row' olds') : AO K H0 H2 s m sh tb tl Fm Fs M row' olds' texts ∧ Same (aoI s tl Fm Fs H0 H1) (aoI s tl Fm Fs H0 H2) := by
  obtain ⟨S2, z1, z⟩ := g.S.part (I := hid [s] H0) (F2 := aoF s tl Fm Fs) hid_same hid_none T (fun c h => by simp [aoF, h]) (fun c h => .inr h)
  obtain ⟨x, y, w, q⟩ := g.src
  exact ⟨⟨S2, ⟨x, y, w, T.fr _ _ g.d2 q⟩, g.met.mono z fun c hc o e => T.fr c o (g.d6 c hc) e, h.mono z1 fun _ _ _ e => e, g.txt.imp (fun o e => T.fr _ o g.d5 e) fun _ _ => TxV.mono z, g.d1, g.d2, g.d3, g.d4, g.d5, g.d6⟩, z⟩
/-- another text -/
theorem AO.stepT (g : AO K H0 H1 s m sh tb tl Fm Fs M row olds texts) {a : Addr} {r : List Int} {refs : List V} (h : H1 tl = some (.lst refs)) (ha : (aoI s tl Fm Fs H0 H1) a = some (.lst (r.map V.int))) :
    AO K H0 (upd H1 tl (.lst (refs ++ [.ref a]))) s m sh tb tl Fm Fs M row olds (texts ++ [r]) ∧ Same (aoI s tl Fm Fs H0 H1) (aoI s tl Fm Fs H0 (upd H1 tl (.lst (refs ++ [.ref a])))) := by
  obtain ⟨S2, z⟩ := g.S.set (I := hid [s] H0) (a := tl) (o := .lst (refs ++ [.ref a])) (by simp [aoF])
  obtain ⟨x, y, w, q⟩ := g.src
  obtain ⟨refs', h1, h2⟩ := g.txt
  rw [h] at h1
  cases h1
  refine ⟨⟨S2, ⟨x, y, w, by rw [upd_ne g.d3]; exact q⟩, g.met.mono z fun c hc o e => by rw [upd_ne (fun q => g.d4 (by rw [← q]; exact hc))]; exact e, g.sht.mono z fun c hc o e => by rw [upd_ne (fun q => g.d5 (by rw [← q]; exact hc))]; exact e, ⟨_, upd_same, paired_app (Paired.mapP h2 fun _ _ => TxV.mono z) (paired_one ⟨a, rfl, z _ _ ha⟩)⟩, g.d1, g.d2, g.d3, g.d4, g.d5, g.d6⟩, z⟩
theorem AO.init {Ha Hb H4 : Hp} {a : Addr} (src : SrcAt H0 s) (sm1 : Same H0 Ha) (fm : ∀ b ∈ Fm, H0 b = none) (m0 : MtAt K (hid Fm (newIn H0 Ha)) Ha m tb Fm M)
    (sm2 : Same Ha Hb) (fs : ∀ b ∈ Fs, Ha b = none) (s0 : ShAt K (hid Fs (newIn Ha Hb)) Hb sh tb Fs row [])
    (sm3 : Same Hb H4) (a0 : Hb a = none) (t0 : Hb tl = none) (ne : a ≠ tl) (h1 : H4 a = some (.lst (row.map V.int))) (h2 : H4 tl = some (.lst [.ref a])) :
    AO K H0 H4 s m sh tb tl Fm Fs M row [] [row] := by
  obtain ⟨x, y, w, q⟩ := src
  have mth := m0.there
  have sth := s0.there
  have sH : ∀ b, (H0 b).isSome = true → b ∉ Fm ∧ b ∉ Fs ∧ b ≠ tl := fun b h => by
    obtain ⟨o, ho⟩ := Option.isSome_iff_exists.mp h
    refine ⟨fun z => ?_, fun z => ?_, fun z => ?_⟩
    · rw [fm b z] at ho; cases ho
    · have := sm1 _ _ ho
      rw [fs b z] at this; cases this
    · have := sm2 _ _ (sm1 _ _ ho)
      rw [z, t0] at this; cases this
  have n0 : ∀ b, b ∈ Fm ∨ b ∈ Fs ∨ b = tl → H0 b = none := fun b h => by
    cases e : H0 b with
    | none => rfl
    | some o =>
      obtain ⟨p1, p2, p3⟩ := sH b (some_of e)
      rcases h with h | h | h
      · exact absurd h p1
      · exact absurd h p2
      · exact absurd h p3
  obtain ⟨ds1, ds2, ds3⟩ := sH s (some_of q)
  have dmt : tl ∉ Fm := fun z => by
    obtain ⟨o, ho⟩ := Option.isSome_iff_exists.mp (mth _ z)
    have := sm2 _ _ ho
    rw [t0] at this; cases this
  have dst : tl ∉ Fs := fun z => by
    obtain ⟨o, ho⟩ := Option.isSome_iff_exists.mp (sth _ z)
    rw [t0] at ho; cases ho
  have dms : ∀ b ∈ Fm, b ∉ Fs := fun b hb z => by
    obtain ⟨o, ho⟩ := Option.isSome_iff_exists.mp (mth _ hb)
    rw [fs b z] at ho; cases ho
  have sm : Same H0 H4 := fun b o h => sm3 _ _ (sm2 _ _ (sm1 _ _ h))
  have S : Stp H0 [s] H4 (aoF s tl Fm Fs) := ⟨fun b o _ h => sm _ _ h, fun b h => by
    obtain ⟨o, ho⟩ := Option.isSome_iff_exists.mp h
    exact some_of (sm _ _ ho), fun b h => by
    simp only [aoF, List.mem_append, List.mem_cons, List.not_mem_nil, or_false] at h ⊢
    rcases h with ((h | h) | h) | h
    · exact .inl h
    · exact .inr (n0 b (.inl h))
    · exact .inr (n0 b (.inr (.inl h)))
    · exact .inr (n0 b (.inr (.inr h))), fun b h => by
    simp only [aoF, List.mem_append, List.mem_cons, List.not_mem_nil, or_false] at h
    rcases h with ((h | h) | h) | h
    · rw [h]; exact some_of (sm _ _ q)
    · obtain ⟨o, ho⟩ := Option.isSome_iff_exists.mp (mth _ h)
      exact some_of (sm3 _ _ (sm2 _ _ ho))
    · obtain ⟨o, ho⟩ := Option.isSome_iff_exists.mp (sth _ h)
      exact some_of (sm3 _ _ ho)
    · rw [h]; exact some_of h2⟩
  have notF : ∀ b, b ∉ Fm → b ∉ Fs → b ≠ tl → b ≠ s → b ∉ aoF s tl Fm Fs := fun b p1 p2 p3 p4 h => by
    simp only [aoF, List.mem_append, List.mem_cons, List.not_mem_nil, or_false] at h
    rcases h with ((h | h) | h) | h
    · exact p4 h
    · exact p1 h
    · exact p2 h
    · exact p3 h
  refine ⟨S, ⟨x, y, w, sm _ _ q⟩, m0.mono (fun b o h => ?_) fun b _ o e => sm3 _ _ (sm2 _ _ e), s0.mono (fun b o h => ?_) fun b _ o e => sm3 _ _ e, ⟨_, h2, paired_one ⟨a, rfl, nextI_fresh ?_ h1 (notF a ?_ ?_ ne ?_)⟩⟩, ds1, ds2, ds3, dmt, dst, dms⟩
  · obtain ⟨p1, p2⟩ := of_hid h
    obtain ⟨p3, p4⟩ := of_newIn p1
    refine nextI_fresh p3 (sm3 _ _ (sm2 _ _ p4)) (notF b p2 (fun z => ?_) (fun z => ?_) fun z => ?_)
    · rw [fs b z] at p4; cases p4
    · have := sm2 _ _ p4
      rw [z, t0] at this; cases this
    · rw [z, q] at p3; cases p3
  · obtain ⟨p1, p2⟩ := of_hid h
    obtain ⟨p3, p4⟩ := of_newIn p1
    refine nextI_fresh ?_ (sm3 _ _ p4) (notF b (fun z => ?_) p2 (fun z => ?_) fun z => ?_)
    · cases e : H0 b with
      | none => rfl
      | some o => have := sm1 _ _ e; rw [p3] at this; cases this
    · have := mth _ z
      rw [p3] at this; cases this
    · rw [z, t0] at p4; cases p4
    · have := sm1 _ _ q
      rw [z, this] at p3; cases p3
  · cases e : H0 a with
    | none => rfl
    | some o => have := sm2 _ _ (sm1 _ _ e); rw [a0] at this; cases this
  · intro z
    obtain ⟨o, ho⟩ := Option.isSome_iff_exists.mp (mth _ z)
    have := sm2 _ _ ho
    rw [a0] at this; cases this
  · intro z
    have := sth _ z
    rw [a0] at this; cases this
  · intro z
    have := sm2 _ _ (sm1 _ _ q)
    rw [← z, a0] at this; cases this
theorem paired_snoc {α β : Type} {F : α → β → Prop} : ∀ {a : List α} {xs : List β} {x : β}, Paired F a (xs ++ [x]) → ∃ a0 v, a = a0 ++ [v] ∧ Paired F a0 xs ∧ F v x
  | a, [], x, h => by
    cases h with
    | cons h1 h2 => cases h2; exact ⟨[], _, rfl, .nil, h1⟩
  | a, y :: xs, x, h => by
    cases h with
    | cons h1 h2 =>
      obtain ⟨a0, v, rfl, h3, h4⟩ := paired_snoc h2
      exact ⟨_ :: a0, v, rfl, .cons h1 h3, h4⟩
theorem AO.last (g : AO K H0 H1 s m sh tb tl Fm Fs M row olds (texts ++ [row'])) : ∃ its a, H1 tl = some (.lst (its ++ [.ref a])) ∧ (aoI s tl Fm Fs H0 H1) a = some (.lst (row'.map V.int)) := by
  obtain ⟨its, h, hp⟩ := g.txt
  obtain ⟨i0, v, rfl, _, a, rfl, ha⟩ := paired_snoc hp
  exact ⟨i0, a, h, ha⟩
theorem AO.fresh (g : AO K H0 H1 s m sh tb tl Fm Fs M row olds texts) : Same (newIn H1 H2) (aoI s tl Fm Fs H0 H2) := fun b o h => by
  obtain ⟨h1, h2⟩ := of_newIn h
  refine nextI_fresh (g.S.keepNone h1) h2 fun z => ?_
  have := g.S.th b z
  rw [h1] at this
  cases this
end
end K94
set_option maxRecDepth 100000
set_option maxHeartbeats 4000000
/-! K94X: hands that take everything at once. -/
namespace K94
open PySem PySem.Spec PyProof.Rows L2
/-! ### all hands told as data -/
theorem still_map {R : List Int} : ∀ {l : List Sd}, (∀ s ∈ l, Still R s) → l.map sdD = List.replicate l.length (sdD (Sd.new R))
  | [], _ => rfl
  | s :: l, h => by
    have hs := h s (by simp)
    have e : sdD s = sdD (Sd.new R) := by
      show PyData.tuple [intsD s.row, .tuple [.int (s.frm.length : Nat), .int (s.to.length : Nat)]] = _
      rw [hs.row, hs.frm, hs.to]
      rfl
    rw [List.map_cons, e, still_map (l := l) (fun t ht => h t (by simp [ht])), List.length_cons, List.replicate_succ]
theorem dp_rep {K : PySem.W.Frag} {H : Hp} {v : V} {d : PyData} (h : Dp K H v d) : ∀ k : Nat, DpAll K H (List.replicate k [v]).flatten (List.replicate k d)
  | 0 => .nil
  | k + 1 => by
    rw [List.replicate_succ, List.replicate_succ, List.flatten_cons]
    exact .cons h (dp_rep h k)
theorem sides_d (l : List Sd) : SeqAt.shaped (.list (l.map sdD)) = true ∧ PyData.eqv (.list (l.map sdD)) (.list (l.map sdD)) = true := by
  have a := can_map sdD (fun x => (sd_d x).1) l
  have b := dep_map sdD (fun x => (sd_d x).2.1) l
  have c := eqv_map sdD (fun x => (sd_d x).2.2) l
  refine ⟨?_, by simp [PyData.eqv, c]⟩
  simp only [SeqAt.shaped, PyData.canLay0, PyData.depth, a, Bool.true_and]
  exact decide_eq_true (by omega)
theorem paired_rev {α β : Type} {F : α → β → Prop} : ∀ {a : List α} {b : List β}, Paired F a b → Paired F a.reverse b.reverse
  | _, _, .nil => .nil
  | _, _, .cons r t => by
    rw [List.reverse_cons, List.reverse_cons]
    exact paired_app (paired_rev t) (paired_one r)
section
variable {P : Program} {w : World} {K : PySem.W.Frag} {mg : Str → Option Value} {base : Heap}
abbrev N_law_at_once_right : List Str := ["_law_source_here", "_law_board_here", "_law_numbers", "_law_text", "_law_many", "_law_met", "_law_sheet", "_law_texts", "_law_turn", "_law_hand", "_law_made", "_law_number", "_law_back"]
theorem sc_law_at_once_right : FnScope N_law_at_once_right ["_law_source_here", "_law_board_here", "_law_numbers", "_law_text", "_law_many"] (defScope s_law_at_once_right) := ⟨rfl, rfl, rfl, by decide +kernel, rfl, by decide +kernel, by decide +kernel⟩
def spAtOnce (K : PySem.W.Frag) : Sp := fun vs H Q _ => ∃ (s tb l tx : Addr) (n : Nat) (ns text : List Int), vs = [.ref s, .ref tb, .ref l, .ref tx, .int n] ∧ SrcAt H s ∧ TbAt K (hid [s] H) tb (fun x => x ∈ ns) ∧ H l = some (.lst (ns.map V.int)) ∧ ns.length = 12 ∧ s ≠ l ∧ H tx = some (.lst (text.map V.int)) ∧ s ≠ tx ∧ (∀ x ∈ text, x ∈ ns) ∧ text.length ≤ 5 ∧ 1 ≤ n ∧ n ≤ 4 ∧ ∀ H', Q (.bl true) H'
theorem ok_at_once (T : Txt K mg) : FnR P w K mg base CX0 9 (He.ga K "_law_at_once_right") (spAtOnce K) := by
  have G_law_next := ok_next (P := P) (w := w) (base := base) T
  have G_law_deeds := ok_deeds (P := P) (w := w) (base := base) T
  have G_Change := ok_Change_init (P := P) (w := w) (base := base) T
  have G_Change_eq := ok_Change_eq (P := P) (w := w) (base := base) T
  have G_Meeting := ok_Meeting_init (P := P) (w := w) (base := base) T
  have G_Meeting_story := ok_Meeting_story (P := P) (w := w) (base := base) T
  have G_Meeting_do := ok_Meeting_do (P := P) (w := w) (base := base) T
  have G_Meeting_up := ok_Meeting_up (P := P) (w := w) (base := base) T
  have G_Meeting_down := ok_Meeting_down (P := P) (w := w) (base := base) T
  have G_Meeting_text := ok_Meeting_text (P := P) (w := w) (base := base) T
  have G_Meeting_waiting := ok_Meeting_waiting (P := P) (w := w) (base := base) T
  have G_Meeting_middle := ok_Meeting_middle (P := P) (w := w) (base := base) T
  have G_Sheet := ok_Sheet_init (P := P) (w := w) (base := base) T
  have G_Sheet_change := ok_Sheet_change (P := P) (w := w) (base := base) T
  have G_Sheet_text := ok_Sheet_text (P := P) (w := w) (base := base) T
  have G_Sheet_undo := ok_Sheet_undo (P := P) (w := w) (base := base) T
  refine fnr_of T.d_law_at_once_right sc_law_at_once_right (fun vs H Q E h => ?_) (fun _ _ _ _ _ _ us hl => match us, hl with | [_, _, _, _, _], _ => rfl) (fun cdv A outer s H vs Q E hr h => ?_)
  · obtain ⟨s, tb, l, tx, n, ns, text, rfl, _⟩ := h
    rfl
  · obtain ⟨sr, tb, l, tx, n, ns, text, rfl, hs, hT, hl, hn, sl, htx, stx, hmem, htl, n1, n4, k⟩ := h
    refine ⟨_, (pss_cons (ps_asg (pe_tup (pa_cons (StX.pe_makeR T.mk_Meeting G_Meeting (hr.mono (by decide)) (by rfl) T.c_Meeting pass0 (pa_cons (pv 1) (pa_cons (pv 3) (pa_cons (pv 4) pa_nil)))) (pa_cons (StX.pe_makeR T.mk_Sheet G_Sheet (hr.mono (by decide)) (by rfl) T.c_Sheet pass0 (pa_cons (pv 1) (pa_cons (pv 3) pa_nil))) pa_nil))) (pg_tup rfl (pgs_cons (pg_name (i := 5) sc_law_at_once_right.nd rfl (Or.inr rfl)) (pgs_cons (pg_name (i := 6) sc_law_at_once_right.nd rfl (Or.inl rfl)) pgs_nil))))
      (pss_cons (ps_set (i := 7) sc_law_at_once_right.nd rfl (Or.inl rfl) (pe_lst (pa_cons (pe_callTy call_list_of (by rfl) T.g_list (by decide +kernel) (pa_cons (pv 3) pa_nil)) pa_nil)))
      (pss_cons (ps_for PassesOwn.never rfl (pi_range1 (by rfl) T.g_range (pa_cons (pe_op op_add pe_int (pe_callF G_law_next (hr.mono (by decide)) T.f_law_next T.kp_law_next (pa_cons (pv 0) (pa_cons pe_int pa_nil)))) pa_nil)) (pg_name (i := 8) sc_law_at_once_right.nd rfl (Or.inl rfl)) (pss_cons (ps_set (i := 9) sc_law_at_once_right.nd rfl (Or.inl rfl) (pe_callF G_law_next (hr.mono (by decide)) T.f_law_next T.kp_law_next (pa_cons (pv 0) (pa_cons (pv 4) pa_nil))))
      (pss_cons (ps_set (i := 10) sc_law_at_once_right.nd rfl (Or.inl rfl) (StX.pe_makeR T.mk_Change G_Change (hr.mono (by decide)) (by rfl) T.c_Change pass0 (pa_cons (pe_op op_rep (pe_callF G_law_deeds (hr.mono (by decide)) T.f_law_deeds T.kp_law_deeds (pa_cons (pv 0) (pa_cons (pv 2) (pa_cons (pe_callB call_len_seq (by rfl) T.g_len (by decide +kernel) (pa_cons (pe_ix ix_list (pv 7) (pe_un un_neg pe_int) (fun _ _ => rfl)) pa_nil)) pa_nil)))) (pe_callTy call_int1 (by rfl) T.g_int (by decide +kernel) (pa_cons (pe_cmpR op_lt (pe_callB call_len_seq (by rfl) T.g_len (by decide +kernel) (pa_cons (pe_ix ix_list (pv 7) (pe_un un_neg pe_int) (fun _ _ => rfl)) pa_nil)) pe_int (nomark _)) pa_nil))) pa_nil)))
      (pss_cons (ps_expr (pe_methR (pv 5) T.k_Meeting T.m_Meeting_do G_Meeting_do (hr.mono (by decide)) pass0 (pa_cons (pv 9) (pa_cons (pv 10) pa_nil))))
      (pss_cons (ps_expr (pe_methR (pv 6) T.k_Sheet T.m_Sheet_change G_Sheet_change (hr.mono (by decide)) pass0 (pa_cons (pv 10) pa_nil)))
      (pss_cons (ps_expr (pe_methR (pv 5) T.k_Meeting T.m_Meeting_up G_Meeting_up (hr.mono (by decide)) pass0 (pa_cons (pv 9) pa_nil)))
      (pss_cons (ps_for PassesOwn.never rfl (pi_range1 (by rfl) T.g_range (pa_cons (pv 4) pa_nil)) (pg_name (i := 11) sc_law_at_once_right.nd rfl (Or.inl rfl)) (pss_one (ps_expr (pe_methR (pv 5) T.k_Meeting T.m_Meeting_down G_Meeting_down (hr.mono (by decide)) pass0 (pa_cons (pv 11) pa_nil)))))
      (pss_cons (ps_expr (pe_bm PySem.F.plainAttrs_list PySem.F.slot_list_append PySem.F.type_list_append mt_append (pv 7) (pa_cons (pe_methR0 (pv 6) T.k_Sheet T.m_Sheet_text G_Sheet_text (hr.mono (by decide))) pa_nil)))
      (C8.pss_cut (ps_if (PW.pt (pw_or (pt_cmpR op_ne (pe_ix ix_tup (pe_ix ix_list (pe_methR0 (pv 5) T.k_Meeting T.m_Meeting_story G_Meeting_story (hr.mono (by decide))) (pe_un un_neg pe_int) (fun _ _ => rfl)) pe_int (fun _ _ => rfl)) (pv 9) (nomark _)) (pw_or (pt_cmpR (op_neOwn T.ne_Change G_Change_eq (hr.mono (by decide)) pass0) (pe_ix ix_tup (pe_ix ix_list (pe_methR0 (pv 5) T.k_Meeting T.m_Meeting_story G_Meeting_story (hr.mono (by decide))) (pe_un un_neg pe_int) (fun _ _ => rfl)) pe_int (fun _ _ => rfl)) (pv 10) (nomark _)) (pw_or1 (pt_cmpR (op_neD hr.units) (pe_methR0 (pv 5) T.k_Meeting T.m_Meeting_middle G_Meeting_middle (hr.mono (by decide))) (pe_ix ix_list (pv 7) (pe_un un_neg pe_int) (fun _ _ => rfl)) (nomark _)))))) (pss_one (ps_ret pe_bl)) pss_nil)
      (pss_one (ps_if (pt_cmpR (op_neD hr.units) (pe_lc (own := [("_law_number", 11)]) (te := tTup (tCons (tMethR (He.ga K "Meeting") "text" (spText K) E0 (tVar 5) (tCons (tVar 11) tNil)) (tCons (tMethR (He.ga K "Meeting") "waiting" (spWaiting K) E0 (tVar 5) (tCons (tVar 11) tNil)) tNil))) rfl sc_law_at_once_right.nd (pi_range1 (by rfl) T.g_range (pa_cons (pv 4) pa_nil)) (blkOk_by (own := [("_law_number", 11)]) (N := N_law_at_once_right) (sc := defScope s_law_at_once_right) (by decide +kernel)) (fun _ _ _ _ _ => (pg_name (i := 11) sc_law_at_once_right.nd rfl (Or.inl rfl) (Or.inr rfl))) (fun _ _ _ _ _ => pts_nil) (fun _ _ _ _ _ => (pe_tup (pa_cons (pe_methR (pv 5) T.k_Meeting T.m_Meeting_text G_Meeting_text (hr.mono (by decide)) pass0 (pa_cons (pv 11) pa_nil)) (pa_cons (pe_methR (pv 5) T.k_Meeting T.m_Meeting_waiting G_Meeting_waiting (hr.mono (by decide)) pass0 (pa_cons (pv 11) pa_nil)) pa_nil))))) (pe_op op_rep (pe_lst (pa_cons (pe_tup (pa_cons (pe_ix ix_list (pv 7) (pe_un un_neg pe_int) (fun _ _ => rfl)) (pa_cons (pe_tup (pa_cons pe_int (pa_cons pe_int pa_nil))) pa_nil))) pa_nil)) (pv 4)) (nomark _)) (pss_one (ps_ret pe_bl)) pss_nil)))))))))))
      (pss_cons (ps_for PassesOwn.never rfl (pi_list (pe_slice sl_list (pe_revL (pv 7)) (po_some pe_int) po_none)) (pg_name (i := 12) sc_law_at_once_right.nd rfl (Or.inl rfl)) (pss_cons (ps_expr (pe_methR0 (pv 6) T.k_Sheet T.m_Sheet_undo G_Sheet_undo (hr.mono (by decide))))
      (pss_one (ps_if (pt_cmpR (op_neD hr.units) (pe_methR0 (pv 6) T.k_Sheet T.m_Sheet_text G_Sheet_text (hr.mono (by decide))) (pv 12) (nomark _)) (pss_one (ps_ret pe_bl)) pss_nil))))
      (pss_one (ps_ret pe_bl)))))), ?_⟩
    refine ⟨_, rfl, _, rfl, _, rfl, fun m dm m0 dm0 mne => ?_⟩
    refine ⟨m, dm, tb, tx, text, n, _, H, rfl, m0, dm0, mne, rfl, hT.mono hid_same, htx, by omega, hmem, n1, n4, fun H1 Fm s1 fm gm => ⟨rfl, ?_⟩⟩
    refine ⟨_, rfl, _, rfl, fun sh ds h0 ds0 sne => ?_⟩
    refine ⟨sh, ds, tb, tx, text, _, H1, rfl, h0, ds0, sne, rfl, (hT.mono hid_same).mono s1, s1 _ _ htx, by omega, hmem, fun H2 Fs s2 fs gs => ⟨rfl, ?_⟩⟩
    refine ⟨sz5 (by show 2 ≤ 100000; decide), fun p p0 => ?_⟩
    refine ⟨p, _, rfl, SqT.of upd_same, rfl, ?_⟩
    refine ⟨_, _, rfl, _, _, rfl, rfl, ?_⟩
    have s3 : Same H2 (upd H2 p (.tup [.ref m, .ref sh])) := same_new p0
    generalize upd H2 p (.tup [.ref m, .ref sh]) = H3 at s3 ⊢
    have s03 : Same H H3 := s1.trans (s2.trans s3)
    refine ⟨_, rfl, tx, _, rfl, .inl (SqL.of (s03 _ _ htx)), fun a a0 => ?_⟩
    refine ⟨sz5 (by show 1 ≤ 100000; decide), fun tl t0 => ?_⟩
    have s4 : Same H3 (upd H3 a (.lst (text.map V.int))) := same_new a0
    have ha4 : (upd H3 a (.lst (text.map V.int))) a = some (.lst (text.map V.int)) := upd_same
    have atl : a ≠ tl := ne_of_none ha4 t0
    have t03 : H3 tl = none := by
      cases q : H3 tl with
      | none => rfl
      | some o => have := s4 _ _ q; rw [t0] at this; cases this
    have s5 := s4.trans (same_new (o := .lst [.ref a]) t0)
    have A0 : AO K H (upd (upd H3 a (.lst (text.map V.int))) tl (.lst [.ref a])) sr m sh tb tl Fm Fs (Mt.new text n) text [] [text] :=
      AO.init hs s1 fm gm s2 fs gs (s3.trans s5) (by
        cases q : H2 a with
        | none => rfl
        | some o => have := s3 _ _ q; rw [a0] at this; cases this) (by
        cases q : H2 tl with
        | none => rfl
        | some o => have := s3 _ _ q; rw [t03] at this; cases this) atl (by rw [upd_ne atl]; exact ha4) upd_same
    generalize upd (upd H3 a (.lst (text.map V.int))) tl (.lst [.ref a]) = H4 at A0 ⊢
    clear s1 s2 s3 s4 s5 gm gs fm fs ha4 m0 dm0 mne h0 ds0 sne p0 a0 t0 t03 s03 atl
    have ok0 : MOk (fun x => x ∈ ns) text 0 n (Mt.new text n) := MOk.new hmem (by omega) n
    have sy0 : Sync n (Mt.new text n) := Sync.new text n
    -- everything that stays
    have old : ∀ {H' : Hp} {Fm' Fs' : List Addr}, Stp H [sr] H' (aoF sr tl Fm' Fs') → Same (hid [sr] H) (aoI sr tl Fm' Fs' H H') := fun S => S.mono hid_same hid_none
    refine ⟨_, rfl, sr, 4, rfl, A0.src, by decide, by decide, fun r x y z r0 r4 => ?_⟩
    obtain ⟨kt, rfl⟩ := Int.eq_ofNat_of_zero_le r0
    obtain ⟨A1, z1⟩ := A0.but (H2 := upd H4 sr (.lst [.int x, .int y, .int z])) but_upd ⟨_, _, _, upd_same⟩
    generalize upd H4 sr (.lst [.int x, .int y, .int z]) = H5 at A1 ⊢
    clear A0 z1
    refine ⟨_, _, rfl, rfl, 1 + kt, by simp, by omega, by omega, ?_⟩
    refine for_range (fun i σ1 H6 => ∃ v8 v9 v10 v11 Fm Fs M row olds, σ1 = [some (.ref sr), some (.ref tb), some (.ref l), some (.ref tx), some (.int n), some (.ref m), some (.ref sh), some (.ref tl), v8, v9, v10, v11, none] ∧ AO K H H6 sr m sh tb tl Fm Fs M row olds (olds ++ [row]) ∧ MOk (fun x => x ∈ ns) text (6 * i) n M ∧ Sync n M ∧ M.row = row ∧ olds.length ≤ i) ⟨none, none, none, none, Fm, Fs, _, _, [], rfl, A1, ok0, sy0, rfl, Nat.le_refl _⟩ ?_ ?_
    · rintro i σ1 H6 hi ⟨v8, v9, v10, v11, Fm, Fs, M, row, olds, rfl, A, ok, sy, erow, eol⟩
      refine ⟨_, rfl, _, rfl, sr, n, rfl, A.src, by omega, by omega, fun hd x y z h0 hn' => ?_⟩
      obtain ⟨hd, rfl⟩ := Int.eq_ofNat_of_zero_le h0
      obtain ⟨A1, z1⟩ := A.but (H2 := upd H6 sr (.lst [.int x, .int y, .int z])) but_upd ⟨_, _, _, upd_same⟩
      generalize upd H6 sr (.lst [.int x, .int y, .int z]) = H7 at A1 z1 ⊢
      have e30 : i ≤ 3 := by omega
      obtain ⟨σ, hσ⟩ := ok.get (i := hd) (by omega)
      have st0 := sy.all σ (List.mem_of_getElem? hσ)
      have rz := ok.rz
      rw [erow] at rz
      obtain ⟨its7, a7, e7, ea7⟩ := A1.last
      refine ⟨_, rfl, _, rfl, _, rfl, _, rfl, tl, _, _, _, rfl, rfl, SqL.of e7, atI_last _ _, a7, _, rfl, .inl (SqL.of (A1.sJ _ _ ea7)), ?_⟩
      refine ⟨sr, l, ns, row.length, by rw [List.length_map], A1.src, A1.S.fr l _ (by simp [Ne.symm sl]) hl, hn, sl, by omega, fun H8 p its rows b8 src8 p0 hp hrows hnd hpt hpm hrl => ?_⟩
      obtain ⟨A2, z2⟩ := A1.but b8 src8
      obtain ⟨its8, a8, e8, ea8⟩ := A2.last
      refine ⟨_, rfl, _, rfl, tl, _, _, _, rfl, rfl, SqL.of e8, atI_last _ _, a8, _, rfl, .inl (SqL.of (A2.sJ _ _ ea8)), ?_⟩
      refine ⟨_, _, rfl, rfl, .inr ⟨_, rfl, ?_⟩⟩
      -- the rows: these or none
      obtain ⟨kk, rows2, its2, ekk, kk0, kk1, efl, hrows2, hnd, hpt, hpm, hrl⟩ : ∃ (kk : Int) (rows2 : List Rw) (its2 : List V), (if decide (((row.map V.int).length : Int) < 8) = true then (1 : Int) else 0) = kk ∧ 0 ≤ kk ∧ kk ≤ 1 ∧ (List.replicate kk.toNat its).flatten = its2 ∧ RowsAt (newIn H7 H8) its2 rows2 ∧ nd rows2 ≤ row.length ∧ (puts rows2).length ≤ 10 ∧ (∀ x ∈ puts rows2, x ∈ ns) ∧ rows2.length ≤ 11 := by
        by_cases q : ((row.map V.int).length : Int) < 8
        · rw [if_pos (decide_eq_true q)]
          exact ⟨1, rows, its, rfl, by decide, by decide, by simp, hrows, hnd, hpt, hpm, hrl⟩
        · rw [if_neg (by simpa using q)]
          exact ⟨0, [], [], rfl, by decide, by decide, by simp, .nil, by simp [nd], by simp [puts], by simp [puts], by simp⟩
      rw [ekk]
      have itl : its.length ≤ 11 := by rw [paired_len hrows]; omega
      refine ⟨p, kk, its, rfl, rfl, hp, by omega, by omega, sz5 (Nat.le_trans (Nat.mul_le_mul itl (show kk.toNat ≤ 1 by omega)) (by decide)), fun p2 p20 => ?_⟩
      rw [efl]
      have s82 := same_new (o := HO.lst its2) p20
      obtain ⟨A3, z3⟩ := A2.pure s82
      refine fun c dc c0 dc0 cne => ?_
      refine mk_changeR (H1 := upd H8 p2 (.lst its2)) upd_same (RowsAt.mono (newIn_same.trans s82) hrows2) (by omega) c dc c0 dc0 cne fun H9 s9 c0' hc => ?_
      obtain ⟨A4, z4⟩ := A3.pure s9
      have hc4 := hc.mono (A3.fresh (H2 := H9))
      have eI2 : ∀ b o, hid [sr] H b = some o → True := fun _ _ _ => trivial
      generalize upd H8 p2 (.lst its2) = H8' at A3 s9 z4 s82 c0 dc0 hc c0' z3
      obtain ⟨gc, gn⟩ := gc_of (S := fun x => x ∈ ns) (by omega) hpt hpm
      have smr := st0.row
      rw [erow] at smr
      -- met.do(hand, made)
      obtain ⟨dm, mr, msl, mdl, hm4, _⟩ := A4.met.ob
      refine ⟨_, rfl, m, dm, _, rfl, hm4, rfl, _, rfl, _, rfl, ?_⟩
      have sk := ok.ss σ (List.mem_of_getElem? hσ)
      have gcl := gc.len
      have gcf := gc.few
      refine ⟨m, tb, c, Fm, M, _, fun x => x ∈ ns, hd, σ, inG rows2, rfl, A4.inM, hT.mono (old A4.S), hσ, hc4, by rw [smr]; omega, by omega, by rw [smr]; omega, by omega, by rw [st0.own]; simp, by rw [st0.frm]; simp, by rw [smr]; exact mem_done _ gc.sgn (by rw [← erow]; exact ok.row), fun H10 Fm2 S5 g5 => ?_⟩
      obtain ⟨A5, z5⟩ := A4.stepM S5 g5
      have hc5 := hc4.mono z5
      -- sheet.change(made)
      obtain ⟨sdx, srr, sdl, spd, sah, hsh, _⟩ := A5.sht.ex
      refine ⟨_, rfl, sh, sdx, _, rfl, hsh, rfl, _, rfl, ?_⟩
      refine ⟨sh, tb, c, Fs, row, olds, _, fun x => x ∈ ns, inG rows2, rfl, A5.inS, hT.mono (old A5.S), hc5, by omega, by omega, by omega, by omega, mem_done _ gc.sgn (by rw [← erow]; exact ok.row), by omega, fun H11 S6 g6 => ?_⟩
      obtain ⟨A6, z6⟩ := A5.stepS S6 g6
      have hc6 := hc5.mono z6
      have ok1 := ok.did hσ gc (by rw [smr]; omega)
      obtain ⟨sk0, est, σ1, hσ1, hf1⟩ := sy.up (h := hd) (c := inG rows2) (by omega)
      have ok2 := ok1.up hσ1 hf1
      -- met.up(hand)
      obtain ⟨dm2, mr2, msl2, mdl2, hm6, _⟩ := A6.met.ob
      have so1 := ok1.sides σ1 (List.mem_of_getElem? hσ1)
      obtain ⟨gcT, gnT, c1, k1, F01, ef1⟩ := so1.first hf1
      refine ⟨_, rfl, m, dm2, _, rfl, hm6, rfl, _, rfl, ?_⟩
      refine ⟨m, tb, Fm2, M.did hd (inG rows2), _, fun x => x ∈ ns, hd, σ1, c1, k1, F01, rfl, A6.inM, hσ1, ef1, so1.frm (c1, k1) (by rw [ef1]; simp), so1.uns, gcT, gnT, by have := ok1.rz; omega, by have := ok1.sz; omega, fun t ht => ⟨by have := (ok1.ss t ht).uns; omega, by have := (ok1.ss t ht).to; omega⟩, by rw [ok1.cnt]; exact n4, fun H12 Fm3 S7 g7 => ?_⟩
      obtain ⟨A7, z7⟩ := A6.stepM S7 g7
      have hc7 := hc6.mono z7
      refine ⟨_, rfl, n, rfl, by omega, by omega, ?_⟩
      refine for_range (fun j σ2 H13 => ∃ v11 Fm M7, σ2 = [some (.ref sr), some (.ref tb), some (.ref l), some (.ref tx), some (.int n), some (.ref m), some (.ref sh), some (.ref tl), some (.int (0 + (i : Nat))), some (.int hd), some (.ref c), v11, none] ∧ AO K H H13 sr m sh tb tl Fm Fs M7 (doneG (inG rows2) row) (olds ++ [row]) (olds ++ [row]) ∧ MOk (fun x => x ∈ ns) text (6 * i + 2 + j) n M7 ∧ SyncK n row (inG rows2) hd j M7 ∧ M7.story = M.story ++ [(hd, inG rows2)] ∧ ChAt K (aoI sr tl Fm Fs H H13) c (inG rows2)) ⟨v11, Fm3, _, rfl, A7, ok2, by rw [← erow]; exact sk0, est, hc7⟩ ?_ ?_
      · rintro j σ2 H13 hj ⟨w11, Fm4, M7, rfl, A8, ok8, sk8, est8, hc8⟩
        obtain ⟨sk9, est9, σ9, hσ9, hf9⟩ := sk8.down hj
        have ok9 := ok8.down hσ9
        have so9 := ok8.sides σ9 (List.mem_of_getElem? hσ9)
        have ss9 := ok8.ss σ9 (List.mem_of_getElem? hσ9)
        obtain ⟨dm3, mr3, msl3, mdl3, hm8, _⟩ := A8.met.ob
        refine ⟨_, rfl, m, dm3, _, rfl, hm8, rfl, _, rfl, ?_⟩
        refine ⟨m, tb, Fm4, M7, _, fun x => x ∈ ns, j, σ9, by simp, A8.inM, hσ9, hf9, fun T e => so9.own_none e, fun c T e => so9.to_some e, so9.own, by have := ss9.own; omega, by have := ss9.row; omega, fun H14 Fm5 S9 g9 => ?_⟩
        obtain ⟨A9, z9⟩ := A8.stepM S9 g9
        exact ⟨_, Fm5, _, rfl, A9, ok9, sk9, by rw [est9]; exact est8, hc8.mono z9⟩
      · rintro σ2 H13 ⟨w11, Fm4, M7, rfl, A8, ok8, sk8, est8, hc8⟩
        have sy9 := sk8.sync
        -- texts.append(sheet.text())
        obtain ⟨sdx, srr, sdl, spd, sah, hsh, _⟩ := A8.sht.ex
        obtain ⟨refs, hrefs, hprefs⟩ := A8.txt
        refine ⟨_, rfl, .inl ⟨rfl, _, SqL.of hrefs⟩, _, rfl, sh, sdx, _, rfl, hsh, rfl, sh, tb, Fs, _, _, _, rfl, A8.inS, fun q q0 => ?_⟩
        have sq := same_new (o := HO.lst ((doneG (inG rows2) row).map V.int)) q0
        obtain ⟨A9, z9⟩ := A8.pure sq
        refine ⟨tl, refs, _, rfl, rfl, sq _ _ hrefs, sl5 (by rw [paired_len hprefs]; simp; omega), ?_⟩
        have hq9 := A8.fresh (H2 := upd H13 q (.lst ((doneG (inG rows2) row).map V.int))) q _ (newIn_get q0 upd_same)
        obtain ⟨A10, z10⟩ := A9.stepT (sq _ _ hrefs) hq9
        have hc10 := (hc8.mono z9).mono z10
        generalize upd (upd H13 q (.lst ((doneG (inG rows2) row).map V.int))) tl (.lst (refs ++ [.ref q])) = H15 at A10 hc10 ⊢
        refine ⟨fun σ' H' => σ' = [some (.ref sr), some (.ref tb), some (.ref l), some (.ref tx), some (.int n), some (.ref m), some (.ref sh), some (.ref tl), some (.int (0 + (i : Nat))), some (.int hd), some (.ref c), w11, none] ∧ AO K H H' sr m sh tb tl Fm4 Fs M7 (doneG (inG rows2) row) (olds ++ [row]) (olds ++ [row] ++ [doneG (inG rows2) row]), ?_, ?_⟩
        · -- story()[-1][0] != hand
          obtain ⟨dm4, mr4, msl4, mdl4, hm10, _⟩ := A10.met.ob
          refine ⟨_, rfl, m, dm4, _, rfl, hm10, rfl, m, tb, Fm4, M7, _, rfl, A10.inM, fun q1 its1 q10 hp1 => ?_⟩
          rw [est8] at hp1
          obtain ⟨i0, v, rfl, _, t1, c1', rfl, ht1, hc1'⟩ := paired_snoc hp1
          have s1q := same_new (o := HO.lst (i0 ++ [.ref t1])) q10
          obtain ⟨A11, z11⟩ := A10.pure s1q
          refine ⟨_, rfl, q1, _, _, _, rfl, rfl, SqL.of upd_same, atI_last _ _, t1, _, _, _, rfl, rfl, SqT.of (s1q _ _ (A10.sJ _ _ ht1)), atI_nat (j := 0) rfl, _, rfl, ?_⟩
          refine ⟨rfl, false, by simp, iteF ?_⟩
          generalize upd H15 q1 (.lst (i0 ++ [.ref t1])) = H16 at A11 z11 ⊢
          have hc11 := hc10.mono z11
          clear hp1 s1q q10 hm10 ht1 hc1'
          -- story()[-1][1] != made
          obtain ⟨dm5, mr5, msl5, mdl5, hm11, _⟩ := A11.met.ob
          refine ⟨_, rfl, m, dm5, _, rfl, hm11, rfl, m, tb, Fm4, M7, _, rfl, A11.inM, fun q1 its1 q10 hp1 => ?_⟩
          rw [est8] at hp1
          obtain ⟨i0, v, rfl, _, t1, c1', rfl, ht1, hc1'⟩ := paired_snoc hp1
          have s1q := same_new (o := HO.lst (i0 ++ [.ref t1])) q10
          obtain ⟨A12, z12⟩ := A11.pure s1q
          refine ⟨_, rfl, q1, _, _, _, rfl, rfl, SqL.of upd_same, atI_last _ _, t1, _, _, _, rfl, rfl, SqT.of (s1q _ _ (A11.sJ _ _ ht1)), atI_nat (j := 1) rfl, _, rfl, ?_⟩
          have hcA := (hc1'.mono z12).mono A12.sJ
          have hcB := (hc11.mono z12).mono A12.sJ
          obtain ⟨cA1, cA2, cA3, hcA1, _⟩ := id hcA
          obtain ⟨cB1, cB2, cB3, hcB1, _⟩ := id hcB
          refine ⟨_, _, _, _, _, _, rfl, rfl, hcA1, hcB1, c1', c, inG rows2, rfl, hcA, hcB, true, rfl, false, rfl, iteF ?_⟩
          generalize upd H16 q1 (.lst (i0 ++ [.ref t1])) = H17 at A12 z12 ⊢
          clear hp1 s1q q10 hm11 ht1 hc1' hcA hcB hcA1 hcB1
          -- middle() != texts[-1]
          obtain ⟨dm6, mr6, msl6, mdl6, hm12, _⟩ := A12.met.ob
          refine ⟨_, rfl, m, dm6, _, rfl, hm12, rfl, m, tb, Fm4, M7, _, rfl, A12.inM, fun q1 q10 => ?_⟩
          rw [sk8.row]
          have s1q := same_new (o := HO.lst ((doneG (inG rows2) row).map V.int)) q10
          obtain ⟨A13, z13⟩ := A12.pure s1q
          obtain ⟨its13, a13, e13, ea13⟩ := A13.last
          refine ⟨_, rfl, _, rfl, tl, _, _, _, rfl, rfl, SqL.of e13, atI_last _ _, intsD (doneG (inG rows2) row), intsD (doneG (inG rows2) row), dp_intsD upd_same, dp_intsD (A13.sJ _ _ ea13), shp_ints _, shp_ints _, ?_⟩
          rw [(ints_d (doneG (inG rows2) row)).2.2]
          exact ⟨false, rfl, iteF ⟨rfl, A13⟩⟩
        · rintro σ' H16 ⟨rfl, A11⟩
          -- [(text, waiting) ..] != [(texts[-1], (0, 0))] * many
          refine ⟨_, rfl, _, rfl, by omega, by omega, fun D hD => ?_⟩
          refine lc_range0 (fun i H1 => Same H16 H1 ∧ ∃ acc, H1 D = some (.lst acc) ∧ acc.length = i ∧ DpAll K (hid [D] H1) acc ((M7.sides.take i).map sdD)) ⟨same_new hD, [], upd_same, rfl, .nil⟩ (fun j H1 hj e => ?_) (fun H1 e => ?_)
          · obtain ⟨s1, acc, hD1, ha, hdp⟩ := e
            have hj : j < n := by simpa using hj
            obtain ⟨σ9, hσ9⟩ : ∃ σ9, M7.sides[j]? = some σ9 := ⟨_, List.getElem?_eq_getElem (by rw [ok8.cnt]; exact hj)⟩
            obtain ⟨B1, y1⟩ := A11.pure s1
            obtain ⟨dx, r, sl', dn, hm, _⟩ := B1.met.ob
            refine ⟨rfl, _, rfl, m, dx, _, rfl, hm, rfl, _, rfl, m, tb, Fm4, M7, _, j, σ9, by simp, B1.inM, hσ9, fun a a0 => ?_⟩
            have sa := same_new (o := .lst (σ9.row.map V.int)) a0
            obtain ⟨B2, y2⟩ := B1.pure sa
            obtain ⟨dx2, r2, sl2, dn2, hm2, _⟩ := B2.met.ob
            refine ⟨_, rfl, m, dx2, _, rfl, hm2, rfl, _, rfl, m, tb, Fm4, M7, _, j, σ9, by simp, B2.inM, hσ9, fun t t0 => ⟨(by show 2 ≤ sizeLine; decide), fun p p0 => ?_⟩⟩
            have st := same_new (o := .tup [.int (σ9.frm.length : Nat), .int (σ9.to.length : Nat)]) t0
            have sp := same_new (o := .tup [V.ref a, V.ref t]) p0
            have s14 := (sa.trans st).trans sp
            have hD4 := s14 _ _ hD1
            refine ⟨acc, hD4, sl5 (by omega), fun b o e => ?_, _, upd_same, by rw [List.length_append, ha]; rfl, ?_⟩
            · rw [upd_ne (ne_of_none e hD)]
              exact s14 _ _ (s1 _ _ e)
            · have aD : a ≠ D := (ne_of_none hD1 a0).symm
              have tD : t ≠ D := (ne_of_none (sa _ _ hD1) t0).symm
              have pD : p ≠ D := (ne_of_none ((sa.trans st) _ _ hD1) p0).symm
              have put : ∀ {b o}, b ≠ D → (upd (upd (upd H1 a (.lst (σ9.row.map V.int))) t (.tup [.int (σ9.frm.length : Nat), .int (σ9.to.length : Nat)])) p (.tup [V.ref a, V.ref t])) b = some o → hid [D] (upd (upd (upd (upd H1 a (.lst (σ9.row.map V.int))) t (.tup [.int (σ9.frm.length : Nat), .int (σ9.to.length : Nat)])) p (.tup [V.ref a, V.ref t])) D (.lst (acc ++ [.ref p]))) b = some o := fun n e => hid_get (by rw [upd_ne n]; exact e) (by simpa using n)
              rw [take_succ_get hσ9, List.map_append]
              refine dpAll_app (dpAll_mono (fun b o e => ?_) hdp) (dpAll_one ?_)
              · obtain ⟨e1, n1⟩ := of_hid e
                exact put (by simpa using n1) (s14 _ _ e1)
              · exact .tup (SqT.of (put pD upd_same)) (.cons (dp_intsD (put aD ((st.trans sp) _ _ upd_same))) (.cons (.tup (SqT.of (put tD (sp _ _ upd_same))) (.cons (.int _) (.cons (.int _) .nil))) .nil))
          obtain ⟨s1, acc, hD1, ha, hdp⟩ := e
          rw [show (n : Int).toNat = n from by simp, ← ok8.cnt, List.take_of_length_le (Nat.le_refl _)] at hdp
          have hdp := dpAll_mono hid_same hdp
          obtain ⟨B1, y1⟩ := A11.pure s1
          obtain ⟨its9, a9, e9, ea9⟩ := B1.last
          refine ⟨_, rfl, _, rfl, tl, _, _, _, rfl, rfl, SqL.of e9, atI_last _ _, (by show 2 ≤ sizeLine; decide), fun t1 t10 => ⟨(by show 2 ≤ sizeLine; decide), fun t2 t20 => ⟨(by show 1 ≤ sizeLine; decide), fun t3 t30 => ⟨_, rfl, t3, n, _, rfl, rfl, upd_same, by omega, by omega, sz5 (by simp; omega), fun t4 t40 => ?_⟩⟩⟩⟩
          have w1 := same_new (o := .tup [V.int 0, V.int 0]) t10
          have w2 := same_new (o := .tup [V.ref a9, V.ref t1]) t20
          have w3 := same_new (o := .lst [V.ref t2]) t30
          have w4 := same_new (o := .lst (List.replicate (n : Int).toNat [V.ref t2]).flatten) t40
          obtain ⟨B2, y2⟩ := B1.pure (((w1.trans w2).trans w3).trans w4)
          have d1 := SqL.of (K := K) ((((w1.trans w2).trans w3).trans w4) _ _ hD1)
          have d2 := dpAll_mono (((w1.trans w2).trans w3).trans w4) hdp
          have q1 : Dp K (upd (upd (upd (upd H1 t1 (.tup [V.int 0, V.int 0])) t2 (.tup [V.ref a9, V.ref t1])) t3 (.lst [V.ref t2])) t4 (.lst (List.replicate (n : Int).toNat [V.ref t2]).flatten)) (.ref t2) (sdD (Sd.new (doneG (inG rows2) row))) :=
            .tup (SqT.of ((w3.trans w4) _ _ upd_same)) (.cons (dp_intsD (B2.sJ _ _ (y2 _ _ ea9))) (.cons (.tup (SqT.of (((w2.trans w3).trans w4) _ _ upd_same)) (.cons (.int _) (.cons (.int _) .nil))) .nil))
          have all9 : M7.sides.map sdD = List.replicate n (sdD (Sd.new (doneG (inG rows2) row))) := by
            rw [← ok8.cnt, ← sk8.row]
            exact still_map sy9.all
          obtain ⟨u1, u2⟩ := sides_d M7.sides
          refine ⟨.list (M7.sides.map sdD), .list (M7.sides.map sdD), .lst d1 d2, .lst (SqL.of upd_same) (by rw [all9]; exact dp_rep q1 n), u1, u1, ?_⟩
          rw [u2]
          exact ⟨false, rfl, iteF ⟨_, _, _, _, Fm4, Fs, M7, _, _, rfl, B2, ok8.more (by omega), sy9, sk8.row, by simp; omega⟩⟩
    · rintro σ1 H6 ⟨v8, v9, v10, v11, Fm, Fs, M, row, olds, rfl, A, ok, sy, erow, eol⟩
      obtain ⟨its, hits, hpr⟩ := A.txt
      obtain ⟨i0, vl, rfl, hp0, al, rfl, hal⟩ := paired_snoc hpr
      have er : (i0 ++ [V.ref al]).reverse = V.ref al :: i0.reverse := by simp
      refine ⟨_, rfl, tl, _, rfl, SqL.of hits, fun p p0 => ⟨_, rfl, p, _, rfl, SqL.of upd_same, fun q q0 => ?_⟩⟩
      have ec : cutV (i0 ++ [V.ref al]).reverse (some 1) none = i0.reverse := by
        rw [show (some 1 : Option Int) = some ((1 : Nat) : Int) from rfl, cut_from', er]
        rfl
      simp only [ec] at q0 ⊢
      have sq := (same_new (o := .lst (i0 ++ [V.ref al]).reverse) p0).trans (same_new (o := .lst i0.reverse) q0)
      have hq : (upd (upd H6 p (.lst (i0 ++ [V.ref al]).reverse)) q (.lst i0.reverse)) q = some (.lst i0.reverse) := upd_same
      have q6 : H6 q = none := (same_new (o := .lst (i0 ++ [V.ref al]).reverse) p0).free q0
      obtain ⟨A1, z1⟩ := A.pure sq
      have hq1 := A.fresh (H2 := upd (upd H6 p (.lst (i0 ++ [V.ref al]).reverse)) q (.lst i0.reverse)) q _ (newIn_get q6 hq)
      have hp1 := Paired.mapP (paired_rev hp0) fun _ _ => TxV.mono z1
      generalize upd (upd H6 p (.lst (i0 ++ [V.ref al]).reverse)) q (.lst i0.reverse) = H7 at A1 hq hq1 hp1 ⊢
      clear z1 sq p0 q0 q6
      have hl0 : i0.reverse.length = olds.length := by rw [List.length_reverse]; exact paired_len hp0
      refine ⟨q, rfl, ⟨_, SqL.of hq⟩, for_list (K := K) (a := q) (xs := i0.reverse) (D := { nx := tRet (tC (.bl true)) { nx := fun _ H' => Q .non H', rt := Q }, rt := Q }) (fun i σ1 H8 => ∃ v12 r, σ1 = [some (.ref sr), some (.ref tb), some (.ref l), some (.ref tx), some (.int n), some (.ref m), some (.ref sh), some (.ref tl), v8, v9, v10, v11, v12] ∧ AO K H H8 sr m sh tb tl Fm Fs M r (olds.take (olds.length - i)) (olds ++ [row]) ∧ (aoI sr tl Fm Fs H H8) q = some (.lst i0.reverse) ∧ Paired (TxV (aoI sr tl Fm Fs H H8)) i0.reverse olds.reverse)
        ⟨none, row, rfl, by rw [Nat.sub_zero, List.take_of_length_le (Nat.le_refl _)]; exact A1, hq1, hp1⟩ (fun i σ1 H8 _ ⟨_, _, _, A8, h8, _⟩ => SqL.of (A8.sJ _ _ h8)) ?_ ?_⟩
      · rintro i x σ1 H8 hi ⟨v12, r, rfl, A8, h8, p8⟩
        have hil : i < olds.length := by rw [← hl0]; exact (List.getElem?_eq_some_iff.mp hi).1
        obtain ⟨old, ho, ab, rfl, hab⟩ := paired_get p8 hi
        rw [List.getElem?_reverse hil] at ho
        have et : olds.take (olds.length - i) = olds.take (olds.length - (i + 1)) ++ [old] := by
          rw [show olds.length - i = (olds.length - (i + 1)) + 1 from by omega]
          exact take_succ_get (by rw [← ho]; congr 1; omega)
        rw [et] at A8
        obtain ⟨sdx, srr, sdl, spd, sah, hsh, _⟩ := A8.sht.ex
        refine ⟨_, rfl, sh, sdx, _, rfl, hsh, rfl, sh, tb, Fs, r, old, _, _, rfl, A8.inS, fun H9 S9 g9 => ?_⟩
        obtain ⟨A9, z9⟩ := A8.stepS S9 g9
        obtain ⟨sdx, srr, sdl, spd, sah, hsh, _⟩ := A9.sht.ex
        refine ⟨_, rfl, sh, sdx, _, rfl, hsh, rfl, sh, tb, Fs, old, _, _, rfl, A9.inS, fun q1 q10 => ?_⟩
        obtain ⟨A10, z10⟩ := A9.pure (same_new (o := .lst (old.map V.int)) q10)
        have hab10 := A10.sJ _ _ (z10 _ _ (z9 _ _ hab))
        refine ⟨_, rfl, intsD old, intsD old, dp_intsD upd_same, dp_intsD hab10, shp_ints _, shp_ints _, ?_⟩
        rw [(ints_d old).2.2]
        exact ⟨false, rfl, iteF ⟨_, _, rfl, A10, z10 _ _ (z9 _ _ h8), Paired.mapP p8 fun _ _ h => (h.mono z9).mono z10⟩⟩
      · rintro σ1 H8 ⟨v12, r, rfl, A8, h8, p8⟩
        exact k _
end
end K94
set_option maxRecDepth 100000
set_option maxHeartbeats 4000000
/-! K94Y0: three meetings side by side, and what is drawn from. -/
namespace K94
open PySem PySem.Spec PyProof.Rows L2
section
variable {K : PySem.W.Frag} {I H H' : Hp} {A A' : List Addr} {m tb s : Addr} {F F' : List Addr} {M M' : Mt}
/-- what another part's step leaves of a meeting -/
theorem MtIn.next (g : MtIn K I H m tb F M) (T : Stp H A H' A') (hA : ∀ b ∈ A, I b = none) (dis : ∀ b ∈ F, b ∉ A) : MtIn K (nextI I H H' A') H' m tb F M ∧ ∀ b ∈ F, b ∉ A' := by
  have th := g.at'.there
  have nA : ∀ b ∈ F, b ∉ A' := fun b hb z => by
    rcases T.fs b z with h | h
    · exact dis b hb h
    · have := th b hb
      rw [h] at this
      cases this
  refine ⟨⟨T.same g.sI hA, fun b hb => ?_, g.at'.mono (T.mono g.sI hA) fun b hb o e => T.fr b o (dis b hb) e⟩, nA⟩
  cases q : nextI I H H' A' b with
  | none => rfl
  | some o =>
    obtain ⟨n, ⟨h1, h2⟩ | ⟨h1, h2⟩⟩ := of_nextI q
    · rw [g.hF b hb] at h1
      cases h1
    · have := th b hb
      rw [h1] at this
      cases this
/-- its own step -/
theorem MtIn.step (g : MtIn K I H m tb F M) (T : Stp H F H' F') (h : MtAt K (nextI I H H' F') H' m tb F' M') : MtIn K (nextI I H H' F') H' m tb F' M' := ⟨T.same g.sI g.hF, T.gone, h⟩
/-- what is drawn from -/
structure SrcIn (I H : Hp) (s : Addr) : Prop where
  src : SrcAt H s
  s0 : I s = none
theorem SrcIn.next (g : SrcIn I H s) (T : Stp H A H' A') (hs : s ∉ A) : SrcIn (nextI I H H' A') H' s ∧ s ∉ A' := by
  obtain ⟨x, y, z, q⟩ := g.src
  refine ⟨⟨⟨x, y, z, T.fr _ _ hs q⟩, ?_⟩, fun z => ?_⟩
  · cases e : nextI I H H' A' s with
    | none => rfl
    | some o =>
      obtain ⟨n, ⟨h1, h2⟩ | ⟨h1, h2⟩⟩ := of_nextI e
      · rw [g.s0] at h1
        cases h1
      · rw [q] at h1
        cases h1
  · rcases T.fs s z with h | h
    · exact hs h
    · rw [q] at h
      cases h
theorem stp_but (b : But s H H') (h : SrcAt H s) (src : SrcAt H' s) : Stp H [s] H' [s] :=
  ⟨fun c o n e => b c o (by simpa using n) e, fun c h => by
    by_cases e : c = s
    · obtain ⟨_, _, _, q⟩ := src
      rw [e, q]
      rfl
    · obtain ⟨o, ho⟩ := Option.isSome_iff_exists.mp h
      rw [b c o e ho]
      rfl, fun c h => .inl h, fun c h => by
    obtain ⟨_, _, _, q⟩ := src
    simp only [List.mem_cons, List.not_mem_nil, or_false] at h
    rw [h, q]
    rfl⟩
theorem stp_new (sm : Same H H') (n : ∀ b ∈ F, H b = none) (th : ∀ b ∈ F, (H' b).isSome = true) : Stp H [] H' F :=
  ⟨fun b o _ e => sm _ _ e, fun b h => by
    obtain ⟨o, ho⟩ := Option.isSome_iff_exists.mp h
    exact some_of (sm _ _ ho), fun b h => .inr (n b h), th⟩
theorem newIn_nextI (h : ∀ b ∈ F, (H b).isSome = true) : Same (newIn H H') (nextI I H H' F) := fun b o e => by
  obtain ⟨e1, e2⟩ := of_newIn e
  refine nextI_fresh e1 e2 fun z => ?_
  have := h b z
  rw [e1] at this
  cases this
theorem hidnew_nextI : Same (hid F (newIn H H')) (nextI I H H' F) := fun b o e => by
  obtain ⟨e1, n⟩ := of_hid e
  obtain ⟨e2, e3⟩ := of_newIn e1
  exact nextI_fresh e2 e3 n
/-- a meeting that is made -/
theorem MtIn.made (sI : Same I H) (sm : Same H H') (n : ∀ b ∈ F, H b = none) (h : MtAt K (hid F (newIn H H')) H' m tb F M) : MtIn K (nextI I H H' F) H' m tb F M ∧ Stp H [] H' F := by
  have T := stp_new sm n h.there
  exact ⟨⟨T.same sI (fun _ h => nomatch h), T.gone, h.mono hidnew_nextI fun _ _ _ e => e⟩, T⟩
end
/-- what never changes -/
structure Fx (K : PySem.W.Frag) (I : Hp) (a tb l tx : Addr) (xs ns text : List Int) : Prop where
  tb : TbAt K I tb (fun x => x ∈ ns)
  l : I l = some (.lst (ns.map V.int))
  tx : I tx = some (.lst (text.map V.int))
  scr : SqL K I a (xs.map V.int)
theorem Fx.mono {K : PySem.W.Frag} {I I' : Hp} {a tb l tx : Addr} {xs ns text : List Int} (s : Same I I') (h : Fx K I a tb l tx xs ns text) : Fx K I' a tb l tx xs ns text := ⟨h.tb.mono s, s _ _ h.l, s _ _ h.tx, h.scr.ext s⟩
/-- three meetings, and what is drawn from -/
structure LO (K : PySem.W.Frag) (I H : Hp) (s m1 m2 m3 tb : Addr) (F1 F2 F3 : List Addr) (M1 M2 M3 : Mt) : Prop where
  i1 : MtIn K I H m1 tb F1 M1
  i2 : MtIn K I H m2 tb F2 M2
  i3 : MtIn K I H m3 tb F3 M3
  src : SrcIn I H s
  e1 : ∀ b ∈ F1, b ∉ [s]
  e2 : ∀ b ∈ F2, b ∉ [s]
  e3 : ∀ b ∈ F3, b ∉ [s]
  d12 : ∀ b ∈ F1, b ∉ F2
  d13 : ∀ b ∈ F1, b ∉ F3
  d23 : ∀ b ∈ F2, b ∉ F3
section
variable {K : PySem.W.Frag} {I H H' : Hp} {s s' m1 m2 m3 tb : Addr} {F1 F2 F3 F1' F2' F3' : List Addr} {M1 M2 M3 M1' M2' M3' : Mt}
theorem flip {F G : List Addr} (h : ∀ b ∈ F, b ∉ G) : ∀ b ∈ G, b ∉ F := fun b hb z => h b z hb
theorem one_in {F : List Addr} (h : ∀ b ∈ F, b ∉ [s]) : s ∉ F := fun z => h s z (by simp)
theorem in_one {F : List Addr} (h : s ∉ F) : ∀ b ∈ F, b ∉ [s] := fun b hb z => h (by simp at z; rw [← z]; exact hb)
theorem LO.sI (g : LO K I H s m1 m2 m3 tb F1 F2 F3 M1 M2 M3) : Same I H := g.i1.sI
theorem none1 {I : Hp} (h : I s = none) : ∀ b ∈ [s], I b = none := fun b hb => by simp at hb; rw [hb]; exact h
/-- only what is drawn from has changed -/
theorem LO.draw (g : LO K I H s m1 m2 m3 tb F1 F2 F3 M1 M2 M3) (b : But s H H') (h : SrcAt H' s) :
    LO K (nextI I H H' [s]) H' s m1 m2 m3 tb F1 F2 F3 M1 M2 M3 ∧ Same I (nextI I H H' [s]) ∧ Same (newIn H H') (nextI I H H' [s]) := by
  have T := stp_but b g.src.src h
  have hA := none1 g.src.s0
  obtain ⟨a1, b1⟩ := g.i1.next T hA g.e1
  obtain ⟨a2, b2⟩ := g.i2.next T hA g.e2
  obtain ⟨a3, b3⟩ := g.i3.next T hA g.e3
  exact ⟨⟨a1, a2, a3, ⟨h, T.gone s (by simp)⟩, b1, b2, b3, g.d12, g.d13, g.d23⟩, T.mono g.sI hA, newIn_nextI fun c hc => by
    obtain ⟨_, _, _, q⟩ := g.src.src
    simp at hc
    rw [hc, q]
    rfl⟩
theorem LO.pure (g : LO K I H s m1 m2 m3 tb F1 F2 F3 M1 M2 M3) (sm : Same H H') :
    LO K (nextI I H H' [s]) H' s m1 m2 m3 tb F1 F2 F3 M1 M2 M3 ∧ Same I (nextI I H H' [s]) ∧ Same (newIn H H') (nextI I H H' [s]) := g.draw (fun b o _ e => sm _ _ e) (src_same g.src.src sm)
/-- another thing to draw from -/
theorem LO.other (g : LO K I H s m1 m2 m3 tb F1 F2 F3 M1 M2 M3) (sm : Same H H') (h0 : H s' = none) (h : SrcAt H' s') :
    LO K (nextI I H H' [s']) H' s' m1 m2 m3 tb F1 F2 F3 M1 M2 M3 ∧ Same I (nextI I H H' [s']) := by
  have T : Stp H [] H' [s'] := stp_new sm (none1 h0) fun b hb => by
    obtain ⟨_, _, _, q⟩ := h
    simp at hb
    rw [hb, q]
    rfl
  have hA : ∀ b ∈ ([] : List Addr), I b = none := fun _ h => nomatch h
  obtain ⟨a1, b1⟩ := g.i1.next T hA (fun _ _ h => nomatch h)
  obtain ⟨a2, b2⟩ := g.i2.next T hA (fun _ _ h => nomatch h)
  obtain ⟨a3, b3⟩ := g.i3.next T hA (fun _ _ h => nomatch h)
  exact ⟨⟨a1, a2, a3, ⟨h, T.gone s' (by simp)⟩, b1, b2, b3, g.d12, g.d13, g.d23⟩, T.mono g.sI hA⟩
theorem LO.step1 (g : LO K I H s m1 m2 m3 tb F1 F2 F3 M1 M2 M3) (T : Stp H F1 H' F1') (h : MtAt K (nextI I H H' F1') H' m1 tb F1' M1') :
    LO K (nextI I H H' F1') H' s m1 m2 m3 tb F1' F2 F3 M1' M2 M3 ∧ Same I (nextI I H H' F1') := by
  obtain ⟨a2, b2⟩ := g.i2.next T g.i1.hF (flip g.d12)
  obtain ⟨a3, b3⟩ := g.i3.next T g.i1.hF (flip g.d13)
  obtain ⟨a4, b4⟩ := g.src.next T (one_in g.e1)
  exact ⟨⟨g.i1.step T h, a2, a3, a4, in_one b4, g.e2, g.e3, flip b2, flip b3, g.d23⟩, T.mono g.sI g.i1.hF⟩
theorem LO.step2 (g : LO K I H s m1 m2 m3 tb F1 F2 F3 M1 M2 M3) (T : Stp H F2 H' F2') (h : MtAt K (nextI I H H' F2') H' m2 tb F2' M2') :
    LO K (nextI I H H' F2') H' s m1 m2 m3 tb F1 F2' F3 M1 M2' M3 ∧ Same I (nextI I H H' F2') := by
  obtain ⟨a1, b1⟩ := g.i1.next T g.i2.hF g.d12
  obtain ⟨a3, b3⟩ := g.i3.next T g.i2.hF (flip g.d23)
  obtain ⟨a4, b4⟩ := g.src.next T (one_in g.e2)
  exact ⟨⟨a1, g.i2.step T h, a3, a4, g.e1, in_one b4, g.e3, b1, g.d13, flip b3⟩, T.mono g.sI g.i2.hF⟩
theorem LO.step3 (g : LO K I H s m1 m2 m3 tb F1 F2 F3 M1 M2 M3) (T : Stp H F3 H' F3') (h : MtAt K (nextI I H H' F3') H' m3 tb F3' M3') :
    LO K (nextI I H H' F3') H' s m1 m2 m3 tb F1 F2 F3' M1 M2 M3' ∧ Same I (nextI I H H' F3') := by
  obtain ⟨a1, b1⟩ := g.i1.next T g.i3.hF g.d13
  obtain ⟨a2, b2⟩ := g.i2.next T g.i3.hF g.d23
  obtain ⟨a4, b4⟩ := g.src.next T (one_in g.e3)
  exact ⟨⟨a1, a2, g.i3.step T h, a4, g.e1, g.e2, in_one b4, g.d12, b1, b2⟩, T.mono g.sI g.i3.hF⟩
/-- three meetings, made one behind the other -/
theorem LO.init {I H Ha Hb Hc Hd : Hp} (sI : Same I H) (src : SrcIn I H s) (sa : Same H Ha) (fa : ∀ b ∈ F1, H b = none) (ga : MtAt K (hid F1 (newIn H Ha)) Ha m1 tb F1 M1)
    (sb : Same Ha Hb) (fb : ∀ b ∈ F2, Ha b = none) (gb : MtAt K (hid F2 (newIn Ha Hb)) Hb m2 tb F2 M2) (sc : Same Hb Hc) (sd : Same Hc Hd) (fd : ∀ b ∈ F3, Hc b = none) (gd : MtAt K (hid F3 (newIn Hc Hd)) Hd m3 tb F3 M3) :
    ∃ I', LO K I' Hd s m1 m2 m3 tb F1 F2 F3 M1 M2 M3 ∧ Same I I' := by
  have n0 : ∀ {I : Hp}, ∀ b ∈ ([] : List Addr), I b = none := fun _ h => nomatch h
  have n1 : ∀ {F : List Addr}, ∀ b ∈ F, b ∉ ([] : List Addr) := fun _ _ h => nomatch h
  obtain ⟨a1, T1⟩ := MtIn.made sI sa fa ga
  obtain ⟨a2, a3⟩ := src.next T1 (by simp)
  have z1 := T1.mono sI n0
  obtain ⟨b1, T2⟩ := MtIn.made a1.sI sb fb gb
  obtain ⟨b2, b3⟩ := a2.next T2 (by simp)
  obtain ⟨b4, b5⟩ := a1.next T2 n0 n1
  have z2 := T2.mono a1.sI n0
  have T3 : Stp Hb [] Hc [] := stp_new sc n0 (fun _ h => nomatch h)
  obtain ⟨c1, _⟩ := b1.next T3 n0 n1
  obtain ⟨c2, _⟩ := b4.next T3 n0 n1
  obtain ⟨c3, _⟩ := b2.next T3 (by simp)
  have z3 := T3.mono b1.sI n0
  obtain ⟨d1, T4⟩ := MtIn.made c1.sI sd fd gd
  obtain ⟨d2, d3⟩ := c2.next T4 n0 n1
  obtain ⟨d4, d5⟩ := c1.next T4 n0 n1
  obtain ⟨d6, d7⟩ := c3.next T4 (by simp)
  have z4 := T4.mono c1.sI n0
  exact ⟨_, ⟨d2, d4, d1, d6, in_one a3, in_one b3, in_one d7, b5, d3, d5⟩, ((z1.trans z2).trans z3).trans z4⟩
end
/-- what stands in a story is small -/
theorem spath_gc {P : Int → Prop} : ∀ {row : List Int} {st : List (Nat × Gs)} {r : List Int}, SPath P row st r → ∀ p ∈ st, GC P p.2
  | _, [], _, _ => fun _ h => nomatch h
  | _, q :: t, _, h => fun p hp => by
    rcases List.mem_cons.mp hp with rfl | hp
    · exact h.1
    · exact spath_gc h.2.2 p hp
theorem LetV.mono {I I' : Hp} (s : Same I I') {v : V} {p : Nat × Bool} : LetV I v p → LetV I' v p := fun ⟨t, e, h⟩ => ⟨t, e, s _ _ h⟩
theorem DdsV.mono {I I' : Hp} (s : Same I I') {S : Int → Prop} {n : Nat} {v : V} : ∀ {od : Option (List Rw)}, DdsV I S n v od → DdsV I' S n v od
  | none, h => h
  | some _, ⟨dl, its, e, h1, h2, h3⟩ => ⟨dl, its, e, s _ _ h1, RowsAt.mono s h2, h3⟩
section
variable {P : Program} {w : World} {K : PySem.W.Frag} {mg : Str → Option Value} {base : Heap}
/-- the law's own def, by its function object -/
theorem fnok_of {x qual : Str} {params : Arguments} {body : List Stmt} {scope : Scope} {f : Addr} {fd : FuncData} {N ps : List Str} {k : Nat} {sp : Sp}
    (F : FunD K x qual params body scope [] [] f fd) (S : FnScope N ps scope) (len : ∀ vs H Q E, sp vs H Q E → vs.length = ps.length)
    (hbody : ∀ (cdv : Value) (A : Around) (outer : List Env) (s : Shared) (H : Hp) (vs : List V) (Q : VK) (E : XK), Room k (A.deeper (envOfC qual scope s.heap.objs.size f cdv)) → sp vs H Q E →
      ∃ t, PSs (cxOf CX0 P w K mg base N qual scope f cdv A outer s H E).nox body t ∧ t { nx := fun _ H' => Q .non H', rt := Q } (start N vs) H) : FnOk P w K mg base CX0 (k + 1) f fd ps sp :=
  FunD.ok F S len fun cdv A outer s H vs Q E hr h => by
    obtain ⟨t, h1, h2⟩ := hbody cdv A outer s H vs Q E hr h
    exact ⟨t, h1.nox, h2⟩
end
end K94
set_option maxRecDepth 100000
set_option maxHeartbeats 4000000
/-! K94Y: the law. -/
namespace K94
open PySem PySem.Spec PyProof.Rows L2
section
variable {P : Program} {w : World} {K : PySem.W.Frag} {mg : Str → Option Value} {base : Heap}
abbrev N_law : List Str := ["_law_script", "_law_source_here", "_law_board_here", "_law_numbers", "_law_text", "_law_j", "_law_many", "_law_first", "_law_second", "_law_third", "_law_k", "_law_hand", "_law_deeds_here", "_law_others", "_law_letters"]
theorem sc_law : FnScope N_law ["_law_script"] (defScope s_law) := ⟨rfl, rfl, rfl, by decide +kernel, rfl, by decide +kernel, by decide +kernel⟩
def spLaw (K : PySem.W.Frag) : Sp := fun vs H Q _ => ∃ (a : Addr) (xs : List Int), vs = [.ref a] ∧ SqL K H a (xs.map V.int) ∧ xs.length ≤ 63 ∧ ∀ H', Q (.bl true) H'
theorem ok_law (T : Txt K mg) {fd : FuncData} (F : FunD K d_law.name d_law.qual d_law.params d_law.body d_law.scope (d_law.dvs K) (d_law.kws K) (He.ga K "law") fd) : FnOk P w K mg base CX0 10 (He.ga K "law") fd ["_law_script"] (spLaw K) := by
  have G_law_source := ok_source (P := P) (w := w) (base := base) T
  have G_law_board := ok_board (P := P) (w := w) (base := base) T
  have G_law_next := ok_next (P := P) (w := w) (base := base) T
  have G_law_deeds := ok_deeds (P := P) (w := w) (base := base) T
  have G_law_state := ok_state (P := P) (w := w) (base := base) T
  have G_law_step := ok_step (P := P) (w := w) (base := base) T
  have G_law_story_right := ok_story_right (P := P) (w := w) (base := base) T
  have G_law_at_once_right := ok_at_once (P := P) (w := w) (base := base) T
  have G_Meeting := ok_Meeting_init (P := P) (w := w) (base := base) T
  have G_Meeting_text := ok_Meeting_text (P := P) (w := w) (base := base) T
  refine fnok_of F sc_law (fun vs H Q E h => ?_) (fun cdv A outer s H vs Q E hr h => ?_)
  · obtain ⟨a, xs, rfl, _⟩ := h
    rfl
  · obtain ⟨a, xs, rfl, ha, hx, k⟩ := h
    refine ⟨_, (pss_cons (ps_set (i := 1) sc_law.nd rfl (Or.inr rfl) (pe_callF G_law_source (hr.mono (by decide)) T.f_law_source T.kp_law_source (pa_cons (pv 0) (pa_cons pe_int pa_nil))))
      (pss_cons (ps_asg (pe_callF G_law_board (hr.mono (by decide)) T.f_law_board T.kp_law_board (pa_cons (pv 1) pa_nil)) (pg_tup rfl (pgs_cons (pg_name (i := 2) sc_law.nd rfl (Or.inl rfl)) (pgs_cons (pg_name (i := 3) sc_law.nd rfl (Or.inr rfl)) pgs_nil))))
      (pss_cons (ps_setLc (i := 4) (own := [("_law_j", 5)]) (te := tOp (rIxL K) (tVar 3) (tCallF spNext (tCons (tVar 1) (tCons (tC (.int 12)) tNil)))) rfl sc_law.nd rfl rfl (sw_true rfl rfl rfl (by decide +kernel)) (pi_range1 (by rfl) T.g_range (pa_cons (pe_callF G_law_next (hr.mono (by decide)) T.f_law_next T.kp_law_next (pa_cons (pv 1) (pa_cons pe_int pa_nil))) pa_nil)) (blkOk_by (own := [("_law_j", 5)]) (N := N_law) (sc := defScope s_law) (by decide +kernel)) (fun _ _ _ _ _ => (pg_name (i := 5) sc_law.nd rfl (Or.inl rfl) (Or.inr rfl))) (fun _ _ _ _ _ => pts_nil) (fun _ _ _ _ _ => (pe_ix ix_list (pv 3) (pe_callF G_law_next (hr.mono (by decide)) T.f_law_next T.kp_law_next (pa_cons (pv 1) (pa_cons pe_int pa_nil))) (fun _ _ => rfl))))
      (pss_cons (ps_set (i := 6) sc_law.nd rfl (Or.inr rfl) (pe_op op_add pe_int (pe_callF G_law_next (hr.mono (by decide)) T.f_law_next T.kp_law_next (pa_cons (pv 1) (pa_cons pe_int pa_nil)))))
      (pss_cons (ps_par3 (i := 7) (j := 8) (l := 9) (by rfl) sc_law.nd rfl rfl rfl (by decide) (by decide) (by decide) rfl rfl rfl (pa_cons (StX.pe_makeR T.mk_Meeting G_Meeting (hr.mono (by decide)) (by rfl) T.c_Meeting pass0 (pa_cons (pv 2) (pa_cons (pv 4) (pa_cons (pv 6) pa_nil)))) (pa_cons (StX.pe_makeR T.mk_Meeting G_Meeting (hr.mono (by decide)) (by rfl) T.c_Meeting pass0 (pa_cons (pv 2) (pa_cons (pv 4) (pa_cons (pv 6) pa_nil)))) (pa_cons (StX.pe_makeR T.mk_Meeting G_Meeting (hr.mono (by decide)) (by rfl) T.c_Meeting pass0 (pa_cons (pv 2) (pa_cons (pe_slice sl_list (pv 3) po_none (po_some pe_int)) (pa_cons (pv 6) pa_nil)))) pa_nil))) (by rfl))
      (pss_cons (ps_for PassesOwn.never rfl (pi_range2 (by rfl) T.g_range (pa_cons pe_int (pa_cons (pe_callB (call_max2 rfl) (by rfl) T.g_max (by decide +kernel) (pa_cons pe_int (pa_cons (pe_callB (call_min2 rfl) (by rfl) T.g_min (by decide +kernel) (pa_cons pe_int (pa_cons (pe_callB call_len_seq (by rfl) T.g_len (by decide +kernel) (pa_cons (pv 0) pa_nil)) pa_nil))) pa_nil))) pa_nil))) (pg_name (i := 10) sc_law.nd rfl (Or.inl rfl)) (pss_cons (ps_set (i := 1) sc_law.nd rfl (Or.inr rfl) (pe_callF G_law_source (hr.mono (by decide)) T.f_law_source T.kp_law_source (pa_cons (pv 0) (pa_cons (pv 10) pa_nil))))
      (pss_cons (ps_set (i := 11) sc_law.nd rfl (Or.inl rfl) (pe_callF G_law_next (hr.mono (by decide)) T.f_law_next T.kp_law_next (pa_cons (pv 1) (pa_cons (pv 6) pa_nil))))
      (pss_cons (ps_par (i := 12) (j := 13) (by rfl) sc_law.nd rfl rfl (by decide) rfl rfl (pa_cons pe_non (pa_cons (pe_lst (pa_cons (pe_tup (pa_cons pe_str (pa_cons (pe_slice sl_list (pv 3) (po_some (pe_op op_mod (pv 10) pe_int)) (po_some (pe_op op_add (pe_op op_mod (pv 10) pe_int) pe_int))) pa_nil))) pa_nil)) pa_nil)) (by rfl))
      (C8.pss_cut (ps_if (PW.pt (pw_and (pt_cmpR op_lt (pe_callB call_len_seq (by rfl) T.g_len (by decide +kernel) (pa_cons (pe_methR (pv 7) T.k_Meeting T.m_Meeting_text G_Meeting_text (hr.mono (by decide)) pass0 (pa_cons (pv 11) pa_nil)) pa_nil)) pe_int (nomark _)) (pw_and1 (pt_cmpR op_gt (pe_callF G_law_next (hr.mono (by decide)) T.f_law_next T.kp_law_next (pa_cons (pv 1) (pa_cons pe_int pa_nil))) pe_int (nomark _))))) (pss_one (ps_set (i := 12) sc_law.nd rfl (Or.inl rfl) (pe_callF G_law_deeds (hr.mono (by decide)) T.f_law_deeds T.kp_law_deeds (pa_cons (pv 1) (pa_cons (pv 3) (pa_cons (pe_callB call_len_seq (by rfl) T.g_len (by decide +kernel) (pa_cons (pe_methR (pv 7) T.k_Meeting T.m_Meeting_text G_Meeting_text (hr.mono (by decide)) pass0 (pa_cons (pv 11) pa_nil)) pa_nil)) pa_nil)))))) pss_nil)
      (pss_cons (ps_setLc (i := 14) (own := [("_law_j", 5)]) rfl sc_law.nd rfl rfl (sw_true rfl rfl rfl (by decide +kernel)) (pi_range1 (by rfl) T.g_range (pa_cons (pe_callF G_law_next (hr.mono (by decide)) T.f_law_next T.kp_law_next (pa_cons (pv 1) (pa_cons pe_int pa_nil))) pa_nil)) (blkOk_by (own := [("_law_j", 5)]) (N := N_law) (sc := defScope s_law) (by decide +kernel)) (fun _ _ _ _ _ => (pg_name (i := 5) sc_law.nd rfl (Or.inl rfl) (Or.inr rfl))) (fun _ _ _ _ _ => pts_nil) (fun _ _ _ _ _ => (pe_tup (pa_cons (pe_callF G_law_next (hr.mono (by decide)) T.f_law_next T.kp_law_next (pa_cons (pv 1) (pa_cons (pv 6) pa_nil))) (pa_cons (pe_cmpR op_eq (pe_callF G_law_next (hr.mono (by decide)) T.f_law_next T.kp_law_next (pa_cons (pv 1) (pa_cons pe_int pa_nil))) pe_int (nomark _)) pa_nil)))))
      (pss_cons (ps_expr (pe_callF G_law_step (hr.mono (by decide)) T.f_law_step T.kp_law_step (pa_cons (pv 7) (pa_cons (pv 12) (pa_cons (pv 11) (pa_cons (pv 14) pa_nil))))))
      (pss_cons (ps_expr (pe_callF G_law_step (hr.mono (by decide)) T.f_law_step T.kp_law_step (pa_cons (pv 9) (pa_cons (pv 13) (pa_cons (pe_op op_sub (pe_op op_sub (pv 6) pe_int) (pv 11)) (pa_cons (pe_revL (pv 14)) pa_nil))))))
      (pss_cons (ps_expr (pe_callF G_law_step (hr.mono (by decide)) T.f_law_step T.kp_law_step (pa_cons (pv 8) (pa_cons (pv 12) (pa_cons (pv 11) (pa_cons (pv 14) pa_nil))))))
      (pss_one (ps_if (PW.pt (pw_or (pt_cmpR (op_neD hr.units) (pe_callF G_law_state (hr.mono (by decide)) T.f_law_state T.kp_law_state (pa_cons (pv 7) (pa_cons (pv 6) pa_nil))) (pe_callF G_law_state (hr.mono (by decide)) T.f_law_state T.kp_law_state (pa_cons (pv 8) (pa_cons (pv 6) pa_nil))) (nomark _)) (pw_or1 (pt_not (pt_val (pe_callF G_law_story_right (hr.mono (by decide)) T.f_law_story_right T.kp_law_story_right (pa_cons (pv 2) (pa_cons (pv 7) (pa_cons (pv 4) (pa_cons (pv 6) pa_nil)))))))))) (pss_one (ps_ret pe_bl)) pss_nil)))))))))))
      (pss_one (ps_ret (pe_callF G_law_at_once_right (hr.mono (by decide)) T.f_law_at_once_right T.kp_law_at_once_right (pa_cons (pv 1) (pa_cons (pv 2) (pa_cons (pv 3) (pa_cons (pv 4) (pa_cons (pv 6) pa_nil)))))))))))))), ?_⟩
    -- source(script, 0); board
    refine ⟨_, rfl, a, xs, 0, rfl, ha, fun s0 x y z s00 => ?_⟩
    have k1 : Same H (upd H s0 (.lst [.int x, .int y, .int z])) := same_new s00
    refine ⟨_, rfl, s0, rfl, ⟨x, y, z, upd_same⟩, fun H1 t tb l ns b1 src1 t0 tb0 l0 ht hl hn hT => ?_⟩
    have l1 : l ≠ s0 := fun e => by rw [e, upd_same] at l0; cases l0
    have sH1 : Same H H1 := fun b o e => b1 b o (ne_of_none e s00) (k1 b o e)
    refine ⟨t, _, rfl, SqT.of ht, rfl, _, _, rfl, _, _, rfl, rfl, ?_⟩
    clear b1 t0 tb0 l0 ht k1
    -- text
    refine ⟨_, rfl, s0, 6, rfl, src1, by decide, by decide, fun r x y z r0 r6 => ?_⟩
    obtain ⟨kt, rfl⟩ := Int.eq_ofNat_of_zero_le r0
    refine ⟨_, rfl, by omega, by omega, fun D hD => ?_⟩
    have b2 : But s0 H1 (upd H1 s0 (.lst [.int x, .int y, .int z])) := but_upd
    have src2 : SrcAt (upd H1 s0 (.lst [.int x, .int y, .int z])) s0 := src_upd
    have hl2 := b2 _ _ l1 hl
    generalize upd H1 s0 (.lst [.int x, .int y, .int z]) = H2 at b2 src2 hl2 hD ⊢
    have sD := src_ne src2 hD
    have lD := ne_of_none hl2 hD
    refine lc_range0 (fun i H3 => ∃ text : List Int, text.length = i ∧ (∀ x ∈ text, x ∈ ns) ∧ But s0 H2 H3 ∧ SrcAt H3 s0 ∧ H3 D = some (.lst (text.map V.int))) ⟨[], rfl, (fun _ h => nomatch h), but_same (fun _ _ _ h => h) (same_new hD), src_same src2 (same_new hD), upd_same⟩ (fun i H3 hi e => ?_) (fun H3 e => ?_)
    · obtain ⟨text, hx1, hx2, b3, src3, hD3⟩ := e
      have hi : i < kt := by simpa using hi
      refine ⟨rfl, _, rfl, _, rfl, s0, 12, rfl, src3, by decide, by decide, fun r x y z r0 r12 => ?_⟩
      obtain ⟨j, rfl⟩ := Int.eq_ofNat_of_zero_le r0
      obtain ⟨v, hv⟩ : ∃ v, ns[j]? = some v := ⟨_, List.getElem?_eq_getElem (by omega)⟩
      refine ⟨l, _, _, _, rfl, rfl, SqL.of (by rw [upd_ne l1]; exact b3 _ _ l1 hl2), atI_nat (j := j) (by rw [List.getElem?_map, hv]; rfl), text.map V.int, by rw [upd_ne sD.symm]; exact hD3, sl5 (by rw [List.length_map]; omega), text ++ [v], by rw [List.length_append, hx1]; rfl, fun x hx => ?_, fun b o n e => ?_, ⟨x, y, z, by rw [upd_ne sD]; exact upd_same⟩, by rw [upd_same, List.map_append]; rfl⟩
      · rcases List.mem_append.mp hx with hx | hx
        · exact hx2 x hx
        · simp at hx
          rw [hx]
          exact List.mem_of_getElem? hv
      · rw [upd_ne (ne_of_none e hD), upd_ne n]
        exact b3 b o n e
    obtain ⟨text, hx1, hx2, b3, src3, hD3⟩ := e
    have hx1 : text.length ≤ 5 := by
      have : text.length = ((kt : Int)).toNat := hx1
      omega
    have sH3 : Same H H3 := fun b o e => b3 b o (ne_of_none e s00) (b2 b o (ne_of_none e s00) (sH1 b o e))
    have hT3 : TbAt K (hid [s0] H3) tb (fun x => x ∈ ns) := by
      obtain ⟨dx, d1, d2, fs, q1, q2, p1, p2, p3, p4, p5, p6⟩ := hT.ex
      obtain ⟨u1, u2, u3, eu⟩ := src1
      have go : ∀ {b o}, H1 b = some o → (∀ q, o ≠ .lst q) → hid [s0] H3 b = some o := fun {b o} e n => by
        have nb : b ≠ s0 := fun z => by rw [z, eu] at e; cases e; exact n _ rfl
        exact hid_get (b3 b o nb (b2 b o nb e)) (by simpa using nb)
      exact ⟨dx, d1, d2, fs, q1, q2, go p1 (fun _ h => by cases h), p2, p3, go p4 (fun _ h => by cases h), go p5 (fun _ h => by cases h), p6⟩
    have hl3 := b3 _ _ l1 hl2
    clear b3 b2 hT sH1 hl2 hl src2 src1 hD r6
    -- many
    refine ⟨_, rfl, s0, 2, rfl, src3, by decide, by decide, fun r x y z r0 r2 => ⟨_, _, rfl, rfl, ?_⟩⟩
    obtain ⟨n, en, n2, n3⟩ : ∃ n : Nat, 2 + r = (n : Int) ∧ 2 ≤ n ∧ n ≤ 3 := ⟨(2 + r).toNat, by omega, by omega, by omega⟩
    show gName 6 (V.int (2 + r)) _ _ _
    rw [en]
    have b4 : But s0 H3 (upd H3 s0 (.lst [.int x, .int y, .int z])) := but_upd
    have src4 : SrcAt (upd H3 s0 (.lst [.int x, .int y, .int z])) s0 := src_upd
    have hh4 : hid [s0] (upd H3 s0 (.lst [.int x, .int y, .int z])) = hid [s0] H3 := hid_upd (by simp)
    generalize upd H3 s0 (.lst [.int x, .int y, .int z]) = H4 at b4 src4 hh4 ⊢
    have sH4 : Same H H4 := fun b o e => b4 b o (ne_of_none e s00) (sH3 b o e)
    have fx0 : Fx K (hid [s0] H4) a tb l D xs ns text := ⟨by rw [hh4]; exact hT3, hid_get (b4 _ _ l1 hl3) (by simpa using l1), hid_get (b4 _ _ sD.symm hD3) (by simpa using sD.symm), ha.ext (same_hid sH4 (none1 s00))⟩
    have si0 : SrcIn (hid [s0] H4) H4 s0 := ⟨src4, hid_none s0 (by simp)⟩
    have sI0 : Same (hid [s0] H4) H4 := hid_same
    generalize hid [s0] H4 = I0 at fx0 si0 sI0
    clear hh4 b4 src4 sH4 hD3 hl3 hT3 sH3 src3 lD sD l1 s00 r0 r2 en
    -- first, second, third
    refine ⟨_, rfl, _, rfl, _, rfl, fun m1 dm1 x0 d0 ne => ?_⟩
    refine ⟨m1, dm1, tb, D, text, n, _, H4, rfl, x0, d0, ne, rfl, fx0.tb.mono sI0, sI0 _ _ fx0.tx, by omega, hx2, by omega, by omega, fun H5 F1 s5 f1 g1 => ⟨rfl, ?_⟩⟩
    clear x0 d0 ne
    refine ⟨_, rfl, _, rfl, _, rfl, fun m2 dm2 x0 d0 ne => ?_⟩
    refine ⟨m2, dm2, tb, D, text, n, _, H5, rfl, x0, d0, ne, rfl, (fx0.tb.mono sI0).mono s5, s5 _ _ (sI0 _ _ fx0.tx), by omega, hx2, by omega, by omega, fun H6 F2 s6 f2 g2 => ⟨rfl, ?_⟩⟩
    clear x0 d0 ne
    refine ⟨_, rfl, _, rfl, _, rfl, l, _, rfl, SqL.of (s6 _ _ (s5 _ _ (sI0 _ _ fx0.l))), fun c c0 => ⟨_, rfl, fun m3 dm3 x0 d0 ne => ?_⟩⟩
    have ec : cutV (ns.map V.int) none (some 3) = (ns.take 3).map V.int := by rw [show (some 3 : Option Int) = some ((3 : Nat) : Int) from rfl, cut_to, ← List.map_take]
    simp only [ec] at x0 d0 ⊢
    have s7 := same_new (o := .lst ((ns.take 3).map V.int)) c0
    have h3m : ∀ x ∈ ns.take 3, x ∈ ns := fun x h => List.mem_of_mem_take h
    refine ⟨m3, dm3, tb, c, ns.take 3, n, _, _, rfl, x0, d0, ne, rfl, (((fx0.tb.mono sI0).mono s5).mono s6).mono s7, upd_same, by rw [List.length_take]; omega, h3m, by omega, by omega, fun H8 F3 s8 f3 g3 => ⟨rfl, ?_⟩⟩
    obtain ⟨I1, lo1, z1⟩ := LO.init sI0 si0 s5 f1 g1 s6 f2 g2 s7 s8 f3 g3
    have fx1 := fx0.mono z1
    clear s5 f1 g1 s6 f2 g2 s7 s8 f3 g3 x0 d0 ne c0 ec z1 si0 sI0 fx0
    have ok1 : MOk (fun x => x ∈ ns) text 0 n (Mt.new text n) := MOk.new hx2 (by omega) n
    have ok3 : MOk (fun x => x ∈ ns) (ns.take 3) 0 n (Mt.new (ns.take 3) n) := MOk.new h3m (by rw [List.length_take]; omega) n
    refine ⟨_, _, _, rfl, ?_⟩
    -- for k in range(1, max(6, min(11, len(script))))
    refine ⟨_, rfl, a, _, rfl, .inl (fx1.scr.ext lo1.sI), _, _, rfl, _, _, rfl, _, _, rfl, ⟨by decide, by decide, ?_, ?_⟩, ?_⟩
    · split <;> split <;> omega
    · split <;> split <;> omega
    refine for_range (fun i σ H' => ∃ v5 v10 v11 v12 v13 v14 s I F1 F2 F3 M M3, σ = [some (.ref a), some (.ref s), some (.ref tb), some (.ref l), some (.ref D), v5, some (.int n), some (.ref m1), some (.ref m2), some (.ref m3), v10, v11, v12, v13, v14] ∧ LO K I H' s m1 m2 m3 tb F1 F2 F3 M M M3 ∧ Fx K I a tb l D xs ns text ∧ MOk (fun x => x ∈ ns) text (5 * i) n M ∧ MOk (fun x => x ∈ ns) (ns.take 3) (5 * i) n M3)
      ⟨none, none, none, none, none, none, s0, I1, F1, F2, F3, _, _, rfl, lo1, fx1, ok1, ok3⟩ ?_ ?_
    · rintro i σ H9 hi ⟨v5, v10, v11, v12, v13, v14, s, I, F1, F2, F3, M, M3, rfl, lo, fx, ok, ok'⟩
      have hi : i < 10 := by
        revert hi
        split <;> split <;> omega
      -- source(script, k)
      refine ⟨_, rfl, _, rfl, a, xs, 1 + i, by rw [show (1 : Int) + (i : Int) = ((1 + i : Nat) : Int) from by omega], fx.scr.ext lo.sI, fun s' x y z s0' => ?_⟩
      obtain ⟨lo, z1⟩ := lo.other (H' := upd H9 s' (.lst [.int x, .int y, .int z])) (same_new s0') s0' ⟨x, y, z, upd_same⟩
      have fx := fx.mono z1
      generalize nextI I H9 (upd H9 s' (.lst [.int x, .int y, .int z])) [s'] = I2 at lo fx
      generalize upd H9 s' (.lst [.int x, .int y, .int z]) = H10 at lo ⊢
      clear z1 s0'
      -- hand
      refine ⟨_, rfl, _, rfl, s', n, rfl, lo.src.src, by omega, by omega, fun hd x y z h0 hn' => ?_⟩
      obtain ⟨hd, rfl⟩ := Int.eq_ofNat_of_zero_le h0
      have hd4 : hd < n := by omega
      obtain ⟨lo, z1, _⟩ := lo.draw (H' := upd H10 s' (.lst [.int x, .int y, .int z])) but_upd src_upd
      have fx := fx.mono z1
      generalize nextI I2 H10 (upd H10 s' (.lst [.int x, .int y, .int z])) [s'] = I3 at lo fx
      generalize upd H10 s' (.lst [.int x, .int y, .int z]) = H11 at lo ⊢
      clear z1 h0 hn'
      -- deeds, others
      obtain ⟨j, ej, hj⟩ : ∃ j : Nat, (1 + (i : Int)) % 12 = (j : Int) ∧ j < 12 := ⟨((1 + (i : Int)) % 12).toNat, by omega, by omega⟩
      obtain ⟨v, hv⟩ : ∃ v, ns[j]? = some v := ⟨_, List.getElem?_eq_getElem (by omega)⟩
      have ec : cutV (ns.map V.int) (some ((1 + (i : Int)) % 12)) (some ((1 + (i : Int)) % 12 + 1)) = [V.int v] := by
        rw [ej, show (j : Int) + 1 = ((j + 1 : Nat) : Int) from rfl, cut_some (Nat.le_succ _) (by rw [List.length_map]; omega), show j + 1 - j = 1 from by omega, drop_get (x := V.int v) (by rw [List.getElem?_map, hv]; rfl)]
        rfl
      refine ⟨_, rfl, _, rfl, _, _, rfl, rfl, (by show (0 : Int) < 12; decide), _, rfl, _, rfl, _, _, rfl, rfl, (by show (0 : Int) < 12; decide), _, _, rfl, rfl, _, rfl, l, _, rfl, SqL.of (lo.sI _ _ fx.l), fun p p0 => ⟨(by show 2 ≤ sizeLine; decide), fun ot ot0 => ⟨(by show 1 ≤ sizeLine; decide), fun o o0 => ⟨_, _, rfl, ?_⟩⟩⟩⟩
      rw [ec] at ot0 o0 ⊢
      have w1 := same_new (o := .lst [V.int v]) p0
      have w2 := same_new (o := .tup [V.str "put", V.ref p]) ot0
      have w3 := same_new (o := .lst [V.ref ot]) o0
      have w := (w1.trans w2).trans w3
      obtain ⟨lo, z1, z2⟩ := lo.pure w
      have fx := fx.mono z1
      have dO : DdsV _ (fun x => x ∈ ns) 1000 (.ref o) (some [.put [v]]) :=
        ⟨o, _, rfl, z2 _ _ (newIn_get ((w1.trans w2).free o0) upd_same), .cons ⟨ot, p, rfl, z2 _ _ (newIn_get (w1.free ot0) (w3 _ _ upd_same)), z2 _ _ (newIn_get p0 ((w2.trans w3) _ _ upd_same))⟩ .nil, Nat.zero_le _, Nat.le_refl _, by simp [puts], fun x hx => by simp [puts] at hx; rw [hx]; exact List.mem_of_getElem? hv, by simp⟩
      generalize nextI I3 H11 _ [s'] = I4 at lo fx dO
      generalize upd (upd (upd H11 p (.lst [V.int v])) ot (.tup [V.str "put", V.ref p])) o (.lst [V.ref ot]) = H12 at lo ⊢
      clear z1 z2 w w1 w2 w3 p0 ot0 o0 ec ej hj hv
      -- if len(first.text(hand)) < 8 and next(source, 3) > 0
      obtain ⟨σ1, hσ1⟩ := ok.get hd4
      have ss1 := ok.ss σ1 (List.mem_of_getElem? hσ1)
      refine ⟨fun σ' H' => ∃ v12 I od, σ' = [some (.ref a), some (.ref s'), some (.ref tb), some (.ref l), some (.ref D), v5, some (.int n), some (.ref m1), some (.ref m2), some (.ref m3), some (.int (1 + (i : Int))), some (.int hd), some v12, some (.ref o), v14] ∧ LO K I H' s' m1 m2 m3 tb F1 F2 F3 M M M3 ∧ Fx K I a tb l D xs ns text ∧ DdsV I (fun x => x ∈ ns) 1000 (.ref o) (some [.put [v]]) ∧ DdsV I (fun x => x ∈ ns) σ1.row.length v12 od, ?_, ?_⟩
      · obtain ⟨dx, r, sl', dn, hm, _⟩ := lo.i1.at'.ob
        refine ⟨_, rfl, m1, dx, _, rfl, hm, rfl, _, rfl, m1, tb, F1, M, _, hd, σ1, rfl, lo.i1, hσ1, fun q q0 => ⟨q, _, rfl, .inl (SqL.of upd_same), _, _, rfl, rfl, _, rfl, ?_⟩⟩
        obtain ⟨lo, z1, _⟩ := lo.pure (same_new (o := .lst (σ1.row.map V.int)) q0)
        have fx := fx.mono z1
        have dO := dO.mono z1
        generalize nextI I4 H12 _ [s'] = I5 at lo fx dO
        generalize upd H12 q (.lst (σ1.row.map V.int)) = H13 at lo ⊢
        clear z1 q0 hm
        refine iteD (fun c8 => ?_) (fun c8 => iteF ⟨_, _, none, rfl, lo, fx, dO, rfl⟩)
        have c8 : σ1.row.length < 8 := by rw [List.length_map] at c8; omega
        refine ⟨_, rfl, s', 3, rfl, lo.src.src, by decide, by decide, fun r x y z r0 r3 => ⟨_, _, rfl, rfl, _, rfl, ?_⟩⟩
        obtain ⟨lo, z1, _⟩ := lo.draw (H' := upd H13 s' (.lst [.int x, .int y, .int z])) but_upd src_upd
        have fx := fx.mono z1
        have dO := dO.mono z1
        generalize nextI I5 H13 _ [s'] = I6 at lo fx dO
        generalize upd H13 s' (.lst [.int x, .int y, .int z]) = H14 at lo ⊢
        clear z1
        refine iteD (fun _ => ?_) (fun _ => ⟨_, _, none, rfl, lo, fx, dO, rfl⟩)
        obtain ⟨dx, r, sl', dn, hm, _⟩ := lo.i1.at'.ob
        refine ⟨_, rfl, _, rfl, _, rfl, m1, dx, _, rfl, hm, rfl, _, rfl, m1, tb, F1, M, _, hd, σ1, rfl, lo.i1, hσ1, fun q q0 => ⟨q, _, rfl, .inl (SqL.of upd_same), ?_⟩⟩
        obtain ⟨lo, z1, _⟩ := lo.pure (same_new (o := .lst (σ1.row.map V.int)) q0)
        have fx := fx.mono z1
        have dO := dO.mono z1
        generalize nextI I6 H14 _ [s'] = I7 at lo fx dO
        generalize upd H14 q (.lst (σ1.row.map V.int)) = H15 at lo ⊢
        clear z1 q0 hm
        have sl : s' ≠ l := fun z => by have := lo.src.s0; rw [z, fx.l] at this; cases this
        refine ⟨s', l, ns, σ1.row.length, by rw [List.length_map], lo.src.src, lo.sI _ _ fx.l, hn, sl, by omega, fun H16 p its rows b16 src16 p0 hp hrows hnd hpt hpm hrl => ?_⟩
        obtain ⟨lo, z1, z2⟩ := lo.draw b16 src16
        exact ⟨_, _, some rows, rfl, lo, fx.mono z1, dO.mono z1, p, its, rfl, z2 _ _ (newIn_get p0 hp), RowsAt.mono z2 hrows, hnd, by omega, hpt, hpm, by omega⟩
      · rintro σ' H13 ⟨v12, I5, od, rfl, lo, fx, dO, dd⟩
        -- letters
        refine ⟨_, rfl, s', 5, rfl, lo.src.src, by decide, by decide, fun r x y z r0 r5 => ?_⟩
        obtain ⟨kl, rfl⟩ := Int.eq_ofNat_of_zero_le r0
        obtain ⟨lo, z1, _⟩ := lo.draw (H' := upd H13 s' (.lst [.int x, .int y, .int z])) but_upd src_upd
        have fx := fx.mono z1
        have dO := dO.mono z1
        have dd := dd.mono z1
        generalize nextI I5 H13 _ [s'] = I6 at lo fx dO dd
        generalize upd H13 s' (.lst [.int x, .int y, .int z]) = H14 at lo ⊢
        clear z1
        refine ⟨_, rfl, by omega, by omega, fun LL hLL => ?_⟩
        have src14 := lo.src.src
        have sLL := src_ne src14 hLL
        refine lc_range0 (fun i H3 => ∃ (acc : List V) (ls : List (Nat × Bool)), ls.length = i ∧ (∀ p ∈ ls, p.1 < n) ∧ Paired (LetV (newIn H14 H3)) acc ls ∧ But s' H14 H3 ∧ SrcAt H3 s' ∧ H3 LL = some (.lst acc)) ⟨[], [], rfl, (fun _ h => nomatch h), .nil, but_same (fun _ _ _ h => h) (same_new hLL), src_same src14 (same_new hLL), upd_same⟩ (fun jj H3 hjj e => ?_) (fun H3 e => ?_)
        · obtain ⟨acc, ls, hx1, hx2, hp3, b3, src3, hD3⟩ := e
          have hjj : jj < kl := by simpa using hjj
          refine ⟨rfl, _, rfl, _, rfl, s', n, rfl, src3, by omega, by omega, fun r x y z r0 rn => ?_⟩
          obtain ⟨num, rfl⟩ := Int.eq_ofNat_of_zero_le r0
          refine ⟨_, rfl, s', 2, rfl, src_upd, by decide, by decide, fun r2 x2 y2 z2 r20 r22 => ?_⟩
          rw [upd_upd]
          refine ⟨rfl, (by show 2 ≤ sizeLine; decide), fun p p0 => ?_⟩
          have al : acc.length ≤ 4 := by rw [paired_len hp3]; omega
          have b4 : But s' H3 (upd H3 s' (.lst [.int x2, .int y2, .int z2])) := but_upd
          have src4 : SrcAt (upd H3 s' (.lst [.int x2, .int y2, .int z2])) s' := src_upd
          generalize upd H3 s' (.lst [.int x2, .int y2, .int z2]) = H4 at b4 src4 p0 ⊢
          have s5 := same_new (o := .tup [V.int num, V.bl (decide (V.int r2 = V.int 0))]) p0
          have hD4 := b4 _ _ sLL.symm hD3
          have hD5 := s5 _ _ hD4
          have p14 : H14 p = none := (b3.trans b4).free (src_ne src4 p0).symm p0
          have pLL : p ≠ LL := (ne_of_none hD4 p0).symm
          refine ⟨acc, hD5, sl5 (by omega), acc ++ [.ref p], ls ++ [(num, decide (V.int r2 = V.int 0))], by rw [List.length_append, hx1]; rfl, fun q hq => ?_, paired_app (Paired.mapP hp3 fun v q hv => ?_) (paired_one ⟨p, rfl, newIn_get p14 (by rw [upd_ne pLL]; exact upd_same)⟩), fun b o nb e => ?_, ?_, upd_same⟩
          · rcases List.mem_append.mp hq with hq | hq
            · exact hx2 q hq
            · simp at hq
              rw [hq]
              show num < n
              omega
          · obtain ⟨u, eu, hu⟩ := hv
            obtain ⟨hu1, hu2⟩ := of_newIn hu
            have us : u ≠ s' := (src_ne src14 hu1).symm
            have uL : u ≠ LL := fun z => by rw [z, hD3] at hu2; cases hu2
            exact ⟨u, eu, newIn_get hu1 (by rw [upd_ne uL]; exact s5 _ _ (b4 _ _ us hu2))⟩
          · rw [upd_ne (ne_of_none e hLL)]
            exact s5 _ _ (b4 _ _ nb (b3 b o nb e))
          · obtain ⟨x, y, z, e⟩ := src4
            exact ⟨x, y, z, by rw [upd_ne sLL]; exact s5 _ _ e⟩
        obtain ⟨acc, ls, hx1, hx2, hp3, b3, src3, hD3⟩ := e
        have hx1 : ls.length ≤ 4 := by
          have : ls.length = ((kl : Int)).toNat := hx1
          omega
        obtain ⟨lo, z1, z2⟩ := lo.draw b3 src3
        have fx := fx.mono z1
        have dO := dO.mono z1
        have dd := dd.mono z1
        have hLL7 := z2 _ _ (newIn_get hLL hD3)
        have hp7 := Paired.mapP hp3 fun _ _ => LetV.mono z2
        generalize nextI I6 H14 _ [s'] = I7 at lo fx dO dd hLL7 hp7
        clear z1 z2 b3 src3 hD3 hp3 sLL src14 hLL r5 r0
        -- step(first)
        refine ⟨_, rfl, _, rfl, _, rfl, _, rfl, m1, tb, LL, v12, F1, M, I7, _, text, 5 * i, n, hd, σ1, acc, ls, od, rfl, lo.i1, fx.tb, ok, by omega, by omega, hd4, hσ1, dd, hLL7, hp7, hx2, hx1, fun H16 F1' S1 g1 ok2 => ?_⟩
        have i1' := lo.i2
        obtain ⟨lo, z1⟩ := lo.step1 S1 g1
        have fx := fx.mono z1
        have dO := dO.mono z1
        have dd := dd.mono z1
        have hLL8 := z1 _ _ hLL7
        have hp8 := Paired.mapP hp7 fun _ _ => LetV.mono z1
        generalize nextI I7 H3 H16 F1' = I8 at lo fx dO dd hLL8 hp8
        clear z1 S1 g1 hLL7 hp7 i1'
        -- step(third)
        refine ⟨_, rfl, _, rfl, _, rfl, _, _, rfl, rfl, _, rfl, _, _, rfl, rfl, _, rfl, LL, acc, rfl, SqL.of (lo.sI _ _ hLL8), fun rl rl0 => ?_⟩
        obtain ⟨lo, z1, z2⟩ := lo.pure (same_new (o := .lst acc.reverse) rl0)
        have fx := fx.mono z1
        have dO := dO.mono z1
        have dd := dd.mono z1
        have hLL9 := z1 _ _ hLL8
        have hp9 := Paired.mapP hp8 fun _ _ => LetV.mono z1
        have hrl9 := z2 _ _ (newIn_get rl0 (upd_same (H := H16) (a := rl) (o := .lst acc.reverse)))
        generalize nextI I8 H16 (upd H16 rl (.lst acc.reverse)) [s'] = I9 at lo fx dO dd hLL9 hp9 hrl9
        generalize upd H16 rl (.lst acc.reverse) = H17 at lo ⊢
        clear z1 z2 hLL8 hp8 rl0
        obtain ⟨σ3, hσ3⟩ := ok'.get (i := n - 1 - hd) (by omega)
        have ss3 := ok'.ss σ3 (List.mem_of_getElem? hσ3)
        have d3 : DdsV I9 (fun x => x ∈ ns) σ3.row.length (.ref o) (some [.put [v]]) := by
          obtain ⟨dl, its, e, h1, h2, h3, h4, h5⟩ := dO
          exact ⟨dl, its, e, h1, h2, Nat.zero_le _, by have := ss3.row; omega, h5⟩
        refine ⟨m3, tb, rl, .ref o, F3, M3, I9, _, ns.take 3, 5 * i, n, n - 1 - hd, σ3, acc.reverse, ls.reverse, some [.put [v]], by show [V.ref m3, V.ref o, V.int ((n : Int) - 1 - (hd : Int)), V.ref rl] = _; rw [show (n : Int) - 1 - (hd : Int) = ((n - 1 - hd : Nat) : Int) from by omega], lo.i3, fx.tb, ok', by omega, by omega, by omega, hσ3, d3, hrl9, paired_rev hp9, fun p hp => hx2 p (List.mem_reverse.mp hp), by rw [List.length_reverse]; exact hx1, fun H18 F3' S3 g3 ok3' => ?_⟩
        obtain ⟨lo, z1⟩ := lo.step3 S3 g3
        have fx := fx.mono z1
        have dd := dd.mono z1
        have hLL10 := z1 _ _ hLL9
        have hp10 := Paired.mapP hp9 fun _ _ => LetV.mono z1
        generalize nextI I9 H17 H18 F3' = I10 at lo fx dd hLL10 hp10
        clear z1 S3 g3 hLL9 hp9 d3 dO hrl9
        -- step(second)
        refine ⟨_, rfl, _, rfl, _, rfl, _, rfl, m2, tb, LL, v12, F2, M, I10, _, text, 5 * i, n, hd, σ1, acc, ls, od, rfl, lo.i2, fx.tb, ok, by omega, by omega, hd4, hσ1, dd, hLL10, hp10, hx2, hx1, fun H19 F2' S2 g2 _ => ?_⟩
        obtain ⟨lo, z1⟩ := lo.step2 S2 g2
        have fx := fx.mono z1
        generalize nextI I10 H18 H19 F2' = I11 at lo fx
        clear z1 S2 g2 hLL10 hp10 dd
        generalize stepM M (od.map inG) hd ls = MM at lo ok2
        have stl := ok2.sz
        have stg : ∀ p ∈ MM.story, p.2.length ≤ 2000 := fun p hp => by have := (spath_gc ok2.st p hp).len; omega
        -- state(first) != state(second) or not story_right(..)
        refine ⟨_, rfl, _, rfl, m1, tb, F1', MM, I11, n, rfl, lo.i1, ok2.cnt, by omega, by omega, stg, fun H20 t1 s20 dp1 => ?_⟩
        obtain ⟨lo, z1, _⟩ := lo.pure s20
        have fx := fx.mono z1
        generalize nextI I11 H19 H20 [s'] = I12 at lo fx
        refine ⟨_, rfl, _, rfl, m2, tb, F2', MM, I12, n, rfl, lo.i2, ok2.cnt, by omega, by omega, stg, fun H21 t2 s21 dp2 => ?_⟩
        obtain ⟨lo, z2, _⟩ := lo.pure s21
        have fx := fx.mono z2
        generalize nextI I12 H20 H21 [s'] = I13 at lo fx
        refine ⟨stD MM, stD MM, dp_mono s21 dp1, dp2, (st_d MM).1, (st_d MM).1, ?_⟩
        rw [(st_d MM).2]
        refine ⟨false, rfl, iteF ⟨_, rfl, _, rfl, _, rfl, _, rfl, m1, tb, D, F1', MM, I13, _, text, 5 * i + 5, n, _, rfl, lo.i1, fx.tb, fx.tx, by omega, ok2, by omega, fun H22 s22 => ⟨true, rfl, iteF ?_⟩⟩⟩
        obtain ⟨lo, z3, _⟩ := lo.pure s22
        exact ⟨_, _, _, _, _, _, s', _, F1', F2', F3', MM, _, rfl, lo, fx.mono z3, ok2, ok3'⟩
    · rintro σ H9 ⟨v5, v10, v11, v12, v13, v14, s, I, F1, F2, F3, M, M3, rfl, lo, fx, ok, ok'⟩
      have sl : s ≠ l := fun z => by have := lo.src.s0; rw [z, fx.l] at this; cases this
      have sD : s ≠ D := fun z => by have := lo.src.s0; rw [z, fx.tx] at this; cases this
      exact ⟨_, rfl, _, rfl, _, rfl, _, rfl, _, rfl, s, tb, l, D, n, ns, text, rfl, lo.src.src, fx.tb.mono fun b o e => hid_get (lo.sI _ _ e) fun z => (by rw [none1 lo.src.s0 b z] at e; cases e), lo.sI _ _ fx.l, hn, sl, lo.sI _ _ fx.tx, sD, hx2, hx1, by omega, by omega, fun H' => k H'⟩
end
end K94
set_option maxRecDepth 100000
set_option maxHeartbeats 0
/-! K94Z: the head and the walk together. -/
namespace K94
open PySem PySem.Spec PyProof.Rows L2
theorem facts {P : Program} {w : World} {K : PySem.W.Frag} {h : Heap} {mg : Str → Option Value} {f : Addr} (X : K.In h) (G : h.Ns mainGlobals mg) (hfa : mg ("law" : Str) = some (.ref f)) (c : He.SaysD fa fn K) (e : exB K = true) :
    ∃ fd : FuncData, (∀ (s : Shared) (v : Value), BindsTo s fd ⟨[v], []⟩ [("_law_script", v)]) ∧ ∀ base : Heap, K.In base → base.Ns mainGlobals mg → FnOk P w K mg base CX0 10 f fd ["_law_script"] (spLaw K) := by
  have T : Txt K mg := ⟨c, e, h, X, G⟩
  obtain ⟨fd, F⟩ := T.d_law
  have F : FunD K d_law.name d_law.qual d_law.params d_law.body d_law.scope (d_law.dvs K) (d_law.kws K) (He.ga K "law") fd := F
  have e1 := hfa.symm.trans T.f_law
  cases e1
  have b := FunD.bindsA (ps := ["_law_script"]) F fun _ _ _ _ _ _ us hl => match us, hl with | [_], _ => rfl
  exact ⟨fd, fun s v => b s [v] rfl, fun base _ _ => ok_law T F⟩
end K94
open PySem PySem.W PySem.Calls PyProof.Rows
theorem PySem.Challenge.cw_signloom_k94_whole_hands_as_one_holds : PySem.Challenge.rw_signloom_k94_whole_hands_as_one.Holds := by
  w_on; o_law
  refine HandSHeadRun.head_any (r := OpenLaw.row PySem.Challenge.rw_signloom_k94_whole_hands_as_one) (q := view (OpenLaw.row PySem.Challenge.rw_signloom_k94_whole_hands_as_one).prog [92]) (H := K94.hkX) (ob := K94.ob) (M := 20000) (loose := K94.names) (d := HandSHeadRun.topDef (OpenLaw.row PySem.Challenge.rw_signloom_k94_whole_hands_as_one).prog 92) (kwd := []) K94.ob_eq
    (by kernel_rfl) (fun s => by kernel_rfl) K94.run (by kernel_rfl) (by kernel_rfl) (by kernel_rfl) (by rfl) (by first | assumption | decide +kernel) (by decide +kernel) ⟨rfl, rfl, rfl, rfl, rfl, by decide +kernel⟩ ?hw ?hc
  case hw => w_witness2
  case hc =>
    refine L2.walk_ofE (l := PySem.Challenge.rw_signloom_k94_whole_hands_as_one) (n := 63) (k := 10) (x := "_law_script") (CX := L2.CX0) rfl (by decide) (by kernel_rfl) ⟨rfl, by decide, by decide⟩ ?F (fun _ _ _ _ z => z)
    intro w mg fa h Y G hmg0
    obtain ⟨K, KX, c, e⟩ := Y
    have hmg : mg ("law" : PySem.Str) = some (.ref fa) := by
      have e : (HandSHeadRun.topDef (OpenLaw.row PySem.Challenge.rw_signloom_k94_whole_hands_as_one).prog 92).name = ("law" : PySem.Str) := by kernel_rfl
      rw [← e]
      exact hmg0
    obtain ⟨fd, hb, hF⟩ := K94.facts (P := (PySem.Challenge.rw_signloom_k94_whole_hands_as_one).prog) (w := w) KX G hmg c e
    exact ⟨K, fd, K94.spLaw K, KX, hb, fun H a ns hl _ hS => ⟨a, ns, rfl, hS, hl, fun _ => rfl⟩, hF⟩
