import PyProof.Rows.All
import Wide.All
import OpenK.AllK
import Wide.FinOn
import PyProof.InstNe
import HandS.ForMost
import HandS.Strs
import HandS.Style
import HandS.TupAny
import HandS.Wide
import HandS.Defaults
import HandS.IsInst
import HandS.More
import HandS.Codes
import HandS.OwnEq
import HandS.Evl
import KE.GoesEnum
import PySem.Challenge.RW_asksmore_k80_the_menu
set_option Elab.async false
set_option linter.all false
set_option maxRecDepth 100000
set_option maxHeartbeats 4000000
namespace Aq
open PySem L2

/-! ### defs, classes and methods in one word each -/
section
variable (P : Program) (w : World) (K : PySem.W.Frag) (mg : Str → Option Value) (base : Heap)
structure Cal (k : Nat) (x : Str) (ps : List Str) (sp : Sp) : Prop where
  ex : ∃ (f : Addr) (fd : FuncData), FnOk P w K mg base CX0 k f fd ps sp ∧ mg x = some (.ref f) ∧ PySem.W.keepIn K (.ref f) = true ∧ Binds K fd ps []
structure Ctr (k : Nat) (x : Str) (C : Addr) (ps : List Str) (dvs : List V) (sp : Sp) : Prop where
  ex : ∃ (f : Addr) (fd : FuncData) (ds : List Value), Mk K C f ∧ FnOk P w K mg base CX0 k f fd ps sp ∧ mg x = some (.ref C) ∧ Binds K fd ps ds ∧ Vals dvs ds
structure Mth (k : Nat) (C : Addr) (m : Str) (ps : List Str) (sp : Sp) : Prop where
  cl : Cls K C
  ex : ∃ (f : Addr) (fd : FuncData), Meth K C m f ∧ FnOk P w K mg base CX0 k f fd ps sp ∧ Binds K fd ps []
end
section
variable {X : Cx} {k j : Nat} {x m : Str} {C : Addr} {ps : List Str} {dvs : List V} {sp : Sp} {e o : Expr} {es : List Expr} {ta : TE} {t : TA} {p pos apos : Pos}
theorem pe_callC (c : Cal X.prog X.w X.K X.mg X.base k x ps sp) (hr : Room j X.A) (ha : PA X (e :: es) t) (hk : k ≤ j := by decide) (hg : Gl X x := by rfl)
    (hdb : (x == ("__debug__" : Str)) = false := by decide) (he : starEach (e :: es) X.env = (false, eval e X.env) :: starEach es X.env := by rfl) (hpl : (backTo pos (starEach es X.env)).any (·.1) = false := by rfl) :
    PE X (.Call (.Name x p) (e :: es) [] pos) (tCall sp [] E0 t) := by
  obtain ⟨f, fd, F, hm, kp, b⟩ := c.ex
  exact pe_call F (hr.mono hk) hg hm kp b .nil pass0 ha hdb he hpl
theorem pe_makeC (c : Ctr X.prog X.w X.K X.mg X.base k x C ps dvs sp) (hr : Room j X.A) (ha : PA X (e :: es) t) (hk : k + 1 ≤ j := by decide) (hg : Gl X x := by rfl)
    (hdb : (x == ("__debug__" : Str)) = false := by decide) (he : starEach (e :: es) X.env = (false, eval e X.env) :: starEach es X.env := by rfl) (hpl : (backTo pos (starEach es X.env)).any (·.1) = false := by rfl) :
    PE X (.Call (.Name x p) (e :: es) [] pos) (tMake C sp dvs E0 t) := by
  obtain ⟨f, fd, ds, M, F, hm, b, hd⟩ := c.ex
  exact pe_make M F (hr.mono hk) hg hm b hd pass0 ha hdb he hpl
theorem pe_methC {pl : Sem Bool} (c : Mth X.prog X.w X.K X.mg X.base k C m ps sp) (hr : Room j X.A) (ho : PE X o ta) (ha : PA X (e :: es) t) (hk : k ≤ j := by decide)
    (hst : starEach (e :: es) X.env = (false, eval e X.env) :: starEach es X.env := by rfl) (hpl : (backTo pos (starEach es X.env)).any (·.1) = false := by rfl)
    (ht : eval (.Call (.Attribute o m apos) (e :: es) [] pos) X.env = (do
      let ov ← eval o X.env
      standAt apos.atName
      let (f, first) ← holding [ov] (getMethod ov m pl)
      callWith pos f first (backTo pos (starEach (e :: es) X.env)) (backToKw pos (keywordEach [] X.env))) := by rfl) :
    PE X (.Call (.Attribute o m apos) (e :: es) [] pos) (tMeth C m sp [] E0 ta t) := by
  obtain ⟨f, fd, M, F, b⟩ := c.ex
  exact pe_meth ho c.cl M F (hr.mono hk) b .nil pass0 ha hst hpl ht

/-! ### x in o, x not in o by an own __contains__; ==, != by an own __eq__ -/
/-- what an own operator gives is a bool -/
def rOwnB (sp : Sp) (g : Bool → Bool) (vs : List V) (H : Hp) (Q : VK) : Prop := sp vs H (fun v H' => ∃ b, v = .bl b ∧ Q (.bl (g b)) H') E0
def rInOwn (C : Addr) (sp : Sp) (g : Bool → Bool) : R2 := fun x y H Q => ∃ a dx fs, y = .ref a ∧ H a = some (.ins C dx fs) ∧ rOwnB sp g [y, x] H Q
theorem own_call {pins : List (Addr × Obj)} {σ : St} {H : Hp} {s : Shared} {Q : VK} {g : Bool → Bool} {f : Addr} {fd : FuncData} {us : List Value} {vs : List V} (F : FnOk X.prog X.w X.K X.mg X.base CX0 k f fd ps sp) (hr : Room k X.A) (hb : Binds X.K fd ps [])
    (I : Inv X pins σ H s) (r : Vals vs us) (h : rOwnB sp g vs H Q) : wpAny (model X.prog X.w) X.A (call (.ref f) us) (fun v s' => ∃ b, v = .bool b ∧ EP X pins σ Q (.bool (g b)) s') X.xe s := by
  refine thn (run_fn F hr hb .nil pass0 I r (by rw [List.append_nil]; exact h)) fun v s' hq => ?_
  obtain ⟨z, H', I', rz, b, rfl, q⟩ := hq
  exact ⟨b, rz, .bl (g b), H', I', rfl, q⟩
theorem op_inOwn (c : Mth X.prog X.w X.K X.mg X.base k C "__contains__" ps sp) (hr : Room j X.A) (hk : k ≤ j := by decide) : OpR X (compareOp .In) (rInOwn C sp id) := by
  intro pins s σ H x y u v Q I rx ry h
  obtain ⟨f, fd, M, F, b⟩ := c.ex
  obtain ⟨a, dx, fs, rfl, ha, h⟩ := h
  cases ry
  obtain ⟨mA, J, _⟩ := ins_get I.hok ha
  obtain ⟨od, J, _⟩ := J.look
  obtain ⟨m, hF⟩ := I.fr
  have r2 : Vals [V.ref a, x] [Value.ref a, u] := .cons rfl (.cons rx .nil)
  have oc := own_call F (hr.mono hk) b I r2 h
  refine PySem.W.in_K hF I.ok.mod.kin J M.at_ M.fn (thn oc fun r s' hq => ?_)
  obtain ⟨r, rfl, q⟩ := hq
  exact wpAny_truthy_bool q
theorem op_notInOwn (c : Mth X.prog X.w X.K X.mg X.base k C "__contains__" ps sp) (hr : Room j X.A) (hk : k ≤ j := by decide) : OpR X (compareOp .NotIn) (rInOwn C sp not) := by
  intro pins s σ H x y u v Q I rx ry h
  obtain ⟨f, fd, M, F, b⟩ := c.ex
  obtain ⟨a, dx, fs, rfl, ha, h⟩ := h
  cases ry
  obtain ⟨mA, J, _⟩ := ins_get I.hok ha
  obtain ⟨od, J, _⟩ := J.look
  obtain ⟨m, hF⟩ := I.fr
  have r2 : Vals [V.ref a, x] [Value.ref a, u] := .cons rfl (.cons rx .nil)
  have oc := own_call F (hr.mono hk) b I r2 h
  refine PySem.W.notIn_K hF I.ok.mod.kin J M.at_ M.fn (thn oc fun r s' hq => ?_)
  obtain ⟨r, rfl, q⟩ := hq
  exact wpAny_truthy_bool q
/-- both of the class C -/
def rEqOwn (C : Addr) (sp : Sp) (g : Bool → Bool) : R2 := fun x y H Q => ∃ a b dx dy fs gs, x = .ref a ∧ y = .ref b ∧ H a = some (.ins C dx fs) ∧ H b = some (.ins C dy gs) ∧ rOwnB sp g [x, y] H Q
theorem op_eqOwn (c : Mth X.prog X.w X.K X.mg X.base k C "__eq__" ps sp) (hr : Room j X.A) (hk : k ≤ j := by decide) : OpR X (compareOp .Eq) (rEqOwn C sp id) := by
  intro pins s σ H x y u v Q I rx ry h
  obtain ⟨f, fd, M, F, b⟩ := c.ex
  obtain ⟨a, b', dx, dy, fs, gs, rfl, rfl, ha, hb, h⟩ := h
  cases rx
  cases ry
  obtain ⟨mA, J, _⟩ := ins_get I.hok ha
  obtain ⟨mB, J', _⟩ := ins_get I.hok hb
  obtain ⟨od, J, _⟩ := J.look
  obtain ⟨od', J', _⟩ := J'.look
  obtain ⟨m, hF⟩ := I.fr
  have r2 : Vals [V.ref a, V.ref b'] [Value.ref a, Value.ref b'] := .cons rfl (.cons rfl .nil)
  have oc := own_call F (hr.mono hk) b I r2 h
  refine PySem.W.cmp_K (op := .Eq) (tb := .ref C) hr.units0 hF I.ok.mod.kin J J'.type (by simp [PySem.W.notFirst]) M.at_ M.fn (thn oc fun r s' hq => ?_)
  obtain ⟨r, rfl, q⟩ := hq
  exact q
end
section
variable {prog : Program} {w : World} {A : Around} {E : Value → Shared → Prop} {s : Shared} {K : PySem.W.Frag} {x C L f : Addr} {h₀ : Heap} {m : Str → Option Value} {ox : Obj} {od : Option Obj} {b tb : Value}
open PySem.W in
theorem objNe_K (X : K.In s.heap) (I : InstAt s.heap x ox C od) (hs : findIn K (.ref C) "__eq__" = some (some (.ref f))) (hf : isFn K (.ref f) = true) (hu : A.units < cLine) {Q : Fin → Shared → Prop}
    (hcall : wpAny (model prog w) A (call (.ref f) [.ref x, b]) (fun v s' => ∃ r, v = .bool r ∧ Q (.done (.ret (.bool (!r)))) s') E s) :
    wpAny (model prog w) A (Builtin.«object.__ne__» ⟨[.ref x, b], []⟩) Q E s := by
  unfold Builtin.«object.__ne__»
  repeat (first
    | with_reducible refine wpAny_cRoomFor hu ?_
    | (refine wpAny_bind (m := callSpecialIfBound? (.ref x) (Str.ofString "__eq__") [b])
        (ifBound_K X I hs hf (wpAny_mono hcall (fun r s' hr => by
          obtain ⟨b, rfl, hq⟩ := hr
          repeat (first | exact hq | exact wpAny_pure hq | exact wpAny_truthy_bool hq | (refine wpAny_bind (m := truthy (.bool _)) (wpAny_truthy_bool ?_)) | wp_step)) fun _ _ e => e)))
    | wp_step)
open PySem.W in
theorem slotcheck_K {id owner n : String} {rest : List Value} {Q : Unit → Shared → Prop} (X : K.In s.heap) (I : InstAt s.heap x ox C od) (hk : builtinKind id = some .slot) (hs : splitId id = some (owner, n))
    (ha : argsOk id ⟨.ref x :: rest, []⟩) (hob : subIn K (.ref C) (.type owner) = some true) (hq : Q () s) :
    wpAny (model prog w) A (checkBuiltinCall id ⟨.ref x :: rest, []⟩) Q E s := by
  simp only [checkBuiltinCall, hk, hs]
  refine wpAny_bind ?_
  unfold isInstance
  refine wpAny_bind (I.type.here ?_)
  refine (looks_subIn X hob).here ?_
  repeat (first | wp_step)
  cases hsig : Manifest.signature? id with
  | none => exact wpAny_pure hq
  | some sig =>
    simp only [argsOk, hsig] at ha
    have h2 : Bind.checkArgs id sig ⟨.ref x :: rest, []⟩ = pure () := ha
    show wpAny _ A (Bind.checkArgs id sig ⟨.ref x :: rest, []⟩) Q E _
    rw [h2]; exact wpAny_pure hq
open PySem.W in
theorem ne_K {Q : Value → Shared → Prop} (hu : A.units + 1 < cLine) (X : K.In s.heap) (I : InstAt s.heap x ox C od) (hb : Looks (model prog w) s.heap (typeOf b) tb) (hn : notFirst K C tb = true)
    (hne : findIn K (.ref C) "__ne__" = some (some (.builtin "object.__ne__"))) (hob : subIn K (.ref C) (.type "object") = some true)
    (hs : findIn K (.ref C) "__eq__" = some (some (.ref f))) (hf : isFn K (.ref f) = true)
    (h : wpAny (model prog w) A.in1 (call (.ref f) [.ref x, b]) (fun v s' => ∃ r, v = .bool r ∧ Q (.bool (!r)) s') E s) : wpAny (model prog w) A (richCompare .NotEq (.ref x) b) Q E s := by
  have one : wpAny (model prog w) A (tryCompare (.ref x) "__ne__" b) (fun r s' => ∃ v, r = some v ∧ Q v s') E s := by
    unfold tryCompare
    simp only [callSpecialIfBound?, bindSpecialIfBound?]
    refine wpAny_bind (wpAny_holding (wpAny_bind (wpAny_bind (wpAny_bind (I.type.here ((looks_findIn X hne).here ?_))))))
    refine wpAny_bind (wpAny_askSetting (wpAny_ite ?_))
    have fin : wpAny (model prog w) A (call (.builtin "object.__ne__") ([.ref x] ++ [b]) >>= fun v => pure (some v)) (fun r s' => ∃ v, r = some (.bool v) ∧ Q (.bool v) s') E s := by
      refine wpAny_bind (wpAny_call (codeAny_call_builtin (F.cmp_object).ne.plain F.cmpEntry_ne (slotcheck_K X I F.cmpKind_ne F.cmpSplit_ne (F.cmpArgs_ne _ _) hob (objNe_K (A := A.in1) X I hs hf hu (wpAny_mono h (fun v s' hv => ?_) fun _ _ e => e)))))
      obtain ⟨r, rfl, hq⟩ := hv
      exact ⟨r, rfl, wpAny_pure ⟨_, rfl, hq⟩⟩
    split
    · simp only [(F.cmp_object).ne.bind]
      refine wpAny_bind (wpAny_pure (wpAny_pure ?_))
      refine wpAny_mono fin (fun _ _ z => ?_) fun _ _ e => e
      obtain ⟨v, rfl, q⟩ := z
      exact wpAny_pure ⟨_, rfl, q⟩
    · simp only [(F.cmp_object).ne.bind]
      refine wpAny_tryCatch (wpAny_bind (wpAny_pure (wpAny_pure ?_)))
      refine wpAny_mono fin (fun _ _ z => ?_) fun _ _ e => e
      obtain ⟨v, rfl, q⟩ := z
      exact wpAny_pure ⟨_, rfl, q⟩
  unfold richCompare
  simp only [oneThing_ref]
  refine wpAny_holding (wpAny_bind (wpAny_cRoomFor (Nat.lt_of_succ_lt hu) ?_))
  refine wpAny_bind (I.type.here (wpAny_bind (hb.here ?_)))
  split
  · rename_i q
    have e : subIn K tb (.ref C) = some false := by
      rcases Bool.or_eq_true_iff.mp hn with e | e
      · rw [beq_iff_eq.mp e] at q; simp at q
      · exact beq_iff_eq.mp e
    refine wpAny_bind ((looks_subIn X e).here ?_)
    simp only [Bool.false_eq_true, if_false]
    refine wpAny_bind (wpAny_mono one (fun r s' z => ?_) fun _ _ e => e)
    obtain ⟨v, rfl, hq⟩ := z
    exact wpAny_pure hq
  · refine wpAny_bind (wpAny_pure ?_)
    simp only [Bool.false_eq_true, if_false]
    refine wpAny_bind (wpAny_mono one (fun r s' z => ?_) fun _ _ e => e)
    obtain ⟨v, rfl, hq⟩ := z
    exact wpAny_pure hq
end
section
variable {X : Cx} {k j : Nat} {C : Addr} {ps : List Str} {sp : Sp}
/-- what != by an own __eq__ wants of the class -/
structure NeC (K : PySem.W.Frag) (C : Addr) : Prop where
  ne : PySem.W.findIn K (.ref C) "__ne__" = some (some (.builtin "object.__ne__"))
  ob : PySem.W.subIn K (.ref C) (.type "object") = some true
theorem op_neOwn (n : NeC X.K C) (c : Mth X.prog X.w X.K X.mg X.base k C "__eq__" ps sp) (hr : Room j X.A) (hk : k + 1 ≤ j := by decide) : OpR X (compareOp .NotEq) (rEqOwn C sp not) := by
  intro pins s σ H x y u v Q I rx ry h
  obtain ⟨f, fd, M, F, b⟩ := c.ex
  obtain ⟨a, b', dx, dy, fs, gs, rfl, rfl, ha, hb, h⟩ := h
  cases rx
  cases ry
  obtain ⟨mA, J, _⟩ := ins_get I.hok ha
  obtain ⟨mB, J', _⟩ := ins_get I.hok hb
  obtain ⟨od, J, _⟩ := J.look
  obtain ⟨od', J', _⟩ := J'.look
  have r2 : Vals [V.ref a, V.ref b'] [Value.ref a, Value.ref b'] := .cons rfl (.cons rfl .nil)
  refine ne_K (tb := .ref C) (hu_of hr) I.kIn J J'.type (by simp [PySem.W.notFirst]) n.ne n.ob M.at_ M.fn ?_
  have hr1 : Room k X.A.in1 := (hr.mono hk).in1
  have e0 : Env0 X.prog X.w X.K X.mg X.base X.A.in1 X.stack s H := by
    have e := I.env0
    exact ⟨e.frames, e.mod, e.bs, e.bsz, e.funs, e.frf, e.hok, e.bare⟩
  have hl := F.len _ _ _ _ h
  refine wpAny_call (codeAny_mono (F.run X.A.in1 X.stack s H ⟨[.ref a, .ref b'], []⟩ [.ref a, .ref b'] [.ref a, .ref b'] _ E0 hr1 e0 (by
    have := b s [.ref a, .ref b'] I.kIn (by simpa using hl)
    simpa using this) r2 h) fun r s' hq => ?_)
  cases r with
  | error e => exact pass0 pins σ H s e s' I hq
  | ok fl =>
    cases fl with
    | ret w =>
      obtain ⟨z, H', I', rz, b, ez, q⟩ := I.after hq
      subst ez
      cases rz
      exact ⟨b, rfl, .bl (!b), H', I', rfl, q⟩
    | next => exact False.elim hq
    | brk => exact False.elim hq
    | cont => exact False.elim hq

/-! ### text times an int; xs += ys -/
theorem op_mul_str : OpR X (binaryOp .Mult) (fun x y H Q => ∃ (z : Str) (i : Int), x = .str z ∧ y = .int i ∧ z.length ≤ 16 ∧ -(2 ^ 63) ≤ i ∧ i ≤ 1048576 ∧ Q (.str (Txt.mul z i)) H) := by
  intro pins s σ H x y u v Q I rx ry h
  obtain ⟨z, i, rfl, rfl, h1, h2, h3, q⟩ := h
  obtain ⟨t, rfl⟩ := rx
  obtain ⟨t', rfl⟩ := ry
  exact PySem.W.KXi.mul rfl h1 h2 h3 fun t' k _ _ => ⟨.str (Txt.mul z i), H, I.tok _, ⟨_, rfl⟩, q⟩
theorem pe_gstr {x z : Str} {t : Tok} {pos : Pos} (hm : X.mg x = some (.str z t)) (hg : Gl X x := by rfl) (hd : (x == ("__debug__" : Str)) = false := by decide) : PE X (.Name x pos) (tC (.str z)) := pe_glob hg hm ⟨_, rfl⟩ hd
theorem pe_gint {x : Str} {i : Int} {t : Tok} {pos : Pos} (hm : X.mg x = some (.int i t)) (hg : Gl X x := by rfl) (hd : (x == ("__debug__" : Str)) = false := by decide) : PE X (.Name x pos) (tC (.int i)) := pe_glob hg hm ⟨_, rfl⟩ hd
theorem pe_gref {x : Str} {a : Addr} {pos : Pos} (hm : X.mg x = some (.ref a)) (hg : Gl X x := by rfl) (hd : (x == ("__debug__" : Str)) = false := by decide) : PE X (.Name x pos) (tC (.ref a)) := pe_glob (v := .ref a) hg hm rfl hd
theorem pe_bty {x : Str} (T : String) {pos : Pos} (hm : X.mg x = none) (hv : bootBuiltins x = some (.type T)) (hg : Gl X x := by rfl) (hn : x ≠ "__name__" := by decide) (hd : (x == ("__debug__" : Str)) = false := by decide) : PE X (.Name x pos) (tC (.ty T)) := pe_bltn (v := .ty T) hg hm hv rfl hn hd
/-- tuple(xs), the new object known whole -/
theorem call_tuple_frz : CallR X (.type "tuple") (fun xs H Q => ∃ p ys, xs = [.ref p] ∧ ((SqL X.K H p ys ∧ ∀ l o, H l = none → o.dict = none → Q (.ref l) (upd H l (.frz o (.tup ys)))) ∨ (SqT X.K H p ys ∧ Q (.ref p) H))) := by
  intro pins s σ H xs us Q I r h
  obtain ⟨p, ys, rfl, h⟩ := h
  obtain ⟨u, rfl, rx⟩ := vals1 r
  cases rx
  rcases h with ⟨hq, q⟩ | ⟨hq, q⟩
  · obtain ⟨its, r', pl, hz⟩ := I.list hq
    have hlen := r'.length
    refine PySem.call_tuple_list pl.isList (fun h' kp => ?_) (by simp only [List.size_toArray] <;> omega)
    have I1 : Inv X pins σ H { s with heap := h' } := I.kept (t' := s.toks) kp
    have I2 : Inv X pins σ (upd H h'.objs.size (.frz { cls := .type "tuple", data := .seq its.toArray } (.tup ys))) { s with heap := h'.push { cls := .type "tuple", data := .seq its.toArray } } :=
      I1.laid (t' := s.toks) (fun b o e => Heap.get?_push_of_some _ e) (Nat.le_refl _) (show ObjOk X.prog X.w _ _ _ (.frz _ (.tup ys)) from ⟨by heap_get, hz, its, r', PyProof.Rows.IsTup.new _ _⟩)
    exact ⟨.ref h'.objs.size, _, I2, rfl, q _ _ (I1.hok.fresh (Nat.le_refl _)) rfl⟩
  · obtain ⟨its, r', pl, hz⟩ := I.tuple hq
    exact PySem.call_tuple_same pl ⟨.ref p, H, I, rfl, q⟩
/-- a tuple known whole -/
def TupF (H : Hp) (x : V) : Prop := ∃ p o xs, x = .ref p ∧ H p = some (.frz o (.tup xs)) ∧ o.dict = none
def tTupM (r : V → List V → Hp → VK → Prop) (to : TE) (t : TA) : TE := fun σ H Q => to σ H fun x H1 => TupF H1 x ∧ t σ H1 fun xs H2 => r x xs H2 Q
theorem pe_tupm {o e : Expr} {es : List Expr} {to : TE} {t : TA} {name : Str} {apos cpos : Pos} {id : String} {r : V → List V → Hp → VK → Prop} (slot : Slot "tuple" name id) (hty : typeOf (.builtin id) = pure (.type "method_descriptor")) (hm : MtR X id r) (ho : PE X o to) (ha : PA X (e :: es) t)
    (hbase : attributeBase o name X.env (eval o X.env) = eval o X.env := by rfl)
    (hfew : ((backTo cpos (starEach (e :: es) X.env)).all (fun x => !x.1) && (backToKw cpos (keywordEach [] X.env)).all (fun x => x.1.isSome)
      && decide ((e :: es).length + ([] : List Keyword).length + (if ([] : List Keyword).isEmpty then 0 else 1) < 30)) = true := by rfl)
    (hline : (apos.endLine == cpos.line) = true := by rfl) (hs : starEach (e :: es) X.env = (false, eval e X.env) :: starEach es X.env := by rfl) (hplain : (backTo cpos (starEach es X.env)).any (·.1) = false := by rfl) :
    PE X (.Call (.Attribute o name apos) (e :: es) [] cpos) (tTupM r to t) := by
  refine ⟨fun pins s σ H Q I h => ?_⟩
  refine wpAny_Call_method_late hbase hfew hline rfl (thn (ho.run pins s σ H _ I h) fun v s1 ⟨x, H1, I1, r1, ty, q1⟩ => ?_)
  obtain ⟨p, ob, xs, rfl, hp, hd⟩ := ty
  cases r1
  obtain ⟨hob, _, its, _, o', ho', hc, _⟩ := I1.hok p _ hp
  have eo : ob = o' := Option.some.inj (hob.symm.trans ho')
  refine ⟨"tuple", id, PySem.F.plainAttrs_tuple, slot, hty, ⟨o', ho', hc⟩, fun a e => ?_, ?_⟩
  · cases e
    exact ⟨ob, hob, hd⟩
  have hA := ha.run cpos pins s1 σ H1 _ I1 q1
  rw [hs] at hA ⊢
  refine Calls.callWith_builtin (by show (false || (backTo cpos (starEach es X.env)).any (·.1)) = false; rw [hplain] <;> rfl) (Calls.evalArgs_plain ?_)
  exact thn hA fun us s2 ⟨vs, H2, I2, r2, q2⟩ => hm pins s2 σ H2 (.ref p) vs (.ref p) us Q I2 rfl r2 q2
/-- a if c else b as a test -/
def tIfT (tc tp tq : TT) : TT := fun σ H Q => tc σ H fun b H1 => if b = true then tp σ H1 Q else tq σ H1 Q
theorem pt_ifExp {c p q : Expr} {tc tp tq : TT} {pos : Pos} (hc : PT X c tc) (hp : PT X p tp) (hq : PT X q tq) : PT X (.IfExp c p q pos) (tIfT tc tp tq) := by
  refine ⟨fun pins s σ H Q I h => ?_⟩
  refine PyProof.Rows.isTrue_IfExp (thn (hc.run pins s σ H _ I h) fun b s1 ⟨H1, I1, h1⟩ => ?_)
  cases b with
  | true => exact hp.run pins s1 σ H1 Q I1 (by simpa using h1)
  | false => exact hq.run pins s1 σ H1 Q I1 (by simpa using h1)
/-! ### within a comprehension: the written part by its name -/
theorem pi_tupK {K : PySem.W.Frag} {tg l : Expr} {tl : TE} (hl : PE X l tl) (hK : X.K = K := by rfl) : PI X tg l (iTup K tl) := hK ▸ pi_tup hl
theorem pi_listK {K : PySem.W.Frag} {tg l : Expr} {tl : TE} (hl : PE X l tl) (hK : X.K = K := by rfl) : PI X tg l (iList K tl) := hK ▸ pi_list hl
theorem pe_fldK {K : PySem.W.Frag} {e : Expr} {f : Str} {ta : TE} {pos : Pos} (he : PE X e ta) (hb : attributeBase e f X.env (eval e X.env) = eval e X.env) (hK : X.K = K := by rfl) : PE X (.Attribute e f pos) (tFld K ta f) := hK ▸ pe_fld he hb
theorem op_in_seqK {K : PySem.W.Frag} (hK : X.K = K := by rfl) : OpR X (compareOp .In) (rIn K false) := hK ▸ op_in_seq
theorem op_notIn_seqK {K : PySem.W.Frag} (hK : X.K = K := by rfl) : OpR X (compareOp .NotIn) (rIn K true) := hK ▸ op_notIn_seq
theorem ix_listK {K : PySem.W.Frag} (hK : X.K = K := by rfl) : IxR X (rIxL K) := hK ▸ ix_list
theorem ix_tupK {K : PySem.W.Frag} (hK : X.K = K := by rfl) : IxR X (rIxT K) := hK ▸ ix_tup
theorem sl_listK {K : PySem.W.Frag} (hK : X.K = K := by rfl) : SlR X (rSlL K) := hK ▸ sl_list
theorem call_isiK' {K : PySem.W.Frag} (hK : X.K = K := by rfl) : CallR X (.builtin "isinstance") (rIsi K) := hK ▸ call_isi
theorem ip_ext : PIp X .Add rExt2 := by
  intro pins s σ H x y u v Q I rx ry h
  exact iop_ext pins s σ H x y u v Q I rx ry h
end
end Aq
/-! readings, one step at a time, the rest behind -/
namespace Aq
open PySem L2 Evl
section
variable {σ : L2.St} {H : Hp} {Q : VK} {K : PySem.W.Frag} {v x y : V} {ta tb tc te tv : TE} {tA tB' : TT} {ts : TA} {i j : Int} {n : Nat} {nx bk ct : L2.St → Hp → Prop} {rt : VK} {t u : TS} {g : TG}
/-! #### values -/
theorem rd_var {k : Nat} (h : σ[k]? = some (some v)) (q : Q v H) : tVar k σ H Q := ⟨v, h, q⟩
theorem rd_c (q : Q v H) : tC v σ H Q := q
theorem rd_op {r : R2} (h : ta σ H fun x H1 => tb σ H1 fun y H2 => r x y H2 Q) : tOp r ta tb σ H Q := h
theorem rd_un {r : V → Hp → VK → Prop} (h : ta σ H fun x H1 => r x H1 Q) : tUn r ta σ H Q := h
theorem rd_I0 {f : Int → Int → V} (q : Q (f i j) H) : rI0 f (.int i) (.int j) H Q := ⟨i, j, rfl, rfl, q⟩
theorem rd_I {C : Int → Int → Prop} {f : Int → Int → V} (c : C i j) (q : Q (f i j) H) : rI C f (.int i) (.int j) H Q := ⟨i, j, rfl, rfl, c, q⟩
theorem rd_eq (h : scal x y = true) (q : Q (.bl (decide (x = y))) H) : rEq x y H Q := ⟨h, q⟩
theorem rd_ne (h : scal x y = true) (q : Q (.bl (!decide (x = y))) H) : rNe x y H Q := ⟨h, q⟩
theorem rd_B {Qb : Bool → Hp → Prop} (h : te σ H fun x H1 => ∃ c, x = .bl c ∧ Qb c H1) : tB te σ H Qb := h
theorem rd_test {Qb : Bool → Hp → Prop} (h : te σ H fun x H1 => ∃ c, x = .bl c ∧ Qb c H1) : tTest te σ H Qb := h
theorem rd_bl {b : Bool} {Qb : Bool → Prop} (q : Qb b) : ∃ c, V.bl b = V.bl c ∧ Qb c := ⟨b, rfl, q⟩
theorem rd_not {Qb : Bool → Hp → Prop} (h : tA σ H fun c H1 => Qb (!c) H1) : tNot tA σ H Qb := h
theorem rd_and {Qb : Bool → Hp → Prop} (h : tA σ H fun c H1 => if c = true then tB' σ H1 Qb else Qb false H1) : tAnd tA tB' σ H Qb := h
theorem rd_or {Qb : Bool → Hp → Prop} (h : tA σ H fun c H1 => if c = true then Qb true H1 else tB' σ H1 Qb) : tOr tA tB' σ H Qb := h
theorem rd_andV (h : ta σ H fun x H1 => ∃ c, x = .bl c ∧ if c = true then tb σ H1 Q else Q (.bl false) H1) : tAndV ta tb σ H Q := h
theorem rd_orV (h : ta σ H fun x H1 => ∃ c, x = .bl c ∧ if c = true then Q (.bl true) H1 else tb σ H1 Q) : tOrV ta tb σ H Q := h
theorem rd_notV (h : ta σ H fun x H1 => ∃ c, x = .bl c ∧ Q (.bl (!c)) H1) : tNotV ta σ H Q := h
theorem rd_if (h : tA σ H fun c H1 => if c = true then ta σ H1 Q else tb σ H1 Q) : tIf tA ta tb σ H Q := h
theorem rd_ifT {tp tq : TT} {Qb : Bool → Hp → Prop} (h : tA σ H fun c H1 => if c = true then tp σ H1 Qb else tq σ H1 Qb) : tIfT tA tp tq σ H Qb := h
theorem rd_chain {r r' : R2} (h : ta σ H fun x H1 => tb σ H1 fun y H2 => r x y H2 fun z H3 => ∃ k, z = .bl k ∧ (if k = true then tc σ H3 fun w' H4 => r' y w' H4 Q else Q (.bl false) H3)) : tChain r r' ta tb tc σ H Q := h
theorem rd_cb {r : List V → Hp → VK → Prop} (h : ts σ H fun vs H1 => r vs H1 Q) : tCB r ts σ H Q := h
theorem rd_nil {Ql : List V → Hp → Prop} (q : Ql [] H) : tNil σ H Ql := q
theorem rd_cons {Ql : List V → Hp → Prop} (h : ta σ H fun x H1 => ts σ H1 fun xs H2 => Ql (x :: xs) H2) : tCons ta ts σ H Ql := h
theorem rd_call {sp : Sp} {dvs : List V} {E : XK} (h : ts σ H fun vs H1 => sp (vs ++ dvs) H1 Q E) : tCall sp dvs E ts σ H Q := h
/-- a new object: what stood stands -/
theorem rd_new {o : HO} {Qp : V → Hp → Prop} (q : ∀ p H', H p = none → Ex H H' → H' p = some o → Qp (.ref p) H') : ∀ p, H p = none → Qp (.ref p) (upd H p o) :=
  fun p hp => q p _ hp (Ex.new hp) upd_same
theorem rd_tup (h : ts σ H fun xs H1 => xs.length ≤ sizeLine ∧ ∀ p, H1 p = none → Q (.ref p) (upd H1 p (.tup xs))) : tTup ts σ H Q := h
theorem rd_lst (h : ts σ H fun xs H1 => xs.length ≤ sizeLine ∧ ∀ p, H1 p = none → Q (.ref p) (upd H1 p (.lst xs))) : tLst ts σ H Q := h
/-! #### fields, dicts -/
theorem rd_fld {f : Str} (h : ta σ H fun x H1 => ∃ a C dx fs v, x = .ref a ∧ H1 a = some (.ins C dx fs) ∧ Cls K C ∧ NoAttr K C f ∧ fs.lookup f = some v ∧ Q v H1) : tFld K ta f σ H Q := h
theorem rd_fldAt {f : Str} {a C dx : Addr} {fs : List (Str × V)} {R : V → Prop} (ho : H a = some (.ins C dx fs)) (c : Cls K C) (n : NoAttr K C f) (l : fs.lookup f = some v) (q : R v) :
    ∃ a' C dx fs v, V.ref a = .ref a' ∧ H a' = some (.ins C dx fs) ∧ Cls K C ∧ NoAttr K C f ∧ fs.lookup f = some v ∧ R v := ⟨a, C, dx, fs, v, rfl, ho, c, n, l, q⟩
theorem rd_dget {td ty : TE} (h : td σ H fun x H1 => ty σ H1 fun y H2 => ∃ a v, x = .ref a ∧ DGet H2 a y (some v) ∧ Q v H2) : tDGet td ty σ H Q := h
theorem rd_dgetS {a : Addr} {kvs : List (Key × V)} {k : Str} {R : V → Prop} (ho : H a = some (.dK kvs)) (l : valV kvs (Sum.inr k) = some v) (q : R v) : ∃ a' v, V.ref a = .ref a' ∧ DGet H a' (.str k) (some v) ∧ R v :=
  ⟨a, v, rfl, by have := DGet.k (k := Sum.inr k) ho; rw [l] at this; exact this, q⟩
/-! #### statements -/
theorem rd_seq (h : t ⟨u ⟨nx, rt, bk, ct⟩, rt, bk, ct⟩ σ H) : tSeq t u ⟨nx, rt, bk, ct⟩ σ H := h
theorem rd_asg {k : Nat} (h : te σ H fun x H1 => nx (σ.set k (some x)) H1) : tAsg te (gName k) ⟨nx, rt, bk, ct⟩ σ H := h
theorem rd_asgG (h : te σ H fun x H1 => g x σ H1 nx) : tAsg te g ⟨nx, rt, bk, ct⟩ σ H := h
theorem rd_gname {k : Nat} {R : L2.St → Hp → Prop} (q : R (σ.set k (some v)) H) : gName k v σ H R := q
theorem rd_drop (h : te σ H fun _ H1 => nx σ H1) : tDrop te ⟨nx, rt, bk, ct⟩ σ H := h
theorem rd_ret (h : te σ H rt) : tRet te ⟨nx, rt, bk, ct⟩ σ H := h
theorem rd_next (q : nx σ H) : tNext ⟨nx, rt, bk, ct⟩ σ H := q
theorem rd_ifS {c : TT} (h : c σ H fun b H1 => if b = true then t ⟨nx, rt, bk, ct⟩ σ H1 else u ⟨nx, rt, bk, ct⟩ σ H1) : tIfS c t u ⟨nx, rt, bk, ct⟩ σ H := h
theorem rd_par {k l : Nat} (h : ts σ H fun vs H1 => ∃ v w, vs = [v, w] ∧ nx ((σ.set k (some v)).set l (some w)) H1) : tPar k l ts ⟨nx, rt, bk, ct⟩ σ H := h
theorem rd_two {a b : V} {R : V → V → Prop} (q : R a b) : ∃ v w, [a, b] = [v, w] ∧ R v w := ⟨a, b, rfl, q⟩
theorem rd_dput {td ty : TE} (h : tv σ H fun v H1 => td σ H1 fun x H2 => ty σ H2 fun y H3 => ∃ a H4, x = .ref a ∧ DPut H3 a y v H4 ∧ nx σ H4) : sDPut td ty tv ⟨nx, rt, bk, ct⟩ σ H := h
theorem rd_dputS {a : Addr} {kvs : List (Key × V)} {k : Str} {R : Hp → Prop} (ho : H a = some (.dK kvs)) (hl : kvs.length < sizeLine) (q : R (upd H a (.dK (putK kvs (Sum.inr k) v)))) : ∃ a' H4, V.ref a = .ref a' ∧ DPut H a' (.str k) v H4 ∧ R H4 :=
  ⟨a, _, rfl, DPut.k (k := Sum.inr k) ho hl, q⟩
theorem rd_sfld {f : Str} (h : tv σ H fun y H1 => ta σ H1 fun x H2 => ∃ a C dx fs, x = .ref a ∧ H2 a = some (.ins C dx fs) ∧ Cls K C ∧ NoAttr K C f ∧ fs.length < 1000 ∧ nx σ (upd H2 a (.ins C dx (putF f y fs)))) : sFld K ta tv f ⟨nx, rt, bk, ct⟩ σ H := h
theorem rd_sfldAt {f : Str} {a C dx : Addr} {fs : List (Str × V)} {R : Hp → Prop} (ho : H a = some (.ins C dx fs)) (c : Cls K C) (n : NoAttr K C f) (l : fs.length < 1000) (q : R (upd H a (.ins C dx (putF f v fs)))) :
    ∃ a' C dx fs, V.ref a = .ref a' ∧ H a' = some (.ins C dx fs) ∧ Cls K C ∧ NoAttr K C f ∧ fs.length < 1000 ∧ R (upd H a' (.ins C dx (putF f v fs))) := ⟨a, C, dx, fs, rfl, ho, c, n, l, q⟩
theorem rd_yes {Qb : Bool → Hp → Prop} (q : Qb true H) : tYes σ H Qb := q
theorem rd_nt {A B : Prop} (h : B) : if (!true) = true then A else B := h
theorem rd_nf {A B : Prop} (h : A) : if (!false) = true then A else B := h
theorem rd_for {wi : TI} {tb : TS} (h : wi σ H fun J H1 => ∃ W : Nat → Nat → L2.St → Hp → Prop, (∃ m, W 0 m σ H1) ∧ ∀ i m σ H, W i m σ H →
      (J.stop i H ∧ nx σ H) ∨ (J.go i H ∧ ∃ N : L2.St → Hp → Prop, (∀ σ' H', N σ' H' → ∃ m', m' < m ∧ W (i + 1) m' σ' H') ∧ ∀ x H', J.yld i H x H' → g x σ H' fun σ2 H2 => tb ⟨N, rt, nx, N⟩ σ2 H2)) : tFor wi g tb ⟨nx, rt, bk, ct⟩ σ H := h
theorem rd_lc {wi : TI} {tt : TT} {vs : List Nat} (h : wi σ H fun J H1 => ∀ D, H1 D = none → ∃ W : Nat → Nat → Hp → Prop, (∃ m, W 0 m (upd H1 D (.lst []))) ∧ ∀ i m H, W i m H →
  (J.stop i H ∧ Q (.ref D) H) ∨ (J.go i H ∧ ∃ Nx : Hp → Prop, (∀ H', Nx H' → ∃ m', m' < m ∧ W (i + 1) m' H') ∧ ∀ x H', J.yld i H x H' → g x (wipe σ vs) H' fun σ2 H2 => wipe σ2 vs = wipe σ vs ∧ tt σ2 H2 fun b H3 =>
    if b = true then te σ2 H3 fun y H4 => ∃ acc, H4 D = some (.lst acc) ∧ acc.length < sizeLine ∧ Nx (upd H4 D (.lst (acc ++ [y]))) else Nx H3)) : tLc wi g tt te vs σ H Q := h
theorem rd_iStr {R : It → Hp → Prop} (h : te σ H fun v H1 => ∃ x, v = .str x ∧ R (Its x) H1) : iStr te σ H R := h
theorem rd_iStrAt {z : Str} {R : Str → Prop} (q : R z) : ∃ x, V.str z = .str x ∧ R x := ⟨z, rfl, q⟩
theorem rd_iList {R : It → Hp → Prop} (h : te σ H fun x H1 => ∃ a, x = .ref a ∧ (∃ xs, SqL K H1 a xs) ∧ R (Itl K a) H1) : iList K te σ H R := h
theorem rd_iTup {R : It → Hp → Prop} (h : te σ H fun x H1 => ∃ a, x = .ref a ∧ (∃ xs, SqT K H1 a xs) ∧ R (Itt K a) H1) : iTup K te σ H R := h
theorem rd_iListAt {a : Addr} {xs : List V} {R : Addr → Prop} (h : SqL K H a xs) (q : R a) : ∃ a', V.ref a = .ref a' ∧ (∃ xs, SqL K H a' xs) ∧ R a' := ⟨a, rfl, ⟨_, h⟩, q⟩
theorem rd_iTupAt {a : Addr} {xs : List V} {R : Addr → Prop} (h : SqT K H a xs) (q : R a) : ∃ a', V.ref a = .ref a' ∧ (∃ xs, SqT K H a' xs) ∧ R a' := ⟨a, rfl, ⟨_, h⟩, q⟩
theorem rd_iRng1 {R : It → Hp → Prop} (h : ts σ H fun vs H1 => ∃ j : Int, vs = [.int j] ∧ -(2 ^ 62) ≤ j ∧ j < 2 ^ 62 ∧ R (Itr 0 j.toNat) H1) : iRng1 ts σ H R := h
theorem rd_iRngAt {n : Int} {R : Int → Prop} (h1 : -(2 ^ 62) ≤ n) (h2 : n < 2 ^ 62) (q : R n) : ∃ j : Int, [V.int n] = [.int j] ∧ -(2 ^ 62) ≤ j ∧ j < 2 ^ 62 ∧ R j := ⟨n, rfl, h1, h2, q⟩
theorem rd_iEnum {R : It → Hp → Prop} (h : ts σ H fun vs H1 => ∃ a xs, vs = [.ref a] ∧ SqL K H1 a xs ∧ R (Ite K a) H1) : iEnum K ts σ H R := h
theorem rd_iEnumAt {a : Addr} {xs : List V} {R : Addr → Prop} (h : SqL K H a xs) (q : R a) : ∃ a' ys, [V.ref a] = [.ref a'] ∧ SqL K H a' ys ∧ R a' := ⟨a, xs, rfl, h, q⟩
theorem rd_sl {r : V → Option Int → Option Int → Hp → VK → Prop} {tl th : TO} (h : te σ H fun x H1 => tl σ H1 fun lo H2 => th σ H2 fun hi H3 => r x lo hi H3 Q) : L2.tSl r te tl th σ H Q := h
theorem rd_noPart {R : Option Int → Hp → Prop} (q : R none H) : tNoPart σ H R := q
theorem rd_part {R : Option Int → Hp → Prop} (h : te σ H fun x H1 => ∃ i, x = .int i ∧ R (some i) H1) : tPart te σ H R := h
theorem rd_partAt {R : Int → Prop} (q : R i) : ∃ k, V.int i = .int k ∧ R k := ⟨i, rfl, q⟩
theorem rd_slS {z : Str} {lo hi : Option Int} (hz : z.length ≤ 100000) (q : Q (.str (cutS z lo hi)) H) : rSlS (.str z) lo hi H Q := ⟨z, rfl, sz_of hz, q⟩
theorem rd_slL {p : Addr} {xs : List V} {lo hi : Option Int} (h : SqL K H p xs) (q : ∀ l H', H l = none → Ex H H' → H' l = some (.lst (cutV xs lo hi)) → Q (.ref l) H') : rSlL K (.ref p) lo hi H Q := ⟨p, xs, rfl, h, rd_new q⟩
theorem rd_make {C : Addr} {sp : Sp} {dvs : List V} {E : XK} (h : ts σ H fun vs H1 => ∀ x dx, H1 x = none → H1 dx = none → dx ≠ x → sp (.ref x :: (vs ++ dvs)) (upd (upd H1 dx (.own x)) x (.ins C dx [])) (fun v H2 => v = .non ∧ Q (.ref x) H2) E) : tMake C sp dvs E ts σ H Q := h
theorem rd_meth {C : Addr} {m : Str} {sp : Sp} {dvs : List V} {E : XK} (h : ta σ H fun x H1 => ∃ a dx fs, x = .ref a ∧ H1 a = some (.ins C dx fs) ∧ fs.lookup m = none ∧ ts σ H1 fun vs H2 => sp (x :: (vs ++ dvs)) H2 Q E) : tMeth C m sp dvs E ta ts σ H Q := h
theorem rd_bm {T : String} {r : V → List V → Hp → VK → Prop} (h : ta σ H fun x H1 => tyV K T x H1 ∧ ts σ H1 fun xs H2 => r x xs H2 Q) : tBM K T r ta ts σ H Q := h
theorem rd_tyL {l : Addr} {xs : List V} {R : Prop} (h : SqL K H l xs) (q : R) : tyV K "list" (.ref l) H ∧ R := ⟨.inl ⟨rfl, _, h⟩, q⟩
theorem rd_tupm {r : V → List V → Hp → VK → Prop} (h : ta σ H fun x H1 => TupF H1 x ∧ ts σ H1 fun xs H2 => r x xs H2 Q) : tTupM r ta ts σ H Q := h
theorem st_frz {a : Addr} {o : Obj} {xs : List V} (h : H a = some (.frz o (.tup xs))) : SqT K H a xs := .inl (.inr ⟨o, h⟩)
theorem rd_aug {k : Nat} {ti : TIp} (hv : σ[k]? = some (some v)) (q : te σ H fun y H1 => ti v y H1 fun z H2 => nx (σ.set k (some z)) H2) : tAug k te ti ⟨nx, rt, bk, ct⟩ σ H := ⟨v, hv, q⟩
theorem rd_append {l : Addr} {xs : List V} (h : H l = some (.lst xs)) (hl : xs.length < sizeLine) (q : Q .non (upd H l (.lst (xs ++ [y])))) : rAppend (.ref l) [y] H Q := ⟨l, xs, y, rfl, rfl, h, hl, q⟩
theorem rd_ext {l b : Addr} {xs zs : List V} (h1 : H l = some (.lst xs)) (h2 : H b = some (.lst zs)) (h3 : xs.length + zs.length ≤ sizeLine) (q : Q (.ref l) (upd H l (.lst (xs ++ zs)))) : rExt2 (.ref l) (.ref b) H Q := ⟨l, b, xs, zs, rfl, rfl, h1, h2, h3, q⟩
theorem rd_while {c : TT} {tb : TS} (W : Nat → L2.St → Hp → Prop) (m0 : Nat) (h0 : W m0 σ H)
    (hs : ∀ m σ H, W m σ H → c σ H fun b H1 => if b = true then ∃ N : L2.St → Hp → Prop, (∀ σ' H', N σ' H' → ∃ m', m' < m ∧ W m' σ' H') ∧ tb ⟨N, rt, nx, N⟩ σ H1 else nx σ H1) : tWhile c tb ⟨nx, rt, bk, ct⟩ σ H := ⟨W, ⟨m0, h0⟩, hs⟩
theorem rd_m1 {r : V → List V → Hp → VK → Prop} (h : ta σ H fun x H1 => (∃ a, x = .str a) ∧ tb σ H1 fun y H2 => r x [y] H2 Q) : tM1 r ta tb σ H Q := h
theorem rd_isS {z : Str} {R : Prop} (q : R) : (∃ a, V.str z = .str a) ∧ R := ⟨⟨z, rfl⟩, q⟩
/-! #### built-ins -/
theorem rd_isi {t c : V} {a b : Value} {r : Bool} (h1 : ClsV c b) (h2 : TyX K H t a) (h3 : PySem.W.kitOne K a b = some r) (q : Q (.bl r) H) : rIsi K [t, c] H Q := ⟨t, c, a, b, r, rfl, h1, h2, h3, q⟩
theorem rd_isiStr {z : Str} (q : Q (.bl true) H) : rIsi K [.str z, .ty "str"] H Q := rd_isi (a := .type "str") (b := .type "str") (.ty _) (.base (.str z)) (kit_ty (by decide +kernel)) q
theorem rd_lenS {z : Str} {R : Str → Prop} (hz : z.length ≤ 100000) (q : R z) : ∃ x, [V.str z] = [.str x] ∧ x.length ≤ sizeLine ∧ R x := ⟨z, rfl, sz_of hz, q⟩
theorem rd_lenL {a : Addr} {xs : List V} {R : List V → Prop} (h : SqL K H a xs) (q : R xs) : ∃ p ys, [V.ref a] = [.ref p] ∧ (SqL K H p ys ∨ SqT K H p ys) ∧ R ys := ⟨a, xs, rfl, .inl h, q⟩
theorem rd_lenT {a : Addr} {xs : List V} {R : List V → Prop} (h : SqT K H a xs) (q : R xs) : ∃ p ys, [V.ref a] = [.ref p] ∧ (SqL K H p ys ∨ SqT K H p ys) ∧ R ys := ⟨a, xs, rfl, .inr h, q⟩
theorem rd_intI {R : Int → Prop} {R' : Bool → Prop} (q : R i) : (∃ k, [V.int i] = [.int k] ∧ R k) ∨ ∃ k, [V.int i] = [.bl k] ∧ R' k := .inl ⟨i, rfl, q⟩
theorem rd_intB {b : Bool} {R : Int → Prop} {R' : Bool → Prop} (q : R' b) : (∃ k, [V.bl b] = [.int k] ∧ R k) ∨ ∃ k, [V.bl b] = [.bl k] ∧ R' k := .inr ⟨b, rfl, q⟩
theorem rd_abs {R : Int → Prop} (q : R i) : ∃ k, [V.int i] = [.int k] ∧ R k := ⟨i, rfl, q⟩
theorem rd_strs {x y : Str} {R : Str → Str → Prop} (h : x.length + y.length ≤ 100000) (q : R x y) : ∃ i j, V.str x = .str i ∧ V.str y = .str j ∧ i.length + j.length ≤ sizeLine ∧ R i j := ⟨x, y, rfl, rfl, sz_of h, q⟩
theorem rd_sign {c : Nat} {z : Str} {R : Nat → Str → Prop} (q : R c z) : ∃ (d : Nat) (y : Str), V.str ⟨#[c]⟩ = .str ⟨#[d]⟩ ∧ V.str z = .str y ∧ R d y := ⟨c, z, rfl, rfl, q⟩
theorem rd_mulS {z : Str} {R : Str → Int → Prop} (h1 : z.length ≤ 16) (h2 : -(2 ^ 63) ≤ i) (h3 : i ≤ 1048576) (q : R z i) : ∃ (y : Str) (k : Int), V.str z = .str y ∧ V.int i = .int k ∧ y.length ≤ 16 ∧ -(2 ^ 63) ≤ k ∧ k ≤ 1048576 ∧ R y k := ⟨z, i, rfl, rfl, h1, h2, h3, q⟩
theorem rd_isN' {R : Prop} (q : R) : V.non = V.non ∧ R := ⟨rfl, q⟩
theorem rd_ixS {z : Str} {c : Nat} (hz : z.length ≤ 100000) (h : atI z.cps.toList i = some c) (q : Q (.str ⟨#[c]⟩) H) : rIxS (.str z) (.int i) H Q := ⟨z, i, c, rfl, rfl, sz_of hz, h, q⟩
theorem rd_all {p : Addr} {bs : List Bool} (h : SqL K H p (bs.map V.bl)) (q : Q (.bl (bs.all id)) H) : rAll K [.ref p] H Q := ⟨p, bs, rfl, h, q⟩
theorem rd_any {p : Addr} {bs : List Bool} (h : SqL K H p (bs.map V.bl)) (q : Q (.bl (bs.any id)) H) : rAny K [.ref p] H Q := ⟨p, bs, rfl, h, q⟩
theorem len_cps (z : Str) : z.cps.toList.length = z.length := by simp [Str.length]
/-- what isinstance wants of an own class -/
structure IsiC (K : PySem.W.Frag) (C : Addr) : Prop where
  ha : PySem.W.findIn K (.ref C) "__class__" = some (some (.builtin "object.__class__"))
  hn : PySem.W.specialIn K (.builtin "object.__class__") "__get__" = some (some (.builtin "getset_descriptor.__get__"))
  htk : PySem.W.takesIn K (.builtin "object.__class__") = some true
  hm : PySem.W.mroIn K C (.type "object") = some true
  self : PySem.W.kitOne K (.ref C) (.ref C) = some true
theorem rd_isiOwn {a C dx : Addr} {fs : List (Str × V)} (c : Cls K C) (I : IsiC K C) (ho : H a = some (.ins C dx fs)) (q : Q (.bl true) H) : rIsi K [.ref a, .ref C] H Q :=
  rd_isi (.own C) (.base (.ins ho c I.ha I.hn I.htk I.hm)) I.self q
end
end Aq
/-! zip(tuple, list), out of the library's zip over any two iterators (KE.GoesZip, KE.GoesMore) -/
namespace Aq
open PySem PySem.Spec PyProof.Rows L2
section
/-- a tuple's items beside a list's, in new pairs -/
def ItzM (K : PySem.W.Frag) (a b : Addr) : It where
  go := fun i H => ∃ xs ys, SqT K H a xs ∧ SqL K H b ys ∧ i < xs.length ∧ i < ys.length
  yld := fun i H v H' => ∃ T x y, v = .ref T ∧ H T = none ∧ H' = upd H T (.tup [x, y]) ∧ (∀ xs, SqT K H a xs → xs[i]? = some x) ∧ (∀ ys, SqL K H b ys → ys[i]? = some y)
  stop := fun i H => ∃ xs ys, SqT K H a xs ∧ SqL K H b ys ∧ i ≤ xs.length ∧ i ≤ ys.length ∧ (i = xs.length ∨ i = ys.length)
/-- the five cells of such a zip, i turns in -/
structure ZmAt (z TI TO i1 i2 a b : Addr) (i : Nat) (h : Heap) : Prop where
  zz : IsZip h z TI TO .none
  ti : IsTupOf2 h TI (.ref i1) (.ref i2)
  to : ∃ x y, IsTupOf2 h TO x y
  one : h.IsTupleIter i1 a i
  two : h.IsListIter i2 b i
variable {P : Program} {w : World} {K : PySem.W.Frag} {elts : List Expr} {kk : Nat} {tpos : Pos} {a b z TI TO i1 i2 : Addr}
theorem ZmAt.lt {i : Nat} {h : Heap} (Z : ZmAt z TI TO i1 i2 a b i h) {c : Addr} (hc : c ∈ [z, TI, TO, i1, i2]) : c < h.objs.size := by
  obtain ⟨zz, ti, ⟨x, y, to⟩, ⟨_, one, _⟩, ⟨_, two, _⟩⟩ := Z
  simp only [List.mem_cons, List.not_mem_nil, or_false] at hc
  rcases hc with rfl | rfl | rfl | rfl | rfl <;> exact Heap.lt_size ‹_›
theorem turn_zipM (S : ZipSep2 z TI TO i1 i2 [i1, a] [i2, b]) (na : a ≠ i1) (nb : b ≠ i2) : Turn P w K (.Tuple elts kk tpos) (ItzM K a b) [z, TI, TO, i1, i2] z (ZmAt z TI TO i1 i2 a b) := by
  have ks : ∀ {c : Addr}, c ∉ [z, TI, TO, i1, i2] → c ≠ z ∧ c ≠ TO ∧ c ≠ i1 ∧ c ≠ i2 := fun {c} h => by
    simp only [List.mem_cons, List.not_mem_nil, or_false, not_or] at h; exact ⟨h.1, h.2.2.1, h.2.2.2.1, h.2.2.2.2⟩
  refine ⟨by simp, fun i h Z c hc => ?_, fun i h h' Z k => ?_, ?_, ?_, fun A i s Q E Z h => wpAny_pyIter_zip Z.zz h⟩
  · obtain ⟨zz, ti, ⟨x, y, to⟩, ⟨o1, one, _, d1⟩, ⟨o2, two, _, d2⟩⟩ := Z
    simp only [List.mem_cons, List.not_mem_nil, or_false] at hc
    rcases hc with rfl | rfl | rfl | rfl | rfl
    · exact ⟨_, zz, nofun⟩
    · exact ⟨_, ti, nofun⟩
    · exact ⟨_, to, nofun⟩
    · exact ⟨o1, one, fun v q => nomatch d1.symm.trans q⟩
    · exact ⟨o2, two, fun v q => nomatch d2.symm.trans q⟩
  · obtain ⟨x, y, to⟩ := Z.to
    exact ⟨k z (by simp) _ Z.zz, k TI (by simp) _ Z.ti, ⟨x, y, k TO (by simp) _ to⟩, Z.one.at (k i1 (by simp)), Z.two.at (k i2 (by simp))⟩
  · intro X eP ew eK calm i pins s σ H E I fp Z go
    subst eP ew eK
    have Zl := @Z.lt
    obtain ⟨zz, ti, ⟨x0, y0, to⟩, one, two⟩ := Z
    obtain ⟨xs, ys, qx, qy, lx, ly⟩ := go
    obtain ⟨us, rx, px, _⟩ := I.tuple qx
    obtain ⟨vs, ry, py, _⟩ := I.list qy
    have ex := rx.length
    have ey := ry.length
    have hh : X.A.in1.handled = none := I.ok.hd calm
    refine wpAny_pyNext_zipD2_item S (Draws.tuple hh i1 a na us.toArray) (Draws.list hh i2 b nb vs.toArray) zz ti to ⟨one, px⟩ ⟨two, py.isList⟩ (by simp; omega) (by simp; omega) fun u v h' tk hu hv zz' to' st1 st2 new sz keep => ?_
    refine ⟨_, rfl, wpAny_letOwnedTupleGo_zip (s := { s with heap := h', toks := tk }) zz' fun h2 zz2 sb => ?_⟩
    have up : ∀ c o, c ≠ z → h'.get? c = some o → h2.get? c = some o := fun c o n e => (sb.2 c n).trans e
    have nz : s.heap.objs.size ≠ z := Nat.ne_of_gt (Zl (by simp))
    obtain ⟨x, hx, hu'⟩ : ∃ x, xs[i]? = some x ∧ RelV x u := by
      obtain ⟨u', e1, e2⟩ := rx.get (List.getElem?_eq_getElem lx)
      have : u' = u := by have : us[i]? = some u := by simpa using hu
                          rw [this] at e1; exact (Option.some.inj e1).symm
      exact ⟨_, List.getElem?_eq_getElem lx, this ▸ e2⟩
    obtain ⟨y, hy, hv'⟩ : ∃ y, ys[i]? = some y ∧ RelV y v := by
      obtain ⟨v', e1, e2⟩ := ry.get (List.getElem?_eq_getElem ly)
      have : v' = v := by have : vs[i]? = some v := by simpa using hv
                          rw [this] at e1; exact (Option.some.inj e1).symm
      exact ⟨_, List.getElem?_eq_getElem ly, this ▸ e2⟩
    have ok : ObjOk X.prog X.w (upd H s.heap.objs.size (.tup [x, y])) h2 s.heap.objs.size (.tup [x, y]) := ⟨show 2 ≤ sizeLine by decide, [u, v], .cons hu' (.cons hv' .nil), _, up _ _ nz new, rfl, _, rfl⟩
    have J := I.turnedNew (t' := tk) (fun c o nc e => up c o (ks nc).1 (keep c o (ks nc).1 (ks nc).2.1 (ks nc).2.2.1 (ks nc).2.2.2 e)) fp (Nat.le_refl _) ok
    refine ⟨.ref s.heap.objs.size, _, J, rfl, ⟨_, x, y, rfl, I.hok.fresh (Nat.le_refl _), rfl, fun l hl => I.tuple_inj hl qx ▸ hx, fun l hl => I.list_inj hl qy ▸ hy⟩, ?_, fun c hc => ?_⟩
    · exact ⟨zz2, up _ _ S.TIz (keep TI _ S.TIz S.TITO S.TIi1 S.TIi2 ti), ⟨u, v, up _ _ S.TOz to'⟩, st1.1.at fun o e => up i1 o S.zi1.symm e, st2.1.at fun o e => up i2 o S.zi2.symm e⟩
    · rw [upd_ne (Nat.ne_of_lt (Zl hc))]; exact (fp c hc).1
  · intro X eP ew eK calm i pins s σ H E I fp Z stop
    subst eP ew eK
    obtain ⟨zz, ti, ⟨x0, y0, to⟩, one, two⟩ := Z
    obtain ⟨xs, ys, qx, qy, lx, ly, en⟩ := stop
    obtain ⟨us, rx, px, _⟩ := I.tuple qx
    obtain ⟨vs, ry, py, _⟩ := I.list qy
    have ex := rx.length
    have ey := ry.length
    have hh : X.A.in1.handled = none := I.ok.hd calm
    exact wpAny_pyNext_zipD2_end S (Draws.tuple hh i1 a na us.toArray) (Draws.list hh i2 b nb vs.toArray) zz ti to ⟨one, px⟩ ⟨two, py.isList⟩ (by simp; omega) (by simp; omega) (by simp; omega)
      fun h' tk keep => ⟨rfl, I.turnedL (t' := tk) (fun c o nc e => keep c o (ks nc).1 (ks nc).2.1 (ks nc).2.2.1 (ks nc).2.2.2 e) fp⟩
end
def iZipM (K : PySem.W.Frag) (ta : TA) : TI := fun σ H R => ta σ H fun vs H1 => ∃ a b xs ys, vs = [.ref a, .ref b] ∧ SqT K H1 a xs ∧ SqL K H1 b ys ∧ R (ItzM K a b) H1
theorem pi_zipM {X : Cx} {e e2 : Expr} {ta : TA} {p pos tpos : Pos} {elts : List Expr} {kk : Nat} (g : Gl X "zip") (m : X.mg "zip" = none) (args : PA X [e, e2] ta)
    (s1 : starEach [e, e2] X.env = (false, eval e X.env) :: starEach [e2] X.env := by rfl) (s2 : (backTo pos (starEach [e2] X.env)).any (·.1) = false := by rfl) : PI X (.Tuple elts kk tpos) (.Call (.Name "zip" p) [e, e2] [] pos) (iZipM X.K ta) := by
  constructor
  intro pins s σ H R I rd
  refine Call_ (ld_blt I g m PyProof.Rows.boot_zip (PyProof.Rows.callWith_type1 (thn (args.run pos pins s σ H _ I rd) ?_) s1 s2))
  rintro us t ⟨vs, H1, J, rel, a, b, xs, ys, rfl, qx, qy, r⟩
  obtain ⟨u1, u2, rfl, ra, rb⟩ := rel.two
  cases ra
  cases rb
  obtain ⟨as, rx, px, _⟩ := J.tuple qx
  obtain ⟨bs, ry, py, _⟩ := J.list qy
  have la : a < t.heap.objs.size := let ⟨_, q, _⟩ := px; Heap.lt_size q
  have lb : b < t.heap.objs.size := let ⟨_, q, _⟩ := py.isList; Heap.lt_size q
  refine zip_begins2 (begins_tuple a as.toArray) (begins_list b bs.toArray) px py.isList fun h' zz ti to o1 o2 _ keep => wpAny_pyIter_zip zz ?_
  refine ⟨_, _, _, _, H1, rfl, J.kept (t' := t.toks) keep, turn_zipM (zip_sep2 (N := t.heap.objs.size) (fp1 := [a]) (fp2 := [b]) (by simp; omega) (by simp; omega)) (Nat.ne_of_lt la) (Nat.ne_of_lt (Nat.lt_succ_of_lt lb)), ⟨zz, ti, ⟨_, _, to⟩, ⟨_, o1, rfl, rfl⟩, ⟨_, o2, rfl, rfl⟩⟩, fun c hc => ?_, r⟩
  have le : t.heap.objs.size ≤ c := by simp only [List.mem_cons, List.not_mem_nil, or_false] at hc; rcases hc with q | q | q | q | q <;> rw [q] <;> first | exact Nat.le_refl _ | exact Nat.le_add_right _ _
  exact J.fpOk le (J.hok.fresh le)
end Aq
/-! loops and comprehensions over anything that is walked -/
namespace Aq
open PySem L2 Evl
/-- what an iterator gives while C stands: n turns, Y i x of each -/
structure Yl (J : It) (C : Hp → Prop) (n : Nat) (Y : Nat → V → Hp → Prop) : Prop where
  go : ∀ i H, C H → i < n → J.go i H
  yld : ∀ i H x H', C H → i < n → J.yld i H x H' → Ex H H' ∧ Y i x H'
  stop : ∀ H, C H → J.stop n H
theorem yl_str (z : Str) : Yl (Its z) (fun _ => True) z.cps.size (fun i x _ => ∃ c, z.cps[i]? = some c ∧ x = .str ⟨#[c]⟩) :=
  ⟨fun i H _ h => h, fun i H x H' _ _ y => ⟨by rw [y.1]; exact Ex.refl _, y.2⟩, fun H _ => Nat.le_refl _⟩
theorem yl_list {K : PySem.W.Frag} {a : Addr} (xs : List V) : Yl (Itl K a) (fun H => SqL K H a xs) xs.length (fun i x _ => xs[i]? = some x) :=
  ⟨fun i H c h => ⟨xs, xs[i], c, by simp [h]⟩, fun i H x H' c _ y => ⟨by rw [y.1]; exact Ex.refl _, y.2 xs c⟩, fun H c => ⟨xs, c, Nat.le_refl _⟩⟩
theorem yl_tup {K : PySem.W.Frag} {a : Addr} (xs : List V) : Yl (Itt K a) (fun H => SqT K H a xs) xs.length (fun i x _ => xs[i]? = some x) :=
  ⟨fun i H c h => ⟨xs, xs[i], c, by simp [h]⟩, fun i H x H' c _ y => ⟨by rw [y.1]; exact Ex.refl _, y.2 xs c⟩, fun H c => ⟨xs, c, Nat.le_refl _⟩⟩
theorem yl_range (lo : Int) (n : Nat) : Yl (Itr lo n) (fun _ => True) n (fun i x _ => x = .int (lo + i)) :=
  ⟨fun i H _ h => h, fun i H x H' _ _ y => ⟨by rw [y.1]; exact Ex.refl _, y.2⟩, fun H _ => Nat.le_refl _⟩
theorem yl_enum {K : PySem.W.Frag} {a : Addr} (xs : List V) : Yl (Ite K a) (fun H => SqL K H a xs) xs.length (fun i x H => ∃ T y, x = .ref T ∧ H T = some (.tup [.int (i : Nat), y]) ∧ xs[i]? = some y) :=
  ⟨fun i H c h => ⟨xs, xs[i], c, by simp [h]⟩, fun i H x H' c _ y => by
    obtain ⟨T, z, rfl, hn, rfl, hx⟩ := y
    exact ⟨Ex.new hn, T, z, rfl, upd_same, hx xs c⟩, fun H c => ⟨xs, c, Nat.le_refl _⟩⟩
theorem yl_zipM {K : PySem.W.Frag} {a b : Addr} (xs ys : List V) (hl : xs.length = ys.length) : Yl (ItzM K a b) (fun H => SqT K H a xs ∧ SqL K H b ys) xs.length (fun i v H => ∃ T x y, v = .ref T ∧ H T = some (.tup [x, y]) ∧ xs[i]? = some x ∧ ys[i]? = some y) :=
  ⟨fun i H c h => ⟨xs, ys, c.1, c.2, h, hl ▸ h⟩, fun i H v H' c _ y => by
    obtain ⟨T, x, y, rfl, hn, rfl, h1, h2⟩ := y
    exact ⟨Ex.new hn, T, x, y, rfl, upd_same, h1 xs c.1, h2 ys c.2⟩, fun H c => ⟨xs, ys, c.1, c.2, Nat.le_refl _, Nat.le_of_eq hl, .inl rfl⟩⟩
theorem yl_zipL {K : PySem.W.Frag} {a b : Addr} (xs ys : List V) (hl : xs.length = ys.length) : Yl (Itz K a b) (fun H => SqL K H a xs ∧ SqL K H b ys) xs.length (fun i v H => ∃ T x y, v = .ref T ∧ H T = some (.tup [x, y]) ∧ xs[i]? = some x ∧ ys[i]? = some y) :=
  ⟨fun i H c h => ⟨xs, ys, xs[i], ys[i], c.1, c.2, by simp [h], by simp⟩, fun i H v H' c _ y => by
    obtain ⟨T, x, y, rfl, hn, rfl, h1, h2⟩ := y
    exact ⟨Ex.new hn, T, x, y, rfl, upd_same, h1 xs c.1, h2 ys c.2⟩, fun H c => ⟨xs, ys, c.1, c.2, .inl (Nat.le_refl _)⟩⟩
section
variable {J : It} {C : Hp → Prop} {n : Nat} {Y : Nat → V → Hp → Prop} {σ : L2.St} {H H1 : Hp} {Q : VK} {nx bk ct : L2.St → Hp → Prop} {rt : VK} {g : TG} {tb : TS} {wi : TI} {tt : TT} {te : TE} {vs : List Nat}
theorem for_yl (y : Yl J C n Y) (Pv : Nat → L2.St → Hp → Prop) (hC : ∀ i σ H, i ≤ n → Pv i σ H → C H) (h0 : Pv 0 σ H)
    (hs : ∀ i x σ H H', i < n → Pv i σ H → Ex H H' → Y i x H' → g x σ H' fun σ2 H2 => tb ⟨Pv (i + 1), rt, nx, Pv (i + 1)⟩ σ2 H2) (hd : ∀ σ H, Pv n σ H → nx σ H) :
    ∃ W : Nat → Nat → L2.St → Hp → Prop, (∃ m, W 0 m σ H) ∧ ∀ i m σ H, W i m σ H →
      (J.stop i H ∧ nx σ H) ∨ (J.go i H ∧ ∃ N : L2.St → Hp → Prop, (∀ σ' H', N σ' H' → ∃ m', m' < m ∧ W (i + 1) m' σ' H') ∧ ∀ x H', J.yld i H x H' → g x σ H' fun σ2 H2 => tb ⟨N, rt, nx, N⟩ σ2 H2) := by
  refine ⟨fun i m σ H => m = n - i ∧ i ≤ n ∧ Pv i σ H, ⟨n, by simp, Nat.zero_le _, h0⟩, ?_⟩
  rintro i m σ H ⟨rfl, hi, p⟩
  by_cases hlt : i < n
  · refine .inr ⟨y.go i H (hC i σ H hi p) hlt, Pv (i + 1), fun σ' H' p' => ⟨n - (i + 1), by omega, rfl, hlt, p'⟩, fun x H' q => ?_⟩
    obtain ⟨e, q⟩ := y.yld i H x H' (hC i σ H hi p) hlt q
    exact hs i x σ H H' hlt p e q
  · have e : i = n := by omega
    subst e
    exact .inl ⟨y.stop H (hC i σ H hi p), hd σ H p⟩
theorem lc_yl {D : Addr} {Qd : Hp → Prop} (y : Yl J C n Y) (Pv : Nat → Hp → Prop) (hC : ∀ i H, i ≤ n → Pv i H → C H) (h0 : Pv 0 (upd H1 D (.lst [])))
    (hs : ∀ i x H H', i < n → Pv i H → Ex H H' → Y i x H' → g x (wipe σ vs) H' fun σ2 H2 => wipe σ2 vs = wipe σ vs ∧ tt σ2 H2 fun b H3 =>
      if b = true then te σ2 H3 fun y H4 => ∃ acc, H4 D = some (.lst acc) ∧ acc.length < sizeLine ∧ Pv (i + 1) (upd H4 D (.lst (acc ++ [y]))) else Pv (i + 1) H3) (hd : ∀ H, Pv n H → Qd H) :
    ∃ W : Nat → Nat → Hp → Prop, (∃ m, W 0 m (upd H1 D (.lst []))) ∧ ∀ i m H, W i m H →
      (J.stop i H ∧ Qd H) ∨ (J.go i H ∧ ∃ Nx : Hp → Prop, (∀ H', Nx H' → ∃ m', m' < m ∧ W (i + 1) m' H') ∧ ∀ x H', J.yld i H x H' → g x (wipe σ vs) H' fun σ2 H2 => wipe σ2 vs = wipe σ vs ∧ tt σ2 H2 fun b H3 =>
        if b = true then te σ2 H3 fun y H4 => ∃ acc, H4 D = some (.lst acc) ∧ acc.length < sizeLine ∧ Nx (upd H4 D (.lst (acc ++ [y]))) else Nx H3) := by
  refine ⟨fun i m H => m = n - i ∧ i ≤ n ∧ Pv i H, ⟨n, by simp, Nat.zero_le _, h0⟩, ?_⟩
  rintro i m H ⟨rfl, hi, p⟩
  by_cases hlt : i < n
  · refine .inr ⟨y.go i H (hC i H hi p) hlt, Pv (i + 1), fun H' p' => ⟨n - (i + 1), by omega, rfl, hlt, p'⟩, fun x H' q => ?_⟩
    obtain ⟨e, q⟩ := y.yld i H x H' (hC i H hi p) hlt q
    exact hs i x H H' hlt p e q
  · have e : i = n := by omega
    subst e
    exact .inl ⟨y.stop H (hC i H hi p), hd H p⟩
theorem wipe1 {k : Nat} (x : Option V) : wipe ((wipe σ [k]).set k x) [k] = wipe σ [k] := by simp [wipe, List.set_set]
/-- a comprehension whose elements are values, found without writing -/
theorem lc_pure {k : Nat} {f : Nat → V} (y : Yl J C n Y) (hC : ∀ H', Ex H1 H' → C H') (hn : n ≤ 100000)
    (he : ∀ i x H', i < n → Ex H1 H' → Y i x H' → ∀ Q' : VK, (∀ H2, Ex H' H2 → Q' (f i) H2) → te ((wipe σ [k]).set k (some x)) H' Q')
    (q : ∀ p H', H1 p = none → Ex H1 H' → H' p = some (.lst ((List.range n).map f)) → Q (.ref p) H') :
    ∀ D, H1 D = none → ∃ W : Nat → Nat → Hp → Prop, (∃ m, W 0 m (upd H1 D (.lst []))) ∧ ∀ i m H, W i m H →
      (J.stop i H ∧ Q (.ref D) H) ∨ (J.go i H ∧ ∃ Nx : Hp → Prop, (∀ H', Nx H' → ∃ m', m' < m ∧ W (i + 1) m' H') ∧ ∀ x H', J.yld i H x H' → gName k x (wipe σ [k]) H' fun σ2 H2 => wipe σ2 [k] = wipe σ [k] ∧ tYes σ2 H2 fun b H3 =>
        if b = true then te σ2 H3 fun y H4 => ∃ acc, H4 D = some (.lst acc) ∧ acc.length < sizeLine ∧ Nx (upd H4 D (.lst (acc ++ [y]))) else Nx H3) := by
  intro D hD
  refine lc_yl y (fun i H' => Ex H1 H' ∧ H' D = some (.lst ((List.range i).map f))) (fun i H' _ p => hC H' p.1) ⟨Ex.new hD, upd_same⟩ (fun i x H' H2 hi p e yy => ?_) (fun H' p => q D H' hD p.1 p.2)
  show wipe ((wipe σ [k]).set k (some x)) [k] = wipe σ [k] ∧ _
  refine ⟨wipe1 _, rd_yes (iteT ?_)⟩
  refine he i x H2 hi (p.1.trans e) yy _ fun H3 e3 => ⟨_, e3 _ _ (e _ _ p.2), by simp; exact Nat.lt_of_lt_of_le (Nat.lt_of_lt_of_le hi hn) (by decide), ?_, ?_⟩
  · exact Ex.mut ((p.1.trans e).trans e3) hD
  · rw [upd_same, List.range_succ, List.map_append]; rfl
/-- the same, of the reading -/
theorem rd_lcPure {k : Nat} {f : Nat → V} (hw : ∀ R : It → Hp → Prop, R J H1 → wi σ H R) (y : Yl J C n Y) (hC : ∀ H', Ex H1 H' → C H') (hn : n ≤ 100000)
    (he : ∀ i x H', i < n → Ex H1 H' → Y i x H' → ∀ Q' : VK, (∀ H2, Ex H' H2 → Q' (f i) H2) → te ((wipe σ [k]).set k (some x)) H' Q')
    (q : ∀ p H', H1 p = none → Ex H1 H' → H' p = some (.lst ((List.range n).map f)) → Q (.ref p) H') : tLc wi (gName k) tYes te [k] σ H Q := hw _ (lc_pure y hC hn he q)
theorem rd_lcYl (hw : ∀ R : It → Hp → Prop, R J H1 → wi σ H R) (y : Yl J C n Y) (Pv : Addr → Nat → Hp → Prop) (hC : ∀ D i H, i ≤ n → Pv D i H → C H) (h0 : ∀ D, H1 D = none → Pv D 0 (upd H1 D (.lst [])))
    (hs : ∀ D i x H H', i < n → Pv D i H → Ex H H' → Y i x H' → g x (wipe σ vs) H' fun σ2 H2 => wipe σ2 vs = wipe σ vs ∧ tt σ2 H2 fun b H3 =>
      if b = true then te σ2 H3 fun y H4 => ∃ acc, H4 D = some (.lst acc) ∧ acc.length < sizeLine ∧ Pv D (i + 1) (upd H4 D (.lst (acc ++ [y]))) else Pv D (i + 1) H3) (hd : ∀ D H, Pv D n H → Q (.ref D) H) :
    tLc wi g tt te vs σ H Q := hw _ fun D hD => lc_yl y (Pv D) (hC D) (h0 D hD) (hs D) (hd D)
theorem rd_forYl (hw : ∀ R : It → Hp → Prop, R J H1 → wi σ H R) (y : Yl J C n Y) (Pv : Nat → L2.St → Hp → Prop) (hC : ∀ i σ H, i ≤ n → Pv i σ H → C H) (h0 : Pv 0 σ H1)
    (hs : ∀ i x σ H H', i < n → Pv i σ H → Ex H H' → Y i x H' → g x σ H' fun σ2 H2 => tb ⟨Pv (i + 1), rt, nx, Pv (i + 1)⟩ σ2 H2) (hd : ∀ σ H, Pv n σ H → nx σ H) : tFor wi g tb ⟨nx, rt, bk, ct⟩ σ H :=
  hw _ (for_yl y Pv hC h0 hs hd)
/-- the inner loop of a comprehension with two fors -/
theorem in_yl {D : Addr} {N : Hp → Prop} {τ : L2.St} (y : Yl J C n Y) (Pv : Nat → Hp → Prop) (hC : ∀ i H, i ≤ n → Pv i H → C H) (h0 : Pv 0 H1)
    (hs : ∀ i x H H', i < n → Pv i H → Ex H H' → Y i x H' → g x τ H' fun σ2 H2 => wipe σ2 vs = τ ∧ tt σ2 H2 fun b H3 =>
      if b = true then te σ2 H3 fun y H4 => ∃ acc, H4 D = some (.lst acc) ∧ acc.length < sizeLine ∧ Pv (i + 1) (upd H4 D (.lst (acc ++ [y]))) else Pv (i + 1) H3) (hd : ∀ H, Pv n H → N H) :
    ∃ W : Nat → Nat → Hp → Prop, (∃ m, W 0 m H1) ∧ ∀ i m H, W i m H →
      (J.stop i H ∧ N H) ∨ (J.go i H ∧ ∃ Nx : Hp → Prop, (∀ H', Nx H' → ∃ m', m' < m ∧ W (i + 1) m' H') ∧ ∀ x H', J.yld i H x H' → g x τ H' fun σ2 H2 => wipe σ2 vs = τ ∧ tt σ2 H2 fun b H3 =>
        if b = true then te σ2 H3 fun y H4 => ∃ acc, H4 D = some (.lst acc) ∧ acc.length < sizeLine ∧ Nx (upd H4 D (.lst (acc ++ [y]))) else Nx H3) := by
  refine ⟨fun i m H => m = n - i ∧ i ≤ n ∧ Pv i H, ⟨n, by simp, Nat.zero_le _, h0⟩, ?_⟩
  rintro i m H ⟨rfl, hi, p⟩
  by_cases hlt : i < n
  · refine .inr ⟨y.go i H (hC i H hi p) hlt, Pv (i + 1), fun H' p' => ⟨n - (i + 1), by omega, rfl, hlt, p'⟩, fun x H' q => ?_⟩
    obtain ⟨e, q⟩ := y.yld i H x H' (hC i H hi p) hlt q
    exact hs i x H H' hlt p e q
  · have e : i = n := by omega
    subst e
    exact .inl ⟨y.stop H (hC i H hi p), hd H p⟩
/-- two fors: the inner one is shown for each turn of the outer one, for any N that Pv (i + 1) gives -/
theorem rd_lc2Yl {wi1 : TI} {g1 : TG} {tt1 : TT} {vs1 : List Nat} (hw : ∀ R : It → Hp → Prop, R J H1 → wi σ H R) (y : Yl J C n Y) (Pv : Addr → Nat → Hp → Prop) (hC : ∀ D i H, i ≤ n → Pv D i H → C H) (h0 : ∀ D, H1 D = none → Pv D 0 (upd H1 D (.lst [])))
    (hs : ∀ D i x H H', i < n → Pv D i H → Ex H H' → Y i x H' → ∀ N : Hp → Prop, (∀ H, Pv D (i + 1) H → N H) → g x (wipe σ vs) H' fun σ2 H2 => wipe σ2 vs = wipe σ vs ∧ tt σ2 H2 fun b H3 =>
      if b = true then wi1 σ2 H3 fun J1 H4 => ∃ W1 : Nat → Nat → Hp → Prop, (∃ m, W1 0 m H4) ∧ ∀ j k H, W1 j k H →
        (J1.stop j H ∧ N H) ∨ (J1.go j H ∧ ∃ Nx1 : Hp → Prop, (∀ H', Nx1 H' → ∃ k', k' < k ∧ W1 (j + 1) k' H') ∧ ∀ x H', J1.yld j H x H' → g1 x (wipe σ2 vs1) H' fun σ3 H5 => wipe σ3 vs1 = wipe σ2 vs1 ∧ tt1 σ3 H5 fun b H6 =>
          if b = true then te σ3 H6 fun y H7 => ∃ acc, H7 D = some (.lst acc) ∧ acc.length < sizeLine ∧ Nx1 (upd H7 D (.lst (acc ++ [y]))) else Nx1 H6) else N H3) (hd : ∀ D H, Pv D n H → Q (.ref D) H) :
    tLc2 wi g tt wi1 g1 tt1 te vs vs1 σ H Q := by
  refine hw _ fun D hD => ⟨fun i m H => m = n - i ∧ i ≤ n ∧ Pv D i H, ⟨n, by simp, Nat.zero_le _, h0 D hD⟩, ?_⟩
  rintro i m H ⟨rfl, hi, p⟩
  by_cases hlt : i < n
  · refine .inr ⟨y.go i H (hC D i H hi p) hlt, Pv D (i + 1), fun H' p' => ⟨n - (i + 1), by omega, rfl, hlt, p'⟩, fun x H' q => ?_⟩
    obtain ⟨e, q⟩ := y.yld i H x H' (hC D i H hi p) hlt q
    exact hs D i x H H' hlt p e q _ (fun _ q => q)
  · have e : i = n := by omega
    subst e
    exact .inl ⟨y.stop H (hC D i H hi p), hd D H p⟩
end
/-- a list's items by place -/
theorem range_map {α β : Type} (l : List α) (f : α → β) (d : β) : (List.range l.length).map (fun i => (l[i]?.map f).getD d) = l.map f := by
  apply List.ext_getElem
  · simp
  · intro i h1 h2
    have : i < l.length := by simpa using h2
    simp [this]
end Aq
/-! what stays; dicts with text keys; texts as lists of codes -/
namespace Aq
open PySem L2 Evl
/-- all but p stays -/
def Kx (p : Addr) (H H' : Hp) : Prop := ∀ a o, a ≠ p → H a = some o → H' a = some o
theorem Kx.refl (p : Addr) (H : Hp) : Kx p H H := fun _ _ _ h => h
theorem Kx.trans {p : Addr} {H H1 H2 : Hp} (a : Kx p H H1) (b : Kx p H1 H2) : Kx p H H2 := fun x o n h => b x o n (a x o n h)
theorem Kx.of {p : Addr} {H H' : Hp} (e : Ex H H') : Kx p H H' := fun a o _ h => e a o h
theorem Kx.put {p : Addr} {H : Hp} {o : HO} : Kx p H (upd H p o) := fun a u n h => by rw [upd_ne n]; exact h
theorem Kx.ex {p : Addr} {H H' : Hp} (e : Kx p H H') (h : H p = none) : Ex H H' := fun a o q => e a o (ne_of_none q h) q
/-- .. and a younger thing may be written -/
theorem Kx.mut {p q : Addr} {H H' : Hp} {o : HO} (e : Kx p H H') (h : H q = none) : Kx p H (upd H' q o) := fun a u n ha => by rw [upd_ne (ne_of_none ha h)]; exact e a u n ha
theorem Kx.lst {p a : Addr} {H H' : Hp} {xs : List V} {kvs : List (Key × V)} (e : Kx p H H') (hp : H p = some (.dK kvs)) (h : H a = some (.lst xs)) : H' a = some (.lst xs) := e a _ (ne_of h hp (by intro z; cases z)) h
theorem Kx.tup {p a : Addr} {H H' : Hp} {xs : List V} {kvs : List (Key × V)} (e : Kx p H H') (hp : H p = some (.dK kvs)) (h : H a = some (.tup xs)) : H' a = some (.tup xs) := e a _ (ne_of h hp (by intro z; cases z)) h
theorem Kx.free {p a : Addr} {H H' : Hp} (e : Kx p H H') (n : a ≠ p) (h : H' a = none) : H a = none := by
  cases q : H a with
  | none => rfl
  | some o => rw [e a o n q] at h; cases h
theorem Ex.free {a : Addr} {H H' : Hp} (e : Ex H H') (h : H' a = none) : H a = none := fresh_back e h
theorem upd_lst {H : Hp} {a b : Addr} {o : HO} {u : HO} (n : b ≠ a) (h : H b = some u) : upd H a o b = some u := by rw [upd_ne n]; exact h
/-! ### data -/
theorem canLay_strs : ∀ ws : List Str, (∀ x ∈ ws, PyData.strOk x = true) → PyData.canLay0 (.tuple (ws.map PyData.str)) = true
  | [], _ => by simp [PyData.canLay0, PyData.canLayAll0]
  | x :: r, h => by
    have ih := canLay_strs r fun y hy => h y (List.mem_cons_of_mem _ hy)
    simp only [PyData.canLay0, List.map_cons, PyData.canLayAll0] at ih ⊢
    simp [PyData.canLay0, ih, h x (List.mem_cons_self ..)]
theorem depthAll_strs : ∀ ws : List Str, PyData.depthAll (ws.map PyData.str) ≤ 1
  | [] => by simp [PyData.depthAll]
  | x :: r => by
    have ih := depthAll_strs r
    simp only [List.map_cons, PyData.depthAll, PyData.depth]
    omega
theorem shaped_strs (ws : List Str) (h : ∀ x ∈ ws, PyData.strOk x = true) : SeqAt.shaped (.tuple (ws.map PyData.str)) = true := by
  unfold SeqAt.shaped
  rw [canLay_strs ws h, Bool.true_and]
  apply decide_eq_true
  have := depthAll_strs ws
  simp only [PyData.depth]
  omega
theorem eqvAll_strs : ∀ ws zs : List Str, PyData.eqvAll (ws.map PyData.str) (zs.map PyData.str) = decide (ws = zs)
  | [], [] => rfl
  | [], _ :: _ => rfl
  | _ :: _, [] => rfl
  | x :: r, y :: t => by
    rw [List.map_cons, List.map_cons, PyData.eqvAll, eqvAll_strs r t, PyData.eqv, Bool.eq_iff_iff]
    simp
theorem dp_strs {K : PySem.W.Frag} {H : Hp} : ∀ ws : List Str, DpAll K H (ws.map V.str) (ws.map PyData.str)
  | [] => .nil
  | x :: r => .cons (.str x) (dp_strs r)
theorem putF_new {f : Str} {v : V} : ∀ {fs : List (Str × V)} (ks : List Str) (e : fs.map (·.1) = ks) (h : f ∉ ks), putF f v fs = fs ++ [(f, v)]
  | [], _, _, _ => rfl
  | (g, x) :: r, ks, e, h => by
    subst e
    have hg : ¬ g = f := fun q => h (by simp [q])
    have := putF_new (f := f) (v := v) (fs := r) _ rfl (fun q => h (by simp at q ⊢; exact .inr q))
    show (if g = f then _ else (g, x) :: putF f v r) = _
    rw [if_neg hg, this]
    rfl
theorem putF_len {f : Str} {v : V} : ∀ fs : List (Str × V), (putF f v fs).length ≤ fs.length + 1
  | [] => Nat.le_refl _
  | (g, x) :: r => by
    show (if g = f then (g, v) :: r else (g, x) :: putF f v r).length ≤ _
    split
    · simp
    · have := putF_len (f := f) (v := v) r
      simp; omega
theorem putF_lt {f : Str} {v : V} {fs : List (Str × V)} {n : Nat} (h : fs.length ≤ n) (hn : n < 999) : (putF f v fs).length ≤ n + 1 ∧ (putF f v fs).length < 1000 := by
  have := putF_len (f := f) (v := v) fs
  omega
theorem canLay_ints : ∀ ns : List Int, PyData.canLayAll0 (ns.map PyData.int) = true
  | [] => by simp [PyData.canLayAll0]
  | x :: r => by
    have ih := canLay_ints r
    rw [List.map_cons, PyData.canLayAll0, ih]; simp [PyData.canLay0]
theorem depthAll_ints : ∀ ns : List Int, PyData.depthAll (ns.map PyData.int) ≤ 1
  | [] => by simp [PyData.depthAll]
  | x :: r => by
    have ih := depthAll_ints r
    simp only [List.map_cons, PyData.depthAll, PyData.depth]
    omega
theorem shaped_ints (ns : List Int) : SeqAt.shaped (.list (ns.map PyData.int)) = true := by
  unfold SeqAt.shaped
  have := depthAll_ints ns
  rw [PyData.canLay0, canLay_ints, Bool.true_and]
  apply decide_eq_true
  simp only [PyData.depth]; omega
theorem dp_ints {K : PySem.W.Frag} {H : Hp} : ∀ ns : List Int, DpAll K H (ns.map V.int) (ns.map PyData.int)
  | [] => .nil
  | x :: r => .cons (.int x) (dp_ints r)
theorem eqv_emptyI : ∀ ns : List Int, PyData.eqv (.list (ns.map PyData.int)) (.list []) = ns.isEmpty
  | [] => rfl
  | _ :: _ => rfl
theorem eqv_emptyS : ∀ ns : List Str, PyData.eqv (.list (ns.map PyData.str)) (.list []) = ns.isEmpty
  | [] => rfl
  | _ :: _ => rfl
/-! ### the pen: a dict of three -/
section
variable {k1 k2 k3 : Str}
def pd3 (k1 k2 k3 : Str) (x y z : V) : List (Key × V) := [(Sum.inr k1, x), (Sum.inr k2, y), (Sum.inr k3, z)]
structure D3 (k1 k2 k3 : Str) : Prop where
  a : k1 ≠ k2
  b : k1 ≠ k3
  c : k2 ≠ k3
theorem D3.v1 (d : D3 k1 k2 k3) {x y z : V} : valV (pd3 k1 k2 k3 x y z) (Sum.inr k1) = some x := valV_pos rfl
theorem D3.v2 (d : D3 k1 k2 k3) {x y z : V} : valV (pd3 k1 k2 k3 x y z) (Sum.inr k2) = some y := by
  unfold pd3; rw [valV_neg (fun e => d.a (Sum.inr.inj e)), valV_pos rfl]
theorem D3.v3 (d : D3 k1 k2 k3) {x y z : V} : valV (pd3 k1 k2 k3 x y z) (Sum.inr k3) = some z := by
  unfold pd3; rw [valV_neg (fun e => d.b (Sum.inr.inj e)), valV_neg (fun e => d.c (Sum.inr.inj e)), valV_pos rfl]
theorem D3.p2 (d : D3 k1 k2 k3) {x y z v : V} : putK (pd3 k1 k2 k3 x y z) (Sum.inr k2) v = pd3 k1 k2 k3 x v z := by
  have e1 : ¬ (Sum.inr k1 : Key) = Sum.inr k2 := fun e => d.a (Sum.inr.inj e)
  have e2 : ¬ (Sum.inr k3 : Key) = Sum.inr k2 := fun e => d.c (Sum.inr.inj e).symm
  simp [putK, pd3, e1, e2, d.a, d.c, Ne.symm d.c]
theorem D3.p3 (d : D3 k1 k2 k3) {x y z v : V} : putK (pd3 k1 k2 k3 x y z) (Sum.inr k3) v = pd3 k1 k2 k3 x y v := by
  simp [putK, pd3, d.b, d.c]
theorem D3.m (d : D3 k1 k2 k3) {x y z : V} : mergeK [] (pd3 k1 k2 k3 x y z) = pd3 k1 k2 k3 x y z := by
  simp [mergeK, pd3, putK, d.a, d.b, d.c]
/-- the pen at pd, its cells at c: at most B of them were begun -/
def Pen (k1 k2 k3 : Str) (H : Hp) (pd c : Addr) (B : Nat) : Prop := ∃ (ns : List Int) (at_ rest : Int),
  H pd = some (.dK (pd3 k1 k2 k3 (.ref c) (.int at_) (.int rest))) ∧ H c = some (.lst (ns.map V.int)) ∧ 0 ≤ at_ ∧ at_ ≤ B ∧ 0 ≤ rest
variable {H H' : Hp} {pd c : Addr} {B B' : Nat}
theorem Pen.ex (p : Pen k1 k2 k3 H pd c B) (e : Ex H H') : Pen k1 k2 k3 H' pd c B := let ⟨ns, i, j, h1, h2, r⟩ := p; ⟨ns, i, j, e _ _ h1, e _ _ h2, r⟩
theorem Pen.mono (p : Pen k1 k2 k3 H pd c B) (h : B ≤ B') : Pen k1 k2 k3 H pd c B' := let ⟨ns, i, j, h1, h2, r1, r2, r3⟩ := p; ⟨ns, i, j, h1, h2, r1, by omega, r3⟩
theorem Pen.wr {D : Addr} {o : HO} (p : Pen k1 k2 k3 H pd c B) (n1 : pd ≠ D) (n2 : c ≠ D) : Pen k1 k2 k3 (upd H D o) pd c B :=
  let ⟨ns, i, j, h1, h2, r⟩ := p; ⟨ns, i, j, by rw [upd_ne n1]; exact h1, by rw [upd_ne n2]; exact h2, r⟩
theorem Pen.dK (p : Pen k1 k2 k3 H pd c B) : ∃ kvs, H pd = some (.dK kvs) := let ⟨_, _, _, h1, _⟩ := p; ⟨_, h1⟩
theorem Pen.np {D : Addr} (p : Pen k1 k2 k3 H pd c B) (h : H D = none) : pd ≠ D := let ⟨_, _, _, h1, _⟩ := p; ne_of_none h1 h
theorem Pen.nc {D : Addr} (p : Pen k1 k2 k3 H pd c B) (h : H D = none) : c ≠ D := let ⟨_, _, _, _, h2, _⟩ := p; ne_of_none h2 h
/-- draws -/
def spDraw (k1 k2 k3 : Str) : Sp := fun vs H Q _ => ∃ (pd c : Addr) (B : Nat) (m : Int), vs = [.ref pd, .int m] ∧ Pen k1 k2 k3 H pd c B ∧ B < 1000000000 ∧ 0 < m ∧ m < 1000000000 ∧
  ∀ r H', 0 ≤ r → r < m → Pen k1 k2 k3 H' pd c (B + 1) → Kx pd H H' → Q (.int r) H'
end
theorem atI_int {α : Type} {xs : List α} {i : Int} (h0 : 0 ≤ i) (h1 : i < xs.length) : ∃ v, v ∈ xs ∧ xs[i.toNat]? = some v ∧ atI xs i = some v := by
  have h : i.toNat < xs.length := by omega
  refine ⟨xs[i.toNat], List.getElem_mem h, List.getElem?_eq_getElem h, ?_⟩
  have e := atI_nat (List.getElem?_eq_getElem h)
  rw [Int.toNat_of_nonneg h0] at e
  exact e
theorem canLay_strsA : ∀ ws : List Str, (∀ x ∈ ws, PyData.strOk x = true) → PyData.canLayAll0 (ws.map PyData.str) = true := fun ws h => by
  have := canLay_strs ws h
  rwa [PyData.canLay0] at this
theorem shaped_strsL (ws : List Str) (h : ∀ x ∈ ws, PyData.strOk x = true) : SeqAt.shaped (.list (ws.map PyData.str)) = true := by
  unfold SeqAt.shaped
  rw [PyData.canLay0, canLay_strsA ws h, Bool.true_and]
  apply decide_eq_true
  have := depthAll_strs ws
  simp only [PyData.depth]
  omega
theorem perm_erase {α : Type} : ∀ (l : List α) (i : Nat) (x : α), l[i]? = some x → (x :: l.eraseIdx i).Perm l
  | [], _, _, h => by simp at h
  | y :: r, 0, x, h => by simp at h; subst h; exact List.Perm.refl _
  | y :: r, i + 1, x, h => by
    have ih := perm_erase r i x (by simpa using h)
    rw [List.eraseIdx_cons_succ]
    exact (List.Perm.swap y x _).trans (ih.cons y)
theorem join_ones : ∀ cs : List Nat, (Txt.join "" (cs.map fun c => (⟨#[c]⟩ : Str))).cps.toList = cs := fun cs => by
  rw [TL.join_eq]
  induction cs with
  | nil => rfl
  | cons c r ih =>
    cases r with
    | nil => rfl
    | cons d r =>
      show (⟨#[c]⟩ ++ "" ++ Str.join "" ((d :: r).map fun c => (⟨#[c]⟩ : Str)) : Str).cps.toList = _
      rw [PySem.W.KT.app_list, PySem.W.KT.app_list, ih]
      rfl
theorem ones_len : ∀ cs : List Nat, ((cs.map fun c => (⟨#[c]⟩ : Str)).map (·.length)).sum = cs.length
  | [] => rfl
  | c :: r => by
    have := ones_len r
    simp only [List.map_cons, List.sum_cons, List.length_cons, this]
    have : (⟨#[c]⟩ : Str).length = 1 := rfl
    omega
theorem mul_zero (x : Str) : Txt.mul x 0 = ⟨#[]⟩ := by
  unfold Txt.mul; rw [if_pos (by decide)]; rfl
theorem mul_one (x : Str) : Txt.mul x 1 = x := by
  unfold Txt.mul; rw [if_neg (by decide)]; simp
/-! ### texts -/
theorem str_ext {x y : Str} (h : x.cps.toList = y.cps.toList) : x = y := by
  cases x; cases y; congr 1; exact Array.toList_inj.mp h
theorem app_cps (x y : Str) : (x ++ y).cps.toList = x.cps.toList ++ y.cps.toList := PySem.W.KT.app_list x y
theorem app_len (x y : Str) : (x ++ y).length = x.length + y.length := by
  rw [← len_cps, ← len_cps, ← len_cps, app_cps, List.length_append]
theorem one_cps (c : Nat) : (⟨#[c]⟩ : Str).cps.toList = [c] := rfl
theorem one_len (c : Nat) : (⟨#[c]⟩ : Str).length = 1 := rfl
end Aq
namespace K80
open PySem L2 Aq Evl
def top (i : Nat) : Stmt := PySem.Challenge.pw_asksmore_k80_the_menu.main.body.getD i (.Pass ⟨0, 0, 0, 0⟩)
abbrev s_is_word : Stmt := top 13
abbrev N_is_word : List Str := ["value", "sign"]
theorem sc_is_word : FnScope N_is_word ["value"] (defScope s_is_word) := ⟨rfl, rfl, rfl, by decide +kernel, rfl, by decide +kernel, by decide +kernel⟩
abbrev s_is_beginning : Stmt := top 14
abbrev N_is_beginning : List Str := ["value"]
theorem sc_is_beginning : FnScope N_is_beginning ["value"] (defScope s_is_beginning) := ⟨rfl, rfl, rfl, by decide +kernel, rfl, by decide +kernel, by decide +kernel⟩
abbrev s_is_letter : Stmt := top 15
abbrev N_is_letter : List Str := ["value", "word"]
theorem sc_is_letter : FnScope N_is_letter ["value"] (defScope s_is_letter) := ⟨rfl, rfl, rfl, by decide +kernel, rfl, by decide +kernel, by decide +kernel⟩
abbrev s_Letters___contains__ : Stmt := inClass (top 16) 2
abbrev N_Letters___contains__ : List Str := ["self", "x"]
theorem sc_Letters___contains__ : FnScope N_Letters___contains__ ["self", "x"] (defScope s_Letters___contains__) := ⟨rfl, rfl, rfl, by decide +kernel, rfl, by decide +kernel, by decide +kernel⟩
abbrev s_Letters___init__ : Stmt := inClass (top 16) 0
abbrev N_Letters___init__ : List Str := ["self", "words", "index", "word"]
theorem sc_Letters___init__ : FnScope N_Letters___init__ ["self", "words"] (defScope s_Letters___init__) := ⟨rfl, rfl, rfl, by decide +kernel, rfl, by decide +kernel, by decide +kernel⟩
abbrev s_Letters_rank : Stmt := inClass (top 16) 1
abbrev N_Letters_rank : List Str := ["self", "x"]
theorem sc_Letters_rank : FnScope N_Letters_rank ["self", "x"] (defScope s_Letters_rank) := ⟨rfl, rfl, rfl, by decide +kernel, rfl, by decide +kernel, by decide +kernel⟩
abbrev s_Letters___eq__ : Stmt := inClass (top 16) 5
abbrev N_Letters___eq__ : List Str := ["self", "other"]
theorem sc_Letters___eq__ : FnScope N_Letters___eq__ ["self", "other"] (defScope s_Letters___eq__) := ⟨rfl, rfl, rfl, by decide +kernel, rfl, by decide +kernel, by decide +kernel⟩
abbrev s_is_one_of : Stmt := top 20
abbrev N_is_one_of : List Str := ["value", "words"]
theorem sc_is_one_of : FnScope N_is_one_of ["value", "words"] (defScope s_is_one_of) := ⟨rfl, rfl, rfl, by decide +kernel, rfl, by decide +kernel, by decide +kernel⟩
abbrev s_Sentence___init__ : Stmt := inClass (top 21) 0
abbrev N_Sentence___init__ : List Str := ["self", "letters", "kind", "first", "second", "turn"]
theorem sc_Sentence___init__ : FnScope N_Sentence___init__ ["self", "letters", "kind", "first", "second"] (defScope s_Sentence___init__) := ⟨rfl, rfl, rfl, by decide +kernel, rfl, by decide +kernel, by decide +kernel⟩
abbrev s_Sentence___eq__ : Stmt := inClass (top 21) 4
abbrev N_Sentence___eq__ : List Str := ["self", "other"]
theorem sc_Sentence___eq__ : FnScope N_Sentence___eq__ ["self", "other"] (defScope s_Sentence___eq__) := ⟨rfl, rfl, rfl, by decide +kernel, rfl, by decide +kernel, by decide +kernel⟩
abbrev s_menu : Stmt := top 23
abbrev N_menu : List Str := ["letters", "words", "found", "x", "y", "z"]
theorem sc_menu : FnScope N_menu ["letters"] (defScope s_menu) := ⟨rfl, rfl, rfl, by decide +kernel, rfl, by decide +kernel, by decide +kernel⟩
abbrev s__law_pen : Stmt := top 25
abbrev N__law_pen : List Str := ["_law_script"]
theorem sc__law_pen : FnScope N__law_pen ["_law_script"] (defScope s__law_pen) := ⟨rfl, rfl, rfl, by decide +kernel, rfl, by decide +kernel, by decide +kernel⟩
abbrev s__law_draw : Stmt := top 26
abbrev N__law_draw : List Str := ["_law_pen_here", "_law_many", "_law_at", "_law_cell", "_law_mixed", "_law_digit"]
theorem sc__law_draw : FnScope N__law_draw ["_law_pen_here", "_law_many"] (defScope s__law_draw) := ⟨rfl, rfl, rfl, by decide +kernel, rfl, by decide +kernel, by decide +kernel⟩
abbrev s__law_pick : Stmt := top 27
abbrev N__law_pick : List Str := ["_law_pen_here", "_law_items"]
theorem sc__law_pick : FnScope N__law_pick ["_law_pen_here", "_law_items"] (defScope s__law_pick) := ⟨rfl, rfl, rfl, by decide +kernel, rfl, by decide +kernel, by decide +kernel⟩
abbrev s__law_shuffled : Stmt := top 28
abbrev N__law_shuffled : List Str := ["_law_pen_here", "_law_items", "_law_left", "_law_gained"]
theorem sc__law_shuffled : FnScope N__law_shuffled ["_law_pen_here", "_law_items"] (defScope s__law_shuffled) := ⟨rfl, rfl, rfl, by decide +kernel, rfl, by decide +kernel, by decide +kernel⟩
abbrev s__law_words : Stmt := top 29
abbrev N__law_words : List Str := ["_law_pen_here", "_law_many", "_law_head", "_law_stem", "_law_at", "_law_gained", "_law_k", "_law_small", "_law_signs", "_law_first", "_law_step", "_law_word", "_law_sign"]
theorem sc__law_words : FnScope N__law_words ["_law_pen_here", "_law_many"] (defScope s__law_words) := ⟨rfl, rfl, rfl, by decide +kernel, rfl, by decide +kernel, by decide +kernel⟩
abbrev s__law_marked : Stmt := top 30
abbrev N__law_marked : List Str := ["_law_pen_here", "_law_words_here", "_law_gained", "_law_word"]
theorem sc__law_marked : FnScope N__law_marked ["_law_pen_here", "_law_words_here"] (defScope s__law_marked) := ⟨rfl, rfl, rfl, by decide +kernel, rfl, by decide +kernel, by decide +kernel⟩
abbrev s_law : Stmt := top 31
abbrev N_law : List Str := ["_law_script", "_law_pen_here", "_law_words_here", "_law_at", "_law_due", "_law_x", "_law_told", "_law_letters", "_law_y", "_law_item", "_law_row", "_law_z"]
theorem sc_law : FnScope N_law ["_law_script"] (defScope s_law) := ⟨rfl, rfl, rfl, by decide +kernel, rfl, by decide +kernel, by decide +kernel⟩
structure Ad where
  Letters : Addr
  Sentence : Addr
  MOST_LETTERS : Tok
  BEGINNINGS : Addr
  SMALL : Tok
  SIGNS : Tok
  KINDS : Addr
  SINGLE : Addr
  f_is_word : Addr
  f_is_beginning : Addr
  f_is_letter : Addr
  f_Letters___contains__ : Addr
  f_Letters___init__ : Addr
  f_Letters_rank : Addr
  f_Letters___eq__ : Addr
  f_is_one_of : Addr
  f_Sentence___init__ : Addr
  f_Sentence___eq__ : Addr
  f_menu : Addr
  f__law_pen : Addr
  f__law_draw : Addr
  f__law_pick : Addr
  f__law_shuffled : Addr
  f__law_words : Addr
  f__law_marked : Addr
  f_law : Addr
structure Txt (K : PySem.W.Frag) (mg : Str → Option Value) (a : Ad) : Prop where
  n_abs : mg "abs" = none
  n_all : mg "all" = none
  n_enumerate : mg "enumerate" = none
  n_int : mg "int" = none
  n_isinstance : mg "isinstance" = none
  n_len : mg "len" = none
  n_list : mg "list" = none
  n_range : mg "range" = none
  n_str : mg "str" = none
  n_tuple : mg "tuple" = none
  n_zip : mg "zip" = none
  g_MOST_LETTERS : mg "MOST_LETTERS" = some (.int 12 a.MOST_LETTERS)
  g_BEGINNINGS : mg "BEGINNINGS" = some (.ref a.BEGINNINGS)
  k_BEGINNINGS : ∀ H, SqT K H a.BEGINNINGS [.str "new", .str "found"]
  g_SMALL : mg "SMALL" = some (.str "abcdefghijklmnopqrstuvwxyz" a.SMALL)
  g_SIGNS : mg "SIGNS" = some (.str "abcdefghijklmnopqrstuvwxyz0123456789" a.SIGNS)
  g_KINDS : mg "KINDS" = some (.ref a.KINDS)
  k_KINDS : ∀ H, SqT K H a.KINDS [.str "idle", .str "kept", .str "still", .str "over", .str "undone", .str "alike"]
  g_SINGLE : mg "SINGLE" = some (.ref a.SINGLE)
  k_SINGLE : ∀ H, SqT K H a.SINGLE [.str "idle", .str "still"]
  g_Letters : mg "Letters" = some (.ref a.Letters)
  cl_Letters : Cls K a.Letters
  na_Letters_words : NoAttr K a.Letters "words"
  ne_Letters : NeC K a.Letters
  isi_Letters : IsiC K a.Letters
  mk_Letters : Mk K a.Letters a.f_Letters___init__
  g_Sentence : mg "Sentence" = some (.ref a.Sentence)
  cl_Sentence : Cls K a.Sentence
  na_Sentence_letters : NoAttr K a.Sentence "letters"
  na_Sentence_kind : NoAttr K a.Sentence "kind"
  na_Sentence_first : NoAttr K a.Sentence "first"
  na_Sentence_second : NoAttr K a.Sentence "second"
  ne_Sentence : NeC K a.Sentence
  isi_Sentence : IsiC K a.Sentence
  mk_Sentence : Mk K a.Sentence a.f_Sentence___init__
  F_is_word : ∃ fd, Fun K "is_word" "is_word" s_is_word a.f_is_word fd ∧ Binds K fd ["value"] []
  g_is_word : mg "is_word" = some (.ref a.f_is_word)
  F_is_beginning : ∃ fd, Fun K "is_beginning" "is_beginning" s_is_beginning a.f_is_beginning fd ∧ Binds K fd ["value"] []
  g_is_beginning : mg "is_beginning" = some (.ref a.f_is_beginning)
  F_is_letter : ∃ fd, Fun K "is_letter" "is_letter" s_is_letter a.f_is_letter fd ∧ Binds K fd ["value"] []
  g_is_letter : mg "is_letter" = some (.ref a.f_is_letter)
  F_Letters___contains__ : ∃ fd, Fun K "__contains__" "Letters.__contains__" s_Letters___contains__ a.f_Letters___contains__ fd ∧ Binds K fd ["self", "x"] []
  m_Letters___contains__ : Meth K a.Letters "__contains__" a.f_Letters___contains__
  F_Letters___init__ : ∃ fd, Fun K "__init__" "Letters.__init__" s_Letters___init__ a.f_Letters___init__ fd ∧ Binds K fd ["self", "words"] []
  F_Letters_rank : ∃ fd, Fun K "rank" "Letters.rank" s_Letters_rank a.f_Letters_rank fd ∧ Binds K fd ["self", "x"] []
  m_Letters_rank : Meth K a.Letters "rank" a.f_Letters_rank
  F_Letters___eq__ : ∃ fd, Fun K "__eq__" "Letters.__eq__" s_Letters___eq__ a.f_Letters___eq__ fd ∧ Binds K fd ["self", "other"] []
  m_Letters___eq__ : Meth K a.Letters "__eq__" a.f_Letters___eq__
  F_is_one_of : ∃ fd, Fun K "is_one_of" "is_one_of" s_is_one_of a.f_is_one_of fd ∧ Binds K fd ["value", "words"] []
  g_is_one_of : mg "is_one_of" = some (.ref a.f_is_one_of)
  F_Sentence___init__ : ∃ fd, FunD K "__init__" "Sentence.__init__" (defArgs s_Sentence___init__) (defBody s_Sentence___init__) (defScope s_Sentence___init__) [.non] [] a.f_Sentence___init__ fd
  F_Sentence___eq__ : ∃ fd, Fun K "__eq__" "Sentence.__eq__" s_Sentence___eq__ a.f_Sentence___eq__ fd ∧ Binds K fd ["self", "other"] []
  m_Sentence___eq__ : Meth K a.Sentence "__eq__" a.f_Sentence___eq__
  F_menu : ∃ fd, Fun K "menu" "menu" s_menu a.f_menu fd ∧ Binds K fd ["letters"] []
  g_menu : mg "menu" = some (.ref a.f_menu)
  F__law_pen : ∃ fd, Fun K "_law_pen" "_law_pen" s__law_pen a.f__law_pen fd ∧ Binds K fd ["_law_script"] []
  g__law_pen : mg "_law_pen" = some (.ref a.f__law_pen)
  F__law_draw : ∃ fd, Fun K "_law_draw" "_law_draw" s__law_draw a.f__law_draw fd ∧ Binds K fd ["_law_pen_here", "_law_many"] []
  g__law_draw : mg "_law_draw" = some (.ref a.f__law_draw)
  F__law_pick : ∃ fd, Fun K "_law_pick" "_law_pick" s__law_pick a.f__law_pick fd ∧ Binds K fd ["_law_pen_here", "_law_items"] []
  g__law_pick : mg "_law_pick" = some (.ref a.f__law_pick)
  F__law_shuffled : ∃ fd, Fun K "_law_shuffled" "_law_shuffled" s__law_shuffled a.f__law_shuffled fd ∧ Binds K fd ["_law_pen_here", "_law_items"] []
  g__law_shuffled : mg "_law_shuffled" = some (.ref a.f__law_shuffled)
  F__law_words : ∃ fd, Fun K "_law_words" "_law_words" s__law_words a.f__law_words fd ∧ Binds K fd ["_law_pen_here", "_law_many"] []
  g__law_words : mg "_law_words" = some (.ref a.f__law_words)
  F__law_marked : ∃ fd, Fun K "_law_marked" "_law_marked" s__law_marked a.f__law_marked fd ∧ Binds K fd ["_law_pen_here", "_law_words_here"] []
  g__law_marked : mg "_law_marked" = some (.ref a.f__law_marked)
  F_law : ∃ fd, Fun K "law" "law" s_law a.f_law fd ∧ Binds K fd ["_law_script"] []
  g_law : mg "law" = some (.ref a.f_law)
local macro_rules | `(tactic| walk_at "st1") => `(tactic| with_reducible (first
  | refine rd_seq ?_ | refine rd_op ?_ | refine rd_c ?_ | refine rd_cb ?_ | refine rd_cons ?_ | refine rd_nil ?_ | refine rd_B ?_ | refine rd_test ?_ | refine rd_bl ?_ | refine rd_I0 ?_
  | refine rd_not ?_ | refine rd_and ?_ | refine rd_or ?_ | refine rd_andV ?_ | refine rd_orV ?_ | refine rd_notV ?_ | refine rd_if ?_ | refine rd_chain ?_ | refine rd_un ?_ | refine rd_call ?_
  | refine rd_ifS ?_ | refine rd_asg ?_ | refine rd_drop ?_ | refine rd_ret ?_ | refine rd_next ?_ | refine rd_par ?_ | refine rd_two ?_ | refine rd_tup ?_ | refine rd_lst ?_ | refine rd_fld ?_ | refine rd_dget ?_ | refine rd_dput ?_ | refine rd_sfld ?_
  | refine rd_isiStr ?_ | refine rd_sign ?_ | refine rd_intI ?_ | refine rd_intB ?_ | refine rd_abs ?_ | refine rd_isN' ?_ | refine rd_gname ?_ | refine iteT ?_ | refine iteF ?_ | refine rd_nt ?_ | refine rd_nf ?_  | refine rd_yes ?_ | refine rd_sl ?_ | refine rd_noPart ?_ | refine rd_part ?_ | refine rd_partAt ?_ | refine rd_make ?_ | refine rd_meth ?_ | refine rd_bm ?_ | refine rd_m1 ?_ | refine rd_isS ?_ | refine rd_ifT ?_ | refine rd_tupm ?_ | refine rd_iStr ?_ | refine rd_iStrAt ?_ | refine rd_iList ?_ | refine rd_iTup ?_ | refine rd_iRng1 ?_ | refine rd_iEnum ?_))
local macro_rules | `(tactic| walk_at "st") => `(tactic| ((repeat (first
  | walk_at "st1"
  | ((with_reducible show L2.tVar _ _ _ _); refine rd_var rfl ?_)
  | ((with_reducible show L2.tAug _ _ _ _ _ _); refine rd_aug rfl ?_)
  | ((with_reducible refine rd_eq ?_ ?_); exact rfl)
  | ((with_reducible refine rd_ne ?_ ?_); exact rfl)))))

section
variable {P : Program} {w : World} {K : PySem.W.Frag} {mg : Str → Option Value} {base : Heap} {a : Ad}
/-! ### is_word, is_beginning, is_letter -/
abbrev smallS : Str := "abcdefghijklmnopqrstuvwxyz"
abbrev signsS : Str := "abcdefghijklmnopqrstuvwxyz0123456789"
def isWordB (z : Str) : Bool := decide (1 ≤ z.length) && decide (z.length ≤ 12) && (z.cps.toList.take 1).all (fun c => decide (c ∈ smallS.cps.toList)) && z.cps.toList.all (fun c => decide (c ∈ signsS.cps.toList))
def spIsWord : Sp := fun vs H Q _ => ∃ z : Str, vs = [.str z] ∧ z.length ≤ 1000 ∧ ∀ H', Ex H H' → Q (.bl (isWordB z)) H'
theorem c_is_word (T : Txt K mg a) : Cal P w K mg base 1 "is_word" ["value"] spIsWord := by
  obtain ⟨fd, F, b⟩ := T.F_is_word
  refine ⟨_, _, F.ok sc_is_word (fun vs H Q E h => ?_) (fun cdv A outer s H vs Q E hr h => ?_), T.g_is_word, F.kp, b⟩
  · obtain ⟨z, rfl, _⟩ := h
    rfl
  · obtain ⟨z, rfl, hz, k⟩ := h
    refine ⟨_, (pss_cons (ps_if (PW.pt (pw_or (pt_not (pt_val (pe_callB call_isi (by rfl) T.n_isinstance (by decide +kernel) (pa_cons (pv 0) (pa_cons (pe_bty "str" T.n_str (by decide +kernel)) pa_nil))))) (pw_or1 (pt_not (pt_chain op_le op_le pe_int (pe_callB call_len_str (by rfl) T.n_len (by decide +kernel) (pa_cons (pv 0) pa_nil)) pe_int))))) (pss_one (ps_ret pe_bl)) pss_nil)
  (pss_one (ps_ret (pe_and (pe_cmpR op_in_sign (pe_ix ix_str (pv 0) pe_int (fun _ _ => rfl)) (pe_gstr T.g_SMALL) (by rfl)) (pe_one (pe_callB (cr_all rfl) (by rfl) T.n_all (by decide +kernel) (pa_cons (pe_lc (own := [("sign", 1)]) (by rfl) sc_is_word.nd (pi_str (pv 0)) (blkOk_by (own := [("sign", 1)]) (N := N_is_word) (sc := defScope s_is_word) (by decide +kernel)) (fun _ _ _ _ _ => (pg_name (i := 1) sc_is_word.nd rfl (by first | exact Or.inl rfl | exact Or.inr rfl))) (fun _ _ _ _ _ => pts_nil) (fun _ _ _ _ _ => (pe_cmpR op_in_sign (pv 1) (pe_gstr T.g_SIGNS) (by rfl)))) pa_nil))))))), ?_⟩
    walk_at "st"
    refine rd_lenS (z := z) (by omega) ?_
    walk_at "st"
    have fin : ∀ {b : Bool} {H'}, Ex H H' → isWordB z = b → Q (.bl b) H' := fun e h => h ▸ k _ e
    refine ite2 (fun h1 => ?_) (fun h1 => ?_)
    · walk_at "st"
      have h1' := of_decide_eq_true h1
      refine ite2 (fun h2 => ?_) (fun h2 => ?_)
      · walk_at "st"
        refine fin (Ex.refl _) ?_
        have : ¬ z.length ≤ 12 := fun h => by simp at h2; omega
        simp [isWordB, this]
      · have h2' : z.length ≤ 12 := by simp at h2; omega
        walk_at "st"
        obtain ⟨c, r, ez⟩ : ∃ c r, z.cps.toList = c :: r := by
          cases e : z.cps.toList with
          | nil => exfalso; have : z.length = z.cps.toList.length := by simp [Str.length]
                   rw [e] at this; simp at this; omega
          | cons c r => exact ⟨c, r, rfl⟩
        refine rd_ixS (c := c) (by omega) (by rw [ez]; exact atI_nat (j := 0) rfl) ?_
        walk_at "st"
        refine ite2 (fun h3 => ?_) (fun h3 => ?_)
        · walk_at "st"
          refine rd_lcPure (k := 1) (fun R r => ⟨_, rfl, _, rfl, r⟩) (f := fun i => .bl (decide (z.cps.toList.getD i 0 ∈ signsS.cps.toList))) (yl_str z) (fun _ _ => trivial) (by have := len_cps z; simp at this; omega) (fun i x H' hi e y Q' q => ?_) (fun p H' hp e hl => ?_)
          · obtain ⟨d, hd, rfl⟩ := y
            walk_at "st"
            have : z.cps.toList.getD i 0 = d := by simp [List.getD, hd]
            rw [this] at q
            exact q H' (Ex.refl _)
          · walk_at "st"
            have el : (List.range z.cps.size).map (fun i => V.bl (decide (z.cps.toList.getD i 0 ∈ signsS.cps.toList))) = (z.cps.toList.map fun d => decide (d ∈ signsS.cps.toList)).map V.bl := by
              apply List.ext_getElem
              · simp
              · intro n h1 h2
                have : n < z.cps.size := by simpa using h1
                simp [List.getD, this]
            rw [el] at hl
            refine rd_all (sq_of hl) (fin e ?_)
            have h3' := of_decide_eq_true h3
            have e1 : decide (1 ≤ z.length) = true := decide_eq_true (by omega)
            have e2 : decide (z.length ≤ 12) = true := decide_eq_true h2'
            unfold isWordB
            rw [e1, e2, ez, List.all_map]
            simp only [List.take, List.all_cons, List.all_nil, h3, Bool.and_true, Bool.true_and]
            rfl
        · refine fin (Ex.refl _) ?_
          have h3' : decide (c ∈ smallS.cps.toList) = false := by simpa using h3
          unfold isWordB
          rw [ez]
          simp only [List.take, List.all_cons, List.all_nil, h3', Bool.and_false, Bool.false_and]
    · walk_at "st"
      refine fin (Ex.refl _) ?_
      have : ¬ 1 ≤ z.length := fun h => by simp at h1; omega
      simp [isWordB, this]
def isBegB (z : Str) : Bool := decide (z = "new") || decide (z = "found")
def spIsBeg : Sp := fun vs H Q _ => ∃ z : Str, vs = [.str z] ∧ Q (.bl (isBegB z)) H
theorem inV_two (z x y : Str) : inV (.str z) [.str x, .str y] = (decide (z = x) || decide (z = y)) := by
  have e : ∀ u v : Str, (u == v) = decide (v = u) := fun u v => by
    rw [Bool.eq_iff_iff, beq_iff_eq, decide_eq_true_eq]; exact eq_comm
  simp only [inV, eqV, List.any_cons, List.any_nil, Bool.or_false, e]
theorem c_is_beginning (T : Txt K mg a) : Cal P w K mg base 1 "is_beginning" ["value"] spIsBeg := by
  obtain ⟨fd, F, b⟩ := T.F_is_beginning
  refine ⟨_, _, F.ok sc_is_beginning (fun vs H Q E h => ?_) (fun cdv A outer s H vs Q E hr h => ?_), T.g_is_beginning, F.kp, b⟩
  · obtain ⟨z, rfl, _⟩ := h
    rfl
  · obtain ⟨z, rfl, k⟩ := h
    refine ⟨_, (pss_one (ps_ret (pe_and (pe_callB call_isi (by rfl) T.n_isinstance (by decide +kernel) (pa_cons (pv 0) (pa_cons (pe_bty "str" T.n_str (by decide +kernel)) pa_nil))) (pe_one (pe_cmpR op_in_seq (pv 0) (pe_gref T.g_BEGINNINGS) (by rfl)))))), ?_⟩
    walk_at "st"
    refine ⟨_, _, rfl, .inr (T.k_BEGINNINGS H), rfl, rfl, ?_⟩
    rw [if_neg Bool.false_ne_true, inV_two]
    exact k
def bareS (z : Str) : Str := if decide (V.str (cutS z none (some 1)) = V.str "~") = true then cutS z (some 1) none else z
def isLetterB (z : Str) : Bool := isWordB (bareS z) && !isBegB (bareS z)
def spIsLetter : Sp := fun vs H Q _ => ∃ z : Str, vs = [.str z] ∧ z.length ≤ 1000 ∧ ∀ H', Ex H H' → Q (.bl (isLetterB z)) H'
theorem c_is_letter (T : Txt K mg a) : Cal P w K mg base 2 "is_letter" ["value"] spIsLetter := by
  obtain ⟨fd, F, b⟩ := T.F_is_letter
  refine ⟨_, _, F.ok sc_is_letter (fun vs H Q E h => ?_) (fun cdv A outer s H vs Q E hr h => ?_), T.g_is_letter, F.kp, b⟩
  · obtain ⟨z, rfl, _⟩ := h
    rfl
  · obtain ⟨z, rfl, hz, k⟩ := h
    refine ⟨_, (pss_cons (ps_if (pt_not (pt_val (pe_callB call_isi (by rfl) T.n_isinstance (by decide +kernel) (pa_cons (pv 0) (pa_cons (pe_bty "str" T.n_str (by decide +kernel)) pa_nil))))) (pss_one (ps_ret pe_bl)) pss_nil)
  (pss_cons (ps_set (i := 1) sc_is_letter.nd rfl (by first | exact Or.inl rfl | exact Or.inr rfl) (pe_ifExp (pt_cmpR op_eq (pe_slice sl_str (pv 0) po_none (po_some pe_int)) pe_str (by rfl)) (pe_slice sl_str (pv 0) (po_some pe_int) po_none) (pv 0)))
  (pss_one (ps_ret (pe_and (pe_callC (c_is_word T) hr (pa_cons (pv 1) pa_nil)) (pe_one (pe_not (pe_callC (c_is_beginning T) hr (pa_cons (pv 1) pa_nil))))))))), ?_⟩
    walk_at "st"
    refine rd_slS (by omega) ?_
    walk_at "st"
    have fin : ∀ (y : Str), bareS z = y → y.length ≤ 1000 → tRet (tAndV (tCall spIsWord [] E0 (tCons (tVar 1) tNil)) (tNotV (tCall spIsBeg [] E0 (tCons (tVar 1) tNil)))) { nx := fun x H' => Q V.non H', rt := Q } [some (.str z), some (.str y)] H := by
      intro y ey ly
      walk_at "st"
      refine ⟨y, rfl, ly, fun H' e => ?_⟩
      walk_at "st"
      refine ite2 (fun h => ?_) (fun h => ?_)
      · walk_at "st"
        refine ⟨y, rfl, ?_⟩
        walk_at "st"
        have : isLetterB z = !isBegB y := by rw [isLetterB, ey, h]; rfl
        rw [← this]
        exact k _ e
      · have : isLetterB z = false := by rw [isLetterB, ey, Bool.eq_false_iff.mpr h]; rfl
        rw [← this]
        exact k _ e
    refine ite2 (fun h => ?_) (fun h => ?_)
    · walk_at "st"
      refine rd_slS (by omega) ?_
      exact fin _ (if_pos h) (Nat.le_trans (cutS_length _ _ _) hz)
    · refine rd_var rfl ?_
      exact fin _ (if_neg h) hz
/-! ### Letters -/
def LetAt (a : Ad) (H : Hp) (p : Addr) (ws : List Str) : Prop := ∃ dx t o, H p = some (.ins a.Letters dx [("words", .ref t)]) ∧ H t = some (.frz o (.tup (ws.map V.str))) ∧ o.dict = none ∧ ∀ x ∈ ws, PyData.strOk x = true
theorem LetAt.ex {a : Ad} {H H' : Hp} {p : Addr} {ws : List Str} (l : LetAt a H p ws) (e : Ex H H') : LetAt a H' p ws := let ⟨dx, t, o, h1, h2, h3⟩ := l; ⟨dx, t, o, e _ _ h1, e _ _ h2, h3⟩
theorem inV_strs (z : Str) : ∀ ws : List Str, inV (.str z) (ws.map V.str) = decide (z ∈ ws)
  | [] => by simp [inV]
  | x :: r => by
    have ih := inV_strs z r
    have e : ∀ u v : Str, (u == v) = decide (v = u) := fun u v => by rw [Bool.eq_iff_iff, beq_iff_eq, decide_eq_true_eq]; exact eq_comm
    show (eqV (.str x) (.str z) || inV (.str z) (r.map V.str)) = _
    rw [ih]
    show ((x == z) || decide (z ∈ r)) = _
    rw [e, Bool.eq_iff_iff]
    simp
theorem flat_strs : ∀ ws : List Str, (ws.map V.str).all flatV = true
  | [] => rfl
  | x :: r => by
    rw [List.map_cons, List.all_cons, flat_strs r]
    rfl
def spContains (a : Ad) : Sp := fun vs H Q _ => ∃ p z ws, vs = [.ref p, .str z] ∧ LetAt a H p ws ∧ Q (.bl (decide (z ∈ ws))) H
theorem c_Letters___contains__ (T : Txt K mg a) : Mth P w K mg base 1 a.Letters "__contains__" ["self", "x"] (spContains a) := by
  obtain ⟨fd, F, b⟩ := T.F_Letters___contains__
  refine ⟨T.cl_Letters, _, _, T.m_Letters___contains__, F.ok sc_Letters___contains__ (fun vs H Q E h => ?_) (fun cdv A outer s H vs Q E hr h => ?_), b⟩
  · obtain ⟨p, z, ws, rfl, _⟩ := h
    rfl
  · obtain ⟨p, z, ws, rfl, ⟨dx, t, o, h1, h2, h3, h4⟩, k⟩ := h
    refine ⟨_, (pss_one (ps_ret (pe_and (pe_callB call_isi (by rfl) T.n_isinstance (by decide +kernel) (pa_cons (pv 1) (pa_cons (pe_bty "str" T.n_str (by decide +kernel)) pa_nil))) (pe_one (pe_cmpR op_in_seq (pv 1) (pe_fld (pv 0) rfl) (by rfl)))))), ?_⟩
    walk_at "st"
    refine rd_fldAt h1 T.cl_Letters T.na_Letters_words rfl ?_
    refine ⟨_, _, rfl, .inr (st_frz h2), rfl, flat_strs _, ?_⟩
    rw [if_neg Bool.false_ne_true, inV_strs]
    exact k
def spRank (a : Ad) : Sp := fun vs H Q _ => ∃ p z ws, vs = [.ref p, .str z] ∧ LetAt a H p ws ∧ z ∈ ws ∧ ∀ j : Nat, ws[j]? = some z → (∀ m, m < j → ws[m]? ≠ some z) → Q (.int j) H
theorem first_at {z : Str} : ∀ {ws : List Str}, z ∈ ws → ∃ j : Nat, ws[j]? = some z ∧ ∀ m, m < j → ws[m]? ≠ some z
  | [], h => by cases h
  | x :: r, h => by
    by_cases e : x = z
    · exact ⟨0, by rw [e]; rfl, fun m hm => absurd hm (Nat.not_lt_zero _)⟩
    · obtain ⟨j, h1, h2⟩ := first_at (ws := r) (by rcases List.mem_cons.mp h with q | q; exact absurd q.symm e; exact q)
      refine ⟨j + 1, by simpa using h1, fun m hm => ?_⟩
      cases m with
      | zero => simpa using e
      | succ m => simpa using h2 m (by omega)
theorem c_Letters_rank (T : Txt K mg a) : Mth P w K mg base 2 a.Letters "rank" ["self", "x"] (spRank a) := by
  obtain ⟨fd, F, b⟩ := T.F_Letters_rank
  refine ⟨T.cl_Letters, _, _, T.m_Letters_rank, F.ok sc_Letters_rank (fun vs H Q E h => ?_) (fun cdv A outer s H vs Q E hr h => ?_), b⟩
  · obtain ⟨p, z, ws, rfl, _⟩ := h
    rfl
  · obtain ⟨p, z, ws, rfl, L, hm, k⟩ := h
    obtain ⟨dx, t, o, h1, h2, h3, h4⟩ := id L
    refine ⟨_, (pss_cons (ps_if (pt_cmpR (op_notInOwn (c_Letters___contains__ T) hr) (pv 1) (pv 0) (by rfl)) (pss_one ps_never) pss_nil)
  (pss_one (ps_ret (pe_tupm PySem.F.slot_tuple_index PySem.F.type_tuple_index mt_tup_index (pe_fld (pv 0) rfl) (pa_cons (pv 1) pa_nil))))), ?_⟩
    walk_at "st"
    refine ⟨_, _, _, rfl, h1, _, _, _, rfl, L, ?_⟩
    refine ⟨_, rfl, ?_⟩
    walk_at "st"
    rw [decide_eq_true hm]
    walk_at "st"
    refine rd_fldAt h1 T.cl_Letters T.na_Letters_words rfl ?_
    obtain ⟨j, j1, j2⟩ := first_at hm
    refine ⟨⟨_, _, _, rfl, h2, h3⟩, ?_⟩
    walk_at "st"
    exact ⟨_, _, _, j, rfl, rfl, st_frz h2, j1, j2, k j j1 j2⟩
def spLetEq (a : Ad) : Sp := fun vs H Q _ => ∃ p q ws zs, vs = [.ref p, .ref q] ∧ LetAt a H p ws ∧ LetAt a H q zs ∧ Q (.bl (decide (ws = zs))) H
end


section
variable {P : Program} {w : World} {K : PySem.W.Frag} {mg : Str → Option Value} {base : Heap} {a : Ad}
theorem c_Letters___eq__ (T : Txt K mg a) : Mth P w K mg base 1 a.Letters "__eq__" ["self", "other"] (spLetEq a) := by
  obtain ⟨fd, F, b⟩ := T.F_Letters___eq__
  refine ⟨T.cl_Letters, _, _, T.m_Letters___eq__, F.ok sc_Letters___eq__ (fun vs H Q E h => ?_) (fun cdv A outer s H vs Q E hr h => ?_), b⟩
  · obtain ⟨p, z, ws, zs, rfl, _⟩ := h
    rfl
  · obtain ⟨p, q, ws, zs, rfl, ⟨dx, t, o, h1, h2, h3, h4⟩, ⟨dy, t', o', g1, g2, g3, g4⟩, k⟩ := h
    refine ⟨_, (pss_one (ps_ret (pe_and (pe_callB call_isi (by rfl) T.n_isinstance (by decide +kernel) (pa_cons (pv 1) (pa_cons (pe_gref T.g_Letters) pa_nil))) (pe_one (pe_cmpR (op_eqD hr.units) (pe_fld (pv 0) rfl) (pe_fld (pv 1) rfl) (by rfl)))))), ?_⟩
    walk_at "st"
    refine rd_isiOwn T.cl_Letters T.isi_Letters g1 ?_
    walk_at "st"
    refine rd_fldAt h1 T.cl_Letters T.na_Letters_words rfl ?_
    walk_at "st"
    refine rd_fldAt g1 T.cl_Letters T.na_Letters_words rfl ?_
    refine ⟨_, _, .tup (st_frz h2) (dp_strs _), .tup (st_frz g2) (dp_strs _), shaped_strs _ h4, shaped_strs _ g4, ?_⟩
    rw [PyData.eqv, eqvAll_strs]
    exact k
/-- a list of letters -/
structure LetOk (ws : List Str) : Prop where
  one : 1 ≤ ws.length
  most : ws.length ≤ 12
  ok : ∀ x ∈ ws, isLetterB x = true
  short : ∀ x ∈ ws, x.length ≤ 1000
  nd : ws.Nodup
  so : ∀ x ∈ ws, PyData.strOk x = true
def spLetInit (a : Ad) : Sp := fun vs H Q _ => ∃ x dx l ws, vs = [.ref x, .ref l] ∧ H x = some (.ins a.Letters dx []) ∧ H l = some (.lst (ws.map V.str)) ∧ LetOk ws ∧
  ∀ t o H', H t = none → o.dict = none → H' t = some (.frz o (.tup (ws.map V.str))) → H' x = some (.ins a.Letters dx [("words", .ref t)]) → Kx x H H' → Q .non H'
theorem cutV_to {xs : List V} {i : Nat} (h : i ≤ xs.length) : cutV xs none (some (i : Int)) = xs.take i := by
  unfold cutV
  rw [HT.sIx_none, HT.sIx_nat, Nat.min_eq_left h]
  simp
theorem c_Letters (T : Txt K mg a) : Ctr P w K mg base 3 "Letters" a.Letters ["self", "words"] [] (spLetInit a) := by
  obtain ⟨fd, F, b⟩ := T.F_Letters___init__
  refine ⟨_, _, [], T.mk_Letters, F.ok sc_Letters___init__ (fun vs H Q E h => ?_) (fun cdv A outer s H vs Q E hr h => ?_), T.g_Letters, b, .nil⟩
  · obtain ⟨x, dx, l, ws, rfl, _⟩ := h
    rfl
  · obtain ⟨x, dx, l, ws, rfl, hx, hl, L, k⟩ := h
    refine ⟨_, (pss_cons (ps_if (pt_cmpR op_gt (pe_callB call_len_seq (by rfl) T.n_len (by decide +kernel) (pa_cons (pv 1) pa_nil)) (pe_gint T.g_MOST_LETTERS) (by rfl)) (pss_one ps_never) pss_nil)
  (pss_cons (ps_if (pt_cmpR op_eq (pe_callB call_len_seq (by rfl) T.n_len (by decide +kernel) (pa_cons (pv 1) pa_nil)) pe_int (by rfl)) (pss_one ps_never) pss_nil)
  (pss_cons (ps_for PassesOwn.never (by rfl) (pi_enum (by rfl) T.n_enumerate (pa_cons (pv 1) pa_nil)) (pg_tup rfl (pgs_cons (pg_name (i := 2) sc_Letters___init__.nd rfl (by first | exact Or.inl rfl | exact Or.inr rfl)) (pgs_cons (pg_name (i := 3) sc_Letters___init__.nd rfl (by first | exact Or.inl rfl | exact Or.inr rfl)) pgs_nil)))
    (pss_one (ps_if (PW.pt (pw_or (pt_not (pt_val (pe_callC (c_is_letter T) hr (pa_cons (pv 3) pa_nil)))) (pw_or1 (pt_cmpR op_in_seq (pv 3) (pe_slice sl_list (pv 1) po_none (po_some (pv 2))) (by rfl))))) (pss_one ps_never) pss_nil)))
  (pss_one (ps_fld (pv 0) (pe_callTy call_tuple_frz (by rfl) T.n_tuple (by decide +kernel) (pa_cons (pv 1) pa_nil)) rfl))))), ?_⟩
    walk_at "st"
    refine rd_lenL (sq_of hl) ?_
    walk_at "st"
    refine ite2 (fun h => absurd (of_decide_eq_true h) (by have := L.most; simp; omega)) (fun _ => ?_)
    walk_at "st"
    refine rd_lenL (sq_of hl) ?_
    walk_at "st"
    refine ite2 (fun h => by have h' := V.int.inj (of_decide_eq_true h); rw [List.length_map] at h'; have := L.one; omega) (fun _ => ?_)
    walk_at "st"
    refine rd_forYl (J := Ite _ l) (H1 := H) (fun R r => ⟨_, rfl, l, _, rfl, sq_of hl, r⟩) (yl_enum (ws.map V.str)) (fun i σ H' => ∃ v1 v2, σ = [some (.ref x), some (.ref l), v1, v2] ∧ Ex H H') (fun i σ H' _ p => ?_) ⟨none, none, rfl, Ex.refl _⟩ (fun i y σ H1 H2 hi p e yy => ?_) (fun σ H' p => ?_)
    · obtain ⟨_, _, _, e⟩ := p
      exact sq_of (e _ _ hl)
    · obtain ⟨v1, v2, rfl, e1⟩ := p
      obtain ⟨t, z, rfl, ht, hz⟩ := yy
      have e2 := e1.trans e
      rw [List.length_map] at hi
      have hz' : z = V.str ws[i] := by
        rw [List.getElem?_map, List.getElem?_eq_getElem hi] at hz
        exact (Option.some.inj hz).symm
      subst hz'
      refine ⟨t, _, rfl, st_of ht, rfl, ?_⟩
      refine ⟨_, _, rfl, _, _, rfl, rfl, ?_⟩
      walk_at "st"
      refine ⟨_, rfl, L.short _ (List.getElem_mem hi), fun H3 e3 => ?_⟩
      rw [L.ok _ (List.getElem_mem hi)]
      walk_at "st"
      refine rd_slL (sq_of (e3 _ _ (e2 _ _ hl))) (fun m H4 hm e4 h4 => ?_)
      refine ⟨_, _, rfl, .inl (sq_of h4), rfl, ?_, ?_⟩
      · rw [cutV_to (by simp; omega), ← List.map_take]; exact flat_strs _
      · rw [if_neg Bool.false_ne_true, cutV_to (by simp; omega), ← List.map_take, inV_strs]
        have : ws[i] ∉ ws.take i := fun hm => by
          obtain ⟨j, hj, ej⟩ := List.mem_iff_getElem.mp hm
          rw [List.length_take] at hj
          rw [List.getElem_take] at ej
          exact List.pairwise_iff_getElem.mp L.nd j i (by omega) hi (by omega) ej
        rw [decide_eq_false this]
        walk_at "st"
        exact ⟨_, _, rfl, (e2.trans e3).trans e4⟩
    · obtain ⟨v1, v2, rfl, e1⟩ := p
      walk_at "st"
      refine ⟨_, _, rfl, .inl ⟨sq_of (e1 _ _ hl), fun t o ht ho => ?_⟩⟩
      walk_at "st"
      have nx : x ≠ t := ne_of_none (e1 _ _ hx) ht
      refine rd_sfldAt (by rw [upd_ne nx]; exact e1 _ _ hx) T.cl_Letters T.na_Letters_words (by show 0 < 1000; decide) ?_
      refine k t o _ (fresh_back e1 ht) ho (by rw [upd_ne nx.symm, upd_same]) upd_same (fun b u nb hb => ?_)
      rw [upd_ne nb, upd_ne (ne_of_none (e1 _ _ hb) ht)]
      exact e1 _ _ hb
/-! ### is_one_of, Sentence -/
def spOneOf (K : PySem.W.Frag) : Sp := fun vs H Q _ => ∃ (z : Str) (p : Addr) (ks : List Str), vs = [.str z, .ref p] ∧ SqT K H p (ks.map V.str) ∧ Q (.bl (decide (z ∈ ks))) H
theorem c_is_one_of (T : Txt K mg a) : Cal P w K mg base 1 "is_one_of" ["value", "words"] (spOneOf K) := by
  obtain ⟨fd, F, b⟩ := T.F_is_one_of
  refine ⟨_, _, F.ok sc_is_one_of (fun vs H Q E h => ?_) (fun cdv A outer s H vs Q E hr h => ?_), T.g_is_one_of, F.kp, b⟩
  · obtain ⟨z, p, ks, rfl, _⟩ := h
    rfl
  · obtain ⟨z, p, ks, rfl, hp, k⟩ := h
    refine ⟨_, (pss_one (ps_ret (pe_and (pe_callB call_isi (by rfl) T.n_isinstance (by decide +kernel) (pa_cons (pv 0) (pa_cons (pe_bty "str" T.n_str (by decide +kernel)) pa_nil))) (pe_one (pe_cmpR op_in_seq (pv 0) (pv 1) (by rfl)))))), ?_⟩
    walk_at "st"
    refine ⟨_, _, rfl, .inr hp, rfl, flat_strs _, ?_⟩
    rw [if_neg Bool.false_ne_true, inV_strs]
    exact k
abbrev kinds : List Str := ["idle", "kept", "still", "over", "undone", "alike"]
abbrev single : List Str := ["idle", "still"]
/-- ahead of: the letter z stands ahead of x -/
def Ahead (ws : List Str) (z x : Str) : Prop := ∃ i j : Nat, j < i ∧ ws[i]? = some x ∧ ws[j]? = some z
/-- a sentence that stays as it is told -/
structure SenOk (ws : List Str) (k f : Str) (s : V) : Prop where
  kd : k ∈ kinds
  fs : f ∈ ws
  sc : (k ∈ single ∧ s = .non) ∨ (k ∉ single ∧ ∃ y, y ∈ ws ∧ s = .str y ∧ (k = "alike" → Ahead ws y f) ∧ (k = "over" → f ≠ y))
def sfs (l : Addr) (k f : Str) (s : V) : List (Str × V) := [("letters", .ref l), ("kind", .str k), ("first", .str f), ("second", s)]
def spSenInit (a : Ad) : Sp := fun vs H Q _ => ∃ x dx l ws k f s, vs = [.ref x, .ref l, .str k, .str f, s] ∧ H x = some (.ins a.Sentence dx []) ∧ LetAt a H l ws ∧ ws.Nodup ∧ SenOk ws k f s ∧
  ∀ H', H' x = some (.ins a.Sentence dx (sfs l k f s)) → Kx x H H' → Q .non H'
theorem ok_Sentence___init__ {fd : FuncData} (F : FunD K "__init__" "Sentence.__init__" (defArgs s_Sentence___init__) (defBody s_Sentence___init__) (defScope s_Sentence___init__) [.non] [] a.f_Sentence___init__ fd) (T : Txt K mg a) :
    FnOk P w K mg base CX0 4 a.f_Sentence___init__ fd ["self", "letters", "kind", "first", "second"] (spSenInit a) := by
  refine F.ok sc_Sentence___init__ (fun vs H Q E h => ?_) (fun cdv A outer s H vs Q E hr h => ?_)
  · obtain ⟨x, dx, l, ws, k, f, s, rfl, _⟩ := h
    rfl
  · obtain ⟨x, dx, l, ws, k, f, s, rfl, hx, L, nd, S, q⟩ := h
    obtain ⟨dl, t, o, h1, h2, h3, h4⟩ := id L
    refine ⟨_, PSs.nox (pss_cons (ps_if (pt_not (pt_val (pe_callC (c_is_one_of T) hr (pa_cons (pv 2) (pa_cons (pe_gref T.g_KINDS) pa_nil))))) (pss_one ps_never) pss_nil)
  (pss_cons (ps_if (pt_cmpR (op_notInOwn (c_Letters___contains__ T) hr) (pv 3) (pv 1) (by rfl)) (pss_one ps_never) pss_nil)
  (pss_cons (ps_if (pt_ifExp (pt_cmpR op_in_seq (pv 2) (pe_gref T.g_SINGLE) (by rfl)) (pt_cmpR op_notN (pv 4) pe_non (by rfl)) (pt_cmpR (op_notInOwn (c_Letters___contains__ T) hr) (pv 4) (pv 1) (by rfl))) (pss_one ps_never) pss_nil)
  (pss_cons (ps_if (PW.pt (pw_and (pt_cmpR op_eq (pv 2) pe_str (by rfl)) (pw_and1 (pt_cmpR op_eq (pv 3) (pv 4) (by rfl))))) (pss_one ps_never) pss_nil)
  (pss_cons (ps_set (i := 5) sc_Sentence___init__.nd rfl (by first | exact Or.inl rfl | exact Or.inr rfl) (pe_and (pe_cmpR op_eq (pv 2) pe_str (by rfl)) (pe_one (pe_cmpR op_lt (pe_methC (c_Letters_rank T) hr (pv 1) (pa_cons (pv 3) pa_nil)) (pe_methC (c_Letters_rank T) hr (pv 1) (pa_cons (pv 4) pa_nil)) (by rfl)))))
  (pss_cons (ps_fld (pv 0) (pv 1) rfl)
  (pss_cons (ps_fld (pv 0) (pe_ifExp (PW.pt (pw_and (pt_cmpR op_eq (pv 2) pe_str (by rfl)) (pw_and1 (pt_cmpR op_eq (pv 3) (pv 4) (by rfl))))) pe_str (pv 2)) rfl)
  (pss_cons (ps_fld (pv 0) (pe_ifExp (pt_val (pv 5)) (pv 4) (pv 3)) rfl)
  (pss_one (ps_fld (pv 0) (pe_ifExp (pt_val (pv 5)) (pv 3) (pv 4)) rfl)))))))))), ?_⟩
    walk_at "st"
    refine ⟨_, _, kinds, rfl, T.k_KINDS H, ?_⟩
    rw [decide_eq_true S.kd]
    walk_at "st"
    refine ⟨_, _, _, rfl, h1, _, _, _, rfl, L, _, rfl, ?_⟩
    rw [decide_eq_true S.fs]
    walk_at "st"
    have fin : ∀ (H1 : Hp) (v5 : Option V), H1 = H → v5 = some (.bl false) → (k = "over" → V.str f ≠ s) → (scal (.str f) s = true) →
        (tSeq (sFld K (tVar 0) (tVar 1) "letters") (tSeq (sFld K (tVar 0) (tIf (tAnd (tTest (tOp rEq (tVar 2) (tC (V.str "over")))) (tTest (tOp rEq (tVar 3) (tVar 4)))) (tC (V.str "kept")) (tVar 2)) "kind")
          (tSeq (sFld K (tVar 0) (tIf (tB (tVar 5)) (tVar 4) (tVar 3)) "first") (sFld K (tVar 0) (tIf (tB (tVar 5)) (tVar 3) (tVar 4)) "second")))) { nx := fun x H' => Q V.non H', rt := Q } [some (.ref x), some (.ref l), some (.str k), some (.str f), some s, v5] H1 := by
      rintro H1 v5 rfl rfl ho hs
      walk_at "st"
      refine rd_sfldAt hx T.cl_Sentence T.na_Sentence_letters (by show 0 < 1000; decide) ?_
      obtain ⟨l1, m1⟩ := putF_lt (f := "letters") (v := V.ref l) (fs := []) (n := 0) (Nat.le_refl _) (by omega)
      obtain ⟨l2, m2⟩ := putF_lt (f := "kind") (v := V.str k) l1 (by omega)
      obtain ⟨l3, m3⟩ := putF_lt (f := "first") (v := V.str f) l2 (by omega)
      have kd : ∀ R : V → Hp → Prop, R (.str k) (upd H1 x (.ins a.Sentence dx (putF "letters" (V.ref l) []))) → tIf (tAnd (tTest (tOp rEq (tVar 2) (tC (V.str "over")))) (tTest (tOp rEq (tVar 3) (tVar 4)))) (tC (V.str "kept")) (tVar 2) [some (.ref x), some (.ref l), some (.str k), some (.str f), some s, some (.bl false)] (upd H1 x (.ins a.Sentence dx (putF "letters" (V.ref l) []))) R := by
        intro R r
        walk_at "st"
        refine ite2 (fun h => ?_) (fun h => ?_)
        · walk_at "st"
          refine ⟨hs, ?_⟩
          rw [decide_eq_false (ho (V.str.inj (of_decide_eq_true h)))]
          walk_at "st"
          first | exact r | done
        · walk_at "st"
          exact r
      walk_at "st1"
      walk_at "st1"
      refine kd _ ?_
      walk_at "st"
      refine rd_sfldAt upd_same T.cl_Sentence T.na_Sentence_kind m1 ?_
      walk_at "st"
      refine rd_sfldAt upd_same T.cl_Sentence T.na_Sentence_first m2 ?_
      walk_at "st"
      refine rd_sfldAt upd_same T.cl_Sentence T.na_Sentence_second m3 ?_
      refine q _ ?_ (fun b u nb hb => ?_)
      · exact upd_same
      · rw [upd_ne nb, upd_ne nb, upd_ne nb, upd_ne nb]
        exact hb
    have sg : inV (.str k) [.str "idle", .str "still"] = decide (k ∈ single) := inV_strs k single
    refine ⟨_, _, rfl, .inr (T.k_SINGLE H), rfl, rfl, ?_⟩
    rw [if_neg Bool.false_ne_true, sg]
    rcases S.sc with ⟨hk, rfl⟩ | ⟨hk, y, hy, rfl, hA, hO⟩
    · have n1 : k ≠ "alike" := fun e => by rw [e] at hk; exact absurd hk (by decide +kernel)
      have n2 : k ≠ "over" := fun e => by rw [e] at hk; exact absurd hk (by decide +kernel)
      have e1 : decide (V.str k = V.str "alike") = false := decide_eq_false fun h => n1 (V.str.inj h)
      rw [decide_eq_true hk]
      walk_at "st"
      rw [decide_eq_true rfl]
      walk_at "st"
      rw [e1]
      walk_at "st"
      rw [e1]
      refine iteF ?_
      exact fin _ _ rfl rfl (fun e => absurd e n2) rfl
    · rw [decide_eq_false hk]
      walk_at "st"
      refine ⟨_, _, _, rfl, h1, _, _, _, rfl, L, _, rfl, ?_⟩
      rw [decide_eq_true hy]
      walk_at "st"
      refine ite2 (fun h => ?_) (fun h => ?_)
      · have ka := V.str.inj (of_decide_eq_true h)
        obtain ⟨i, j, hij, hi, hj⟩ := hA ka
        have hil := (List.getElem?_eq_some_iff.mp hi).1
        have nfy : V.str f ≠ V.str y := fun e => by
          have e' := V.str.inj e
          have := List.pairwise_iff_getElem.mp nd j i (by omega) hil hij
          rw [(List.getElem?_eq_some_iff.mp hi).2, (List.getElem?_eq_some_iff.mp hj).2] at this
          exact this e'.symm
        walk_at "st"
        rw [decide_eq_false nfy]
        walk_at "st"
        rw [h]
        walk_at "st"
        refine ⟨_, _, _, rfl, h1, rfl, ?_⟩
        walk_at "st"
        refine ⟨_, _, _, rfl, L, S.fs, fun i' hi' _ => ?_⟩
        walk_at "st"
        refine ⟨_, _, _, rfl, h1, rfl, ?_⟩
        walk_at "st"
        refine ⟨_, _, _, rfl, L, hy, fun j' hj' _ => ?_⟩
        refine rd_I0 ?_
        have uq : ∀ (p q : Nat) (z : Str), ws[p]? = some z → ws[q]? = some z → p = q := fun p q z hp hq => by
          obtain ⟨p1, p2⟩ := List.getElem?_eq_some_iff.mp hp
          obtain ⟨q1, q2⟩ := List.getElem?_eq_some_iff.mp hq
          rcases Nat.lt_trichotomy p q with c | c | c
          · exact absurd (p2.trans q2.symm) (List.pairwise_iff_getElem.mp nd p q p1 q1 c)
          · exact c
          · exact absurd (q2.trans p2.symm) (List.pairwise_iff_getElem.mp nd q p q1 p1 c)
        have := uq _ _ _ hi hi'
        have := uq _ _ _ hj hj'
        rw [decide_eq_false (by omega)]
        exact fin _ _ rfl rfl (fun e => by rw [ka] at e; exact absurd e (by decide +kernel)) rfl
      · walk_at "st"
        have e1 : decide (V.str k = V.str "alike") = false := by simpa using h
        rw [e1]
        refine iteF ?_
        exact fin _ _ rfl rfl (fun e h => hO e (V.str.inj h)) rfl
theorem c_Sentence (T : Txt K mg a) : Ctr P w K mg base 4 "Sentence" a.Sentence ["self", "letters", "kind", "first", "second"] [] (spSenInit a) := by
  obtain ⟨fd, F⟩ := T.F_Sentence___init__
  obtain ⟨ds, hv, hb⟩ := F.binds1 (ps := ["self", "letters", "kind", "first", "second"]) 5 1 (by intro z; cases z) rfl (fun _ _ _ _ _ _ _ us its hl hi => match us, hl with | [_, _, _, _, _], _ => match its, hi with | [_], _ => ⟨_, rfl, rfl⟩)
  cases hv
  exact ⟨_, _, _, T.mk_Sentence, ok_Sentence___init__ F T, T.g_Sentence, hb, .nil⟩
theorem c_Sentence1 (T : Txt K mg a) : Ctr P w K mg base 4 "Sentence" a.Sentence ["self", "letters", "kind", "first", "second"] [.non] (spSenInit a) := by
  obtain ⟨fd, F⟩ := T.F_Sentence___init__
  obtain ⟨ds, hv, hb⟩ := F.binds1 (ps := ["self", "letters", "kind", "first", "second"]) 4 0 (by intro z; cases z) rfl (fun _ _ _ _ _ _ _ us its hl hi => match us, hl with | [_, _, _, _], _ => match its, hi with | [_], _ => ⟨_, rfl, rfl⟩)
  exact ⟨_, _, _, T.mk_Sentence, ok_Sentence___init__ F T, T.g_Sentence, hb, hv⟩
/-- a new sentence -/
theorem mk_sen {H : Hp} {l : Addr} {ws : List Str} {k f : Str} {s : V} {R : Addr → Hp → Prop} (L : LetAt a H l ws) (nd : ws.Nodup) (S : SenOk ws k f s)
    (q : ∀ x dx H', H x = none → Ex H H' → H' x = some (.ins a.Sentence dx (sfs l k f s)) → R x H') :
    ∀ x dx, H x = none → H dx = none → dx ≠ x → spSenInit a [.ref x, .ref l, .str k, .str f, s] (upd (upd H dx (.own x)) x (.ins a.Sentence dx [])) (fun v H2 => v = .non ∧ R x H2) E0 := by
  intro x dx hx hdx ne
  have e0 : Ex H (upd (upd H dx (.own x)) x (.ins a.Sentence dx [])) := fun b o h => by rw [upd_ne (ne_of_none h hx), upd_ne (ne_of_none h hdx)]; exact h
  refine ⟨x, dx, l, ws, k, f, s, rfl, upd_same, L.ex e0, nd, S, fun H' h1 kx => ⟨rfl, q x dx H' hx (fun b o h => kx b o (ne_of_none h hx) (e0 b o h)) h1⟩⟩
def spSenEq (a : Ad) : Sp := fun vs H Q _ => ∃ p q dx dy l ws k f s, vs = [.ref p, .ref q] ∧ H p = some (.ins a.Sentence dx (sfs l k f s)) ∧ H q = some (.ins a.Sentence dy (sfs l k f s)) ∧ LetAt a H l ws ∧ scal s s = true ∧ Q (.bl true) H
theorem c_Sentence___eq__ (T : Txt K mg a) : Mth P w K mg base 3 a.Sentence "__eq__" ["self", "other"] (spSenEq a) := by
  obtain ⟨fd, F, b⟩ := T.F_Sentence___eq__
  refine ⟨T.cl_Sentence, _, _, T.m_Sentence___eq__, F.ok sc_Sentence___eq__ (fun vs H Q E h => ?_) (fun cdv A outer s H vs Q E hr h => ?_), b⟩
  · obtain ⟨p, q, dx, dy, l, ws, k, f, s, rfl, _⟩ := h
    rfl
  · obtain ⟨p, q, dx, dy, l, ws, k, f, s, rfl, hp, hq, L, hs, fin⟩ := h
    obtain ⟨dl, t, o, h1, h2, h3, h4⟩ := id L
    refine ⟨_, (pss_cons (ps_if (PW.pt (pw_or (pt_not (pt_val (pe_callB call_isi (by rfl) T.n_isinstance (by decide +kernel) (pa_cons (pv 1) (pa_cons (pe_gref T.g_Sentence) pa_nil))))) (pw_or (pt_cmpR (op_neOwn T.ne_Letters (c_Letters___eq__ T) hr) (pe_fld (pv 0) rfl) (pe_fld (pv 1) rfl) (by rfl)) (pw_or1 (pt_cmpR op_ne (pe_fld (pv 0) rfl) (pe_fld (pv 1) rfl) (by rfl)))))) (pss_one (ps_ret pe_bl)) pss_nil)
  (pss_one (ps_ret (pe_and (pe_cmpR op_eq (pe_fld (pv 0) rfl) (pe_fld (pv 1) rfl) (by rfl)) (pe_one (pe_cmpR op_eq (pe_fld (pv 0) rfl) (pe_fld (pv 1) rfl) (by rfl))))))), ?_⟩
    walk_at "st"
    refine rd_isiOwn T.cl_Sentence T.isi_Sentence hq ?_
    walk_at "st"
    refine rd_fldAt hp T.cl_Sentence T.na_Sentence_letters rfl ?_
    walk_at "st"
    refine rd_fldAt hq T.cl_Sentence T.na_Sentence_letters rfl ?_
    refine ⟨_, _, _, _, _, _, rfl, rfl, h1, h1, _, _, _, _, rfl, L, L, ?_⟩
    rw [decide_eq_true rfl]
    walk_at "st"
    refine rd_fldAt hp T.cl_Sentence T.na_Sentence_kind rfl ?_
    walk_at "st"
    refine rd_fldAt hq T.cl_Sentence T.na_Sentence_kind rfl ?_
    walk_at "st"
    rw [decide_eq_true rfl]
    walk_at "st"
    refine rd_fldAt hp T.cl_Sentence T.na_Sentence_first rfl ?_
    walk_at "st"
    refine rd_fldAt hq T.cl_Sentence T.na_Sentence_first rfl ?_
    walk_at "st"
    rw [decide_eq_true rfl]
    walk_at "st"
    refine rd_fldAt hp T.cl_Sentence T.na_Sentence_second rfl ?_
    walk_at "st"
    refine rd_fldAt hq T.cl_Sentence T.na_Sentence_second rfl ?_
    refine ⟨hs, ?_⟩
    rw [decide_eq_true rfl]
    exact fin
end


abbrev Row := Str × Str × V
def rIdle (x : Str) : Row := ("idle", x, .non)
def rStill (x : Str) : Row := ("still", x, .non)
def rAlike (x z : Str) : Row := ("alike", x, .str z)
def rPair (x y : Str) : List Row := ([("kept", x, V.str y)] : List Row) ++ (if x = y then ([] : List Row) else [("over", x, V.str y)]) ++ ([("undone", x, V.str y)] : List Row)
def alikes (ws : List Str) (i : Nat) : List Row := (List.range i).flatMap fun i => (ws.take i).map (rAlike (ws.getD i ""))
def pairs (ws : List Str) (i : Nat) : List Row := (ws.take i).flatMap fun x => ws.flatMap (rPair x)
def menuRows (ws : List Str) : List Row := ws.map rIdle ++ alikes ws ws.length ++ ws.map rStill ++ pairs ws ws.length
/-- a sentence over the letters at l, as the row says -/
def SenRow (a : Ad) (H : Hp) (l : Addr) (v : V) (r : Row) : Prop := ∃ p dx, v = .ref p ∧ H p = some (.ins a.Sentence dx (sfs l r.1 r.2.1 r.2.2))
/-- item by item -/
structure Each (R : V → Row → Prop) (vs : List V) (rs : List Row) : Prop where
  len : vs.length = rs.length
  at_ : ∀ (i : Nat) v r, vs[i]? = some v → rs[i]? = some r → R v r
theorem Each.nil {R : V → Row → Prop} : Each R [] [] := ⟨rfl, fun i v r h => by simp at h⟩
theorem Each.imp {R S : V → Row → Prop} {vs : List V} {rs : List Row} (e : Each R vs rs) (h : ∀ v r, R v r → S v r) : Each S vs rs := ⟨e.len, fun i v r a b => h v r (e.at_ i v r a b)⟩
theorem Each.app {R : V → Row → Prop} {vs us : List V} {rs ts : List Row} (e : Each R vs rs) (f : Each R us ts) : Each R (vs ++ us) (rs ++ ts) := by
  refine ⟨by rw [List.length_append, List.length_append, e.len, f.len], fun i v r h1 h2 => ?_⟩
  by_cases hi : i < vs.length
  · rw [List.getElem?_append_left hi] at h1
    rw [List.getElem?_append_left (by rw [← e.len]; exact hi)] at h2
    exact e.at_ i v r h1 h2
  · rw [List.getElem?_append_right (by omega)] at h1
    rw [List.getElem?_append_right (by rw [← e.len]; omega), ← e.len] at h2
    exact f.at_ _ v r h1 h2
theorem Each.one {R : V → Row → Prop} {v : V} {r : Row} (h : R v r) : Each R [v] [r] := ⟨rfl, fun i u t h1 h2 => by
  cases i with
  | zero => simp at h1 h2; subst h1; subst h2; exact h
  | succ i => simp at h1⟩
theorem Each.snoc {R : V → Row → Prop} {vs : List V} {rs : List Row} {v : V} {r : Row} (e : Each R vs rs) (h : R v r) : Each R (vs ++ [v]) (rs ++ [r]) := e.app (.one h)
theorem take_snoc {α : Type} {l : List α} {i : Nat} {x : α} (h : l[i]? = some x) : l.take (i + 1) = l.take i ++ [x] := by
  rw [List.take_add_one, h]; rfl
section
variable {P : Program} {w : World} {K : PySem.W.Frag} {mg : Str → Option Value} {base : Heap} {a : Ad}
theorem SenRow.ex {H H' : Hp} {l : Addr} {v : V} {r : Row} (s : SenRow a H l v r) (e : Ex H H') : SenRow a H' l v r := let ⟨p, dx, h1, h2⟩ := s; ⟨p, dx, h1, e _ _ h2⟩
/-- a list is written -/
theorem SenRow.wr {H : Hp} {l D : Addr} {v : V} {r : Row} {xs ys : List V} (s : SenRow a H l v r) (h : H D = some (.lst xs)) : SenRow a (upd H D (.lst ys)) l v r :=
  let ⟨p, dx, h1, h2⟩ := s; ⟨p, dx, h1, by rw [upd_ne (ne_of h2 h (by intro z; cases z))]; exact h2⟩
/-- the list at D holds the sentences rs; what H0 knew stands -/
structure Sens (a : Ad) (H0 : Hp) (l D : Addr) (rs : List Row) (H : Hp) : Prop where
  ex : Ex H0 H
  new : H0 D = none
  at_ : ∃ vs, H D = some (.lst vs) ∧ Each (SenRow a H l) vs rs
theorem Sens.grow {H0 H H' : Hp} {l D : Addr} {rs : List Row} (s : Sens a H0 l D rs H) (e : Ex H H') : Sens a H0 l D rs H' := by
  obtain ⟨vs, h1, h2⟩ := s.at_
  exact ⟨s.ex.trans e, s.new, vs, e _ _ h1, h2.imp fun _ _ q => q.ex e⟩
theorem Sens.put {H0 H : Hp} {l D : Addr} {rs ts : List Row} {vs us : List V} (s : Sens a H0 l D rs H) (h : H D = some (.lst vs)) (e : Each (SenRow a H l) us ts) : Sens a H0 l D (rs ++ ts) (upd H D (.lst (vs ++ us))) := by
  obtain ⟨vs', h1, h2⟩ := s.at_
  rw [h] at h1; cases h1
  exact ⟨Ex.mut s.ex s.new, s.new, _, upd_same, (h2.imp fun _ _ q => q.wr h).app (e.imp fun _ _ q => q.wr h)⟩
theorem Sens.start {H0 : Hp} {l D : Addr} (h : H0 D = none) : Sens a H0 l D [] (upd H0 D (.lst [])) := ⟨Ex.new h, h, [], upd_same, .nil⟩
/-- lengths -/
theorem alikes_succ {ws : List Str} {i : Nat} : alikes ws (i + 1) = alikes ws i ++ (ws.take i).map (rAlike (ws.getD i "")) := by
  unfold alikes; rw [List.range_succ, List.flatMap_append]; simp
theorem pairs_succ {ws : List Str} {i : Nat} {x : Str} (h : ws[i]? = some x) : pairs ws (i + 1) = pairs ws i ++ ws.flatMap (rPair x) := by
  unfold pairs; rw [take_snoc h, List.flatMap_append]; simp
theorem rPair_len (x y : Str) : (rPair x y).length ≤ 3 := by unfold rPair; split <;> simp
theorem fm_len {α : Type} {f : α → List Row} {c : Nat} (hf : ∀ x, (f x).length ≤ c) : ∀ l : List α, (l.flatMap f).length ≤ c * l.length
  | [] => by simp
  | x :: r => by
    have := fm_len hf r
    have := hf x
    rw [List.flatMap_cons, List.length_append, List.length_cons, Nat.mul_add]
    omega
theorem menu_len {ws : List Str} (h : ws.length ≤ 12) : (menuRows ws).length ≤ 10000 := by
  have h1 := fm_len (c := 12) (fun i => by rw [List.length_map, List.length_take]; omega : ∀ i, ((ws.take i).map (rAlike (ws.getD i ""))).length ≤ 12) (List.range ws.length)
  have h2 : ∀ x, (ws.flatMap (rPair x)).length ≤ 36 := fun x => by have := fm_len (rPair_len x) ws; omega
  have h3 := fm_len h2 (ws.take ws.length)
  unfold menuRows alikes pairs
  simp only [List.length_append, List.length_map, List.length_range, List.length_take] at *
  omega
def spMenu (a : Ad) : Sp := fun vs H Q _ => ∃ l ws, vs = [.ref l] ∧ LetAt a H l ws ∧ ws.Nodup ∧ ws.length ≤ 12 ∧
  ∀ t o us H', H' t = some (.frz o (.tup us)) → Ex H H' → Each (SenRow a H' l) us (menuRows ws) → Q (.ref t) H'
theorem c_menu (T : Txt K mg a) : Cal P w K mg base 6 "menu" ["letters"] (spMenu a) := by
  obtain ⟨fd, F, b⟩ := T.F_menu
  refine ⟨_, _, F.ok sc_menu (fun vs H Q E h => ?_) (fun cdv A outer s H vs Q E hr h => ?_), T.g_menu, F.kp, b⟩
  · obtain ⟨l, ws, rfl, _⟩ := h
    rfl
  · obtain ⟨l, ws, rfl, L, nd, hn, k⟩ := h
    obtain ⟨dl, t, o, h1, h2, h3, h4⟩ := id L
    have hm := menu_len hn
    refine ⟨_, (pss_cons (ps_set (i := 1) sc_menu.nd rfl (by first | exact Or.inl rfl | exact Or.inr rfl) (pe_fld (pv 0) rfl))
  (pss_cons (ps_setLc (own := [("x", 3)]) (i := 2) (by rfl) sc_menu.nd rfl rfl (sw_true rfl rfl rfl (by decide +kernel)) (pi_tup (pv 1)) (blkOk_by (own := [("x", 3)]) (N := N_menu) (sc := defScope s_menu) (by decide +kernel)) (fun _ _ _ _ _ => (pg_name (i := 3) sc_menu.nd rfl (by first | exact Or.inl rfl | exact Or.inr rfl))) (fun _ _ _ _ _ => pts_nil) (fun _ _ _ _ _ => (pe_makeC (c_Sentence1 T) hr (pa_cons (pv 0) (pa_cons pe_str (pa_cons (pv 3) pa_nil))))))
  (pss_cons (ps_aug (i := 2) sc_menu.nd rfl (by first | exact Or.inl rfl | exact Or.inr rfl) (pe_lc2 (own := [("x", 3), ("z", 5)]) (vs1 := [5]) (by rfl) sc_menu.nd (pi_tup (pv 1)) (blkOk_by (own := [("x", 3), ("z", 5)]) (N := N_menu) (sc := defScope s_menu) (by decide +kernel)) (by decide) (fun _ _ _ _ _ => (pg_name (i := 3) sc_menu.nd rfl (by first | exact Or.inl rfl | exact Or.inr rfl))) (fun _ _ _ _ _ => pts_nil) (fun _ _ _ _ _ => (pi_tupK (K := K) (pv 1))) (fun _ _ _ _ _ => (pg_name (i := 5) sc_menu.nd rfl (by first | exact Or.inl rfl | exact Or.inr rfl))) (fun _ _ _ _ _ => pts_one (pt_cmpR op_lt (pe_methC (c_Letters_rank T) hr (pv 0) (pa_cons (pv 5) pa_nil)) (pe_methC (c_Letters_rank T) hr (pv 0) (pa_cons (pv 3) pa_nil)) (by rfl))) (fun _ _ _ _ _ => (pe_makeC (c_Sentence T) hr (pa_cons (pv 0) (pa_cons pe_str (pa_cons (pv 3) (pa_cons (pv 5) pa_nil))))))) ip_ext)
  (pss_cons (ps_aug (i := 2) sc_menu.nd rfl (by first | exact Or.inl rfl | exact Or.inr rfl) (pe_lc (own := [("y", 4)]) (by rfl) sc_menu.nd (pi_tup (pv 1)) (blkOk_by (own := [("y", 4)]) (N := N_menu) (sc := defScope s_menu) (by decide +kernel)) (fun _ _ _ _ _ => (pg_name (i := 4) sc_menu.nd rfl (by first | exact Or.inl rfl | exact Or.inr rfl))) (fun _ _ _ _ _ => pts_nil) (fun _ _ _ _ _ => (pe_makeC (c_Sentence1 T) hr (pa_cons (pv 0) (pa_cons pe_str (pa_cons (pv 4) pa_nil)))))) ip_ext)
  (pss_cons (ps_for PassesOwn.never (by rfl) (pi_tup (pv 1)) (pg_name (i := 3) sc_menu.nd rfl (by first | exact Or.inl rfl | exact Or.inr rfl))
    (pss_one (ps_for PassesOwn.never (by rfl) (pi_tup (pv 1)) (pg_name (i := 4) sc_menu.nd rfl (by first | exact Or.inl rfl | exact Or.inr rfl))
        (pss_cons (ps_expr (pe_bm PySem.F.plainAttrs_list PySem.F.slot_list_append PySem.F.type_list_append mt_append (pv 2) (pa_cons (pe_makeC (c_Sentence T) hr (pa_cons (pv 0) (pa_cons pe_str (pa_cons (pv 3) (pa_cons (pv 4) pa_nil))))) pa_nil)))
          (pss_cons (ps_if (pt_cmpR op_ne (pv 3) (pv 4) (by rfl)) (pss_one (ps_expr (pe_bm PySem.F.plainAttrs_list PySem.F.slot_list_append PySem.F.type_list_append mt_append (pv 2) (pa_cons (pe_makeC (c_Sentence T) hr (pa_cons (pv 0) (pa_cons pe_str (pa_cons (pv 3) (pa_cons (pv 4) pa_nil))))) pa_nil)))) pss_nil)
          (pss_one (ps_expr (pe_bm PySem.F.plainAttrs_list PySem.F.slot_list_append PySem.F.type_list_append mt_append (pv 2) (pa_cons (pe_makeC (c_Sentence T) hr (pa_cons (pv 0) (pa_cons pe_str (pa_cons (pv 3) (pa_cons (pv 4) pa_nil))))) pa_nil)))))))))
  (pss_one (ps_ret (pe_callTy call_tuple_frz (by rfl) T.n_tuple (by decide +kernel) (pa_cons (pv 2) pa_nil))))))))), ?_⟩
    walk_at "st"
    refine rd_fldAt h1 T.cl_Letters T.na_Letters_words rfl ?_
    walk_at "st"
    -- found = [Sentence(letters, "idle", x) for x in words]
    refine rd_lcYl (J := Itt K t) (H1 := H) (fun R r => ⟨_, rfl, t, rfl, ⟨_, st_frz h2⟩, r⟩) (yl_tup (ws.map V.str)) (fun D i H' => Sens a H l D ((ws.take i).map rIdle) H') (fun D i H' _ p => st_frz (p.ex _ _ h2)) (fun D hD => .start hD) (fun D i x H1 H2 hi p e yy => ?_) (fun D H1 p => ?_)
    · have hx := yy
      rw [List.length_map] at hi
      have ex : x = V.str ws[i] := by rw [List.getElem?_map, List.getElem?_eq_getElem hi] at hx; exact (Option.some.inj hx).symm
      subst ex
      refine ⟨rfl, ?_⟩
      walk_at "st"
      refine mk_sen (k := "idle") (s := .non) (L.ex (p.ex.trans e)) nd ⟨by decide +kernel, List.getElem_mem hi, .inl ⟨by decide +kernel, rfl⟩⟩ (fun y dy H3 hy e3 h3 => ?_)
      have p3 := (p.grow e).grow e3
      obtain ⟨vs, v1, v2⟩ := p3.at_
      refine ⟨vs, v1, by rw [v2.len, List.length_map, List.length_take]; exact Nat.lt_of_le_of_lt (Nat.min_le_left _ _) (Nat.lt_trans hi (Nat.lt_of_le_of_lt hn (by decide))), ?_⟩
      have := p3.put v1 (.one ⟨y, dy, rfl, h3⟩ : Each (SenRow a H3 l) [.ref y] [rIdle ws[i]])
      rw [take_snoc (List.getElem?_eq_getElem hi), List.map_append]
      exact this
    · rw [List.length_map, List.take_length] at p
      walk_at "st"
      -- found += [Sentence(letters, "alike", x, z) for x in words for z in words if letters.rank(z) < letters.rank(x)]
      have pt : ∀ {H'}, Ex H H' → SqT K H' t (ws.map V.str) := fun e => st_frz (e _ _ h2)
      have hlt : ∀ {n : Nat}, n ≤ 10000 → n < sizeLine := fun h => Nat.lt_of_le_of_lt h (by decide)
      have wsi : ∀ {i : Nat} {x : V} (hi : i < ws.length), (ws.map V.str)[i]? = some x → x = V.str ws[i] := fun hi hx => by
        rw [List.getElem?_map, List.getElem?_eq_getElem hi] at hx; exact (Option.some.inj hx).symm
      have uq : ∀ (p q : Nat) (z : Str), ws[p]? = some z → ws[q]? = some z → p = q := fun p q z hp hq => by
        obtain ⟨p1, p2⟩ := List.getElem?_eq_some_iff.mp hp
        obtain ⟨q1, q2⟩ := List.getElem?_eq_some_iff.mp hq
        rcases Nat.lt_trichotomy p q with c | c | c
        · exact absurd (p2.trans q2.symm) (List.pairwise_iff_getElem.mp nd p q p1 q1 c)
        · exact c
        · exact absurd (q2.trans p2.symm) (List.pairwise_iff_getElem.mp nd q p q1 p1 c)
      refine rd_lc2Yl (J := Itt K t) (H1 := H1) (fun R r => ⟨_, rfl, t, rfl, ⟨_, pt p.ex⟩, r⟩) (yl_tup (ws.map V.str)) (fun D2 i H' => Sens a H1 l D2 (alikes ws i) H') (fun D2 i H' _ q => pt (p.ex.trans q.ex)) (fun D2 hD => .start hD) (fun D2 i x H2 H3 hi q e yy N hN => ?_) (fun D2 H2 q => ?_)
      · rw [List.length_map] at hi
        rw [wsi hi yy]
        refine ⟨rfl, ?_⟩
        refine rd_yes (iteT ?_)
        refine ⟨_, rfl, t, rfl, ⟨_, pt ((p.ex.trans q.ex).trans e)⟩, ?_⟩
        refine in_yl (yl_tup (ws.map V.str)) (fun j H' => Sens a H1 l D2 (alikes ws i ++ (ws.take (min j i)).map (rAlike ws[i])) H') (fun j H' _ q => pt (p.ex.trans q.ex)) (by simpa using q.grow e) (fun j y H4 H5 hj q4 e4 yy4 => ?_) (fun H4 q4 => hN H4 ?_)
        · rw [List.length_map] at hj
          rw [wsi hj yy4]
          refine ⟨rfl, ?_⟩
          have q5 := q4.grow e4
          have L5 := L.ex (p.ex.trans q5.ex)
          obtain ⟨dl5, t5, o5, l51, _⟩ := id L5
          walk_at "st"
          refine ⟨_, _, _, rfl, l51, rfl, ?_⟩
          walk_at "st"
          refine ⟨_, _, _, rfl, L5, List.getElem_mem hj, fun j' hj' _ => ?_⟩
          walk_at "st"
          refine ⟨_, _, _, rfl, l51, rfl, ?_⟩
          walk_at "st"
          refine ⟨_, _, _, rfl, L5, List.getElem_mem hi, fun i' hi' _ => ?_⟩
          walk_at "st"
          have := uq _ _ _ (List.getElem?_eq_getElem hj) hj'
          have := uq _ _ _ (List.getElem?_eq_getElem hi) hi'
          subst_vars
          refine ite2 (fun c => ?_) (fun c => ?_)
          · have c' : j' < i' := by have := of_decide_eq_true c; omega
            walk_at "st"
            refine mk_sen (k := "alike") (s := .str ws[j']) L5 nd ⟨by decide +kernel, List.getElem_mem hi, .inr ⟨by decide +kernel, _, List.getElem_mem hj, rfl, fun _ => ⟨i', j', c', List.getElem?_eq_getElem hi, List.getElem?_eq_getElem hj⟩, fun h => absurd h (by decide +kernel)⟩⟩ (fun z dz H6 hz e6 h6 => ?_)
            have p6 := q5.grow e6
            obtain ⟨vs, v1, v2⟩ := p6.at_
            have lv : vs.length ≤ 10000 := by
              rw [v2.len]
              have h1 := fm_len (c := 12) (fun i => by rw [List.length_map, List.length_take]; omega : ∀ i, ((ws.take i).map (rAlike (ws.getD i ""))).length ≤ 12) (List.range i')
              simp only [alikes, List.length_append, List.length_map, List.length_take, List.length_range] at *
              omega
            refine ⟨vs, v1, hlt lv, ?_⟩
            have r := p6.put v1 (.one ⟨z, dz, rfl, h6⟩ : Each (SenRow a H6 l) [.ref z] [rAlike ws[i'] ws[j']])
            have em : min (j' + 1) i' = j' + 1 := by omega
            have em2 : min j' i' = j' := by omega
            rw [em, take_snoc (List.getElem?_eq_getElem hj), List.map_append, ← List.append_assoc]
            rw [em2] at r
            exact r
          · have c' : ¬ j' < i' := fun h => c (decide_eq_true (by omega))
            have em : min (j' + 1) i' = i' := by omega
            have em2 : min j' i' = i' := by omega
            rw [em]
            rw [em2] at q5
            exact q5
        · rw [alikes_succ]
          have em : min (ws.map V.str).length i = i := by rw [List.length_map]; omega
          rw [em] at q4
          have eg : ws.getD i "" = ws[i] := by simp [List.getD, hi]
          rw [eg]
          exact q4
      · rw [List.length_map] at q
        obtain ⟨us, u1, u2⟩ := q.at_
        have p2 := p.grow q.ex
        obtain ⟨vs, v1, v2⟩ := p2.at_
        have ml : (alikes ws ws.length).length + ws.length + ws.length + (pairs ws ws.length).length ≤ 10000 := by
          simp only [menuRows, List.length_append, List.length_map] at hm; omega
        have lvs : vs.length = ws.length := by rw [v2.len, List.length_map]
        have lus := u2.len
        refine rd_ext v1 u1 (Nat.le_of_lt (hlt (by omega))) ?_
        have r1 := p2.put v1 u2
        generalize upd H2 D (HO.lst (vs ++ us)) = H3 at r1 ⊢
        -- found += [Sentence(letters, "still", y) for y in words]
        walk_at "st"
        refine rd_lcYl (J := Itt K t) (H1 := H3) (fun R r => ⟨_, rfl, t, rfl, ⟨_, pt r1.ex⟩, r⟩) (yl_tup (ws.map V.str)) (fun D i H' => Sens a H3 l D ((ws.take i).map rStill) H') (fun D i H' _ p => pt (r1.ex.trans p.ex)) (fun D hD => .start hD) (fun D i x H4 H5 hi p e yy => ?_) (fun D3 H4 p4 => ?_)
        · rw [List.length_map] at hi
          rw [wsi hi yy]
          refine ⟨rfl, ?_⟩
          walk_at "st"
          refine mk_sen (k := "still") (s := .non) (L.ex ((r1.ex.trans p.ex).trans e)) nd ⟨by decide +kernel, List.getElem_mem hi, .inl ⟨by decide +kernel, rfl⟩⟩ (fun y dy H6 hy e6 h6 => ?_)
          have p3 := (p.grow e).grow e6
          obtain ⟨vs', v1', v2'⟩ := p3.at_
          refine ⟨vs', v1', by rw [v2'.len, List.length_map, List.length_take]; exact hlt (by omega), ?_⟩
          have := p3.put v1' (.one ⟨y, dy, rfl, h6⟩ : Each (SenRow a H6 l) [.ref y] [rStill ws[i]])
          rw [take_snoc (List.getElem?_eq_getElem hi), List.map_append]
          exact this
        · rw [List.length_map, List.take_length] at p4
          obtain ⟨us4, u41, u42⟩ := p4.at_
          have r4 := r1.grow p4.ex
          obtain ⟨vs4, v41, v42⟩ := r4.at_
          have l1 := v42.len
          have l2 := u42.len
          rw [List.length_append, List.length_map] at l1
          rw [List.length_map] at l2
          refine rd_ext v41 u41 (Nat.le_of_lt (hlt (by omega))) ?_
          have r5 := r4.put v41 u42
          generalize upd H4 D (HO.lst (vs4 ++ us4)) = H5 at r5 ⊢
          clear v1 u1 v41 u41 u2 v2 u42 v42
          -- for x in words: for y in words
          walk_at "st"
          have app : ∀ (H6 : Hp) (rs : List Row) (kd : Str) (x y : Str) (nx rt bk ct) (σ : L2.St), Sens a H l D rs H6 → rs.length ≤ 10000 → σ[0]? = some (some (.ref l)) → σ[2]? = some (some (.ref D)) → σ[3]? = some (some (.str x)) → σ[4]? = some (some (.str y)) → SenOk ws kd x (.str y) →
              (∀ H7, Sens a H l D (rs ++ [(kd, x, .str y)]) H7 → nx σ H7) →
              tDrop (tBM K "list" rAppend (tVar 2) (tCons (tMake a.Sentence (spSenInit a) [] E0 (tCons (tVar 0) (tCons (tC (V.str kd)) (tCons (tVar 3) (tCons (tVar 4) tNil))))) tNil)) ⟨nx, rt, bk, ct⟩ σ H6 := by
            intro H6 rs kd x y nx rt bk ct σ S lr s0 s2 s3 s4 ok q
            walk_at "st"
            refine rd_var s2 ?_
            obtain ⟨vs6, w1, w2⟩ := S.at_
            refine rd_tyL (sq_of w1) ?_
            walk_at "st"
            refine rd_var s0 ?_
            walk_at "st"
            refine rd_var s3 ?_
            walk_at "st"
            refine rd_var s4 ?_
            walk_at "st"
            refine mk_sen (L.ex S.ex) nd ok (fun z dz H7 hz e7 h7 => ?_)
            walk_at "st"
            have S7 := S.grow e7
            refine rd_append (e7 _ _ w1) (hlt (by rw [w2.len]; exact lr)) ?_
            exact q _ (S7.put (e7 _ _ w1) (.one ⟨z, dz, rfl, h7⟩))
          refine rd_forYl (J := Itt K t) (H1 := H5) (fun R r => ⟨_, rfl, t, rfl, ⟨_, pt r5.ex⟩, r⟩) (yl_tup (ws.map V.str)) (fun i σ H' => (∃ v3 v4 v5, σ = [some (.ref l), some (.ref t), some (.ref D), v3, v4, v5]) ∧ Sens a H l D (ws.map rIdle ++ alikes ws ws.length ++ ws.map rStill ++ pairs ws i) H') (fun i σ H' _ q => pt q.2.ex) ⟨⟨none, none, none, rfl⟩, by simpa [pairs] using r5⟩ (fun i x σ H6 H7 hi q e yy => ?_) (fun σ H6 q => ?_)
          · rw [List.length_map] at hi
            rw [wsi hi yy]
            obtain ⟨⟨v3, v4, v5, rfl⟩, S6⟩ := q
            have S7 := S6.grow e
            refine rd_gname ?_
            have hpl : ∀ j, ((ws.take j).flatMap (rPair ws[i])).length ≤ 36 := fun j => by
              have := fm_len (rPair_len ws[i]) (ws.take j); rw [List.length_take] at this; omega
            have hpi : (pairs ws i).length ≤ 36 * 12 := by
              have h2 : ∀ x, (ws.flatMap (rPair x)).length ≤ 36 := fun x => by have := fm_len (rPair_len x) ws; omega
              have h3 := fm_len h2 (ws.take i)
              rw [List.length_take] at h3
              unfold pairs; omega
            refine rd_forYl (J := Itt K t) (H1 := H7) (fun R r => ⟨_, rfl, t, rfl, ⟨_, pt S7.ex⟩, r⟩) (yl_tup (ws.map V.str)) (fun j σ H' => (∃ v4 v5, σ = [some (.ref l), some (.ref t), some (.ref D), some (.str ws[i]), v4, v5]) ∧ Sens a H l D (ws.map rIdle ++ alikes ws ws.length ++ ws.map rStill ++ pairs ws i ++ (ws.take j).flatMap (rPair ws[i])) H') (fun j σ H' _ q => pt q.2.ex) ⟨⟨v4, v5, rfl⟩, by simpa using S7⟩ (fun j y σ H8 H9 hj q e8 yy8 => ?_) (fun σ H8 q => ?_)
            · rw [List.length_map] at hj
              rw [wsi hj yy8]
              obtain ⟨⟨v4', v5', rfl⟩, S8⟩ := q
              have S9 := S8.grow e8
              refine rd_gname ?_
              refine rd_seq ?_
              have lr := hpl j
              have lr2 : (ws.map rIdle ++ alikes ws ws.length ++ ws.map rStill ++ pairs ws i ++ (ws.take j).flatMap (rPair ws[i])).length ≤ 9000 := by
                have h1 := fm_len (c := 12) (fun i => by rw [List.length_map, List.length_take]; omega : ∀ i, ((ws.take i).map (rAlike (ws.getD i ""))).length ≤ 12) (List.range ws.length)
                simp only [alikes, List.length_append, List.length_map, List.length_range] at *
                omega
              refine app _ _ "kept" ws[i] ws[j] _ _ _ _ _ S9 (by omega) rfl rfl rfl rfl ⟨by decide +kernel, List.getElem_mem hi, .inr ⟨by decide +kernel, _, List.getElem_mem hj, rfl, fun h => absurd h (by decide +kernel), fun h => absurd h (by decide +kernel)⟩⟩ (fun H10 S10 => ?_)
              walk_at "st"
              have fin : ∀ {rt : VK} {bk ct : L2.St → Hp → Prop} (rs : List Row) (H11 : Hp), Sens a H l D (ws.map rIdle ++ alikes ws ws.length ++ ws.map rStill ++ pairs ws i ++ (ws.take j).flatMap (rPair ws[i]) ++ rs) H11 → rs ++ ([("undone", ws[i], V.str ws[j])] : List Row) = rPair ws[i] ws[j] → rs.length ≤ 2 →
                  tDrop (tBM K "list" rAppend (tVar 2) (tCons (tMake a.Sentence (spSenInit a) [] E0 (tCons (tVar 0) (tCons (tC (V.str "undone")) (tCons (tVar 3) (tCons (tVar 4) tNil))))) tNil)) ⟨fun σ H' => (∃ v4 v5, σ = [some (.ref l), some (.ref t), some (.ref D), some (.str ws[i]), v4, v5]) ∧ Sens a H l D (ws.map rIdle ++ alikes ws ws.length ++ ws.map rStill ++ pairs ws i ++ (ws.take (j + 1)).flatMap (rPair ws[i])) H', rt, bk, ct⟩ [some (.ref l), some (.ref t), some (.ref D), some (.str ws[i]), some (.str ws[j]), v5'] H11 := by
                intro rt bk ct rs H11 S11 er l11
                refine app _ _ "undone" ws[i] ws[j] _ _ _ _ _ S11 (by rw [List.length_append]; omega) rfl rfl rfl rfl ⟨by decide +kernel, List.getElem_mem hi, .inr ⟨by decide +kernel, _, List.getElem_mem hj, rfl, fun h => absurd h (by decide +kernel), fun h => absurd h (by decide +kernel)⟩⟩ (fun H12 S12 => ?_)
                refine ⟨⟨_, _, rfl⟩, ?_⟩
                rw [take_snoc (List.getElem?_eq_getElem hj), List.flatMap_append]
                simp only [List.flatMap_cons, List.flatMap_nil, List.append_nil]
                rw [← er, ← List.append_assoc, ← List.append_assoc]
                exact S12
              refine ite2 (fun c => ?_) (fun c => ?_)
              · have nxy : ws[i] ≠ ws[j] := fun e => by simp [e] at c
                refine app _ _ "over" ws[i] ws[j] _ _ _ _ _ S10 (by rw [List.length_append]; simp only [List.length_cons, List.length_nil]; omega) rfl rfl rfl rfl ⟨by decide +kernel, List.getElem_mem hi, .inr ⟨by decide +kernel, _, List.getElem_mem hj, rfl, fun h => absurd h (by decide +kernel), fun _ => nxy⟩⟩ (fun H11 S11 => ?_)
                refine fin [("kept", ws[i], V.str ws[j]), ("over", ws[i], V.str ws[j])] H11 (by rw [List.append_assoc] at S11; exact S11) ?_ (by simp)
                unfold rPair; rw [if_neg nxy]; rfl
              · have exy : ws[i] = ws[j] := by
                  by_cases h : ws[i] = ws[j]
                  · exact h
                  · exact absurd (by rw [decide_eq_false (fun q => h (V.str.inj q))]; rfl) c
                refine rd_next ?_
                refine fin [("kept", ws[i], V.str ws[j])] H10 S10 ?_ (by simp)
                unfold rPair; rw [if_pos exy]; rfl
            · obtain ⟨⟨v4', v5', rfl⟩, S8⟩ := q
              refine ⟨⟨_, _, _, rfl⟩, ?_⟩
              rw [List.length_map, List.take_length] at S8
              rw [pairs_succ (List.getElem?_eq_getElem hi), ← List.append_assoc]
              exact S8
          · obtain ⟨⟨v3, v4, v5, rfl⟩, S6⟩ := q
            rw [List.length_map] at S6
            obtain ⟨vs6, w1, w2⟩ := S6.at_
            walk_at "st"
            refine ⟨_, _, rfl, .inl ⟨sq_of w1, fun t' o' ht' ho' => ?_⟩⟩
            refine k t' o' vs6 _ upd_same (S6.ex.trans (Ex.new ht')) (w2.imp fun _ _ q => q.ex (Ex.new ht'))
end


abbrev PenK (H : Hp) (pd c : Addr) (B : Nat) : Prop := Pen "cells" "at" "rest" H pd c B
theorem d3 : D3 "cells" "at" "rest" := ⟨by decide +kernel, by decide +kernel, by decide +kernel⟩
section
variable {P : Program} {w : World} {K : PySem.W.Frag} {mg : Str → Option Value} {base : Heap} {a : Ad}
def spPen (K : PySem.W.Frag) : Sp := fun vs H Q _ => ∃ (s : Addr) (ns : List Int), vs = [.ref s] ∧ SqL K H s (ns.map V.int) ∧ ∀ pd c H', H pd = none → H c = none → PenK H' pd c 0 → Ex H H' → Q (.ref pd) H'
theorem cutV_ints (ns : List Int) (lo hi : Option Int) : ∃ ms : List Int, cutV (ns.map V.int) lo hi = ms.map V.int := by
  unfold cutV
  rw [← List.map_drop, ← List.map_take]
  exact ⟨_, rfl⟩
theorem c__law_pen (T : Txt K mg a) : Cal P w K mg base 1 "_law_pen" ["_law_script"] (spPen K) := by
  obtain ⟨fd, F, b⟩ := T.F__law_pen
  refine ⟨_, _, F.ok sc__law_pen (fun vs H Q E h => ?_) (fun cdv A outer s H vs Q E hr h => ?_), T.g__law_pen, F.kp, b⟩
  · obtain ⟨z, ns, rfl, _⟩ := h
    rfl
  · obtain ⟨z, ns, rfl, hz, k⟩ := h
    refine ⟨_, (pss_one (ps_ret (pe_disp (pps_cons pe_str (pe_callTy call_list_of (by rfl) T.n_list (by decide +kernel) (pa_cons (pe_slice sl_list (pv 0) po_none (po_some pe_int)) pa_nil)) (pps_cons pe_str pe_int (pps_cons pe_str pe_int pps_nil))) (by rfl) (by rfl) (fun z => by cases z) (by decide)))), ?_⟩
    walk_at "st"
    intro pd hpd
    have e0 : Ex H (upd H pd (.dK [])) := Ex.new hpd
    obtain ⟨ms, em⟩ := cutV_ints ns none (some 63)
    show tC (V.str "cells") _ _ _
    walk_at "st"
    refine rd_slL (ex_l e0 hz) (fun m H1 hm e1 h1 => ?_)
    rw [em] at h1
    walk_at "st"
    refine ⟨_, _, rfl, .inl (sq_of h1), fun c hc => ?_⟩
    have e2 := Ex.new (o := .lst (ms.map V.int)) hc
    have h2 : upd H1 c (.lst (ms.map V.int)) c = _ := upd_same
    generalize upd H1 c (.lst (ms.map V.int)) = H2 at e2 h2 ⊢
    show tC (V.str "at") _ _ _
    walk_at "st"
    show tC (V.str "rest") _ _ _
    walk_at "st"
    have hp2 : H2 pd = some (.dK []) := e2 _ _ (e1 _ _ upd_same)
    refine ⟨hp2, pd3 "cells" "at" "rest" (.ref c) (.int 0) (.int 0), rfl, by show 3 ≤ 15; decide, ?_⟩
    rw [d3.m]
    have ncp : c ≠ pd := fun e => by rw [e, e1 _ _ upd_same] at hc; cases hc
    refine k pd c _ hpd (fresh_back e0 (fresh_back e1 hc)) ⟨ms, 0, 0, upd_same, by rw [upd_ne ncp]; exact h2, Int.le_refl _, Int.le_refl _, Int.le_refl _⟩ (Ex.mut ((e0.trans e1).trans e2) hpd)
theorem c__law_draw (T : Txt K mg a) : Cal P w K mg base 1 "_law_draw" ["_law_pen_here", "_law_many"] (spDraw "cells" "at" "rest") := by
  obtain ⟨fd, F, b⟩ := T.F__law_draw
  refine ⟨_, _, F.ok sc__law_draw (fun vs H Q E h => ?_) (fun cdv A outer s H vs Q E hr h => ?_), T.g__law_draw, F.kp, b⟩
  · obtain ⟨z, c, B, m, rfl, _⟩ := h
    rfl
  · obtain ⟨pd, c, B, m, rfl, ⟨ns, i, r, hp, hc, i0, iB, r0⟩, hB, m0, m1, k⟩ := h
    have hu := hu_of hr
    have ncp : c ≠ pd := ne_of hc hp (by intro z; cases z)
    have dw : ∀ {x : Int}, CDivW x m := fun {x} => wide_div (b := 30) m0 (by omega) (by omega) (by omega)
    refine ⟨_, (pss_cons (ps_if (pt_cmpR op_gt (pe_dget hu (pv 0) pe_str (fun _ _ => rfl)) pe_int (by rfl)) (pss_cons (ps_set (i := 5) sc__law_draw.nd rfl (by first | exact Or.inl rfl | exact Or.inr rfl) (pe_op op_mod (pe_callTy call_int1 (by rfl) T.n_int (by decide +kernel) (pa_cons (pe_dget hu (pv 0) pe_str (fun _ _ => rfl)) pa_nil)) (pv 1)))
    (pss_cons (ps_dput hu (pv 0) pe_str (pe_op op_fdivW (pe_dget hu (pv 0) pe_str (fun _ _ => rfl)) (pv 1)) rfl)
    (pss_one (ps_ret (pv 5))))) pss_nil)
  (pss_cons (ps_set (i := 2) sc__law_draw.nd rfl (by first | exact Or.inl rfl | exact Or.inr rfl) (pe_dget hu (pv 0) pe_str (fun _ _ => rfl)))
  (pss_cons (ps_dput hu (pv 0) pe_str (pe_op op_add (pv 2) pe_int) rfl)
  (pss_cons (ps_set (i := 3) sc__law_draw.nd rfl (by first | exact Or.inl rfl | exact Or.inr rfl) (pe_op op_add (pe_op op_mul pe_int (pv 2)) pe_int))
  (Evl.pss_cut (ps_if (pt_cmpR (op_neD hr.units) (pe_dget hu (pv 0) pe_str (fun _ _ => rfl)) (pe_lst pa_nil) (by rfl)) (pss_one (ps_set (i := 3) sc__law_draw.nd rfl (by first | exact Or.inl rfl | exact Or.inr rfl) (pe_ix ix_list (pe_dget hu (pv 0) pe_str (fun _ _ => rfl)) (pe_op op_mod (pe_callTy call_int1 (by rfl) T.n_int (by decide +kernel) (pa_cons (pv 2) pa_nil)) (pe_callB call_len_seq (by rfl) T.n_len (by decide +kernel) (pa_cons (pe_dget hu (pv 0) pe_str (fun _ _ => rfl)) pa_nil))) (fun _ _ => rfl)))) pss_nil)
  (Evl.pss_cut (ps_if (PW.pt (pw_and (pt_cmpR op_lt (pv 2) (pe_callB call_len_seq (by rfl) T.n_len (by decide +kernel) (pa_cons (pe_dget hu (pv 0) pe_str (fun _ _ => rfl)) pa_nil)) (by rfl)) (pw_and1 (pt_cmpR op_ge (pe_callB call_abs (by rfl) T.n_abs (by decide +kernel) (pa_cons (pv 3) pa_nil)) (pe_op op_pow pe_int pe_int) (by rfl))))) (pss_cons (ps_dput hu (pv 0) pe_str (pe_op op_fdivW (pe_op op_sub (pe_callB call_abs (by rfl) T.n_abs (by decide +kernel) (pa_cons (pv 3) pa_nil)) (pe_op op_pow pe_int pe_int)) (pv 1)) rfl)
    (pss_one (ps_ret (pe_op op_mod (pe_callTy call_int1 (by rfl) T.n_int (by decide +kernel) (pa_cons (pe_op op_sub (pe_callB call_abs (by rfl) T.n_abs (by decide +kernel) (pa_cons (pv 3) pa_nil)) (pe_op op_pow pe_int pe_int)) pa_nil)) (pv 1))))) pss_nil)
  (pss_cons (ps_set (i := 4) sc__law_draw.nd rfl (by first | exact Or.inl rfl | exact Or.inr rfl) (pe_op op_add (pe_op op_mul (pe_op op_mod (pe_callTy call_int1 (by rfl) T.n_int (by decide +kernel) (pa_cons (pv 3) pa_nil)) pe_int) pe_int) (pe_op op_mul (pe_op op_mul pe_int (pv 2)) (pv 2))))
  (pss_cons (ps_set (i := 4) sc__law_draw.nd rfl (by first | exact Or.inl rfl | exact Or.inr rfl) (pe_op op_mod (pe_callTy call_int1 (by rfl) T.n_int (by decide +kernel) (pa_cons (pe_op op_add (pe_op op_add (pv 4) (pe_op op_mul pe_int (pv 2))) pe_int) pa_nil)) pe_int))
  (pss_cons (ps_set (i := 4) sc__law_draw.nd rfl (by first | exact Or.inl rfl | exact Or.inr rfl) (pe_op op_mod (pe_callTy call_int1 (by rfl) T.n_int (by decide +kernel) (pa_cons (pe_op op_add (pe_op op_add (pe_op op_add (pe_op op_mul (pv 4) (pv 4)) (pe_op op_mul pe_int (pv 4))) (pe_op op_mul pe_int (pv 2))) pe_int) pa_nil)) pe_int))
  (pss_one (ps_ret (pe_op op_mod (pe_callTy call_int1 (by rfl) T.n_int (by decide +kernel) (pa_cons (pe_op op_fdivW (pe_op op_mod (pe_callTy call_int1 (by rfl) T.n_int (by decide +kernel) (pa_cons (pe_op op_mul (pv 4) (pe_op op_add (pv 4) pe_int)) pa_nil)) pe_int) pe_int) pa_nil)) (pv 1))))))))))))), ?_⟩
    walk_at "st"
    refine rd_dgetS hp d3.v3 ?_
    walk_at "st"
    refine ite2 (fun h => ?_) (fun h => ?_)
    · walk_at "st"
      refine rd_dgetS hp d3.v3 ?_
      walk_at "st"
      refine rd_I m0 ?_
      walk_at "st"
      refine rd_dgetS hp d3.v3 ?_
      walk_at "st"
      refine rd_I dw ?_
      walk_at "st"
      refine rd_dputS hp (by show 3 < sizeLine; decide) ?_
      walk_at "st"
      rw [d3.p3]
      refine k _ _ (Int.emod_nonneg _ (by omega)) (Int.emod_lt_of_pos _ m0) ⟨ns, i, r / m, upd_same, by rw [upd_ne ncp]; exact hc, i0, by omega, Int.ediv_nonneg r0 (by omega)⟩ Kx.put
    · walk_at "st"
      refine rd_dgetS hp d3.v2 ?_
      walk_at "st"
      refine rd_dputS hp (by show 3 < sizeLine; decide) ?_
      rw [d3.p2]
      have hp1 : (upd H pd (.dK (pd3 "cells" "at" "rest" (.ref c) (.int (i + 1)) (.int r)))) pd = some (.dK (pd3 "cells" "at" "rest" (.ref c) (.int (i + 1)) (.int r))) := upd_same
      have hc1 : (upd H pd (.dK (pd3 "cells" "at" "rest" (.ref c) (.int (i + 1)) (.int r)))) c = some (.lst (ns.map V.int)) := by rw [upd_ne ncp]; exact hc
      have kx1 : Kx pd H (upd H pd (.dK (pd3 "cells" "at" "rest" (.ref c) (.int (i + 1)) (.int r)))) := Kx.put
      generalize upd H pd (.dK (pd3 "cells" "at" "rest" (.ref c) (.int (i + 1)) (.int r))) = H1 at hp1 hc1 kx1 ⊢
      walk_at "st"
      refine rd_I (.inl ⟨by omega, by omega⟩) ?_
      walk_at "st"
      refine ⟨fun σ' H' => ∃ cell, σ' = [some (.ref pd), some (.int m), some (.int i), some (.int cell), none, none] ∧ Ex H1 H', ?_, ?_⟩
      · walk_at "st"
        refine rd_dgetS hp1 d3.v1 ?_
        walk_at "st"
        refine ⟨by show 0 ≤ sizeLine; decide, fun em hem => ?_⟩
        have e2 := Ex.new (o := .lst []) hem
        have h2 : upd H1 em (.lst []) em = _ := upd_same
        generalize upd H1 em (.lst []) = H2 at e2 h2 ⊢
        refine ⟨_, _, .lst (sq_of (e2 _ _ hc1)) (dp_ints ns), .lst (sq_of h2) .nil, shaped_ints _, shaped_ints [], ?_⟩
        rw [eqv_emptyI]
        walk_at "st"
        refine ite2 (fun hn => ?_) (fun hn => ?_)
        · walk_at "st"
          refine rd_dgetS (e2 _ _ hp1) d3.v1 ?_
          walk_at "st"
          refine rd_dgetS (e2 _ _ hp1) d3.v1 ?_
          walk_at "st"
          refine rd_lenL (sq_of (e2 _ _ hc1)) ?_
          have hlen : 0 < ns.length := by cases ns with | nil => simp at hn | cons x r => simp
          refine rd_I (by rw [List.length_map]; omega) ?_
          have hb := Int.emod_lt_of_pos i (show (0 : Int) < ns.length by omega)
          have ha := Int.emod_nonneg i (show (ns.length : Int) ≠ 0 by omega)
          obtain ⟨v, hv, _, hat⟩ := atI_int (xs := ns.map V.int) (i := i % (ns.length : Int)) ha (by rw [List.length_map]; exact hb)
          obtain ⟨x, _, rfl⟩ := List.mem_map.mp hv
          rw [List.length_map]
          exact ⟨_, _, _, V.int x, rfl, rfl, sq_of (e2 _ _ hc1), hat, _, rfl, e2⟩
        · walk_at "st"
          exact ⟨_, rfl, e2⟩
      · rintro σ' H' ⟨cell, rfl, e⟩
        have hp2 := e _ _ hp1
        have hc2 := e _ _ hc1
        have kx2 : Kx pd H H' := kx1.trans (Kx.of e)
        walk_at "st"
        refine ⟨fun σ' H'' => σ' = [some (.ref pd), some (.int m), some (.int i), some (.int cell), none, none] ∧ H'' = H', ?_, ?_⟩
        · walk_at "st"
          refine rd_dgetS hp2 d3.v1 ?_
          walk_at "st"
          refine rd_lenL (sq_of hc2) ?_
          walk_at "st"
          have pw : CPow 10 18 := ⟨by decide, by decide, by decide⟩
          refine ite2 (fun h1 => ?_) (fun h1 => ?_)
          · walk_at "st"
            refine rd_I pw ?_
            walk_at "st"
            refine ite2 (fun h2 => ?_) (fun h2 => ?_)
            · walk_at "st"
              refine rd_I pw ?_
              walk_at "st"
              refine rd_I dw ?_
              walk_at "st"
              refine rd_dputS hp2 (by show 3 < sizeLine; decide) ?_
              rw [d3.p3]
              walk_at "st"
              refine rd_I pw ?_
              walk_at "st"
              refine rd_I m0 ?_
              refine k _ _ (Int.emod_nonneg _ (by omega)) (Int.emod_lt_of_pos _ m0) ⟨ns, i + 1, _, upd_same, by rw [upd_ne ncp]; exact hc2, by omega, by omega, Int.ediv_nonneg ?_ (by omega)⟩ (kx2.trans Kx.put)
              have := of_decide_eq_true h2
              omega
            · walk_at "st"
              exact ⟨rfl, rfl⟩
          · walk_at "st"
            exact ⟨rfl, rfl⟩
        · rintro σ' H'' ⟨rfl, rfl⟩
          have lt64 : ∀ (x y : Int), 0 < y → y < 2 ^ 40 → -(2 ^ 64) < x % y ∧ x % y < 2 ^ 64 := fun x y h1 h2 => by
            have := Int.emod_nonneg x (show y ≠ 0 by omega)
            have := Int.emod_lt_of_pos x h1
            omega
          walk_at "st"
          refine rd_I (by show (0 : Int) < 4294967231; decide) ?_
          walk_at "st"
          refine rd_I (.inr ⟨by decide, by decide⟩) ?_
          walk_at "st"
          refine rd_I (.inl ⟨by decide, by decide⟩) ?_
          walk_at "st"
          refine rd_I (.inr ⟨by omega, by omega⟩) ?_
          walk_at "st"
          refine rd_I (.inl ⟨by decide, by decide⟩) ?_
          walk_at "st"
          refine rd_I (by show (0 : Int) < 4294967197; decide) ?_
          walk_at "st"
          refine rd_I (.inl (lt64 _ _ (by decide) (by decide))) ?_
          walk_at "st"
          refine rd_I (.inl ⟨by decide, by decide⟩) ?_
          walk_at "st"
          refine rd_I (.inl ⟨by decide, by decide⟩) ?_
          walk_at "st"
          refine rd_I (by show (0 : Int) < 4294967189; decide) ?_
          walk_at "st"
          refine rd_I (.inl (lt64 _ _ (by decide) (by decide))) ?_
          walk_at "st"
          refine rd_I (by show (0 : Int) < 4294967161; decide) ?_
          walk_at "st"
          refine rd_I (wide_div (b := 30) (by decide) (by decide) (by omega) (by omega)) ?_
          walk_at "st"
          refine rd_I m0 ?_
          exact k _ _ (Int.emod_nonneg _ (by omega)) (Int.emod_lt_of_pos _ m0) ⟨ns, i + 1, r, hp2, hc2, by omega, by omega, r0⟩ kx2
end


section
variable {P : Program} {w : World} {K : PySem.W.Frag} {mg : Str → Option Value} {base : Heap} {a : Ad}
theorem erase_map {α β : Type} (f : α → β) : ∀ (l : List α) (i : Nat), (l.map f).eraseIdx i = (l.eraseIdx i).map f
  | [], _ => rfl
  | x :: r, 0 => rfl
  | x :: r, i + 1 => by
    show f x :: (r.map f).eraseIdx i = f x :: (r.eraseIdx i).map f
    rw [erase_map f r i]
/-! ### pick -/
def spPick : Sp := fun vs H Q _ => ∃ (pd c : Addr) (B : Nat), PenK H pd c B ∧ B < 900000000 ∧
  ((∃ (l : Addr) (xs : List V), vs = [.ref pd, .ref l] ∧ H l = some (.lst xs) ∧ 0 < xs.length ∧ xs.length ≤ 1000 ∧ ∀ x H', x ∈ xs → PenK H' pd c (B + 1) → Kx pd H H' → Q x H') ∨
   (∃ z : Str, vs = [.ref pd, .str z] ∧ 0 < z.length ∧ z.length ≤ 1000 ∧ ∀ d H', d ∈ z.cps.toList → PenK H' pd c (B + 1) → Kx pd H H' → Q (.str ⟨#[d]⟩) H'))
theorem c__law_pick (T : Txt K mg a) : Cal P w K mg base 2 "_law_pick" ["_law_pen_here", "_law_items"] spPick := by
  obtain ⟨fd, F, b⟩ := T.F__law_pick
  refine ⟨_, _, F.ok sc__law_pick (fun vs H Q E h => ?_) (fun cdv A outer s H vs Q E hr h => ?_), T.g__law_pick, F.kp, b⟩
  · obtain ⟨pd, c, B, _, _, ⟨l, xs, rfl, _⟩ | ⟨z, rfl, _⟩⟩ := h <;> rfl
  · obtain ⟨pd, c, B, hp, hB, h⟩ := h
    rcases h with ⟨l, xs, rfl, hl, x0, x1, k⟩ | ⟨z, rfl, x0, x1, k⟩
    all_goals refine ⟨_, (pss_one (ps_ret (pe_ix ix_seq (pv 1) (pe_callC (c__law_draw T) hr (pa_cons (pv 0) (pa_cons (pe_callB (CallR.or call_len_seq call_len_str) (by rfl) T.n_len (by decide +kernel) (pa_cons (pv 1) pa_nil)) pa_nil))) (fun _ _ => rfl)))), ?_⟩
    · walk_at "st"
      refine .inl (rd_lenL (sq_of hl) ?_)
      walk_at "st"
      refine ⟨pd, c, B, _, rfl, hp, by omega, by omega, by omega, fun r H' r0 r1 p' kx => ?_⟩
      obtain ⟨kvs, hd⟩ := hp.dK
      obtain ⟨v, hv, _, hat⟩ := atI_int (xs := xs) r0 r1
      exact .inl ⟨_, _, _, v, rfl, rfl, sq_of (kx.lst hd hl), hat, k v H' hv p' kx⟩
    · walk_at "st"
      refine .inr (rd_lenS (z := z) (by omega) ?_)
      walk_at "st"
      refine ⟨pd, c, B, _, rfl, hp, by omega, by omega, by omega, fun r H' r0 r1 p' kx => ?_⟩
      obtain ⟨v, hv, _, hat⟩ := atI_int (xs := z.cps.toList) r0 (by rw [len_cps]; exact r1)
      exact .inr (.inr ⟨_, _, v, rfl, rfl, sz_of (by omega), hat, k v H' hv p' kx⟩)
/-! ### shuffled -/
def spShuf : Sp := fun vs H Q _ => ∃ (pd c l : Addr) (B : Nat) (ws : List Str), vs = [.ref pd, .ref l] ∧ PenK H pd c B ∧ B < 800000000 ∧ H l = some (.lst (ws.map V.str)) ∧ ws.length ≤ 100 ∧ (∀ x ∈ ws, PyData.strOk x = true) ∧
  ∀ (zs : List Str) (p : Addr) (H' : Hp), zs.Perm ws → H p = none → H' p = some (.lst (zs.map V.str)) → PenK H' pd c (B + ws.length) → Kx pd H H' → Q (.ref p) H'
theorem c__law_shuffled (T : Txt K mg a) : Cal P w K mg base 2 "_law_shuffled" ["_law_pen_here", "_law_items"] spShuf := by
  obtain ⟨fd, F, b⟩ := T.F__law_shuffled
  refine ⟨_, _, F.ok sc__law_shuffled (fun vs H Q E h => ?_) (fun cdv A outer s H vs Q E hr h => ?_), T.g__law_shuffled, F.kp, b⟩
  · obtain ⟨pd, c, l, B, ws, rfl, _⟩ := h; rfl
  · obtain ⟨pd, c, l, B, ws, rfl, hp, hB, hl, hn, so, k⟩ := h
    refine ⟨_, (pss_cons (ps_par (i := 2) (j := 3) (by rfl) sc__law_shuffled.nd rfl rfl (by decide) rfl rfl (pa_cons (pe_callTy call_list_of (by rfl) T.n_list (by decide +kernel) (pa_cons (pv 1) pa_nil)) (pa_cons (pe_lst pa_nil) pa_nil)) (by rfl))
  (pss_cons (ps_while PassesOwn.never (pt_cmpR (op_neD hr.units) (pv 2) (pe_lst pa_nil) (by rfl)) (pss_one (ps_expr (pe_bm PySem.F.plainAttrs_list PySem.F.slot_list_append PySem.F.type_list_append mt_append (pv 3) (pa_cons (pe_bm PySem.F.plainAttrs_list PySem.F.slot_list_pop PySem.F.type_list_pop mt_popAt (pv 2) (pa_cons (pe_callC (c__law_draw T) hr (pa_cons (pv 0) (pa_cons (pe_callB call_len_seq (by rfl) T.n_len (by decide +kernel) (pa_cons (pv 2) pa_nil)) pa_nil))) pa_nil)) pa_nil)))))
  (pss_one (ps_ret (pv 3))))), ?_⟩
    walk_at "st"
    refine ⟨_, _, rfl, .inl (sq_of hl), fun L hL => ?_⟩
    have e1 := Ex.new (o := .lst (ws.map V.str)) hL
    have h1 : upd H L (.lst (ws.map V.str)) L = _ := upd_same
    generalize upd H L (.lst (ws.map V.str)) = H1 at e1 h1 ⊢
    walk_at "st"
    refine ⟨by show 0 ≤ sizeLine; decide, fun G hG => ?_⟩
    have e2 := Ex.new (o := .lst []) hG
    have h2 : upd H1 G (.lst []) G = _ := upd_same
    have nLG : L ≠ G := ne_of_none h1 hG
    generalize upd H1 G (.lst []) = H2 at e2 h2 ⊢
    walk_at "st"
    have hG0 := fresh_back e1 hG
    refine rd_while (fun m σ H' => ∃ ls gs : List Str, σ = [some (.ref pd), some (.ref l), some (.ref L), some (.ref G)] ∧ H' L = some (.lst (ls.map V.str)) ∧ H' G = some (.lst (gs.map V.str)) ∧ (gs ++ ls).Perm ws ∧ m = ls.length ∧ PenK H' pd c (B + gs.length) ∧ Kx pd H H') ws.length ⟨ws, [], rfl, e2 _ _ h1, h2, by simp, rfl, by simpa using (hp.ex e1).ex e2, Kx.of (e1.trans e2)⟩ (fun m σ H3 hw => ?_)
    obtain ⟨ls, gs, rfl, w1, w2, pm, rfl, p3, kx⟩ := hw
    have pl := pm.length_eq
    rw [List.length_append] at pl
    have sl : ∀ x ∈ ls, PyData.strOk x = true := fun x hx => so x (pm.mem_iff.mp (List.mem_append_right _ hx))
    walk_at "st"
    refine ⟨by show 0 ≤ sizeLine; decide, fun E hE => ?_⟩
    have e4 := Ex.new (o := .lst []) hE
    have h4 : upd H3 E (.lst []) E = _ := upd_same
    generalize upd H3 E (.lst []) = H4 at e4 h4 ⊢
    refine ⟨_, _, .lst (sq_of (e4 _ _ w1)) (dp_strs ls), .lst (sq_of h4) .nil, shaped_strsL _ sl, shaped_ints [], ?_⟩
    rw [eqv_emptyS]
    walk_at "st"
    refine ite2 (fun hne => ?_) (fun hne => ?_)
    · refine ⟨_, fun _ _ h => h, ?_⟩
      have l0 : 0 < ls.length := by cases ls with | nil => simp at hne | cons x r => simp
      walk_at "st"
      refine rd_tyL (sq_of (e4 _ _ w2)) ?_
      walk_at "st"
      refine rd_tyL (sq_of (e4 _ _ w1)) ?_
      walk_at "st"
      refine rd_lenL (sq_of (e4 _ _ w1)) ?_
      have p4 := p3.ex e4
      obtain ⟨kvs, hd⟩ := p4.dK
      refine ⟨pd, c, _, _, rfl, p4, by omega, by rw [List.length_map]; omega, by rw [List.length_map]; omega, fun r H5 r0 r1 p5 kx5 => ?_⟩
      rw [List.length_map] at r1
      walk_at "st"
      have hr' : r.toNat < ls.length := by omega
      have g1 : H5 L = some (.lst (ls.map V.str)) := kx5.lst hd (e4 _ _ w1)
      have g2 : H5 G = some (.lst (gs.map V.str)) := kx5.lst hd (e4 _ _ w2)
      have ix : ixN (ls.map V.str).length r = some r.toNat := by
        have := ixN_nat (n := (ls.map V.str).length) (j := r.toNat) (by rw [List.length_map]; exact hr')
        rwa [Int.toNat_of_nonneg r0] at this
      refine ⟨L, _, r, r.toNat, V.str ls[r.toNat], rfl, rfl, g1, by omega, by omega, (ixN_seq ix).1, by rw [List.getElem?_map, List.getElem?_eq_getElem hr']; rfl, ?_⟩
      dsimp only
      walk_at "st"
      refine rd_append (xs := gs.map V.str) (upd_lst nLG.symm g2) (Nat.lt_of_le_of_lt (show (gs.map V.str).length ≤ 1000 by rw [List.length_map]; omega) (by decide)) ?_
      have pe := perm_erase ls r.toNat _ (List.getElem?_eq_getElem hr')
      have nDL : pd ≠ L := hp.np hL
      have nDG : pd ≠ G := hp.np hG0
      have nCL : c ≠ L := hp.nc hL
      have nCG : c ≠ G := hp.nc hG0
      refine ⟨(ls.eraseIdx r.toNat).length, by rw [List.length_eraseIdx, if_pos hr']; omega, ls.eraseIdx r.toNat, gs ++ [ls[r.toNat]], rfl, ?_, ?_, ?_, rfl, ?_, ?_⟩
      · rw [upd_ne nLG, upd_same, erase_map]
      · rw [upd_same, List.map_append]; rfl
      · rw [List.append_assoc]
        exact (List.Perm.append_left gs pe).trans pm
      · rw [List.length_append, List.length_singleton, ← Nat.add_assoc]
        exact (p5.wr nDL nCL).wr nDG nCG
      · exact ((kx.trans (Kx.of e4)).trans kx5 |>.mut hL).mut hG0
    · walk_at "st"
      have : ls = [] := by cases ls with | nil => rfl | cons x r => simp at hne
      subst this
      rw [List.append_nil] at pm
      refine k gs G H4 pm hG0 (e4 _ _ w2) ?_ (kx.trans (Kx.of e4))
      rw [← pm.length_eq]
      exact p3.ex e4
end


/-! ### words -/
structure GoodW (w : Str) : Prop where
  wd : isWordB w = true
  nb : isBegB w = false
structure Words (n : Nat) (ws : List Str) : Prop where
  len : ws.length = n
  nd : ws.Nodup
  ok : ∀ w ∈ ws, GoodW w
theorem Words.perm {n : Nat} {ws zs : List Str} (h : Words n ws) (p : zs.Perm ws) : Words n zs := ⟨p.length_eq.trans h.len, p.nodup_iff.mpr h.nd, fun w hw => h.ok w (p.mem_iff.mp hw)⟩
abbrev smallL : List Nat := [97, 98, 99, 100, 101, 102, 103, 104, 105, 106, 107, 108, 109, 110, 111, 112, 113, 114, 115, 116, 117, 118, 119, 120, 121, 122]
abbrev signsL : List Nat := smallL ++ [48, 49, 50, 51, 52, 53, 54, 55, 56, 57]
theorem smallS_cps : smallS.cps.toList = smallL := by decide +kernel
theorem signsS_cps : signsS.cps.toList = signsL := by decide +kernel
theorem small_sub {c : Nat} (h : c ∈ smallL) : c ∈ signsL := List.mem_append_left _ h
theorem signs_lt {c : Nat} (h : c ∈ signsL) : c < 123 := by
  simp only [signsL, smallL, List.mem_append, List.mem_cons, List.not_mem_nil, or_false] at h
  omega
theorem GoodW.cps {w : Str} (h : GoodW w) : 1 ≤ w.length ∧ w.length ≤ 12 ∧ (∀ c ∈ w.cps.toList, c ∈ signsL) ∧ ∃ c r, w.cps.toList = c :: r ∧ c ∈ smallL := by
  have := h.wd
  unfold isWordB at this
  rw [smallS_cps, signsS_cps] at this
  simp only [Bool.and_eq_true, decide_eq_true_eq, List.all_eq_true] at this
  obtain ⟨⟨⟨h1, h2⟩, h3⟩, h4⟩ := this
  refine ⟨h1, h2, h4, ?_⟩
  have hl := len_cps w
  cases e : w.cps.toList with
  | nil => rw [e] at hl; simp at hl; omega
  | cons c r => rw [e] at h3; exact ⟨c, r, rfl, h3 c (by simp)⟩
theorem GoodW.so {w : Str} (h : GoodW w) : PyData.strOk w = true := by
  unfold PyData.strOk
  rw [Array.all_eq_true_iff_forall_mem]
  intro c hc
  have := signs_lt (h.cps.2.2.1 c (by simpa using hc))
  exact decide_eq_true (by omega)
/-- a word out of its codes: goodW of (codes, with a 0 behind new and found) -/
def fix0 (w : Str) : Str := w ++ Txt.mul "0" (if inV (.str w) [.str "new", .str "found"] then 1 else 0)
theorem fix0_cps (w : Str) : (fix0 w).cps.toList = w.cps.toList ++ (if isBegB w then [48] else []) := by
  unfold fix0
  rw [app_cps, inV_two]
  show _ ++ (Txt.mul "0" (if isBegB w = true then 1 else 0)).cps.toList = _
  cases isBegB w with
  | true => rw [if_pos rfl, mul_one]; rfl
  | false => rw [if_neg Bool.false_ne_true, mul_zero]; rfl
theorem new_cps : ("new" : Str).cps.toList = [110, 101, 119] := by decide +kernel
theorem found_cps : ("found" : Str).cps.toList = [102, 111, 117, 110, 100] := by decide +kernel
theorem beg_iff (w : Str) : isBegB w = true ↔ w.cps.toList = [110, 101, 119] ∨ w.cps.toList = [102, 111, 117, 110, 100] := by
  unfold isBegB
  simp only [Bool.or_eq_true, decide_eq_true_eq]
  constructor
  · rintro (h | h)
    · exact .inl (h ▸ new_cps)
    · exact .inr (h ▸ found_cps)
  · rintro (h | h)
    · exact .inl (str_ext (h.trans new_cps.symm))
    · exact .inr (str_ext (h.trans found_cps.symm))
theorem good_fix {w : Str} {c : Nat} {r : List Nat} (e : w.cps.toList = c :: r) (hc : c ∈ smallL) (hr : ∀ d ∈ r, d ∈ signsL) (hl : r.length ≤ 10) : GoodW (fix0 w) := by
  have e1 := fix0_cps w
  have lt : (if isBegB w then [48] else ([] : List Nat)).length ≤ 1 := by split <;> simp
  have mt : ∀ d ∈ (if isBegB w then [48] else ([] : List Nat)), d ∈ signsL := by
    split
    · intro d hd; simp at hd; subst hd; decide
    · intro d hd; cases hd
  have ll : (fix0 w).length = 1 + r.length + (if isBegB w then [48] else ([] : List Nat)).length := by
    rw [← len_cps, e1, e, List.length_append, List.length_cons]; omega
  constructor
  · unfold isWordB
    rw [smallS_cps, signsS_cps, e1, e]
    simp only [Bool.and_eq_true, decide_eq_true_eq, List.all_eq_true]
    refine ⟨⟨⟨by omega, by omega⟩, ?_⟩, ?_⟩
    · intro d hd
      rw [List.cons_append, List.take_succ_cons, List.take_zero, List.mem_singleton] at hd
      subst hd
      exact hc
    · intro d hd
      rcases List.mem_append.mp hd with h | h
      · rcases List.mem_cons.mp h with h | h
        · subst h; exact small_sub hc
        · exact hr d h
      · exact mt d h
  · rw [Bool.eq_false_iff]
    intro hb
    rcases (beg_iff _).mp hb with h | h
    all_goals
      rw [e1] at h
      by_cases b : isBegB w = true
      · rw [b, if_pos rfl] at h
        rcases (beg_iff w).mp b with q | q <;> rw [q] at h <;> simp at h
      · rw [if_neg b, List.append_nil] at h
        first | exact b ((beg_iff w).mpr (.inl h)) | exact b ((beg_iff w).mpr (.inr h))
/-- the k-th word's text ahead of fix0 -/
def rawW (f st : Int) (hd : Str) (stem : Str) (at_ : Int) (k : Nat) : Str :=
  if decide (0 < at_) = true then ((hd ++ cutS stem none (some (at_ - 1))) ++ ⟨#[signsL.getD ((f + st * k) % 36).toNat 0]⟩) ++ cutS stem (some (at_ - 1)) none
  else ⟨#[smallL.getD ((f + st * k) % 26).toNat 0]⟩ ++ stem
theorem cutS_to (z : Str) (n : Nat) (h : n ≤ z.length) : (cutS z none (some (n : Int))).cps.toList = z.cps.toList.take n := by
  unfold cutS
  rw [HT.sIx_none, HT.sIx_nat, Nat.min_eq_left h]
  simp
theorem cutS_from (z : Str) (n : Nat) (h : n ≤ z.length) : (cutS z (some (n : Int)) none).cps.toList = z.cps.toList.drop n := by
  unfold cutS
  rw [HT.sIx_none, HT.sIx_nat, Nat.min_eq_left h]
  have := len_cps z
  simp
  rw [← this]
  rw [List.take_of_length_le (by simp)]
theorem getD_mem {l : List Nat} {i : Nat} (h : i < l.length) : l.getD i 0 ∈ l := by
  simp only [List.getD, List.getElem?_eq_getElem h, Option.getD_some]; exact List.getElem_mem h
section
variable {f st at_ : Int} {hd stem : Str} {d0 : Nat} {n : Nat}
structure RawOk (f st : Int) (hd stem : Str) (at_ : Int) : Prop where
  f0 : 0 ≤ f
  f1 : f < 36
  s : st = 1 ∨ st = 5 ∨ st = 7 ∨ st = 11
  hd : ∃ d, hd = ⟨#[d]⟩ ∧ d ∈ smallL
  sg : ∀ c ∈ stem.cps.toList, c ∈ signsL
  sl : stem.length ≤ 9
  a0 : 0 ≤ at_
  a1 : at_ < stem.length + 2
theorem raw_cps (h : RawOk f st hd stem at_) (k : Nat) : ∃ c r, (rawW f st hd stem at_ k).cps.toList = c :: r ∧ c ∈ smallL ∧ (∀ d ∈ r, d ∈ signsL) ∧ r.length ≤ 10 ∧
    (rawW f st hd stem at_ k).cps.toList[at_.toNat]? = some (if 0 < at_ then signsL.getD ((f + st * k) % 36).toNat 0 else smallL.getD ((f + st * k) % 26).toNat 0) := by
  have m36 : ((f + st * k) % 36).toNat < signsL.length := by have : signsL.length = 36 := rfl; omega
  have m26 : ((f + st * k) % 26).toNat < smallL.length := by have : smallL.length = 26 := rfl; omega
  obtain ⟨d, ehd, hd⟩ := h.hd
  have ls := len_cps stem
  have := h.a0; have := h.a1; have := h.sl
  unfold rawW
  by_cases ha : 0 < at_
  · rw [if_pos (decide_eq_true ha)]
    obtain ⟨n, en⟩ : ∃ n : Nat, at_ - 1 = (n : Int) := ⟨(at_ - 1).toNat, by omega⟩
    have hn : n ≤ stem.length := by omega
    rw [en, app_cps, app_cps, app_cps, cutS_to _ _ hn, cutS_from _ _ hn, ehd, one_cps, one_cps]
    refine ⟨d, stem.cps.toList.take n ++ [signsL.getD ((f + st * k) % 36).toNat 0] ++ stem.cps.toList.drop n, by simp, hd, ?_, ?_, ?_⟩
    · intro e he
      simp only [List.mem_append] at he
      rcases he with (he | he) | he
      · exact h.sg e (List.mem_of_mem_take he)
      · simp at he; subst he; exact getD_mem m36
      · exact h.sg e (List.mem_of_mem_drop he)
    · simp only [List.length_append, List.length_take, List.length_drop, List.length_singleton]
      omega
    · have ea : at_.toNat = n + 1 := by omega
      have lt : (stem.cps.toList.take n).length = n := by rw [List.length_take]; omega
      rw [ea, if_pos ha]
      show ((d :: (stem.cps.toList.take n ++ [_])) ++ _)[n + 1]? = _
      rw [List.getElem?_append_left (by simp [lt])]
      simp [lt]
  · rw [if_neg (by simpa using ha), app_cps, one_cps]
    refine ⟨_, stem.cps.toList, rfl, getD_mem m26, h.sg, by omega, ?_⟩
    have ea : at_.toNat = 0 := by omega
    rw [ea, if_neg ha]
    rfl
theorem raw_inj (h : RawOk f st hd stem at_) {k l : Nat} (hk : k < 12) (hl : l < 12) (e : fix0 (rawW f st hd stem at_ k) = fix0 (rawW f st hd stem at_ l)) : k = l := by
  have nd36 : signsL.Nodup := by decide
  have nd26 : smallL.Nodup := by decide
  have inj : ∀ (L : List Nat) (i j : Nat), L.Nodup → i < L.length → j < L.length → L.getD i 0 = L.getD j 0 → i = j := fun L i j nd hi hj e => by
    simp only [List.getD, List.getElem?_eq_getElem hi, List.getElem?_eq_getElem hj, Option.getD_some] at e
    rcases Nat.lt_trichotomy i j with c | c | c
    · exact absurd e (List.pairwise_iff_getElem.mp nd i j hi hj c)
    · exact c
    · exact absurd e.symm (List.pairwise_iff_getElem.mp nd j i hj hi c)
  obtain ⟨c, r, e1, _, _, _, g1⟩ := raw_cps h k
  obtain ⟨c', r', e2, _, _, _, g2⟩ := raw_cps h l
  have q := congrArg (fun z : Str => z.cps.toList[at_.toNat]?) e
  simp only [fix0_cps] at q
  have b1 : at_.toNat < (rawW f st hd stem at_ k).cps.toList.length := (List.getElem?_eq_some_iff.mp g1).1
  have b2 : at_.toNat < (rawW f st hd stem at_ l).cps.toList.length := (List.getElem?_eq_some_iff.mp g2).1
  rw [List.getElem?_append_left b1, List.getElem?_append_left b2, g1, g2] at q
  have q := Option.some.inj q
  have := h.f0; have := h.f1
  by_cases ha : 0 < at_
  · rw [if_pos ha, if_pos ha] at q
    have := inj _ _ _ nd36 (by have : signsL.length = 36 := rfl; omega) (by have : signsL.length = 36 := rfl; omega) q
    rcases h.s with s | s | s | s <;> subst s <;> omega
  · rw [if_neg ha, if_neg ha] at q
    have := inj _ _ _ nd26 (by have : smallL.length = 26 := rfl; omega) (by have : smallL.length = 26 := rfl; omega) q
    rcases h.s with s | s | s | s <;> subst s <;> omega
theorem raw_words (h : RawOk f st hd stem at_) (hn : n ≤ 12) : Words n ((List.range n).map fun k => fix0 (rawW f st hd stem at_ k)) := by
  refine ⟨by simp, ?_, ?_⟩
  · rw [List.Nodup, List.pairwise_map]
    refine List.Pairwise.imp_of_mem ?_ (List.pairwise_lt_range)
    intro k l hk hl hlt e
    have := raw_inj h (by have := List.mem_range.mp hk; omega) (by have := List.mem_range.mp hl; omega) e
    omega
  · intro w hw
    obtain ⟨k, _, rfl⟩ := List.mem_map.mp hw
    obtain ⟨c, r, e1, h1, h2, h3, _⟩ := raw_cps h k
    exact good_fix e1 h1 h2 h3
end


section
variable {P : Program} {w : World} {K : PySem.W.Frag} {mg : Str → Option Value} {base : Heap} {a : Ad}
theorem rd_gTup2 {n i j : Nat} {p : Addr} {x y : V} {σ : L2.St} {H : Hp} {R : L2.St → Hp → Prop} (hn : 2 = n) (h : SqT K H p [x, y]) (q : R ((σ.set i (some x)).set j (some y)) H) : gTup K n (gCons (gName i) (gCons (gName j) gNil)) (.ref p) σ H R :=
  ⟨p, [x, y], rfl, h, hn, x, [y], rfl, y, [], rfl, rfl, q⟩
def spWords : Sp := fun vs H Q _ => ∃ (pd c : Addr) (B n : Nat), vs = [.ref pd, .int n] ∧ PenK H pd c B ∧ B < 700000000 ∧ 1 ≤ n ∧ n ≤ 12 ∧
  ∀ (ws : List Str) (p : Addr) (H' : Hp), Words n ws → H p = none → H' p = some (.lst (ws.map V.str)) → PenK H' pd c (B + 50) → Kx pd H H' → Q (.ref p) H'
theorem c__law_words (T : Txt K mg a) : Cal P w K mg base 3 "_law_words" ["_law_pen_here", "_law_many"] spWords := by
  obtain ⟨fd, F, b⟩ := T.F__law_words
  refine ⟨_, _, F.ok sc__law_words (fun vs H Q E h => ?_) (fun cdv A outer s H vs Q E hr h => ?_), T.g__law_words, F.kp, b⟩
  · obtain ⟨pd, c, B, n, rfl, _⟩ := h; rfl
  · obtain ⟨pd, c, B, n, rfl, hp, hB, n1, n2, k⟩ := h
    refine ⟨_, (pss_cons (ps_asg (pe_tup (pa_cons pe_str (pa_cons pe_str pa_nil))) (pg_tup rfl (pgs_cons (pg_name (i := 7) sc__law_words.nd rfl (by first | exact Or.inl rfl | exact Or.inr rfl)) (pgs_cons (pg_name (i := 8) sc__law_words.nd rfl (by first | exact Or.inl rfl | exact Or.inr rfl)) pgs_nil))))
  (pss_cons (ps_par (i := 9) (j := 10) (by rfl) sc__law_words.nd rfl rfl (by decide) rfl rfl (pa_cons (pe_callC (c__law_draw T) hr (pa_cons (pv 0) (pa_cons pe_int pa_nil))) (pa_cons (pe_callC (c__law_pick T) hr (pa_cons (pv 0) (pa_cons (pe_lst (pa_cons pe_int (pa_cons pe_int (pa_cons pe_int (pa_cons pe_int pa_nil))))) pa_nil))) pa_nil)) (by rfl))
  (pss_cons (ps_set (i := 2) sc__law_words.nd rfl (by first | exact Or.inl rfl | exact Or.inr rfl) (pe_callC (c__law_pick T) hr (pa_cons (pv 0) (pa_cons (pv 7) pa_nil))))
  (pss_cons (ps_set (i := 3) sc__law_words.nd rfl (by first | exact Or.inl rfl | exact Or.inr rfl) (pe_join pe_str (pe_lc (own := [("_law_k", 6)]) (by rfl) sc__law_words.nd (pi_range1 (by rfl) T.n_range (pa_cons (pe_callC (c__law_draw T) hr (pa_cons (pv 0) (pa_cons pe_int pa_nil))) pa_nil)) (blkOk_by (own := [("_law_k", 6)]) (N := N__law_words) (sc := defScope s__law_words) (by decide +kernel)) (fun _ _ _ _ _ => (pg_name (i := 6) sc__law_words.nd rfl (by first | exact Or.inl rfl | exact Or.inr rfl))) (fun _ _ _ _ _ => pts_nil) (fun _ _ _ _ _ => (pe_callC (c__law_pick T) hr (pa_cons (pv 0) (pa_cons (pv 8) pa_nil)))))))
  (pss_cons (ps_set (i := 4) sc__law_words.nd rfl (by first | exact Or.inl rfl | exact Or.inr rfl) (pe_callC (c__law_draw T) hr (pa_cons (pv 0) (pa_cons (pe_op op_add (pe_callB call_len_str (by rfl) T.n_len (by decide +kernel) (pa_cons (pv 3) pa_nil)) pe_int) pa_nil))))
  (pss_cons (ps_set (i := 5) sc__law_words.nd rfl (by first | exact Or.inl rfl | exact Or.inr rfl) (pe_lst pa_nil))
  (pss_cons (ps_for PassesOwn.never (by rfl) (pi_range1 (by rfl) T.n_range (pa_cons (pv 1) pa_nil)) (pg_name (i := 6) sc__law_words.nd rfl (by first | exact Or.inl rfl | exact Or.inr rfl))
    (pss_cons (ps_set (i := 11) sc__law_words.nd rfl (by first | exact Or.inl rfl | exact Or.inr rfl) (pe_op op_add_str (pe_ix ix_str (pv 7) (pe_op op_mod (pe_callTy call_int1 (by rfl) T.n_int (by decide +kernel) (pa_cons (pe_op op_add (pv 9) (pe_op op_mul (pv 10) (pv 6))) pa_nil)) pe_int) (fun _ _ => rfl)) (pv 3)))
      (Evl.pss_cut (ps_if (pt_cmpR op_gt (pv 4) pe_int (by rfl)) (pss_cons (ps_set (i := 12) sc__law_words.nd rfl (by first | exact Or.inl rfl | exact Or.inr rfl) (pe_ix ix_str (pv 8) (pe_op op_mod (pe_callTy call_int1 (by rfl) T.n_int (by decide +kernel) (pa_cons (pe_op op_add (pv 9) (pe_op op_mul (pv 10) (pv 6))) pa_nil)) pe_int) (fun _ _ => rfl)))
        (pss_one (ps_set (i := 11) sc__law_words.nd rfl (by first | exact Or.inl rfl | exact Or.inr rfl) (pe_op op_add_str (pe_op op_add_str (pe_op op_add_str (pv 2) (pe_slice sl_str (pv 3) po_none (po_some (pe_op op_sub (pv 4) pe_int)))) (pv 12)) (pe_slice sl_str (pv 3) (po_some (pe_op op_sub (pv 4) pe_int)) po_none))))) pss_nil)
      (pss_one (ps_expr (pe_bm PySem.F.plainAttrs_list PySem.F.slot_list_append PySem.F.type_list_append mt_append (pv 5) (pa_cons (pe_op op_add_str (pv 11) (pe_op op_mul_str pe_str (pe_callTy call_int1 (by rfl) T.n_int (by decide +kernel) (pa_cons (pe_cmpR op_in_seq (pv 11) (pe_lst (pa_cons pe_str (pa_cons pe_str pa_nil))) (by rfl)) pa_nil)))) pa_nil)))))))
  (pss_one (ps_ret (pe_callC (c__law_shuffled T) hr (pa_cons (pv 0) (pa_cons (pv 5) pa_nil)))))))))))), ?_⟩
    refine rd_seq (rd_asgG ?_)
    walk_at "st"
    refine ⟨by show 2 ≤ sizeLine; decide, fun t ht => ?_⟩
    have e1 := Ex.new (o := .tup [V.str "abcdefghijklmnopqrstuvwxyz", V.str "abcdefghijklmnopqrstuvwxyz0123456789"]) ht
    have h1 : upd H t (.tup [V.str "abcdefghijklmnopqrstuvwxyz", V.str "abcdefghijklmnopqrstuvwxyz0123456789"]) t = _ := upd_same
    generalize upd H t (.tup [V.str "abcdefghijklmnopqrstuvwxyz", V.str "abcdefghijklmnopqrstuvwxyz0123456789"]) = H1 at e1 h1 ⊢
    refine rd_gTup2 rfl (st_of h1) ?_
    have p1 := hp.ex e1
    have kx1 : Kx pd H H1 := Kx.of e1
    -- first, step
    walk_at "st"
    refine ⟨pd, c, B, _, rfl, p1, by omega, by decide, by decide, fun f H2 f0 f1 p2 kx2 => ?_⟩
    walk_at "st"
    refine ⟨by show 4 ≤ sizeLine; decide, fun l hl => ?_⟩
    have e3 := Ex.new (o := .lst [V.int 1, V.int 5, V.int 7, V.int 11]) hl
    have h3 : upd H2 l (.lst [V.int 1, V.int 5, V.int 7, V.int 11]) l = _ := upd_same
    generalize upd H2 l (.lst [V.int 1, V.int 5, V.int 7, V.int 11]) = H3 at e3 h3 ⊢
    walk_at "st"
    refine ⟨pd, c, B + 1, p2.ex e3, by omega, .inl ⟨l, _, rfl, h3, by decide, by decide, fun sv H4 hsv p4 kx4 => ?_⟩⟩
    obtain ⟨st, rfl, hst⟩ : ∃ st : Int, sv = V.int st ∧ (st = 1 ∨ st = 5 ∨ st = 7 ∨ st = 11) := by
      simp only [List.mem_cons, List.not_mem_nil, or_false] at hsv
      rcases hsv with rfl | rfl | rfl | rfl
      · exact ⟨1, rfl, by simp⟩
      · exact ⟨5, rfl, by simp⟩
      · exact ⟨7, rfl, by simp⟩
      · exact ⟨11, rfl, by simp⟩
    have kx4' : Kx pd H H4 := ((kx1.trans kx2).trans (Kx.of e3)).trans kx4
    -- head
    walk_at "st"
    refine ⟨pd, c, B + 1 + 1, p4, by omega, .inr ⟨_, rfl, by decide +kernel, by decide +kernel, fun d H5 hd p5 kx5 => ?_⟩⟩
    have hd' : d ∈ smallL := smallS_cps ▸ hd
    have kx5' := kx4'.trans kx5
    -- stem
    walk_at "st"
    refine rd_lc ?_
    walk_at "st"
    refine ⟨pd, c, _, _, rfl, p5, by omega, by decide, by decide, fun q H6 q0 q1 p6 kx6 => ?_⟩
    have kx6' := kx5'.trans kx6
    walk_at "st"
    refine ⟨by omega, by omega, ?_⟩
    intro D hD
    refine lc_yl (yl_range 0 q.toNat) (fun i H' => ∃ cs : List Nat, cs.length = i ∧ (∀ x ∈ cs, x ∈ signsL) ∧ H' D = some (.lst ((cs.map fun x => (⟨#[x]⟩ : Str)).map V.str)) ∧ PenK H' pd c (B + 4 + i) ∧ Kx pd H6 H') (fun _ _ _ _ => trivial) ⟨[], rfl, (fun x hx => by cases hx), upd_same, p6.ex (Ex.new hD), Kx.of (Ex.new hD)⟩ (fun i x H7 H8 hi hv e8 yy => ?_) (fun H7 hv => ?_)
    · obtain ⟨cs, lc, hcs, hD7, p7, kx7⟩ := hv
      subst yy
      refine ⟨rfl, ?_⟩
      walk_at "st"
      refine ⟨pd, c, B + 4 + i, p7.ex e8, by omega, .inr ⟨_, rfl, by decide +kernel, by decide +kernel, fun x H9 hx p9 kx9 => ?_⟩⟩
      have p8 := p7.ex e8
      obtain ⟨kvs, hk8⟩ := p8.dK
      have hD9 := kx9.lst hk8 (e8 _ _ hD7)
      refine ⟨_, hD9, Nat.lt_of_le_of_lt (show _ ≤ 100 by simp; omega) (by decide), cs ++ [x], by simp [lc], ?_, ?_, ?_, ?_⟩
      · intro y hy
        rcases List.mem_append.mp hy with h | h
        · exact hcs y h
        · rw [List.mem_singleton] at h; subst h; exact signsS_cps ▸ hx
      · rw [upd_same, List.map_append, List.map_append]; rfl
      · exact p9.wr (p6.np hD) (p6.nc hD)
      · exact ((kx7.trans (Kx.of e8)).trans kx9).mut hD
    · obtain ⟨cs, lc, hcs, hD7, p7, kx7⟩ := hv
      have lc9 : cs.length ≤ 9 := by omega
      walk_at "st"
      refine ⟨_, _, cs.map (fun x => (⟨#[x]⟩ : Str)), rfl, rfl, .inl (sq_of hD7), by rw [ones_len, show ("" : Str).length = 0 by decide +kernel, Nat.mul_zero]; omega, ?_⟩
      have ej := join_ones cs
      generalize Txt.join "" (cs.map fun x => (⟨#[x]⟩ : Str)) = stem at ej ⊢
      have ls : stem.length = cs.length := by rw [← len_cps, ej]
      have kx7' := kx6'.trans kx7
      -- at
      walk_at "st"
      refine rd_lenS (z := stem) (by omega) ?_
      walk_at "st"
      refine ⟨pd, c, _, _, rfl, p7, by omega, by omega, by omega, fun at_ H8 a0 a1 p8 kx8 => ?_⟩
      have kx8' := kx7'.trans kx8
      have ro : RawOk f st ⟨#[d]⟩ stem at_ := ⟨f0, f1, hst, ⟨d, rfl, hd'⟩, fun x hx => hcs x (ej ▸ hx), by omega, a0, a1⟩
      -- gained
      walk_at "st"
      refine ⟨by show 0 ≤ sizeLine; decide, fun G hG => ?_⟩
      have e9 := Ex.new (o := .lst []) hG
      have h9 : upd H8 G (.lst []) G = _ := upd_same
      generalize upd H8 G (.lst []) = H9 at e9 h9 ⊢
      walk_at "st"
      refine rd_forYl (J := Itr 0 n) (H1 := H9) (fun R r => ⟨_, rfl, _, rfl, by omega, by omega, r⟩) (yl_range 0 n) (fun i σ H' => (∃ v6 v11 v12, σ = [some (.ref pd), some (.int n), some (.str ⟨#[d]⟩), some (.str stem), some (.int at_), some (.ref G), v6, some (.str "abcdefghijklmnopqrstuvwxyz"), some (.str "abcdefghijklmnopqrstuvwxyz0123456789"), some (.int f), some (.int st), v11, v12]) ∧ Ex H8 H' ∧ H' G = some (.lst (((List.range i).map fun k => fix0 (rawW f st ⟨#[d]⟩ stem at_ k)).map V.str))) (fun _ _ _ _ _ => trivial) ⟨⟨_, _, _, rfl⟩, e9, h9⟩ (fun i x σ H10 H11 hi hv e11 yy => ?_) (fun σ H10 hv => ?_)
      · obtain ⟨⟨v6, v11, v12, rfl⟩, e10, g10⟩ := hv
        subst yy
        rw [Int.zero_add]
        refine rd_gname ?_
        have st64 : CMul st (i : Int) := .inl (by rcases hst with s | s | s | s <;> subst s <;> decide)
        have m26 := Int.emod_lt_of_pos (f + st * (i : Int)) (show (0 : Int) < 26 by decide)
        have n26 := Int.emod_nonneg (f + st * (i : Int)) (show (26 : Int) ≠ 0 by decide)
        have m36 := Int.emod_lt_of_pos (f + st * (i : Int)) (show (0 : Int) < 36 by decide)
        have n36 := Int.emod_nonneg (f + st * (i : Int)) (show (36 : Int) ≠ 0 by decide)
        walk_at "st"
        refine rd_I st64 ?_
        walk_at "st"
        refine rd_I (by show (0 : Int) < 26; decide) ?_
        obtain ⟨x, hx, gx, hat⟩ := atI_int (xs := smallS.cps.toList) n26 (by rw [smallS_cps]; exact m26)
        refine rd_ixS (by decide +kernel) hat ?_
        have ex : x = smallL.getD ((f + st * (i : Int)) % 26).toNat 0 := by rw [smallS_cps] at gx; simp only [List.getD, gx, Option.getD_some]
        walk_at "st"
        refine rd_strs (by rw [one_len]; omega) ?_
        walk_at "st"
        have lr : (rawW f st ⟨#[d]⟩ stem at_ i).length ≤ 11 := by
          obtain ⟨c0, r0, e0, _, _, l0, _⟩ := raw_cps ro i
          rw [← len_cps, e0, List.length_cons]; omega
        refine ⟨fun σ' H' => (∃ v12, σ' = [some (.ref pd), some (.int n), some (.str ⟨#[d]⟩), some (.str stem), some (.int at_), some (.ref G), some (.int i), some (.str "abcdefghijklmnopqrstuvwxyz"), some (.str "abcdefghijklmnopqrstuvwxyz0123456789"), some (.int f), some (.int st), some (.str (rawW f st ⟨#[d]⟩ stem at_ i)), v12]) ∧ H' = H11, ?_, ?_⟩
        · walk_at "st"
          refine ite2 (fun ha => ?_) (fun ha => ?_)
          · walk_at "st"
            refine rd_I st64 ?_
            walk_at "st"
            refine rd_I (by show (0 : Int) < 36; decide) ?_
            obtain ⟨y, hy, gy, haty⟩ := atI_int (xs := signsS.cps.toList) n36 (by rw [signsS_cps]; exact m36)
            refine rd_ixS (by decide +kernel) haty ?_
            have ey : y = signsL.getD ((f + st * (i : Int)) % 36).toNat 0 := by rw [signsS_cps] at gy; simp only [List.getD, gy, Option.getD_some]
            have c1 := cutS_length stem none (some (at_ - 1))
            have c2 := cutS_length stem (some (at_ - 1)) none
            walk_at "st"
            refine rd_slS (by omega) ?_
            refine rd_strs (by rw [one_len]; omega) ?_
            walk_at "st"
            refine rd_strs (by rw [app_len, one_len, one_len]; omega) ?_
            walk_at "st"
            refine rd_slS (by omega) ?_
            refine rd_strs (by rw [app_len, app_len, one_len, one_len]; omega) ?_
            refine ⟨⟨some (.str ⟨#[y]⟩), ?_⟩, rfl⟩
            have er : rawW f st ⟨#[d]⟩ stem at_ i = ((⟨#[d]⟩ ++ cutS stem none (some (at_ - 1))) ++ ⟨#[y]⟩) ++ cutS stem (some (at_ - 1)) none := by rw [ey]; exact if_pos ha
            rw [er]
            rfl
          · walk_at "st"
            refine ⟨⟨v12, ?_⟩, rfl⟩
            have er : rawW f st ⟨#[d]⟩ stem at_ i = ⟨#[x]⟩ ++ stem := by rw [ex]; exact if_neg ha
            rw [er]
            rfl
        · rintro σ' H' ⟨⟨v12, rfl⟩, rfl⟩
          walk_at "st"
          refine rd_tyL (sq_of (e11 _ _ g10)) ?_
          walk_at "st"
          refine ⟨by show 2 ≤ sizeLine; decide, fun l hl => ?_⟩
          have e12 := Ex.new (o := .lst [V.str "new", V.str "found"]) hl
          have h12 : upd H' l (.lst [V.str "new", V.str "found"]) l = _ := upd_same
          generalize upd H' l (.lst [V.str "new", V.str "found"]) = H12 at e12 h12 ⊢
          refine ⟨_, _, rfl, .inl (sq_of h12), rfl, rfl, ?_⟩
          rw [if_neg Bool.false_ne_true]
          walk_at "st"
          refine rd_mulS (by decide +kernel) (by split <;> decide) (by split <;> decide) ?_
          refine rd_strs (by have := PyProof.Rows.len_mul_leN (x := "0") (n := if inV (V.str (rawW f st ⟨#[d]⟩ stem at_ i)) [V.str "new", V.str "found"] = true then 1 else 0) (L := 1) (N := 1) (by decide +kernel) (by split <;> decide); omega) ?_
          walk_at "st"
          refine rd_append (e12 _ _ (e11 _ _ g10)) (Nat.lt_of_le_of_lt (show _ ≤ 100 by simp; omega) (by decide)) ?_
          refine ⟨⟨_, _, _, rfl⟩, Ex.mut ((e10.trans e11).trans e12) hG, ?_⟩
          rw [upd_same, List.range_succ, List.map_append, List.map_append]
          rfl
      · obtain ⟨⟨v6, v11, v12, rfl⟩, e10, g10⟩ := hv
        walk_at "st"
        have W := raw_words ro n2
        refine ⟨pd, c, G, _, _, rfl, p8.ex e10, by omega, g10, by simp; omega, fun x hx => (W.ok x hx).so, fun zs p H11 pm hp11 g11 p11 kx11 => ?_⟩
        refine k zs p H11 (W.perm pm) ?_ g11 (p11.mono (by simp; omega)) ((kx8'.trans (Kx.of e10)).trans kx11)
        have kxa : Kx pd H H10 := kx8'.trans (Kx.of e10)
        refine kxa.free ?_ hp11
        intro ep
        obtain ⟨kvs, hk⟩ := (p8.ex e10).dK
        rw [ep, hk] at hp11
        cases hp11
end


/-! ### letters out of words -/
theorem tilde_cps : ("~" : Str).cps.toList = [126] := by decide +kernel
theorem tilde_len : ("~" : Str).length = 1 := by decide +kernel
theorem bare_of {z : Str} {c : Nat} {r : List Nat} (e : z.cps.toList = c :: r) : (bareS z).cps.toList = if c = 126 then r else c :: r := by
  have hl : 1 ≤ z.length := by rw [← len_cps, e]; simp
  have h1 : (cutS z none (some 1)).cps.toList = [c] := by
    have := cutS_to z 1 hl
    rw [e] at this
    exact this
  have h2 : (cutS z (some 1) none).cps.toList = r := by
    have := cutS_from z 1 hl
    rw [e] at this
    exact this
  unfold bareS
  by_cases hc : c = 126
  · have : cutS z none (some 1) = "~" := str_ext (by rw [h1, tilde_cps, hc])
    rw [this, if_pos (by decide +kernel), if_pos hc, h2]
  · have : ¬ V.str (cutS z none (some 1)) = V.str "~" := fun q => hc (by
      have := V.str.inj q
      rw [this, tilde_cps] at h1
      simpa using h1.symm)
    rw [if_neg (by simpa using this), if_neg hc, e]
/-- a word or the way back over it -/
def Mk1 (z : Str) : Prop := ∃ w, GoodW w ∧ (z = w ∨ z = "~" ++ w)
theorem GoodW.bare {w : Str} (h : GoodW w) : bareS w = w ∧ bareS ("~" ++ w) = w := by
  obtain ⟨_, _, _, c, r, e, hc⟩ := h.cps
  have nc : c ≠ 126 := by have := signs_lt (small_sub hc); omega
  refine ⟨str_ext ?_, str_ext ?_⟩
  · rw [bare_of e, if_neg nc, e]
  · have : ("~" ++ w : Str).cps.toList = 126 :: w.cps.toList := by rw [app_cps, tilde_cps]; rfl
    rw [bare_of this, if_pos rfl]
theorem Mk1.good {z : Str} (h : Mk1 z) : GoodW (bareS z) := by
  obtain ⟨w, g, rfl | rfl⟩ := h
  · rw [g.bare.1]; exact g
  · rw [g.bare.2]; exact g
theorem Mk1.eq {z : Str} (h : Mk1 z) : z = bareS z ∨ z = "~" ++ bareS z := by
  obtain ⟨w, g, rfl | rfl⟩ := h
  · rw [g.bare.1]; exact .inl rfl
  · rw [g.bare.2]; exact .inr rfl
theorem Mk1.ok {z : Str} (h : Mk1 z) : isLetterB z = true := by
  have g := h.good
  rw [isLetterB, g.wd, g.nb]; rfl
theorem Mk1.len {z : Str} (h : Mk1 z) : 1 ≤ z.length ∧ z.length ≤ 13 := by
  have g := h.good.cps
  rcases h.eq with e | e
  · rw [e]; omega
  · rw [e, app_len, tilde_len]; omega
theorem Mk1.so {z : Str} (h : Mk1 z) : PyData.strOk z = true := by
  have g := h.good
  unfold PyData.strOk
  rw [Array.all_eq_true_iff_forall_mem]
  intro c hc
  have hc' : c ∈ z.cps.toList := by simpa using hc
  have : c < 127 := by
    rcases h.eq with e | e
    · rw [e] at hc'
      have := signs_lt (g.cps.2.2.1 c hc'); omega
    · rw [e, app_cps, tilde_cps] at hc'
      rcases List.mem_append.mp hc' with q | q
      · simp at q; omega
      · have := signs_lt (g.cps.2.2.1 c q); omega
  exact decide_eq_true (by omega)
structure Marks (ws gs : List Str) : Prop where
  bare : gs.map bareS = ws
  each : ∀ z ∈ gs, Mk1 z
theorem Marks.nd {ws gs : List Str} (h : Marks ws gs) (nd : ws.Nodup) : gs.Nodup := by
  rw [← h.bare, List.Nodup, List.pairwise_map] at nd
  exact nd.imp fun h e => h (by rw [e])
theorem Marks.len {ws gs : List Str} (h : Marks ws gs) : gs.length = ws.length := by rw [← h.bare, List.length_map]
theorem Marks.snoc {ws gs : List Str} {w z : Str} (h : Marks ws gs) (g : GoodW w) (hz : z = w ∨ z = "~" ++ w) : Marks (ws ++ [w]) (gs ++ [z]) := by
  have hb : bareS z = w := by rcases hz with rfl | rfl; exact g.bare.1; exact g.bare.2
  refine ⟨by rw [List.map_append, h.bare, List.map_cons, hb]; rfl, fun y hy => ?_⟩
  rcases List.mem_append.mp hy with q | q
  · exact h.each y q
  · rw [List.mem_singleton] at q; subst q; exact ⟨w, g, hz⟩
theorem Marks.letOk {ws gs : List Str} (h : Marks ws gs) (nd : ws.Nodup) (h1 : 1 ≤ ws.length) (h2 : ws.length ≤ 12) : LetOk gs :=
  ⟨by rw [h.len]; exact h1, by rw [h.len]; exact h2, fun x hx => (h.each x hx).ok, fun x hx => by have := (h.each x hx).len; omega, h.nd nd, fun x hx => (h.each x hx).so⟩
/-- one letter and its way back -/
theorem Marks.put {ws gs : List Str} {g0 : Str} {r : List Str} {c : Nat} {t : List Nat} (h : Marks ws gs) (nd : ws.Nodup) (h1 : 1 ≤ ws.length) (h2 : ws.length < 12) (e : gs = g0 :: r) (ec : g0.cps.toList = c :: t) (hc : c ≠ 126) (i : Nat) :
    LetOk (gs.take i ++ ["~" ++ g0] ++ gs.drop i) := by
  have m0 : g0 ∈ gs := by rw [e]; exact List.mem_cons_self ..
  have k0 := h.each g0 m0
  have eb : g0 = bareS g0 := by
    rcases k0.eq with q | q
    · exact q
    · exfalso
      rw [q, app_cps, tilde_cps] at ec
      simp at ec
      exact hc ec.1.symm
  have kk : Mk1 ("~" ++ g0) := ⟨bareS g0, k0.good, .inr (by rw [← eb])⟩
  have nin : ("~" ++ g0 : Str) ∉ gs := by
    intro hin
    have b1 : bareS ("~" ++ g0) = g0 := by
      have := k0.good.bare.2
      rwa [← eb] at this
    have gnd := nd
    rw [← h.bare, e, List.map_cons, List.nodup_cons] at gnd
    rw [e] at hin
    rcases List.mem_cons.mp hin with q | q
    · have := congrArg Str.length q
      rw [app_len, tilde_len] at this
      omega
    · exact gnd.1 (List.mem_map.mpr ⟨_, q, by rw [b1]; exact eb⟩)
  have pm : (gs.take i ++ ["~" ++ g0] ++ gs.drop i).Perm (("~" ++ g0) :: gs) := by
    rw [List.append_assoc]
    refine (List.perm_middle (l₁ := gs.take i) (l₂ := gs.drop i) (a := "~" ++ g0)).trans ?_
    rw [List.take_append_drop]
  have me : ∀ z, z ∈ gs.take i ++ ["~" ++ g0] ++ gs.drop i → Mk1 z := fun z hz => by
    rcases List.mem_cons.mp (pm.mem_iff.mp hz) with q | q
    · rw [q]; exact kk
    · exact h.each z q
  have hl := pm.length_eq
  rw [List.length_cons, h.len] at hl
  exact ⟨by omega, by omega, fun x hx => (me x hx).ok, fun x hx => by have := (me x hx).len; omega, pm.nodup_iff.mpr (List.nodup_cons.mpr ⟨nin, h.nd nd⟩), fun x hx => (me x hx).so⟩
section
variable {P : Program} {w : World} {K : PySem.W.Frag} {mg : Str → Option Value} {base : Heap} {a : Ad}
def spMarked : Sp := fun vs H Q _ => ∃ (pd c l : Addr) (B n : Nat) (ws : List Str), vs = [.ref pd, .ref l] ∧ PenK H pd c B ∧ B < 600000000 ∧ H l = some (.lst (ws.map V.str)) ∧ Words n ws ∧ 1 ≤ n ∧ n < 12 ∧
  ∀ (zs : List Str) (p : Addr) (H' : Hp), LetOk zs → zs.length ≤ n + 1 → H p = none → H' p = some (.lst (zs.map V.str)) → PenK H' pd c (B + 50) → Kx pd H H' → Q (.ref p) H'
theorem c__law_marked (T : Txt K mg a) : Cal P w K mg base 2 "_law_marked" ["_law_pen_here", "_law_words_here"] spMarked := by
  obtain ⟨fd, F, b⟩ := T.F__law_marked
  refine ⟨_, _, F.ok sc__law_marked (fun vs H Q E h => ?_) (fun cdv A outer s H vs Q E hr h => ?_), T.g__law_marked, F.kp, b⟩
  · obtain ⟨pd, c, l, B, n, ws, rfl, _⟩ := h; rfl
  · obtain ⟨pd, c, l, B, n, ws, rfl, hp, hB, hl, W, n1, n2, k⟩ := h
    refine ⟨_, (pss_cons (ps_setLc (own := [("_law_word", 3)]) (i := 2) (by rfl) sc__law_marked.nd rfl rfl (sw_true rfl rfl rfl (by decide +kernel)) (pi_list (pv 1)) (blkOk_by (own := [("_law_word", 3)]) (N := N__law_marked) (sc := defScope s__law_marked) (by decide +kernel)) (fun _ _ _ _ _ => (pg_name (i := 3) sc__law_marked.nd rfl (by first | exact Or.inl rfl | exact Or.inr rfl))) (fun _ _ _ _ _ => pts_nil) (fun _ _ _ _ _ => (pe_op op_add_str (pe_op op_mul_str pe_str (pe_callTy call_int1 (by rfl) T.n_int (by decide +kernel) (pa_cons (pe_cmpR op_eq (pe_callC (c__law_draw T) hr (pa_cons (pv 0) (pa_cons pe_int pa_nil))) pe_int (by rfl)) pa_nil))) (pv 3))))
  (Evl.pss_cut (ps_if (PW.pt (pw_and (pt_cmpR op_eq (pe_callC (c__law_draw T) hr (pa_cons (pv 0) (pa_cons pe_int pa_nil))) pe_int (by rfl)) (pw_and (pt_cmpR op_lt (pe_callB call_len_seq (by rfl) T.n_len (by decide +kernel) (pa_cons (pv 2) pa_nil)) pe_int (by rfl)) (pw_and1 (pt_cmpR op_ne (pe_ix ix_str (pe_ix ix_list (pv 2) pe_int (fun _ _ => rfl)) pe_int (fun _ _ => rfl)) pe_str (by rfl)))))) (pss_one (ps_expr (pe_bm PySem.F.plainAttrs_list PySem.F.slot_list_insert PySem.F.type_list_insert mt_insert (pv 2) (pa_cons (pe_callC (c__law_draw T) hr (pa_cons (pv 0) (pa_cons (pe_op op_add (pe_callB call_len_seq (by rfl) T.n_len (by decide +kernel) (pa_cons (pv 2) pa_nil)) pe_int) pa_nil))) (pa_cons (pe_op op_add_str pe_str (pe_ix ix_list (pv 2) pe_int (fun _ _ => rfl))) pa_nil))))) pss_nil)
  (pss_one (ps_ret (pv 2))))), ?_⟩
    walk_at "st"
    refine rd_lcYl (J := Itl K l) (H1 := H) (fun R r => ⟨_, rfl, l, rfl, ⟨_, sq_of hl⟩, r⟩) (yl_list (ws.map V.str)) (fun D i H' => H D = none ∧ ∃ gs : List Str, Marks (ws.take i) gs ∧ H' D = some (.lst (gs.map V.str)) ∧ PenK H' pd c (B + i) ∧ Kx pd H H') (fun D i H' _ p => ?_) (fun D hD => ⟨hD, [], ⟨rfl, fun z hz => by cases hz⟩, upd_same, hp.ex (Ex.new hD), Kx.of (Ex.new hD)⟩) (fun D i x H1 H2 hi p e yy => ?_) (fun D H1 p => ?_)
    · obtain ⟨_, gs, _, _, _, kx⟩ := p
      obtain ⟨kvs, hd⟩ := hp.dK
      exact sq_of (kx.lst hd hl)
    · obtain ⟨hD, gs, M, g1, p1, kx⟩ := p
      rw [List.length_map] at hi
      have ex : x = V.str ws[i] := by rw [List.getElem?_map, List.getElem?_eq_getElem hi] at yy; exact (Option.some.inj yy).symm
      subst ex
      have ln := W.len
      refine ⟨rfl, ?_⟩
      walk_at "st"
      refine ⟨pd, c, B + i, _, rfl, p1.ex e, by omega, by decide, by decide, fun r H3 r0 r1 p3 kx3 => ?_⟩
      walk_at "st"
      have gw := W.ok _ (List.getElem_mem hi)
      refine rd_mulS (by decide +kernel) (by split <;> decide) (by split <;> decide) ?_
      obtain ⟨kvs, hd⟩ := (p1.ex e).dK
      have gl := gw.cps
      have em : ∃ z : Str, (Txt.mul "~" (if decide (V.int r = V.int 0) = true then 1 else 0)) ++ ws[i] = z ∧ (Txt.mul "~" (if decide (V.int r = V.int 0) = true then 1 else 0)).length ≤ 1 ∧ (z = ws[i] ∨ z = "~" ++ ws[i]) := by
        refine ⟨_, rfl, ?_⟩
        split
        · rw [mul_one]; exact ⟨by decide +kernel, .inr rfl⟩
        · rw [mul_zero]; exact ⟨by decide +kernel, .inl (str_ext (by rw [app_cps]; rfl))⟩
      obtain ⟨z, ez, lz, hz⟩ := em
      walk_at "st"
      refine rd_strs (by omega) ?_
      dsimp only
      rw [ez]
      have g3 := kx3.lst hd (e _ _ g1)
      have lg := M.len
      rw [List.length_take] at lg
      refine ⟨_, g3, Nat.lt_of_le_of_lt (show _ ≤ 100 by simp; omega) (by decide), hD, gs ++ [z], ?_, ?_, ?_, ?_⟩
      · rw [take_snoc (List.getElem?_eq_getElem hi)]
        exact M.snoc gw hz
      · rw [upd_same, List.map_append]; rfl
      · exact (p3.wr (hp.np hD) (hp.nc hD)).mono (by omega)
      · exact ((kx.trans (Kx.of e)).trans kx3).mut hD
    · obtain ⟨hD, gs, M, g1, p1, kx⟩ := p
      have ln := W.len
      rw [List.length_map, List.take_length] at M
      rw [List.length_map] at p1
      have lg := M.len
      walk_at "st"
      refine ⟨fun σ' H' => σ' = [some (.ref pd), some (.ref l), some (.ref D), none] ∧ ∃ zs : List Str, LetOk zs ∧ zs.length ≤ n + 1 ∧ H' D = some (.lst (zs.map V.str)) ∧ PenK H' pd c (B + 50) ∧ Kx pd H H', ?_, ?_⟩
      · have stay : ∀ H2, PenK H2 pd c (B + ws.length + 1) → Kx pd H1 H2 → ∃ zs : List Str, LetOk zs ∧ zs.length ≤ n + 1 ∧ H2 D = some (.lst (zs.map V.str)) ∧ PenK H2 pd c (B + 50) ∧ Kx pd H H2 := fun H2 p2 kx2 => by
          obtain ⟨kvs, hd⟩ := p1.dK
          exact ⟨gs, M.letOk W.nd (by omega) (by omega), by omega, kx2.lst hd g1, p2.mono (by omega), kx.trans kx2⟩
        obtain ⟨kvs, hd⟩ := p1.dK
        walk_at "st"
        refine ⟨pd, c, B + ws.length, _, rfl, p1, by omega, by decide, by decide, fun r H2 r0 r1 p2 kx2 => ?_⟩
        have g2 := kx2.lst hd g1
        obtain ⟨g0, r', eg⟩ : ∃ g0 r', gs = g0 :: r' := by
          cases gs with
          | nil => simp at lg; omega
          | cons x r => exact ⟨x, r, rfl⟩
        have M0 := M.each g0 (by rw [eg]; exact List.mem_cons_self ..)
        have l0 := M0.len
        obtain ⟨c0, t0, ec⟩ : ∃ c r, g0.cps.toList = c :: r := by
          cases q : g0.cps.toList with
          | nil => rw [← len_cps, q] at l0; simp at l0
          | cons c r => exact ⟨c, r, rfl⟩
        have at0 : atI (gs.map V.str) 0 = some (V.str g0) := by rw [eg]; exact atI_nat (j := 0) rfl
        walk_at "st"
        refine ite2 (fun hr0 => ?_) (fun hr0 => ?_)
        · walk_at "st"
          refine rd_lenL (sq_of g2) ?_
          walk_at "st"
          refine ite2 (fun hl8 => ?_) (fun hl8 => ?_)
          · walk_at "st"
            refine ⟨_, _, _, _, rfl, rfl, sq_of g2, at0, ?_⟩
            walk_at "st"
            refine rd_ixS (c := c0) (by omega) (by rw [ec]; exact atI_nat (j := 0) rfl) ?_
            walk_at "st"
            refine ite2 (fun hn => ?_) (fun hn => ?_)
            · walk_at "st"
              refine rd_tyL (sq_of g2) ?_
              walk_at "st"
              refine rd_lenL (sq_of g2) ?_
              walk_at "st"
              have lm : (gs.map V.str).length = n := by rw [List.length_map, lg, ln]
              refine ⟨pd, c, _, _, rfl, p2, by omega, by omega, by omega, fun j H3 j0 j1 p3 kx3 => ?_⟩
              obtain ⟨kvs2, hd2⟩ := p2.dK
              have g3 := kx3.lst hd2 g2
              walk_at "st"
              refine ⟨_, _, _, _, rfl, rfl, sq_of g3, at0, ?_⟩
              walk_at "st"
              refine rd_strs (by rw [tilde_len]; omega) ?_
              dsimp only
              walk_at "st"
              refine ⟨D, _, j, _, rfl, rfl, g3, Nat.lt_of_le_of_lt (show _ ≤ 100 by omega) (by decide), j0, by omega, ?_⟩
              have hc0 : c0 ≠ 126 := fun q => by
                subst q
                exact absurd hn (by decide +kernel)
              refine ⟨rfl, _, M.put W.nd (by omega) (by omega) eg ec hc0 j.toNat, ?_, ?_, ?_, ?_⟩
              · simp only [List.length_append, List.length_take, List.length_drop, List.length_singleton]; omega
              · rw [upd_same]; simp
              · exact (p3.wr (hp.np hD) (hp.nc hD)).mono (by omega)
              · exact ((kx.trans kx2).trans kx3).mut hD
            · walk_at "st"
              exact ⟨rfl, stay _ p2 kx2⟩
          · walk_at "st"
            exact ⟨rfl, stay _ p2 kx2⟩
        · walk_at "st"
          exact ⟨rfl, stay _ p2 kx2⟩
      · rintro σ' H' ⟨rfl, zs, z1, z2, z3, z4, z5⟩
        walk_at "st"
        exact k zs D H' z1 z2 hD z3 z4 z5
end


/-! ### the rows that are due -/
def DueRow (H : Hp) (v : V) (r : Row) : Prop := ∃ T, v = .ref T ∧ H T = some (.tup [.str r.1, .str r.2.1, r.2.2])
theorem DueRow.ex {H H' : Hp} {v : V} {r : Row} (s : DueRow H v r) (e : Ex H H') : DueRow H' v r := let ⟨p, h1, h2⟩ := s; ⟨p, h1, e _ _ h2⟩
theorem DueRow.wr {H : Hp} {D : Addr} {v : V} {r : Row} {xs ys : List V} (s : DueRow H v r) (h : H D = some (.lst xs)) : DueRow (upd H D (.lst ys)) v r :=
  let ⟨p, h1, h2⟩ := s; ⟨p, h1, by rw [upd_ne (ne_of h2 h (by intro z; cases z))]; exact h2⟩
structure Due (H0 : Hp) (D : Addr) (rs : List Row) (H : Hp) : Prop where
  ex : Ex H0 H
  new : H0 D = none
  at_ : ∃ vs, H D = some (.lst vs) ∧ Each (DueRow H) vs rs
theorem Due.grow {H0 H H' : Hp} {D : Addr} {rs : List Row} (s : Due H0 D rs H) (e : Ex H H') : Due H0 D rs H' := by
  obtain ⟨vs, h1, h2⟩ := s.at_
  exact ⟨s.ex.trans e, s.new, vs, e _ _ h1, h2.imp fun _ _ q => q.ex e⟩
theorem Due.put {H0 H : Hp} {D : Addr} {rs ts : List Row} {vs us : List V} (s : Due H0 D rs H) (h : H D = some (.lst vs)) (e : Each (DueRow H) us ts) : Due H0 D (rs ++ ts) (upd H D (.lst (vs ++ us))) := by
  obtain ⟨vs', h1, h2⟩ := s.at_
  rw [h] at h1; cases h1
  exact ⟨Ex.mut s.ex s.new, s.new, _, upd_same, (h2.imp fun _ _ q => q.wr h).app (e.imp fun _ _ q => q.wr h)⟩
theorem Due.start {H0 : Hp} {D : Addr} (h : H0 D = none) : Due H0 D [] (upd H0 D (.lst [])) := ⟨Ex.new h, h, [], upd_same, .nil⟩
/-- seen from further back -/
theorem Due.back {H0 H1 H : Hp} {D : Addr} {rs : List Row} (s : Due H1 D rs H) (e : Ex H0 H1) : Due H0 D rs H := ⟨e.trans s.ex, fresh_back e s.new, s.at_⟩
section
variable {P : Program} {w : World} {K : PySem.W.Frag} {mg : Str → Option Value} {base : Heap} {a : Ad}
theorem due_lcC {k : Nat} {te : TE} {σ : L2.St} {H1 : Hp} {Q : Addr → Hp → Prop} {l : Addr} {xs : List Str} (f : Str → Row) (hl : H1 l = some (.lst (xs.map V.str))) (hn : xs.length ≤ 1000)
    (he : ∀ x H' (Q' : VK), x ∈ xs → Ex H1 H' → (∀ p H'', H' p = none → Ex H' H'' → H'' p = some (.tup [.str (f x).1, .str (f x).2.1, (f x).2.2]) → Q' (.ref p) H'') → te ((wipe σ [k]).set k (some (.str x))) H' Q')
    (q : ∀ D H', Due H1 D (xs.map f) H' → Q D H') : ∀ D, H1 D = none → ∃ W : Nat → Nat → Hp → Prop, (∃ m, W 0 m (upd H1 D (.lst []))) ∧ ∀ i m H, W i m H →
      ((Itl K l).stop i H ∧ Q D H) ∨ ((Itl K l).go i H ∧ ∃ Nx : Hp → Prop, (∀ H', Nx H' → ∃ m', m' < m ∧ W (i + 1) m' H') ∧ ∀ x H', (Itl K l).yld i H x H' → gName k x (wipe σ [k]) H' fun σ2 H2 => wipe σ2 [k] = wipe σ [k] ∧ tYes σ2 H2 fun b H3 =>
        if b = true then te σ2 H3 fun y H4 => ∃ acc, H4 D = some (.lst acc) ∧ acc.length < sizeLine ∧ Nx (upd H4 D (.lst (acc ++ [y]))) else Nx H3) := by
  intro D hD
  refine lc_yl (yl_list (xs.map V.str)) (fun i H' => Due H1 D ((xs.take i).map f) H') (fun i H' _ p => sq_of (p.ex _ _ hl)) (.start hD) (fun i x H2 H3 hi p e yy => ?_) (fun H2 p => ?_)
  · rw [List.length_map] at hi
    have ex : x = V.str xs[i] := by rw [List.getElem?_map, List.getElem?_eq_getElem hi] at yy; exact (Option.some.inj yy).symm
    subst ex
    show wipe ((wipe σ [k]).set k (some (V.str xs[i]))) [k] = wipe σ [k] ∧ _
    refine ⟨wipe1 _, rd_yes (iteT ?_)⟩
    refine he _ _ _ (List.getElem_mem hi) (p.ex.trans e) fun T H4 hT e4 h4 => ?_
    have p4 := (p.grow e).grow e4
    obtain ⟨vs, v1, v2⟩ := p4.at_
    refine ⟨vs, v1, Nat.lt_of_le_of_lt (show _ ≤ 1000 by rw [v2.len, List.length_map, List.length_take]; omega) (by decide), ?_⟩
    have := p4.put v1 (.one ⟨T, rfl, h4⟩ : Each (DueRow H4) [.ref T] [f xs[i]])
    rw [take_snoc (List.getElem?_eq_getElem hi), List.map_append]
    exact this
  · rw [List.length_map, List.take_length] at p
    exact q D H2 p
/-- due + some rows -/
theorem rd_cat {H0 H : Hp} {D G : Addr} {rs ts : List Row} {us : List V} {Q : VK} (d : Due H0 D rs H) (g1 : H G = some (.lst us)) (g2 : Each (DueRow H) us ts) (hn : rs.length + ts.length ≤ 10000) (q : ∀ E H', Due H0 E (rs ++ ts) H' → Ex H H' → Q (.ref E) H') : rCat (.ref D) (.ref G) H Q := by
  obtain ⟨vs, h1, h2⟩ := d.at_
  refine ⟨D, G, vs, us, rfl, rfl, h1, g1, by rw [h2.len, g2.len]; exact Nat.le_trans hn (by decide), fun p hp => ?_⟩
  refine q p _ ⟨d.ex.trans (Ex.new hp), fresh_back d.ex hp, _, upd_same, ?_⟩ (Ex.new hp)
  exact (h2.app g2).imp fun _ _ r => r.ex (Ex.new hp)
theorem alikes_len {ws : List Str} (h : ws.length ≤ 12) (i : Nat) : (alikes ws i).length ≤ 12 * i := by
  have h1 := fm_len (c := 12) (fun i => by rw [List.length_map, List.length_take]; omega : ∀ i, ((ws.take i).map (rAlike (ws.getD i ""))).length ≤ 12) (List.range i)
  rw [List.length_range] at h1
  exact h1
theorem row_len {ws : List Str} (h : ws.length ≤ 12) (x : Str) (j : Nat) : ((ws.take j).flatMap (rPair x)).length ≤ 36 := by
  have := fm_len (rPair_len x) (ws.take j); rw [List.length_take] at this; omega
theorem pairs_len {ws : List Str} (h : ws.length ≤ 12) (i : Nat) : (pairs ws i).length ≤ 36 * 12 := by
  have h2 : ∀ x, (ws.flatMap (rPair x)).length ≤ 36 := fun x => by have := fm_len (rPair_len x) ws; omega
  have h3 := fm_len h2 (ws.take i)
  rw [List.length_take] at h3
  unfold pairs; omega
theorem mk_let {H : Hp} {l : Addr} {ws : List Str} {R : Addr → Hp → Prop} (h : H l = some (.lst (ws.map V.str))) (O : LetOk ws) (q : ∀ x H', H x = none → Ex H H' → LetAt a H' x ws → R x H') :
    ∀ x dx, H x = none → H dx = none → dx ≠ x → spLetInit a [.ref x, .ref l] (upd (upd H dx (.own x)) x (.ins a.Letters dx [])) (fun v H2 => v = .non ∧ R x H2) E0 := by
  intro x dx hx hdx ne
  have e0 : Ex H (upd (upd H dx (.own x)) x (.ins a.Letters dx [])) := fun b o h => by rw [upd_ne (ne_of_none h hx), upd_ne (ne_of_none h hdx)]; exact h
  refine ⟨x, dx, l, ws, rfl, upd_same, e0 _ _ h, O, fun t o H' ht ho h1 h2 kx => ⟨rfl, q x H' hx (fun b o h => kx b o (ne_of_none h hx) (e0 b o h)) ⟨dx, t, o, h2, h1, ho, O.so⟩⟩⟩
/-! ### every row of the menu is a sentence -/
theorem menu_ok {ws : List Str} {r : Row} (h : r ∈ menuRows ws) : SenOk ws r.1 r.2.1 r.2.2 := by
  unfold menuRows at h
  simp only [List.mem_append] at h
  rcases h with ((h | h) | h) | h
  · obtain ⟨x, hx, rfl⟩ := List.mem_map.mp h
    exact ⟨(by decide +kernel : ("idle" : Str) ∈ kinds), hx, .inl ⟨(by decide +kernel : ("idle" : Str) ∈ single), rfl⟩⟩
  · unfold alikes at h
    obtain ⟨i, hi, h⟩ := List.mem_flatMap.mp h
    obtain ⟨z, hz, rfl⟩ := List.mem_map.mp h
    have hi' := List.mem_range.mp hi
    have ge : ws.getD i "" = ws[i] := by simp [List.getD, hi']
    obtain ⟨j, hj, ej⟩ := List.mem_iff_getElem.mp hz
    rw [List.length_take] at hj
    rw [List.getElem_take] at ej
    rw [ge]
    refine ⟨(by decide +kernel : ("alike" : Str) ∈ kinds), List.getElem_mem hi', .inr ⟨(by decide +kernel : ("alike" : Str) ∉ single), z, ej ▸ List.getElem_mem _, rfl, fun _ => ⟨i, j, by omega, List.getElem?_eq_getElem hi', ?_⟩, fun h => absurd h (by decide +kernel : ¬ ("alike" : Str) = "over")⟩⟩
    rw [List.getElem?_eq_getElem (by omega), ej]
  · obtain ⟨x, hx, rfl⟩ := List.mem_map.mp h
    exact ⟨(by decide +kernel : ("still" : Str) ∈ kinds), hx, .inl ⟨(by decide +kernel : ("still" : Str) ∈ single), rfl⟩⟩
  · unfold pairs at h
    obtain ⟨x, hx, h⟩ := List.mem_flatMap.mp h
    obtain ⟨y, hy, h⟩ := List.mem_flatMap.mp h
    have hx' := List.mem_of_mem_take hx
    unfold rPair at h
    simp only [List.mem_append] at h
    rcases h with (h | h) | h
    · rw [List.mem_singleton] at h; subst h
      exact ⟨(by decide +kernel : ("kept" : Str) ∈ kinds), hx', .inr ⟨(by decide +kernel : ("kept" : Str) ∉ single), y, hy, rfl, fun h => absurd h (by decide +kernel : ¬ ("kept" : Str) = "alike"), fun h => absurd h (by decide +kernel : ¬ ("kept" : Str) = "over")⟩⟩
    · split at h
      · cases h
      · rename_i ne
        rw [List.mem_singleton] at h; subst h
        exact ⟨(by decide +kernel : ("over" : Str) ∈ kinds), hx', .inr ⟨(by decide +kernel : ("over" : Str) ∉ single), y, hy, rfl, fun h => absurd h (by decide +kernel : ¬ ("over" : Str) = "alike"), fun _ => ne⟩⟩
    · rw [List.mem_singleton] at h; subst h
      exact ⟨(by decide +kernel : ("undone" : Str) ∈ kinds), hx', .inr ⟨(by decide +kernel : ("undone" : Str) ∉ single), y, hy, rfl, fun h => absurd h (by decide +kernel : ¬ ("undone" : Str) = "alike"), fun h => absurd h (by decide +kernel : ¬ ("undone" : Str) = "over")⟩⟩
theorem kinds_so : ∀ k ∈ kinds, PyData.strOk k = true := by decide +kernel
theorem row_data {ws : List Str} {k f : Str} {s : V} (S : SenOk ws k f s) (so : ∀ x ∈ ws, PyData.strOk x = true) : ∃ ds, (∀ H, DpAll K H [.str k, .str f, s] ds) ∧ SeqAt.shaped (.tuple ds) = true ∧ PyData.eqv (.tuple ds) (.tuple ds) = true ∧ scal s s = true := by
  have o1 := kinds_so k S.kd
  have o2 := so f S.fs
  rcases S.sc with ⟨_, rfl⟩ | ⟨_, y, hy, rfl, _⟩
  · refine ⟨[.str k, .str f, .none], fun H => .cons (.str _) (.cons (.str _) (.cons .non .nil)), ?_, ?_, rfl⟩
    · simp [SeqAt.shaped, PyData.canLay0, PyData.canLayAll0, PyData.depth, PyData.depthAll, o1, o2]
    · simp [PyData.eqv, PyData.eqvAll]
  · have o3 := so y hy
    refine ⟨[.str k, .str f, .str y], fun H => .cons (.str _) (.cons (.str _) (.cons (.str _) .nil)), ?_, ?_, rfl⟩
    · simp [SeqAt.shaped, PyData.canLay0, PyData.canLayAll0, PyData.depth, PyData.depthAll, o1, o2, o3]
    · simp [PyData.eqv, PyData.eqvAll]
def spLaw (K : PySem.W.Frag) : Sp := fun vs H Q _ => ∃ (s : Addr) (ns : List Int), vs = [.ref s] ∧ SqL K H s (ns.map V.int) ∧ ∀ H', Q (.bl true) H'
theorem ok_law (T : Txt K mg a) {fd : FuncData} (F : Fun K "law" "law" s_law a.f_law fd) : FnOk P w K mg base CX0 7 a.f_law fd ["_law_script"] (spLaw K) := by
  refine F.ok sc_law (fun vs H Q E h => ?_) (fun cdv A outer s H vs Q E hr h => ?_)
  · obtain ⟨z, ns, rfl, _⟩ := h; rfl
  · obtain ⟨z, ns, rfl, hz, k⟩ := h
    refine ⟨_, (pss_cons (ps_set (i := 1) sc_law.nd rfl (by first | exact Or.inl rfl | exact Or.inr rfl) (pe_callC (c__law_pen T) hr (pa_cons (pv 0) pa_nil)))
  (pss_cons (ps_set (i := 2) sc_law.nd rfl (by first | exact Or.inl rfl | exact Or.inr rfl) (pe_callC (c__law_marked T) hr (pa_cons (pv 1) (pa_cons (pe_callC (c__law_words T) hr (pa_cons (pv 1) (pa_cons (pe_op op_add pe_int (pe_callC (c__law_draw T) hr (pa_cons (pv 1) (pa_cons pe_int pa_nil)))) pa_nil))) pa_nil))))
  (pss_cons (ps_par (i := 7) (j := 4) (by rfl) sc_law.nd rfl rfl (by decide) rfl rfl (pa_cons (pe_makeC (c_Letters T) hr (pa_cons (pv 2) pa_nil)) (pa_cons (pe_lc (own := [("_law_x", 5)]) (by rfl) sc_law.nd (pi_list (pv 2)) (blkOk_by (own := [("_law_x", 5)]) (N := N_law) (sc := defScope s_law) (by decide +kernel)) (fun _ _ _ _ _ => (pg_name (i := 5) sc_law.nd rfl (by first | exact Or.inl rfl | exact Or.inr rfl))) (fun _ _ _ _ _ => pts_nil) (fun _ _ _ _ _ => (pe_tup (pa_cons pe_str (pa_cons (pv 5) (pa_cons pe_non pa_nil)))))) pa_nil)) (by rfl))
  (pss_cons (ps_for PassesOwn.never (by rfl) (pi_range1 (by rfl) T.n_range (pa_cons (pe_callB call_len_seq (by rfl) T.n_len (by decide +kernel) (pa_cons (pv 2) pa_nil)) pa_nil)) (pg_name (i := 3) sc_law.nd rfl (by first | exact Or.inl rfl | exact Or.inr rfl))
    (pss_one (ps_set (i := 4) sc_law.nd rfl (by first | exact Or.inl rfl | exact Or.inr rfl) (pe_op op_cat (pv 4) (pe_lc (own := [("_law_z", 11)]) (by rfl) sc_law.nd (pi_list (pe_slice sl_list (pv 2) po_none (po_some (pv 3)))) (blkOk_by (own := [("_law_z", 11)]) (N := N_law) (sc := defScope s_law) (by decide +kernel)) (fun _ _ _ _ _ => (pg_name (i := 11) sc_law.nd rfl (by first | exact Or.inl rfl | exact Or.inr rfl))) (fun _ _ _ _ _ => pts_nil) (fun _ _ _ _ _ => (pe_tup (pa_cons pe_str (pa_cons (pe_ix (ix_listK (K := K)) (pv 2) (pv 3) (fun _ _ => rfl)) (pa_cons (pv 11) pa_nil))))))))))
  (pss_cons (ps_set (i := 4) sc_law.nd rfl (by first | exact Or.inl rfl | exact Or.inr rfl) (pe_op op_cat (pv 4) (pe_lc (own := [("_law_x", 5)]) (by rfl) sc_law.nd (pi_list (pv 2)) (blkOk_by (own := [("_law_x", 5)]) (N := N_law) (sc := defScope s_law) (by decide +kernel)) (fun _ _ _ _ _ => (pg_name (i := 5) sc_law.nd rfl (by first | exact Or.inl rfl | exact Or.inr rfl))) (fun _ _ _ _ _ => pts_nil) (fun _ _ _ _ _ => (pe_tup (pa_cons pe_str (pa_cons (pv 5) (pa_cons pe_non pa_nil))))))))
  (pss_cons (ps_for PassesOwn.never (by rfl) (pi_list (pv 2)) (pg_name (i := 5) sc_law.nd rfl (by first | exact Or.inl rfl | exact Or.inr rfl))
    (pss_one (ps_for PassesOwn.never (by rfl) (pi_list (pv 2)) (pg_name (i := 8) sc_law.nd rfl (by first | exact Or.inl rfl | exact Or.inr rfl))
        (pss_cons (ps_expr (pe_bm PySem.F.plainAttrs_list PySem.F.slot_list_append PySem.F.type_list_append mt_append (pv 4) (pa_cons (pe_tup (pa_cons pe_str (pa_cons (pv 5) (pa_cons (pv 8) pa_nil)))) pa_nil)))
          (pss_one (ps_set (i := 4) sc_law.nd rfl (by first | exact Or.inl rfl | exact Or.inr rfl) (pe_op op_cat (pe_op op_cat (pv 4) (pe_slice sl_list (pe_lst (pa_cons (pe_tup (pa_cons pe_str (pa_cons (pv 5) (pa_cons (pv 8) pa_nil)))) pa_nil)) po_none (po_some (pe_callTy call_int1 (by rfl) T.n_int (by decide +kernel) (pa_cons (pe_cmpR op_ne (pv 5) (pv 8) (by rfl)) pa_nil))))) (pe_lst (pa_cons (pe_tup (pa_cons pe_str (pa_cons (pv 5) (pa_cons (pv 8) pa_nil)))) pa_nil)))))))))
  (pss_cons (ps_set (i := 6) sc_law.nd rfl (by first | exact Or.inl rfl | exact Or.inr rfl) (pe_callC (c_menu T) hr (pa_cons (pv 7) pa_nil)))
  (pss_cons (ps_if (PW.pt (pw_or (pt_not (pt_val (pe_callB call_isi (by rfl) T.n_isinstance (by decide +kernel) (pa_cons (pv 6) (pa_cons (pe_bty "tuple" T.n_tuple (by decide +kernel)) pa_nil))))) (pw_or1 (pt_cmpR op_ne (pe_callB call_len_seq (by rfl) T.n_len (by decide +kernel) (pa_cons (pv 6) pa_nil)) (pe_callB call_len_seq (by rfl) T.n_len (by decide +kernel) (pa_cons (pv 4) pa_nil)) (by rfl))))) (pss_one (ps_ret pe_bl)) pss_nil)
  (pss_cons (ps_for PassesOwn.never (by rfl) (pi_zipM (by rfl) T.n_zip (pa_cons (pv 6) (pa_cons (pv 4) pa_nil))) (pg_tup rfl (pgs_cons (pg_name (i := 9) sc_law.nd rfl (by first | exact Or.inl rfl | exact Or.inr rfl)) (pgs_cons (pg_name (i := 10) sc_law.nd rfl (by first | exact Or.inl rfl | exact Or.inr rfl)) pgs_nil)))
    (pss_cons (ps_if (PW.pt (pw_or (pt_not (pt_val (pe_callB call_isi (by rfl) T.n_isinstance (by decide +kernel) (pa_cons (pv 9) (pa_cons (pe_gref T.g_Sentence) pa_nil))))) (pw_or (pt_cmpR (op_neD hr.units) (pe_tup (pa_cons (pe_fld (pv 9) rfl) (pa_cons (pe_fld (pv 9) rfl) (pa_cons (pe_fld (pv 9) rfl) pa_nil)))) (pv 10) (by rfl)) (pw_or1 (pt_cmpR (op_neOwn T.ne_Letters (c_Letters___eq__ T) hr) (pe_fld (pv 9) rfl) (pv 7) (by rfl)))))) (pss_one (ps_ret pe_bl)) pss_nil)
      (pss_one (ps_if (pt_cmpR (op_neOwn T.ne_Sentence (c_Sentence___eq__ T) hr) (pv 9) (pe_makeC (c_Sentence T) hr (pa_cons (pv 7) (pa_cons (pe_ix ix_tup (pv 10) pe_int (fun _ _ => rfl)) (pa_cons (pe_ix ix_tup (pv 10) pe_int (fun _ _ => rfl)) (pa_cons (pe_ix ix_tup (pv 10) pe_int (fun _ _ => rfl)) pa_nil))))) (by rfl)) (pss_one (ps_ret pe_bl)) pss_nil))))
  (pss_one (ps_ret (pe_cmpR (op_eqD hr.units) (pe_fld (pv 7) rfl) (pe_callTy call_tuple_frz (by rfl) T.n_tuple (by decide +kernel) (pa_cons (pv 2) pa_nil)) (by rfl))))))))))))), ?_⟩
    walk_at "st"
    refine ⟨z, ns, rfl, hz, fun pd c H1 hpd hc p1 e1 => ?_⟩
    walk_at "st"
    refine ⟨pd, c, _, _, rfl, p1, by decide, by decide, by decide, fun r H2 r0 r1 p2 kx2 => ?_⟩
    walk_at "st"
    obtain ⟨n, en, n1, n2⟩ : ∃ n : Nat, 1 + r = (n : Int) ∧ 1 ≤ n ∧ n ≤ 5 := ⟨(1 + r).toNat, by omega, by omega, by omega⟩
    rw [en]
    refine ⟨pd, c, _, n, rfl, p2, by decide, n1, by omega, fun ws l H3 W hl h3 p3 kx3 => ?_⟩
    walk_at "st"
    refine ⟨pd, c, l, _, n, ws, rfl, p3, by decide, h3, W, n1, by omega, fun zs q H4 O lz hq h4 p4 kx4 => ?_⟩
    have l12 := O.most
    walk_at "st"
    refine mk_let h4 O (fun lp H5 hlp e5 L5 => ?_)
    walk_at "st"
    refine rd_lc ?_
    walk_at "st"
    refine ⟨q, rfl, ⟨_, sq_of (e5 _ _ h4)⟩, ?_⟩
    refine due_lcC (k := 5) rIdle (e5 _ _ h4) (by omega) (fun x H' Q' hx e k' => ?_) (fun D H6 d6 => ?_)
    · walk_at "st"
      exact ⟨by show 3 ≤ sizeLine; decide, rd_new k'⟩
    · have h6 := d6.ex _ _ (e5 _ _ h4)
      have hq5 := e5 _ _ h4
      have sqz : ∀ {H'}, Ex H5 H' → SqL K H' q (zs.map V.str) := fun e => sq_of (e _ _ hq5)
      have wsi : ∀ {i : Nat} {x : V} (hi : i < zs.length), (zs.map V.str)[i]? = some x → x = V.str zs[i] := fun hi hx => by
        rw [List.getElem?_map, List.getElem?_eq_getElem hi] at hx; exact (Option.some.inj hx).symm
      walk_at "st"
      -- the alike rows
      refine rd_forYl (J := Itr 0 (zs.map V.str).length) (H1 := H6) (fun R r => ⟨_, rfl, q, _, rfl, .inl (sq_of h6), _, rfl, by omega, by rw [List.length_map]; omega, r⟩) (yl_range 0 _) (fun i σ H' => ∃ v3 D', σ = [some (.ref z), some (.ref pd), some (.ref q), v3, some (.ref D'), none, none, some (.ref lp), none, none, none, none] ∧ Due H5 D' (zs.map rIdle ++ alikes zs i) H') (fun _ _ _ _ _ => trivial) ⟨none, D, rfl, by simpa [alikes] using d6⟩ (fun i x σ H7 H8 hi p e yy => ?_) (fun σ H7 p => ?_)
      · obtain ⟨v3, D', rfl, d7⟩ := p
        subst yy
        rw [Int.zero_add]
        rw [List.length_map] at hi
        have d8 := d7.grow e
        refine rd_gname ?_
        walk_at "st"
        refine rd_lc ?_
        walk_at "st"
        refine rd_slL (sqz d8.ex) (fun m H9 hm e9 h9 => ?_)
        rw [cutV_to (by rw [List.length_map]; omega), ← List.map_take] at h9
        refine ⟨m, rfl, ⟨_, sq_of h9⟩, ?_⟩
        have d9 := d8.grow e9
        refine due_lcC (k := 11) (rAlike zs[i]) h9 (by rw [List.length_take]; omega) (fun x H' Q' hx e k' => ?_) (fun G H10 g10 => ?_)
        · walk_at "st"
          refine ⟨q, _, _, V.str zs[i], rfl, rfl, sqz (d9.ex.trans e), ?_, ?_⟩
          · refine atI_nat ?_
            rw [List.getElem?_map, List.getElem?_eq_getElem hi]; rfl
          walk_at "st"
          exact ⟨by show 3 ≤ sizeLine; decide, rd_new k'⟩
        · have d10 := d9.grow g10.ex
          obtain ⟨us, u1, u2⟩ := g10.at_
          have la := alikes_len l12 i
          refine rd_cat d10 u1 u2 (by simp only [List.length_append, List.length_map, List.length_take]; omega) (fun E' H11 d11 e11 => ?_)
          refine ⟨_, E', rfl, ?_⟩
          have eg : zs.getD i "" = zs[i] := by simp [List.getD, hi]
          rw [alikes_succ, eg, ← List.append_assoc]
          exact d11
      · obtain ⟨v3, D', rfl, d7⟩ := p
        rw [List.length_map] at d7
        have la := alikes_len l12 zs.length
        walk_at "st"
        refine rd_lc ?_
        walk_at "st"
        refine ⟨q, rfl, ⟨_, sqz d7.ex⟩, ?_⟩
        refine due_lcC (k := 5) rStill (d7.ex _ _ hq5) (by omega) (fun x H' Q' hx e k' => ?_) (fun G H8 g8 => ?_)
        · walk_at "st"
          exact ⟨by show 3 ≤ sizeLine; decide, rd_new k'⟩
        obtain ⟨us, u1, u2⟩ := g8.at_
        refine rd_cat (d7.grow g8.ex) u1 u2 (by simp only [List.length_append, List.length_map]; omega) (fun E' H9 d9 e9 => ?_)
        walk_at "st"
        have mlen : (zs.map rIdle ++ alikes zs zs.length ++ zs.map rStill).length ≤ 300 := by simp only [List.length_append, List.length_map]; omega
        generalize hR0 : zs.map rIdle ++ alikes zs zs.length ++ zs.map rStill = R0 at d9 mlen ⊢
        refine rd_forYl (J := Itl K q) (H1 := H9) (fun R r => ⟨_, rfl, q, rfl, ⟨_, sqz d9.ex⟩, r⟩) (yl_list (zs.map V.str)) (fun i σ H' => ∃ D' v5 v8, σ = [some (.ref z), some (.ref pd), some (.ref q), v3, some (.ref D'), v5, none, some (.ref lp), v8, none, none, none] ∧ Due H5 D' (R0 ++ pairs zs i) H') (fun i σ H' _ p => let ⟨_, _, _, _, d⟩ := p; sqz d.ex) ⟨E', none, none, rfl, by simpa [pairs] using d9⟩ (fun i x σ H10 H11 hi p e yy => ?_) (fun σ H10 p => ?_)
        · obtain ⟨D1, v5, v8, rfl, d10⟩ := p
          rw [List.length_map] at hi
          rw [wsi hi yy]
          have d11 := d10.grow e
          have lpi := pairs_len l12 i
          refine rd_gname ?_
          refine rd_forYl (J := Itl K q) (H1 := H11) (fun R r => ⟨_, rfl, q, rfl, ⟨_, sqz d11.ex⟩, r⟩) (yl_list (zs.map V.str)) (fun j σ H' => ∃ D' v8, σ = [some (.ref z), some (.ref pd), some (.ref q), v3, some (.ref D'), some (.str zs[i]), none, some (.ref lp), v8, none, none, none] ∧ Due H5 D' (R0 ++ pairs zs i ++ (zs.take j).flatMap (rPair zs[i])) H') (fun i σ H' _ p => let ⟨_, _, _, d⟩ := p; sqz d.ex) ⟨D1, v8, rfl, by simpa using d11⟩ (fun j y σ H12 H13 hj p e12 yy12 => ?_) (fun σ H12 p => ?_)
          · obtain ⟨D2, v8', rfl, d12⟩ := p
            rw [List.length_map] at hj
            rw [wsi hj yy12]
            have d13 := d12.grow e12
            have lpj := row_len l12 zs[i] j
            refine rd_gname ?_
            walk_at "st"
            obtain ⟨vs, w1, w2⟩ := d13.at_
            have lvs : vs.length ≤ 1000 := by rw [w2.len]; simp only [List.length_append]; omega
            refine rd_tyL (sq_of w1) ?_
            walk_at "st"
            refine ⟨by show 3 ≤ sizeLine; decide, ?_⟩
            intro T1 hT
            have e14 := Ex.new (o := HO.tup [V.str "kept", V.str zs[i], V.str zs[j]]) hT
            have h14 : upd H13 T1 (HO.tup [V.str "kept", V.str zs[i], V.str zs[j]]) T1 = some (HO.tup [V.str "kept", V.str zs[i], V.str zs[j]]) := upd_same
            generalize upd H13 T1 (HO.tup [V.str "kept", V.str zs[i], V.str zs[j]]) = H14 at e14 h14 ⊢
            walk_at "st"
            refine rd_append (e14 _ _ w1) (Nat.lt_of_le_of_lt lvs (by decide)) ?_
            have d14 := (d13.grow e14).put (e14 _ _ w1) (.one ⟨T1, rfl, h14⟩ : Each (DueRow H14) [.ref T1] [("kept", zs[i], V.str zs[j])])
            generalize upd H14 D2 (HO.lst (vs ++ [V.ref T1])) = H15 at d14 ⊢
            walk_at "st"
            refine ⟨by show 3 ≤ sizeLine; decide, ?_⟩
            intro U hU
            have e16 := Ex.new (o := HO.tup [V.str "over", V.str zs[i], V.str zs[j]]) hU
            have h16 : upd H15 U (HO.tup [V.str "over", V.str zs[i], V.str zs[j]]) U = some (HO.tup [V.str "over", V.str zs[i], V.str zs[j]]) := upd_same
            generalize upd H15 U (HO.tup [V.str "over", V.str zs[i], V.str zs[j]]) = H16 at e16 h16 ⊢
            walk_at "st"
            refine ⟨by show 1 ≤ sizeLine; decide, ?_⟩
            intro V1 hV
            have e17 := Ex.new (o := HO.lst [V.ref U]) hV
            have h17 : upd H16 V1 (HO.lst [V.ref U]) V1 = some (HO.lst [V.ref U]) := upd_same
            generalize upd H16 V1 (HO.lst [V.ref U]) = H17 at e17 h17 ⊢
            walk_at "st"
            refine rd_slL (sq_of h17) (fun S H18 hS e18 h18 => ?_)
            have d18 := ((d14.grow e16).grow e17).grow e18
            have hcut : ∃ us, H18 S = some (.lst us) ∧ Each (DueRow H18) us (if zs[i] = zs[j] then ([] : List Row) else [("over", zs[i], V.str zs[j])]) := by
              by_cases hij : zs[i] = zs[j]
              · rw [if_pos hij]
                rw [hij, decide_eq_true rfl] at h18
                exact ⟨_, h18, by show Each _ (cutV [V.ref U] none (some ((0 : Nat) : Int))) []; rw [cutV_to (Nat.zero_le _)]; exact .nil⟩
              · rw [if_neg hij]
                rw [decide_eq_false (fun q => hij (V.str.inj q))] at h18
                exact ⟨_, h18, by show Each _ (cutV [V.ref U] none (some ((1 : Nat) : Int))) _; rw [cutV_to (i := 1) (xs := [V.ref U]) (Nat.le_refl 1)]; exact .one ⟨U, rfl, e18 _ _ (e17 _ _ h16)⟩⟩
            clear h18
            obtain ⟨us', h18, eus⟩ := hcut
            have lif : (if zs[i] = zs[j] then ([] : List Row) else [("over", zs[i], V.str zs[j])]).length ≤ 1 := by split <;> simp
            refine rd_cat d18 h18 eus (by simp only [List.length_append, List.length_singleton]; omega) (fun E1 H19 d19 e19 => ?_)
            walk_at "st"
            refine ⟨by show 3 ≤ sizeLine; decide, ?_⟩
            intro U2 hU2
            have e20 := Ex.new (o := HO.tup [V.str "undone", V.str zs[i], V.str zs[j]]) hU2
            have h20 : upd H19 U2 (HO.tup [V.str "undone", V.str zs[i], V.str zs[j]]) U2 = some (HO.tup [V.str "undone", V.str zs[i], V.str zs[j]]) := upd_same
            generalize upd H19 U2 (HO.tup [V.str "undone", V.str zs[i], V.str zs[j]]) = H20 at e20 h20 ⊢
            walk_at "st"
            refine ⟨by show 1 ≤ sizeLine; decide, ?_⟩
            intro V2 hV2
            have e21 := Ex.new (o := HO.lst [V.ref U2]) hV2
            have h21 : upd H20 V2 (HO.lst [V.ref U2]) V2 = some (HO.lst [V.ref U2]) := upd_same
            generalize upd H20 V2 (HO.lst [V.ref U2]) = H21 at e21 h21 ⊢
            refine rd_cat (ts := [("undone", zs[i], V.str zs[j])]) ((d19.grow e20).grow e21) h21 (.one ⟨U2, rfl, e21 _ _ h20⟩) (by simp only [List.length_append, List.length_singleton]; omega) (fun E2 H22 d22 e22 => ?_)
            refine ⟨E2, _, rfl, ?_⟩
            rw [take_snoc (List.getElem?_eq_getElem hj), List.flatMap_append]
            simp only [List.flatMap_cons, List.flatMap_nil, List.append_nil]
            unfold rPair at d22 ⊢
            simpa only [List.append_assoc] using d22
          · obtain ⟨D2, v8', rfl, d12⟩ := p
            rw [List.length_map, List.take_length] at d12
            refine ⟨D2, _, _, rfl, ?_⟩
            rw [pairs_succ (List.getElem?_eq_getElem hi), ← List.append_assoc]
            exact d12
        · obtain ⟨D1, v5, v8, rfl, d10⟩ := p
          rw [List.length_map] at d10
          rw [← hR0] at d10
          have d10' : Due H5 D1 (menuRows zs) H10 := d10
          walk_at "st"
          refine ⟨lp, zs, rfl, L5.ex d10.ex, O.nd, l12, fun t o us H11 ht e11 each => ?_⟩
          have d11 := d10'.grow e11
          obtain ⟨vs, w1, w2⟩ := d11.at_
          have luv : us.length = vs.length := each.len.trans w2.len.symm
          have L11 := L5.ex d11.ex
          walk_at "st"
          refine rd_isi (r := true) (a := .type "tuple") (b := .type "tuple") (.ty _) (.fTuple ht) (kit_ty (by decide +kernel)) ?_
          walk_at "st"
          refine rd_lenT (st_frz ht) ?_
          walk_at "st"
          refine rd_lenL (sq_of w1) ?_
          walk_at "st"
          rw [luv, decide_eq_true rfl]
          walk_at "st"
          refine rd_forYl (J := ItzM K t D1) (H1 := H11) (fun R r => ⟨_, rfl, _, rfl, t, D1, us, vs, rfl, st_frz ht, sq_of w1, r⟩) (yl_zipM us vs luv) (fun i σ H' => (∃ v9 v10, σ = [some (.ref z), some (.ref pd), some (.ref q), v3, some (.ref D1), v5, some (.ref t), some (.ref lp), v8, v9, v10, none]) ∧ Ex H11 H') (fun i σ H' _ p => ⟨st_frz (p.2 _ _ ht), sq_of (p.2 _ _ w1)⟩) ⟨⟨none, none, rfl⟩, Ex.refl _⟩ (fun i x σ H12 H13 hi p e yy => ?_) (fun σ H12 p => ?_)
          · obtain ⟨⟨v9, v10, rfl⟩, e12⟩ := p
            obtain ⟨T2, u, v, rfl, hT, hu, hv⟩ := yy
            have e13 := e12.trans e
            obtain ⟨r, hr'⟩ : ∃ r, (menuRows zs)[i]? = some r := ⟨_, List.getElem?_eq_getElem (by rw [← each.len]; exact hi)⟩
            obtain ⟨sp, sdx, rfl, hsp⟩ := (each.at_ i u r hu hr').ex e13
            obtain ⟨dT, rfl, hdT⟩ := (w2.at_ i v r hv hr').ex e13
            have S := menu_ok (List.mem_of_getElem? hr')
            obtain ⟨ds, hds, sh, eq, sc⟩ := row_data (K := K) S O.so
            have L13 := L11.ex e13
            obtain ⟨dl, tw, ow, lp1, _⟩ := id L13
            refine rd_gTup2 rfl (st_of hT) ?_
            walk_at "st"
            refine rd_isiOwn T.cl_Sentence T.isi_Sentence hsp ?_
            walk_at "st"
            refine rd_fldAt hsp T.cl_Sentence T.na_Sentence_kind rfl ?_
            walk_at "st"
            refine rd_fldAt hsp T.cl_Sentence T.na_Sentence_first rfl ?_
            walk_at "st"
            refine rd_fldAt hsp T.cl_Sentence T.na_Sentence_second rfl ?_
            walk_at "st"
            refine ⟨by show 3 ≤ sizeLine; decide, ?_⟩
            intro N1 hN1
            have e14 := Ex.new (o := HO.tup [V.str r.1, V.str r.2.1, r.2.2]) hN1
            have h14 : upd H13 N1 (HO.tup [V.str r.1, V.str r.2.1, r.2.2]) N1 = some (HO.tup [V.str r.1, V.str r.2.1, r.2.2]) := upd_same
            generalize upd H13 N1 (HO.tup [V.str r.1, V.str r.2.1, r.2.2]) = H14 at e14 h14 ⊢
            walk_at "st"
            refine ⟨_, _, .tup (st_of h14) (hds _), .tup (st_of (e14 _ _ hdT)) (hds _), sh, sh, ?_⟩
            rw [eq]
            walk_at "st"
            refine rd_fldAt (e14 _ _ hsp) T.cl_Sentence T.na_Sentence_letters rfl ?_
            walk_at "st"
            refine ⟨_, _, _, _, _, _, rfl, rfl, e14 _ _ lp1, e14 _ _ lp1, _, _, _, _, rfl, L13.ex e14, L13.ex e14, ?_⟩
            rw [decide_eq_true rfl]
            walk_at "st"
            have at3 : ∀ {x y z : V}, atI [x, y, z] 0 = some x ∧ atI [x, y, z] 1 = some y ∧ atI [x, y, z] 2 = some z := fun {x y z} => ⟨atI_nat (j := 0) rfl, atI_nat (j := 1) rfl, atI_nat (j := 2) rfl⟩
            refine ⟨_, _, _, _, rfl, rfl, st_of (e14 _ _ hdT), at3.1, ?_⟩
            walk_at "st"
            refine ⟨_, _, _, _, rfl, rfl, st_of (e14 _ _ hdT), at3.2.1, ?_⟩
            walk_at "st"
            refine ⟨_, _, _, _, rfl, rfl, st_of (e14 _ _ hdT), at3.2.2, ?_⟩
            walk_at "st"
            refine mk_sen (L13.ex e14) O.nd S (fun y dy H15 hy e15 h15 => ?_)
            refine ⟨_, _, _, _, _, _, rfl, rfl, e15 _ _ (e14 _ _ hsp), h15, _, _, _, _, _, _, _, _, _, rfl, e15 _ _ (e14 _ _ hsp), h15, (L13.ex e14).ex e15, sc, ?_⟩
            walk_at "st"
            exact ⟨⟨_, _, rfl⟩, ((e13.trans e14).trans e15)⟩
          · obtain ⟨⟨v9, v10, rfl⟩, e12⟩ := p
            have L12 := L11.ex e12
            obtain ⟨dl, tw, ow, lp1, lp2, lp3, lp4⟩ := id L12
            walk_at "st"
            refine rd_fldAt lp1 T.cl_Letters T.na_Letters_words rfl ?_
            walk_at "st"
            refine ⟨_, _, rfl, .inl ⟨sqz (d11.ex.trans e12), fun t' o' ht' ho' => ?_⟩⟩
            have e13 := Ex.new (o := .frz o' (.tup (zs.map V.str))) ht'
            have h13 : upd H12 t' (.frz o' (.tup (zs.map V.str))) t' = _ := upd_same
            generalize upd H12 t' (.frz o' (.tup (zs.map V.str))) = H13 at e13 h13 ⊢
            refine ⟨_, _, .tup (st_frz (e13 _ _ lp2)) (dp_strs _), .tup (st_frz h13) (dp_strs _), shaped_strs _ lp4, shaped_strs _ lp4, ?_⟩
            rw [PyData.eqv, eqvAll_strs, decide_eq_true rfl]
            exact k _
end
theorem all_mk {l : PySem.W.OpenLaw} {w : World} {K : PySem.W.Frag} {h : Heap} {mg : Str → Option Value} {fa : Addr} (X : K.In h) (G : h.Ns mainGlobals mg) (hfa : mg "law" = some (.ref fa))
    {MOST_LETTERS : Tok}
    {BEGINNINGS : Addr} {od_BEGINNINGS : Option Addr} {sl_BEGINNINGS : Array (Option Value)} {sn_BEGINNINGS : Nat} {t0_BEGINNINGS t1_BEGINNINGS : Tok}
    {SMALL : Tok}
    {SIGNS : Tok}
    {KINDS : Addr} {od_KINDS : Option Addr} {sl_KINDS : Array (Option Value)} {sn_KINDS : Nat} {t0_KINDS t1_KINDS t2_KINDS t3_KINDS t4_KINDS t5_KINDS : Tok}
    {SINGLE : Addr} {od_SINGLE : Option Addr} {sl_SINGLE : Array (Option Value)} {sn_SINGLE : Nat} {t0_SINGLE t1_SINGLE : Tok}
    {Letters : Addr}
    {Sentence : Addr}
    {f_is_word : Addr} {od_is_word an_is_word : Option Addr} {sl_is_word : Array (Option Value)} {oc_is_word kV_is_word dc_is_word pm_is_word cd_is_word ct_is_word : Value}
    {f_is_beginning : Addr} {od_is_beginning an_is_beginning : Option Addr} {sl_is_beginning : Array (Option Value)} {oc_is_beginning kV_is_beginning dc_is_beginning pm_is_beginning cd_is_beginning ct_is_beginning : Value}
    {f_is_letter : Addr} {od_is_letter an_is_letter : Option Addr} {sl_is_letter : Array (Option Value)} {oc_is_letter kV_is_letter dc_is_letter pm_is_letter cd_is_letter ct_is_letter : Value}
    {f_Letters___contains__ : Addr} {od_Letters___contains__ an_Letters___contains__ : Option Addr} {sl_Letters___contains__ : Array (Option Value)} {oc_Letters___contains__ kV_Letters___contains__ dc_Letters___contains__ pm_Letters___contains__ cd_Letters___contains__ ct_Letters___contains__ : Value}
    {f_Letters___init__ : Addr} {od_Letters___init__ an_Letters___init__ : Option Addr} {sl_Letters___init__ : Array (Option Value)} {oc_Letters___init__ kV_Letters___init__ dc_Letters___init__ pm_Letters___init__ cd_Letters___init__ ct_Letters___init__ : Value}
    {f_Letters_rank : Addr} {od_Letters_rank an_Letters_rank : Option Addr} {sl_Letters_rank : Array (Option Value)} {oc_Letters_rank kV_Letters_rank dc_Letters_rank pm_Letters_rank cd_Letters_rank ct_Letters_rank : Value}
    {f_Letters___eq__ : Addr} {od_Letters___eq__ an_Letters___eq__ : Option Addr} {sl_Letters___eq__ : Array (Option Value)} {oc_Letters___eq__ kV_Letters___eq__ dc_Letters___eq__ pm_Letters___eq__ cd_Letters___eq__ ct_Letters___eq__ : Value}
    {f_is_one_of : Addr} {od_is_one_of an_is_one_of : Option Addr} {sl_is_one_of : Array (Option Value)} {oc_is_one_of kV_is_one_of dc_is_one_of pm_is_one_of cd_is_one_of ct_is_one_of : Value}
    {f_Sentence___init__ : Addr} {od_Sentence___init__ an_Sentence___init__ : Option Addr} {sl_Sentence___init__ : Array (Option Value)} {oc_Sentence___init__ kV_Sentence___init__ dc_Sentence___init__ pm_Sentence___init__ cd_Sentence___init__ ct_Sentence___init__ : Value}
    {df_Sentence___init__ : Addr} {dod_Sentence___init__ : Option Addr} {doc_Sentence___init__ : Value} {dn_Sentence___init__ : Nat} {dsl_Sentence___init__ : Array (Option Value)}
    {f_Sentence___eq__ : Addr} {od_Sentence___eq__ an_Sentence___eq__ : Option Addr} {sl_Sentence___eq__ : Array (Option Value)} {oc_Sentence___eq__ kV_Sentence___eq__ dc_Sentence___eq__ pm_Sentence___eq__ cd_Sentence___eq__ ct_Sentence___eq__ : Value}
    {f_menu : Addr} {od_menu an_menu : Option Addr} {sl_menu : Array (Option Value)} {oc_menu kV_menu dc_menu pm_menu cd_menu ct_menu : Value}
    {f__law_pen : Addr} {od__law_pen an__law_pen : Option Addr} {sl__law_pen : Array (Option Value)} {oc__law_pen kV__law_pen dc__law_pen pm__law_pen cd__law_pen ct__law_pen : Value}
    {f__law_draw : Addr} {od__law_draw an__law_draw : Option Addr} {sl__law_draw : Array (Option Value)} {oc__law_draw kV__law_draw dc__law_draw pm__law_draw cd__law_draw ct__law_draw : Value}
    {f__law_pick : Addr} {od__law_pick an__law_pick : Option Addr} {sl__law_pick : Array (Option Value)} {oc__law_pick kV__law_pick dc__law_pick pm__law_pick cd__law_pick ct__law_pick : Value}
    {f__law_shuffled : Addr} {od__law_shuffled an__law_shuffled : Option Addr} {sl__law_shuffled : Array (Option Value)} {oc__law_shuffled kV__law_shuffled dc__law_shuffled pm__law_shuffled cd__law_shuffled ct__law_shuffled : Value}
    {f__law_words : Addr} {od__law_words an__law_words : Option Addr} {sl__law_words : Array (Option Value)} {oc__law_words kV__law_words dc__law_words pm__law_words cd__law_words ct__law_words : Value}
    {f__law_marked : Addr} {od__law_marked an__law_marked : Option Addr} {sl__law_marked : Array (Option Value)} {oc__law_marked kV__law_marked dc__law_marked pm__law_marked cd__law_marked ct__law_marked : Value}
    {f_law : Addr} {od_law an_law : Option Addr} {sl_law : Array (Option Value)} {oc_law kV_law dc_law pm_law cd_law ct_law : Value}
    (z_abs : PySem.W.nsIn K mainGlobals "abs" = some none)
    (z_all : PySem.W.nsIn K mainGlobals "all" = some none)
    (z_enumerate : PySem.W.nsIn K mainGlobals "enumerate" = some none)
    (z_int : PySem.W.nsIn K mainGlobals "int" = some none)
    (z_isinstance : PySem.W.nsIn K mainGlobals "isinstance" = some none)
    (z_len : PySem.W.nsIn K mainGlobals "len" = some none)
    (z_list : PySem.W.nsIn K mainGlobals "list" = some none)
    (z_range : PySem.W.nsIn K mainGlobals "range" = some none)
    (z_str : PySem.W.nsIn K mainGlobals "str" = some none)
    (z_tuple : PySem.W.nsIn K mainGlobals "tuple" = some none)
    (z_zip : PySem.W.nsIn K mainGlobals "zip" = some none)
    (h_MOST_LETTERS : PySem.W.nsIn K mainGlobals "MOST_LETTERS" = some (some (.int 12 MOST_LETTERS)))
    (h_BEGINNINGS : PySem.W.nsIn K mainGlobals "BEGINNINGS" = some (some (.ref BEGINNINGS)))
    (lk_BEGINNINGS : K.lookup BEGINNINGS = some ⟨.type "tuple", od_BEGINNINGS, .seq #[.str "new" t0_BEGINNINGS, .str "found" t1_BEGINNINGS] sn_BEGINNINGS, sl_BEGINNINGS⟩)
    (h_SMALL : PySem.W.nsIn K mainGlobals "SMALL" = some (some (.str "abcdefghijklmnopqrstuvwxyz" SMALL)))
    (h_SIGNS : PySem.W.nsIn K mainGlobals "SIGNS" = some (some (.str "abcdefghijklmnopqrstuvwxyz0123456789" SIGNS)))
    (h_KINDS : PySem.W.nsIn K mainGlobals "KINDS" = some (some (.ref KINDS)))
    (lk_KINDS : K.lookup KINDS = some ⟨.type "tuple", od_KINDS, .seq #[.str "idle" t0_KINDS, .str "kept" t1_KINDS, .str "still" t2_KINDS, .str "over" t3_KINDS, .str "undone" t4_KINDS, .str "alike" t5_KINDS] sn_KINDS, sl_KINDS⟩)
    (h_SINGLE : PySem.W.nsIn K mainGlobals "SINGLE" = some (some (.ref SINGLE)))
    (lk_SINGLE : K.lookup SINGLE = some ⟨.type "tuple", od_SINGLE, .seq #[.str "idle" t0_SINGLE, .str "still" t1_SINGLE] sn_SINGLE, sl_SINGLE⟩)
    (h_Letters : PySem.W.nsIn K mainGlobals "Letters" = some (some (.ref Letters)))
    (pg_Letters : PySem.W.plainGet K Letters Str.empty = true)
    (hd_Letters : PySem.W.hasDictIn K Letters = true)
    (po_Letters : PySem.W.plainOver K Letters = true)
    (sa_Letters : PySem.W.findIn K (.ref Letters) "__setattr__" = some (some (.builtin "object.__setattr__")))
    (na_Letters_words : PySem.W.findIn K (.ref Letters) "words" = some none)
    (ne_Letters : PySem.W.findIn K (.ref Letters) "__ne__" = some (some (.builtin "object.__ne__")))
    (ob_Letters : PySem.W.subIn K (.ref Letters) (.type "object") = some true)
    (ia_Letters : PySem.W.findIn K (.ref Letters) "__class__" = some (some (.builtin "object.__class__")))
    (in_Letters : PySem.W.specialIn K (.builtin "object.__class__") "__get__" = some (some (.builtin "getset_descriptor.__get__")))
    (it_Letters : PySem.W.takesIn K (.builtin "object.__class__") = some true)
    (im_Letters : PySem.W.mroIn K Letters (.type "object") = some true)
    (h_Sentence : PySem.W.nsIn K mainGlobals "Sentence" = some (some (.ref Sentence)))
    (pg_Sentence : PySem.W.plainGet K Sentence Str.empty = true)
    (hd_Sentence : PySem.W.hasDictIn K Sentence = true)
    (po_Sentence : PySem.W.plainOver K Sentence = true)
    (sa_Sentence : PySem.W.findIn K (.ref Sentence) "__setattr__" = some (some (.builtin "object.__setattr__")))
    (na_Sentence_letters : PySem.W.findIn K (.ref Sentence) "letters" = some none)
    (na_Sentence_kind : PySem.W.findIn K (.ref Sentence) "kind" = some none)
    (na_Sentence_first : PySem.W.findIn K (.ref Sentence) "first" = some none)
    (na_Sentence_second : PySem.W.findIn K (.ref Sentence) "second" = some none)
    (ne_Sentence : PySem.W.findIn K (.ref Sentence) "__ne__" = some (some (.builtin "object.__ne__")))
    (ob_Sentence : PySem.W.subIn K (.ref Sentence) (.type "object") = some true)
    (ia_Sentence : PySem.W.findIn K (.ref Sentence) "__class__" = some (some (.builtin "object.__class__")))
    (in_Sentence : PySem.W.specialIn K (.builtin "object.__class__") "__get__" = some (some (.builtin "getset_descriptor.__get__")))
    (it_Sentence : PySem.W.takesIn K (.builtin "object.__class__") = some true)
    (im_Sentence : PySem.W.mroIn K Sentence (.type "object") = some true)
    (a_is_word : PySem.W.nsIn K mainGlobals "is_word" = some (some (.ref f_is_word)))
    (l_is_word : K.lookup f_is_word = some ⟨oc_is_word, od_is_word, .func (PySem.W.fnOf "is_word" "is_word" (defArgs s_is_word) (defBody s_is_word) (defScope s_is_word) .none kV_is_word dc_is_word pm_is_word an_is_word cd_is_word ct_is_word), sl_is_word⟩)
    (c_is_word : PySem.W.codeIn K cd_is_word "is_word" = true)
    (k_is_word : PySem.W.keepIn K (.ref f_is_word) = true)
    (a_is_beginning : PySem.W.nsIn K mainGlobals "is_beginning" = some (some (.ref f_is_beginning)))
    (l_is_beginning : K.lookup f_is_beginning = some ⟨oc_is_beginning, od_is_beginning, .func (PySem.W.fnOf "is_beginning" "is_beginning" (defArgs s_is_beginning) (defBody s_is_beginning) (defScope s_is_beginning) .none kV_is_beginning dc_is_beginning pm_is_beginning an_is_beginning cd_is_beginning ct_is_beginning), sl_is_beginning⟩)
    (c_is_beginning : PySem.W.codeIn K cd_is_beginning "is_beginning" = true)
    (k_is_beginning : PySem.W.keepIn K (.ref f_is_beginning) = true)
    (a_is_letter : PySem.W.nsIn K mainGlobals "is_letter" = some (some (.ref f_is_letter)))
    (l_is_letter : K.lookup f_is_letter = some ⟨oc_is_letter, od_is_letter, .func (PySem.W.fnOf "is_letter" "is_letter" (defArgs s_is_letter) (defBody s_is_letter) (defScope s_is_letter) .none kV_is_letter dc_is_letter pm_is_letter an_is_letter cd_is_letter ct_is_letter), sl_is_letter⟩)
    (c_is_letter : PySem.W.codeIn K cd_is_letter "is_letter" = true)
    (k_is_letter : PySem.W.keepIn K (.ref f_is_letter) = true)
    (a_Letters___contains__ : PySem.W.findIn K (.ref Letters) "__contains__" = some (some (.ref f_Letters___contains__)))
    (i_Letters___contains__ : PySem.W.isFn K (.ref f_Letters___contains__) = true)
    (l_Letters___contains__ : K.lookup f_Letters___contains__ = some ⟨oc_Letters___contains__, od_Letters___contains__, .func (PySem.W.fnOf "__contains__" "Letters.__contains__" (defArgs s_Letters___contains__) (defBody s_Letters___contains__) (defScope s_Letters___contains__) .none kV_Letters___contains__ dc_Letters___contains__ pm_Letters___contains__ an_Letters___contains__ cd_Letters___contains__ ct_Letters___contains__), sl_Letters___contains__⟩)
    (c_Letters___contains__ : PySem.W.codeIn K cd_Letters___contains__ "Letters.__contains__" = true)
    (k_Letters___contains__ : PySem.W.keepIn K (.ref f_Letters___contains__) = true)
    (a_Letters___init__ : PySem.W.findIn K (.ref Letters) "__init__" = some (some (.ref f_Letters___init__)))
    (i_Letters___init__ : PySem.W.isFn K (.ref f_Letters___init__) = true)
    (l_Letters___init__ : K.lookup f_Letters___init__ = some ⟨oc_Letters___init__, od_Letters___init__, .func (PySem.W.fnOf "__init__" "Letters.__init__" (defArgs s_Letters___init__) (defBody s_Letters___init__) (defScope s_Letters___init__) .none kV_Letters___init__ dc_Letters___init__ pm_Letters___init__ an_Letters___init__ cd_Letters___init__ ct_Letters___init__), sl_Letters___init__⟩)
    (c_Letters___init__ : PySem.W.codeIn K cd_Letters___init__ "Letters.__init__" = true)
    (k_Letters___init__ : PySem.W.keepIn K (.ref f_Letters___init__) = true)
    (a_Letters_rank : PySem.W.findIn K (.ref Letters) "rank" = some (some (.ref f_Letters_rank)))
    (i_Letters_rank : PySem.W.isFn K (.ref f_Letters_rank) = true)
    (l_Letters_rank : K.lookup f_Letters_rank = some ⟨oc_Letters_rank, od_Letters_rank, .func (PySem.W.fnOf "rank" "Letters.rank" (defArgs s_Letters_rank) (defBody s_Letters_rank) (defScope s_Letters_rank) .none kV_Letters_rank dc_Letters_rank pm_Letters_rank an_Letters_rank cd_Letters_rank ct_Letters_rank), sl_Letters_rank⟩)
    (c_Letters_rank : PySem.W.codeIn K cd_Letters_rank "Letters.rank" = true)
    (k_Letters_rank : PySem.W.keepIn K (.ref f_Letters_rank) = true)
    (a_Letters___eq__ : PySem.W.findIn K (.ref Letters) "__eq__" = some (some (.ref f_Letters___eq__)))
    (i_Letters___eq__ : PySem.W.isFn K (.ref f_Letters___eq__) = true)
    (l_Letters___eq__ : K.lookup f_Letters___eq__ = some ⟨oc_Letters___eq__, od_Letters___eq__, .func (PySem.W.fnOf "__eq__" "Letters.__eq__" (defArgs s_Letters___eq__) (defBody s_Letters___eq__) (defScope s_Letters___eq__) .none kV_Letters___eq__ dc_Letters___eq__ pm_Letters___eq__ an_Letters___eq__ cd_Letters___eq__ ct_Letters___eq__), sl_Letters___eq__⟩)
    (c_Letters___eq__ : PySem.W.codeIn K cd_Letters___eq__ "Letters.__eq__" = true)
    (k_Letters___eq__ : PySem.W.keepIn K (.ref f_Letters___eq__) = true)
    (a_is_one_of : PySem.W.nsIn K mainGlobals "is_one_of" = some (some (.ref f_is_one_of)))
    (l_is_one_of : K.lookup f_is_one_of = some ⟨oc_is_one_of, od_is_one_of, .func (PySem.W.fnOf "is_one_of" "is_one_of" (defArgs s_is_one_of) (defBody s_is_one_of) (defScope s_is_one_of) .none kV_is_one_of dc_is_one_of pm_is_one_of an_is_one_of cd_is_one_of ct_is_one_of), sl_is_one_of⟩)
    (c_is_one_of : PySem.W.codeIn K cd_is_one_of "is_one_of" = true)
    (k_is_one_of : PySem.W.keepIn K (.ref f_is_one_of) = true)
    (a_Sentence___init__ : PySem.W.findIn K (.ref Sentence) "__init__" = some (some (.ref f_Sentence___init__)))
    (i_Sentence___init__ : PySem.W.isFn K (.ref f_Sentence___init__) = true)
    (l_Sentence___init__ : K.lookup f_Sentence___init__ = some ⟨oc_Sentence___init__, od_Sentence___init__, .func (PySem.W.fnOf "__init__" "Sentence.__init__" (defArgs s_Sentence___init__) (defBody s_Sentence___init__) (defScope s_Sentence___init__) (.ref df_Sentence___init__) kV_Sentence___init__ dc_Sentence___init__ pm_Sentence___init__ an_Sentence___init__ cd_Sentence___init__ ct_Sentence___init__), sl_Sentence___init__⟩)
    (c_Sentence___init__ : PySem.W.codeIn K cd_Sentence___init__ "Sentence.__init__" = true)
    (k_Sentence___init__ : PySem.W.keepIn K (.ref f_Sentence___init__) = true)
    (d_Sentence___init__ : K.lookup df_Sentence___init__ = some ⟨doc_Sentence___init__, dod_Sentence___init__, .seq [Value.none].toArray dn_Sentence___init__, dsl_Sentence___init__⟩)
    (a_Sentence___eq__ : PySem.W.findIn K (.ref Sentence) "__eq__" = some (some (.ref f_Sentence___eq__)))
    (i_Sentence___eq__ : PySem.W.isFn K (.ref f_Sentence___eq__) = true)
    (l_Sentence___eq__ : K.lookup f_Sentence___eq__ = some ⟨oc_Sentence___eq__, od_Sentence___eq__, .func (PySem.W.fnOf "__eq__" "Sentence.__eq__" (defArgs s_Sentence___eq__) (defBody s_Sentence___eq__) (defScope s_Sentence___eq__) .none kV_Sentence___eq__ dc_Sentence___eq__ pm_Sentence___eq__ an_Sentence___eq__ cd_Sentence___eq__ ct_Sentence___eq__), sl_Sentence___eq__⟩)
    (c_Sentence___eq__ : PySem.W.codeIn K cd_Sentence___eq__ "Sentence.__eq__" = true)
    (k_Sentence___eq__ : PySem.W.keepIn K (.ref f_Sentence___eq__) = true)
    (a_menu : PySem.W.nsIn K mainGlobals "menu" = some (some (.ref f_menu)))
    (l_menu : K.lookup f_menu = some ⟨oc_menu, od_menu, .func (PySem.W.fnOf "menu" "menu" (defArgs s_menu) (defBody s_menu) (defScope s_menu) .none kV_menu dc_menu pm_menu an_menu cd_menu ct_menu), sl_menu⟩)
    (c_menu : PySem.W.codeIn K cd_menu "menu" = true)
    (k_menu : PySem.W.keepIn K (.ref f_menu) = true)
    (a__law_pen : PySem.W.nsIn K mainGlobals "_law_pen" = some (some (.ref f__law_pen)))
    (l__law_pen : K.lookup f__law_pen = some ⟨oc__law_pen, od__law_pen, .func (PySem.W.fnOf "_law_pen" "_law_pen" (defArgs s__law_pen) (defBody s__law_pen) (defScope s__law_pen) .none kV__law_pen dc__law_pen pm__law_pen an__law_pen cd__law_pen ct__law_pen), sl__law_pen⟩)
    (c__law_pen : PySem.W.codeIn K cd__law_pen "_law_pen" = true)
    (k__law_pen : PySem.W.keepIn K (.ref f__law_pen) = true)
    (a__law_draw : PySem.W.nsIn K mainGlobals "_law_draw" = some (some (.ref f__law_draw)))
    (l__law_draw : K.lookup f__law_draw = some ⟨oc__law_draw, od__law_draw, .func (PySem.W.fnOf "_law_draw" "_law_draw" (defArgs s__law_draw) (defBody s__law_draw) (defScope s__law_draw) .none kV__law_draw dc__law_draw pm__law_draw an__law_draw cd__law_draw ct__law_draw), sl__law_draw⟩)
    (c__law_draw : PySem.W.codeIn K cd__law_draw "_law_draw" = true)
    (k__law_draw : PySem.W.keepIn K (.ref f__law_draw) = true)
    (a__law_pick : PySem.W.nsIn K mainGlobals "_law_pick" = some (some (.ref f__law_pick)))
    (l__law_pick : K.lookup f__law_pick = some ⟨oc__law_pick, od__law_pick, .func (PySem.W.fnOf "_law_pick" "_law_pick" (defArgs s__law_pick) (defBody s__law_pick) (defScope s__law_pick) .none kV__law_pick dc__law_pick pm__law_pick an__law_pick cd__law_pick ct__law_pick), sl__law_pick⟩)
    (c__law_pick : PySem.W.codeIn K cd__law_pick "_law_pick" = true)
    (k__law_pick : PySem.W.keepIn K (.ref f__law_pick) = true)
    (a__law_shuffled : PySem.W.nsIn K mainGlobals "_law_shuffled" = some (some (.ref f__law_shuffled)))
    (l__law_shuffled : K.lookup f__law_shuffled = some ⟨oc__law_shuffled, od__law_shuffled, .func (PySem.W.fnOf "_law_shuffled" "_law_shuffled" (defArgs s__law_shuffled) (defBody s__law_shuffled) (defScope s__law_shuffled) .none kV__law_shuffled dc__law_shuffled pm__law_shuffled an__law_shuffled cd__law_shuffled ct__law_shuffled), sl__law_shuffled⟩)
    (c__law_shuffled : PySem.W.codeIn K cd__law_shuffled "_law_shuffled" = true)
    (k__law_shuffled : PySem.W.keepIn K (.ref f__law_shuffled) = true)
    (a__law_words : PySem.W.nsIn K mainGlobals "_law_words" = some (some (.ref f__law_words)))
    (l__law_words : K.lookup f__law_words = some ⟨oc__law_words, od__law_words, .func (PySem.W.fnOf "_law_words" "_law_words" (defArgs s__law_words) (defBody s__law_words) (defScope s__law_words) .none kV__law_words dc__law_words pm__law_words an__law_words cd__law_words ct__law_words), sl__law_words⟩)
    (c__law_words : PySem.W.codeIn K cd__law_words "_law_words" = true)
    (k__law_words : PySem.W.keepIn K (.ref f__law_words) = true)
    (a__law_marked : PySem.W.nsIn K mainGlobals "_law_marked" = some (some (.ref f__law_marked)))
    (l__law_marked : K.lookup f__law_marked = some ⟨oc__law_marked, od__law_marked, .func (PySem.W.fnOf "_law_marked" "_law_marked" (defArgs s__law_marked) (defBody s__law_marked) (defScope s__law_marked) .none kV__law_marked dc__law_marked pm__law_marked an__law_marked cd__law_marked ct__law_marked), sl__law_marked⟩)
    (c__law_marked : PySem.W.codeIn K cd__law_marked "_law_marked" = true)
    (k__law_marked : PySem.W.keepIn K (.ref f__law_marked) = true)
    (a_law : PySem.W.nsIn K mainGlobals "law" = some (some (.ref f_law)))
    (l_law : K.lookup f_law = some ⟨oc_law, od_law, .func (PySem.W.fnOf "law" "law" (defArgs s_law) (defBody s_law) (defScope s_law) .none kV_law dc_law pm_law an_law cd_law ct_law), sl_law⟩)
    (c_law : PySem.W.codeIn K cd_law "law" = true)
    (k_law : PySem.W.keepIn K (.ref f_law) = true)
    (mk_Letters : PySem.W.makesIn K Letters = true)
    (kc_Letters : PySem.W.keepIn K (.ref Letters) = true)
    (mk_Sentence : PySem.W.makesIn K Sentence = true)
    (kc_Sentence : PySem.W.keepIn K (.ref Sentence) = true)
    : ∃ fd : FuncData, (∀ (s : Shared) (v : Value), BindsTo s fd ⟨[v], []⟩ [("_law_script", v)]) ∧ ∀ base : Heap, K.In base → base.Ns mainGlobals mg → FnOk l.prog w K mg base CX0 7 fa fd ["_law_script"] (spLaw K) := by
  have e := hfa.symm.trans (PySem.W.mg_of X G a_law)
  cases e
  have T : Txt K mg ⟨Letters, Sentence, MOST_LETTERS, BEGINNINGS, SMALL, SIGNS, KINDS, SINGLE, f_is_word, f_is_beginning, f_is_letter, f_Letters___contains__, f_Letters___init__, f_Letters_rank, f_Letters___eq__, f_is_one_of, f_Sentence___init__, f_Sentence___eq__, f_menu, f__law_pen, f__law_draw, f__law_pick, f__law_shuffled, f__law_words, f__law_marked, fa⟩ := {
    n_abs := PySem.W.mg_none_of X G z_abs,
    n_all := PySem.W.mg_none_of X G z_all,
    n_enumerate := PySem.W.mg_none_of X G z_enumerate,
    n_int := PySem.W.mg_none_of X G z_int,
    n_isinstance := PySem.W.mg_none_of X G z_isinstance,
    n_len := PySem.W.mg_none_of X G z_len,
    n_list := PySem.W.mg_none_of X G z_list,
    n_range := PySem.W.mg_none_of X G z_range,
    n_str := PySem.W.mg_none_of X G z_str,
    n_tuple := PySem.W.mg_none_of X G z_tuple,
    n_zip := PySem.W.mg_none_of X G z_zip,
    g_MOST_LETTERS := PySem.W.mg_of X G h_MOST_LETTERS,
    g_BEGINNINGS := PySem.W.mg_of X G h_BEGINNINGS,
    k_BEGINNINGS := fun H => .inr ⟨_, _, _, lk_BEGINNINGS, rfl, rfl, by show 2 ≤ sizeLine; decide, (.cons ⟨_, rfl⟩ (.cons ⟨_, rfl⟩ .nil))⟩,
    g_SMALL := PySem.W.mg_of X G h_SMALL,
    g_SIGNS := PySem.W.mg_of X G h_SIGNS,
    g_KINDS := PySem.W.mg_of X G h_KINDS,
    k_KINDS := fun H => .inr ⟨_, _, _, lk_KINDS, rfl, rfl, by show 6 ≤ sizeLine; decide, (.cons ⟨_, rfl⟩ (.cons ⟨_, rfl⟩ (.cons ⟨_, rfl⟩ (.cons ⟨_, rfl⟩ (.cons ⟨_, rfl⟩ (.cons ⟨_, rfl⟩ .nil))))))⟩,
    g_SINGLE := PySem.W.mg_of X G h_SINGLE,
    k_SINGLE := fun H => .inr ⟨_, _, _, lk_SINGLE, rfl, rfl, by show 2 ≤ sizeLine; decide, (.cons ⟨_, rfl⟩ (.cons ⟨_, rfl⟩ .nil))⟩,
    g_Letters := PySem.W.mg_of X G h_Letters,
    cl_Letters := ⟨pg_Letters, hd_Letters, po_Letters, sa_Letters⟩,
    na_Letters_words := na_Letters_words,
    ne_Letters := ⟨ne_Letters, ob_Letters⟩,
    isi_Letters := ⟨ia_Letters, in_Letters, it_Letters, im_Letters, if_pos (beq_self_eq_true _)⟩,
    g_Sentence := PySem.W.mg_of X G h_Sentence,
    cl_Sentence := ⟨pg_Sentence, hd_Sentence, po_Sentence, sa_Sentence⟩,
    na_Sentence_letters := na_Sentence_letters,
    na_Sentence_kind := na_Sentence_kind,
    na_Sentence_first := na_Sentence_first,
    na_Sentence_second := na_Sentence_second,
    ne_Sentence := ⟨ne_Sentence, ob_Sentence⟩,
    isi_Sentence := ⟨ia_Sentence, in_Sentence, it_Sentence, im_Sentence, if_pos (beq_self_eq_true _)⟩,
    F_is_word := ⟨_, fun_mk (st := s_is_word) l_is_word c_is_word k_is_word, (fun_mk (st := s_is_word) l_is_word c_is_word k_is_word).binds (ps := ["value"]) fun _ _ _ _ _ _ us hl => match us, hl with | [_], _ => rfl⟩,
    g_is_word := PySem.W.mg_of X G a_is_word,
    F_is_beginning := ⟨_, fun_mk (st := s_is_beginning) l_is_beginning c_is_beginning k_is_beginning, (fun_mk (st := s_is_beginning) l_is_beginning c_is_beginning k_is_beginning).binds (ps := ["value"]) fun _ _ _ _ _ _ us hl => match us, hl with | [_], _ => rfl⟩,
    g_is_beginning := PySem.W.mg_of X G a_is_beginning,
    F_is_letter := ⟨_, fun_mk (st := s_is_letter) l_is_letter c_is_letter k_is_letter, (fun_mk (st := s_is_letter) l_is_letter c_is_letter k_is_letter).binds (ps := ["value"]) fun _ _ _ _ _ _ us hl => match us, hl with | [_], _ => rfl⟩,
    g_is_letter := PySem.W.mg_of X G a_is_letter,
    F_Letters___contains__ := ⟨_, fun_mk (st := s_Letters___contains__) l_Letters___contains__ c_Letters___contains__ k_Letters___contains__, (fun_mk (st := s_Letters___contains__) l_Letters___contains__ c_Letters___contains__ k_Letters___contains__).binds (ps := ["self", "x"]) fun _ _ _ _ _ _ us hl => match us, hl with | [_, _], _ => rfl⟩,
    m_Letters___contains__ := ⟨a_Letters___contains__, i_Letters___contains__, k_Letters___contains__⟩,
    F_Letters___init__ := ⟨_, fun_mk (st := s_Letters___init__) l_Letters___init__ c_Letters___init__ k_Letters___init__, (fun_mk (st := s_Letters___init__) l_Letters___init__ c_Letters___init__ k_Letters___init__).binds (ps := ["self", "words"]) fun _ _ _ _ _ _ us hl => match us, hl with | [_, _], _ => rfl⟩,
    F_Letters_rank := ⟨_, fun_mk (st := s_Letters_rank) l_Letters_rank c_Letters_rank k_Letters_rank, (fun_mk (st := s_Letters_rank) l_Letters_rank c_Letters_rank k_Letters_rank).binds (ps := ["self", "x"]) fun _ _ _ _ _ _ us hl => match us, hl with | [_, _], _ => rfl⟩,
    m_Letters_rank := ⟨a_Letters_rank, i_Letters_rank, k_Letters_rank⟩,
    F_Letters___eq__ := ⟨_, fun_mk (st := s_Letters___eq__) l_Letters___eq__ c_Letters___eq__ k_Letters___eq__, (fun_mk (st := s_Letters___eq__) l_Letters___eq__ c_Letters___eq__ k_Letters___eq__).binds (ps := ["self", "other"]) fun _ _ _ _ _ _ us hl => match us, hl with | [_, _], _ => rfl⟩,
    m_Letters___eq__ := ⟨a_Letters___eq__, i_Letters___eq__, k_Letters___eq__⟩,
    F_is_one_of := ⟨_, fun_mk (st := s_is_one_of) l_is_one_of c_is_one_of k_is_one_of, (fun_mk (st := s_is_one_of) l_is_one_of c_is_one_of k_is_one_of).binds (ps := ["value", "words"]) fun _ _ _ _ _ _ us hl => match us, hl with | [_, _], _ => rfl⟩,
    g_is_one_of := PySem.W.mg_of X G a_is_one_of,
    F_Sentence___init__ := ⟨_, ⟨_, _, _, _, _, _, _, _, _, _, rfl, l_Sentence___init__, c_Sentence___init__, .inr ⟨(by intro z; cases z), _, _, _, _, rfl, d_Sentence___init__, rfl, (.cons rfl .nil)⟩, .inl rfl⟩, k_Sentence___init__⟩,
    F_Sentence___eq__ := ⟨_, fun_mk (st := s_Sentence___eq__) l_Sentence___eq__ c_Sentence___eq__ k_Sentence___eq__, (fun_mk (st := s_Sentence___eq__) l_Sentence___eq__ c_Sentence___eq__ k_Sentence___eq__).binds (ps := ["self", "other"]) fun _ _ _ _ _ _ us hl => match us, hl with | [_, _], _ => rfl⟩,
    m_Sentence___eq__ := ⟨a_Sentence___eq__, i_Sentence___eq__, k_Sentence___eq__⟩,
    F_menu := ⟨_, fun_mk (st := s_menu) l_menu c_menu k_menu, (fun_mk (st := s_menu) l_menu c_menu k_menu).binds (ps := ["letters"]) fun _ _ _ _ _ _ us hl => match us, hl with | [_], _ => rfl⟩,
    g_menu := PySem.W.mg_of X G a_menu,
    F__law_pen := ⟨_, fun_mk (st := s__law_pen) l__law_pen c__law_pen k__law_pen, (fun_mk (st := s__law_pen) l__law_pen c__law_pen k__law_pen).binds (ps := ["_law_script"]) fun _ _ _ _ _ _ us hl => match us, hl with | [_], _ => rfl⟩,
    g__law_pen := PySem.W.mg_of X G a__law_pen,
    F__law_draw := ⟨_, fun_mk (st := s__law_draw) l__law_draw c__law_draw k__law_draw, (fun_mk (st := s__law_draw) l__law_draw c__law_draw k__law_draw).binds (ps := ["_law_pen_here", "_law_many"]) fun _ _ _ _ _ _ us hl => match us, hl with | [_, _], _ => rfl⟩,
    g__law_draw := PySem.W.mg_of X G a__law_draw,
    F__law_pick := ⟨_, fun_mk (st := s__law_pick) l__law_pick c__law_pick k__law_pick, (fun_mk (st := s__law_pick) l__law_pick c__law_pick k__law_pick).binds (ps := ["_law_pen_here", "_law_items"]) fun _ _ _ _ _ _ us hl => match us, hl with | [_, _], _ => rfl⟩,
    g__law_pick := PySem.W.mg_of X G a__law_pick,
    F__law_shuffled := ⟨_, fun_mk (st := s__law_shuffled) l__law_shuffled c__law_shuffled k__law_shuffled, (fun_mk (st := s__law_shuffled) l__law_shuffled c__law_shuffled k__law_shuffled).binds (ps := ["_law_pen_here", "_law_items"]) fun _ _ _ _ _ _ us hl => match us, hl with | [_, _], _ => rfl⟩,
    g__law_shuffled := PySem.W.mg_of X G a__law_shuffled,
    F__law_words := ⟨_, fun_mk (st := s__law_words) l__law_words c__law_words k__law_words, (fun_mk (st := s__law_words) l__law_words c__law_words k__law_words).binds (ps := ["_law_pen_here", "_law_many"]) fun _ _ _ _ _ _ us hl => match us, hl with | [_, _], _ => rfl⟩,
    g__law_words := PySem.W.mg_of X G a__law_words,
    F__law_marked := ⟨_, fun_mk (st := s__law_marked) l__law_marked c__law_marked k__law_marked, (fun_mk (st := s__law_marked) l__law_marked c__law_marked k__law_marked).binds (ps := ["_law_pen_here", "_law_words_here"]) fun _ _ _ _ _ _ us hl => match us, hl with | [_, _], _ => rfl⟩,
    g__law_marked := PySem.W.mg_of X G a__law_marked,
    F_law := ⟨_, fun_mk (st := s_law) l_law c_law k_law, (fun_mk (st := s_law) l_law c_law k_law).binds (ps := ["_law_script"]) fun _ _ _ _ _ _ us hl => match us, hl with | [_], _ => rfl⟩,
    g_law := PySem.W.mg_of X G a_law,
    mk_Letters := ⟨mk_Letters, a_Letters___init__, i_Letters___init__, kc_Letters⟩,
    mk_Sentence := ⟨mk_Sentence, a_Sentence___init__, i_Sentence___init__, kc_Sentence⟩ }
  refine ⟨PySem.W.fnOf "law" "law" (defArgs s_law) (defBody s_law) (defScope s_law) .none kV_law dc_law pm_law an_law cd_law ct_law, fun s v => .of_eq rfl, fun base _ _ => ?_⟩
  exact ok_law T (fun_mk (st := s_law) l_law c_law k_law)
theorem walk {l : PySem.W.OpenLaw} {q : Program} {loose : List Str} {XP : (Str → Option Value) → Heap → Prop} {YP : World → Heap → Prop} {d : DefRec} {K : Params → PySem.W.Frag} (hn : l.most = some 63) (hdf : d.params.defaults = [])
    (hY : ∀ (w : World) (h : Heap), YP w h → (K w.params).In h)
    (F : ∀ (w : World) (mg : Str → Option Value) (fa : Addr) (h : Heap), (K w.params).In h → h.Ns mainGlobals mg → mg d.name = some (.ref fa) →
      ∃ fd : FuncData, (∀ (s : Shared) (u : Value), BindsTo s fd ⟨[u], []⟩ [("_law_script", u)]) ∧ ∀ base : Heap, (K w.params).In base → base.Ns mainGlobals mg → FnOk l.prog w (K w.params) mg base CX0 7 fa fd ["_law_script"] (spLaw (K w.params))) :
    PySem.W.WalkO q loose XP YP l.row.toRowW d [] (fun f vs => PySem.call f vs) :=
  L2.walk_ofK (n := 63) (k := 7) (x := "_law_script") (CX := CX0) (sp := spLaw) hn (by decide) hdf ⟨rfl, by decide, by decide⟩ hY F (fun K H a ns hl _ hS => ⟨a, ns, rfl, hS, fun _ => rfl⟩) fun _ _ _ _ z => z
end K80
open PySem PySem.W PyProof.Rows
set_option maxRecDepth 100000 in
set_option maxHeartbeats 0 in
theorem PySem.Challenge.cw_asksmore_k80_the_menu_holds : PySem.Challenge.rw_asksmore_k80_the_menu.Holds := by
  w_on; o_law; k_head; (case hw => w_witness2)
  k_fill
  refine K80.walk (l := PySem.Challenge.rw_asksmore_k80_the_menu) rfl rfl (fun w h Y => PySem.W.kIn_of Y) ?F
  case F =>
    intro w mg fa h KX G hmg
    refine' K80.all_mk KX G hmg ?z_abs ?z_all ?z_enumerate ?z_int ?z_isinstance ?z_len ?z_list ?z_range ?z_str ?z_tuple ?z_zip ?h_MOST_LETTERS ?h_BEGINNINGS ?lk_BEGINNINGS ?h_SMALL ?h_SIGNS ?h_KINDS ?lk_KINDS ?h_SINGLE ?lk_SINGLE ?h_Letters ?pg_Letters ?hd_Letters ?po_Letters ?sa_Letters ?na_Letters_words ?ne_Letters ?ob_Letters ?ia_Letters ?in_Letters ?it_Letters ?im_Letters ?h_Sentence ?pg_Sentence ?hd_Sentence ?po_Sentence ?sa_Sentence ?na_Sentence_letters ?na_Sentence_kind ?na_Sentence_first ?na_Sentence_second ?ne_Sentence ?ob_Sentence ?ia_Sentence ?in_Sentence ?it_Sentence ?im_Sentence ?a_is_word ?l_is_word ?c_is_word ?k_is_word ?a_is_beginning ?l_is_beginning ?c_is_beginning ?k_is_beginning ?a_is_letter ?l_is_letter ?c_is_letter ?k_is_letter ?a_Letters___contains__ ?i_Letters___contains__ ?l_Letters___contains__ ?c_Letters___contains__ ?k_Letters___contains__ ?a_Letters___init__ ?i_Letters___init__ ?l_Letters___init__ ?c_Letters___init__ ?k_Letters___init__ ?a_Letters_rank ?i_Letters_rank ?l_Letters_rank ?c_Letters_rank ?k_Letters_rank ?a_Letters___eq__ ?i_Letters___eq__ ?l_Letters___eq__ ?c_Letters___eq__ ?k_Letters___eq__ ?a_is_one_of ?l_is_one_of ?c_is_one_of ?k_is_one_of ?a_Sentence___init__ ?i_Sentence___init__ ?l_Sentence___init__ ?c_Sentence___init__ ?k_Sentence___init__ ?d_Sentence___init__ ?a_Sentence___eq__ ?i_Sentence___eq__ ?l_Sentence___eq__ ?c_Sentence___eq__ ?k_Sentence___eq__ ?a_menu ?l_menu ?c_menu ?k_menu ?a__law_pen ?l__law_pen ?c__law_pen ?k__law_pen ?a__law_draw ?l__law_draw ?c__law_draw ?k__law_draw ?a__law_pick ?l__law_pick ?c__law_pick ?k__law_pick ?a__law_shuffled ?l__law_shuffled ?c__law_shuffled ?k__law_shuffled ?a__law_words ?l__law_words ?c__law_words ?k__law_words ?a__law_marked ?l__law_marked ?c__law_marked ?k__law_marked ?a_law ?l_law ?c_law ?k_law ?mk_Letters ?kc_Letters ?mk_Sentence ?kc_Sentence
    (case h_MOST_LETTERS => k_is)
    (case h_BEGINNINGS => k_is)
    (case h_SMALL => k_is)
    (case h_SIGNS => k_is)
    (case h_KINDS => k_is)
    (case h_SINGLE => k_is)
    (case h_Letters => k_is)
    (case h_Sentence => k_is)
    (case a_is_word => k_is)
    (case a_is_beginning => k_is)
    (case a_is_letter => k_is)
    (case a_Letters___contains__ => k_is)
    (case a_Letters___init__ => k_is)
    (case a_Letters_rank => k_is)
    (case a_Letters___eq__ => k_is)
    (case a_is_one_of => k_is)
    (case a_Sentence___init__ => k_is)
    (case a_Sentence___eq__ => k_is)
    (case a_menu => k_is)
    (case a__law_pen => k_is)
    (case a__law_draw => k_is)
    (case a__law_pick => k_is)
    (case a__law_shuffled => k_is)
    (case a__law_words => k_is)
    (case a__law_marked => k_is)
    (case a_law => k_is)
    (case l_is_word => k_is)
    (case l_is_beginning => k_is)
    (case l_is_letter => k_is)
    (case l_Letters___contains__ => k_is)
    (case l_Letters___init__ => k_is)
    (case l_Letters_rank => k_is)
    (case l_Letters___eq__ => k_is)
    (case l_is_one_of => k_is)
    (case l_Sentence___init__ => k_is)
    (case l_Sentence___eq__ => k_is)
    (case l_menu => k_is)
    (case l__law_pen => k_is)
    (case l__law_draw => k_is)
    (case l__law_pick => k_is)
    (case l__law_shuffled => k_is)
    (case l__law_words => k_is)
    (case l__law_marked => k_is)
    (case l_law => k_is)
    (case z_abs => k_is)
    (case z_all => k_is)
    (case z_enumerate => k_is)
    (case z_int => k_is)
    (case z_isinstance => k_is)
    (case z_len => k_is)
    (case z_list => k_is)
    (case z_range => k_is)
    (case z_str => k_is)
    (case z_tuple => k_is)
    (case z_zip => k_is)
    (case lk_BEGINNINGS => k_is)
    (case lk_KINDS => k_is)
    (case lk_SINGLE => k_is)
    (case pg_Letters => k_is)
    (case hd_Letters => k_is)
    (case po_Letters => k_is)
    (case sa_Letters => k_is)
    (case na_Letters_words => k_is)
    (case ne_Letters => k_is)
    (case ob_Letters => k_is)
    (case ia_Letters => k_is)
    (case in_Letters => k_is)
    (case it_Letters => k_is)
    (case im_Letters => k_is)
    (case pg_Sentence => k_is)
    (case hd_Sentence => k_is)
    (case po_Sentence => k_is)
    (case sa_Sentence => k_is)
    (case na_Sentence_letters => k_is)
    (case na_Sentence_kind => k_is)
    (case na_Sentence_first => k_is)
    (case na_Sentence_second => k_is)
    (case ne_Sentence => k_is)
    (case ob_Sentence => k_is)
    (case ia_Sentence => k_is)
    (case in_Sentence => k_is)
    (case it_Sentence => k_is)
    (case im_Sentence => k_is)
    (case c_is_word => k_is)
    (case k_is_word => k_is)
    (case c_is_beginning => k_is)
    (case k_is_beginning => k_is)
    (case c_is_letter => k_is)
    (case k_is_letter => k_is)
    (case i_Letters___contains__ => k_is)
    (case c_Letters___contains__ => k_is)
    (case k_Letters___contains__ => k_is)
    (case i_Letters___init__ => k_is)
    (case c_Letters___init__ => k_is)
    (case k_Letters___init__ => k_is)
    (case i_Letters_rank => k_is)
    (case c_Letters_rank => k_is)
    (case k_Letters_rank => k_is)
    (case i_Letters___eq__ => k_is)
    (case c_Letters___eq__ => k_is)
    (case k_Letters___eq__ => k_is)
    (case c_is_one_of => k_is)
    (case k_is_one_of => k_is)
    (case i_Sentence___init__ => k_is)
    (case c_Sentence___init__ => k_is)
    (case k_Sentence___init__ => k_is)
    (case d_Sentence___init__ => k_is)
    (case i_Sentence___eq__ => k_is)
    (case c_Sentence___eq__ => k_is)
    (case k_Sentence___eq__ => k_is)
    (case c_menu => k_is)
    (case k_menu => k_is)
    (case c__law_pen => k_is)
    (case k__law_pen => k_is)
    (case c__law_draw => k_is)
    (case k__law_draw => k_is)
    (case c__law_pick => k_is)
    (case k__law_pick => k_is)
    (case c__law_shuffled => k_is)
    (case k__law_shuffled => k_is)
    (case c__law_words => k_is)
    (case k__law_words => k_is)
    (case c__law_marked => k_is)
    (case k__law_marked => k_is)
    (case c_law => k_is)
    (case k_law => k_is)
    (case mk_Letters => k_is)
    (case kc_Letters => k_is)
    (case mk_Sentence => k_is)
    (case kc_Sentence => k_is)
#print axioms PySem.Challenge.cw_asksmore_k80_the_menu_holds
