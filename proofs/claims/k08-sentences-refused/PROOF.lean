import PyProof.Rows.All
import Wide.All
import OpenK.AllK
import Wide.FinOn
import PyProof.InstNe
import HandS.ForMost
import HandS.Strs
import HandS.Style
import HandS.TupAny
import HandS.Wide
import HandS.Defaults
import HandS.IsInst
import HandS.More
import HandS.Codes
import HandS.OwnEq
import HandS.Evl
import KE.GoesEnum
import KE.KExcSuper
import HandS.ExcInit
import HandS.Nested
import HandS.TryMany
import HandS.FStr
import HandS.ExcField
import HandS.ExcOwn
import HandS.ExcIs
import HandS.WordsExc
import KE.KExcIs
import PySem.Challenge.RW_asksmore_k08_sentences_refused
set_option Elab.async false
set_option linter.all false
set_option maxRecDepth 100000
set_option maxHeartbeats 4000000
namespace Aq
open PySem L2

/-! ### defs, classes and methods in one word each -/
section
variable (P : Program) (w : World) (K : PySem.W.Frag) (mg : Str → Option Value) (base : Heap)
structure Cal (k : Nat) (x : Str) (ps : List Str) (sp : Sp) : Prop where
  ex : ∃ (f : Addr) (fd : FuncData), FnOk P w K mg base CX0 k f fd ps sp ∧ mg x = some (.ref f) ∧ PySem.W.keepIn K (.ref f) = true ∧ Binds K fd ps []
structure Ctr (k : Nat) (x : Str) (C : Addr) (ps : List Str) (dvs : List V) (sp : Sp) : Prop where
  ex : ∃ (f : Addr) (fd : FuncData) (ds : List Value), Mk K C f ∧ FnOk P w K mg base CX0 k f fd ps sp ∧ mg x = some (.ref C) ∧ Binds K fd ps ds ∧ Vals dvs ds
structure Mth (k : Nat) (C : Addr) (m : Str) (ps : List Str) (sp : Sp) : Prop where
  cl : Cls K C
  ex : ∃ (f : Addr) (fd : FuncData), Meth K C m f ∧ FnOk P w K mg base CX0 k f fd ps sp ∧ Binds K fd ps []
end
section
variable {X : Cx} {k j : Nat} {x m : Str} {C : Addr} {ps : List Str} {dvs : List V} {sp : Sp} {e o : Expr} {es : List Expr} {ta : TE} {t : TA} {p pos apos : Pos}
theorem pe_callC (c : Cal X.prog X.w X.K X.mg X.base k x ps sp) (hr : Room j X.A) (ha : PA X (e :: es) t) (hk : k ≤ j := by decide) (hg : Gl X x := by rfl)
    (hdb : (x == ("__debug__" : Str)) = false := by decide) (he : starEach (e :: es) X.env = (false, eval e X.env) :: starEach es X.env := by rfl) (hpl : (backTo pos (starEach es X.env)).any (·.1) = false := by rfl) :
    PE X (.Call (.Name x p) (e :: es) [] pos) (tCall sp [] E0 t) := by
  obtain ⟨f, fd, F, hm, kp, b⟩ := c.ex
  exact pe_call F (hr.mono hk) hg hm kp b .nil pass0 ha hdb he hpl
theorem pe_makeC (c : Ctr X.prog X.w X.K X.mg X.base k x C ps dvs sp) (hr : Room j X.A) (ha : PA X (e :: es) t) (hk : k + 1 ≤ j := by decide) (hg : Gl X x := by rfl)
    (hdb : (x == ("__debug__" : Str)) = false := by decide) (he : starEach (e :: es) X.env = (false, eval e X.env) :: starEach es X.env := by rfl) (hpl : (backTo pos (starEach es X.env)).any (·.1) = false := by rfl) :
    PE X (.Call (.Name x p) (e :: es) [] pos) (tMake C sp dvs E0 t) := by
  obtain ⟨f, fd, ds, M, F, hm, b, hd⟩ := c.ex
  exact pe_make M F (hr.mono hk) hg hm b hd pass0 ha hdb he hpl
theorem pe_methC {pl : Sem Bool} (c : Mth X.prog X.w X.K X.mg X.base k C m ps sp) (hr : Room j X.A) (ho : PE X o ta) (ha : PA X (e :: es) t) (hk : k ≤ j := by decide)
    (hst : starEach (e :: es) X.env = (false, eval e X.env) :: starEach es X.env := by rfl) (hpl : (backTo pos (starEach es X.env)).any (·.1) = false := by rfl)
    (ht : eval (.Call (.Attribute o m apos) (e :: es) [] pos) X.env = (do
      let ov ← eval o X.env
      standAt apos.atName
      let (f, first) ← holding [ov] (getMethod ov m pl)
      callWith pos f first (backTo pos (starEach (e :: es) X.env)) (backToKw pos (keywordEach [] X.env))) := by rfl) :
    PE X (.Call (.Attribute o m apos) (e :: es) [] pos) (tMeth C m sp [] E0 ta t) := by
  obtain ⟨f, fd, M, F, b⟩ := c.ex
  exact pe_meth ho c.cl M F (hr.mono hk) b .nil pass0 ha hst hpl ht

/-! ### x in o, x not in o by an own __contains__; ==, != by an own __eq__ -/
/-- what an own operator gives is a bool -/
def rOwnB (sp : Sp) (g : Bool → Bool) (vs : List V) (H : Hp) (Q : VK) : Prop := sp vs H (fun v H' => ∃ b, v = .bl b ∧ Q (.bl (g b)) H') E0
def rInOwn (C : Addr) (sp : Sp) (g : Bool → Bool) : R2 := fun x y H Q => ∃ a dx fs, y = .ref a ∧ H a = some (.ins C dx fs) ∧ rOwnB sp g [y, x] H Q
theorem own_call {pins : List (Addr × Obj)} {σ : St} {H : Hp} {s : Shared} {Q : VK} {g : Bool → Bool} {f : Addr} {fd : FuncData} {us : List Value} {vs : List V} (F : FnOk X.prog X.w X.K X.mg X.base CX0 k f fd ps sp) (hr : Room k X.A) (hb : Binds X.K fd ps [])
    (I : Inv X pins σ H s) (r : Vals vs us) (h : rOwnB sp g vs H Q) : wpAny (model X.prog X.w) X.A (call (.ref f) us) (fun v s' => ∃ b, v = .bool b ∧ EP X pins σ Q (.bool (g b)) s') X.xe s := by
  refine thn (run_fn F hr hb .nil pass0 I r (by rw [List.append_nil]; exact h)) fun v s' hq => ?_
  obtain ⟨z, H', I', rz, b, rfl, q⟩ := hq
  exact ⟨b, rz, .bl (g b), H', I', rfl, q⟩
theorem op_inOwn (c : Mth X.prog X.w X.K X.mg X.base k C "__contains__" ps sp) (hr : Room j X.A) (hk : k ≤ j := by decide) : OpR X (compareOp .In) (rInOwn C sp id) := by
  intro pins s σ H x y u v Q I rx ry h
  obtain ⟨f, fd, M, F, b⟩ := c.ex
  obtain ⟨a, dx, fs, rfl, ha, h⟩ := h
  cases ry
  obtain ⟨mA, J, _⟩ := ins_get I.hok ha
  obtain ⟨od, J, _⟩ := J.look
  obtain ⟨m, hF⟩ := I.fr
  have r2 : Vals [V.ref a, x] [Value.ref a, u] := .cons rfl (.cons rx .nil)
  have oc := own_call F (hr.mono hk) b I r2 h
  refine PySem.W.in_K hF I.ok.mod.kin J M.at_ M.fn (thn oc fun r s' hq => ?_)
  obtain ⟨r, rfl, q⟩ := hq
  exact wpAny_truthy_bool q
theorem op_notInOwn (c : Mth X.prog X.w X.K X.mg X.base k C "__contains__" ps sp) (hr : Room j X.A) (hk : k ≤ j := by decide) : OpR X (compareOp .NotIn) (rInOwn C sp not) := by
  intro pins s σ H x y u v Q I rx ry h
  obtain ⟨f, fd, M, F, b⟩ := c.ex
  obtain ⟨a, dx, fs, rfl, ha, h⟩ := h
  cases ry
  obtain ⟨mA, J, _⟩ := ins_get I.hok ha
  obtain ⟨od, J, _⟩ := J.look
  obtain ⟨m, hF⟩ := I.fr
  have r2 : Vals [V.ref a, x] [Value.ref a, u] := .cons rfl (.cons rx .nil)
  have oc := own_call F (hr.mono hk) b I r2 h
  refine PySem.W.notIn_K hF I.ok.mod.kin J M.at_ M.fn (thn oc fun r s' hq => ?_)
  obtain ⟨r, rfl, q⟩ := hq
  exact wpAny_truthy_bool q
/-- both of the class C -/
def rEqOwn (C : Addr) (sp : Sp) (g : Bool → Bool) : R2 := fun x y H Q => ∃ a b dx dy fs gs, x = .ref a ∧ y = .ref b ∧ H a = some (.ins C dx fs) ∧ H b = some (.ins C dy gs) ∧ rOwnB sp g [x, y] H Q
theorem op_eqOwn (c : Mth X.prog X.w X.K X.mg X.base k C "__eq__" ps sp) (hr : Room j X.A) (hk : k ≤ j := by decide) : OpR X (compareOp .Eq) (rEqOwn C sp id) := by
  intro pins s σ H x y u v Q I rx ry h
  obtain ⟨f, fd, M, F, b⟩ := c.ex
  obtain ⟨a, b', dx, dy, fs, gs, rfl, rfl, ha, hb, h⟩ := h
  cases rx
  cases ry
  obtain ⟨mA, J, _⟩ := ins_get I.hok ha
  obtain ⟨mB, J', _⟩ := ins_get I.hok hb
  obtain ⟨od, J, _⟩ := J.look
  obtain ⟨od', J', _⟩ := J'.look
  obtain ⟨m, hF⟩ := I.fr
  have r2 : Vals [V.ref a, V.ref b'] [Value.ref a, Value.ref b'] := .cons rfl (.cons rfl .nil)
  have oc := own_call F (hr.mono hk) b I r2 h
  refine PySem.W.cmp_K (op := .Eq) (tb := .ref C) hr.units0 hF I.ok.mod.kin J J'.type (by simp [PySem.W.notFirst]) M.at_ M.fn (thn oc fun r s' hq => ?_)
  obtain ⟨r, rfl, q⟩ := hq
  exact q
end
section
variable {prog : Program} {w : World} {A : Around} {E : Value → Shared → Prop} {s : Shared} {K : PySem.W.Frag} {x C L f : Addr} {h₀ : Heap} {m : Str → Option Value} {ox : Obj} {od : Option Obj} {b tb : Value}
open PySem.W in
theorem objNe_K (X : K.In s.heap) (I : InstAt s.heap x ox C od) (hs : findIn K (.ref C) "__eq__" = some (some (.ref f))) (hf : isFn K (.ref f) = true) (hu : A.units < cLine) {Q : Fin → Shared → Prop}
    (hcall : wpAny (model prog w) A (call (.ref f) [.ref x, b]) (fun v s' => ∃ r, v = .bool r ∧ Q (.done (.ret (.bool (!r)))) s') E s) :
    wpAny (model prog w) A (Builtin.«object.__ne__» ⟨[.ref x, b], []⟩) Q E s := by
  unfold Builtin.«object.__ne__»
  repeat (first
    | with_reducible refine wpAny_cRoomFor hu ?_
    | (refine wpAny_bind (m := callSpecialIfBound? (.ref x) (Str.ofString "__eq__") [b])
        (ifBound_K X I hs hf (wpAny_mono hcall (fun r s' hr => by
          obtain ⟨b, rfl, hq⟩ := hr
          repeat (first | exact hq | exact wpAny_pure hq | exact wpAny_truthy_bool hq | (refine wpAny_bind (m := truthy (.bool _)) (wpAny_truthy_bool ?_)) | wp_step)) fun _ _ e => e)))
    | wp_step)
open PySem.W in
theorem slotcheck_K {id owner n : String} {rest : List Value} {Q : Unit → Shared → Prop} (X : K.In s.heap) (I : InstAt s.heap x ox C od) (hk : builtinKind id = some .slot) (hs : splitId id = some (owner, n))
    (ha : argsOk id ⟨.ref x :: rest, []⟩) (hob : subIn K (.ref C) (.type owner) = some true) (hq : Q () s) :
    wpAny (model prog w) A (checkBuiltinCall id ⟨.ref x :: rest, []⟩) Q E s := by
  simp only [checkBuiltinCall, hk, hs]
  refine wpAny_bind ?_
  unfold isInstance
  refine wpAny_bind (I.type.here ?_)
  refine (looks_subIn X hob).here ?_
  repeat (first | wp_step)
  cases hsig : Manifest.signature? id with
  | none => exact wpAny_pure hq
  | some sig =>
    simp only [argsOk, hsig] at ha
    have h2 : Bind.checkArgs id sig ⟨.ref x :: rest, []⟩ = pure () := ha
    show wpAny _ A (Bind.checkArgs id sig ⟨.ref x :: rest, []⟩) Q E _
    rw [h2]; exact wpAny_pure hq
open PySem.W in
theorem ne_K {Q : Value → Shared → Prop} (hu : A.units + 1 < cLine) (X : K.In s.heap) (I : InstAt s.heap x ox C od) (hb : Looks (model prog w) s.heap (typeOf b) tb) (hn : notFirst K C tb = true)
    (hne : findIn K (.ref C) "__ne__" = some (some (.builtin "object.__ne__"))) (hob : subIn K (.ref C) (.type "object") = some true)
    (hs : findIn K (.ref C) "__eq__" = some (some (.ref f))) (hf : isFn K (.ref f) = true)
    (h : wpAny (model prog w) A.in1 (call (.ref f) [.ref x, b]) (fun v s' => ∃ r, v = .bool r ∧ Q (.bool (!r)) s') E s) : wpAny (model prog w) A (richCompare .NotEq (.ref x) b) Q E s := by
  have one : wpAny (model prog w) A (tryCompare (.ref x) "__ne__" b) (fun r s' => ∃ v, r = some v ∧ Q v s') E s := by
    unfold tryCompare
    simp only [callSpecialIfBound?, bindSpecialIfBound?]
    refine wpAny_bind (wpAny_holding (wpAny_bind (wpAny_bind (wpAny_bind (I.type.here ((looks_findIn X hne).here ?_))))))
    refine wpAny_bind (wpAny_askSetting (wpAny_ite ?_))
    have fin : wpAny (model prog w) A (call (.builtin "object.__ne__") ([.ref x] ++ [b]) >>= fun v => pure (some v)) (fun r s' => ∃ v, r = some (.bool v) ∧ Q (.bool v) s') E s := by
      refine wpAny_bind (wpAny_call (codeAny_call_builtin (F.cmp_object).ne.plain F.cmpEntry_ne (slotcheck_K X I F.cmpKind_ne F.cmpSplit_ne (F.cmpArgs_ne _ _) hob (objNe_K (A := A.in1) X I hs hf hu (wpAny_mono h (fun v s' hv => ?_) fun _ _ e => e)))))
      obtain ⟨r, rfl, hq⟩ := hv
      exact ⟨r, rfl, wpAny_pure ⟨_, rfl, hq⟩⟩
    split
    · simp only [(F.cmp_object).ne.bind]
      refine wpAny_bind (wpAny_pure (wpAny_pure ?_))
      refine wpAny_mono fin (fun _ _ z => ?_) fun _ _ e => e
      obtain ⟨v, rfl, q⟩ := z
      exact wpAny_pure ⟨_, rfl, q⟩
    · simp only [(F.cmp_object).ne.bind]
      refine wpAny_tryCatch (wpAny_bind (wpAny_pure (wpAny_pure ?_)))
      refine wpAny_mono fin (fun _ _ z => ?_) fun _ _ e => e
      obtain ⟨v, rfl, q⟩ := z
      exact wpAny_pure ⟨_, rfl, q⟩
  unfold richCompare
  simp only [oneThing_ref]
  refine wpAny_holding (wpAny_bind (wpAny_cRoomFor (Nat.lt_of_succ_lt hu) ?_))
  refine wpAny_bind (I.type.here (wpAny_bind (hb.here ?_)))
  split
  · rename_i q
    have e : subIn K tb (.ref C) = some false := by
      rcases Bool.or_eq_true_iff.mp hn with e | e
      · rw [beq_iff_eq.mp e] at q; simp at q
      · exact beq_iff_eq.mp e
    refine wpAny_bind ((looks_subIn X e).here ?_)
    simp only [Bool.false_eq_true, if_false]
    refine wpAny_bind (wpAny_mono one (fun r s' z => ?_) fun _ _ e => e)
    obtain ⟨v, rfl, hq⟩ := z
    exact wpAny_pure hq
  · refine wpAny_bind (wpAny_pure ?_)
    simp only [Bool.false_eq_true, if_false]
    refine wpAny_bind (wpAny_mono one (fun r s' z => ?_) fun _ _ e => e)
    obtain ⟨v, rfl, hq⟩ := z
    exact wpAny_pure hq
end
section
variable {X : Cx} {k j : Nat} {C : Addr} {ps : List Str} {sp : Sp}
/-- what != by an own __eq__ wants of the class -/
structure NeC (K : PySem.W.Frag) (C : Addr) : Prop where
  ne : PySem.W.findIn K (.ref C) "__ne__" = some (some (.builtin "object.__ne__"))
  ob : PySem.W.subIn K (.ref C) (.type "object") = some true
theorem op_neOwn (n : NeC X.K C) (c : Mth X.prog X.w X.K X.mg X.base k C "__eq__" ps sp) (hr : Room j X.A) (hk : k + 1 ≤ j := by decide) : OpR X (compareOp .NotEq) (rEqOwn C sp not) := by
  intro pins s σ H x y u v Q I rx ry h
  obtain ⟨f, fd, M, F, b⟩ := c.ex
  obtain ⟨a, b', dx, dy, fs, gs, rfl, rfl, ha, hb, h⟩ := h
  cases rx
  cases ry
  obtain ⟨mA, J, _⟩ := ins_get I.hok ha
  obtain ⟨mB, J', _⟩ := ins_get I.hok hb
  obtain ⟨od, J, _⟩ := J.look
  obtain ⟨od', J', _⟩ := J'.look
  have r2 : Vals [V.ref a, V.ref b'] [Value.ref a, Value.ref b'] := .cons rfl (.cons rfl .nil)
  refine ne_K (tb := .ref C) (hu_of hr) I.kIn J J'.type (by simp [PySem.W.notFirst]) n.ne n.ob M.at_ M.fn ?_
  have hr1 : Room k X.A.in1 := (hr.mono hk).in1
  have e0 : Env0 X.prog X.w X.K X.mg X.base X.A.in1 X.stack s H := by
    have e := I.env0
    exact ⟨e.frames, e.mod, e.bs, e.bsz, e.funs, e.frf, e.hok, e.bare⟩
  have hl := F.len _ _ _ _ h
  refine wpAny_call (codeAny_mono (F.run X.A.in1 X.stack s H ⟨[.ref a, .ref b'], []⟩ [.ref a, .ref b'] [.ref a, .ref b'] _ E0 hr1 e0 (by
    have := b s [.ref a, .ref b'] I.kIn (by simpa using hl)
    simpa using this) r2 h) fun r s' hq => ?_)
  cases r with
  | error e => exact pass0 pins σ H s e s' I hq
  | ok fl =>
    cases fl with
    | ret w =>
      obtain ⟨z, H', I', rz, b, ez, q⟩ := I.after hq
      subst ez
      cases rz
      exact ⟨b, rfl, .bl (!b), H', I', rfl, q⟩
    | next => exact False.elim hq
    | brk => exact False.elim hq
    | cont => exact False.elim hq

/-! ### text times an int; xs += ys -/
theorem op_mul_str : OpR X (binaryOp .Mult) (fun x y H Q => ∃ (z : Str) (i : Int), x = .str z ∧ y = .int i ∧ z.length ≤ 16 ∧ -(2 ^ 63) ≤ i ∧ i ≤ 1048576 ∧ Q (.str (Txt.mul z i)) H) := by
  intro pins s σ H x y u v Q I rx ry h
  obtain ⟨z, i, rfl, rfl, h1, h2, h3, q⟩ := h
  obtain ⟨t, rfl⟩ := rx
  obtain ⟨t', rfl⟩ := ry
  exact PySem.W.KXi.mul rfl h1 h2 h3 fun t' k _ _ => ⟨.str (Txt.mul z i), H, I.tok _, ⟨_, rfl⟩, q⟩
theorem pe_gstr {x z : Str} {t : Tok} {pos : Pos} (hm : X.mg x = some (.str z t)) (hg : Gl X x := by rfl) (hd : (x == ("__debug__" : Str)) = false := by decide) : PE X (.Name x pos) (tC (.str z)) := pe_glob hg hm ⟨_, rfl⟩ hd
theorem pe_gint {x : Str} {i : Int} {t : Tok} {pos : Pos} (hm : X.mg x = some (.int i t)) (hg : Gl X x := by rfl) (hd : (x == ("__debug__" : Str)) = false := by decide) : PE X (.Name x pos) (tC (.int i)) := pe_glob hg hm ⟨_, rfl⟩ hd
theorem pe_gref {x : Str} {a : Addr} {pos : Pos} (hm : X.mg x = some (.ref a)) (hg : Gl X x := by rfl) (hd : (x == ("__debug__" : Str)) = false := by decide) : PE X (.Name x pos) (tC (.ref a)) := pe_glob (v := .ref a) hg hm rfl hd
theorem pe_bty {x : Str} (T : String) {pos : Pos} (hm : X.mg x = none) (hv : bootBuiltins x = some (.type T)) (hg : Gl X x := by rfl) (hn : x ≠ "__name__" := by decide) (hd : (x == ("__debug__" : Str)) = false := by decide) : PE X (.Name x pos) (tC (.ty T)) := pe_bltn (v := .ty T) hg hm hv rfl hn hd
/-- tuple(xs), the new object known whole -/
theorem call_tuple_frz : CallR X (.type "tuple") (fun xs H Q => ∃ p ys, xs = [.ref p] ∧ ((SqL X.K H p ys ∧ ∀ l o, H l = none → o.dict = none → Q (.ref l) (upd H l (.frz o (.tup ys)))) ∨ (SqT X.K H p ys ∧ Q (.ref p) H))) := by
  intro pins s σ H xs us Q I r h
  obtain ⟨p, ys, rfl, h⟩ := h
  obtain ⟨u, rfl, rx⟩ := vals1 r
  cases rx
  rcases h with ⟨hq, q⟩ | ⟨hq, q⟩
  · obtain ⟨its, r', pl, hz⟩ := I.list hq
    have hlen := r'.length
    refine PySem.call_tuple_list pl.isList (fun h' kp => ?_) (by simp only [List.size_toArray] <;> omega)
    have I1 : Inv X pins σ H { s with heap := h' } := I.kept (t' := s.toks) kp
    have I2 : Inv X pins σ (upd H h'.objs.size (.frz { cls := .type "tuple", data := .seq its.toArray } (.tup ys))) { s with heap := h'.push { cls := .type "tuple", data := .seq its.toArray } } :=
      I1.laid (t' := s.toks) (fun b o e => Heap.get?_push_of_some _ e) (Nat.le_refl _) (show ObjOk X.prog X.w _ _ _ (.frz _ (.tup ys)) from ⟨by heap_get, hz, its, r', PyProof.Rows.IsTup.new _ _⟩)
    exact ⟨.ref h'.objs.size, _, I2, rfl, q _ _ (I1.hok.fresh (Nat.le_refl _)) rfl⟩
  · obtain ⟨its, r', pl, hz⟩ := I.tuple hq
    exact PySem.call_tuple_same pl ⟨.ref p, H, I, rfl, q⟩
/-- a tuple known whole -/
def TupF (H : Hp) (x : V) : Prop := ∃ p o xs, x = .ref p ∧ H p = some (.frz o (.tup xs)) ∧ o.dict = none
def tTupM (r : V → List V → Hp → VK → Prop) (to : TE) (t : TA) : TE := fun σ H Q => to σ H fun x H1 => TupF H1 x ∧ t σ H1 fun xs H2 => r x xs H2 Q
theorem pe_tupm {o e : Expr} {es : List Expr} {to : TE} {t : TA} {name : Str} {apos cpos : Pos} {id : String} {r : V → List V → Hp → VK → Prop} (slot : Slot "tuple" name id) (hty : typeOf (.builtin id) = pure (.type "method_descriptor")) (hm : MtR X id r) (ho : PE X o to) (ha : PA X (e :: es) t)
    (hbase : attributeBase o name X.env (eval o X.env) = eval o X.env := by rfl)
    (hfew : ((backTo cpos (starEach (e :: es) X.env)).all (fun x => !x.1) && (backToKw cpos (keywordEach [] X.env)).all (fun x => x.1.isSome)
      && decide ((e :: es).length + ([] : List Keyword).length + (if ([] : List Keyword).isEmpty then 0 else 1) < 30)) = true := by rfl)
    (hline : (apos.endLine == cpos.line) = true := by rfl) (hs : starEach (e :: es) X.env = (false, eval e X.env) :: starEach es X.env := by rfl) (hplain : (backTo cpos (starEach es X.env)).any (·.1) = false := by rfl) :
    PE X (.Call (.Attribute o name apos) (e :: es) [] cpos) (tTupM r to t) := by
  refine ⟨fun pins s σ H Q I h => ?_⟩
  refine wpAny_Call_method_late hbase hfew hline rfl (thn (ho.run pins s σ H _ I h) fun v s1 ⟨x, H1, I1, r1, ty, q1⟩ => ?_)
  obtain ⟨p, ob, xs, rfl, hp, hd⟩ := ty
  cases r1
  obtain ⟨hob, _, its, _, o', ho', hc, _⟩ := I1.hok p _ hp
  have eo : ob = o' := Option.some.inj (hob.symm.trans ho')
  refine ⟨"tuple", id, PySem.F.plainAttrs_tuple, slot, hty, ⟨o', ho', hc⟩, fun a e => ?_, ?_⟩
  · cases e
    exact ⟨ob, hob, hd⟩
  have hA := ha.run cpos pins s1 σ H1 _ I1 q1
  rw [hs] at hA ⊢
  refine Calls.callWith_builtin (by show (false || (backTo cpos (starEach es X.env)).any (·.1)) = false; rw [hplain] <;> rfl) (Calls.evalArgs_plain ?_)
  exact thn hA fun us s2 ⟨vs, H2, I2, r2, q2⟩ => hm pins s2 σ H2 (.ref p) vs (.ref p) us Q I2 rfl r2 q2
/-- a if c else b as a test -/
def tIfT (tc tp tq : TT) : TT := fun σ H Q => tc σ H fun b H1 => if b = true then tp σ H1 Q else tq σ H1 Q
theorem pt_ifExp {c p q : Expr} {tc tp tq : TT} {pos : Pos} (hc : PT X c tc) (hp : PT X p tp) (hq : PT X q tq) : PT X (.IfExp c p q pos) (tIfT tc tp tq) := by
  refine ⟨fun pins s σ H Q I h => ?_⟩
  refine PyProof.Rows.isTrue_IfExp (thn (hc.run pins s σ H _ I h) fun b s1 ⟨H1, I1, h1⟩ => ?_)
  cases b with
  | true => exact hp.run pins s1 σ H1 Q I1 (by simpa using h1)
  | false => exact hq.run pins s1 σ H1 Q I1 (by simpa using h1)
/-! ### within a comprehension: the written part by its name -/
theorem pi_tupK {K : PySem.W.Frag} {tg l : Expr} {tl : TE} (hl : PE X l tl) (hK : X.K = K := by rfl) : PI X tg l (iTup K tl) := hK ▸ pi_tup hl
theorem pi_listK {K : PySem.W.Frag} {tg l : Expr} {tl : TE} (hl : PE X l tl) (hK : X.K = K := by rfl) : PI X tg l (iList K tl) := hK ▸ pi_list hl
theorem pe_fldK {K : PySem.W.Frag} {e : Expr} {f : Str} {ta : TE} {pos : Pos} (he : PE X e ta) (hb : attributeBase e f X.env (eval e X.env) = eval e X.env) (hK : X.K = K := by rfl) : PE X (.Attribute e f pos) (tFld K ta f) := hK ▸ pe_fld he hb
theorem op_in_seqK {K : PySem.W.Frag} (hK : X.K = K := by rfl) : OpR X (compareOp .In) (rIn K false) := hK ▸ op_in_seq
theorem op_notIn_seqK {K : PySem.W.Frag} (hK : X.K = K := by rfl) : OpR X (compareOp .NotIn) (rIn K true) := hK ▸ op_notIn_seq
theorem ix_listK {K : PySem.W.Frag} (hK : X.K = K := by rfl) : IxR X (rIxL K) := hK ▸ ix_list
theorem ix_tupK {K : PySem.W.Frag} (hK : X.K = K := by rfl) : IxR X (rIxT K) := hK ▸ ix_tup
theorem sl_listK {K : PySem.W.Frag} (hK : X.K = K := by rfl) : SlR X (rSlL K) := hK ▸ sl_list
theorem call_isiK' {K : PySem.W.Frag} (hK : X.K = K := by rfl) : CallR X (.builtin "isinstance") (rIsi K) := hK ▸ call_isi
theorem ip_ext : PIp X .Add rExt2 := by
  intro pins s σ H x y u v Q I rx ry h
  exact iop_ext pins s σ H x y u v Q I rx ry h
end
end Aq
/-! readings, one step at a time, the rest behind -/
namespace Aq
open PySem L2 Evl
section
variable {σ : L2.St} {H : Hp} {Q : VK} {K : PySem.W.Frag} {v x y : V} {ta tb tc te tv : TE} {tA tB' : TT} {ts : TA} {i j : Int} {n : Nat} {nx bk ct : L2.St → Hp → Prop} {rt : VK} {t u : TS} {g : TG}
/-! #### values -/
theorem rd_var {k : Nat} (h : σ[k]? = some (some v)) (q : Q v H) : tVar k σ H Q := ⟨v, h, q⟩
theorem rd_c (q : Q v H) : tC v σ H Q := q
theorem rd_op {r : R2} (h : ta σ H fun x H1 => tb σ H1 fun y H2 => r x y H2 Q) : tOp r ta tb σ H Q := h
theorem rd_un {r : V → Hp → VK → Prop} (h : ta σ H fun x H1 => r x H1 Q) : tUn r ta σ H Q := h
theorem rd_I0 {f : Int → Int → V} (q : Q (f i j) H) : rI0 f (.int i) (.int j) H Q := ⟨i, j, rfl, rfl, q⟩
theorem rd_I {C : Int → Int → Prop} {f : Int → Int → V} (c : C i j) (q : Q (f i j) H) : rI C f (.int i) (.int j) H Q := ⟨i, j, rfl, rfl, c, q⟩
theorem rd_eq (h : scal x y = true) (q : Q (.bl (decide (x = y))) H) : rEq x y H Q := ⟨h, q⟩
theorem rd_ne (h : scal x y = true) (q : Q (.bl (!decide (x = y))) H) : rNe x y H Q := ⟨h, q⟩
theorem rd_B {Qb : Bool → Hp → Prop} (h : te σ H fun x H1 => ∃ c, x = .bl c ∧ Qb c H1) : tB te σ H Qb := h
theorem rd_test {Qb : Bool → Hp → Prop} (h : te σ H fun x H1 => ∃ c, x = .bl c ∧ Qb c H1) : tTest te σ H Qb := h
theorem rd_bl {b : Bool} {Qb : Bool → Prop} (q : Qb b) : ∃ c, V.bl b = V.bl c ∧ Qb c := ⟨b, rfl, q⟩
theorem rd_not {Qb : Bool → Hp → Prop} (h : tA σ H fun c H1 => Qb (!c) H1) : tNot tA σ H Qb := h
theorem rd_and {Qb : Bool → Hp → Prop} (h : tA σ H fun c H1 => if c = true then tB' σ H1 Qb else Qb false H1) : tAnd tA tB' σ H Qb := h
theorem rd_or {Qb : Bool → Hp → Prop} (h : tA σ H fun c H1 => if c = true then Qb true H1 else tB' σ H1 Qb) : tOr tA tB' σ H Qb := h
theorem rd_andV (h : ta σ H fun x H1 => ∃ c, x = .bl c ∧ if c = true then tb σ H1 Q else Q (.bl false) H1) : tAndV ta tb σ H Q := h
theorem rd_orV (h : ta σ H fun x H1 => ∃ c, x = .bl c ∧ if c = true then Q (.bl true) H1 else tb σ H1 Q) : tOrV ta tb σ H Q := h
theorem rd_notV (h : ta σ H fun x H1 => ∃ c, x = .bl c ∧ Q (.bl (!c)) H1) : tNotV ta σ H Q := h
theorem rd_if (h : tA σ H fun c H1 => if c = true then ta σ H1 Q else tb σ H1 Q) : tIf tA ta tb σ H Q := h
theorem rd_ifT {tp tq : TT} {Qb : Bool → Hp → Prop} (h : tA σ H fun c H1 => if c = true then tp σ H1 Qb else tq σ H1 Qb) : tIfT tA tp tq σ H Qb := h
theorem rd_chain {r r' : R2} (h : ta σ H fun x H1 => tb σ H1 fun y H2 => r x y H2 fun z H3 => ∃ k, z = .bl k ∧ (if k = true then tc σ H3 fun w' H4 => r' y w' H4 Q else Q (.bl false) H3)) : tChain r r' ta tb tc σ H Q := h
theorem rd_cb {r : List V → Hp → VK → Prop} (h : ts σ H fun vs H1 => r vs H1 Q) : tCB r ts σ H Q := h
theorem rd_nil {Ql : List V → Hp → Prop} (q : Ql [] H) : tNil σ H Ql := q
theorem rd_cons {Ql : List V → Hp → Prop} (h : ta σ H fun x H1 => ts σ H1 fun xs H2 => Ql (x :: xs) H2) : tCons ta ts σ H Ql := h
theorem rd_call {sp : Sp} {dvs : List V} {E : XK} (h : ts σ H fun vs H1 => sp (vs ++ dvs) H1 Q E) : tCall sp dvs E ts σ H Q := h
/-- a new object: what stood stands -/
theorem rd_new {o : HO} {Qp : V → Hp → Prop} (q : ∀ p H', H p = none → Ex H H' → H' p = some o → Qp (.ref p) H') : ∀ p, H p = none → Qp (.ref p) (upd H p o) :=
  fun p hp => q p _ hp (Ex.new hp) upd_same
theorem rd_tup (h : ts σ H fun xs H1 => xs.length ≤ sizeLine ∧ ∀ p, H1 p = none → Q (.ref p) (upd H1 p (.tup xs))) : tTup ts σ H Q := h
theorem rd_lst (h : ts σ H fun xs H1 => xs.length ≤ sizeLine ∧ ∀ p, H1 p = none → Q (.ref p) (upd H1 p (.lst xs))) : tLst ts σ H Q := h
/-! #### fields, dicts -/
theorem rd_fld {f : Str} (h : ta σ H fun x H1 => ∃ a C dx fs v, x = .ref a ∧ H1 a = some (.ins C dx fs) ∧ Cls K C ∧ NoAttr K C f ∧ fs.lookup f = some v ∧ Q v H1) : tFld K ta f σ H Q := h
theorem rd_fldAt {f : Str} {a C dx : Addr} {fs : List (Str × V)} {R : V → Prop} (ho : H a = some (.ins C dx fs)) (c : Cls K C) (n : NoAttr K C f) (l : fs.lookup f = some v) (q : R v) :
    ∃ a' C dx fs v, V.ref a = .ref a' ∧ H a' = some (.ins C dx fs) ∧ Cls K C ∧ NoAttr K C f ∧ fs.lookup f = some v ∧ R v := ⟨a, C, dx, fs, v, rfl, ho, c, n, l, q⟩
theorem rd_dget {td ty : TE} (h : td σ H fun x H1 => ty σ H1 fun y H2 => ∃ a v, x = .ref a ∧ DGet H2 a y (some v) ∧ Q v H2) : tDGet td ty σ H Q := h
theorem rd_dgetS {a : Addr} {kvs : List (Key × V)} {k : Str} {R : V → Prop} (ho : H a = some (.dK kvs)) (l : valV kvs (Sum.inr k) = some v) (q : R v) : ∃ a' v, V.ref a = .ref a' ∧ DGet H a' (.str k) (some v) ∧ R v :=
  ⟨a, v, rfl, by have := DGet.k (k := Sum.inr k) ho; rw [l] at this; exact this, q⟩
/-! #### statements -/
theorem rd_seq (h : t ⟨u ⟨nx, rt, bk, ct⟩, rt, bk, ct⟩ σ H) : tSeq t u ⟨nx, rt, bk, ct⟩ σ H := h
theorem rd_asg {k : Nat} (h : te σ H fun x H1 => nx (σ.set k (some x)) H1) : tAsg te (gName k) ⟨nx, rt, bk, ct⟩ σ H := h
theorem rd_asgG (h : te σ H fun x H1 => g x σ H1 nx) : tAsg te g ⟨nx, rt, bk, ct⟩ σ H := h
theorem rd_gname {k : Nat} {R : L2.St → Hp → Prop} (q : R (σ.set k (some v)) H) : gName k v σ H R := q
theorem rd_drop (h : te σ H fun _ H1 => nx σ H1) : tDrop te ⟨nx, rt, bk, ct⟩ σ H := h
theorem rd_ret (h : te σ H rt) : tRet te ⟨nx, rt, bk, ct⟩ σ H := h
theorem rd_next (q : nx σ H) : tNext ⟨nx, rt, bk, ct⟩ σ H := q
theorem rd_ifS {c : TT} (h : c σ H fun b H1 => if b = true then t ⟨nx, rt, bk, ct⟩ σ H1 else u ⟨nx, rt, bk, ct⟩ σ H1) : tIfS c t u ⟨nx, rt, bk, ct⟩ σ H := h
theorem rd_par {k l : Nat} (h : ts σ H fun vs H1 => ∃ v w, vs = [v, w] ∧ nx ((σ.set k (some v)).set l (some w)) H1) : tPar k l ts ⟨nx, rt, bk, ct⟩ σ H := h
theorem rd_two {a b : V} {R : V → V → Prop} (q : R a b) : ∃ v w, [a, b] = [v, w] ∧ R v w := ⟨a, b, rfl, q⟩
theorem rd_dput {td ty : TE} (h : tv σ H fun v H1 => td σ H1 fun x H2 => ty σ H2 fun y H3 => ∃ a H4, x = .ref a ∧ DPut H3 a y v H4 ∧ nx σ H4) : sDPut td ty tv ⟨nx, rt, bk, ct⟩ σ H := h
theorem rd_dputS {a : Addr} {kvs : List (Key × V)} {k : Str} {R : Hp → Prop} (ho : H a = some (.dK kvs)) (hl : kvs.length < sizeLine) (q : R (upd H a (.dK (putK kvs (Sum.inr k) v)))) : ∃ a' H4, V.ref a = .ref a' ∧ DPut H a' (.str k) v H4 ∧ R H4 :=
  ⟨a, _, rfl, DPut.k (k := Sum.inr k) ho hl, q⟩
theorem rd_sfld {f : Str} (h : tv σ H fun y H1 => ta σ H1 fun x H2 => ∃ a C dx fs, x = .ref a ∧ H2 a = some (.ins C dx fs) ∧ Cls K C ∧ NoAttr K C f ∧ fs.length < 1000 ∧ nx σ (upd H2 a (.ins C dx (putF f y fs)))) : sFld K ta tv f ⟨nx, rt, bk, ct⟩ σ H := h
theorem rd_sfldAt {f : Str} {a C dx : Addr} {fs : List (Str × V)} {R : Hp → Prop} (ho : H a = some (.ins C dx fs)) (c : Cls K C) (n : NoAttr K C f) (l : fs.length < 1000) (q : R (upd H a (.ins C dx (putF f v fs)))) :
    ∃ a' C dx fs, V.ref a = .ref a' ∧ H a' = some (.ins C dx fs) ∧ Cls K C ∧ NoAttr K C f ∧ fs.length < 1000 ∧ R (upd H a' (.ins C dx (putF f v fs))) := ⟨a, C, dx, fs, rfl, ho, c, n, l, q⟩
theorem rd_yes {Qb : Bool → Hp → Prop} (q : Qb true H) : tYes σ H Qb := q
theorem rd_nt {A B : Prop} (h : B) : if (!true) = true then A else B := h
theorem rd_nf {A B : Prop} (h : A) : if (!false) = true then A else B := h
theorem rd_for {wi : TI} {tb : TS} (h : wi σ H fun J H1 => ∃ W : Nat → Nat → L2.St → Hp → Prop, (∃ m, W 0 m σ H1) ∧ ∀ i m σ H, W i m σ H →
      (J.stop i H ∧ nx σ H) ∨ (J.go i H ∧ ∃ N : L2.St → Hp → Prop, (∀ σ' H', N σ' H' → ∃ m', m' < m ∧ W (i + 1) m' σ' H') ∧ ∀ x H', J.yld i H x H' → g x σ H' fun σ2 H2 => tb ⟨N, rt, nx, N⟩ σ2 H2)) : tFor wi g tb ⟨nx, rt, bk, ct⟩ σ H := h
theorem rd_lc {wi : TI} {tt : TT} {vs : List Nat} (h : wi σ H fun J H1 => ∀ D, H1 D = none → ∃ W : Nat → Nat → Hp → Prop, (∃ m, W 0 m (upd H1 D (.lst []))) ∧ ∀ i m H, W i m H →
  (J.stop i H ∧ Q (.ref D) H) ∨ (J.go i H ∧ ∃ Nx : Hp → Prop, (∀ H', Nx H' → ∃ m', m' < m ∧ W (i + 1) m' H') ∧ ∀ x H', J.yld i H x H' → g x (wipe σ vs) H' fun σ2 H2 => wipe σ2 vs = wipe σ vs ∧ tt σ2 H2 fun b H3 =>
    if b = true then te σ2 H3 fun y H4 => ∃ acc, H4 D = some (.lst acc) ∧ acc.length < sizeLine ∧ Nx (upd H4 D (.lst (acc ++ [y]))) else Nx H3)) : tLc wi g tt te vs σ H Q := h
theorem rd_iStr {R : It → Hp → Prop} (h : te σ H fun v H1 => ∃ x, v = .str x ∧ R (Its x) H1) : iStr te σ H R := h
theorem rd_iStrAt {z : Str} {R : Str → Prop} (q : R z) : ∃ x, V.str z = .str x ∧ R x := ⟨z, rfl, q⟩
theorem rd_iList {R : It → Hp → Prop} (h : te σ H fun x H1 => ∃ a, x = .ref a ∧ (∃ xs, SqL K H1 a xs) ∧ R (Itl K a) H1) : iList K te σ H R := h
theorem rd_iTup {R : It → Hp → Prop} (h : te σ H fun x H1 => ∃ a, x = .ref a ∧ (∃ xs, SqT K H1 a xs) ∧ R (Itt K a) H1) : iTup K te σ H R := h
theorem rd_iListAt {a : Addr} {xs : List V} {R : Addr → Prop} (h : SqL K H a xs) (q : R a) : ∃ a', V.ref a = .ref a' ∧ (∃ xs, SqL K H a' xs) ∧ R a' := ⟨a, rfl, ⟨_, h⟩, q⟩
theorem rd_iTupAt {a : Addr} {xs : List V} {R : Addr → Prop} (h : SqT K H a xs) (q : R a) : ∃ a', V.ref a = .ref a' ∧ (∃ xs, SqT K H a' xs) ∧ R a' := ⟨a, rfl, ⟨_, h⟩, q⟩
theorem rd_iRng1 {R : It → Hp → Prop} (h : ts σ H fun vs H1 => ∃ j : Int, vs = [.int j] ∧ -(2 ^ 62) ≤ j ∧ j < 2 ^ 62 ∧ R (Itr 0 j.toNat) H1) : iRng1 ts σ H R := h
theorem rd_iRngAt {n : Int} {R : Int → Prop} (h1 : -(2 ^ 62) ≤ n) (h2 : n < 2 ^ 62) (q : R n) : ∃ j : Int, [V.int n] = [.int j] ∧ -(2 ^ 62) ≤ j ∧ j < 2 ^ 62 ∧ R j := ⟨n, rfl, h1, h2, q⟩
theorem rd_iEnum {R : It → Hp → Prop} (h : ts σ H fun vs H1 => ∃ a xs, vs = [.ref a] ∧ SqL K H1 a xs ∧ R (Ite K a) H1) : iEnum K ts σ H R := h
theorem rd_iEnumAt {a : Addr} {xs : List V} {R : Addr → Prop} (h : SqL K H a xs) (q : R a) : ∃ a' ys, [V.ref a] = [.ref a'] ∧ SqL K H a' ys ∧ R a' := ⟨a, xs, rfl, h, q⟩
theorem rd_sl {r : V → Option Int → Option Int → Hp → VK → Prop} {tl th : TO} (h : te σ H fun x H1 => tl σ H1 fun lo H2 => th σ H2 fun hi H3 => r x lo hi H3 Q) : L2.tSl r te tl th σ H Q := h
theorem rd_noPart {R : Option Int → Hp → Prop} (q : R none H) : tNoPart σ H R := q
theorem rd_part {R : Option Int → Hp → Prop} (h : te σ H fun x H1 => ∃ i, x = .int i ∧ R (some i) H1) : tPart te σ H R := h
theorem rd_partAt {R : Int → Prop} (q : R i) : ∃ k, V.int i = .int k ∧ R k := ⟨i, rfl, q⟩
theorem rd_slS {z : Str} {lo hi : Option Int} (hz : z.length ≤ 100000) (q : Q (.str (cutS z lo hi)) H) : rSlS (.str z) lo hi H Q := ⟨z, rfl, sz_of hz, q⟩
theorem rd_slL {p : Addr} {xs : List V} {lo hi : Option Int} (h : SqL K H p xs) (q : ∀ l H', H l = none → Ex H H' → H' l = some (.lst (cutV xs lo hi)) → Q (.ref l) H') : rSlL K (.ref p) lo hi H Q := ⟨p, xs, rfl, h, rd_new q⟩
theorem rd_make {C : Addr} {sp : Sp} {dvs : List V} {E : XK} (h : ts σ H fun vs H1 => ∀ x dx, H1 x = none → H1 dx = none → dx ≠ x → sp (.ref x :: (vs ++ dvs)) (upd (upd H1 dx (.own x)) x (.ins C dx [])) (fun v H2 => v = .non ∧ Q (.ref x) H2) E) : tMake C sp dvs E ts σ H Q := h
theorem rd_meth {C : Addr} {m : Str} {sp : Sp} {dvs : List V} {E : XK} (h : ta σ H fun x H1 => ∃ a dx fs, x = .ref a ∧ H1 a = some (.ins C dx fs) ∧ fs.lookup m = none ∧ ts σ H1 fun vs H2 => sp (x :: (vs ++ dvs)) H2 Q E) : tMeth C m sp dvs E ta ts σ H Q := h
theorem rd_bm {T : String} {r : V → List V → Hp → VK → Prop} (h : ta σ H fun x H1 => tyV K T x H1 ∧ ts σ H1 fun xs H2 => r x xs H2 Q) : tBM K T r ta ts σ H Q := h
theorem rd_tyL {l : Addr} {xs : List V} {R : Prop} (h : SqL K H l xs) (q : R) : tyV K "list" (.ref l) H ∧ R := ⟨.inl ⟨rfl, _, h⟩, q⟩
theorem rd_tupm {r : V → List V → Hp → VK → Prop} (h : ta σ H fun x H1 => TupF H1 x ∧ ts σ H1 fun xs H2 => r x xs H2 Q) : tTupM r ta ts σ H Q := h
theorem st_frz {a : Addr} {o : Obj} {xs : List V} (h : H a = some (.frz o (.tup xs))) : SqT K H a xs := .inl (.inr ⟨o, h⟩)
theorem rd_aug {k : Nat} {ti : TIp} (hv : σ[k]? = some (some v)) (q : te σ H fun y H1 => ti v y H1 fun z H2 => nx (σ.set k (some z)) H2) : tAug k te ti ⟨nx, rt, bk, ct⟩ σ H := ⟨v, hv, q⟩
theorem rd_append {l : Addr} {xs : List V} (h : H l = some (.lst xs)) (hl : xs.length < sizeLine) (q : Q .non (upd H l (.lst (xs ++ [y])))) : rAppend (.ref l) [y] H Q := ⟨l, xs, y, rfl, rfl, h, hl, q⟩
theorem rd_ext {l b : Addr} {xs zs : List V} (h1 : H l = some (.lst xs)) (h2 : H b = some (.lst zs)) (h3 : xs.length + zs.length ≤ sizeLine) (q : Q (.ref l) (upd H l (.lst (xs ++ zs)))) : rExt2 (.ref l) (.ref b) H Q := ⟨l, b, xs, zs, rfl, rfl, h1, h2, h3, q⟩
theorem rd_while {c : TT} {tb : TS} (W : Nat → L2.St → Hp → Prop) (m0 : Nat) (h0 : W m0 σ H)
    (hs : ∀ m σ H, W m σ H → c σ H fun b H1 => if b = true then ∃ N : L2.St → Hp → Prop, (∀ σ' H', N σ' H' → ∃ m', m' < m ∧ W m' σ' H') ∧ tb ⟨N, rt, nx, N⟩ σ H1 else nx σ H1) : tWhile c tb ⟨nx, rt, bk, ct⟩ σ H := ⟨W, ⟨m0, h0⟩, hs⟩
theorem rd_m1 {r : V → List V → Hp → VK → Prop} (h : ta σ H fun x H1 => (∃ a, x = .str a) ∧ tb σ H1 fun y H2 => r x [y] H2 Q) : tM1 r ta tb σ H Q := h
theorem rd_isS {z : Str} {R : Prop} (q : R) : (∃ a, V.str z = .str a) ∧ R := ⟨⟨z, rfl⟩, q⟩
/-! #### built-ins -/
theorem rd_isi {t c : V} {a b : Value} {r : Bool} (h1 : ClsV c b) (h2 : TyX K H t a) (h3 : PySem.W.kitOne K a b = some r) (q : Q (.bl r) H) : rIsi K [t, c] H Q := ⟨t, c, a, b, r, rfl, h1, h2, h3, q⟩
theorem rd_isiStr {z : Str} (q : Q (.bl true) H) : rIsi K [.str z, .ty "str"] H Q := rd_isi (a := .type "str") (b := .type "str") (.ty _) (.base (.str z)) (kit_ty (by decide +kernel)) q
theorem rd_lenS {z : Str} {R : Str → Prop} (hz : z.length ≤ 100000) (q : R z) : ∃ x, [V.str z] = [.str x] ∧ x.length ≤ sizeLine ∧ R x := ⟨z, rfl, sz_of hz, q⟩
theorem rd_lenL {a : Addr} {xs : List V} {R : List V → Prop} (h : SqL K H a xs) (q : R xs) : ∃ p ys, [V.ref a] = [.ref p] ∧ (SqL K H p ys ∨ SqT K H p ys) ∧ R ys := ⟨a, xs, rfl, .inl h, q⟩
theorem rd_lenT {a : Addr} {xs : List V} {R : List V → Prop} (h : SqT K H a xs) (q : R xs) : ∃ p ys, [V.ref a] = [.ref p] ∧ (SqL K H p ys ∨ SqT K H p ys) ∧ R ys := ⟨a, xs, rfl, .inr h, q⟩
theorem rd_intI {R : Int → Prop} {R' : Bool → Prop} (q : R i) : (∃ k, [V.int i] = [.int k] ∧ R k) ∨ ∃ k, [V.int i] = [.bl k] ∧ R' k := .inl ⟨i, rfl, q⟩
theorem rd_intB {b : Bool} {R : Int → Prop} {R' : Bool → Prop} (q : R' b) : (∃ k, [V.bl b] = [.int k] ∧ R k) ∨ ∃ k, [V.bl b] = [.bl k] ∧ R' k := .inr ⟨b, rfl, q⟩
theorem rd_abs {R : Int → Prop} (q : R i) : ∃ k, [V.int i] = [.int k] ∧ R k := ⟨i, rfl, q⟩
theorem rd_strs {x y : Str} {R : Str → Str → Prop} (h : x.length + y.length ≤ 100000) (q : R x y) : ∃ i j, V.str x = .str i ∧ V.str y = .str j ∧ i.length + j.length ≤ sizeLine ∧ R i j := ⟨x, y, rfl, rfl, sz_of h, q⟩
theorem rd_sign {c : Nat} {z : Str} {R : Nat → Str → Prop} (q : R c z) : ∃ (d : Nat) (y : Str), V.str ⟨#[c]⟩ = .str ⟨#[d]⟩ ∧ V.str z = .str y ∧ R d y := ⟨c, z, rfl, rfl, q⟩
theorem rd_mulS {z : Str} {R : Str → Int → Prop} (h1 : z.length ≤ 16) (h2 : -(2 ^ 63) ≤ i) (h3 : i ≤ 1048576) (q : R z i) : ∃ (y : Str) (k : Int), V.str z = .str y ∧ V.int i = .int k ∧ y.length ≤ 16 ∧ -(2 ^ 63) ≤ k ∧ k ≤ 1048576 ∧ R y k := ⟨z, i, rfl, rfl, h1, h2, h3, q⟩
theorem rd_isN' {R : Prop} (q : R) : V.non = V.non ∧ R := ⟨rfl, q⟩
theorem rd_ixS {z : Str} {c : Nat} (hz : z.length ≤ 100000) (h : atI z.cps.toList i = some c) (q : Q (.str ⟨#[c]⟩) H) : rIxS (.str z) (.int i) H Q := ⟨z, i, c, rfl, rfl, sz_of hz, h, q⟩
theorem rd_all {p : Addr} {bs : List Bool} (h : SqL K H p (bs.map V.bl)) (q : Q (.bl (bs.all id)) H) : rAll K [.ref p] H Q := ⟨p, bs, rfl, h, q⟩
theorem rd_any {p : Addr} {bs : List Bool} (h : SqL K H p (bs.map V.bl)) (q : Q (.bl (bs.any id)) H) : rAny K [.ref p] H Q := ⟨p, bs, rfl, h, q⟩
theorem len_cps (z : Str) : z.cps.toList.length = z.length := by simp [Str.length]
/-- what isinstance wants of an own class -/
structure IsiC (K : PySem.W.Frag) (C : Addr) : Prop where
  ha : PySem.W.findIn K (.ref C) "__class__" = some (some (.builtin "object.__class__"))
  hn : PySem.W.specialIn K (.builtin "object.__class__") "__get__" = some (some (.builtin "getset_descriptor.__get__"))
  htk : PySem.W.takesIn K (.builtin "object.__class__") = some true
  hm : PySem.W.mroIn K C (.type "object") = some true
  self : PySem.W.kitOne K (.ref C) (.ref C) = some true
theorem rd_isiOwn {a C dx : Addr} {fs : List (Str × V)} (c : Cls K C) (I : IsiC K C) (ho : H a = some (.ins C dx fs)) (q : Q (.bl true) H) : rIsi K [.ref a, .ref C] H Q :=
  rd_isi (.own C) (.base (.ins ho c I.ha I.hn I.htk I.hm)) I.self q
end
end Aq
/-! zip(tuple, list), out of the library's zip over any two iterators (KE.GoesZip, KE.GoesMore) -/
namespace Aq
open PySem PySem.Spec PyProof.Rows L2
section
/-- a tuple's items beside a list's, in new pairs -/
def ItzM (K : PySem.W.Frag) (a b : Addr) : It where
  go := fun i H => ∃ xs ys, SqT K H a xs ∧ SqL K H b ys ∧ i < xs.length ∧ i < ys.length
  yld := fun i H v H' => ∃ T x y, v = .ref T ∧ H T = none ∧ H' = upd H T (.tup [x, y]) ∧ (∀ xs, SqT K H a xs → xs[i]? = some x) ∧ (∀ ys, SqL K H b ys → ys[i]? = some y)
  stop := fun i H => ∃ xs ys, SqT K H a xs ∧ SqL K H b ys ∧ i ≤ xs.length ∧ i ≤ ys.length ∧ (i = xs.length ∨ i = ys.length)
/-- the five cells of such a zip, i turns in -/
structure ZmAt (z TI TO i1 i2 a b : Addr) (i : Nat) (h : Heap) : Prop where
  zz : IsZip h z TI TO .none
  ti : IsTupOf2 h TI (.ref i1) (.ref i2)
  to : ∃ x y, IsTupOf2 h TO x y
  one : h.IsTupleIter i1 a i
  two : h.IsListIter i2 b i
variable {P : Program} {w : World} {K : PySem.W.Frag} {elts : List Expr} {kk : Nat} {tpos : Pos} {a b z TI TO i1 i2 : Addr}
theorem ZmAt.lt {i : Nat} {h : Heap} (Z : ZmAt z TI TO i1 i2 a b i h) {c : Addr} (hc : c ∈ [z, TI, TO, i1, i2]) : c < h.objs.size := by
  obtain ⟨zz, ti, ⟨x, y, to⟩, ⟨_, one, _⟩, ⟨_, two, _⟩⟩ := Z
  simp only [List.mem_cons, List.not_mem_nil, or_false] at hc
  rcases hc with rfl | rfl | rfl | rfl | rfl <;> exact Heap.lt_size ‹_›
theorem turn_zipM (S : ZipSep2 z TI TO i1 i2 [i1, a] [i2, b]) (na : a ≠ i1) (nb : b ≠ i2) : Turn P w K (.Tuple elts kk tpos) (ItzM K a b) [z, TI, TO, i1, i2] z (ZmAt z TI TO i1 i2 a b) := by
  have ks : ∀ {c : Addr}, c ∉ [z, TI, TO, i1, i2] → c ≠ z ∧ c ≠ TO ∧ c ≠ i1 ∧ c ≠ i2 := fun {c} h => by
    simp only [List.mem_cons, List.not_mem_nil, or_false, not_or] at h; exact ⟨h.1, h.2.2.1, h.2.2.2.1, h.2.2.2.2⟩
  refine ⟨by simp, fun i h Z c hc => ?_, fun i h h' Z k => ?_, ?_, ?_, fun A i s Q E Z h => wpAny_pyIter_zip Z.zz h⟩
  · obtain ⟨zz, ti, ⟨x, y, to⟩, ⟨o1, one, _, d1⟩, ⟨o2, two, _, d2⟩⟩ := Z
    simp only [List.mem_cons, List.not_mem_nil, or_false] at hc
    rcases hc with rfl | rfl | rfl | rfl | rfl
    · exact ⟨_, zz, nofun⟩
    · exact ⟨_, ti, nofun⟩
    · exact ⟨_, to, nofun⟩
    · exact ⟨o1, one, fun v q => nomatch d1.symm.trans q⟩
    · exact ⟨o2, two, fun v q => nomatch d2.symm.trans q⟩
  · obtain ⟨x, y, to⟩ := Z.to
    exact ⟨k z (by simp) _ Z.zz, k TI (by simp) _ Z.ti, ⟨x, y, k TO (by simp) _ to⟩, Z.one.at (k i1 (by simp)), Z.two.at (k i2 (by simp))⟩
  · intro X eP ew eK calm i pins s σ H E I fp Z go
    subst eP ew eK
    have Zl := @Z.lt
    obtain ⟨zz, ti, ⟨x0, y0, to⟩, one, two⟩ := Z
    obtain ⟨xs, ys, qx, qy, lx, ly⟩ := go
    obtain ⟨us, rx, px, _⟩ := I.tuple qx
    obtain ⟨vs, ry, py, _⟩ := I.list qy
    have ex := rx.length
    have ey := ry.length
    have hh : X.A.in1.handled = none := I.ok.hd calm
    refine wpAny_pyNext_zipD2_item S (Draws.tuple hh i1 a na us.toArray) (Draws.list hh i2 b nb vs.toArray) zz ti to ⟨one, px⟩ ⟨two, py.isList⟩ (by simp; omega) (by simp; omega) fun u v h' tk hu hv zz' to' st1 st2 new sz keep => ?_
    refine ⟨_, rfl, wpAny_letOwnedTupleGo_zip (s := { s with heap := h', toks := tk }) zz' fun h2 zz2 sb => ?_⟩
    have up : ∀ c o, c ≠ z → h'.get? c = some o → h2.get? c = some o := fun c o n e => (sb.2 c n).trans e
    have nz : s.heap.objs.size ≠ z := Nat.ne_of_gt (Zl (by simp))
    obtain ⟨x, hx, hu'⟩ : ∃ x, xs[i]? = some x ∧ RelV x u := by
      obtain ⟨u', e1, e2⟩ := rx.get (List.getElem?_eq_getElem lx)
      have : u' = u := by have : us[i]? = some u := by simpa using hu
                          rw [this] at e1; exact (Option.some.inj e1).symm
      exact ⟨_, List.getElem?_eq_getElem lx, this ▸ e2⟩
    obtain ⟨y, hy, hv'⟩ : ∃ y, ys[i]? = some y ∧ RelV y v := by
      obtain ⟨v', e1, e2⟩ := ry.get (List.getElem?_eq_getElem ly)
      have : v' = v := by have : vs[i]? = some v := by simpa using hv
                          rw [this] at e1; exact (Option.some.inj e1).symm
      exact ⟨_, List.getElem?_eq_getElem ly, this ▸ e2⟩
    have ok : ObjOk X.prog X.w (upd H s.heap.objs.size (.tup [x, y])) h2 s.heap.objs.size (.tup [x, y]) := ⟨show 2 ≤ sizeLine by decide, [u, v], .cons hu' (.cons hv' .nil), _, up _ _ nz new, rfl, _, rfl⟩
    have J := I.turnedNew (t' := tk) (fun c o nc e => up c o (ks nc).1 (keep c o (ks nc).1 (ks nc).2.1 (ks nc).2.2.1 (ks nc).2.2.2 e)) fp (Nat.le_refl _) ok
    refine ⟨.ref s.heap.objs.size, _, J, rfl, ⟨_, x, y, rfl, I.hok.fresh (Nat.le_refl _), rfl, fun l hl => I.tuple_inj hl qx ▸ hx, fun l hl => I.list_inj hl qy ▸ hy⟩, ?_, fun c hc => ?_⟩
    · exact ⟨zz2, up _ _ S.TIz (keep TI _ S.TIz S.TITO S.TIi1 S.TIi2 ti), ⟨u, v, up _ _ S.TOz to'⟩, st1.1.at fun o e => up i1 o S.zi1.symm e, st2.1.at fun o e => up i2 o S.zi2.symm e⟩
    · rw [upd_ne (Nat.ne_of_lt (Zl hc))]; exact (fp c hc).1
  · intro X eP ew eK calm i pins s σ H E I fp Z stop
    subst eP ew eK
    obtain ⟨zz, ti, ⟨x0, y0, to⟩, one, two⟩ := Z
    obtain ⟨xs, ys, qx, qy, lx, ly, en⟩ := stop
    obtain ⟨us, rx, px, _⟩ := I.tuple qx
    obtain ⟨vs, ry, py, _⟩ := I.list qy
    have ex := rx.length
    have ey := ry.length
    have hh : X.A.in1.handled = none := I.ok.hd calm
    exact wpAny_pyNext_zipD2_end S (Draws.tuple hh i1 a na us.toArray) (Draws.list hh i2 b nb vs.toArray) zz ti to ⟨one, px⟩ ⟨two, py.isList⟩ (by simp; omega) (by simp; omega) (by simp; omega)
      fun h' tk keep => ⟨rfl, I.turnedL (t' := tk) (fun c o nc e => keep c o (ks nc).1 (ks nc).2.1 (ks nc).2.2.1 (ks nc).2.2.2 e) fp⟩
end
def iZipM (K : PySem.W.Frag) (ta : TA) : TI := fun σ H R => ta σ H fun vs H1 => ∃ a b xs ys, vs = [.ref a, .ref b] ∧ SqT K H1 a xs ∧ SqL K H1 b ys ∧ R (ItzM K a b) H1
theorem pi_zipM {X : Cx} {e e2 : Expr} {ta : TA} {p pos tpos : Pos} {elts : List Expr} {kk : Nat} (g : Gl X "zip") (m : X.mg "zip" = none) (args : PA X [e, e2] ta)
    (s1 : starEach [e, e2] X.env = (false, eval e X.env) :: starEach [e2] X.env := by rfl) (s2 : (backTo pos (starEach [e2] X.env)).any (·.1) = false := by rfl) : PI X (.Tuple elts kk tpos) (.Call (.Name "zip" p) [e, e2] [] pos) (iZipM X.K ta) := by
  constructor
  intro pins s σ H R I rd
  refine Call_ (ld_blt I g m PyProof.Rows.boot_zip (PyProof.Rows.callWith_type1 (thn (args.run pos pins s σ H _ I rd) ?_) s1 s2))
  rintro us t ⟨vs, H1, J, rel, a, b, xs, ys, rfl, qx, qy, r⟩
  obtain ⟨u1, u2, rfl, ra, rb⟩ := rel.two
  cases ra
  cases rb
  obtain ⟨as, rx, px, _⟩ := J.tuple qx
  obtain ⟨bs, ry, py, _⟩ := J.list qy
  have la : a < t.heap.objs.size := let ⟨_, q, _⟩ := px; Heap.lt_size q
  have lb : b < t.heap.objs.size := let ⟨_, q, _⟩ := py.isList; Heap.lt_size q
  refine zip_begins2 (begins_tuple a as.toArray) (begins_list b bs.toArray) px py.isList fun h' zz ti to o1 o2 _ keep => wpAny_pyIter_zip zz ?_
  refine ⟨_, _, _, _, H1, rfl, J.kept (t' := t.toks) keep, turn_zipM (zip_sep2 (N := t.heap.objs.size) (fp1 := [a]) (fp2 := [b]) (by simp; omega) (by simp; omega)) (Nat.ne_of_lt la) (Nat.ne_of_lt (Nat.lt_succ_of_lt lb)), ⟨zz, ti, ⟨_, _, to⟩, ⟨_, o1, rfl, rfl⟩, ⟨_, o2, rfl, rfl⟩⟩, fun c hc => ?_, r⟩
  have le : t.heap.objs.size ≤ c := by simp only [List.mem_cons, List.not_mem_nil, or_false] at hc; rcases hc with q | q | q | q | q <;> rw [q] <;> first | exact Nat.le_refl _ | exact Nat.le_add_right _ _
  exact J.fpOk le (J.hok.fresh le)
end Aq
/-! loops and comprehensions over anything that is walked -/
namespace Aq
open PySem L2 Evl
/-- what an iterator gives while C stands: n turns, Y i x of each -/
structure Yl (J : It) (C : Hp → Prop) (n : Nat) (Y : Nat → V → Hp → Prop) : Prop where
  go : ∀ i H, C H → i < n → J.go i H
  yld : ∀ i H x H', C H → i < n → J.yld i H x H' → Ex H H' ∧ Y i x H'
  stop : ∀ H, C H → J.stop n H
theorem yl_str (z : Str) : Yl (Its z) (fun _ => True) z.cps.size (fun i x _ => ∃ c, z.cps[i]? = some c ∧ x = .str ⟨#[c]⟩) :=
  ⟨fun i H _ h => h, fun i H x H' _ _ y => ⟨by rw [y.1]; exact Ex.refl _, y.2⟩, fun H _ => Nat.le_refl _⟩
theorem yl_list {K : PySem.W.Frag} {a : Addr} (xs : List V) : Yl (Itl K a) (fun H => SqL K H a xs) xs.length (fun i x _ => xs[i]? = some x) :=
  ⟨fun i H c h => ⟨xs, xs[i], c, by simp [h]⟩, fun i H x H' c _ y => ⟨by rw [y.1]; exact Ex.refl _, y.2 xs c⟩, fun H c => ⟨xs, c, Nat.le_refl _⟩⟩
theorem yl_tup {K : PySem.W.Frag} {a : Addr} (xs : List V) : Yl (Itt K a) (fun H => SqT K H a xs) xs.length (fun i x _ => xs[i]? = some x) :=
  ⟨fun i H c h => ⟨xs, xs[i], c, by simp [h]⟩, fun i H x H' c _ y => ⟨by rw [y.1]; exact Ex.refl _, y.2 xs c⟩, fun H c => ⟨xs, c, Nat.le_refl _⟩⟩
theorem yl_range (lo : Int) (n : Nat) : Yl (Itr lo n) (fun _ => True) n (fun i x _ => x = .int (lo + i)) :=
  ⟨fun i H _ h => h, fun i H x H' _ _ y => ⟨by rw [y.1]; exact Ex.refl _, y.2⟩, fun H _ => Nat.le_refl _⟩
theorem yl_enum {K : PySem.W.Frag} {a : Addr} (xs : List V) : Yl (Ite K a) (fun H => SqL K H a xs) xs.length (fun i x H => ∃ T y, x = .ref T ∧ H T = some (.tup [.int (i : Nat), y]) ∧ xs[i]? = some y) :=
  ⟨fun i H c h => ⟨xs, xs[i], c, by simp [h]⟩, fun i H x H' c _ y => by
    obtain ⟨T, z, rfl, hn, rfl, hx⟩ := y
    exact ⟨Ex.new hn, T, z, rfl, upd_same, hx xs c⟩, fun H c => ⟨xs, c, Nat.le_refl _⟩⟩
theorem yl_zipM {K : PySem.W.Frag} {a b : Addr} (xs ys : List V) (hl : xs.length = ys.length) : Yl (ItzM K a b) (fun H => SqT K H a xs ∧ SqL K H b ys) xs.length (fun i v H => ∃ T x y, v = .ref T ∧ H T = some (.tup [x, y]) ∧ xs[i]? = some x ∧ ys[i]? = some y) :=
  ⟨fun i H c h => ⟨xs, ys, c.1, c.2, h, hl ▸ h⟩, fun i H v H' c _ y => by
    obtain ⟨T, x, y, rfl, hn, rfl, h1, h2⟩ := y
    exact ⟨Ex.new hn, T, x, y, rfl, upd_same, h1 xs c.1, h2 ys c.2⟩, fun H c => ⟨xs, ys, c.1, c.2, Nat.le_refl _, Nat.le_of_eq hl, .inl rfl⟩⟩
theorem yl_zipL {K : PySem.W.Frag} {a b : Addr} (xs ys : List V) (hl : xs.length = ys.length) : Yl (Itz K a b) (fun H => SqL K H a xs ∧ SqL K H b ys) xs.length (fun i v H => ∃ T x y, v = .ref T ∧ H T = some (.tup [x, y]) ∧ xs[i]? = some x ∧ ys[i]? = some y) :=
  ⟨fun i H c h => ⟨xs, ys, xs[i], ys[i], c.1, c.2, by simp [h], by simp⟩, fun i H v H' c _ y => by
    obtain ⟨T, x, y, rfl, hn, rfl, h1, h2⟩ := y
    exact ⟨Ex.new hn, T, x, y, rfl, upd_same, h1 xs c.1, h2 ys c.2⟩, fun H c => ⟨xs, ys, c.1, c.2, .inl (Nat.le_refl _)⟩⟩
section
variable {J : It} {C : Hp → Prop} {n : Nat} {Y : Nat → V → Hp → Prop} {σ : L2.St} {H H1 : Hp} {Q : VK} {nx bk ct : L2.St → Hp → Prop} {rt : VK} {g : TG} {tb : TS} {wi : TI} {tt : TT} {te : TE} {vs : List Nat}
theorem for_yl (y : Yl J C n Y) (Pv : Nat → L2.St → Hp → Prop) (hC : ∀ i σ H, i ≤ n → Pv i σ H → C H) (h0 : Pv 0 σ H)
    (hs : ∀ i x σ H H', i < n → Pv i σ H → Ex H H' → Y i x H' → g x σ H' fun σ2 H2 => tb ⟨Pv (i + 1), rt, nx, Pv (i + 1)⟩ σ2 H2) (hd : ∀ σ H, Pv n σ H → nx σ H) :
    ∃ W : Nat → Nat → L2.St → Hp → Prop, (∃ m, W 0 m σ H) ∧ ∀ i m σ H, W i m σ H →
      (J.stop i H ∧ nx σ H) ∨ (J.go i H ∧ ∃ N : L2.St → Hp → Prop, (∀ σ' H', N σ' H' → ∃ m', m' < m ∧ W (i + 1) m' σ' H') ∧ ∀ x H', J.yld i H x H' → g x σ H' fun σ2 H2 => tb ⟨N, rt, nx, N⟩ σ2 H2) := by
  refine ⟨fun i m σ H => m = n - i ∧ i ≤ n ∧ Pv i σ H, ⟨n, by simp, Nat.zero_le _, h0⟩, ?_⟩
  rintro i m σ H ⟨rfl, hi, p⟩
  by_cases hlt : i < n
  · refine .inr ⟨y.go i H (hC i σ H hi p) hlt, Pv (i + 1), fun σ' H' p' => ⟨n - (i + 1), by omega, rfl, hlt, p'⟩, fun x H' q => ?_⟩
    obtain ⟨e, q⟩ := y.yld i H x H' (hC i σ H hi p) hlt q
    exact hs i x σ H H' hlt p e q
  · have e : i = n := by omega
    subst e
    exact .inl ⟨y.stop H (hC i σ H hi p), hd σ H p⟩
theorem lc_yl {D : Addr} {Qd : Hp → Prop} (y : Yl J C n Y) (Pv : Nat → Hp → Prop) (hC : ∀ i H, i ≤ n → Pv i H → C H) (h0 : Pv 0 (upd H1 D (.lst [])))
    (hs : ∀ i x H H', i < n → Pv i H → Ex H H' → Y i x H' → g x (wipe σ vs) H' fun σ2 H2 => wipe σ2 vs = wipe σ vs ∧ tt σ2 H2 fun b H3 =>
      if b = true then te σ2 H3 fun y H4 => ∃ acc, H4 D = some (.lst acc) ∧ acc.length < sizeLine ∧ Pv (i + 1) (upd H4 D (.lst (acc ++ [y]))) else Pv (i + 1) H3) (hd : ∀ H, Pv n H → Qd H) :
    ∃ W : Nat → Nat → Hp → Prop, (∃ m, W 0 m (upd H1 D (.lst []))) ∧ ∀ i m H, W i m H →
      (J.stop i H ∧ Qd H) ∨ (J.go i H ∧ ∃ Nx : Hp → Prop, (∀ H', Nx H' → ∃ m', m' < m ∧ W (i + 1) m' H') ∧ ∀ x H', J.yld i H x H' → g x (wipe σ vs) H' fun σ2 H2 => wipe σ2 vs = wipe σ vs ∧ tt σ2 H2 fun b H3 =>
        if b = true then te σ2 H3 fun y H4 => ∃ acc, H4 D = some (.lst acc) ∧ acc.length < sizeLine ∧ Nx (upd H4 D (.lst (acc ++ [y]))) else Nx H3) := by
  refine ⟨fun i m H => m = n - i ∧ i ≤ n ∧ Pv i H, ⟨n, by simp, Nat.zero_le _, h0⟩, ?_⟩
  rintro i m H ⟨rfl, hi, p⟩
  by_cases hlt : i < n
  · refine .inr ⟨y.go i H (hC i H hi p) hlt, Pv (i + 1), fun H' p' => ⟨n - (i + 1), by omega, rfl, hlt, p'⟩, fun x H' q => ?_⟩
    obtain ⟨e, q⟩ := y.yld i H x H' (hC i H hi p) hlt q
    exact hs i x H H' hlt p e q
  · have e : i = n := by omega
    subst e
    exact .inl ⟨y.stop H (hC i H hi p), hd H p⟩
theorem wipe1 {k : Nat} (x : Option V) : wipe ((wipe σ [k]).set k x) [k] = wipe σ [k] := by simp [wipe, List.set_set]
/-- a comprehension whose elements are values, found without writing -/
theorem lc_pure {k : Nat} {f : Nat → V} (y : Yl J C n Y) (hC : ∀ H', Ex H1 H' → C H') (hn : n ≤ 100000)
    (he : ∀ i x H', i < n → Ex H1 H' → Y i x H' → ∀ Q' : VK, (∀ H2, Ex H' H2 → Q' (f i) H2) → te ((wipe σ [k]).set k (some x)) H' Q')
    (q : ∀ p H', H1 p = none → Ex H1 H' → H' p = some (.lst ((List.range n).map f)) → Q (.ref p) H') :
    ∀ D, H1 D = none → ∃ W : Nat → Nat → Hp → Prop, (∃ m, W 0 m (upd H1 D (.lst []))) ∧ ∀ i m H, W i m H →
      (J.stop i H ∧ Q (.ref D) H) ∨ (J.go i H ∧ ∃ Nx : Hp → Prop, (∀ H', Nx H' → ∃ m', m' < m ∧ W (i + 1) m' H') ∧ ∀ x H', J.yld i H x H' → gName k x (wipe σ [k]) H' fun σ2 H2 => wipe σ2 [k] = wipe σ [k] ∧ tYes σ2 H2 fun b H3 =>
        if b = true then te σ2 H3 fun y H4 => ∃ acc, H4 D = some (.lst acc) ∧ acc.length < sizeLine ∧ Nx (upd H4 D (.lst (acc ++ [y]))) else Nx H3) := by
  intro D hD
  refine lc_yl y (fun i H' => Ex H1 H' ∧ H' D = some (.lst ((List.range i).map f))) (fun i H' _ p => hC H' p.1) ⟨Ex.new hD, upd_same⟩ (fun i x H' H2 hi p e yy => ?_) (fun H' p => q D H' hD p.1 p.2)
  show wipe ((wipe σ [k]).set k (some x)) [k] = wipe σ [k] ∧ _
  refine ⟨wipe1 _, rd_yes (iteT ?_)⟩
  refine he i x H2 hi (p.1.trans e) yy _ fun H3 e3 => ⟨_, e3 _ _ (e _ _ p.2), by simp; exact Nat.lt_of_lt_of_le (Nat.lt_of_lt_of_le hi hn) (by decide), ?_, ?_⟩
  · exact Ex.mut ((p.1.trans e).trans e3) hD
  · rw [upd_same, List.range_succ, List.map_append]; rfl
/-- the same, of the reading -/
theorem rd_lcPure {k : Nat} {f : Nat → V} (hw : ∀ R : It → Hp → Prop, R J H1 → wi σ H R) (y : Yl J C n Y) (hC : ∀ H', Ex H1 H' → C H') (hn : n ≤ 100000)
    (he : ∀ i x H', i < n → Ex H1 H' → Y i x H' → ∀ Q' : VK, (∀ H2, Ex H' H2 → Q' (f i) H2) → te ((wipe σ [k]).set k (some x)) H' Q')
    (q : ∀ p H', H1 p = none → Ex H1 H' → H' p = some (.lst ((List.range n).map f)) → Q (.ref p) H') : tLc wi (gName k) tYes te [k] σ H Q := hw _ (lc_pure y hC hn he q)
theorem rd_lcYl (hw : ∀ R : It → Hp → Prop, R J H1 → wi σ H R) (y : Yl J C n Y) (Pv : Addr → Nat → Hp → Prop) (hC : ∀ D i H, i ≤ n → Pv D i H → C H) (h0 : ∀ D, H1 D = none → Pv D 0 (upd H1 D (.lst [])))
    (hs : ∀ D i x H H', i < n → Pv D i H → Ex H H' → Y i x H' → g x (wipe σ vs) H' fun σ2 H2 => wipe σ2 vs = wipe σ vs ∧ tt σ2 H2 fun b H3 =>
      if b = true then te σ2 H3 fun y H4 => ∃ acc, H4 D = some (.lst acc) ∧ acc.length < sizeLine ∧ Pv D (i + 1) (upd H4 D (.lst (acc ++ [y]))) else Pv D (i + 1) H3) (hd : ∀ D H, Pv D n H → Q (.ref D) H) :
    tLc wi g tt te vs σ H Q := hw _ fun D hD => lc_yl y (Pv D) (hC D) (h0 D hD) (hs D) (hd D)
theorem rd_forYl (hw : ∀ R : It → Hp → Prop, R J H1 → wi σ H R) (y : Yl J C n Y) (Pv : Nat → L2.St → Hp → Prop) (hC : ∀ i σ H, i ≤ n → Pv i σ H → C H) (h0 : Pv 0 σ H1)
    (hs : ∀ i x σ H H', i < n → Pv i σ H → Ex H H' → Y i x H' → g x σ H' fun σ2 H2 => tb ⟨Pv (i + 1), rt, nx, Pv (i + 1)⟩ σ2 H2) (hd : ∀ σ H, Pv n σ H → nx σ H) : tFor wi g tb ⟨nx, rt, bk, ct⟩ σ H :=
  hw _ (for_yl y Pv hC h0 hs hd)
/-- the inner loop of a comprehension with two fors -/
theorem in_yl {D : Addr} {N : Hp → Prop} {τ : L2.St} (y : Yl J C n Y) (Pv : Nat → Hp → Prop) (hC : ∀ i H, i ≤ n → Pv i H → C H) (h0 : Pv 0 H1)
    (hs : ∀ i x H H', i < n → Pv i H → Ex H H' → Y i x H' → g x τ H' fun σ2 H2 => wipe σ2 vs = τ ∧ tt σ2 H2 fun b H3 =>
      if b = true then te σ2 H3 fun y H4 => ∃ acc, H4 D = some (.lst acc) ∧ acc.length < sizeLine ∧ Pv (i + 1) (upd H4 D (.lst (acc ++ [y]))) else Pv (i + 1) H3) (hd : ∀ H, Pv n H → N H) :
    ∃ W : Nat → Nat → Hp → Prop, (∃ m, W 0 m H1) ∧ ∀ i m H, W i m H →
      (J.stop i H ∧ N H) ∨ (J.go i H ∧ ∃ Nx : Hp → Prop, (∀ H', Nx H' → ∃ m', m' < m ∧ W (i + 1) m' H') ∧ ∀ x H', J.yld i H x H' → g x τ H' fun σ2 H2 => wipe σ2 vs = τ ∧ tt σ2 H2 fun b H3 =>
        if b = true then te σ2 H3 fun y H4 => ∃ acc, H4 D = some (.lst acc) ∧ acc.length < sizeLine ∧ Nx (upd H4 D (.lst (acc ++ [y]))) else Nx H3) := by
  refine ⟨fun i m H => m = n - i ∧ i ≤ n ∧ Pv i H, ⟨n, by simp, Nat.zero_le _, h0⟩, ?_⟩
  rintro i m H ⟨rfl, hi, p⟩
  by_cases hlt : i < n
  · refine .inr ⟨y.go i H (hC i H hi p) hlt, Pv (i + 1), fun H' p' => ⟨n - (i + 1), by omega, rfl, hlt, p'⟩, fun x H' q => ?_⟩
    obtain ⟨e, q⟩ := y.yld i H x H' (hC i H hi p) hlt q
    exact hs i x H H' hlt p e q
  · have e : i = n := by omega
    subst e
    exact .inl ⟨y.stop H (hC i H hi p), hd H p⟩
/-- two fors: the inner one is shown for each turn of the outer one, for any N that Pv (i + 1) gives -/
theorem rd_lc2Yl {wi1 : TI} {g1 : TG} {tt1 : TT} {vs1 : List Nat} (hw : ∀ R : It → Hp → Prop, R J H1 → wi σ H R) (y : Yl J C n Y) (Pv : Addr → Nat → Hp → Prop) (hC : ∀ D i H, i ≤ n → Pv D i H → C H) (h0 : ∀ D, H1 D = none → Pv D 0 (upd H1 D (.lst [])))
    (hs : ∀ D i x H H', i < n → Pv D i H → Ex H H' → Y i x H' → ∀ N : Hp → Prop, (∀ H, Pv D (i + 1) H → N H) → g x (wipe σ vs) H' fun σ2 H2 => wipe σ2 vs = wipe σ vs ∧ tt σ2 H2 fun b H3 =>
      if b = true then wi1 σ2 H3 fun J1 H4 => ∃ W1 : Nat → Nat → Hp → Prop, (∃ m, W1 0 m H4) ∧ ∀ j k H, W1 j k H →
        (J1.stop j H ∧ N H) ∨ (J1.go j H ∧ ∃ Nx1 : Hp → Prop, (∀ H', Nx1 H' → ∃ k', k' < k ∧ W1 (j + 1) k' H') ∧ ∀ x H', J1.yld j H x H' → g1 x (wipe σ2 vs1) H' fun σ3 H5 => wipe σ3 vs1 = wipe σ2 vs1 ∧ tt1 σ3 H5 fun b H6 =>
          if b = true then te σ3 H6 fun y H7 => ∃ acc, H7 D = some (.lst acc) ∧ acc.length < sizeLine ∧ Nx1 (upd H7 D (.lst (acc ++ [y]))) else Nx1 H6) else N H3) (hd : ∀ D H, Pv D n H → Q (.ref D) H) :
    tLc2 wi g tt wi1 g1 tt1 te vs vs1 σ H Q := by
  refine hw _ fun D hD => ⟨fun i m H => m = n - i ∧ i ≤ n ∧ Pv D i H, ⟨n, by simp, Nat.zero_le _, h0 D hD⟩, ?_⟩
  rintro i m H ⟨rfl, hi, p⟩
  by_cases hlt : i < n
  · refine .inr ⟨y.go i H (hC D i H hi p) hlt, Pv D (i + 1), fun H' p' => ⟨n - (i + 1), by omega, rfl, hlt, p'⟩, fun x H' q => ?_⟩
    obtain ⟨e, q⟩ := y.yld i H x H' (hC D i H hi p) hlt q
    exact hs D i x H H' hlt p e q _ (fun _ q => q)
  · have e : i = n := by omega
    subst e
    exact .inl ⟨y.stop H (hC D i H hi p), hd D H p⟩
end
/-- a list's items by place -/
theorem range_map {α β : Type} (l : List α) (f : α → β) (d : β) : (List.range l.length).map (fun i => (l[i]?.map f).getD d) = l.map f := by
  apply List.ext_getElem
  · simp
  · intro i h1 h2
    have : i < l.length := by simpa using h2
    simp [this]
end Aq
/-! what stays; dicts with text keys; texts as lists of codes -/
namespace Aq
open PySem L2 Evl
/-- all but p stays -/
def Kx (p : Addr) (H H' : Hp) : Prop := ∀ a o, a ≠ p → H a = some o → H' a = some o
theorem Kx.refl (p : Addr) (H : Hp) : Kx p H H := fun _ _ _ h => h
theorem Kx.trans {p : Addr} {H H1 H2 : Hp} (a : Kx p H H1) (b : Kx p H1 H2) : Kx p H H2 := fun x o n h => b x o n (a x o n h)
theorem Kx.of {p : Addr} {H H' : Hp} (e : Ex H H') : Kx p H H' := fun a o _ h => e a o h
theorem Kx.put {p : Addr} {H : Hp} {o : HO} : Kx p H (upd H p o) := fun a u n h => by rw [upd_ne n]; exact h
theorem Kx.ex {p : Addr} {H H' : Hp} (e : Kx p H H') (h : H p = none) : Ex H H' := fun a o q => e a o (ne_of_none q h) q
/-- .. and a younger thing may be written -/
theorem Kx.mut {p q : Addr} {H H' : Hp} {o : HO} (e : Kx p H H') (h : H q = none) : Kx p H (upd H' q o) := fun a u n ha => by rw [upd_ne (ne_of_none ha h)]; exact e a u n ha
theorem Kx.lst {p a : Addr} {H H' : Hp} {xs : List V} {kvs : List (Key × V)} (e : Kx p H H') (hp : H p = some (.dK kvs)) (h : H a = some (.lst xs)) : H' a = some (.lst xs) := e a _ (ne_of h hp (by intro z; cases z)) h
theorem Kx.tup {p a : Addr} {H H' : Hp} {xs : List V} {kvs : List (Key × V)} (e : Kx p H H') (hp : H p = some (.dK kvs)) (h : H a = some (.tup xs)) : H' a = some (.tup xs) := e a _ (ne_of h hp (by intro z; cases z)) h
theorem Kx.free {p a : Addr} {H H' : Hp} (e : Kx p H H') (n : a ≠ p) (h : H' a = none) : H a = none := by
  cases q : H a with
  | none => rfl
  | some o => rw [e a o n q] at h; cases h
theorem Ex.free {a : Addr} {H H' : Hp} (e : Ex H H') (h : H' a = none) : H a = none := fresh_back e h
theorem upd_lst {H : Hp} {a b : Addr} {o : HO} {u : HO} (n : b ≠ a) (h : H b = some u) : upd H a o b = some u := by rw [upd_ne n]; exact h
/-! ### data -/
theorem canLay_strs : ∀ ws : List Str, (∀ x ∈ ws, PyData.strOk x = true) → PyData.canLay0 (.tuple (ws.map PyData.str)) = true
  | [], _ => by simp [PyData.canLay0, PyData.canLayAll0]
  | x :: r, h => by
    have ih := canLay_strs r fun y hy => h y (List.mem_cons_of_mem _ hy)
    simp only [PyData.canLay0, List.map_cons, PyData.canLayAll0] at ih ⊢
    simp [PyData.canLay0, ih, h x (List.mem_cons_self ..)]
theorem depthAll_strs : ∀ ws : List Str, PyData.depthAll (ws.map PyData.str) ≤ 1
  | [] => by simp [PyData.depthAll]
  | x :: r => by
    have ih := depthAll_strs r
    simp only [List.map_cons, PyData.depthAll, PyData.depth]
    omega
theorem shaped_strs (ws : List Str) (h : ∀ x ∈ ws, PyData.strOk x = true) : SeqAt.shaped (.tuple (ws.map PyData.str)) = true := by
  unfold SeqAt.shaped
  rw [canLay_strs ws h, Bool.true_and]
  apply decide_eq_true
  have := depthAll_strs ws
  simp only [PyData.depth]
  omega
theorem eqvAll_strs : ∀ ws zs : List Str, PyData.eqvAll (ws.map PyData.str) (zs.map PyData.str) = decide (ws = zs)
  | [], [] => rfl
  | [], _ :: _ => rfl
  | _ :: _, [] => rfl
  | x :: r, y :: t => by
    rw [List.map_cons, List.map_cons, PyData.eqvAll, eqvAll_strs r t, PyData.eqv, Bool.eq_iff_iff]
    simp
theorem dp_strs {K : PySem.W.Frag} {H : Hp} : ∀ ws : List Str, DpAll K H (ws.map V.str) (ws.map PyData.str)
  | [] => .nil
  | x :: r => .cons (.str x) (dp_strs r)
theorem putF_new {f : Str} {v : V} : ∀ {fs : List (Str × V)} (ks : List Str) (e : fs.map (·.1) = ks) (h : f ∉ ks), putF f v fs = fs ++ [(f, v)]
  | [], _, _, _ => rfl
  | (g, x) :: r, ks, e, h => by
    subst e
    have hg : ¬ g = f := fun q => h (by simp [q])
    have := putF_new (f := f) (v := v) (fs := r) _ rfl (fun q => h (by simp at q ⊢; exact .inr q))
    show (if g = f then _ else (g, x) :: putF f v r) = _
    rw [if_neg hg, this]
    rfl
theorem putF_len {f : Str} {v : V} : ∀ fs : List (Str × V), (putF f v fs).length ≤ fs.length + 1
  | [] => Nat.le_refl _
  | (g, x) :: r => by
    show (if g = f then (g, v) :: r else (g, x) :: putF f v r).length ≤ _
    split
    · simp
    · have := putF_len (f := f) (v := v) r
      simp; omega
theorem putF_lt {f : Str} {v : V} {fs : List (Str × V)} {n : Nat} (h : fs.length ≤ n) (hn : n < 999) : (putF f v fs).length ≤ n + 1 ∧ (putF f v fs).length < 1000 := by
  have := putF_len (f := f) (v := v) fs
  omega
theorem canLay_ints : ∀ ns : List Int, PyData.canLayAll0 (ns.map PyData.int) = true
  | [] => by simp [PyData.canLayAll0]
  | x :: r => by
    have ih := canLay_ints r
    rw [List.map_cons, PyData.canLayAll0, ih]; simp [PyData.canLay0]
theorem depthAll_ints : ∀ ns : List Int, PyData.depthAll (ns.map PyData.int) ≤ 1
  | [] => by simp [PyData.depthAll]
  | x :: r => by
    have ih := depthAll_ints r
    simp only [List.map_cons, PyData.depthAll, PyData.depth]
    omega
theorem shaped_ints (ns : List Int) : SeqAt.shaped (.list (ns.map PyData.int)) = true := by
  unfold SeqAt.shaped
  have := depthAll_ints ns
  rw [PyData.canLay0, canLay_ints, Bool.true_and]
  apply decide_eq_true
  simp only [PyData.depth]; omega
theorem dp_ints {K : PySem.W.Frag} {H : Hp} : ∀ ns : List Int, DpAll K H (ns.map V.int) (ns.map PyData.int)
  | [] => .nil
  | x :: r => .cons (.int x) (dp_ints r)
theorem eqv_emptyI : ∀ ns : List Int, PyData.eqv (.list (ns.map PyData.int)) (.list []) = ns.isEmpty
  | [] => rfl
  | _ :: _ => rfl
theorem eqv_emptyS : ∀ ns : List Str, PyData.eqv (.list (ns.map PyData.str)) (.list []) = ns.isEmpty
  | [] => rfl
  | _ :: _ => rfl
/-! ### the pen: a dict of three -/
section
variable {k1 k2 k3 : Str}
def pd3 (k1 k2 k3 : Str) (x y z : V) : List (Key × V) := [(Sum.inr k1, x), (Sum.inr k2, y), (Sum.inr k3, z)]
structure D3 (k1 k2 k3 : Str) : Prop where
  a : k1 ≠ k2
  b : k1 ≠ k3
  c : k2 ≠ k3
theorem D3.v1 (d : D3 k1 k2 k3) {x y z : V} : valV (pd3 k1 k2 k3 x y z) (Sum.inr k1) = some x := valV_pos rfl
theorem D3.v2 (d : D3 k1 k2 k3) {x y z : V} : valV (pd3 k1 k2 k3 x y z) (Sum.inr k2) = some y := by
  unfold pd3; rw [valV_neg (fun e => d.a (Sum.inr.inj e)), valV_pos rfl]
theorem D3.v3 (d : D3 k1 k2 k3) {x y z : V} : valV (pd3 k1 k2 k3 x y z) (Sum.inr k3) = some z := by
  unfold pd3; rw [valV_neg (fun e => d.b (Sum.inr.inj e)), valV_neg (fun e => d.c (Sum.inr.inj e)), valV_pos rfl]
theorem D3.p2 (d : D3 k1 k2 k3) {x y z v : V} : putK (pd3 k1 k2 k3 x y z) (Sum.inr k2) v = pd3 k1 k2 k3 x v z := by
  have e1 : ¬ (Sum.inr k1 : Key) = Sum.inr k2 := fun e => d.a (Sum.inr.inj e)
  have e2 : ¬ (Sum.inr k3 : Key) = Sum.inr k2 := fun e => d.c (Sum.inr.inj e).symm
  simp [putK, pd3, e1, e2, d.a, d.c, Ne.symm d.c]
theorem D3.p3 (d : D3 k1 k2 k3) {x y z v : V} : putK (pd3 k1 k2 k3 x y z) (Sum.inr k3) v = pd3 k1 k2 k3 x y v := by
  simp [putK, pd3, d.b, d.c]
theorem D3.m (d : D3 k1 k2 k3) {x y z : V} : mergeK [] (pd3 k1 k2 k3 x y z) = pd3 k1 k2 k3 x y z := by
  simp [mergeK, pd3, putK, d.a, d.b, d.c]
/-- the pen at pd, its cells at c: at most B of them were begun -/
def Pen (k1 k2 k3 : Str) (H : Hp) (pd c : Addr) (B : Nat) : Prop := ∃ (ns : List Int) (at_ rest : Int),
  H pd = some (.dK (pd3 k1 k2 k3 (.ref c) (.int at_) (.int rest))) ∧ H c = some (.lst (ns.map V.int)) ∧ 0 ≤ at_ ∧ at_ ≤ B ∧ 0 ≤ rest
variable {H H' : Hp} {pd c : Addr} {B B' : Nat}
theorem Pen.ex (p : Pen k1 k2 k3 H pd c B) (e : Ex H H') : Pen k1 k2 k3 H' pd c B := let ⟨ns, i, j, h1, h2, r⟩ := p; ⟨ns, i, j, e _ _ h1, e _ _ h2, r⟩
theorem Pen.mono (p : Pen k1 k2 k3 H pd c B) (h : B ≤ B') : Pen k1 k2 k3 H pd c B' := let ⟨ns, i, j, h1, h2, r1, r2, r3⟩ := p; ⟨ns, i, j, h1, h2, r1, by omega, r3⟩
theorem Pen.wr {D : Addr} {o : HO} (p : Pen k1 k2 k3 H pd c B) (n1 : pd ≠ D) (n2 : c ≠ D) : Pen k1 k2 k3 (upd H D o) pd c B :=
  let ⟨ns, i, j, h1, h2, r⟩ := p; ⟨ns, i, j, by rw [upd_ne n1]; exact h1, by rw [upd_ne n2]; exact h2, r⟩
theorem Pen.dK (p : Pen k1 k2 k3 H pd c B) : ∃ kvs, H pd = some (.dK kvs) := let ⟨_, _, _, h1, _⟩ := p; ⟨_, h1⟩
theorem Pen.np {D : Addr} (p : Pen k1 k2 k3 H pd c B) (h : H D = none) : pd ≠ D := let ⟨_, _, _, h1, _⟩ := p; ne_of_none h1 h
theorem Pen.nc {D : Addr} (p : Pen k1 k2 k3 H pd c B) (h : H D = none) : c ≠ D := let ⟨_, _, _, _, h2, _⟩ := p; ne_of_none h2 h
/-- draws -/
def spDraw (k1 k2 k3 : Str) : Sp := fun vs H Q _ => ∃ (pd c : Addr) (B : Nat) (m : Int), vs = [.ref pd, .int m] ∧ Pen k1 k2 k3 H pd c B ∧ B < 1000000000 ∧ 0 < m ∧ m < 1000000000 ∧
  ∀ r H', 0 ≤ r → r < m → Pen k1 k2 k3 H' pd c (B + 1) → Kx pd H H' → Q (.int r) H'
end
theorem atI_int {α : Type} {xs : List α} {i : Int} (h0 : 0 ≤ i) (h1 : i < xs.length) : ∃ v, v ∈ xs ∧ xs[i.toNat]? = some v ∧ atI xs i = some v := by
  have h : i.toNat < xs.length := by omega
  refine ⟨xs[i.toNat], List.getElem_mem h, List.getElem?_eq_getElem h, ?_⟩
  have e := atI_nat (List.getElem?_eq_getElem h)
  rw [Int.toNat_of_nonneg h0] at e
  exact e
theorem canLay_strsA : ∀ ws : List Str, (∀ x ∈ ws, PyData.strOk x = true) → PyData.canLayAll0 (ws.map PyData.str) = true := fun ws h => by
  have := canLay_strs ws h
  rwa [PyData.canLay0] at this
theorem shaped_strsL (ws : List Str) (h : ∀ x ∈ ws, PyData.strOk x = true) : SeqAt.shaped (.list (ws.map PyData.str)) = true := by
  unfold SeqAt.shaped
  rw [PyData.canLay0, canLay_strsA ws h, Bool.true_and]
  apply decide_eq_true
  have := depthAll_strs ws
  simp only [PyData.depth]
  omega
theorem perm_erase {α : Type} : ∀ (l : List α) (i : Nat) (x : α), l[i]? = some x → (x :: l.eraseIdx i).Perm l
  | [], _, _, h => by simp at h
  | y :: r, 0, x, h => by simp at h; subst h; exact List.Perm.refl _
  | y :: r, i + 1, x, h => by
    have ih := perm_erase r i x (by simpa using h)
    rw [List.eraseIdx_cons_succ]
    exact (List.Perm.swap y x _).trans (ih.cons y)
theorem join_ones : ∀ cs : List Nat, (Txt.join "" (cs.map fun c => (⟨#[c]⟩ : Str))).cps.toList = cs := fun cs => by
  rw [TL.join_eq]
  induction cs with
  | nil => rfl
  | cons c r ih =>
    cases r with
    | nil => rfl
    | cons d r =>
      show (⟨#[c]⟩ ++ "" ++ Str.join "" ((d :: r).map fun c => (⟨#[c]⟩ : Str)) : Str).cps.toList = _
      rw [PySem.W.KT.app_list, PySem.W.KT.app_list, ih]
      rfl
theorem ones_len : ∀ cs : List Nat, ((cs.map fun c => (⟨#[c]⟩ : Str)).map (·.length)).sum = cs.length
  | [] => rfl
  | c :: r => by
    have := ones_len r
    simp only [List.map_cons, List.sum_cons, List.length_cons, this]
    have : (⟨#[c]⟩ : Str).length = 1 := rfl
    omega
theorem mul_zero (x : Str) : Txt.mul x 0 = ⟨#[]⟩ := by
  unfold Txt.mul; rw [if_pos (by decide)]; rfl
theorem mul_one (x : Str) : Txt.mul x 1 = x := by
  unfold Txt.mul; rw [if_neg (by decide)]; simp
/-! ### texts -/
theorem str_ext {x y : Str} (h : x.cps.toList = y.cps.toList) : x = y := by
  cases x; cases y; congr 1; exact Array.toList_inj.mp h
theorem app_cps (x y : Str) : (x ++ y).cps.toList = x.cps.toList ++ y.cps.toList := PySem.W.KT.app_list x y
theorem app_len (x y : Str) : (x ++ y).length = x.length + y.length := by
  rw [← len_cps, ← len_cps, ← len_cps, app_cps, List.length_append]
theorem one_cps (c : Nat) : (⟨#[c]⟩ : Str).cps.toList = [c] := rfl
theorem one_len (c : Nat) : (⟨#[c]⟩ : Str).length = 1 := rfl
end Aq
/-! an own exception over ValueError whose __init__ begins super().__init__(e) -/
namespace Aq
open PySem PySem.Spec PyProof.Rows L2 NdefX
section
variable {prog : Program} {w : World} {A : Around} {E : Value → Shared → Prop} {s : Shared} {nm q : Str} {C N x u t : Addr} {bs bm : List Value} {hdct : Bool} {sn : List Str} {sub : List Value} {ab : Bool} {col : Option Bool} {dd dv : Option Addr} {k0 k1 k2 k3 k5 : Option Value} {rest : List Value}
/-- ValueError.__init__ bound to x, called -/
theorem mw_init {Q : Value → Shared → Prop} (hC : s.heap.get? C = some (excClassObj nm q C N bs bm hdct sn sub ab col dd k0 k1 k2 k3 k5 "ValueError.__new__")) (hx : s.heap.get? x = some (PySem.W.excRec (.ref C) t dv .none .none (.bool false)))
    (hu : s.heap.get? u = some (PySem.W.kxs_mw "ValueError.__init__" x)) (hz : rest.length ≤ sizeLine)
    (h : ∀ h' t', (∀ b o, b ≠ x → s.heap.get? b = some o → h'.get? b = some o) → h'.get? x = some (PySem.W.excRec (.ref C) t' dv .none .none (.bool false)) → Q .none { s with heap := h' }) : wpAny (model prog w) A (call (.ref u) rest) Q E s := by
  obtain ⟨hp, g, d, tk, os⟩ := s
  refine wpAny_call (codeAny_of_tree (show wpAny _ A.in1 (callAny (.ref u) ⟨rest, []⟩) _ _ _ from ?_))
  unfold callAny
  refine wpAny_bind (wpAny_load hu (PySem.W.KFB.if_so (by show (Value.type "method-wrapper" == Value.type "method" || Value.type "method-wrapper" == Value.type "builtin_function_or_method" || Value.type "method-wrapper" == Value.type "method-wrapper") = true; decide) (wpAny_bind (PySem.W.check_bound_init F.excBase_ValueError.toExcCallFacts hC hx rfl (wpAny_bind (wpAny_pure (wpAny_pure ⟨plainId_quiet F.excBase_ValueError.init.plain _, codeAny_builtin F.excBase_ValueError.initEntry ?_⟩)))))))
  exact PySem.W.exc_init_tree hx hz fun h' k e _ => h h' _ k e
end
/-- what the written part says of the class at D and of its __init__, F at f, which begins super().__init__(..) -/
structure XI (P : Program) (K : PySem.W.Frag) (mg : Str → Option Value) (F : NF) (f D : Addr) (a0 : Str) (doc pm ctv : Value) : Prop where
  lk : ∃ oc od osl, K.lookup f = some ⟨oc, od, .func (F.fd doc pm ctv), osl⟩
  cd : PySem.W.codeIn K (.ref F.c) F.qual = true
  cl : ∃ cc c1 c2 c3, F.cl = [(("__class__" : Str), cc)] ∧ K.lookup cc = some ⟨c1, c2, .cell (some (.ref D)), c3⟩
  ar : ∃ ar, (F.params.posonlyargs ++ F.params.args).head? = some ar ∧ ar.arg = a0
  fl : ∃ c1 c2 c3 vs file tf, K.lookup F.c = some ⟨c1, c2, .fields vs, c3⟩ ∧ vs[2]? = some (.str file tf) ∧ ((P.main.file : Str) == file) = true
  me : PySem.W.mroIn K D (.ref D) = some true
  sg : mg "super" = none
  sk : F.scope.names.lookup ("super" : Str) = some .globalImplicit
  st : (P.main.scope.names.lookup ("super" : Str)).isSome = false
  op : PySem.W.nsIn K cStatics "thirdparty.any" = some none
  up : PySem.W.ks_superIn K D D "__init__" = some (some (.builtin "ValueError.__init__"))
  ve : PySem.W.subIn K (.ref D) (.type "ValueError") = some true
  ox : OexC K D
theorem fn_exc {CX : CXT} {P : Program} {w : World} {K : PySem.W.Frag} {mg : Str → Option Value} {base : Heap} {N psr : List Str} {a0 : Str} {F : NF} {f D : Addr} {k : Nat} {sp : Sp} {doc pm ctv : Value} {e : Expr} {rest : List Stmt} {p0 p1 p2 p3 p4 : Pos}
    (T : XI P K mg F f D a0 doc pm ctv) (S : NScope N (a0 :: psr) ["__class__"] F.scope) (eb : F.body = .Expr (.Call (.Attribute (.Call (.Name "super" p0) [] [] p1) "__init__" p2) [e] [] p3) p4 :: rest)
    (len : ∀ vs H Q E, sp vs H Q E → vs.length = (a0 :: psr).length)
    (hbody : ∀ (A : Around) (outer : List Env) (s : Shared) (H : Hp) (vs : List V) (Q : VK) (E : XK), Room k (A.deeper (envF F f s.heap.objs.size)) → sp vs H Q E → ∃ ta t a, PA (ncx CX P w K mg base N F f A outer s H E) [e] ta ∧ PSs (ncx CX P w K mg base N F f A outer s H E) rest t ∧
      vs[0]? = some (.ref a) ∧ H a = some (exo a D none) ∧ ta (startF N vs [none]) H fun xs H1 => xs.length ≤ 1000 ∧ H1 a = some (exo a D none) ∧ t { nx := fun _ H' => Q .non H', rt := Q } (startF N vs [none]) H1)
    (hst : ∀ A outer s H E, starEach [e] (ncx CX P w K mg base N F f A outer s H E).env = (false, eval e (ncx CX P w K mg base N F f A outer s H E).env) :: starEach [] (ncx CX P w K mg base N F f A outer s H E).env := by intros; rfl)
    (hev : ∃ pl : Addr → Sem Bool, ∀ L, eval (.Call (.Attribute (.Call (.Name "super" p0) [] [] p1) "__init__" p2) [e] [] p3) (envF F f L) = (do
      let ov ← attributeBase (.Call (.Name "super" p0) [] [] p1) "__init__" (envF F f L) (eval (.Call (.Name "super" p0) [] [] p1) (envF F f L))
      standAt p2.atName
      let (g, first) ← holding [ov] (getMethod ov "__init__" (pl L))
      callWith p3 g first (backTo p3 (starEach [e] (envF F f L))) []) := by exact ⟨_, fun _ => rfl⟩)
    (hin : ∀ L, interactive (envF F f L) = false := by intros; rfl)
    (hsw : ∀ L, swapsWith (.Call (.Attribute (.Call (.Name "super" p0) [] [] p1) "__init__" p2) [e] [] p3) none p4.line (envF F f L) = pure false := by intros; rfl) :
    FnOk P w K mg base CX (k + 1) f (F.fd doc pm ctv) (a0 :: psr) sp := by
  refine ⟨len, fun A outer s H args us vs Q E hr e0 hb r hsp => ?_⟩
  have hl := len _ _ _ _ hsp
  have KX : K.In s.heap := e0.mod.kin.keeps fun b o z => (e0.bs b o z).1
  obtain ⟨oc, od, osl, lk⟩ := T.lk
  obtain ⟨cc, c1, c2, c3, ecl, hcell⟩ := T.cl
  obtain ⟨ar, har, ear⟩ := T.ar
  obtain ⟨d1, d2, d3, cvs, file, tf, hcode, hvs, hfile⟩ := T.fl
  have hfree : ∀ b o, K.lookup b = some o → H b = none := fun b o z => (e0.bs b o (e0.mod.kin _ _ z)).2
  refine codeAny_call_function hr.depth (KX _ _ lk) rfl S.co S.gen rfl (PySem.W.codeRec_of KX T.cd) (hb _ _ _ _ (wpAny_newFunctionEnv S.nocell (fun ⟨n, _⟩ hy => S.par n (List.of_mem_zip hy).1) (fun h1 hns hsb => ⟨(e0.mod.nolimit.keeps fun b o z => (e0.bs b o z).1).fresh _ hsb, ?_⟩) S.kind))
  show codeAny _ _ (.func F.body (envF F f s.heap.objs.size)) _ _
  have kp : ∀ b o, s.heap.get? b = some o → h1.get? b = some o := fun b o z => hsb.extBut b o (Nat.ne_of_lt (Heap.lt_size z)) (Heap.get?_push_of_some _ z)
  have CA : CellsAt F.cl ["__class__"] [none] s.heap H := by
    refine ⟨rfl, fun y c h => ?_, fun x y c h1 h2 => ?_, fun i y h => ?_⟩
    · rw [ecl] at h
      have : c = cc := by
        simp only [List.lookup] at h
        split at h
        · exact (Option.some.inj h).symm
        · cases h
      subst this
      exact ⟨hfree _ _ hcell, _, _, KX _ _ hcell, rfl⟩
    · rw [ecl] at h1 h2
      simp only [List.lookup] at h1 h2
      split at h1
      · split at h2
        · rename_i q1 _ q2
          exact (eq_of_beq q1).trans (eq_of_beq q2).symm
        · cases h2
      · cases h1
    · cases i with
      | zero =>
        simp at h
        subst h
        exact ⟨cc, by rw [ecl]; simp [List.lookup], fun v hv => by simp at hv⟩
      | succ i => simp at h
  obtain ⟨ta, t, a, pa, ps, ev, ha, hq⟩ := hbody A outer s H vs Q E (hr.deeper _) hsp
  have I : Inv (ncx CX P w K mg base N F f A outer s H E) [] (startF N vs [none]) H { s with heap := h1, toks := s.toks + ((a0 :: psr).zip us).length } := inv_startN S hr.hd e0 hl r CA hns kp
  generalize hs1 : ({ s with heap := h1, toks := s.toks + ((a0 :: psr).zip us).length } : Shared) = s1 at I ⊢
  have hns1 : s1.heap.Ns s.heap.objs.size fun y => ((a0 :: psr).zip us).reverse.lookup y := by rw [← hs1]; exact hns
  have fin : ∀ {fl : Flow} {s' : Shared}, SP (ncx CX P w K mg base N F f A outer s H E) [] { nx := fun _ H' => Q .non H', rt := Q } fl s' → CR CX outer P w H s Q E (.ok (.ret (match fl with | .ret v => v | _ => .none))) s' := fun {fl s'} hs => by
    cases fl with
    | ret u => obtain ⟨v, σ', H', J, rv, q⟩ := hs; exact ⟨v, H', J.os, J.bare, J.base, J.hok, rv, q⟩
    | next => obtain ⟨σ', H', J, q⟩ := hs; exact ⟨.non, H', J.os, J.bare, J.base, J.hok, rfl, q⟩
    | brk => obtain ⟨_, _, _, q⟩ := hs; exact q.elim
    | cont => obtain ⟨_, _, _, q⟩ := hs; exact q.elim
  refine ks_codeAny_funcAt ?_
  rw [eb]
  have hkc : (envF F f s.heap.objs.size).kindOf "__class__" = some .free := S.frk _ (by simp)
  have X1 := I.kIn
  obtain ⟨nm, qn, NN, bs, bm, sn, sub, ab, col, dd, k0, k1, k2, k3, k5, hC, hbm⟩ := T.ox.cls
  obtain ⟨t1, hoa⟩ := exo_at I.hok ha
  have hns2 := hns1
  have hua : ((a0 :: psr).zip us).reverse.lookup a0 = some (.ref a) := by
    obtain ⟨u, hu, ru⟩ := r.get ev
    cases ru
    have nd : (a0 :: psr).Nodup := by
      have q := S.nd.sublist (List.take_sublist ((a0 :: psr).length + [("__class__" : Str)].length) N)
      rw [S.pre] at q
      exact (List.nodup_append.mp q).1
    exact zip_look nd (i := 0) rfl hu
  have hCl : PySem.W.clsIn K D = some { name := nm, bases := bs, mro := .ref D :: bm, ns := NN, qualname := qn, hasDict := true, slotNames := sn, subclasses := sub, abstract := ab, collection := col, hasDel := false } := by
    unfold PySem.W.clsIn; rw [hC] <;> rfl
  obtain ⟨pl, hev⟩ := hev
  refine ks_wpAt_execs_cons (ks_wpAt_Expr_any (ks_wpAt_MethodCall (ks_wpAt_super_base T.sk hkc (by decide) rfl (X1 _ _ lk) rfl har rfl (X1 _ _ hcode) rfl hvs hfile T.st ?_) (hev _)) (hin _) (hsw _))
  obtain ⟨mb, b1, b2⟩ := I.mod.blt
  refine PySem.W.ks_loadName_global S.kind T.sk (Calls.loadGlobal_builtin (I.mod.glob.keeps I.bk) T.sg (b1.keeps I.bk) ((b2 _ (by decide)).trans (by decide +kernel)) ⟨rfl, ?_⟩)
  refine wpAny_loadName_free S.kind hkc (c := cc) (by show F.cl.lookup _ = _; rw [ecl]; simp [List.lookup]) ⟨_, X1 _ _ hcell, rfl⟩ ?_
  subst ear
  refine wpAny_loadName_local S.kind (S.par _ (by simp)) hns1 hua (ks_wpAny_isType_cls (X1 _ _ hC) rfl ⟨rfl, ?_⟩)
  have naD : a ≠ D := fun z => by
    have := hfree D _ hC
    rw [← z, ha] at this
    cases this
  clear hs1 hns2
  obtain ⟨hp, g, d, tk, os⟩ := s1
  refine ks_wpAny_call_super (X1 _ _ hC) rfl hoa rfl (fun c q => nomatch q) (PySem.W.looks_mroIn X1 T.me) fun h2 hso kp2 => ?_
  have I2 := I.kept (t' := tk) kp2
  have hup := T.up
  unfold PySem.W.ks_superIn at hup
  rw [hCl] at hup
  have IA : PySem.W.InstAt h2 a { cls := .ref D, dict := none, data := .fields #[.ref t1, .none, .none, .none, .bool false, .none] } D none := ⟨kp2 _ _ hoa, rfl, rfl, trivial⟩
  refine PySem.W.kxs_getMethod PySem.W.kxs_ValueError hso (PySem.W.looks_opaque I2.kIn T.op) (l₀ := .ref D :: bm) (fun A Q E s k q => wpAny_bind ((PySem.W.looks_clsIn I2.kIn hCl) A _ E s k (wpAny_pure q))) rfl I2.kIn hup (IA.type.andThen (PySem.W.looks_subIn I2.kIn T.ve)) naD rfl ?_
  have I3 : Inv (ncx CX P w K mg base N F f A outer s H E) [(h2.objs.size, PySem.W.kxs_mw "ValueError.__init__" a)] (startF N vs [none]) H ⟨h2.push (PySem.W.kxs_mw "ValueError.__init__" a), g, d, tk + 1, os⟩ := by
    have J := I2.kept (h' := h2.push (PySem.W.kxs_mw "ValueError.__init__" a)) (t' := tk + 1) fun b o z => Heap.get?_push_of_some _ z
    refine J.pins_of fun p hp => ?_
    rw [List.mem_singleton] at hp
    subst hp
    exact ⟨Heap.get?_push_size _ rfl, I2.hok.fresh (Nat.le_refl _), Nat.ne_of_gt I2.lt, I2.nofs (Nat.le_refl _), nofun⟩
  have hs0 : starEach [e] (envF F f s.heap.objs.size) = (false, eval e (envF F f s.heap.objs.size)) :: starEach [] (envF F f s.heap.objs.size) := hst A outer s H E
  have run : wpAny (model P w) _ (spliced (backTo p3 (starEach [e] (envF F f s.heap.objs.size)))) _ _ _ := pa.run p3 _ _ _ H _ I3 hq
  show wpAny _ _ (callWith p3 (.ref h2.objs.size) [] (backTo p3 (starEach [e] (envF F f s.heap.objs.size))) []) _ _ _
  rw [hs0] at run ⊢
  refine PySem.W.kxs_callWith (i := "ValueError.__init__") (x := a) rfl (Calls.evalArgs_plain (thn run fun us2 s2 hs2 => ?_))
  obtain ⟨ws, H1, I4, rws, hz, ha1, q1⟩ := hs2
  obtain ⟨t2, ho2⟩ := exo_at I4.hok ha1
  have pin := (I4.pin _ (List.mem_append_right _ (List.mem_singleton_self _))).1
  have lz : us2.length ≤ sizeLine := by rw [← rws.length]; exact Nat.le_trans hz (by decide)
  refine ⟨pin, mw_init (I4.kIn _ _ hC) ho2 pin lz fun h3 t3 k3 hx3 => ?_⟩
  have J := I4.write (t' := s2.toks) (x := a) (e := a) (o := exo a D none) (by rw [ha1]; exact True.intro) (.inl rfl) k3 ⟨_, hx3⟩ (exo_ok hx3)
  have eu : upd H1 a (exo a D none) = H1 := by
    funext b
    by_cases hb : b = a
    · rw [hb, upd_same, ha1]
    · rw [upd_ne hb]
  rw [eu] at J
  have J0 : Inv (ncx CX P w K mg base N F f A outer s H E) [] (startF N vs [none]) H1 _ := J.pins_of (pins' := []) (fun p hp => by cases hp)
  refine wpAt_of_wpAny (wpAny_mono (ps.run [] _ _ H1 _ J0 q1) (fun fl s' hs => fin hs) fun e s' hs => hs)
end Aq
/-! try with several clauses `except X as n` -/
namespace Aq
open PySem PySem.Spec PyProof.Rows L2
abbrev Clause := Value × Option Nat × (Addr → Value → Option Addr → TS)
/-- the ends of a suite behind which slot i is gone -/
def Ends.gone (D : Ends) (i : Nat) : Ends := { nx := fun σ' H' => D.nx (σ'.set i none) H', rt := D.rt, bk := fun σ' H' => D.bk (σ'.set i none) H', ct := fun σ' H' => D.ct (σ'.set i none) H' }
def wAsM (K : PySem.W.Frag) (Wout : WX) (D : Ends) : List Clause → WX
  | [] => Wout
  | (c, none, ts) :: r => fun cls d σ H => ∃ b, PySem.W.exmOne K cls c = some b ∧ (b = true → ∀ a, H a = none → ts a cls d D σ H) ∧ (b = false → wAsM K Wout D r cls d σ H)
  | (c, some i, ts) :: r => fun cls d σ H => ∃ b, PySem.W.exmOne K cls c = some b ∧ (b = true → ∀ a, H a = none → ts a cls d (Ends.gone D i) (σ.set i (some (.ref a))) H) ∧ (b = false → wAsM K Wout D r cls d σ H)
inductive HdsA (X : Cx) : List ExceptHandler → List Clause → Prop
  | nil : HdsA X [] []
  | cons {x n : Str} {c : Value} {i : Nat} {ts : Addr → Value → Option Addr → TS} {b0 : Stmt} {suite : List Stmt} {np pos' : Pos} {hds : List ExceptHandler} {l : List Clause} (hc : Names X x c) (hi : X.N[i]? = some n) (hln : X.env.kindOf n = some .local)
      (hsu : ∀ (a : Addr) (oe : Obj) (cls : Value) (d : Option Addr) (pn : List (Addr × Obj)), Zc cls d oe → (∃ vs, oe.data = .fields vs) → PSs (X.suite a ((a, oe) :: pn)) (b0 :: suite) (ts a cls d)) (r : HdsA X hds l) : HdsA X (.ExceptHandler (some (.Name x np)) (some n) (b0 :: suite) pos' :: hds) ((c, some i, ts) :: l)
  | consN {x : Str} {c : Value} {ts : Addr → Value → Option Addr → TS} {b0 : Stmt} {suite : List Stmt} {np pos' : Pos} {hds : List ExceptHandler} {l : List Clause} (hc : Names X x c)
      (hsu : ∀ (a : Addr) (oe : Obj) (cls : Value) (d : Option Addr) (pn : List (Addr × Obj)), Zc cls d oe → (∃ vs, oe.data = .fields vs) → PSs (X.suite a ((a, oe) :: pn)) (b0 :: suite) (ts a cls d)) (r : HdsA X hds l) : HdsA X (.ExceptHandler (some (.Name x np)) none (b0 :: suite) pos' :: hds) ((c, none, ts) :: l)
section
variable {X : Cx} {body : List Stmt} {h0 : ExceptHandler} {hds : List ExceptHandler} {l : List Clause} {pos : Pos} {tb : WX → TS} {Wout : WX}
theorem ps_try_asM (hs : X.stack = X.env :: X.outer) (hf : X.env.frame = some X.env.locals) (hN : X.N.Nodup) (tk : Takes X Wout)
    (hb : ∀ (W : WX) (pn : List (Addr × Obj)) (xe : Value → Shared → Prop), Takes (X.tr pn xe) W → PassesOwn (model X.prog X.w) X.A X.env xe → PSs (X.tr pn xe) body (tb W)) (hh : HdsA X (h0 :: hds) l) : PS X (.Try body (h0 :: hds) [] [] pos) (fun D σ H => tb (wAsM X.K Wout D l) D σ H) := by
  constructor
  intro pins s σ H D I rd
  have ok := I.ok
  have hfr : X.A.frames = some (X.env :: X.outer) := hs ▸ ok.frames
  refine wpAny_Try_except (wpAny_mono ((hb (wAsM X.K Wout D l) (X.pn ++ pins) (fun e s1 => wpAny (model X.prog X.w) X.A (noteFrame e X.env) (fun _ s2 => wpAny (model X.prog X.w) X.A (setFlight e none) (fun _ s3 => wpAny (model X.prog X.w) X.A (handleBy e X.env (h0 :: hds)) (SP X pins D) X.xe s3) X.xe s2) X.xe s1) ?_ PassesOwn.looking).run [] s σ H D (I.toTry _) rd) ?_ fun _ _ q => q)
  · rintro u t ⟨a, B, tI, pins', σ', H', cls, d, rfl, J', nb, up, sky, na, os, ag, wish⟩
    have J : Inv X pins σ' H' tI := J'.ofTry ok
    refine Sky.land Zc.steady hfr hf (hs ▸ sky) fun h3 fl3 up3 => ?_
    have J3 : Inv X pins σ' H' { t with heap := h3 } := J.landed nb fl3.1 (up.trans up3) os ag
    obtain ⟨oe3, vs3, he3, hz3, hd3⟩ := fl3.there
    have nfr : a ∉ frs (X.env :: X.outer) := fun hm => by
      obtain ⟨_, o', e', hnf⟩ := fl3.2.2.1.mem hm
      cases he3.symm.trans e'
      exact hnf _ hd3
    have nL : a ≠ X.env.locals := fun z => nfr (List.mem_filterMap.mpr ⟨X.env, List.mem_cons_self, z ▸ hf⟩)
    have nF : a ∉ X.fs := fun hm => by
      obtain ⟨e, he, q⟩ := List.mem_filterMap.mp hm
      exact nfr (List.mem_filterMap.mpr ⟨e, List.mem_cons_of_mem _ he, q⟩)
    have S3 := J3.suite he3 hd3 na nL nF
    clear hb
    have go : ∀ {hs' : List ExceptHandler} {l' : List Clause}, HdsA X hs' l' → wAsM X.K Wout D l' cls d σ' H' → wpAny (model X.prog X.w) X.A (handleBy (.ref a) X.env hs') (SP X pins D) X.xe { t with heap := h3 } := fun {hs' l'} hk => by
      induction hk with
      | nil =>
        intro wo
        obtain ⟨_, _, _, oe, vs, T, oT, ts', he, hz, hd, h1, _⟩ := id fl3
        have out : wpAny (model X.prog X.w) X.A (setFlight (.ref a) X.env.frame) (fun _ s4 => wpAny (model X.prog X.w) X.A (throw (.ref a) : Sem Flow) (SP X pins D) X.xe s4) X.xe { t with heap := h3 } := by
          rw [hf]
          exact HandSPX.setFlight_upZ fl3 fun h4 hh4 up4 => wpAny_throw (tk _ _ ⟨a, B, tI, pins, σ', H', cls, d, rfl, J, nb, (up.trans up3).trans up4, .inr (.inr (hs ▸ hh4)), na, os, ag, wo⟩)
        refine wpAny_handleBy_nil ?_
        delta PySem.passOn
        refine wpAny_bind (wpAny_field he hd h1 (?_ : wpAny _ _ (if (Value.ref T == Value.none) = true then _ else _) _ _ _))
        rw [if_neg (by simp : ¬ (Value.ref T == Value.none) = true)]
        first | exact wpAny_bind (wpAny_pure (wpAny_bind out)) | exact wpAny_bind out
      | @cons x n c i ts b0 suite np pos' hds2 l2 hc hi hln hsu r ih =>
        rintro ⟨b, eb, yes, no⟩
        have LM := PySem.W.exm_one (M := model X.prog X.w) J3.kIn (show PySem.W.Looks (model X.prog X.w) h3 (typeOf (.ref a)) cls from fun A Q E s k q => wpAny_typeOf_ref (k _ _ he3) (hz3.1.symm ▸ q)) eb
        have test : ∀ {Q : Value → Shared → Prop} {E : Value → Shared → Prop}, Q c { t with heap := h3 } → wpAny (model X.prog X.w) (X.A.mark (some (.ref a))) (eval (.Name x np) X.env) Q E { t with heap := h3 } := fun {Q E} q => by
          exact hc.2.2.elim (fun z => ld_glob (X := X.suite a ((a, oe3) :: (X.pn ++ pins))) S3 hc.1 z q hc.2.1) fun z => ld_blt (X := X.suite a ((a, oe3) :: (X.pn ++ pins))) S3 hc.1 z.1 z.2.1 q z.2.2 hc.2.1
        refine wpAny_handleBy_cons (codeAny_handlers_test (test (LM.here ?_))) (fun q => nomatch q)
        cases b with
        | false => exact ih (no rfl)
        | true =>
          refine codeAny_handlers_suite_as (HandSPX.lands_againZ fl3 fun h4 fl4 up4 => ?_)
          obtain ⟨oe4, vs4, he4, hz4, hd4⟩ := fl4.there
          have J4 : Inv X pins σ' H' { t with heap := h4 } := J.landed nb fl4.1 ((up.trans up3).trans up4) os ag
          have S4 := J4.suite he4 hd4 na nL nF
          refine store_ok (X := X.suite a ((a, oe4) :: (X.pn ++ pins))) (v := .ref a) S4 hN hi (.inl hln) rfl (fun s5 S5 => ?_) (.inr hln)
          refine wpAny_mono ((hsu a oe4 cls d (X.pn ++ pins) hz4 ⟨_, hd4⟩).run [] s5 _ H' _ S5 (yes rfl a na)) (fun f s6 hsp => ?_) fun _ _ z => False.elim z
          have gone : ∀ {σ6 : L2.St} {H6 : Hp} {Q : Shared → Prop}, Inv (X.suite a ((a, oe4) :: (X.pn ++ pins))) [] σ6 H6 s6 → (∀ s7, Inv X pins (σ6.set i none) H6 s7 → Q s7) → wpAny (model X.prog X.w) X.A (do bindName X.env n .none; unbindBehindTheSuite X.env n pos') (fun _ s7 => Q s7) X.xe s6 :=
            fun {σ6 H6 Q} S6 hq => gone_ok (S6.unsuite ok) hN hi hln hq
          cases f with
          | ret u => obtain ⟨v6, σ6, H6, S6, r6, q6⟩ := hsp; exact gone S6 fun s7 J7 => ⟨_, _, _, J7, r6, q6⟩
          | next => obtain ⟨σ6, H6, S6, q6⟩ := hsp; exact gone S6 fun s7 J7 => ⟨_, _, J7, q6⟩
          | brk => obtain ⟨σ6, H6, S6, q6⟩ := hsp; exact gone S6 fun s7 J7 => ⟨_, _, J7, q6⟩
          | cont => obtain ⟨σ6, H6, S6, q6⟩ := hsp; exact gone S6 fun s7 J7 => ⟨_, _, J7, q6⟩
      | @consN x c ts b0 suite np pos' hds2 l2 hc hsu r ih =>
        rintro ⟨b, eb, yes, no⟩
        have LM := PySem.W.exm_one (M := model X.prog X.w) J3.kIn (show PySem.W.Looks (model X.prog X.w) h3 (typeOf (.ref a)) cls from fun A Q E s k q => wpAny_typeOf_ref (k _ _ he3) (hz3.1.symm ▸ q)) eb
        have test : ∀ {Q : Value → Shared → Prop} {E : Value → Shared → Prop}, Q c { t with heap := h3 } → wpAny (model X.prog X.w) (X.A.mark (some (.ref a))) (eval (.Name x np) X.env) Q E { t with heap := h3 } := fun {Q E} q => by
          exact hc.2.2.elim (fun z => ld_glob (X := X.suite a ((a, oe3) :: (X.pn ++ pins))) S3 hc.1 z q hc.2.1) fun z => ld_blt (X := X.suite a ((a, oe3) :: (X.pn ++ pins))) S3 hc.1 z.1 z.2.1 q z.2.2 hc.2.1
        refine wpAny_handleBy_cons (codeAny_handlers_test (test (LM.here ?_))) (fun q => nomatch q)
        cases b with
        | false => exact ih (no rfl)
        | true =>
          refine codeAny_handlers_suite (HandSPX.lands_againZ fl3 fun h4 fl4 up4 => ?_)
          have J4 : Inv X pins σ' H' { t with heap := h4 } := J.landed nb fl4.1 ((up.trans up3).trans up4) os ag
          obtain ⟨ob, vs4, he4, hz4, hd4⟩ := fl4.there
          refine wpAny_mono ((hsu a ob cls d (X.pn ++ pins) hz4 ⟨_, hd4⟩).run [] _ _ H' _ (J4.suite he4 hd4 na nL nF) (yes rfl a na)) (fun f s6 hsp => ?_) fun _ _ z => False.elim z
          cases f with
          | ret u => obtain ⟨v6, σ6, H6, S6, r6, q6⟩ := hsp; exact ⟨_, _, _, S6.unsuite ok, r6, q6⟩
          | next => obtain ⟨σ6, H6, S6, q6⟩ := hsp; exact ⟨_, _, S6.unsuite ok, q6⟩
          | brk => obtain ⟨σ6, H6, S6, q6⟩ := hsp; exact ⟨_, _, S6.unsuite ok, q6⟩
          | cont => obtain ⟨σ6, H6, S6, q6⟩ := hsp; exact ⟨_, _, S6.unsuite ok, q6⟩
    exact go hh wish
  · intro f s1 q
    cases f with
    | next => obtain ⟨σ', H', J', z⟩ := q; exact wpAny_execs_nil ⟨σ', H', J'.ofTry ok, z⟩
    | brk => obtain ⟨σ', H', J', z⟩ := q; exact ⟨σ', H', J'.ofTry ok, z⟩
    | cont => obtain ⟨σ', H', J', z⟩ := q; exact ⟨σ', H', J'.ofTry ok, z⟩
    | ret u => obtain ⟨v, σ', H', J', z, y⟩ := q; exact ⟨v, σ', H', J'.ofTry ok, z, y⟩
end
end Aq
/-! defs, classes and methods that may let an own exception out -/
namespace Aq
open PySem PySem.Spec PyProof.Rows L2
section
variable (P : Program) (w : World) (K : PySem.W.Frag) (mg : Str → Option Value) (base : Heap)
structure CalX (k : Nat) (x : Str) (ps : List Str) (sp : Sp) : Prop where
  ex : ∃ (f : Addr) (fd : FuncData), FnOk P w K mg base (L2.CX P w) k f fd ps sp ∧ mg x = some (.ref f) ∧ PySem.W.keepIn K (.ref f) = true ∧ Binds K fd ps []
structure CtrX (k : Nat) (x : Str) (C : Addr) (ps : List Str) (dvs : List V) (sp : Sp) : Prop where
  ex : ∃ (f : Addr) (fd : FuncData) (ds : List Value), Mk K C f ∧ FnOk P w K mg base (L2.CX P w) k f fd ps sp ∧ mg x = some (.ref C) ∧ Binds K fd ps ds ∧ Vals dvs ds
structure MthX (k : Nat) (C : Addr) (m : Str) (ps : List Str) (sp : Sp) : Prop where
  cl : Cls K C
  ex : ∃ (f : Addr) (fd : FuncData), Meth K C m f ∧ FnOk P w K mg base (L2.CX P w) k f fd ps sp ∧ Binds K fd ps []
/-- an own exception and its __init__ -/
structure Xcl (k : Nat) (x : Str) (C : Addr) (ps : List Str) (sp : Sp) : Prop where
  ox : OexC K C
  xf : XfC K C
  ex : ∃ (f : Addr) (fd : FuncData), PySem.W.findIn K (.ref C) "__init__" = some (some (.ref f)) ∧ PySem.W.typeIn K (.ref f) = some (.type "function") ∧ FnOk P w K mg base CX0 k f fd ps sp ∧ mg x = some (.ref C) ∧ Binds K fd ps []
end
section
variable {X : Cx} {k j : Nat} {x m : Str} {C : Addr} {ps : List Str} {dvs : List V} {sp : Sp} {W : WX} {p pos apos : Pos} {e o : Expr} {es : List Expr} {ta : TE} {t : TA}
def PassAt (X : Cx) (σ : L2.St) (E : XK) : Prop := ∀ (pins : List (Addr × Obj)) (H : Hp) (s : Shared) (e : Value) (s' : Shared), Inv X pins σ H s → L2.CX X.prog X.w X.stack H s E e s' → X.xe e s'
theorem passAt {σ : L2.St} (tk : Takes X W) : PassAt X σ fun cls d H => W cls d σ H := fun _ _ _ e s' I c => tk e s' (XE.of_call I (fun _ _ _ h => h) c)
theorem passX0 : Passes (L2.CX X.prog X.w) X E0 := by
  rintro pins σ H s e s' I ⟨a, B, H', cls, d, _, _, _, _, _, _, _, z⟩
  exact z.elim
/-- readings of a call, a making, a method's call; what leaves them is wished by W -/
def tCallW (sp : Sp) (dvs : List V) (W : WX) (t : TA) : TE := fun σ H Q => t σ H fun vs H1 => sp (vs ++ dvs) H1 Q fun cls d H' => W cls d σ H'
def tMakeW (C : Addr) (sp : Sp) (dvs : List V) (W : WX) (t : TA) : TE := fun σ H Q => t σ H fun vs H1 => ∀ x dx, H1 x = none → H1 dx = none → dx ≠ x → sp (.ref x :: (vs ++ dvs)) (upd (upd H1 dx (.own x)) x (.ins C dx [])) (fun v H2 => v = .non ∧ Q (.ref x) H2) fun cls d H' => W cls d σ H'
def tMethW (C : Addr) (m : Str) (sp : Sp) (W : WX) (ta : TE) (t : TA) : TE := fun σ H Q => ta σ H fun x H1 => ∃ a dx fs, x = .ref a ∧ H1 a = some (.ins C dx fs) ∧ fs.lookup m = none ∧ t σ H1 fun vs H2 => sp (x :: vs) H2 Q fun cls d H' => W cls d σ H'
variable {pins : List (Addr × Obj)} {σ : L2.St} {H : Hp} {s : Shared} {Q : VK} {us ds : List Value} {vs : List V} {f : Addr} {fd : FuncData} {E : XK}
theorem runA (F : FnOk X.prog X.w X.K X.mg X.base (L2.CX X.prog X.w) k f fd ps sp) (hr : Room k X.A) (hb : Binds X.K fd ps ds) (hd : Vals dvs ds) (hx : PassAt X σ E) (I : Inv X pins σ H s) (r : Vals vs us) (h : sp (vs ++ dvs) H Q E) : wpAny (model X.prog X.w) X.A (call (.ref f) us) (EP X pins σ Q) X.xe s := by
  have r2 := r.append hd
  have hl := r2.length.symm.trans (F.len _ _ _ _ h)
  refine wpAny_call (codeAny_mono (F.run X.A X.stack s H ⟨us, []⟩ _ _ Q E hr I.env0 (hb s us I.kIn hl) r2 h) fun out s' hq => ?_)
  match out, hq with
  | .error e, hq => exact hx pins H s e s' I hq
  | .ok (.ret u), hq => exact I.after hq
  | .ok .next, hq => exact hq.elim
  | .ok .brk, hq => exact hq.elim
  | .ok .cont, hq => exact hq.elim
theorem makeA (M : Mk X.K C f) (F : FnOk X.prog X.w X.K X.mg X.base (L2.CX X.prog X.w) k f fd ps sp) (hr : Room (k + 1) X.A) (hb : Binds X.K fd ps ds) (hd : Vals dvs ds) (hx : PassAt X σ E) (I : Inv X pins σ H s) (r : Vals vs us)
    (h : ∀ x dx, H x = none → H dx = none → dx ≠ x → sp (.ref x :: (vs ++ dvs)) (upd (upd H dx (.own x)) x (.ins C dx [])) (fun v H2 => v = .non ∧ Q (.ref x) H2) E) : wpAny (model X.prog X.w) X.A (call (.ref C) us) (EP X pins σ Q) X.xe s := by
  have hq := h (s.heap.objs.size + 1) s.heap.objs.size (I.hok.fresh (Nat.le_succ _)) (I.hok.fresh (Nat.le_refl _)) (Nat.ne_of_lt (Nat.lt_succ_self _))
  have J := Inv.made (C := C) I
  have r2 : Vals (V.ref (s.heap.objs.size + 1) :: (vs ++ dvs)) (Value.ref (s.heap.objs.size + 1) :: (us ++ ds)) := .cons rfl (r.append hd)
  have hl := r2.length.symm.trans (F.len _ _ _ _ hq)
  refine wpAny_call (make_map (f := f) I.kIn M.makes M.init (beq_iff_eq.mp M.fn) (codeAny_mono (F.run _ X.stack _ _ ⟨Value.ref (s.heap.objs.size + 1) :: us, []⟩ _ _ _ E (hr.make C us []) (J.env0.make C us []) (hb _ (Value.ref (s.heap.objs.size + 1) :: us) J.kIn hl) r2 hq) fun out s' z => ?_))
  match out, z with
  | .error e, z => exact hx pins _ _ e s' J z
  | .ok (.ret u), z =>
    obtain ⟨v, H', J2, rv, ev, q3⟩ := J.after z
    subst ev
    exact ⟨rv, V.ref (s.heap.objs.size + 1), H', J2, rfl, q3⟩
  | .ok .next, z => exact z.elim
  | .ok .brk, z => exact z.elim
  | .ok .cont, z => exact z.elim
theorem pe_callX (c : CalX X.prog X.w X.K X.mg X.base k x ps sp) (hr : Room j X.A) (tk : Takes X W) (ha : PA X (e :: es) t) (hk : k ≤ j := by decide) (hg : Gl X x := by rfl) (hdb : (x == ("__debug__" : Str)) = false := by decide)
    (he : starEach (e :: es) X.env = (false, eval e X.env) :: starEach es X.env := by rfl) (hpl : (backTo pos (starEach es X.env)).any (·.1) = false := by rfl) : PE X (.Call (.Name x p) (e :: es) [] pos) (tCallW sp [] W t) := by
  obtain ⟨f, fd, F, hm, kp, b⟩ := c.ex
  exact ⟨fun pins s σ H Q I h => wpAny_Call_Name_kw (ld_glob I hg hm (PySem.W.callWith_K (h₀ := X.base) I.ok.mod.kin kp (thn (ha.run pos pins s σ H _ I h) fun us s1 ⟨vs, H1, I1, r, q⟩ => ⟨I1.kIn, runA F (hr.mono hk) b .nil (passAt tk) I1 r q⟩) he hpl) hdb)⟩
theorem pe_callX0 (c : CalX X.prog X.w X.K X.mg X.base k x ps sp) (hr : Room j X.A) (ha : PA X (e :: es) t) (hk : k ≤ j := by decide) (hg : Gl X x := by rfl) (hdb : (x == ("__debug__" : Str)) = false := by decide)
    (he : starEach (e :: es) X.env = (false, eval e X.env) :: starEach es X.env := by rfl) (hpl : (backTo pos (starEach es X.env)).any (·.1) = false := by rfl) : PE X (.Call (.Name x p) (e :: es) [] pos) (tCall sp [] E0 t) := by
  obtain ⟨f, fd, F, hm, kp, b⟩ := c.ex
  exact pe_call F (hr.mono hk) hg hm kp b .nil passX0 ha hdb he hpl
theorem pe_makeX (c : CtrX X.prog X.w X.K X.mg X.base k x C ps dvs sp) (hr : Room j X.A) (tk : Takes X W) (ha : PA X (e :: es) t) (hk : k + 1 ≤ j := by decide) (hg : Gl X x := by rfl) (hdb : (x == ("__debug__" : Str)) = false := by decide)
    (he : starEach (e :: es) X.env = (false, eval e X.env) :: starEach es X.env := by rfl) (hpl : (backTo pos (starEach es X.env)).any (·.1) = false := by rfl) : PE X (.Call (.Name x p) (e :: es) [] pos) (tMakeW C sp dvs W t) := by
  obtain ⟨f, fd, ds, M, F, hm, b, hd⟩ := c.ex
  exact ⟨fun pins s σ H Q I h => wpAny_Call_Name_kw (ld_glob I hg hm (PySem.W.callWith_K (h₀ := X.base) I.ok.mod.kin M.kp (thn (ha.run pos pins s σ H _ I h) fun us s1 ⟨vs, H1, I1, r, q⟩ => ⟨I1.kIn, makeA M F (hr.mono hk) b hd (passAt tk) I1 r q⟩) he hpl) hdb)⟩
theorem pe_makeX0 (c : CtrX X.prog X.w X.K X.mg X.base k x C ps dvs sp) (hr : Room j X.A) (ha : PA X (e :: es) t) (hk : k + 1 ≤ j := by decide) (hg : Gl X x := by rfl) (hdb : (x == ("__debug__" : Str)) = false := by decide)
    (he : starEach (e :: es) X.env = (false, eval e X.env) :: starEach es X.env := by rfl) (hpl : (backTo pos (starEach es X.env)).any (·.1) = false := by rfl) : PE X (.Call (.Name x p) (e :: es) [] pos) (tMake C sp dvs E0 t) := by
  obtain ⟨f, fd, ds, M, F, hm, b, hd⟩ := c.ex
  exact pe_make M F (hr.mono hk) hg hm b hd passX0 ha hdb he hpl
theorem pe_methX {pl : Sem Bool} (c : MthX X.prog X.w X.K X.mg X.base k C m ps sp) (hr : Room j X.A) (tk : Takes X W) (ho : PE X o ta) (ha : PA X (e :: es) t) (hk : k ≤ j := by decide)
    (hst : starEach (e :: es) X.env = (false, eval e X.env) :: starEach es X.env := by rfl) (hpl : (backTo pos (starEach es X.env)).any (·.1) = false := by rfl)
    (ht : eval (.Call (.Attribute o m apos) (e :: es) [] pos) X.env = (do
      let ov ← eval o X.env
      standAt apos.atName
      let (f, first) ← holding [ov] (getMethod ov m pl)
      callWith pos f first (backTo pos (starEach (e :: es) X.env)) (backToKw pos (keywordEach [] X.env))) := by rfl) : PE X (.Call (.Attribute o m apos) (e :: es) [] pos) (tMethW C m sp W ta t) := by
  obtain ⟨f, fd, M, F, b⟩ := c.ex
  constructor
  intro pins s σ H Q I h
  refine PySem.W.methodCall_KW (pl := pl) (thn (ho.run pins s σ H _ I h) ?_) ht
  rintro u s1 ⟨x, H1, I1, rx, a, dx, fs, rfl, ea, lk, q⟩
  cases rx
  refine getmeth_ok I1 ea c.cl M lk (PySem.W.callWith_K (first := [.ref a]) (h₀ := X.base) I.ok.mod.kin M.kp (thn (ha.run pos pins s1 σ H1 _ I1 q) fun us s2 ⟨vs, H2, I2, r, q2⟩ => ⟨I2.kIn, ?_⟩) hst hpl)
  exact runA (us := .ref a :: us) (vs := .ref a :: vs) F (hr.mono hk) b .nil (passAt tk) I2 (.cons rfl r) (by rw [List.append_nil]; exact q2)
theorem pe_methX0 {pl : Sem Bool} (c : MthX X.prog X.w X.K X.mg X.base k C m ps sp) (hr : Room j X.A) (ho : PE X o ta) (ha : PA X (e :: es) t) (hk : k ≤ j := by decide)
    (hst : starEach (e :: es) X.env = (false, eval e X.env) :: starEach es X.env := by rfl) (hpl : (backTo pos (starEach es X.env)).any (·.1) = false := by rfl)
    (ht : eval (.Call (.Attribute o m apos) (e :: es) [] pos) X.env = (do
      let ov ← eval o X.env
      standAt apos.atName
      let (f, first) ← holding [ov] (getMethod ov m pl)
      callWith pos f first (backTo pos (starEach (e :: es) X.env)) (backToKw pos (keywordEach [] X.env))) := by rfl) : PE X (.Call (.Attribute o m apos) (e :: es) [] pos) (tMeth C m sp [] E0 ta t) := by
  obtain ⟨f, fd, M, F, b⟩ := c.ex
  exact pe_meth ho c.cl M F (hr.mono hk) b .nil passX0 ha hst hpl ht
/-- raise C(e, ..) -/
theorem ps_raiseX {rpos : Pos} (c : Xcl X.prog X.w X.K X.mg X.base k x C ps sp) (hr : Room j X.A) (tk : Takes X W) (ha : PA X (e :: es) t) (hc : X.calm = true := by rfl) (hk : k + 1 ≤ j := by decide) (hg : Gl X x := by rfl) (hdb : (x == ("__debug__" : Str)) = false := by decide)
    (he : starEach (e :: es) X.env = (false, eval e X.env) :: starEach es X.env := by rfl) (hpl : (backTo pos (starEach es X.env)).any (·.1) = false := by rfl) :
    PS X (.Raise (some (.Call (.Name x p) (e :: es) [] pos)) none rpos) (fun _ σ H => tMkO C sp [] t σ H fun cls d H' => W cls d σ H') := by
  obtain ⟨f, fd, iC, tI, F, hm, b⟩ := c.ex
  exact ps_raise hc tk (pmk_oex c.ox iC tI F (hr.mono hk) b .nil pass0 hg hm ha hdb he hpl)
/-- an own exception without an __init__ -/
structure Xc0 (K : PySem.W.Frag) (mg : Str → Option Value) (x : Str) (C : Addr) : Prop where
  q : ∃ bm, ExcBaseFacts "ValueError" "ValueError.__new__" "ValueError.__init__" bm ∧ PySem.W.excIn K C bm "ValueError.__new__" = true
  g : mg x = some (.ref C)
  kC : PySem.W.keepIn K (.ref C) = true
  exC : PySem.W.subIn K (.ref C) (.type "BaseException") = some true
  tyC : PySem.W.typeIn K (.ref C) = some (.type "type")
/-- raise C() -/
theorem ps_raise0 {rpos : Pos} (c : Xc0 X.K X.mg x C) (tk : Takes X W) (hc : X.calm = true := by rfl) (hg : Gl X x := by rfl) (hdb : (x == ("__debug__" : Str)) = false := by decide) :
    PS X (.Raise (some (.Call (.Name x p) [] [] pos)) none rpos) (fun _ σ H => W (.ref C) none σ H) := by
  obtain ⟨bm, F, q⟩ := c.q
  refine ps_raise (t := fun σ H Q => Q (.ref C) none H) hc tk fun pins s σ H Q I h => ?_
  obtain ⟨_, _, _, _, _, _, _, _, _, _, _, _, _, _, _, _, _, hC, hN, hni, T⟩ := exc_obj I.kIn q
  exact wpAny_Call_Name_kw (ld_glob I hg c.g (PySem.W.callWith_K0 I.kIn c.kC (wpAny_call_exc_subT F T hC hN hni (fun h' e hm => mk_of I hm (raises_own c.exC c.tyC) h (I.hok.gone hm.new)) (Nat.zero_le _))) hdb)
end
end Aq
/-! own exceptions: messages, stores, what is raised -/
namespace Aq
open PySem PySem.Spec PyProof.Rows L2 Evl
/-- what is told in a message -/
def Fmt (y : V) : Prop := (∃ z : Str, y = .str z ∧ z.length ≤ 1000) ∨ ∃ i : Int, y = .int i ∧ i.natAbs.log2 < 1000
section
variable {K : PySem.W.Frag} {σ : L2.St} {H : Hp} {Qs : Str → Hp → Prop} {ts : List TE} {acc z : Str} {n i : Nat} {y : V}
theorem js_c (hn : acc.length ≤ n) (hb : n ≤ 100000) (hz : z.length ≤ 1000) (k : ∀ acc' : Str, acc'.length ≤ n + 1000 → tJs ts acc' σ H Qs) : tJs (tC (.str z) :: ts) acc σ H Qs :=
  ⟨z, rfl, by rw [app_len]; exact Nat.le_trans (show _ ≤ 200000 by omega) (by decide), k _ (by rw [app_len]; omega)⟩
theorem js_f (hv : σ[i]? = some (some y)) (hn : acc.length ≤ n) (hb : n ≤ 100000) (hf : Fmt y) (k : ∀ acc' : Str, acc'.length ≤ n + 1001 → tJs ts acc' σ H Qs) : tJs (tFmt (tVar i) :: ts) acc σ H Qs := by
  refine ⟨y, hv, ?_⟩
  rcases hf with ⟨z, rfl, hz⟩ | ⟨j, rfl, hj⟩
  · exact .inl ⟨z, rfl, Nat.le_trans hz (by decide), z, rfl, by rw [app_len]; exact Nat.le_trans (show _ ≤ 200000 by omega) (by decide), k _ (by rw [app_len]; omega)⟩
  · have hl := int_text_length_le (k := 1000) (by decide) hj
    have hl2 : (Str.ofString (toString j)).length ≤ 1001 := by rw [PySem.ofString_length]; exact hl
    exact .inr ⟨j, rfl, Nat.lt_trans hj (by decide), _, rfl, by rw [app_len]; exact Nat.le_trans (show _ ≤ 200000 by omega) (by decide), k _ (by rw [app_len]; omega)⟩
theorem js_0 (h : Qs acc H) : tJs [] acc σ H Qs := h
/-- self.f = p, the first one; a further one -/
theorem rd_ost1 {f : Str} {x C : Addr} {k : Nat} {D : Ends} (ox : OexC K C) (na : PySem.W.findIn K (.ref C) f = some none) (hy : σ[k]? = some (some y)) (hs : σ[0]? = some (some (.ref x))) (hx : H x = some (exo x C none))
    (q : ∀ dx, H dx = none → dx ≠ x → D.nx σ (upd (upd H dx (exd dx [(f, y)])) x (exo x C (some dx)))) : tOst K f (tVar 0) (tVar k) D σ H := ⟨y, hy, .ref x, hs, x, C, rfl, ox, na, .inl ⟨hx, q⟩⟩
theorem rd_ostN {f : Str} {x C dx : Addr} {k : Nat} {D : Ends} {fs : List (Str × V)} (ox : OexC K C) (na : PySem.W.findIn K (.ref C) f = some none) (hy : σ[k]? = some (some y)) (hs : σ[0]? = some (some (.ref x))) (hx : H x = some (exo x C (some dx))) (hd : H dx = some (exd dx fs)) (hl : fs.length ≤ 900)
    (q : D.nx σ (upd H dx (exd dx ((f, y) :: fs)))) : tOst K f (tVar 0) (tVar k) D σ H := ⟨y, hy, .ref x, hs, x, C, rfl, ox, na, .inr ⟨dx, fs, hx, hd, hl, q⟩⟩
/-- what stands where an exception was made and let go: its dict at d, nothing else is new -/
theorem raised {H1 H2 : Hp} {x d C : Addr} {fs : List (Str × V)} (hx : H1 x = none) (hd : H1 d = none) (ne : d ≠ x) (st : ∀ b, b ≠ x → b ≠ d → H2 b = upd H1 x (exo x C none) b) : Ex H1 (upd (del H2 x) d (.xd fs)) ∧ (upd (del H2 x) d (.xd fs)) d = some (.xd fs) := by
  refine ⟨fun b o h => ?_, upd_same⟩
  have h1 := ne_of_none h hx
  have h2 := ne_of_none h hd
  rw [upd_ne h2, del_ne h1, st b h1 h2, upd_ne h1]
  exact h
end
/-- isinstance(e, c), e a caught error of an own class with a dict -/
def rIsX (K : PySem.W.Frag) (D a : Addr) : List V → Hp → VK → Prop := rIsE K D a
/-- what a handler's class must be -/
structure ExmC (K : PySem.W.Frag) (C : Addr) : Prop where
  sb : PySem.W.subIn K (.ref C) (.type "BaseException") = some true
  hd : PySem.W.hasDictIn K C = true
  ty : PySem.W.typeIn K (.ref C) = some (.type "type")
theorem ExmC.em {K : PySem.W.Frag} {C : Addr} {cls : Value} {b : Bool} (e : ExmC K C) (h : PySem.W.subIn K cls (.ref C) = some b) : PySem.W.exmOne K cls (.ref C) = some b := PySem.W.exm_ref e.sb e.hd e.ty h
theorem kit_own {K : PySem.W.Frag} {C : Addr} {t : String} {b : Bool} (h : PySem.W.subIn K (.ref C) (.type t) = some b) (m : PySem.W.kitMeta t = true := by decide +kernel) : PySem.W.kitOne K (.ref C) (.type t) = some b := by
  show (if PySem.W.kitMeta t = true then PySem.W.subIn K (.ref C) (.type t) else none) = _
  rw [if_pos m]; exact h
end Aq
/-! values of all kinds -/
namespace Aq
open PySem L2 Evl
/-- a plain value: a text, None, a bool, an int, a list, a tuple, a dict -/
inductive Kd (H : Hp) : V → Prop
  | str (z : Str) (h : z.length ≤ 1000) : Kd H (.str z)
  | non : Kd H .non
  | bl (b : Bool) : Kd H (.bl b)
  | int (i : Int) : Kd H (.int i)
  | lst {a : Addr} {xs : List V} (h : H a = some (.lst xs)) : Kd H (.ref a)
  | tup {a : Addr} {xs : List V} (h : H a = some (.tup xs)) : Kd H (.ref a)
  | dK {a : Addr} {kvs : List (Key × V)} (h : H a = some (.dK kvs)) : Kd H (.ref a)
theorem Kd.ex {H H' : Hp} {v : V} (k : Kd H v) (e : Ex H H') : Kd H' v := by
  cases k with
  | str z h => exact .str z h
  | non => exact .non
  | bl b => exact .bl b
  | int i => exact .int i
  | lst h => exact .lst (e _ _ h)
  | tup h => exact .tup (e _ _ h)
  | dK h => exact .dK (e _ _ h)
def isStrV : V → Bool
  | .str _ => true
  | _ => false
theorem isStrV_iff {v : V} : isStrV v = true ↔ ∃ z, v = .str z := by
  cases v <;> simp [isStrV]
section
variable {K : PySem.W.Frag} {H : Hp} {v : V} {Q : VK}
theorem rd_isiKd (k : Kd H v) (q : Q (.bl (isStrV v)) H) : rIsi K [v, .ty "str"] H Q := by
  cases k with
  | str z h => exact rd_isiStr q
  | non => exact rd_isi (a := .type "NoneType") (b := .type "str") (r := false) (.ty _) (.base .non) (kit_ty (by decide +kernel)) q
  | bl b => exact rd_isi (a := .type "bool") (b := .type "str") (r := false) (.ty _) (.base (.bl b)) (kit_ty (by decide +kernel)) q
  | int i => exact rd_isi (a := .type "int") (b := .type "str") (r := false) (.ty _) (.base (.int i)) (kit_ty (by decide +kernel)) q
  | lst h => exact rd_isi (a := .type "list") (b := .type "str") (r := false) (.ty _) (.base (.lst h)) (kit_ty (by decide +kernel)) q
  | tup h => exact rd_isi (a := .type "tuple") (b := .type "str") (r := false) (.ty _) (.base (.tup h)) (kit_ty (by decide +kernel)) q
  | dK h => exact rd_isi (a := .type "dict") (b := .type "str") (r := false) (.ty _) (.base (.dK h)) (kit_ty (by decide +kernel)) q
end
/-! readings of calls that may raise -/
section
variable {σ : L2.St} {H : Hp} {Q : VK} {t : TA} {ta : TE} {W : WX} {sp : Sp} {dvs : List V} {C : Addr} {m : Str}
theorem rd_callW (h : t σ H fun vs H1 => sp (vs ++ dvs) H1 Q fun cls d H' => W cls d σ H') : tCallW sp dvs W t σ H Q := h
theorem rd_makeW (h : t σ H fun vs H1 => ∀ x dx, H1 x = none → H1 dx = none → dx ≠ x → sp (.ref x :: (vs ++ dvs)) (upd (upd H1 dx (.own x)) x (.ins C dx [])) (fun v H2 => v = .non ∧ Q (.ref x) H2) fun cls d H' => W cls d σ H') : tMakeW C sp dvs W t σ H Q := h
theorem rd_methW (h : ta σ H fun x H1 => ∃ a dx fs, x = .ref a ∧ H1 a = some (.ins C dx fs) ∧ fs.lookup m = none ∧ t σ H1 fun vs H2 => sp (x :: vs) H2 Q fun cls d H' => W cls d σ H') : tMethW C m sp W ta t σ H Q := h
end
end Aq
/-! isinstance of a caught error that has fields -/
namespace Aq
open PySem PySem.Spec PyProof.Rows L2
/-- isinstance(e, c), e the caught error at a, of the class D, its dict at dd -/
def rIsXd (K : PySem.W.Frag) (D a : Addr) (cls : Value) (d : Option Addr) : List V → Hp → VK → Prop := fun xs H Q => cls = .ref D ∧ ∃ (dd : Addr) (fs : List (Str × V)) (c : V) (cv : Value) (b : Bool), d = some dd ∧ H dd = some (.xd fs) ∧ xs = [.ref a, c] ∧ (∀ u, L2.RelV c u → u = cv) ∧ PySem.W.kitOne K (.ref D) cv = some b ∧ Q (.bl b) H
theorem call_isX {X : Cx} {a D : Addr} {oe : Obj} {cls : Value} {d : Option Addr} {pn : List (Addr × Obj)} (C : ExcC X.K D) (hz : Zc cls d oe) (hf : ∃ vs, oe.data = .fields vs) : CallR (X.suite a ((a, oe) :: pn)) (.builtin "isinstance") (rIsXd X.K D a cls d) := by
  intro pins s σ H xs us Q I r h
  obtain ⟨rfl, dd, fs, c, cv, b, rfl, hd, rfl, hcv, e, q⟩ := h
  obtain ⟨u1, u2, rfl, ra, rb⟩ := r.two
  cases ra
  have := hcv _ rb
  subst this
  have hget := (I.pin (a, oe) (List.mem_append_left _ List.mem_cons_self)).1
  obtain ⟨vs, hv⟩ := hf
  have hx : ObjOk X.prog X.w H s.heap dd (.xd fs) := I.hok dd _ hd
  obtain ⟨mA, hns, _⟩ := hx
  obtain ⟨od, ho, _⟩ := lookIn_ns hns
  have J : PySem.W.InstAt s.heap a oe D (some od) := ⟨hget, hz.1, by unfold PySem.W.notCls; rw [hv] <;> rfl, by rw [hz.2]; exact ho⟩
  have hcl : (PySem.W.clsIn X.K D).isSome = true := by obtain ⟨cd, hc, _⟩ := PySem.W.any_some C.hd; rw [hc]; rfl
  exact PySem.W.kia_one (PySem.W.kitx_exc hcl C.hg C.hk C.hs C.ha C.hn C.ht C.hm) I.kIn J e (fun z => nomatch z) fun tk => ⟨.bl b, H, I.kept (t' := tk) fun _ _ z => z, rfl, q⟩
end Aq
namespace K08
open PySem L2 Aq Evl
def top (i : Nat) : Stmt := PySem.Challenge.pw_asksmore_k08_sentences_refused.main.body.getD i (.Pass ⟨0, 0, 0, 0⟩)
abbrev s_is_word : Stmt := top 20
abbrev N_is_word : List Str := ["value", "sign"]
theorem sc_is_word : FnScope N_is_word ["value"] (defScope s_is_word) := ⟨rfl, rfl, rfl, by decide +kernel, rfl, by decide +kernel, by decide +kernel⟩
abbrev s_is_beginning : Stmt := top 21
abbrev N_is_beginning : List Str := ["value"]
theorem sc_is_beginning : FnScope N_is_beginning ["value"] (defScope s_is_beginning) := ⟨rfl, rfl, rfl, by decide +kernel, rfl, by decide +kernel, by decide +kernel⟩
abbrev s_is_letter : Stmt := top 22
abbrev N_is_letter : List Str := ["value", "word"]
theorem sc_is_letter : FnScope N_is_letter ["value"] (defScope s_is_letter) := ⟨rfl, rfl, rfl, by decide +kernel, rfl, by decide +kernel, by decide +kernel⟩
abbrev s_Letters___contains__ : Stmt := inClass (top 23) 2
abbrev N_Letters___contains__ : List Str := ["self", "x"]
theorem sc_Letters___contains__ : FnScope N_Letters___contains__ ["self", "x"] (defScope s_Letters___contains__) := ⟨rfl, rfl, rfl, by decide +kernel, rfl, by decide +kernel, by decide +kernel⟩
abbrev s_Letters___init__ : Stmt := inClass (top 23) 0
abbrev N_Letters___init__ : List Str := ["self", "words", "index", "word"]
theorem sc_Letters___init__ : FnScope N_Letters___init__ ["self", "words"] (defScope s_Letters___init__) := ⟨rfl, rfl, rfl, by decide +kernel, rfl, by decide +kernel, by decide +kernel⟩
abbrev s_Letters_rank : Stmt := inClass (top 23) 1
abbrev N_Letters_rank : List Str := ["self", "x"]
theorem sc_Letters_rank : FnScope N_Letters_rank ["self", "x"] (defScope s_Letters_rank) := ⟨rfl, rfl, rfl, by decide +kernel, rfl, by decide +kernel, by decide +kernel⟩
abbrev s_is_one_of : Stmt := top 35
abbrev N_is_one_of : List Str := ["value", "words"]
theorem sc_is_one_of : FnScope N_is_one_of ["value", "words"] (defScope s_is_one_of) := ⟨rfl, rfl, rfl, by decide +kernel, rfl, by decide +kernel, by decide +kernel⟩
abbrev s_Sentence___init__ : Stmt := inClass (top 38) 0
abbrev N_Sentence___init__ : List Str := ["self", "letters", "kind", "first", "second", "turn"]
theorem sc_Sentence___init__ : FnScope N_Sentence___init__ ["self", "letters", "kind", "first", "second"] (defScope s_Sentence___init__) := ⟨rfl, rfl, rfl, by decide +kernel, rfl, by decide +kernel, by decide +kernel⟩
abbrev s__law_pen : Stmt := top 40
abbrev N__law_pen : List Str := ["_law_script"]
theorem sc__law_pen : FnScope N__law_pen ["_law_script"] (defScope s__law_pen) := ⟨rfl, rfl, rfl, by decide +kernel, rfl, by decide +kernel, by decide +kernel⟩
abbrev s__law_draw : Stmt := top 41
abbrev N__law_draw : List Str := ["_law_pen_here", "_law_many", "_law_told_here", "_law_blend", "_law_digit", "_law_place", "_law_size"]
theorem sc__law_draw : FnScope N__law_draw ["_law_pen_here", "_law_many"] (defScope s__law_draw) := ⟨rfl, rfl, rfl, by decide +kernel, rfl, by decide +kernel, by decide +kernel⟩
abbrev s__law_pick : Stmt := top 42
abbrev N__law_pick : List Str := ["_law_pen_here", "_law_options"]
theorem sc__law_pick : FnScope N__law_pick ["_law_pen_here", "_law_options"] (defScope s__law_pick) := ⟨rfl, rfl, rfl, by decide +kernel, rfl, by decide +kernel, by decide +kernel⟩
abbrev s__law_letters : Stmt := top 43
abbrev N__law_letters : List Str := ["_law_pen_here", "_law_many", "_law_stem", "_law_choice", "_law_k", "_law_small", "_law_signs", "_law_at", "_law_front", "_law_step", "_law_tail", "_law_found", "_law_sign", "_law_word"]
theorem sc__law_letters : FnScope N__law_letters ["_law_pen_here", "_law_many"] (defScope s__law_letters) := ⟨rfl, rfl, rfl, by decide +kernel, rfl, by decide +kernel, by decide +kernel⟩
abbrev s__law_normal : Stmt := top 44
abbrev N__law_normal : List Str := ["_law_letters_here", "_law_triple_here", "_law_kind", "_law_first", "_law_second"]
theorem sc__law_normal : FnScope N__law_normal ["_law_letters_here", "_law_triple_here"] (defScope s__law_normal) := ⟨rfl, rfl, rfl, by decide +kernel, rfl, by decide +kernel, by decide +kernel⟩
abbrev s__law_triple : Stmt := top 45
abbrev N__law_triple : List Str := ["_law_sentence"]
theorem sc__law_triple : FnScope N__law_triple ["_law_sentence"] (defScope s__law_triple) := ⟨rfl, rfl, rfl, by decide +kernel, rfl, by decide +kernel, by decide +kernel⟩
abbrev s__law_drawn : Stmt := top 46
abbrev N__law_drawn : List Str := ["_law_pen_here", "_law_letters_here", "_law_way", "_law_x", "_law_y"]
theorem sc__law_drawn : FnScope N__law_drawn ["_law_pen_here", "_law_letters_here"] (defScope s__law_drawn) := ⟨rfl, rfl, rfl, by decide +kernel, rfl, by decide +kernel, by decide +kernel⟩
abbrev s__law_odd : Stmt := top 47
abbrev N__law_odd : List Str := ["_law_pen_here", "_law_letters_here", "_law_one", "_law_longer", "_law_odd_here", "_law_some", "_law_value"]
theorem sc__law_odd : FnScope N__law_odd ["_law_pen_here", "_law_letters_here"] (defScope s__law_odd) := ⟨rfl, rfl, rfl, by decide +kernel, rfl, by decide +kernel, by decide +kernel⟩
abbrev s__law_due : Stmt := top 48
abbrev N__law_due : List Str := ["_law_letters_here", "_law_kind", "_law_first", "_law_second"]
theorem sc__law_due : FnScope N__law_due ["_law_letters_here", "_law_kind", "_law_first", "_law_second"] (defScope s__law_due) := ⟨rfl, rfl, rfl, by decide +kernel, rfl, by decide +kernel, by decide +kernel⟩
abbrev s__law_told : Stmt := top 49
abbrev N__law_told : List Str := ["_law_letters_here", "_law_kind", "_law_first", "_law_second", "e", "_law_due_here", "_law_made"]
theorem sc__law_told : FnScope N__law_told ["_law_letters_here", "_law_kind", "_law_first", "_law_second"] (defScope s__law_told) := ⟨rfl, rfl, rfl, by decide +kernel, rfl, by decide +kernel, by decide +kernel⟩
abbrev s_law : Stmt := top 50
abbrev N_law : List Str := ["_law_script", "_law_pen_here", "_law_turn", "e", "_law_letters_here", "_law_ways", "_law_kind", "_law_first", "_law_second", "_law_k"]
theorem sc_law : FnScope N_law ["_law_script"] (defScope s_law) := ⟨rfl, rfl, rfl, by decide +kernel, rfl, by decide +kernel, by decide +kernel⟩
abbrev s_BadLetter___init__ : Stmt := inClass (top 4) 0
abbrev N_BadLetter___init__ : List Str := ["self", "index", "__class__"]
theorem sc_BadLetter___init__ : NdefX.NScope N_BadLetter___init__ ["self", "index"] ["__class__"] (defScope s_BadLetter___init__) := NdefX.nscope_by (by decide +kernel)
abbrev F_BadLetter (cc c : Addr) : NdefX.NF := ⟨"__init__", "BadLetter.__init__", defArgs s_BadLetter___init__, defBody s_BadLetter___init__, defScope s_BadLetter___init__, [("__class__", cc)], c⟩
structure Ad where
  Letters : Addr
  Sentence : Addr
  BadLetter : Addr
  f_BadLetter___init__ : Addr
  BadKind : Addr
  SaysNothing : Addr
  MOST_LETTERS : Tok
  BEGINNINGS : Addr
  SMALL : Tok
  SIGNS : Tok
  KINDS : Addr
  SINGLE : Addr
  f_is_word : Addr
  f_is_beginning : Addr
  f_is_letter : Addr
  f_Letters___contains__ : Addr
  f_Letters___init__ : Addr
  f_Letters_rank : Addr
  f_is_one_of : Addr
  f_Sentence___init__ : Addr
  f__law_pen : Addr
  f__law_draw : Addr
  f__law_pick : Addr
  f__law_letters : Addr
  f__law_normal : Addr
  f__law_triple : Addr
  f__law_drawn : Addr
  f__law_odd : Addr
  f__law_due : Addr
  f__law_told : Addr
  f_law : Addr
structure Txt (P : Program) (K : PySem.W.Frag) (mg : Str → Option Value) (a : Ad) : Prop where
  n_ValueError : mg "ValueError" = none
  n_abs : mg "abs" = none
  n_all : mg "all" = none
  n_enumerate : mg "enumerate" = none
  n_int : mg "int" = none
  n_isinstance : mg "isinstance" = none
  n_len : mg "len" = none
  n_list : mg "list" = none
  n_min : mg "min" = none
  n_range : mg "range" = none
  n_str : mg "str" = none
  n_tuple : mg "tuple" = none
  g_MOST_LETTERS : mg "MOST_LETTERS" = some (.int 12 a.MOST_LETTERS)
  g_BEGINNINGS : mg "BEGINNINGS" = some (.ref a.BEGINNINGS)
  k_BEGINNINGS : ∀ H, SqT K H a.BEGINNINGS [.str "new", .str "found"]
  g_SMALL : mg "SMALL" = some (.str "abcdefghijklmnopqrstuvwxyz" a.SMALL)
  g_SIGNS : mg "SIGNS" = some (.str "abcdefghijklmnopqrstuvwxyz0123456789" a.SIGNS)
  g_KINDS : mg "KINDS" = some (.ref a.KINDS)
  k_KINDS : ∀ H, SqT K H a.KINDS [.str "idle", .str "kept", .str "still", .str "over", .str "undone", .str "alike"]
  g_SINGLE : mg "SINGLE" = some (.ref a.SINGLE)
  k_SINGLE : ∀ H, SqT K H a.SINGLE [.str "idle", .str "still"]
  g_Letters : mg "Letters" = some (.ref a.Letters)
  cl_Letters : Cls K a.Letters
  na_Letters_words : NoAttr K a.Letters "words"
  isi_Letters : IsiC K a.Letters
  mk_Letters : Mk K a.Letters a.f_Letters___init__
  g_Sentence : mg "Sentence" = some (.ref a.Sentence)
  cl_Sentence : Cls K a.Sentence
  na_Sentence_letters : NoAttr K a.Sentence "letters"
  na_Sentence_kind : NoAttr K a.Sentence "kind"
  na_Sentence_first : NoAttr K a.Sentence "first"
  na_Sentence_second : NoAttr K a.Sentence "second"
  mk_Sentence : Mk K a.Sentence a.f_Sentence___init__
  g_BadLetter : mg "BadLetter" = some (.ref a.BadLetter)
  ex_BadLetter : ExmC K a.BadLetter
  em_BadLetter_BadLetter : PySem.W.exmOne K (.ref a.BadLetter) (.ref a.BadLetter) = some true
  em_BadKind_BadLetter : PySem.W.exmOne K (.ref a.BadKind) (.ref a.BadLetter) = some false
  em_SaysNothing_BadLetter : PySem.W.exmOne K (.ref a.SaysNothing) (.ref a.BadLetter) = some false
  xf_BadLetter : XfC K a.BadLetter
  xe_BadLetter : ExcC K a.BadLetter
  na_BadLetter_index : NoAttr K a.BadLetter "index"
  xi_BadLetter : ∃ cc c doc pm ctv, XI P K mg (F_BadLetter cc c) a.f_BadLetter___init__ a.BadLetter "self" doc pm ctv ∧ Binds K ((F_BadLetter cc c).fd doc pm ctv) ["self", "index"] []
  kv_BadLetter : PySem.W.kitOne K (.ref a.BadLetter) (.type "ValueError") = some true
  in_BadLetter : PySem.W.findIn K (.ref a.BadLetter) "__init__" = some (some (.ref a.f_BadLetter___init__))
  ty_BadLetter : PySem.W.typeIn K (.ref a.f_BadLetter___init__) = some (.type "function")
  g_BadKind : mg "BadKind" = some (.ref a.BadKind)
  ex_BadKind : ExmC K a.BadKind
  em_BadLetter_BadKind : PySem.W.exmOne K (.ref a.BadLetter) (.ref a.BadKind) = some false
  em_BadKind_BadKind : PySem.W.exmOne K (.ref a.BadKind) (.ref a.BadKind) = some true
  em_SaysNothing_BadKind : PySem.W.exmOne K (.ref a.SaysNothing) (.ref a.BadKind) = some false
  x0_BadKind : Xc0 K mg "BadKind" a.BadKind
  g_SaysNothing : mg "SaysNothing" = some (.ref a.SaysNothing)
  ex_SaysNothing : ExmC K a.SaysNothing
  em_BadLetter_SaysNothing : PySem.W.exmOne K (.ref a.BadLetter) (.ref a.SaysNothing) = some false
  em_BadKind_SaysNothing : PySem.W.exmOne K (.ref a.BadKind) (.ref a.SaysNothing) = some false
  em_SaysNothing_SaysNothing : PySem.W.exmOne K (.ref a.SaysNothing) (.ref a.SaysNothing) = some true
  x0_SaysNothing : Xc0 K mg "SaysNothing" a.SaysNothing
  F_is_word : ∃ fd, Fun K "is_word" "is_word" s_is_word a.f_is_word fd ∧ Binds K fd ["value"] []
  g_is_word : mg "is_word" = some (.ref a.f_is_word)
  F_is_beginning : ∃ fd, Fun K "is_beginning" "is_beginning" s_is_beginning a.f_is_beginning fd ∧ Binds K fd ["value"] []
  g_is_beginning : mg "is_beginning" = some (.ref a.f_is_beginning)
  F_is_letter : ∃ fd, Fun K "is_letter" "is_letter" s_is_letter a.f_is_letter fd ∧ Binds K fd ["value"] []
  g_is_letter : mg "is_letter" = some (.ref a.f_is_letter)
  F_Letters___contains__ : ∃ fd, Fun K "__contains__" "Letters.__contains__" s_Letters___contains__ a.f_Letters___contains__ fd ∧ Binds K fd ["self", "x"] []
  m_Letters___contains__ : Meth K a.Letters "__contains__" a.f_Letters___contains__
  F_Letters___init__ : ∃ fd, Fun K "__init__" "Letters.__init__" s_Letters___init__ a.f_Letters___init__ fd ∧ Binds K fd ["self", "words"] []
  F_Letters_rank : ∃ fd, Fun K "rank" "Letters.rank" s_Letters_rank a.f_Letters_rank fd ∧ Binds K fd ["self", "x"] []
  m_Letters_rank : Meth K a.Letters "rank" a.f_Letters_rank
  F_is_one_of : ∃ fd, Fun K "is_one_of" "is_one_of" s_is_one_of a.f_is_one_of fd ∧ Binds K fd ["value", "words"] []
  g_is_one_of : mg "is_one_of" = some (.ref a.f_is_one_of)
  F_Sentence___init__ : ∃ fd, FunD K "__init__" "Sentence.__init__" (defArgs s_Sentence___init__) (defBody s_Sentence___init__) (defScope s_Sentence___init__) [.non] [] a.f_Sentence___init__ fd
  F__law_pen : ∃ fd, Fun K "_law_pen" "_law_pen" s__law_pen a.f__law_pen fd ∧ Binds K fd ["_law_script"] []
  g__law_pen : mg "_law_pen" = some (.ref a.f__law_pen)
  F__law_draw : ∃ fd, Fun K "_law_draw" "_law_draw" s__law_draw a.f__law_draw fd ∧ Binds K fd ["_law_pen_here", "_law_many"] []
  g__law_draw : mg "_law_draw" = some (.ref a.f__law_draw)
  F__law_pick : ∃ fd, Fun K "_law_pick" "_law_pick" s__law_pick a.f__law_pick fd ∧ Binds K fd ["_law_pen_here", "_law_options"] []
  g__law_pick : mg "_law_pick" = some (.ref a.f__law_pick)
  F__law_letters : ∃ fd, Fun K "_law_letters" "_law_letters" s__law_letters a.f__law_letters fd ∧ Binds K fd ["_law_pen_here", "_law_many"] []
  g__law_letters : mg "_law_letters" = some (.ref a.f__law_letters)
  F__law_normal : ∃ fd, Fun K "_law_normal" "_law_normal" s__law_normal a.f__law_normal fd ∧ Binds K fd ["_law_letters_here", "_law_triple_here"] []
  g__law_normal : mg "_law_normal" = some (.ref a.f__law_normal)
  F__law_triple : ∃ fd, Fun K "_law_triple" "_law_triple" s__law_triple a.f__law_triple fd ∧ Binds K fd ["_law_sentence"] []
  g__law_triple : mg "_law_triple" = some (.ref a.f__law_triple)
  F__law_drawn : ∃ fd, Fun K "_law_drawn" "_law_drawn" s__law_drawn a.f__law_drawn fd ∧ Binds K fd ["_law_pen_here", "_law_letters_here"] []
  g__law_drawn : mg "_law_drawn" = some (.ref a.f__law_drawn)
  F__law_odd : ∃ fd, Fun K "_law_odd" "_law_odd" s__law_odd a.f__law_odd fd ∧ Binds K fd ["_law_pen_here", "_law_letters_here"] []
  g__law_odd : mg "_law_odd" = some (.ref a.f__law_odd)
  F__law_due : ∃ fd, Fun K "_law_due" "_law_due" s__law_due a.f__law_due fd ∧ Binds K fd ["_law_letters_here", "_law_kind", "_law_first", "_law_second"] []
  g__law_due : mg "_law_due" = some (.ref a.f__law_due)
  F__law_told : ∃ fd, Fun K "_law_told" "_law_told" s__law_told a.f__law_told fd ∧ Binds K fd ["_law_letters_here", "_law_kind", "_law_first", "_law_second"] []
  g__law_told : mg "_law_told" = some (.ref a.f__law_told)
  F_law : ∃ fd, Fun K "law" "law" s_law a.f_law fd ∧ Binds K fd ["_law_script"] []
  g_law : mg "law" = some (.ref a.f_law)
section
variable {P : Program} {w : World} {K : PySem.W.Frag} {mg : Str → Option Value} {base : Heap} {a : Ad}
def sp_BadLetter (C : Addr) : Sp := fun vs H Q _ => ∃ (x : Addr) (y0 : V), vs = [.ref x, y0] ∧ Fmt y0 ∧ H x = some (exo x C none) ∧ ∀ (d : Addr) (H' : Hp), H d = none → d ≠ x → H' x = some (exo x C (some d)) → H' d = some (exd d [("index", y0)]) → (∀ b, b ≠ x → b ≠ d → H' b = H b) → Q .non H'
theorem x_BadLetter (T : Txt P K mg a) : Xcl P w K mg base 1 "BadLetter" a.BadLetter ["self", "index"] (sp_BadLetter a.BadLetter) := by
  obtain ⟨cc, c, doc, pm, ctv, xi, b⟩ := T.xi_BadLetter
  refine ⟨xi.ox, T.xf_BadLetter, _, _, T.in_BadLetter, T.ty_BadLetter, fn_exc xi sc_BadLetter___init__ rfl (fun vs H Q E h => ?_) (fun A outer s H vs Q E hr h => ?_), T.g_BadLetter, b⟩
  · obtain ⟨x, y0, rfl, _⟩ := h; rfl
  · obtain ⟨x, y0, rfl, f0, hx, q⟩ := h
    refine ⟨_, _, x, pa_cons (pe_joined (PJ.cons pe_str (PJ.cons (pe_fmt (pv 1)) PJ.nil))) pa_nil, (pss_one (ps_ost (pv 0) (pv 1))), rfl, hx, ?_⟩
    refine js_c (n := 0) ?_ (by decide) (by decide +kernel) fun a0 h0 => ?_
    · exact Nat.zero_le _
    refine js_f (n := 1000) rfl ?_ (by decide) f0 fun a1 h1 => ?_
    · exact h0
    refine js_0 ?_
    refine ⟨by show 1 ≤ 1000; decide, hx, ?_⟩
    refine rd_ost1 xi.ox T.na_BadLetter_index rfl rfl hx fun d hd ne => ?_
    refine q d _ hd ne ?_ ?_ fun b h1 h2 => ?_
    · simp only [upd_same, upd_ne ne, upd_ne ne.symm]
    · simp only [upd_same, upd_ne ne, upd_ne ne.symm]
    · simp only [upd_ne h1, upd_ne h2]
/-- raise BadLetter(..) -/
theorem rz_BadLetter {H : Hp} {y0 : V} {R : Value → Option Addr → Hp → Prop} (f0 : Fmt y0) (q : ∀ d H', H d = none → Ex H H' → H' d = some (.xd [("index", y0)]) → R (.ref a.BadLetter) (some d) H') :
    [y0].length ≤ 1000 ∧ ∀ x, H x = none → sp_BadLetter a.BadLetter (.ref x :: ([y0] ++ [])) (upd H x (exo x a.BadLetter none)) (fun v H2 => v = .non ∧ ∃ (d : Addr) (fs : List (Str × V)), H2 x = some (exo x a.BadLetter (some d)) ∧ H2 d = some (exd d fs) ∧ H d = none ∧ R (.ref a.BadLetter) (some d) (upd (del H2 x) d (.xd fs))) (fun _ _ _ => False) := by
  refine ⟨by show 1 ≤ 1000; decide, fun x hx => ⟨x, y0, rfl, f0, upd_same, fun d H' hd ne h1 h2 st => ⟨rfl, d, _, h1, h2, ?_, ?_⟩⟩⟩
  · rw [upd_ne ne] at hd; exact hd
  · rw [upd_ne ne] at hd
    obtain ⟨e1, e2⟩ := raised (C := a.BadLetter) (fs := [("index", y0)]) hx hd ne st
    exact q d _ hd e1 e2
end
local macro_rules | `(tactic| walk_at "st1") => `(tactic| with_reducible (first
  | refine rd_seq ?_ | refine rd_op ?_ | refine rd_c ?_ | refine rd_cb ?_ | refine rd_cons ?_ | refine rd_nil ?_ | refine rd_B ?_ | refine rd_test ?_ | refine rd_bl ?_ | refine rd_I0 ?_
  | refine rd_not ?_ | refine rd_and ?_ | refine rd_or ?_ | refine rd_andV ?_ | refine rd_orV ?_ | refine rd_notV ?_ | refine rd_if ?_ | refine rd_chain ?_ | refine rd_un ?_ | refine rd_call ?_
  | refine rd_ifS ?_ | refine rd_asg ?_ | refine rd_drop ?_ | refine rd_ret ?_ | refine rd_next ?_ | refine rd_par ?_ | refine rd_two ?_ | refine rd_tup ?_ | refine rd_lst ?_ | refine rd_fld ?_ | refine rd_dget ?_ | refine rd_dput ?_ | refine rd_sfld ?_
  | refine rd_isiStr ?_ | refine rd_sign ?_ | refine rd_intI ?_ | refine rd_intB ?_ | refine rd_abs ?_ | refine rd_isN' ?_ | refine rd_gname ?_ | refine iteT ?_ | refine iteF ?_ | refine rd_nt ?_ | refine rd_nf ?_  | refine rd_yes ?_ | refine rd_sl ?_ | refine rd_noPart ?_ | refine rd_part ?_ | refine rd_partAt ?_ | refine rd_make ?_ | refine rd_meth ?_ | refine rd_bm ?_ | refine rd_m1 ?_ | refine rd_isS ?_ | refine rd_ifT ?_ | refine rd_tupm ?_ | refine rd_iStr ?_ | refine rd_iStrAt ?_ | refine rd_iList ?_ | refine rd_iTup ?_ | refine rd_iRng1 ?_ | refine rd_iEnum ?_))
local macro_rules | `(tactic| walk_at "st") => `(tactic| ((repeat (first
  | walk_at "st1"
  | ((with_reducible show L2.tVar _ _ _ _); refine rd_var rfl ?_)
  | ((with_reducible show L2.tAug _ _ _ _ _ _); refine rd_aug rfl ?_)
  | ((with_reducible refine rd_eq ?_ ?_); exact rfl)
  | ((with_reducible refine rd_ne ?_ ?_); exact rfl)))))

section
variable {P : Program} {w : World} {K : PySem.W.Frag} {mg : Str → Option Value} {base : Heap} {a : Ad}
/-! ### is_word, is_beginning, is_letter -/
abbrev smallS : Str := "abcdefghijklmnopqrstuvwxyz"
abbrev signsS : Str := "abcdefghijklmnopqrstuvwxyz0123456789"
def isWordB (z : Str) : Bool := decide (1 ≤ z.length) && decide (z.length ≤ 12) && (z.cps.toList.take 1).all (fun c => decide (c ∈ smallS.cps.toList)) && z.cps.toList.all (fun c => decide (c ∈ signsS.cps.toList))
def spIsWord : Sp := fun vs H Q _ => ∃ z : Str, vs = [.str z] ∧ z.length ≤ 1000 ∧ ∀ H', Ex H H' → Q (.bl (isWordB z)) H'
theorem c_is_word (T : Txt P K mg a) : Cal P w K mg base 1 "is_word" ["value"] spIsWord := by
  obtain ⟨fd, F, b⟩ := T.F_is_word
  refine ⟨_, _, F.ok sc_is_word (fun vs H Q E h => ?_) (fun cdv A outer s H vs Q E hr h => ?_), T.g_is_word, F.kp, b⟩
  · obtain ⟨z, rfl, _⟩ := h
    rfl
  · obtain ⟨z, rfl, hz, k⟩ := h
    refine ⟨_, (pss_cons (ps_if (PW.pt (pw_or (pt_not (pt_val (pe_callB call_isi (by rfl) T.n_isinstance (by decide +kernel) (pa_cons (pv 0) (pa_cons (pe_bty "str" T.n_str (by decide +kernel)) pa_nil))))) (pw_or1 (pt_not (pt_chain op_le op_le pe_int (pe_callB call_len_str (by rfl) T.n_len (by decide +kernel) (pa_cons (pv 0) pa_nil)) pe_int))))) (pss_one (ps_ret pe_bl)) pss_nil)
  (pss_one (ps_ret (pe_and (pe_cmpR op_in_sign (pe_ix ix_str (pv 0) pe_int (fun _ _ => rfl)) (pe_gstr T.g_SMALL) (by rfl)) (pe_one (pe_callB (cr_all rfl) (by rfl) T.n_all (by decide +kernel) (pa_cons (pe_lc (own := [("sign", 1)]) (by rfl) sc_is_word.nd (pi_str (pv 0)) (blkOk_by (own := [("sign", 1)]) (N := N_is_word) (sc := defScope s_is_word) (by decide +kernel)) (fun _ _ _ _ _ => (pg_name (i := 1) sc_is_word.nd rfl (by first | exact Or.inl rfl | exact Or.inr rfl))) (fun _ _ _ _ _ => pts_nil) (fun _ _ _ _ _ => (pe_cmpR op_in_sign (pv 1) (pe_gstr T.g_SIGNS) (by rfl)))) pa_nil))))))), ?_⟩
    walk_at "st"
    refine rd_lenS (z := z) (by omega) ?_
    walk_at "st"
    have fin : ∀ {b : Bool} {H'}, Ex H H' → isWordB z = b → Q (.bl b) H' := fun e h => h ▸ k _ e
    refine ite2 (fun h1 => ?_) (fun h1 => ?_)
    · walk_at "st"
      have h1' := of_decide_eq_true h1
      refine ite2 (fun h2 => ?_) (fun h2 => ?_)
      · walk_at "st"
        refine fin (Ex.refl _) ?_
        have : ¬ z.length ≤ 12 := fun h => by simp at h2; omega
        simp [isWordB, this]
      · have h2' : z.length ≤ 12 := by simp at h2; omega
        walk_at "st"
        obtain ⟨c, r, ez⟩ : ∃ c r, z.cps.toList = c :: r := by
          cases e : z.cps.toList with
          | nil => exfalso; have : z.length = z.cps.toList.length := by simp [Str.length]
                   rw [e] at this; simp at this; omega
          | cons c r => exact ⟨c, r, rfl⟩
        refine rd_ixS (c := c) (by omega) (by rw [ez]; exact atI_nat (j := 0) rfl) ?_
        walk_at "st"
        refine ite2 (fun h3 => ?_) (fun h3 => ?_)
        · walk_at "st"
          refine rd_lcPure (k := 1) (fun R r => ⟨_, rfl, _, rfl, r⟩) (f := fun i => .bl (decide (z.cps.toList.getD i 0 ∈ signsS.cps.toList))) (yl_str z) (fun _ _ => trivial) (by have := len_cps z; simp at this; omega) (fun i x H' hi e y Q' q => ?_) (fun p H' hp e hl => ?_)
          · obtain ⟨d, hd, rfl⟩ := y
            walk_at "st"
            have : z.cps.toList.getD i 0 = d := by simp [List.getD, hd]
            rw [this] at q
            exact q H' (Ex.refl _)
          · walk_at "st"
            have el : (List.range z.cps.size).map (fun i => V.bl (decide (z.cps.toList.getD i 0 ∈ signsS.cps.toList))) = (z.cps.toList.map fun d => decide (d ∈ signsS.cps.toList)).map V.bl := by
              apply List.ext_getElem
              · simp
              · intro n h1 h2
                have : n < z.cps.size := by simpa using h1
                simp [List.getD, this]
            rw [el] at hl
            refine rd_all (sq_of hl) (fin e ?_)
            have h3' := of_decide_eq_true h3
            have e1 : decide (1 ≤ z.length) = true := decide_eq_true (by omega)
            have e2 : decide (z.length ≤ 12) = true := decide_eq_true h2'
            unfold isWordB
            rw [e1, e2, ez, List.all_map]
            simp only [List.take, List.all_cons, List.all_nil, h3, Bool.and_true, Bool.true_and]
            rfl
        · refine fin (Ex.refl _) ?_
          have h3' : decide (c ∈ smallS.cps.toList) = false := by simpa using h3
          unfold isWordB
          rw [ez]
          simp only [List.take, List.all_cons, List.all_nil, h3', Bool.and_false, Bool.false_and]
    · walk_at "st"
      refine fin (Ex.refl _) ?_
      have : ¬ 1 ≤ z.length := fun h => by simp at h1; omega
      simp [isWordB, this]
def isBegB (z : Str) : Bool := decide (z = "new") || decide (z = "found")
def spIsBeg : Sp := fun vs H Q _ => ∃ z : Str, vs = [.str z] ∧ Q (.bl (isBegB z)) H
theorem inV_two (z x y : Str) : inV (.str z) [.str x, .str y] = (decide (z = x) || decide (z = y)) := by
  have e : ∀ u v : Str, (u == v) = decide (v = u) := fun u v => by
    rw [Bool.eq_iff_iff, beq_iff_eq, decide_eq_true_eq]; exact eq_comm
  simp only [inV, eqV, List.any_cons, List.any_nil, Bool.or_false, e]
theorem c_is_beginning (T : Txt P K mg a) : Cal P w K mg base 1 "is_beginning" ["value"] spIsBeg := by
  obtain ⟨fd, F, b⟩ := T.F_is_beginning
  refine ⟨_, _, F.ok sc_is_beginning (fun vs H Q E h => ?_) (fun cdv A outer s H vs Q E hr h => ?_), T.g_is_beginning, F.kp, b⟩
  · obtain ⟨z, rfl, _⟩ := h
    rfl
  · obtain ⟨z, rfl, k⟩ := h
    refine ⟨_, (pss_one (ps_ret (pe_and (pe_callB call_isi (by rfl) T.n_isinstance (by decide +kernel) (pa_cons (pv 0) (pa_cons (pe_bty "str" T.n_str (by decide +kernel)) pa_nil))) (pe_one (pe_cmpR op_in_seq (pv 0) (pe_gref T.g_BEGINNINGS) (by rfl)))))), ?_⟩
    walk_at "st"
    refine ⟨_, _, rfl, .inr (T.k_BEGINNINGS H), rfl, rfl, ?_⟩
    rw [if_neg Bool.false_ne_true, inV_two]
    exact k
def bareS (z : Str) : Str := if decide (V.str (cutS z none (some 1)) = V.str "~") = true then cutS z (some 1) none else z
def isLetterB (z : Str) : Bool := isWordB (bareS z) && !isBegB (bareS z)
def spIsLetter : Sp := fun vs H Q _ => ∃ z : Str, vs = [.str z] ∧ z.length ≤ 1000 ∧ ∀ H', Ex H H' → Q (.bl (isLetterB z)) H'
theorem c_is_letter (T : Txt P K mg a) : Cal P w K mg base 2 "is_letter" ["value"] spIsLetter := by
  obtain ⟨fd, F, b⟩ := T.F_is_letter
  refine ⟨_, _, F.ok sc_is_letter (fun vs H Q E h => ?_) (fun cdv A outer s H vs Q E hr h => ?_), T.g_is_letter, F.kp, b⟩
  · obtain ⟨z, rfl, _⟩ := h
    rfl
  · obtain ⟨z, rfl, hz, k⟩ := h
    refine ⟨_, (pss_cons (ps_if (pt_not (pt_val (pe_callB call_isi (by rfl) T.n_isinstance (by decide +kernel) (pa_cons (pv 0) (pa_cons (pe_bty "str" T.n_str (by decide +kernel)) pa_nil))))) (pss_one (ps_ret pe_bl)) pss_nil)
  (pss_cons (ps_set (i := 1) sc_is_letter.nd rfl (by first | exact Or.inl rfl | exact Or.inr rfl) (pe_ifExp (pt_cmpR op_eq (pe_slice sl_str (pv 0) po_none (po_some pe_int)) pe_str (by rfl)) (pe_slice sl_str (pv 0) (po_some pe_int) po_none) (pv 0)))
  (pss_one (ps_ret (pe_and (pe_callC (c_is_word T) hr (pa_cons (pv 1) pa_nil)) (pe_one (pe_not (pe_callC (c_is_beginning T) hr (pa_cons (pv 1) pa_nil))))))))), ?_⟩
    walk_at "st"
    refine rd_slS (by omega) ?_
    walk_at "st"
    have fin : ∀ (y : Str), bareS z = y → y.length ≤ 1000 → tRet (tAndV (tCall spIsWord [] E0 (tCons (tVar 1) tNil)) (tNotV (tCall spIsBeg [] E0 (tCons (tVar 1) tNil)))) { nx := fun x H' => Q V.non H', rt := Q } [some (.str z), some (.str y)] H := by
      intro y ey ly
      walk_at "st"
      refine ⟨y, rfl, ly, fun H' e => ?_⟩
      walk_at "st"
      refine ite2 (fun h => ?_) (fun h => ?_)
      · walk_at "st"
        refine ⟨y, rfl, ?_⟩
        walk_at "st"
        have : isLetterB z = !isBegB y := by rw [isLetterB, ey, h]; rfl
        rw [← this]
        exact k _ e
      · have : isLetterB z = false := by rw [isLetterB, ey, Bool.eq_false_iff.mpr h]; rfl
        rw [← this]
        exact k _ e
    refine ite2 (fun h => ?_) (fun h => ?_)
    · walk_at "st"
      refine rd_slS (by omega) ?_
      exact fin _ (if_pos h) (Nat.le_trans (cutS_length _ _ _) hz)
    · refine rd_var rfl ?_
      exact fin _ (if_neg h) hz
/-! ### Letters -/
def LetAt (a : Ad) (H : Hp) (p : Addr) (ws : List Str) : Prop := ∃ dx t o, H p = some (.ins a.Letters dx [("words", .ref t)]) ∧ H t = some (.frz o (.tup (ws.map V.str))) ∧ o.dict = none ∧ ∀ x ∈ ws, PyData.strOk x = true
theorem LetAt.ex {a : Ad} {H H' : Hp} {p : Addr} {ws : List Str} (l : LetAt a H p ws) (e : Ex H H') : LetAt a H' p ws := let ⟨dx, t, o, h1, h2, h3⟩ := l; ⟨dx, t, o, e _ _ h1, e _ _ h2, h3⟩
theorem inV_strs (z : Str) : ∀ ws : List Str, inV (.str z) (ws.map V.str) = decide (z ∈ ws)
  | [] => by simp [inV]
  | x :: r => by
    have ih := inV_strs z r
    have e : ∀ u v : Str, (u == v) = decide (v = u) := fun u v => by rw [Bool.eq_iff_iff, beq_iff_eq, decide_eq_true_eq]; exact eq_comm
    show (eqV (.str x) (.str z) || inV (.str z) (r.map V.str)) = _
    rw [ih]
    show ((x == z) || decide (z ∈ r)) = _
    rw [e, Bool.eq_iff_iff]
    simp
theorem flat_strs : ∀ ws : List Str, (ws.map V.str).all flatV = true
  | [] => rfl
  | x :: r => by
    rw [List.map_cons, List.all_cons, flat_strs r]
    rfl
def inWs (v : V) (ws : List Str) : Bool := match v with
  | .str z => decide (z ∈ ws)
  | _ => false
theorem inWs_not {v : V} {ws : List Str} (h : isStrV v = false) : inWs v ws = false := by
  cases v with
  | str z => cases h
  | _ => rfl
def spContains (a : Ad) : Sp := fun vs H Q _ => ∃ p v ws, vs = [.ref p, v] ∧ LetAt a H p ws ∧ Kd H v ∧ Q (.bl (inWs v ws)) H
theorem c_Letters___contains__ (T : Txt P K mg a) : Mth P w K mg base 1 a.Letters "__contains__" ["self", "x"] (spContains a) := by
  obtain ⟨fd, F, b⟩ := T.F_Letters___contains__
  refine ⟨T.cl_Letters, _, _, T.m_Letters___contains__, F.ok sc_Letters___contains__ (fun vs H Q E h => ?_) (fun cdv A outer s H vs Q E hr h => ?_), b⟩
  · obtain ⟨p, z, ws, rfl, _⟩ := h
    rfl
  · obtain ⟨p, v, ws, rfl, ⟨dx, t, o, h1, h2, h3, h4⟩, kd, k⟩ := h
    refine ⟨_, (pss_one (ps_ret (pe_and (pe_callB call_isi (by rfl) T.n_isinstance (by decide +kernel) (pa_cons (pv 1) (pa_cons (pe_bty "str" T.n_str (by decide +kernel)) pa_nil))) (pe_one (pe_cmpR op_in_seq (pv 1) (pe_fld (pv 0) rfl) (by rfl)))))), ?_⟩
    walk_at "st"
    refine rd_isiKd kd ?_
    walk_at "st"
    cases hs : isStrV v with
    | false =>
      refine iteF ?_
      rw [inWs_not hs] at k
      exact k
    | true =>
      obtain ⟨z, rfl⟩ := isStrV_iff.mp hs
      walk_at "st"
      refine rd_fldAt h1 T.cl_Letters T.na_Letters_words rfl ?_
      refine ⟨_, _, rfl, .inr (st_frz h2), rfl, flat_strs _, ?_⟩
      rw [if_neg Bool.false_ne_true, inV_strs]
      exact k
def spRank (a : Ad) : Sp := fun vs H Q _ => ∃ p z ws, vs = [.ref p, .str z] ∧ LetAt a H p ws ∧ z ∈ ws ∧ z.length ≤ 1000 ∧ ∀ j : Nat, ws[j]? = some z → (∀ m, m < j → ws[m]? ≠ some z) → Q (.int j) H
theorem first_at {z : Str} : ∀ {ws : List Str}, z ∈ ws → ∃ j : Nat, ws[j]? = some z ∧ ∀ m, m < j → ws[m]? ≠ some z
  | [], h => by cases h
  | x :: r, h => by
    by_cases e : x = z
    · exact ⟨0, by rw [e]; rfl, fun m hm => absurd hm (Nat.not_lt_zero _)⟩
    · obtain ⟨j, h1, h2⟩ := first_at (ws := r) (by rcases List.mem_cons.mp h with q | q; exact absurd q.symm e; exact q)
      refine ⟨j + 1, by simpa using h1, fun m hm => ?_⟩
      cases m with
      | zero => simpa using e
      | succ m => simpa using h2 m (by omega)
theorem c_Letters_rank (T : Txt P K mg a) : Mth P w K mg base 2 a.Letters "rank" ["self", "x"] (spRank a) := by
  obtain ⟨fd, F, b⟩ := T.F_Letters_rank
  refine ⟨T.cl_Letters, _, _, T.m_Letters_rank, F.ok sc_Letters_rank (fun vs H Q E h => ?_) (fun cdv A outer s H vs Q E hr h => ?_), b⟩
  · obtain ⟨p, z, ws, rfl, _⟩ := h
    rfl
  · obtain ⟨p, z, ws, rfl, L, hm, hz, k⟩ := h
    obtain ⟨dx, t, o, h1, h2, h3, h4⟩ := id L
    refine ⟨_, (pss_cons (ps_if (pt_cmpR (op_notInOwn (c_Letters___contains__ T) hr) (pv 1) (pv 0) (by rfl)) (pss_one ps_never) pss_nil)
  (pss_one (ps_ret (pe_tupm PySem.F.slot_tuple_index PySem.F.type_tuple_index mt_tup_index (pe_fld (pv 0) rfl) (pa_cons (pv 1) pa_nil))))), ?_⟩
    walk_at "st"
    refine ⟨_, _, _, rfl, h1, _, _, _, rfl, L, .str z hz, ?_⟩
    refine ⟨_, rfl, ?_⟩
    walk_at "st"
    rw [show inWs (V.str z) ws = true from decide_eq_true hm]
    walk_at "st"
    refine rd_fldAt h1 T.cl_Letters T.na_Letters_words rfl ?_
    obtain ⟨j, j1, j2⟩ := first_at hm
    refine ⟨⟨_, _, _, rfl, h2, h3⟩, ?_⟩
    walk_at "st"
    exact ⟨_, _, _, j, rfl, rfl, st_frz h2, j1, j2, k j j1 j2⟩
end


section
variable {P : Program} {w : World} {K : PySem.W.Frag} {mg : Str → Option Value} {base : Heap} {a : Ad}
/-- a list of letters -/
structure LetOk (ws : List Str) : Prop where
  one : 1 ≤ ws.length
  most : ws.length ≤ 12
  ok : ∀ x ∈ ws, isLetterB x = true
  short : ∀ x ∈ ws, x.length ≤ 1000
  nd : ws.Nodup
  so : ∀ x ∈ ws, PyData.strOk x = true
def spLetInit (a : Ad) : Sp := fun vs H Q _ => ∃ x dx l ws, vs = [.ref x, .ref l] ∧ H x = some (.ins a.Letters dx []) ∧ H l = some (.lst (ws.map V.str)) ∧ LetOk ws ∧
  ∀ t o H', H t = none → o.dict = none → H' t = some (.frz o (.tup (ws.map V.str))) → H' x = some (.ins a.Letters dx [("words", .ref t)]) → Kx x H H' → Q .non H'
theorem cutV_to {xs : List V} {i : Nat} (h : i ≤ xs.length) : cutV xs none (some (i : Int)) = xs.take i := by
  unfold cutV
  rw [HT.sIx_none, HT.sIx_nat, Nat.min_eq_left h]
  simp
theorem c_Letters (T : Txt P K mg a) : Ctr P w K mg base 3 "Letters" a.Letters ["self", "words"] [] (spLetInit a) := by
  obtain ⟨fd, F, b⟩ := T.F_Letters___init__
  refine ⟨_, _, [], T.mk_Letters, F.ok sc_Letters___init__ (fun vs H Q E h => ?_) (fun cdv A outer s H vs Q E hr h => ?_), T.g_Letters, b, .nil⟩
  · obtain ⟨x, dx, l, ws, rfl, _⟩ := h
    rfl
  · obtain ⟨x, dx, l, ws, rfl, hx, hl, L, k⟩ := h
    refine ⟨_, (pss_cons (ps_if (pt_cmpR op_gt (pe_callB call_len_seq (by rfl) T.n_len (by decide +kernel) (pa_cons (pv 1) pa_nil)) (pe_gint T.g_MOST_LETTERS) (by rfl)) (pss_one ps_never) pss_nil)
  (pss_cons (ps_if (pt_cmpR op_eq (pe_callB call_len_seq (by rfl) T.n_len (by decide +kernel) (pa_cons (pv 1) pa_nil)) pe_int (by rfl)) (pss_one ps_never) pss_nil)
  (pss_cons (ps_for PassesOwn.never (by rfl) (pi_enum (by rfl) T.n_enumerate (pa_cons (pv 1) pa_nil)) (pg_tup rfl (pgs_cons (pg_name (i := 2) sc_Letters___init__.nd rfl (by first | exact Or.inl rfl | exact Or.inr rfl)) (pgs_cons (pg_name (i := 3) sc_Letters___init__.nd rfl (by first | exact Or.inl rfl | exact Or.inr rfl)) pgs_nil)))
    (pss_one (ps_if (PW.pt (pw_or (pt_not (pt_val (pe_callC (c_is_letter T) hr (pa_cons (pv 3) pa_nil)))) (pw_or1 (pt_cmpR op_in_seq (pv 3) (pe_slice sl_list (pv 1) po_none (po_some (pv 2))) (by rfl))))) (pss_one ps_never) pss_nil)))
  (pss_one (ps_fld (pv 0) (pe_callTy call_tuple_frz (by rfl) T.n_tuple (by decide +kernel) (pa_cons (pv 1) pa_nil)) rfl))))), ?_⟩
    walk_at "st"
    refine rd_lenL (sq_of hl) ?_
    walk_at "st"
    refine ite2 (fun h => absurd (of_decide_eq_true h) (by have := L.most; simp; omega)) (fun _ => ?_)
    walk_at "st"
    refine rd_lenL (sq_of hl) ?_
    walk_at "st"
    refine ite2 (fun h => by have h' := V.int.inj (of_decide_eq_true h); rw [List.length_map] at h'; have := L.one; omega) (fun _ => ?_)
    walk_at "st"
    refine rd_forYl (J := Ite _ l) (H1 := H) (fun R r => ⟨_, rfl, l, _, rfl, sq_of hl, r⟩) (yl_enum (ws.map V.str)) (fun i σ H' => ∃ v1 v2, σ = [some (.ref x), some (.ref l), v1, v2] ∧ Ex H H') (fun i σ H' _ p => ?_) ⟨none, none, rfl, Ex.refl _⟩ (fun i y σ H1 H2 hi p e yy => ?_) (fun σ H' p => ?_)
    · obtain ⟨_, _, _, e⟩ := p
      exact sq_of (e _ _ hl)
    · obtain ⟨v1, v2, rfl, e1⟩ := p
      obtain ⟨t, z, rfl, ht, hz⟩ := yy
      have e2 := e1.trans e
      rw [List.length_map] at hi
      have hz' : z = V.str ws[i] := by
        rw [List.getElem?_map, List.getElem?_eq_getElem hi] at hz
        exact (Option.some.inj hz).symm
      subst hz'
      refine ⟨t, _, rfl, st_of ht, rfl, ?_⟩
      refine ⟨_, _, rfl, _, _, rfl, rfl, ?_⟩
      walk_at "st"
      refine ⟨_, rfl, L.short _ (List.getElem_mem hi), fun H3 e3 => ?_⟩
      rw [L.ok _ (List.getElem_mem hi)]
      walk_at "st"
      refine rd_slL (sq_of (e3 _ _ (e2 _ _ hl))) (fun m H4 hm e4 h4 => ?_)
      refine ⟨_, _, rfl, .inl (sq_of h4), rfl, ?_, ?_⟩
      · rw [cutV_to (by simp; omega), ← List.map_take]; exact flat_strs _
      · rw [if_neg Bool.false_ne_true, cutV_to (by simp; omega), ← List.map_take, inV_strs]
        have : ws[i] ∉ ws.take i := fun hm => by
          obtain ⟨j, hj, ej⟩ := List.mem_iff_getElem.mp hm
          rw [List.length_take] at hj
          rw [List.getElem_take] at ej
          exact List.pairwise_iff_getElem.mp L.nd j i (by omega) hi (by omega) ej
        rw [decide_eq_false this]
        walk_at "st"
        exact ⟨_, _, rfl, (e2.trans e3).trans e4⟩
    · obtain ⟨v1, v2, rfl, e1⟩ := p
      walk_at "st"
      refine ⟨_, _, rfl, .inl ⟨sq_of (e1 _ _ hl), fun t o ht ho => ?_⟩⟩
      walk_at "st"
      have nx : x ≠ t := ne_of_none (e1 _ _ hx) ht
      refine rd_sfldAt (by rw [upd_ne nx]; exact e1 _ _ hx) T.cl_Letters T.na_Letters_words (by show 0 < 1000; decide) ?_
      refine k t o _ (fresh_back e1 ht) ho (by rw [upd_ne nx.symm, upd_same]) upd_same (fun b u nb hb => ?_)
      rw [upd_ne nb, upd_ne (ne_of_none (e1 _ _ hb) ht)]
      exact e1 _ _ hb
/-! ### is_one_of, Sentence -/
def spOneOf (K : PySem.W.Frag) : Sp := fun vs H Q _ => ∃ (v : V) (p : Addr) (ks : List Str), vs = [v, .ref p] ∧ Kd H v ∧ SqT K H p (ks.map V.str) ∧ Q (.bl (inWs v ks)) H
theorem c_is_one_of (T : Txt P K mg a) : Cal P w K mg base 1 "is_one_of" ["value", "words"] (spOneOf K) := by
  obtain ⟨fd, F, b⟩ := T.F_is_one_of
  refine ⟨_, _, F.ok sc_is_one_of (fun vs H Q E h => ?_) (fun cdv A outer s H vs Q E hr h => ?_), T.g_is_one_of, F.kp, b⟩
  · obtain ⟨z, p, ks, rfl, _⟩ := h
    rfl
  · obtain ⟨v, p, ks, rfl, kd, hp, k⟩ := h
    refine ⟨_, (pss_one (ps_ret (pe_and (pe_callB call_isi (by rfl) T.n_isinstance (by decide +kernel) (pa_cons (pv 0) (pa_cons (pe_bty "str" T.n_str (by decide +kernel)) pa_nil))) (pe_one (pe_cmpR op_in_seq (pv 0) (pv 1) (by rfl)))))), ?_⟩
    walk_at "st"
    refine rd_isiKd kd ?_
    walk_at "st"
    cases hs : isStrV v with
    | false =>
      refine iteF ?_
      rw [inWs_not hs] at k
      exact k
    | true =>
      obtain ⟨z, rfl⟩ := isStrV_iff.mp hs
      walk_at "st"
      refine ⟨_, _, rfl, .inr hp, rfl, flat_strs _, ?_⟩
      rw [if_neg Bool.false_ne_true, inV_strs]
      exact k
end


section
variable {P : Program} {w : World} {K : PySem.W.Frag} {mg : Str → Option Value} {base : Heap} {a : Ad}
abbrev kinds : List Str := ["idle", "kept", "still", "over", "undone", "alike"]
abbrev single : List Str := ["idle", "still"]
def ixOf (z : Str) : List Str → Nat
  | [] => 0
  | x :: r => if x = z then 0 else ixOf z r + 1
theorem ixOf_first {z : Str} : ∀ {ws : List Str} {j : Nat}, ws[j]? = some z → (∀ m, m < j → ws[m]? ≠ some z) → ixOf z ws = j
  | [], j, h, _ => by simp at h
  | x :: r, 0, h, _ => by simp at h; simp [ixOf, h]
  | x :: r, j + 1, h, hm => by
    have h0 : x ≠ z := fun e => hm 0 (Nat.succ_pos _) (by simp [e])
    have := ixOf_first (ws := r) (j := j) (by simpa using h) fun m lt => by
      have := hm (m + 1) (by omega)
      simpa using this
    simp [ixOf, h0, this]
/-- the second letter is at fault -/
def badSecond (ws : List Str) (kv sv : V) : Bool := if inWs kv single then !decide (sv = .non) else !inWs sv ws
/-- which error is due: 0 none, 1 the kind, 2 the first letter, 3 the second, 4 it says nothing -/
def senDue (ws : List Str) (kv fv sv : V) : Nat :=
  if inWs kv kinds = false then 1 else if inWs fv ws = false then 2 else if badSecond ws kv sv = true then 3 else if kv = .str "alike" ∧ fv = sv then 4 else 0
/-- the one form -/
def senNorm (ws : List Str) (k f : Str) (sv : V) : Str × Str × V := match sv with
  | .str y => if k = "alike" ∧ ixOf f ws < ixOf y ws then (k, y, .str f) else if k = "over" ∧ f = y then ("kept", f, .str y) else (k, f, .str y)
  | v => (k, f, v)
def sfs (l : Addr) (r : Str × Str × V) : List (Str × V) := [("letters", .ref l), ("kind", .str r.1), ("first", .str r.2.1), ("second", r.2.2)]
structure SenX (a : Ad) (ws : List Str) (kv fv sv : V) (H : Hp) (E : XK) : Prop where
  kind : senDue ws kv fv sv = 1 → E (.ref a.BadKind) none H
  first : senDue ws kv fv sv = 2 → ∀ d H', H d = none → Ex H H' → H' d = some (.xd [("index", .int 0)]) → E (.ref a.BadLetter) (some d) H'
  second : senDue ws kv fv sv = 3 → ∀ d H', H d = none → Ex H H' → H' d = some (.xd [("index", .int 1)]) → E (.ref a.BadLetter) (some d) H'
  nothing : senDue ws kv fv sv = 4 → E (.ref a.SaysNothing) none H
def spSenInit (a : Ad) : Sp := fun vs H Q E => ∃ x dx l ws kv fv sv, vs = [.ref x, .ref l, kv, fv, sv] ∧ H x = some (.ins a.Sentence dx []) ∧ LetAt a H l ws ∧ (∀ z ∈ ws, z.length ≤ 1000) ∧ Kd H kv ∧ Kd H fv ∧ Kd H sv ∧ SenX a ws kv fv sv H E ∧
  (senDue ws kv fv sv = 0 → ∀ k f H', kv = .str k → fv = .str f → H' x = some (.ins a.Sentence dx (sfs l (senNorm ws k f sv))) → Kx x H H' → Q .non H')
theorem ok_Sentence___init__ {fd : FuncData} (F : FunD K "__init__" "Sentence.__init__" (defArgs s_Sentence___init__) (defBody s_Sentence___init__) (defScope s_Sentence___init__) [.non] [] a.f_Sentence___init__ fd) (T : Txt P K mg a) :
    FnOk P w K mg base (L2.CX P w) 4 a.f_Sentence___init__ fd ["self", "letters", "kind", "first", "second"] (spSenInit a) := by
  refine F.ok sc_Sentence___init__ (fun vs H Q E h => ?_) (fun cdv A outer s H vs Q E hr h => ?_)
  · obtain ⟨x, dx, l, ws, k, f, s, rfl, _⟩ := h
    rfl
  · obtain ⟨x, dx, l, ws, kv, fv, sv, rfl, hx, L, hws, dk, df, ds, SX, q⟩ := h
    obtain ⟨dl, t, o, h1, h2, h3, h4⟩ := id L
    refine ⟨_, (pss_cons (ps_if (pt_not (pt_val (pe_callC (c_is_one_of T) hr (pa_cons (pv 2) (pa_cons (pe_gref T.g_KINDS) pa_nil))))) (pss_one (ps_raise0 T.x0_BadKind (takes_of rfl rfl rfl rfl))) pss_nil)
  (pss_cons (ps_if (pt_cmpR (op_notInOwn (c_Letters___contains__ T) hr) (pv 3) (pv 1) (by rfl)) (pss_one (ps_raiseX (x_BadLetter T) hr (takes_of rfl rfl rfl rfl) (pa_cons pe_int pa_nil))) pss_nil)
  (pss_cons (ps_if (pt_ifExp (pt_cmpR op_in_seq (pv 2) (pe_gref T.g_SINGLE) (by rfl)) (pt_cmpR op_notN (pv 4) pe_non (by rfl)) (pt_cmpR (op_notInOwn (c_Letters___contains__ T) hr) (pv 4) (pv 1) (by rfl))) (pss_one (ps_raiseX (x_BadLetter T) hr (takes_of rfl rfl rfl rfl) (pa_cons pe_int pa_nil))) pss_nil)
  (pss_cons (ps_if (PW.pt (pw_and (pt_cmpR op_eq (pv 2) pe_str (by rfl)) (pw_and1 (pt_cmpR op_eq (pv 3) (pv 4) (by rfl))))) (pss_one (ps_raise0 T.x0_SaysNothing (takes_of rfl rfl rfl rfl))) pss_nil)
  (pss_cons (ps_set (i := 5) sc_Sentence___init__.nd rfl (by first | exact Or.inl rfl | exact Or.inr rfl) (pe_and (pe_cmpR op_eq (pv 2) pe_str (by rfl)) (pe_one (pe_cmpR op_lt (pe_methC (c_Letters_rank T) hr (pv 1) (pa_cons (pv 3) pa_nil)) (pe_methC (c_Letters_rank T) hr (pv 1) (pa_cons (pv 4) pa_nil)) (by rfl)))))
  (pss_cons (ps_fld (pv 0) (pv 1) rfl)
  (pss_cons (ps_fld (pv 0) (pe_ifExp (PW.pt (pw_and (pt_cmpR op_eq (pv 2) pe_str (by rfl)) (pw_and1 (pt_cmpR op_eq (pv 3) (pv 4) (by rfl))))) pe_str (pv 2)) rfl)
  (pss_cons (ps_fld (pv 0) (pe_ifExp (pt_val (pv 5)) (pv 4) (pv 3)) rfl)
  (pss_one (ps_fld (pv 0) (pe_ifExp (pt_val (pv 5)) (pv 3) (pv 4)) rfl)))))))))), ?_⟩
    walk_at "st"
    refine ⟨_, _, kinds, rfl, dk, T.k_KINDS H, ?_⟩
    walk_at "st"
    cases c1 : inWs kv kinds with
    | false =>
      refine rd_nf ?_
      exact SX.kind (by simp [senDue, c1])
    | true =>
    refine rd_nt ?_
    obtain ⟨k, rfl⟩ : ∃ k, kv = V.str k := isStrV_iff.mp (by cases hv : isStrV kv with | true => rfl | false => rw [inWs_not hv] at c1; cases c1)
    have hk : k ∈ kinds := of_decide_eq_true c1
    walk_at "st"
    refine ⟨_, _, _, rfl, h1, _, _, _, rfl, L, df, _, rfl, ?_⟩
    walk_at "st"
    cases c2 : inWs fv ws with
    | false =>
      refine rd_nf ?_
      refine rz_BadLetter (.inr ⟨0, rfl, by decide⟩) (fun d H' hd e h => SX.first (by simp [senDue, c1, c2]) d H' hd e h)
    | true =>
    refine rd_nt ?_
    obtain ⟨f, rfl⟩ : ∃ k, fv = V.str k := isStrV_iff.mp (by cases hv : isStrV fv with | true => rfl | false => rw [inWs_not hv] at c2; cases c2)
    have hf : f ∈ ws := of_decide_eq_true c2
    walk_at "st"
    have sg : inV (.str k) [.str "idle", .str "still"] = inWs (.str k) single := inV_strs k single
    have r3 : badSecond ws (.str k) sv = true → ∀ d H', H d = none → Ex H H' → H' d = some (.xd [("index", .int 1)]) → E (.ref a.BadLetter) (some d) H' := fun c3 d H' hd e h => SX.second (by simp [senDue, c1, c2, c3]) d H' hd e h
    have fin : ∀ (b : Bool) (k' f' : Str) (s' : V), senDue ws (.str k) (.str f) sv = 0 → scal (.str f) sv = true → k' = (if k = "over" ∧ V.str f = sv then ("kept" : Str) else k) → V.str f' = (if b = true then sv else .str f) → s' = (if b = true then .str f else sv) → senNorm ws k f sv = (k', f', s') →
        (tSeq (sFld K (tVar 0) (tVar 1) "letters") (tSeq (sFld K (tVar 0) (tIf (tAnd (tTest (tOp rEq (tVar 2) (tC (V.str "over")))) (tTest (tOp rEq (tVar 3) (tVar 4)))) (tC (V.str "kept")) (tVar 2)) "kind")
          (tSeq (sFld K (tVar 0) (tIf (tB (tVar 5)) (tVar 4) (tVar 3)) "first") (sFld K (tVar 0) (tIf (tB (tVar 5)) (tVar 3) (tVar 4)) "second")))) { nx := fun x H' => Q V.non H', rt := Q } [some (.ref x), some (.ref l), some (.str k), some (.str f), some sv, some (.bl b)] H := by
      intro b k' f' s' d0 sc ek ef es en
      walk_at "st"
      refine rd_sfldAt hx T.cl_Sentence T.na_Sentence_letters (by show 0 < 1000; decide) ?_
      obtain ⟨l1, m1⟩ := putF_lt (f := "letters") (v := V.ref l) (fs := []) (n := 0) (Nat.le_refl _) (by omega)
      obtain ⟨l2, m2⟩ := putF_lt (f := "kind") (v := V.str k') l1 (by omega)
      obtain ⟨l3, m3⟩ := putF_lt (f := "first") (v := V.str f') l2 (by omega)
      have kd : ∀ R : V → Hp → Prop, R (.str k') (upd H x (.ins a.Sentence dx (putF "letters" (V.ref l) []))) → tIf (tAnd (tTest (tOp rEq (tVar 2) (tC (V.str "over")))) (tTest (tOp rEq (tVar 3) (tVar 4)))) (tC (V.str "kept")) (tVar 2) [some (.ref x), some (.ref l), some (.str k), some (.str f), some sv, some (.bl b)] (upd H x (.ins a.Sentence dx (putF "letters" (V.ref l) []))) R := by
        intro R r
        walk_at "st"
        by_cases ko : k = "over"
        · rw [ko, decide_eq_true rfl]
          walk_at "st"
          refine ⟨sc, ?_⟩
          by_cases fs : V.str f = sv
          · rw [decide_eq_true fs]
            rw [if_pos ⟨ko, fs⟩] at ek
            walk_at "st"
            rw [ek] at r
            exact r
          · rw [decide_eq_false fs]
            rw [if_neg (fun h => fs h.2)] at ek
            walk_at "st"
            rw [ek] at r
            first | exact r | exact ko ▸ r
        · rw [decide_eq_false (fun h => ko (V.str.inj h))]
          rw [if_neg (fun h => ko h.1)] at ek
          walk_at "st"
          rw [ek] at r
          exact r
      walk_at "st1"
      walk_at "st1"
      refine kd _ ?_
      walk_at "st"
      refine rd_sfldAt upd_same T.cl_Sentence T.na_Sentence_kind m1 ?_
      have two : ∀ {σ : L2.St} {H' : Hp} {R : V → Hp → Prop} {u v : V} {i j : Nat}, σ[5]? = some (some (.bl b)) → σ[i]? = some (some u) → σ[j]? = some (some v) → R (if b = true then u else v) H' → tIf (tB (tVar 5)) (tVar i) (tVar j) σ H' R := fun {σ H' R u v i j} h5 hi hj r => by
        refine ⟨_, h5, b, rfl, ?_⟩
        cases b with
        | true => exact ⟨u, hi, r⟩
        | false => exact ⟨v, hj, r⟩
      walk_at "st1"
      walk_at "st1"
      refine two rfl rfl rfl ?_
      rw [← ef]
      walk_at "st"
      refine rd_sfldAt upd_same T.cl_Sentence T.na_Sentence_first m2 ?_
      walk_at "st1"
      refine two rfl rfl rfl ?_
      rw [← es]
      walk_at "st"
      refine rd_sfldAt upd_same T.cl_Sentence T.na_Sentence_second m3 ?_
      refine q d0 k f _ rfl rfl ?_ (fun b u nb hb => ?_)
      · rw [en]; exact upd_same
      · rw [upd_ne nb, upd_ne nb, upd_ne nb, upd_ne nb]
        exact hb
    refine ⟨_, _, rfl, .inr (T.k_SINGLE H), rfl, rfl, ?_⟩
    rw [if_neg Bool.false_ne_true, sg]
    cases cs : inWs (V.str k) single with
    | true =>
      have hs : k ∈ single := of_decide_eq_true cs
      have n1 : k ≠ "alike" := fun e => by rw [e] at hs; exact absurd hs (by decide +kernel)
      have n2 : k ≠ "over" := fun e => by rw [e] at hs; exact absurd hs (by decide +kernel)
      have e1 : decide (V.str k = V.str "alike") = false := decide_eq_false fun h => n1 (V.str.inj h)
      walk_at "st"
      by_cases hn : sv = .non
      · subst hn
        rw [decide_eq_true rfl]
        walk_at "st"
        rw [e1]
        walk_at "st"
        rw [e1]
        refine iteF ?_
        refine fin false k f .non ?_ rfl (by rw [if_neg (fun h => n2 h.1)]) rfl rfl rfl
        simp [senDue, c1, c2, badSecond, cs, n1]
      · rw [decide_eq_false hn]
        refine rd_nf ?_
        exact rz_BadLetter (.inr ⟨1, rfl, by decide⟩) (r3 (by simp [badSecond, cs, hn]))
    | false =>
      walk_at "st"
      refine ⟨_, _, _, rfl, h1, _, _, _, rfl, L, ds, _, rfl, ?_⟩
      walk_at "st"
      cases c3 : inWs sv ws with
      | false =>
        refine rd_nf ?_
        exact rz_BadLetter (.inr ⟨1, rfl, by decide⟩) (r3 (by simp [badSecond, cs, c3]))
      | true =>
      refine rd_nt ?_
      obtain ⟨y, rfl⟩ : ∃ k, sv = V.str k := isStrV_iff.mp (by cases hv : isStrV sv with | true => rfl | false => rw [inWs_not hv] at c3; cases c3)
      have hy : y ∈ ws := of_decide_eq_true c3
      have b3 : badSecond ws (.str k) (.str y) = false := by simp [badSecond, cs, c3]
      walk_at "st"
      by_cases ka : k = "alike"
      · have no : k ≠ "over" := fun e => by rw [ka] at e; exact absurd e (by decide +kernel)
        rw [decide_eq_true (congrArg V.str ka)]
        walk_at "st"
        by_cases fy : f = y
        · rw [decide_eq_true (congrArg V.str fy)]
          refine iteT ?_
          exact SX.nothing (by unfold senDue; rw [if_neg (by rw [c1]; simp), if_neg (by rw [c2]; simp), if_neg (by rw [b3]; simp), if_pos ⟨congrArg V.str ka, congrArg V.str fy⟩])
        · rw [decide_eq_false (fun h => fy (V.str.inj h))]
          walk_at "st"
          rw [decide_eq_true (congrArg V.str ka)]
          walk_at "st"
          refine ⟨_, _, _, rfl, h1, rfl, ?_⟩
          walk_at "st"
          refine ⟨_, _, _, rfl, L, hf, hws _ hf, fun i hi hi2 => ?_⟩
          walk_at "st"
          refine ⟨_, _, _, rfl, h1, rfl, ?_⟩
          walk_at "st"
          refine ⟨_, _, _, rfl, L, hy, hws _ hy, fun j hj hj2 => ?_⟩
          refine rd_I0 ?_
          have d0 : senDue ws (.str k) (.str f) (.str y) = 0 := by simp [senDue, c1, c2, b3, fy]
          have ei := ixOf_first hi hi2
          have ej := ixOf_first hj hj2
          by_cases lt : (i : Int) < (j : Int)
          · rw [decide_eq_true lt]
            refine fin true k y (.str f) d0 rfl (by rw [if_neg (fun h => no h.1)]) rfl rfl ?_
            show (if _ then _ else _) = _
            rw [if_pos ⟨ka, by omega⟩]
          · rw [decide_eq_false lt]
            refine fin false k f (.str y) d0 rfl (by rw [if_neg (fun h => no h.1)]) rfl rfl ?_
            show (if _ then _ else if _ then _ else _) = _
            rw [if_neg (fun h => by omega), if_neg (fun h => no h.1)]
      · have e1 : decide (V.str k = V.str "alike") = false := decide_eq_false fun h => ka (V.str.inj h)
        rw [e1]
        walk_at "st"
        rw [e1]
        refine iteF ?_
        have d0 : senDue ws (.str k) (.str f) (.str y) = 0 := by simp [senDue, c1, c2, b3, ka]
        refine fin false (if k = "over" ∧ V.str f = V.str y then ("kept" : Str) else k) f (.str y) d0 rfl rfl rfl rfl ?_
        show (if _ then _ else if _ then _ else _) = _
        rw [if_neg (fun h => ka h.1)]
        by_cases ko : k = "over" ∧ f = y
        · rw [if_pos ko, if_pos ⟨ko.1, congrArg V.str ko.2⟩]
        · rw [if_neg ko, if_neg (fun h => ko ⟨h.1, V.str.inj h.2⟩)]
theorem c_Sentence (T : Txt P K mg a) : CtrX P w K mg base 4 "Sentence" a.Sentence ["self", "letters", "kind", "first", "second"] [] (spSenInit a) := by
  obtain ⟨fd, F⟩ := T.F_Sentence___init__
  obtain ⟨ds, hv, hb⟩ := F.binds1 (ps := ["self", "letters", "kind", "first", "second"]) 5 1 (by intro z; cases z) rfl (fun _ _ _ _ _ _ _ us its hl hi => match us, hl with | [_, _, _, _, _], _ => match its, hi with | [_], _ => ⟨_, rfl, rfl⟩)
  cases hv
  exact ⟨_, _, _, T.mk_Sentence, ok_Sentence___init__ F T, T.g_Sentence, hb, .nil⟩
theorem c_Sentence1 (T : Txt P K mg a) : CtrX P w K mg base 4 "Sentence" a.Sentence ["self", "letters", "kind", "first", "second"] [.non] (spSenInit a) := by
  obtain ⟨fd, F⟩ := T.F_Sentence___init__
  obtain ⟨ds, hv, hb⟩ := F.binds1 (ps := ["self", "letters", "kind", "first", "second"]) 4 0 (by intro z; cases z) rfl (fun _ _ _ _ _ _ _ us its hl hi => match us, hl with | [_, _, _, _], _ => match its, hi with | [_], _ => ⟨_, rfl, rfl⟩)
  exact ⟨_, _, _, T.mk_Sentence, ok_Sentence___init__ F T, T.g_Sentence, hb, hv⟩
end


abbrev PenK (H : Hp) (pd c : Addr) (B : Nat) : Prop := Pen "cells" "begun" "left" H pd c B
theorem d3 : D3 "cells" "begun" "left" := ⟨by decide +kernel, by decide +kernel, by decide +kernel⟩
section
variable {P : Program} {w : World} {K : PySem.W.Frag} {mg : Str → Option Value} {base : Heap} {a : Ad}
def spPen (K : PySem.W.Frag) : Sp := fun vs H Q _ => ∃ (s : Addr) (ns : List Int), vs = [.ref s] ∧ SqL K H s (ns.map V.int) ∧ ∀ pd c H', H pd = none → H c = none → PenK H' pd c 0 → Ex H H' → Q (.ref pd) H'
theorem cutV_ints (ns : List Int) (lo hi : Option Int) : ∃ ms : List Int, cutV (ns.map V.int) lo hi = ms.map V.int := by
  unfold cutV
  rw [← List.map_drop, ← List.map_take]
  exact ⟨_, rfl⟩
theorem c__law_pen (T : Txt P K mg a) : Cal P w K mg base 1 "_law_pen" ["_law_script"] (spPen K) := by
  obtain ⟨fd, F, b⟩ := T.F__law_pen
  refine ⟨_, _, F.ok sc__law_pen (fun vs H Q E h => ?_) (fun cdv A outer s H vs Q E hr h => ?_), T.g__law_pen, F.kp, b⟩
  · obtain ⟨z, ns, rfl, _⟩ := h
    rfl
  · obtain ⟨z, ns, rfl, hz, k⟩ := h
    refine ⟨_, (pss_one (ps_ret (pe_disp (pps_cons pe_str (pe_callTy call_list_of (by rfl) T.n_list (by decide +kernel) (pa_cons (pe_slice sl_list (pv 0) po_none (po_some pe_int)) pa_nil)) (pps_cons pe_str pe_int (pps_cons pe_str pe_int pps_nil))) (by rfl) (by rfl) (fun z => by cases z) (by decide)))), ?_⟩
    walk_at "st"
    intro pd hpd
    have e0 : Ex H (upd H pd (.dK [])) := Ex.new hpd
    obtain ⟨ms, em⟩ := cutV_ints ns none (some 63)
    show tC (V.str "cells") _ _ _
    walk_at "st"
    refine rd_slL (ex_l e0 hz) (fun m H1 hm e1 h1 => ?_)
    rw [em] at h1
    walk_at "st"
    refine ⟨_, _, rfl, .inl (sq_of h1), fun c hc => ?_⟩
    have e2 := Ex.new (o := .lst (ms.map V.int)) hc
    have h2 : upd H1 c (.lst (ms.map V.int)) c = _ := upd_same
    generalize upd H1 c (.lst (ms.map V.int)) = H2 at e2 h2 ⊢
    show tC (V.str "begun") _ _ _
    walk_at "st"
    show tC (V.str "left") _ _ _
    walk_at "st"
    have hp2 : H2 pd = some (.dK []) := e2 _ _ (e1 _ _ upd_same)
    refine ⟨hp2, pd3 "cells" "begun" "left" (.ref c) (.int 0) (.int 0), rfl, by show 3 ≤ 15; decide, ?_⟩
    rw [d3.m]
    have ncp : c ≠ pd := fun e => by rw [e, e1 _ _ upd_same] at hc; cases hc
    refine k pd c _ hpd (fresh_back e0 (fresh_back e1 hc)) ⟨ms, 0, 0, upd_same, by rw [upd_ne ncp]; exact h2, Int.le_refl _, Int.le_refl _, Int.le_refl _⟩ (Ex.mut ((e0.trans e1).trans e2) hpd)
theorem c__law_draw (T : Txt P K mg a) : Cal P w K mg base 1 "_law_draw" ["_law_pen_here", "_law_many"] (spDraw "cells" "begun" "left") := by
  obtain ⟨fd, F, b⟩ := T.F__law_draw
  refine ⟨_, _, F.ok sc__law_draw (fun vs H Q E h => ?_) (fun cdv A outer s H vs Q E hr h => ?_), T.g__law_draw, F.kp, b⟩
  · obtain ⟨z, c, B, m, rfl, _⟩ := h
    rfl
  · obtain ⟨pd, c, B, m, rfl, ⟨ns, i, r, hp, hc, i0, iB, r0⟩, hB, m0, m1, k⟩ := h
    have hu := hu_of hr
    have ncp : c ≠ pd := ne_of hc hp (by intro z; cases z)
    have dw : ∀ {x : Int}, CDivW x m := fun {x} => wide_div (b := 30) m0 (by omega) (by omega) (by omega)
    refine ⟨_, (pss_cons (ps_if (pt_cmpR op_gt (pe_dget hu (pv 0) pe_str (fun _ _ => rfl)) pe_int (by rfl)) (pss_cons (ps_set (i := 4) sc__law_draw.nd rfl (by first | exact Or.inl rfl | exact Or.inr rfl) (pe_op op_mod (pe_callTy call_int1 (by rfl) T.n_int (by decide +kernel) (pa_cons (pe_dget hu (pv 0) pe_str (fun _ _ => rfl)) pa_nil)) (pv 1)))
    (pss_cons (ps_dput hu (pv 0) pe_str (pe_op op_fdivW (pe_dget hu (pv 0) pe_str (fun _ _ => rfl)) (pv 1)) rfl)
    (pss_one (ps_ret (pv 4))))) pss_nil)
  (pss_cons (ps_par (i := 5) (j := 6) (by rfl) sc__law_draw.nd rfl rfl (by decide) rfl rfl (pa_cons (pe_dget hu (pv 0) pe_str (fun _ _ => rfl)) (pa_cons (pe_callB call_len_seq (by rfl) T.n_len (by decide +kernel) (pa_cons (pe_dget hu (pv 0) pe_str (fun _ _ => rfl)) pa_nil)) pa_nil)) (by rfl))
  (pss_cons (ps_dput hu (pv 0) pe_str (pe_op op_add (pv 5) pe_int) rfl)
  (Evl.pss_cut (ps_set (i := 2) sc__law_draw.nd rfl (by first | exact Or.inl rfl | exact Or.inr rfl) (pe_ifExp (pt_cmpR op_gt (pv 6) pe_int (by rfl)) (pe_ix ix_list (pe_dget hu (pv 0) pe_str (fun _ _ => rfl)) (pe_op op_mod (pe_callTy call_int1 (by rfl) T.n_int (by decide +kernel) (pa_cons (pv 5) pa_nil)) (pv 6)) (fun _ _ => rfl)) (pe_op op_add (pe_op op_mul pe_int (pv 5)) pe_int)))
  (Evl.pss_cut (ps_if (PW.pt (pw_and (pt_cmpR op_lt (pv 5) (pv 6) (by rfl)) (pw_and1 (pt_cmpR op_ge (pe_callB call_abs (by rfl) T.n_abs (by decide +kernel) (pa_cons (pv 2) pa_nil)) (pe_op op_pow pe_int pe_int) (by rfl))))) (pss_cons (ps_dput hu (pv 0) pe_str (pe_op op_fdivW (pe_op op_sub (pe_callB call_abs (by rfl) T.n_abs (by decide +kernel) (pa_cons (pv 2) pa_nil)) (pe_op op_pow pe_int pe_int)) (pv 1)) rfl)
    (pss_one (ps_ret (pe_op op_mod (pe_callTy call_int1 (by rfl) T.n_int (by decide +kernel) (pa_cons (pe_op op_sub (pe_callB call_abs (by rfl) T.n_abs (by decide +kernel) (pa_cons (pv 2) pa_nil)) (pe_op op_pow pe_int pe_int)) pa_nil)) (pv 1))))) pss_nil)
  (pss_cons (ps_set (i := 3) sc__law_draw.nd rfl (by first | exact Or.inl rfl | exact Or.inr rfl) (pe_op op_mod (pe_callTy call_int1 (by rfl) T.n_int (by decide +kernel) (pa_cons (pe_op op_add (pe_op op_add (pe_op op_mul (pe_op op_mod (pe_callTy call_int1 (by rfl) T.n_int (by decide +kernel) (pa_cons (pv 2) pa_nil)) pe_int) pe_int) (pe_op op_mul (pe_op op_mul pe_int (pv 5)) (pv 5))) pe_int) pa_nil)) pe_int))
  (pss_cons (ps_set (i := 3) sc__law_draw.nd rfl (by first | exact Or.inl rfl | exact Or.inr rfl) (pe_op op_mod (pe_callTy call_int1 (by rfl) T.n_int (by decide +kernel) (pa_cons (pe_op op_add (pe_op op_add (pe_op op_add (pe_op op_mul (pv 3) (pv 3)) (pe_op op_mul pe_int (pv 3))) (pe_op op_mul pe_int (pv 5))) pe_int) pa_nil)) pe_int))
  (pss_one (ps_ret (pe_op op_mod (pe_callTy call_int1 (by rfl) T.n_int (by decide +kernel) (pa_cons (pe_op op_fdivW (pe_op op_mod (pe_callTy call_int1 (by rfl) T.n_int (by decide +kernel) (pa_cons (pe_op op_mul (pv 3) (pe_op op_add (pv 3) pe_int)) pa_nil)) pe_int) pe_int) pa_nil)) (pv 1))))))))))), ?_⟩
    walk_at "st"
    refine rd_dgetS hp d3.v3 ?_
    walk_at "st"
    refine ite2 (fun h => ?_) (fun h => ?_)
    · walk_at "st"
      refine rd_dgetS hp d3.v3 ?_
      walk_at "st"
      refine rd_I m0 ?_
      walk_at "st"
      refine rd_dgetS hp d3.v3 ?_
      walk_at "st"
      refine rd_I dw ?_
      walk_at "st"
      refine rd_dputS hp (by show 3 < sizeLine; decide) ?_
      walk_at "st"
      rw [d3.p3]
      refine k _ _ (Int.emod_nonneg _ (by omega)) (Int.emod_lt_of_pos _ m0) ⟨ns, i, r / m, upd_same, by rw [upd_ne ncp]; exact hc, i0, by omega, Int.ediv_nonneg r0 (by omega)⟩ Kx.put
    · walk_at "st"
      refine rd_dgetS hp d3.v2 ?_
      walk_at "st"
      refine rd_dgetS hp d3.v1 ?_
      walk_at "st"
      refine rd_lenL (sq_of hc) ?_
      rw [List.length_map]
      walk_at "st"
      refine rd_dputS hp (by show 3 < sizeLine; decide) ?_
      rw [d3.p2]
      have hp1 : (upd H pd (.dK (pd3 "cells" "begun" "left" (.ref c) (.int (i + 1)) (.int r)))) pd = some (.dK (pd3 "cells" "begun" "left" (.ref c) (.int (i + 1)) (.int r))) := upd_same
      have hc1 : (upd H pd (.dK (pd3 "cells" "begun" "left" (.ref c) (.int (i + 1)) (.int r)))) c = some (.lst (ns.map V.int)) := by rw [upd_ne ncp]; exact hc
      have kx1 : Kx pd H (upd H pd (.dK (pd3 "cells" "begun" "left" (.ref c) (.int (i + 1)) (.int r)))) := Kx.put
      generalize upd H pd (.dK (pd3 "cells" "begun" "left" (.ref c) (.int (i + 1)) (.int r))) = H1 at hp1 hc1 kx1 ⊢
      walk_at "st"
      have pw : CPow 10 18 := ⟨by decide, by decide, by decide⟩
      have lt64 : ∀ (x y : Int), 0 < y → y < 2 ^ 40 → -(2 ^ 64) < x % y ∧ x % y < 2 ^ 64 := fun x y h1 h2 => by
        have := Int.emod_nonneg x (show y ≠ 0 by omega)
        have := Int.emod_lt_of_pos x h1
        omega
      refine ⟨fun σ' H' => ∃ told, σ' = [some (.ref pd), some (.int m), some (.int told), none, none, some (.int i), some (.int (ns.length : Nat))] ∧ H' = H1, ?_, ?_⟩
      · walk_at "st"
        refine ite2 (fun hn => ?_) (fun hn => ?_)
        · have hl : (0 : Int) < (ns.length : Nat) := of_decide_eq_true hn
          walk_at "st"
          refine rd_dgetS hp1 d3.v1 ?_
          walk_at "st"
          refine rd_I hl ?_
          have hb := Int.emod_lt_of_pos i hl
          have ha := Int.emod_nonneg i (show (ns.length : Int) ≠ 0 by omega)
          obtain ⟨v, hv, _, hat⟩ := atI_int (xs := ns.map V.int) (i := i % (ns.length : Int)) ha (by rw [List.length_map]; exact hb)
          obtain ⟨x, _, rfl⟩ := List.mem_map.mp hv
          exact ⟨_, _, _, V.int x, rfl, rfl, sq_of hc1, hat, _, rfl, rfl⟩
        · walk_at "st"
          refine rd_I (.inl ⟨by decide, by decide⟩) ?_
          walk_at "st"
          exact ⟨_, rfl, rfl⟩
      · rintro σ' H' ⟨told, rfl, rfl⟩
        walk_at "st"
        refine ⟨fun σ' H'' => σ' = [some (.ref pd), some (.int m), some (.int told), none, none, some (.int i), some (.int (ns.length : Nat))] ∧ H'' = H', ?_, ?_⟩
        · walk_at "st"
          refine ite2 (fun h1 => ?_) (fun h1 => ?_)
          · walk_at "st"
            refine rd_I pw ?_
            walk_at "st"
            refine ite2 (fun h2 => ?_) (fun h2 => ?_)
            · walk_at "st"
              refine rd_I pw ?_
              walk_at "st"
              refine rd_I dw ?_
              walk_at "st"
              refine rd_dputS hp1 (by show 3 < sizeLine; decide) ?_
              rw [d3.p3]
              walk_at "st"
              refine rd_I pw ?_
              walk_at "st"
              refine rd_I m0 ?_
              refine k _ _ (Int.emod_nonneg _ (by omega)) (Int.emod_lt_of_pos _ m0) ⟨ns, i + 1, _, upd_same, by rw [upd_ne ncp]; exact hc1, by omega, by omega, Int.ediv_nonneg ?_ (by omega)⟩ (kx1.trans Kx.put)
              have := of_decide_eq_true h2
              omega
            · walk_at "st"
              exact ⟨rfl, rfl⟩
          · walk_at "st"
            exact ⟨rfl, rfl⟩
        · rintro σ' H'' ⟨rfl, rfl⟩
          walk_at "st"
          refine rd_I (by show (0 : Int) < 4294967279; decide) ?_
          walk_at "st"
          refine rd_I (.inr ⟨by decide, by decide⟩) ?_
          walk_at "st"
          refine rd_I (.inl ⟨by decide, by decide⟩) ?_
          walk_at "st"
          refine rd_I (.inr ⟨by omega, by omega⟩) ?_
          walk_at "st"
          refine rd_I (by show (0 : Int) < 4294967291; decide) ?_
          walk_at "st"
          refine rd_I (.inl (lt64 _ _ (by decide) (by decide))) ?_
          walk_at "st"
          refine rd_I (.inl ⟨by decide, by decide⟩) ?_
          walk_at "st"
          refine rd_I (.inl ⟨by decide, by decide⟩) ?_
          walk_at "st"
          refine rd_I (by show (0 : Int) < 4294967231; decide) ?_
          walk_at "st"
          refine rd_I (.inl (lt64 _ _ (by decide) (by decide))) ?_
          walk_at "st"
          refine rd_I (by show (0 : Int) < 4294967189; decide) ?_
          walk_at "st"
          refine rd_I (wide_div (b := 30) (by decide) (by decide) (by omega) (by omega)) ?_
          walk_at "st"
          refine rd_I m0 ?_
          exact k _ _ (Int.emod_nonneg _ (by omega)) (Int.emod_lt_of_pos _ m0) ⟨ns, i + 1, r, hp1, hc1, by omega, by omega, r0⟩ kx1
/-! ### pick -/
def spPick : Sp := fun vs H Q _ => ∃ (pd c : Addr) (B : Nat), PenK H pd c B ∧ B < 900000000 ∧
  ((∃ (l : Addr) (xs : List V), vs = [.ref pd, .ref l] ∧ H l = some (.lst xs) ∧ 0 < xs.length ∧ xs.length ≤ 1000 ∧ ∀ x H', x ∈ xs → PenK H' pd c (B + 1) → Kx pd H H' → Q x H') ∨
   (∃ z : Str, vs = [.ref pd, .str z] ∧ 0 < z.length ∧ z.length ≤ 1000 ∧ ∀ d H', d ∈ z.cps.toList → PenK H' pd c (B + 1) → Kx pd H H' → Q (.str ⟨#[d]⟩) H'))
theorem c__law_pick (T : Txt P K mg a) : Cal P w K mg base 2 "_law_pick" ["_law_pen_here", "_law_options"] spPick := by
  obtain ⟨fd, F, b⟩ := T.F__law_pick
  refine ⟨_, _, F.ok sc__law_pick (fun vs H Q E h => ?_) (fun cdv A outer s H vs Q E hr h => ?_), T.g__law_pick, F.kp, b⟩
  · obtain ⟨pd, c, B, _, _, ⟨l, xs, rfl, _⟩ | ⟨z, rfl, _⟩⟩ := h <;> rfl
  · obtain ⟨pd, c, B, hp, hB, h⟩ := h
    rcases h with ⟨l, xs, rfl, hl, x0, x1, k⟩ | ⟨z, rfl, x0, x1, k⟩
    all_goals refine ⟨_, (pss_one (ps_ret (pe_ix ix_seq (pv 1) (pe_callC (c__law_draw T) hr (pa_cons (pv 0) (pa_cons (pe_callB (CallR.or call_len_seq call_len_str) (by rfl) T.n_len (by decide +kernel) (pa_cons (pv 1) pa_nil)) pa_nil))) (fun _ _ => rfl)))), ?_⟩
    · walk_at "st"
      refine .inl (rd_lenL (sq_of hl) ?_)
      walk_at "st"
      refine ⟨pd, c, B, _, rfl, hp, by omega, by omega, by omega, fun r H' r0 r1 p' kx => ?_⟩
      obtain ⟨kvs, hd⟩ := hp.dK
      obtain ⟨v, hv, _, hat⟩ := atI_int (xs := xs) r0 r1
      exact .inl ⟨_, _, _, v, rfl, rfl, sq_of (kx.lst hd hl), hat, k v H' hv p' kx⟩
    · walk_at "st"
      refine .inr (rd_lenS (z := z) (by omega) ?_)
      walk_at "st"
      refine ⟨pd, c, B, _, rfl, hp, by omega, by omega, by omega, fun r H' r0 r1 p' kx => ?_⟩
      obtain ⟨v, hv, _, hat⟩ := atI_int (xs := z.cps.toList) r0 (by rw [len_cps]; exact r1)
      exact .inr (.inr ⟨_, _, v, rfl, rfl, sz_of (by omega), hat, k v H' hv p' kx⟩)
end


structure GoodW (w : Str) : Prop where
  wd : isWordB w = true
  nb : isBegB w = false
structure Words (n : Nat) (ws : List Str) : Prop where
  len : ws.length = n
  nd : ws.Nodup
  ok : ∀ w ∈ ws, GoodW w
theorem Words.perm {n : Nat} {ws zs : List Str} (h : Words n ws) (p : zs.Perm ws) : Words n zs := ⟨p.length_eq.trans h.len, p.nodup_iff.mpr h.nd, fun w hw => h.ok w (p.mem_iff.mp hw)⟩
abbrev smallL : List Nat := [97, 98, 99, 100, 101, 102, 103, 104, 105, 106, 107, 108, 109, 110, 111, 112, 113, 114, 115, 116, 117, 118, 119, 120, 121, 122]
abbrev signsL : List Nat := smallL ++ [48, 49, 50, 51, 52, 53, 54, 55, 56, 57]
theorem smallS_cps : smallS.cps.toList = smallL := by decide +kernel
theorem signsS_cps : signsS.cps.toList = signsL := by decide +kernel
theorem small_sub {c : Nat} (h : c ∈ smallL) : c ∈ signsL := List.mem_append_left _ h
theorem signs_lt {c : Nat} (h : c ∈ signsL) : c < 123 := by
  simp only [signsL, smallL, List.mem_append, List.mem_cons, List.not_mem_nil, or_false] at h
  omega
theorem GoodW.cps {w : Str} (h : GoodW w) : 1 ≤ w.length ∧ w.length ≤ 12 ∧ (∀ c ∈ w.cps.toList, c ∈ signsL) ∧ ∃ c r, w.cps.toList = c :: r ∧ c ∈ smallL := by
  have := h.wd
  unfold isWordB at this
  rw [smallS_cps, signsS_cps] at this
  simp only [Bool.and_eq_true, decide_eq_true_eq, List.all_eq_true] at this
  obtain ⟨⟨⟨h1, h2⟩, h3⟩, h4⟩ := this
  refine ⟨h1, h2, h4, ?_⟩
  have hl := len_cps w
  cases e : w.cps.toList with
  | nil => rw [e] at hl; simp at hl; omega
  | cons c r => rw [e] at h3; exact ⟨c, r, rfl, h3 c (by simp)⟩
theorem GoodW.so {w : Str} (h : GoodW w) : PyData.strOk w = true := by
  unfold PyData.strOk
  rw [Array.all_eq_true_iff_forall_mem]
  intro c hc
  have := signs_lt (h.cps.2.2.1 c (by simpa using hc))
  exact decide_eq_true (by omega)
/-- a word out of its codes: goodW of (codes, with a 0 behind new and found) -/
def fix0 (w : Str) : Str := w ++ Txt.mul "0" (if inV (.str w) [.str "new", .str "found"] then 1 else 0)
theorem fix0_cps (w : Str) : (fix0 w).cps.toList = w.cps.toList ++ (if isBegB w then [48] else []) := by
  unfold fix0
  rw [app_cps, inV_two]
  show _ ++ (Txt.mul "0" (if isBegB w = true then 1 else 0)).cps.toList = _
  cases isBegB w with
  | true => rw [if_pos rfl, mul_one]; rfl
  | false => rw [if_neg Bool.false_ne_true, mul_zero]; rfl
theorem new_cps : ("new" : Str).cps.toList = [110, 101, 119] := by decide +kernel
theorem found_cps : ("found" : Str).cps.toList = [102, 111, 117, 110, 100] := by decide +kernel
theorem beg_iff (w : Str) : isBegB w = true ↔ w.cps.toList = [110, 101, 119] ∨ w.cps.toList = [102, 111, 117, 110, 100] := by
  unfold isBegB
  simp only [Bool.or_eq_true, decide_eq_true_eq]
  constructor
  · rintro (h | h)
    · exact .inl (h ▸ new_cps)
    · exact .inr (h ▸ found_cps)
  · rintro (h | h)
    · exact .inl (str_ext (h.trans new_cps.symm))
    · exact .inr (str_ext (h.trans found_cps.symm))
theorem good_fix {w : Str} {c : Nat} {r : List Nat} (e : w.cps.toList = c :: r) (hc : c ∈ smallL) (hr : ∀ d ∈ r, d ∈ signsL) (hl : r.length ≤ 11) : GoodW (fix0 w) := by
  have e1 := fix0_cps w
  have lb : isBegB w = true → r.length ≤ 4 := fun hb => by
    rcases (beg_iff w).mp hb with q | q <;> rw [e] at q <;> have q2 := congrArg List.length q <;> simp at q2 <;> omega
  have lt : (if isBegB w then [48] else ([] : List Nat)).length ≤ 1 := by split <;> simp
  have mt : ∀ d ∈ (if isBegB w then [48] else ([] : List Nat)), d ∈ signsL := by
    split
    · intro d hd; simp at hd; subst hd; decide
    · intro d hd; cases hd
  have ll : (fix0 w).length = 1 + r.length + (if isBegB w then [48] else ([] : List Nat)).length := by
    rw [← len_cps, e1, e, List.length_append, List.length_cons]; omega
  constructor
  · unfold isWordB
    rw [smallS_cps, signsS_cps, e1, e]
    simp only [Bool.and_eq_true, decide_eq_true_eq, List.all_eq_true]
    refine ⟨⟨⟨by omega, ?_⟩, ?_⟩, ?_⟩
    · by_cases b : isBegB w = true
      · have := lb b; omega
      · rw [if_neg b] at ll; simp at ll; omega
    · intro d hd
      rw [List.cons_append, List.take_succ_cons, List.take_zero, List.mem_singleton] at hd
      subst hd
      exact hc
    · intro d hd
      rcases List.mem_append.mp hd with h | h
      · rcases List.mem_cons.mp h with h | h
        · subst h; exact small_sub hc
        · exact hr d h
      · exact mt d h
  · rw [Bool.eq_false_iff]
    intro hb
    rcases (beg_iff _).mp hb with h | h
    all_goals
      rw [e1] at h
      by_cases b : isBegB w = true
      · rw [b, if_pos rfl] at h
        rcases (beg_iff w).mp b with q | q <;> rw [q] at h <;> simp at h
      · rw [if_neg b, List.append_nil] at h
        first | exact b ((beg_iff w).mpr (.inl h)) | exact b ((beg_iff w).mpr (.inr h))
theorem cutS_to (z : Str) (n : Nat) (h : n ≤ z.length) : (cutS z none (some (n : Int))).cps.toList = z.cps.toList.take n := by
  unfold cutS
  rw [HT.sIx_none, HT.sIx_nat, Nat.min_eq_left h]
  simp
theorem cutS_from (z : Str) (n : Nat) (h : n ≤ z.length) : (cutS z (some (n : Int)) none).cps.toList = z.cps.toList.drop n := by
  unfold cutS
  rw [HT.sIx_none, HT.sIx_nat, Nat.min_eq_left h]
  have := len_cps z
  simp
  rw [← this]
  rw [List.take_of_length_le (by simp)]
theorem getD_mem {l : List Nat} {i : Nat} (h : i < l.length) : l.getD i 0 ∈ l := by
  simp only [List.getD, List.getElem?_eq_getElem h, Option.getD_some]; exact List.getElem_mem h
/-! ### letters out of words -/
theorem tilde_cps : ("~" : Str).cps.toList = [126] := by decide +kernel
theorem tilde_len : ("~" : Str).length = 1 := by decide +kernel
theorem bare_of {z : Str} {c : Nat} {r : List Nat} (e : z.cps.toList = c :: r) : (bareS z).cps.toList = if c = 126 then r else c :: r := by
  have hl : 1 ≤ z.length := by rw [← len_cps, e]; simp
  have h1 : (cutS z none (some 1)).cps.toList = [c] := by
    have := cutS_to z 1 hl
    rw [e] at this
    exact this
  have h2 : (cutS z (some 1) none).cps.toList = r := by
    have := cutS_from z 1 hl
    rw [e] at this
    exact this
  unfold bareS
  by_cases hc : c = 126
  · have : cutS z none (some 1) = "~" := str_ext (by rw [h1, tilde_cps, hc])
    rw [this, if_pos (by decide +kernel), if_pos hc, h2]
  · have : ¬ V.str (cutS z none (some 1)) = V.str "~" := fun q => hc (by
      have := V.str.inj q
      rw [this, tilde_cps] at h1
      simpa using h1.symm)
    rw [if_neg (by simpa using this), if_neg hc, e]
/-- a word or the way back over it -/
def Mk1 (z : Str) : Prop := ∃ w, GoodW w ∧ (z = w ∨ z = "~" ++ w)
theorem GoodW.bare {w : Str} (h : GoodW w) : bareS w = w ∧ bareS ("~" ++ w) = w := by
  obtain ⟨_, _, _, c, r, e, hc⟩ := h.cps
  have nc : c ≠ 126 := by have := signs_lt (small_sub hc); omega
  refine ⟨str_ext ?_, str_ext ?_⟩
  · rw [bare_of e, if_neg nc, e]
  · have : ("~" ++ w : Str).cps.toList = 126 :: w.cps.toList := by rw [app_cps, tilde_cps]; rfl
    rw [bare_of this, if_pos rfl]
theorem Mk1.good {z : Str} (h : Mk1 z) : GoodW (bareS z) := by
  obtain ⟨w, g, rfl | rfl⟩ := h
  · rw [g.bare.1]; exact g
  · rw [g.bare.2]; exact g
theorem Mk1.eq {z : Str} (h : Mk1 z) : z = bareS z ∨ z = "~" ++ bareS z := by
  obtain ⟨w, g, rfl | rfl⟩ := h
  · rw [g.bare.1]; exact .inl rfl
  · rw [g.bare.2]; exact .inr rfl
theorem Mk1.ok {z : Str} (h : Mk1 z) : isLetterB z = true := by
  have g := h.good
  rw [isLetterB, g.wd, g.nb]; rfl
theorem Mk1.len {z : Str} (h : Mk1 z) : 1 ≤ z.length ∧ z.length ≤ 13 := by
  have g := h.good.cps
  rcases h.eq with e | e
  · rw [e]; omega
  · rw [e, app_len, tilde_len]; omega
theorem Mk1.so {z : Str} (h : Mk1 z) : PyData.strOk z = true := by
  have g := h.good
  unfold PyData.strOk
  rw [Array.all_eq_true_iff_forall_mem]
  intro c hc
  have hc' : c ∈ z.cps.toList := by simpa using hc
  have : c < 127 := by
    rcases h.eq with e | e
    · rw [e] at hc'
      have := signs_lt (g.cps.2.2.1 c hc'); omega
    · rw [e, app_cps, tilde_cps] at hc'
      rcases List.mem_append.mp hc' with q | q
      · simp at q; omega
      · have := signs_lt (g.cps.2.2.1 c q); omega
  exact decide_eq_true (by omega)
theorem take_snoc {α : Type} {l : List α} {i : Nat} {x : α} (h : l[i]? = some x) : l.take (i + 1) = l.take i ++ [x] := by
  rw [List.take_add_one, h]; rfl
/-! ### the drawn letters -/
/-- a row of letters: words of the stock bw, each at most once, each with its way back at most once -/
structure Row (bw : Nat → Str) (zs : List Str) : Prop where
  nd : zs.Nodup
  each : ∀ z ∈ zs, ∃ j, j < zs.length ∧ (z = bw j ∨ z = "~" ++ bw j)
  last : ∀ z, zs.getLast? = some z → cutS z none (some 1) ≠ "~" → ("~" ++ z : Str) ∉ zs
structure Stock (n : Nat) (bw : Nat → Str) : Prop where
  good : ∀ j, j < n → GoodW (bw j)
  inj : ∀ i j, i < n → j < n → bw i = bw j → i = j
variable {n : Nat} {bw : Nat → Str} {zs : List Str}
theorem Stock.back (S : Stock n bw) {i j : Nat} (hi : i < n) (hj : j < n) : (bw i = "~" ++ bw j → False) ∧ ("~" ++ bw i = "~" ++ bw j → i = j) := by
  have bi := (S.good i hi).bare
  have bj := (S.good j hj).bare
  refine ⟨fun e => ?_, fun e => ?_⟩
  · have := congrArg Str.length e
    have h2 : bw i = bw j := by
      have q := congrArg bareS e
      rw [bi.1, bj.2] at q
      exact q
    rw [h2, app_len, tilde_len] at this
    omega
  · have q := congrArg bareS e
    rw [bi.2, bj.2] at q
    exact S.inj i j hi hj q
theorem cut_back (w : Str) : cutS ("~" ++ w) none (some 1) = "~" := by
  have hl : 1 ≤ ("~" ++ w : Str).length := by rw [app_len, tilde_len]; omega
  have := cutS_to ("~" ++ w) 1 hl
  rw [app_cps, tilde_cps] at this
  exact str_ext (this.trans tilde_cps.symm)
theorem Row.nil : Row bw [] := ⟨List.nodup_nil, (fun z h => by cases h), (fun z h => by cases h)⟩
theorem Row.fresh (S : Stock n bw) (R : Row bw zs) (hk : zs.length < n) : bw zs.length ∉ zs ∧ ("~" ++ bw zs.length : Str) ∉ zs := by
  refine ⟨fun h => ?_, fun h => ?_⟩
  · obtain ⟨j, hj, q | q⟩ := R.each _ h
    · have := S.inj _ _ hk (by omega) q; omega
    · exact (S.back hk (by omega)).1 q
  · obtain ⟨j, hj, q | q⟩ := R.each _ h
    · exact (S.back (by omega) hk).1 q.symm
    · have := (S.back hk (by omega)).2 q; omega
theorem Row.plain (S : Stock n bw) (R : Row bw zs) (hk : zs.length < n) : Row bw (zs ++ [bw zs.length]) := by
  have fr := R.fresh S hk
  refine ⟨?_, fun z hz => ?_, fun z hz hb => ?_⟩
  · rw [List.nodup_append]; exact ⟨R.nd, by simp, fun x hx y hy => by rw [List.mem_singleton] at hy; subst hy; exact fun e => fr.1 (e ▸ hx)⟩
  · rw [List.length_append, List.length_singleton]
    rcases List.mem_append.mp hz with h | h
    · obtain ⟨j, hj, q⟩ := R.each z h; exact ⟨j, by omega, q⟩
    · rw [List.mem_singleton] at h; exact ⟨zs.length, by omega, .inl h⟩
  · rw [List.getLast?_concat] at hz
    cases hz
    intro h
    rcases List.mem_append.mp h with h | h
    · exact fr.2 h
    · rw [List.mem_singleton] at h; exact (S.back hk hk).1 h.symm
theorem Row.back (S : Stock n bw) (R : Row bw zs) (hk : zs.length < n) : Row bw (zs ++ ["~" ++ bw zs.length]) := by
  have fr := R.fresh S hk
  refine ⟨?_, fun z hz => ?_, fun z hz hb => ?_⟩
  · rw [List.nodup_append]; exact ⟨R.nd, by simp, fun x hx y hy => by rw [List.mem_singleton] at hy; subst hy; exact fun e => fr.2 (e ▸ hx)⟩
  · rw [List.length_append, List.length_singleton]
    rcases List.mem_append.mp hz with h | h
    · obtain ⟨j, hj, q⟩ := R.each z h; exact ⟨j, by omega, q⟩
    · rw [List.mem_singleton] at h; exact ⟨zs.length, by omega, .inr h⟩
  · rw [List.getLast?_concat] at hz
    cases hz
    exact absurd (cut_back _) hb
/-- the last one again, as its way back -/
theorem Row.again (S : Stock n bw) (R : Row bw zs) (hk : zs.length < n) {z : Str} (hz : zs.getLast? = some z) (hb : cutS z none (some 1) ≠ "~") : Row bw (zs ++ ["~" ++ z]) := by
  have fr := R.last z hz hb
  refine ⟨?_, fun y hy => ?_, fun y hy hc => ?_⟩
  · rw [List.nodup_append]; exact ⟨R.nd, by simp, fun x hx y hy => by rw [List.mem_singleton] at hy; subst hy; exact fun e => fr (e ▸ hx)⟩
  · rw [List.length_append, List.length_singleton]
    rcases List.mem_append.mp hy with h | h
    · obtain ⟨j, hj, q⟩ := R.each y h; exact ⟨j, by omega, q⟩
    · rw [List.mem_singleton] at h
      obtain ⟨j, hj, q | q⟩ := R.each z (List.mem_of_getLast? hz)
      · exact ⟨j, by omega, .inr (by rw [h, q])⟩
      · exact absurd (by rw [q]; exact cut_back _) hb
  · rw [List.getLast?_concat] at hy
    cases hy
    exact absurd (cut_back _) hc
theorem Row.mk1 (S : Stock n bw) (R : Row bw zs) (hk : zs.length ≤ n) : ∀ z ∈ zs, Mk1 z := fun z hz => by
  obtain ⟨j, hj, q⟩ := R.each z hz
  exact ⟨bw j, S.good j (by omega), q⟩
/-- the k-th word ahead of fix0: the stem up to at, a sign, the tail -/
def rawL (at_ : Nat) (f st : Int) (stem : Str) (k : Nat) : Str :=
  (cutS stem none (some (at_ : Int)) ++ ⟨#[if 0 < at_ then signsL.getD ((f + st * k) % 36).toNat 0 else smallL.getD ((f + st * k) % 26).toNat 0]⟩) ++ cutS (cutS stem (some (at_ : Int)) none) none (some (((cutS stem (some (at_ : Int)) none).length : Int) - k * (if decide ((k : Int) < 2) = true then 1 else 0)))
structure LOk (at_ : Nat) (f st : Int) (stem : Str) : Prop where
  f0 : 0 ≤ f
  f1 : f < 36
  s : st = 1 ∨ st = 5 ∨ st = 7 ∨ st = 11 ∨ st = 17 ∨ st = 19 ∨ st = 23 ∨ st = 25
  hd : ∀ c r, stem.cps.toList = c :: r → c ∈ smallL
  sg : ∀ c ∈ stem.cps.toList, c ∈ signsL
  sl : stem.length ≤ 11
  al : at_ ≤ stem.length
theorem cut_sub (z : Str) (lo hi : Option Int) : (∀ c ∈ (cutS z lo hi).cps.toList, c ∈ z.cps.toList) ∧ (cutS z lo hi).length ≤ z.length := by
  refine ⟨fun c hc => ?_, cutS_length z lo hi⟩
  have hc' : c ∈ (z.cps.toList.drop (HT.sIx z.length 0 lo)).take (HT.sIx z.length z.length hi - HT.sIx z.length 0 lo) := by simpa [cutS] using hc
  exact List.mem_of_mem_drop (List.mem_of_mem_take hc')
theorem rawL_cps {at_ : Nat} {f st : Int} {stem : Str} (h : LOk at_ f st stem) (k : Nat) : ∃ c r, (rawL at_ f st stem k).cps.toList = c :: r ∧ c ∈ smallL ∧ (∀ d ∈ r, d ∈ signsL) ∧ r.length ≤ 11 ∧
    (rawL at_ f st stem k).cps.toList[at_]? = some (if 0 < at_ then signsL.getD ((f + st * k) % 36).toNat 0 else smallL.getD ((f + st * k) % 26).toNat 0) := by
  have m36 : ((f + st * k) % 36).toNat < signsL.length := by have : signsL.length = 36 := rfl; omega
  have m26 : ((f + st * k) % 26).toNat < smallL.length := by have : smallL.length = 26 := rfl; omega
  have ls := len_cps stem
  have h2 := h.sl
  have h3 := h.al
  have eA := cutS_to stem at_ h.al
  have eT := cutS_from stem at_ h.al
  have lT : (cutS stem (some (at_ : Int)) none).length = stem.length - at_ := by rw [← len_cps, eT, List.length_drop, ls]
  obtain ⟨sB, lB⟩ := cut_sub (cutS stem (some (at_ : Int)) none) none (some (((cutS stem (some (at_ : Int)) none).length : Int) - k * (if decide ((k : Int) < 2) = true then 1 else 0)))
  unfold rawL
  generalize cutS (cutS stem (some (at_ : Int)) none) none (some (((cutS stem (some (at_ : Int)) none).length : Int) - k * (if decide ((k : Int) < 2) = true then 1 else 0))) = Bt at sB lB ⊢
  have sB2 : ∀ c ∈ Bt.cps.toList, c ∈ signsL := fun c hc => h.sg c (List.mem_of_mem_drop (eT ▸ sB c hc))
  have lB2 := len_cps Bt
  have lA : (stem.cps.toList.take at_).length = at_ := by rw [List.length_take]; omega
  by_cases h0 : 0 < at_
  · simp only [if_pos h0]
    have ms := getD_mem m36
    generalize signsL.getD ((f + st * (k : Int)) % 36).toNat 0 = x at ms ⊢
    have ec : ((cutS stem none (some (at_ : Int)) ++ ⟨#[x]⟩) ++ Bt : Str).cps.toList = stem.cps.toList.take at_ ++ [x] ++ Bt.cps.toList := by rw [app_cps, app_cps, eA]
    obtain ⟨c, r, es⟩ : ∃ c r, stem.cps.toList = c :: r := by
      cases e : stem.cps.toList with
      | nil => rw [e] at ls; simp at ls; omega
      | cons c r => exact ⟨c, r, rfl⟩
    obtain ⟨m, rfl⟩ : ∃ m, at_ = m + 1 := ⟨at_ - 1, by omega⟩
    have lr : r.length + 1 = stem.length := by rw [← ls, es, List.length_cons]
    refine ⟨c, r.take m ++ [x] ++ Bt.cps.toList, ?_, h.hd c r es, fun d hd => ?_, ?_, ?_⟩
    · rw [ec, es]; simp
    · rcases List.mem_append.mp hd with q | q
      · rcases List.mem_append.mp q with q | q
        · exact h.sg d (by rw [es]; exact List.mem_cons_of_mem _ (List.mem_of_mem_take q))
        · rw [List.mem_singleton] at q; rw [q]; exact ms
      · exact sB2 d q
    · simp only [List.length_append, List.length_take, List.length_singleton]; omega
    · rw [ec, List.append_assoc, List.getElem?_append_right (by omega), lA, Nat.sub_self]; rfl
  · have ez : at_ = 0 := by omega
    subst ez
    simp only [Nat.lt_irrefl, if_false]
    have ms := getD_mem m26
    generalize smallL.getD ((f + st * (k : Int)) % 26).toNat 0 = x at ms ⊢
    have ec : ((cutS stem none (some ((0 : Nat) : Int)) ++ ⟨#[x]⟩) ++ Bt : Str).cps.toList = x :: Bt.cps.toList := by rw [app_cps, app_cps, eA]; rfl
    refine ⟨x, Bt.cps.toList, ec, ms, sB2, by omega, ?_⟩
    rw [ec]; rfl
theorem rawL_inj {at_ : Nat} {f st : Int} {stem : Str} (h : LOk at_ f st stem) {k l : Nat} (hk : k < 26) (hl : l < 26) (e : fix0 (rawL at_ f st stem k) = fix0 (rawL at_ f st stem l)) : k = l := by
  have nd36 : signsL.Nodup := by decide
  have nd26 : smallL.Nodup := by decide
  have inj : ∀ (L : List Nat) (i j : Nat), L.Nodup → i < L.length → j < L.length → L.getD i 0 = L.getD j 0 → i = j := fun L i j nd hi hj e => by
    simp only [List.getD, List.getElem?_eq_getElem hi, List.getElem?_eq_getElem hj, Option.getD_some] at e
    rcases Nat.lt_trichotomy i j with c | c | c
    · exact absurd e (List.pairwise_iff_getElem.mp nd i j hi hj c)
    · exact c
    · exact absurd e.symm (List.pairwise_iff_getElem.mp nd j i hj hi c)
  obtain ⟨_, _, _, _, _, _, gk⟩ := rawL_cps h k
  obtain ⟨_, _, _, _, _, _, gl⟩ := rawL_cps h l
  have ge := congrArg (fun z : Str => z.cps.toList[at_]?) e
  simp only [fix0_cps] at ge
  rw [List.getElem?_append_left (List.getElem?_eq_some_iff.mp gk).1, List.getElem?_append_left (List.getElem?_eq_some_iff.mp gl).1, gk, gl] at ge
  have ge := Option.some.inj ge
  have h36 : signsL.length = 36 := rfl
  have h26 : smallL.length = 26 := rfl
  have := h.s
  by_cases h0 : 0 < at_
  · simp only [if_pos h0] at ge
    have q := inj signsL _ _ nd36 (by omega) (by omega) ge
    rcases h.s with s | s | s | s | s | s | s | s <;> subst s <;> omega
  · simp only [if_neg h0] at ge
    have q := inj smallL _ _ nd26 (by omega) (by omega) ge
    rcases h.s with s | s | s | s | s | s | s | s <;> subst s <;> omega
theorem rawL_stock {at_ : Nat} {f st : Int} {stem : Str} (h : LOk at_ f st stem) : Stock 26 fun k => fix0 (rawL at_ f st stem k) :=
  ⟨fun j hj => by obtain ⟨c, r, e, hc, hr, hl, _⟩ := rawL_cps h j; exact good_fix e hc hr hl, fun i j hi hj e => rawL_inj h hi hj e⟩


section
variable {P : Program} {w : World} {K : PySem.W.Frag} {mg : Str → Option Value} {base : Heap} {a : Ad}
theorem rd_gTup2 {n i j : Nat} {p : Addr} {x y : V} {σ : L2.St} {H : Hp} {R : L2.St → Hp → Prop} (hn : 2 = n) (h : SqT K H p [x, y]) (q : R ((σ.set i (some x)).set j (some y)) H) : gTup K n (gCons (gName i) (gCons (gName j) gNil)) (.ref p) σ H R :=
  ⟨p, [x, y], rfl, h, hn, x, [y], rfl, y, [], rfl, rfl, q⟩
theorem rd_iteVar {b : Bool} {i j : Nat} {u v : V} {σ : L2.St} {H : Hp} {R : V → Hp → Prop} (hi : σ[i]? = some (some u)) (hj : σ[j]? = some (some v)) (r : R (if b = true then u else v) H) : if b = true then tVar i σ H R else tVar j σ H R := by
  cases b with
  | true => exact ⟨u, hi, r⟩
  | false => exact ⟨v, hj, r⟩
theorem rd_par3 {i j l : Nat} {ts : TA} {nx bk ct : L2.St → Hp → Prop} {rt : VK} {σ : L2.St} {H : Hp} (h : ts σ H fun vs H1 => ∃ u v w, vs = [u, v, w] ∧ nx (((σ.set i (some u)).set j (some v)).set l (some w)) H1) : tPar3 i j l ts ⟨nx, rt, bk, ct⟩ σ H := h
theorem rd_three {a b c : V} {R : V → V → V → Prop} (q : R a b c) : ∃ u v w, [a, b, c] = [u, v, w] ∧ R u v w := ⟨a, b, c, rfl, q⟩
theorem fix0_of (w : Str) : fix0 w = if isBegB w = true then w ++ "0" else w := by
  apply str_ext
  rw [fix0_cps]
  by_cases h : isBegB w = true
  · rw [if_pos h, if_pos h, app_cps]; rfl
  · rw [if_neg h, if_neg h, List.append_nil]
/-- [pick(pen, z) for k in range(m)] -/
theorem lc_pick {z0 : Str} {m B0 j : Nat} {H6 : Hp} {σ : L2.St} {pd c : Addr} {Qd : Addr → Hp → Prop} (h0 : 0 < z0.length) (hz : z0.length ≤ 1000) (hm : m ≤ 100) (hB : B0 < 800000000) (p6 : PenK H6 pd c B0)
    (s0 : ∀ x, ((wipe σ [4]).set 4 (some x))[0]? = some (some (.ref pd))) (sj : ∀ x, ((wipe σ [4]).set 4 (some x))[j]? = some (some (.str z0)))
    (q : ∀ D (cs : List Nat) H7, cs.length = m → (∀ x ∈ cs, x ∈ z0.cps.toList) → H6 D = none → H7 D = some (.lst ((cs.map fun x => (⟨#[x]⟩ : Str)).map V.str)) → PenK H7 pd c (B0 + m) → Kx pd H6 H7 → Qd D H7) :
    ∀ D, H6 D = none → ∃ W : Nat → Nat → Hp → Prop, (∃ m, W 0 m (upd H6 D (.lst []))) ∧ ∀ i mm H, W i mm H →
      ((Itr 0 m).stop i H ∧ Qd D H) ∨ ((Itr 0 m).go i H ∧ ∃ Nx : Hp → Prop, (∀ H', Nx H' → ∃ m', m' < mm ∧ W (i + 1) m' H') ∧ ∀ x H', (Itr 0 m).yld i H x H' → gName 4 x (wipe σ [4]) H' fun σ2 H2 => wipe σ2 [4] = wipe σ [4] ∧ tYes σ2 H2 fun b H3 =>
        if b = true then tCall spPick [] E0 (tCons (tVar 0) (tCons (tVar j) tNil)) σ2 H3 fun y H4 => ∃ acc, H4 D = some (.lst acc) ∧ acc.length < sizeLine ∧ Nx (upd H4 D (.lst (acc ++ [y]))) else Nx H3) := by
  intro D hD
  refine lc_yl (yl_range 0 m) (fun i H' => ∃ cs : List Nat, cs.length = i ∧ (∀ x ∈ cs, x ∈ z0.cps.toList) ∧ H' D = some (.lst ((cs.map fun x => (⟨#[x]⟩ : Str)).map V.str)) ∧ PenK H' pd c (B0 + i) ∧ Kx pd H6 H') (fun _ _ _ _ => trivial) ⟨[], rfl, (fun x hx => by cases hx), upd_same, p6.ex (Ex.new hD), Kx.of (Ex.new hD)⟩ (fun i x H7 H8 hi hv e8 yy => ?_) (fun H7 hv => ?_)
  · obtain ⟨cs, lc, hcs, hD7, p7, kx7⟩ := hv
    show wipe ((wipe σ [4]).set 4 (some x)) [4] = wipe σ [4] ∧ _
    refine ⟨wipe1 _, rd_yes (iteT ?_)⟩
    refine rd_call (rd_cons (rd_var (s0 x) (rd_cons (rd_var (sj x) (rd_nil ?_)))))
    have p8 := p7.ex e8
    refine ⟨pd, c, B0 + i, p8, by omega, .inr ⟨_, rfl, h0, hz, fun x H9 hx p9 kx9 => ?_⟩⟩
    obtain ⟨kvs, hk8⟩ := p8.dK
    have hD9 := kx9.lst hk8 (e8 _ _ hD7)
    refine ⟨_, hD9, Nat.lt_of_le_of_lt (show _ ≤ 100 by simp; omega) (by decide), cs ++ [x], by simp [lc], ?_, ?_, ?_, ?_⟩
    · intro y hy
      rcases List.mem_append.mp hy with h | h
      · exact hcs y h
      · rw [List.mem_singleton] at h; subst h; exact hx
    · rw [upd_same, List.map_append, List.map_append]; rfl
    · exact p9.wr (p6.np hD) (p6.nc hD)
    · exact ((kx7.trans (Kx.of e8)).trans kx9).mut hD
  · obtain ⟨cs, lc, hcs, hD7, p7, kx7⟩ := hv
    exact q D cs H7 lc hcs hD hD7 p7 kx7
def spLetters : Sp := fun vs H Q _ => ∃ (pd c : Addr) (B n : Nat), vs = [.ref pd, .int n] ∧ PenK H pd c B ∧ B < 700000000 ∧ n ≤ 14 ∧
  ∀ (zs : List Str) (p : Addr) (H' : Hp), (zs.length = n ∧ zs.Nodup ∧ ∀ z ∈ zs, Mk1 z) → H p = none → H' p = some (.lst (zs.map V.str)) → PenK H' pd c (B + 100) → Kx pd H H' → Q (.ref p) H'
theorem c__law_letters (T : Txt P K mg a) : Cal P w K mg base 3 "_law_letters" ["_law_pen_here", "_law_many"] spLetters := by
  obtain ⟨fd, F, b⟩ := T.F__law_letters
  refine ⟨_, _, F.ok sc__law_letters (fun vs H Q E h => ?_) (fun cdv A outer s H vs Q E hr h => ?_), T.g__law_letters, F.kp, b⟩
  · obtain ⟨pd, c, B, n, rfl, _⟩ := h; rfl
  · obtain ⟨pd, c, B, n, rfl, hp, hB, n2, k⟩ := h
    refine ⟨_, (pss_cons (ps_asg (pe_tup (pa_cons pe_str (pa_cons pe_str pa_nil))) (pg_tup rfl (pgs_cons (pg_name (i := 5) sc__law_letters.nd rfl (by first | exact Or.inl rfl | exact Or.inr rfl)) (pgs_cons (pg_name (i := 6) sc__law_letters.nd rfl (by first | exact Or.inl rfl | exact Or.inr rfl)) pgs_nil))))
  (pss_cons (ps_set (i := 2) sc__law_letters.nd rfl (by first | exact Or.inl rfl | exact Or.inr rfl) (pe_join pe_str (pe_lc (own := [("_law_k", 4)]) (by rfl) sc__law_letters.nd (pi_range1 (by rfl) T.n_range (pa_cons (pe_callB (call_min2 rfl) (by rfl) T.n_min (by decide +kernel) (pa_cons pe_int (pa_cons (pe_callC (c__law_draw T) hr (pa_cons (pv 0) (pa_cons pe_int pa_nil))) pa_nil))) pa_nil)) (blkOk_by (own := [("_law_k", 4)]) (N := N__law_letters) (sc := defScope s__law_letters) (by decide +kernel)) (fun _ _ _ _ _ => (pg_name (i := 4) sc__law_letters.nd rfl (by first | exact Or.inl rfl | exact Or.inr rfl))) (fun _ _ _ _ _ => pts_nil) (fun _ _ _ _ _ => (pe_callC (c__law_pick T) hr (pa_cons (pv 0) (pa_cons (pv 5) pa_nil)))))))
  (pss_cons (ps_set (i := 2) sc__law_letters.nd rfl (by first | exact Or.inl rfl | exact Or.inr rfl) (pe_op op_add_str (pv 2) (pe_join pe_str (pe_lc (own := [("_law_k", 4)]) (by rfl) sc__law_letters.nd (pi_range1 (by rfl) T.n_range (pa_cons (pe_op op_mul (pe_callC (c__law_draw T) hr (pa_cons (pv 0) (pa_cons pe_int pa_nil))) (pe_callB call_len_str (by rfl) T.n_len (by decide +kernel) (pa_cons (pv 2) pa_nil))) pa_nil)) (blkOk_by (own := [("_law_k", 4)]) (N := N__law_letters) (sc := defScope s__law_letters) (by decide +kernel)) (fun _ _ _ _ _ => (pg_name (i := 4) sc__law_letters.nd rfl (by first | exact Or.inl rfl | exact Or.inr rfl))) (fun _ _ _ _ _ => pts_nil) (fun _ _ _ _ _ => (pe_callC (c__law_pick T) hr (pa_cons (pv 0) (pa_cons (pv 6) pa_nil))))))))
  (pss_cons (ps_par (i := 7) (j := 8) (by rfl) sc__law_letters.nd rfl rfl (by decide) rfl rfl (pa_cons (pe_callC (c__law_draw T) hr (pa_cons (pv 0) (pa_cons (pe_op op_add (pe_callB call_len_str (by rfl) T.n_len (by decide +kernel) (pa_cons (pv 2) pa_nil)) pe_int) pa_nil))) (pa_cons (pe_callC (c__law_draw T) hr (pa_cons (pv 0) (pa_cons pe_int pa_nil))) pa_nil)) (by rfl))
  (pss_cons (ps_set (i := 3) sc__law_letters.nd rfl (by first | exact Or.inl rfl | exact Or.inr rfl) (pe_ifExp (pt_cmpR op_gt (pv 7) pe_int (by rfl)) (pv 6) (pv 5)))
  (pss_cons (ps_par3 (i := 9) (j := 10) (l := 11) (by rfl) sc__law_letters.nd rfl rfl rfl (by decide) (by decide) (by decide) rfl rfl rfl (pa_cons (pe_callC (c__law_pick T) hr (pa_cons (pv 0) (pa_cons (pe_lst (pa_cons pe_int (pa_cons pe_int (pa_cons pe_int (pa_cons pe_int (pa_cons pe_int (pa_cons pe_int (pa_cons pe_int (pa_cons pe_int pa_nil))))))))) pa_nil))) (pa_cons (pe_slice sl_str (pv 2) (po_some (pv 7)) po_none) (pa_cons (pe_lst pa_nil) pa_nil))) (by rfl))
  (pss_cons (ps_for PassesOwn.never (by rfl) (pi_range1 (by rfl) T.n_range (pa_cons (pv 1) pa_nil)) (pg_name (i := 4) sc__law_letters.nd rfl (by first | exact Or.inl rfl | exact Or.inr rfl))
    (pss_cons (ps_set (i := 12) sc__law_letters.nd rfl (by first | exact Or.inl rfl | exact Or.inr rfl) (pe_ix ix_str (pv 3) (pe_op op_mod (pe_callTy call_int1 (by rfl) T.n_int (by decide +kernel) (pa_cons (pe_op op_add (pv 8) (pe_op op_mul (pv 9) (pv 4))) pa_nil)) (pe_callB call_len_str (by rfl) T.n_len (by decide +kernel) (pa_cons (pv 3) pa_nil))) (fun _ _ => rfl)))
      (pss_cons (ps_set (i := 13) sc__law_letters.nd rfl (by first | exact Or.inl rfl | exact Or.inr rfl) (pe_op op_add_str (pe_op op_add_str (pe_slice sl_str (pv 2) po_none (po_some (pv 7))) (pv 12)) (pe_slice sl_str (pv 10) po_none (po_some (pe_op op_sub (pe_callB call_len_str (by rfl) T.n_len (by decide +kernel) (pa_cons (pv 10) pa_nil)) (pe_op op_mul (pv 4) (pe_callTy call_int1 (by rfl) T.n_int (by decide +kernel) (pa_cons (pe_cmpR op_lt (pv 4) pe_int (by rfl)) pa_nil))))))))
      (Evl.pss_cut (ps_if (pt_cmpR op_in_seq (pv 13) (pe_tup (pa_cons pe_str (pa_cons pe_str pa_nil))) (by rfl)) (pss_one (ps_set (i := 13) sc__law_letters.nd rfl (by first | exact Or.inl rfl | exact Or.inr rfl) (pe_op op_add_str (pv 13) pe_str))) pss_nil)
      (Evl.pss_cut (ps_if (PW.pt (pw_and (pt_cmpR op_gt (pv 4) pe_int (by rfl)) (pw_and (pt_cmpR op_ne (pe_slice sl_str (pe_ix ix_list (pv 11) (pe_un un_neg pe_int) (fun _ _ => rfl)) po_none (po_some pe_int)) pe_str (by rfl)) (pw_and1 (pt_cmpR op_eq (pe_callC (c__law_draw T) hr (pa_cons (pv 0) (pa_cons pe_int pa_nil))) pe_int (by rfl)))))) (pss_one (ps_set (i := 13) sc__law_letters.nd rfl (by first | exact Or.inl rfl | exact Or.inr rfl) (pe_ix ix_list (pv 11) (pe_un un_neg pe_int) (fun _ _ => rfl)))) pss_nil)
      (pss_one (ps_expr (pe_bm PySem.F.plainAttrs_list PySem.F.slot_list_append PySem.F.type_list_append mt_append (pv 11) (pa_cons (pe_ifExp (PW.pt (pw_and (pt_cmpR op_notIn_seq (pv 13) (pv 11) (by rfl)) (pw_and1 (pt_cmpR op_gt (pe_callC (c__law_draw T) hr (pa_cons (pv 0) (pa_cons pe_int pa_nil))) pe_int (by rfl))))) (pv 13) (pe_op op_add_str pe_str (pv 13))) pa_nil)))))))))
  (pss_one (ps_ret (pv 11)))))))))), ?_⟩
    refine rd_seq (rd_asgG ?_)
    walk_at "st"
    refine ⟨by show 2 ≤ sizeLine; decide, ?_⟩
    intro t ht
    have e1 := Ex.new (o := HO.tup [V.str "abcdefghijklmnopqrstuvwxyz", V.str "abcdefghijklmnopqrstuvwxyz0123456789"]) ht
    have h1 : upd H t (HO.tup [V.str "abcdefghijklmnopqrstuvwxyz", V.str "abcdefghijklmnopqrstuvwxyz0123456789"]) t = some (HO.tup [V.str "abcdefghijklmnopqrstuvwxyz", V.str "abcdefghijklmnopqrstuvwxyz0123456789"]) := upd_same
    generalize upd H t (HO.tup [V.str "abcdefghijklmnopqrstuvwxyz", V.str "abcdefghijklmnopqrstuvwxyz0123456789"]) = H1 at e1 h1 ⊢
    refine rd_gTup2 rfl (st_of h1) ?_
    have p1 := hp.ex e1
    have kx1 : Kx pd H H1 := Kx.of e1
    -- stem, first sign
    walk_at "st"
    refine rd_lc ?_
    walk_at "st"
    refine ⟨pd, c, B, _, rfl, p1, by omega, by decide, by decide, fun q H2 q0 q1 p2 kx2 => ?_⟩
    have kx2' := kx1.trans kx2
    walk_at "st"
    refine ⟨1, q, rfl, ?_⟩
    dsimp only
    walk_at "st"
    obtain ⟨m, em, hm⟩ : ∃ m : Nat, (if q < 1 then q else 1 : Int) = (m : Int) ∧ m ≤ 1 := by
      by_cases h : q < 1
      · exact ⟨0, by rw [if_pos h]; omega, by omega⟩
      · exact ⟨1, by rw [if_neg h]; rfl, Nat.le_refl _⟩
    rw [em]
    refine ⟨by omega, by omega, ?_⟩
    rw [Int.toNat_natCast]
    refine lc_pick (j := 5) (by decide +kernel) (by decide +kernel) (by omega) (by omega) p2 (fun _ => rfl) (fun _ => rfl) (fun D cs H3 lc hcs hD h3 p3 kx3 => ?_)
    have e1j := join_ones cs
    refine ⟨_, _, cs.map (fun x => (⟨#[x]⟩ : Str)), rfl, rfl, .inl (sq_of h3), by rw [ones_len, show ("" : Str).length = 0 by decide +kernel, Nat.mul_zero]; omega, ?_⟩
    generalize Txt.join "" (cs.map fun x => (⟨#[x]⟩ : Str)) = stem1 at e1j ⊢
    have ls1 : stem1.length = m := by rw [← len_cps, e1j, lc]
    have kx3' := kx2'.trans kx3
    -- the further signs
    walk_at "st"
    refine rd_lc ?_
    walk_at "st"
    refine ⟨pd, c, _, _, rfl, p3, by omega, by decide, by decide, fun q2 H4 q20 q21 p4 kx4 => ?_⟩
    have kx4' := kx3'.trans kx4
    walk_at "st"
    refine rd_lenS (z := stem1) (by omega) ?_
    refine rd_I (.inl ⟨by omega, by omega⟩) ?_
    walk_at "st"
    obtain ⟨m2, em2, hm2⟩ : ∃ m2 : Nat, q2 * (stem1.length : Int) = (m2 : Int) ∧ m2 ≤ 10 ∧ (m = 0 → m2 = 0) := by
      rw [ls1]
      rcases Nat.le_one_iff_eq_zero_or_eq_one.mp hm with h | h
      · exact ⟨0, by rw [h]; simp, by omega, fun _ => rfl⟩
      · exact ⟨q2.toNat, by rw [h]; simp; omega, by omega, fun h' => by omega⟩
    rw [em2]
    refine ⟨by omega, by omega, ?_⟩
    rw [Int.toNat_natCast]
    refine lc_pick (j := 6) (by decide +kernel) (by decide +kernel) (by omega) (by omega) p4 (fun _ => rfl) (fun _ => rfl) (fun D2 cs2 H5 lc2 hcs2 hD2 h5 p5 kx5 => ?_)
    have e2j := join_ones cs2
    refine ⟨_, _, cs2.map (fun x => (⟨#[x]⟩ : Str)), rfl, rfl, .inl (sq_of h5), by rw [ones_len, show ("" : Str).length = 0 by decide +kernel, Nat.mul_zero]; omega, ?_⟩
    generalize Txt.join "" (cs2.map fun x => (⟨#[x]⟩ : Str)) = stem2 at e2j ⊢
    have ls2 : stem2.length = m2 := by rw [← len_cps, e2j, lc2]
    have kx5' := kx4'.trans kx5
    refine rd_strs (by omega) ?_
    have esc : (stem1 ++ stem2 : Str).cps.toList = cs ++ cs2 := by rw [app_cps, e1j, e2j]
    have lst : (stem1 ++ stem2 : Str).length = m + m2 := by rw [app_len, ls1, ls2]
    generalize (stem1 ++ stem2 : Str) = stem at esc lst ⊢
    -- at, front
    walk_at "st"
    refine rd_lenS (z := stem) (by omega) ?_
    walk_at "st"
    refine ⟨pd, c, _, _, rfl, p5, by omega, by omega, by omega, fun at_ H6 a0 a1 p6 kx6 => ?_⟩
    walk_at "st"
    refine ⟨pd, c, _, _, rfl, p6, by omega, by decide, by decide, fun f H7 f0 f1 p7 kx7 => ?_⟩
    have kx7' := (kx5'.trans kx6).trans kx7
    obtain ⟨at', rfl⟩ : ∃ n : Nat, at_ = (n : Int) := ⟨at_.toNat, by omega⟩
    walk_at "st"
    refine rd_iteVar rfl rfl ?_
    obtain ⟨ch, ech, cch⟩ : ∃ ch : Str, (if decide ((0 : Int) < (at' : Int)) = true then V.str "abcdefghijklmnopqrstuvwxyz0123456789" else V.str "abcdefghijklmnopqrstuvwxyz") = V.str ch ∧ ch.cps.toList = (if 0 < at' then signsL else smallL) := by
      by_cases h : 0 < at'
      · exact ⟨signsS, by rw [if_pos (decide_eq_true (by omega))], by rw [if_pos h]; exact signsS_cps⟩
      · exact ⟨smallS, by rw [if_neg (by simp; omega)], by rw [if_neg h]; exact smallS_cps⟩
    rw [ech]
    have lch : ch.length = if 0 < at' then 36 else 26 := by rw [← len_cps, cch]; split <;> rfl
    walk_at "st"
    refine rd_par3 ?_
    walk_at "st"
    refine ⟨by show 8 ≤ sizeLine; decide, ?_⟩
    intro l hl
    have e8 := Ex.new (o := HO.lst [V.int 1, V.int 5, V.int 7, V.int 11, V.int 17, V.int 19, V.int 23, V.int 25]) hl
    have h8 : upd H7 l (HO.lst [V.int 1, V.int 5, V.int 7, V.int 11, V.int 17, V.int 19, V.int 23, V.int 25]) l = some (HO.lst [V.int 1, V.int 5, V.int 7, V.int 11, V.int 17, V.int 19, V.int 23, V.int 25]) := upd_same
    generalize upd H7 l (HO.lst [V.int 1, V.int 5, V.int 7, V.int 11, V.int 17, V.int 19, V.int 23, V.int 25]) = H8 at e8 h8 ⊢
    walk_at "st"
    refine ⟨pd, c, _, p7.ex e8, by omega, .inl ⟨l, _, rfl, h8, by decide, by decide, fun sv H9 hsv p9 kx9 => ?_⟩⟩
    obtain ⟨st, rfl, hst⟩ : ∃ st : Int, sv = V.int st ∧ (st = 1 ∨ st = 5 ∨ st = 7 ∨ st = 11 ∨ st = 17 ∨ st = 19 ∨ st = 23 ∨ st = 25) := by
      simp only [List.mem_cons, List.not_mem_nil, or_false] at hsv
      rcases hsv with rfl | rfl | rfl | rfl | rfl | rfl | rfl | rfl
      all_goals exact ⟨_, rfl, by simp⟩
    have kx9' := (kx7'.trans (Kx.of e8)).trans kx9
    walk_at "st"
    refine rd_slS (by omega) ?_
    walk_at "st"
    refine ⟨by show 0 ≤ sizeLine; decide, ?_⟩
    intro G hG
    have e10 := Ex.new (o := HO.lst []) hG
    have h10 : upd H9 G (HO.lst []) G = some (HO.lst []) := upd_same
    generalize upd H9 G (HO.lst []) = H10 at e10 h10 ⊢
    walk_at "st"
    refine rd_three ?_
    have LO : LOk at' f st stem := by
      refine ⟨f0, f1, hst, fun x r es => ?_, fun x hx => ?_, by omega, by omega⟩
      · rw [esc] at es
        have : m = 1 := by
          rcases Nat.le_one_iff_eq_zero_or_eq_one.mp hm with h | h
          · have := hm2.2 h
            have : (cs ++ cs2).length = 0 := by rw [List.length_append, lc, lc2, h, this]
            rw [es] at this; simp at this
          · exact h
        rw [this] at lc
        obtain ⟨y, ey⟩ := List.length_eq_one_iff.mp lc
        rw [ey] at es
        have : x = y := by simp at es; exact es.1.symm
        rw [this]
        exact smallS_cps ▸ hcs y (by rw [ey]; simp)
      · rw [esc] at hx
        rcases List.mem_append.mp hx with h | h
        · exact small_sub (smallS_cps ▸ hcs x h)
        · exact signsS_cps ▸ hcs2 x h
    have SK := rawL_stock LO
    have p10 := p9.ex e10
    have kx10' := kx9'.trans (Kx.of e10)
    have nGd : pd ≠ G := p9.np hG
    have nGc : c ≠ G := p9.nc hG
    obtain ⟨kv9, hd9⟩ := p9.dK
    walk_at "st"
    refine rd_forYl (J := Itr 0 n) (H1 := H10) (fun R r => ⟨_, rfl, _, rfl, by omega, by omega, r⟩) (yl_range 0 n) (fun i σ H' => (∃ v4 v12 v13, σ = [some (.ref pd), some (.int n), some (.str stem), some (.str ch), v4, some (.str "abcdefghijklmnopqrstuvwxyz"), some (.str "abcdefghijklmnopqrstuvwxyz0123456789"), some (.int (at' : Int)), some (.int f), some (.int st), some (.str (cutS stem (some (at' : Int)) none)), some (.ref G), v12, v13]) ∧ ∃ zs : List Str, zs.length = i ∧ Row (fun k => fix0 (rawL at' f st stem k)) zs ∧ H' G = some (.lst (zs.map V.str)) ∧ PenK H' pd c (B + 30 + 2 * i) ∧ Kx pd H9 H') (fun _ _ _ _ _ => trivial) ⟨⟨_, _, _, rfl⟩, [], rfl, .nil, h10, p10.mono (by omega), Kx.of e10⟩ (fun i x σ H11 H12 hi hv e yy => ?_) (fun σ H11 hv => ?_)
    · obtain ⟨⟨v4, v12, v13, rfl⟩, zs, lz, R, g11, p11, kx11⟩ := hv
      subst yy
      rw [Int.zero_add]
      refine rd_gname ?_
      have g12 := e _ _ g11
      have p12 := p11.ex e
      have kx12 := kx11.trans (Kx.of e)
      have st64 : CMul st (i : Int) := .inl (by rcases hst with s | s | s | s | s | s | s | s <;> subst s <;> decide)
      have l0 : (0 : Int) < (ch.length : Nat) := by rw [lch]; split <;> omega
      have ml := Int.emod_lt_of_pos (f + st * (i : Int)) l0
      have mn := Int.emod_nonneg (f + st * (i : Int)) (show ((ch.length : Nat) : Int) ≠ 0 by omega)
      walk_at "st"
      refine rd_I st64 ?_
      walk_at "st"
      refine rd_lenS (z := ch) (by rw [lch]; split <;> omega) ?_
      refine rd_I l0 ?_
      obtain ⟨y, hy, gy, hat⟩ := atI_int (xs := ch.cps.toList) mn (by rw [len_cps]; exact ml)
      refine rd_ixS (by rw [lch]; split <;> omega) hat ?_
      have ey : y = if 0 < at' then signsL.getD ((f + st * (i : Int)) % 36).toNat 0 else smallL.getD ((f + st * (i : Int)) % 26).toNat 0 := by
        rw [cch, lch] at gy
        by_cases h : 0 < at'
        · simp only [if_pos h] at gy ⊢
          have g2 : signsL[((f + st * (i : Int)) % 36).toNat]? = some y := gy
          rw [List.getD, g2]; rfl
        · simp only [if_neg h] at gy ⊢
          have g2 : smallL[((f + st * (i : Int)) % 26).toNat]? = some y := gy
          rw [List.getD, g2]; rfl
      have c1 := cutS_length stem none (some (at' : Int))
      have c2 := cutS_length stem (some (at' : Int)) none
      walk_at "st"
      refine rd_slS (by omega) ?_
      walk_at "st"
      refine rd_strs (by rw [one_len]; omega) ?_
      walk_at "st"
      refine rd_lenS (z := cutS stem (some (at' : Int)) none) (by omega) ?_
      walk_at "st"
      refine rd_I (.inl ⟨by omega, by omega⟩) ?_
      walk_at "st"
      refine rd_slS (by omega) ?_
      have c3 := cutS_length (cutS stem (some (at' : Int)) none) none (some (((cutS stem (some (at' : Int)) none).length : Int) - (i : Int) * (if decide ((i : Int) < 2) = true then 1 else 0)))
      refine rd_strs (by rw [app_len, one_len]; omega) ?_
      have er : (cutS stem none (some (at' : Int)) ++ ⟨#[y]⟩) ++ cutS (cutS stem (some (at' : Int)) none) none (some (((cutS stem (some (at' : Int)) none).length : Int) - (i : Int) * (if decide ((i : Int) < 2) = true then 1 else 0))) = rawL at' f st stem i := by rw [ey]; rfl
      rw [er]
      obtain ⟨rc, rr, erc, _, _, rl, _⟩ := rawL_cps LO i
      have lraw : (rawL at' f st stem i).length ≤ 12 := by rw [← len_cps, erc, List.length_cons]; omega
      dsimp only
      generalize hraw : rawL at' f st stem i = raw at lraw ⊢
      refine ⟨fun σ' H' => σ' = [some (.ref pd), some (.int n), some (.str stem), some (.str ch), some (.int i), some (.str "abcdefghijklmnopqrstuvwxyz"), some (.str "abcdefghijklmnopqrstuvwxyz0123456789"), some (.int (at' : Int)), some (.int f), some (.int st), some (.str (cutS stem (some (at' : Int)) none)), some (.ref G), some (.str ⟨#[y]⟩), some (.str (fix0 raw))] ∧ Ex H12 H', ?_, ?_⟩
      · walk_at "st"
        refine ⟨by show 2 ≤ sizeLine; decide, ?_⟩
        intro t2 ht2
        have e13 := Ex.new (o := HO.tup [V.str "new", V.str "found"]) ht2
        have h13 : upd H12 t2 (HO.tup [V.str "new", V.str "found"]) t2 = some (HO.tup [V.str "new", V.str "found"]) := upd_same
        generalize upd H12 t2 (HO.tup [V.str "new", V.str "found"]) = H13 at e13 h13 ⊢
        refine ⟨_, _, rfl, .inr (st_of h13), rfl, rfl, ?_⟩
        rw [if_neg Bool.false_ne_true, inV_two]
        walk_at "st"
        refine ite2 (fun h => ?_) (fun h => ?_)
        · walk_at "st"
          refine rd_strs (by rw [show ("0" : Str).length = 1 by decide +kernel]; omega) ?_
          refine ⟨?_, e13⟩
          rw [fix0_of, if_pos (show isBegB raw = true from h)]
          rfl
        · walk_at "st"
          refine ⟨?_, e13⟩
          rw [fix0_of, if_neg (show ¬ isBegB raw = true from h)]
          rfl
      · rintro σ' H13 ⟨rfl, e13⟩
        have g13 := e13 _ _ g12
        have p13 := p12.ex e13
        have kx13 := kx12.trans (Kx.of e13)
        walk_at "st"
        refine ⟨fun σ' H' => ∃ W : Str, σ' = [some (.ref pd), some (.int n), some (.str stem), some (.str ch), some (.int i), some (.str "abcdefghijklmnopqrstuvwxyz"), some (.str "abcdefghijklmnopqrstuvwxyz0123456789"), some (.int (at' : Int)), some (.int f), some (.int st), some (.str (cutS stem (some (at' : Int)) none)), some (.ref G), some (.str ⟨#[y]⟩), some (.str W)] ∧ (W = fix0 raw ∨ (zs.getLast? = some W ∧ cutS W none (some 1) ≠ "~")) ∧ H' G = some (.lst (zs.map V.str)) ∧ PenK H' pd c (B + 30 + 2 * i + 1) ∧ Kx pd H9 H', ?_, ?_⟩
        · have stay : ∀ H14, PenK H14 pd c (B + 30 + 2 * i + 1) → Kx pd H13 H14 → ∃ W : Str, ([some (.ref pd), some (.int n), some (.str stem), some (.str ch), some (.int i), some (.str "abcdefghijklmnopqrstuvwxyz"), some (.str "abcdefghijklmnopqrstuvwxyz0123456789"), some (.int (at' : Int)), some (.int f), some (.int st), some (.str (cutS stem (some (at' : Int)) none)), some (.ref G), some (.str ⟨#[y]⟩), some (.str (fix0 raw))] : L2.St) = [some (.ref pd), some (.int n), some (.str stem), some (.str ch), some (.int i), some (.str "abcdefghijklmnopqrstuvwxyz"), some (.str "abcdefghijklmnopqrstuvwxyz0123456789"), some (.int (at' : Int)), some (.int f), some (.int st), some (.str (cutS stem (some (at' : Int)) none)), some (.ref G), some (.str ⟨#[y]⟩), some (.str W)] ∧ (W = fix0 raw ∨ (zs.getLast? = some W ∧ cutS W none (some 1) ≠ "~")) ∧ H14 G = some (.lst (zs.map V.str)) ∧ PenK H14 pd c (B + 30 + 2 * i + 1) ∧ Kx pd H9 H14 := fun H14 p14 kx14 => by
            obtain ⟨kvs, hk⟩ := p13.dK
            exact ⟨_, rfl, .inl rfl, kx14.lst hk g13, p14, kx13.trans kx14⟩
          walk_at "st"
          refine ite2 (fun h1 => ?_) (fun h1 => ?_)
          · obtain ⟨z, hz⟩ : ∃ z, zs.getLast? = some z := by
              have h1' : (0 : Int) < (i : Int) := of_decide_eq_true h1
              cases e : zs.getLast? with
              | none => rw [List.getLast?_eq_none_iff] at e; rw [e] at lz; simp at lz; omega
              | some z => exact ⟨z, rfl⟩
            have hzm := List.mem_of_getLast? hz
            have lz13 := (R.mk1 SK (by omega) z hzm).len
            have hat2 : atI (zs.map V.str) (-1) = some (V.str z) := by
              obtain ⟨ys, rfl⟩ := List.getLast?_eq_some_iff.mp hz
              rw [List.map_append]
              exact atI_last _ _
            walk_at "st"
            refine ⟨1, rfl, _, _, _, _, rfl, rfl, sq_of g13, hat2, ?_⟩
            walk_at "st"
            refine rd_slS (by omega) ?_
            walk_at "st"
            refine ite2 (fun h2 => ?_) (fun h2 => ?_)
            · walk_at "st"
              refine ⟨pd, c, _, _, rfl, p13, by omega, by decide, by decide, fun r H14 r0 r1 p14 kx14 => ?_⟩
              obtain ⟨kvs, hk⟩ := p13.dK
              have g14 := kx14.lst hk g13
              walk_at "st"
              refine ite2 (fun h3 => ?_) (fun h3 => ?_)
              · walk_at "st"
                refine ⟨1, rfl, _, _, _, _, rfl, rfl, sq_of g14, hat2, ?_⟩
                refine ⟨z, rfl, .inr ⟨hz, fun q => ?_⟩, g14, p14, kx13.trans kx14⟩
                rw [q] at h2
                exact absurd h2 (by decide +kernel)
              · walk_at "st"
                exact stay _ p14 kx14
            · walk_at "st"
              exact stay _ (p13.mono (by omega)) (Kx.refl _ _)
          · walk_at "st"
            exact stay _ (p13.mono (by omega)) (Kx.refl _ _)
        · rintro σ' H14 ⟨W, rfl, hW, g14, p14, kx14⟩
          have S14 : Row (fun k => fix0 (rawL at' f st stem k)) zs := R
          have hk26 : zs.length < 26 := by omega
          have ebw : fix0 (rawL at' f st stem zs.length) = fix0 raw := by rw [lz, hraw]
          have fr : fix0 (rawL at' f st stem zs.length) ∉ zs ∧ ("~" ++ fix0 (rawL at' f st stem zs.length) : Str) ∉ zs := R.fresh SK hk26
          rw [ebw] at fr
          have WL : W.length ≤ 13 := by
            rcases hW with h | ⟨h, _⟩
            · have g := SK.good i (by omega)
              have := g.cps.2.1
              rw [h, ← hraw]; omega
            · have := (R.mk1 SK (by omega) W (List.mem_of_getLast? h)).len
              omega
          have lzs : (zs.map V.str).length < sizeLine := Nat.lt_of_le_of_lt (show _ ≤ 100 by rw [List.length_map]; omega) (by decide)
          have done : ∀ (H15 : Hp) (z : Str), H15 G = some (.lst (zs.map V.str)) → PenK H15 pd c (B + 30 + 2 * i + 2) → Kx pd H9 H15 → Row (fun k => fix0 (rawL at' f st stem k)) (zs ++ [z]) →
              ∃ zs' : List Str, zs'.length = i + 1 ∧ Row (fun k => fix0 (rawL at' f st stem k)) zs' ∧ upd H15 G (.lst (zs.map V.str ++ [V.str z])) G = some (.lst (zs'.map V.str)) ∧ PenK (upd H15 G (.lst (zs.map V.str ++ [V.str z]))) pd c (B + 30 + 2 * (i + 1)) ∧ Kx pd H9 (upd H15 G (.lst (zs.map V.str ++ [V.str z]))) := fun H15 z g15 p15 kx15 R15 =>
            ⟨zs ++ [z], by simp [lz], R15, by rw [upd_same, List.map_append]; rfl, (p15.wr nGd nGc).mono (by omega), kx15.mut hG⟩
          have tl : ("~" : Str).length + W.length ≤ 100000 := by rw [tilde_len]; omega
          walk_at "st"
          refine rd_tyL (sq_of g14) ?_
          walk_at "st"
          refine ⟨_, _, rfl, .inl (sq_of g14), rfl, flat_strs _, ?_⟩
          rw [inV_strs, if_pos rfl]
          walk_at "st"
          by_cases hin : W ∈ zs
          · rw [decide_eq_true hin]
            walk_at "st"
            refine rd_strs tl ?_
            dsimp only
            walk_at "st"
            refine rd_append g14 lzs ?_
            refine ⟨⟨_, _, _, rfl⟩, done _ _ g14 (p14.mono (by omega)) kx14 ?_⟩
            rcases hW with h | ⟨h, h2⟩
            · exact absurd (h ▸ hin) fr.1
            · exact R.again SK hk26 h h2
          · have hWf : W = fix0 raw := by
              rcases hW with h | ⟨h, _⟩
              · exact h
              · exact absurd (List.mem_of_getLast? h) hin
            rw [decide_eq_false hin]
            walk_at "st"
            refine ⟨pd, c, _, _, rfl, p14, by omega, by decide, by decide, fun r H15 r0 r1 p15 kx15 => ?_⟩
            obtain ⟨kvs, hk⟩ := p14.dK
            have g15 := kx15.lst hk g14
            walk_at "st"
            refine ite2 (fun h3 => ?_) (fun h3 => ?_)
            · walk_at "st"
              refine rd_append g15 lzs ?_
              refine ⟨⟨_, _, _, rfl⟩, done _ _ g15 p15 (kx14.trans kx15) ?_⟩
              rw [hWf, ← ebw]
              exact R.plain SK hk26
            · walk_at "st"
              refine rd_strs tl ?_
              dsimp only
              walk_at "st"
              refine rd_append g15 lzs ?_
              refine ⟨⟨_, _, _, rfl⟩, done _ _ g15 p15 (kx14.trans kx15) ?_⟩
              rw [hWf, ← ebw]
              exact R.back SK hk26
    · obtain ⟨⟨v4, v12, v13, rfl⟩, zs, lz, R, g11, p11, kx11⟩ := hv
      walk_at "st"
      have hG0 : H G = none := by
        refine kx9'.free ?_ hG
        intro e; exact nGd e.symm
      refine k zs G H11 ⟨lz, R.nd, R.mk1 SK (by omega)⟩ hG0 g11 (p11.mono (by omega)) (kx9'.trans kx11)
end


section
variable {P : Program} {w : World} {K : PySem.W.Frag} {mg : Str → Option Value} {base : Heap} {a : Ad}
theorem rd_gTup3 {n i j l : Nat} {p : Addr} {x y z : V} {σ : L2.St} {H : Hp} {R : L2.St → Hp → Prop} (hn : 3 = n) (h : SqT K H p [x, y, z]) (q : R (((σ.set i (some x)).set j (some y)).set l (some z)) H) : gTup K n (gCons (gName i) (gCons (gName j) (gCons (gName l) gNil))) (.ref p) σ H R :=
  ⟨p, [x, y, z], rfl, h, hn, x, [y, z], rfl, y, [z], rfl, z, [], rfl, rfl, q⟩
/-- xs.index(z), xs texts -/
theorem rd_index {l : Addr} {ws : List Str} {z : Str} {H : Hp} {Q : VK} (h : SqL K H l (ws.map V.str)) (hz : z ∈ ws) (q : Q (.int (ixOf z ws)) H) : rIndex K (.ref l) [.str z] H Q := by
  obtain ⟨j, j1, j2⟩ := first_at hz
  have e : ∀ u v : Str, eqV (.str u) (.str v) = decide (u = v) := fun u v => by
    show (u == v) = _
    rw [Bool.eq_iff_iff, beq_iff_eq, decide_eq_true_eq]
  rw [ixOf_first j1 j2] at q
  refine ⟨l, _, _, j, V.str z, rfl, rfl, h, rfl, flat_strs _, by rw [List.getElem?_map, j1]; rfl, by rw [e]; exact decide_eq_true rfl, fun m z' hm hz' => ?_, q⟩
  rw [List.getElem?_map] at hz'
  cases hw : ws[m]? with
  | none => rw [hw] at hz'; cases hz'
  | some u =>
    rw [hw] at hz'
    have : z' = V.str u := (Option.some.inj hz').symm
    subst this
    rw [e]
    exact decide_eq_false fun q => j2 m hm (by rw [hw, q])
def spNormal : Sp := fun vs H Q _ => ∃ (l t : Addr) (ws : List Str) (k f : Str) (sv : V), vs = [.ref l, .ref t] ∧ H l = some (.lst (ws.map V.str)) ∧ H t = some (.tup [.str k, .str f, sv]) ∧ f ∈ ws ∧ ((sv = .non ∧ k ≠ "alike" ∧ k ≠ "over") ∨ ∃ y, sv = .str y ∧ y ∈ ws) ∧
  ∀ p H', Ex H H' → H' p = some (.tup [.str (senNorm ws k f sv).1, .str (senNorm ws k f sv).2.1, (senNorm ws k f sv).2.2]) → Q (.ref p) H'
theorem c__law_normal (T : Txt P K mg a) : Cal P w K mg base 1 "_law_normal" ["_law_letters_here", "_law_triple_here"] spNormal := by
  obtain ⟨fd, F, b⟩ := T.F__law_normal
  refine ⟨_, _, F.ok sc__law_normal (fun vs H Q E h => ?_) (fun cdv A outer s H vs Q E hr h => ?_), T.g__law_normal, F.kp, b⟩
  · obtain ⟨l, t, ws, k, f, sv, rfl, _⟩ := h; rfl
  · obtain ⟨l, t, ws, k, f, sv, rfl, hl, ht, hf, hs, q⟩ := h
    refine ⟨_, (pss_cons (ps_asg (pv 1) (pg_tup rfl (pgs_cons (pg_name (i := 2) sc__law_normal.nd rfl (by first | exact Or.inl rfl | exact Or.inr rfl)) (pgs_cons (pg_name (i := 3) sc__law_normal.nd rfl (by first | exact Or.inl rfl | exact Or.inr rfl)) (pgs_cons (pg_name (i := 4) sc__law_normal.nd rfl (by first | exact Or.inl rfl | exact Or.inr rfl)) pgs_nil)))))
  (pss_cons (ps_if (PW.pt (pw_and (pt_cmpR op_eq (pv 2) pe_str (by rfl)) (pw_and1 (pt_cmpR op_lt (pe_bm PySem.F.plainAttrs_list PySem.F.slot_list_index PySem.F.type_list_index mt_index (pv 0) (pa_cons (pv 3) pa_nil)) (pe_bm PySem.F.plainAttrs_list PySem.F.slot_list_index PySem.F.type_list_index mt_index (pv 0) (pa_cons (pv 4) pa_nil)) (by rfl))))) (pss_one (ps_ret (pe_tup (pa_cons (pv 2) (pa_cons (pv 4) (pa_cons (pv 3) pa_nil)))))) pss_nil)
  (pss_one (ps_ret (pe_ifExp (PW.pt (pw_and (pt_cmpR op_eq (pv 2) pe_str (by rfl)) (pw_and1 (pt_cmpR op_eq (pv 3) (pv 4) (by rfl))))) (pe_tup (pa_cons pe_str (pa_cons (pv 3) (pa_cons (pv 4) pa_nil)))) (pv 1)))))), ?_⟩
    refine rd_seq (rd_asgG ?_)
    walk_at "st"
    refine rd_gTup3 rfl (st_of ht) ?_
    have new : ∀ (k' f' : Str) (s' : V), senNorm ws k f sv = (k', f', s') → [V.str k', V.str f', s'].length ≤ sizeLine ∧ ∀ p, H p = none → Q (.ref p) (upd H p (.tup [V.str k', V.str f', s'])) := fun k' f' s' e =>
      ⟨by show 3 ≤ sizeLine; decide, fun p hp => q p _ (Ex.new hp) (by rw [e]; exact upd_same)⟩
    walk_at "st"
    rcases hs with ⟨rfl, n1, n2⟩ | ⟨y, rfl, hy⟩
    · rw [decide_eq_false (fun h => n1 (V.str.inj h))]
      walk_at "st"
      rw [decide_eq_false (fun h => n2 (V.str.inj h))]
      walk_at "st"
      exact q t H (Ex.refl _) ht
    · have plain : ¬ (k = "alike" ∧ ixOf f ws < ixOf y ws) → tRet (tIf (tAnd (tTest (tOp rEq (tVar 2) (tC (V.str "over")))) (tTest (tOp rEq (tVar 3) (tVar 4)))) (tTup (tCons (tC (V.str "kept")) (tCons (tVar 3) (tCons (tVar 4) tNil)))) (tVar 1)) { nx := fun x H' => Q V.non H', rt := Q } [some (.ref l), some (.ref t), some (.str k), some (.str f), some (.str y)] H := fun hna => by
        walk_at "st"
        by_cases ko : k = "over"
        · rw [decide_eq_true (congrArg V.str ko)]
          walk_at "st"
          by_cases fy : f = y
          · rw [decide_eq_true (congrArg V.str fy)]
            walk_at "st"
            refine new "kept" f (.str y) ?_
            show (if _ then _ else if _ then _ else _) = _
            rw [if_neg hna, if_pos ⟨ko, fy⟩]
          · rw [decide_eq_false (fun h => fy (V.str.inj h))]
            walk_at "st"
            refine q t H (Ex.refl _) ?_
            have e : senNorm ws k f (.str y) = (k, f, .str y) := by
              show (if _ then _ else if _ then _ else _) = _
              rw [if_neg hna, if_neg (fun h => fy h.2)]
            rw [e]; exact ht
        · rw [decide_eq_false (fun h => ko (V.str.inj h))]
          walk_at "st"
          refine q t H (Ex.refl _) ?_
          have e : senNorm ws k f (.str y) = (k, f, .str y) := by
            show (if _ then _ else if _ then _ else _) = _
            rw [if_neg hna, if_neg (fun h => ko h.1)]
          rw [e]; exact ht
      by_cases ka : k = "alike"
      · rw [decide_eq_true (congrArg V.str ka)]
        walk_at "st"
        refine rd_tyL (sq_of hl) ?_
        walk_at "st"
        refine rd_index (sq_of hl) hf ?_
        walk_at "st"
        refine rd_tyL (sq_of hl) ?_
        walk_at "st"
        refine rd_index (sq_of hl) hy ?_
        walk_at "st"
        by_cases lt : ((ixOf f ws : Nat) : Int) < ((ixOf y ws : Nat) : Int)
        · rw [decide_eq_true lt]
          walk_at "st"
          refine new k y (.str f) ?_
          show (if _ then _ else _) = _
          rw [if_pos ⟨ka, by omega⟩]
        · rw [decide_eq_false lt]
          refine iteF ?_
          refine rd_next ?_
          exact plain fun h => by omega
      · rw [decide_eq_false (fun h => ka (V.str.inj h))]
        refine iteF ?_
        refine rd_next ?_
        exact plain fun h => ka h.1
def spTriple (a : Ad) : Sp := fun vs H Q _ => ∃ (x dx l : Addr) (r : Str × Str × V), vs = [.ref x] ∧ H x = some (.ins a.Sentence dx (sfs l r)) ∧ ∀ p H', Ex H H' → H' p = some (.tup [.str r.1, .str r.2.1, r.2.2]) → Q (.ref p) H'
theorem c__law_triple (T : Txt P K mg a) : Cal P w K mg base 1 "_law_triple" ["_law_sentence"] (spTriple a) := by
  obtain ⟨fd, F, b⟩ := T.F__law_triple
  refine ⟨_, _, F.ok sc__law_triple (fun vs H Q E h => ?_) (fun cdv A outer s H vs Q E hr h => ?_), T.g__law_triple, F.kp, b⟩
  · obtain ⟨x, dx, l, r, rfl, _⟩ := h; rfl
  · obtain ⟨x, dx, l, r, rfl, hx, q⟩ := h
    refine ⟨_, (pss_one (ps_ret (pe_tup (pa_cons (pe_fld (pv 0) rfl) (pa_cons (pe_fld (pv 0) rfl) (pa_cons (pe_fld (pv 0) rfl) pa_nil)))))), ?_⟩
    walk_at "st"
    refine rd_fldAt hx T.cl_Sentence T.na_Sentence_kind rfl ?_
    walk_at "st"
    refine rd_fldAt hx T.cl_Sentence T.na_Sentence_first rfl ?_
    walk_at "st"
    refine rd_fldAt hx T.cl_Sentence T.na_Sentence_second rfl ?_
    walk_at "st"
    exact ⟨by show 3 ≤ sizeLine; decide, fun p hp => q p _ (Ex.new hp) upd_same⟩
end


section
variable {P : Program} {w : World} {K : PySem.W.Frag} {mg : Str → Option Value} {base : Heap} {a : Ad}
def spDrawn : Sp := fun vs H Q _ => ∃ (pd c l : Addr) (B : Nat) (ws : List Str), vs = [.ref pd, .ref l] ∧ PenK H pd c B ∧ B < 700000000 ∧ H l = some (.lst (ws.map V.str)) ∧ 0 < ws.length ∧ ws.length ≤ 100 ∧
  ∀ (k f : Str) (sv : V) (t : Addr) (H' : Hp), k.length ≤ 1000 → f ∈ ws → (sv = .non ∨ ∃ y, y ∈ ws ∧ sv = .str y) → H' t = some (.tup [.str k, .str f, sv]) → PenK H' pd c (B + 3) → Kx pd H H' → Q (.ref t) H'
theorem c__law_drawn (T : Txt P K mg a) : Cal P w K mg base 3 "_law_drawn" ["_law_pen_here", "_law_letters_here"] spDrawn := by
  obtain ⟨fd, F, b⟩ := T.F__law_drawn
  refine ⟨_, _, F.ok sc__law_drawn (fun vs H Q E h => ?_) (fun cdv A outer s H vs Q E hr h => ?_), T.g__law_drawn, F.kp, b⟩
  · obtain ⟨pd, c, l, B, ws, rfl, _⟩ := h; rfl
  · obtain ⟨pd, c, l, B, ws, rfl, hp, hB, hl, w0, w1, k⟩ := h
    refine ⟨_, (pss_cons (ps_set (i := 2) sc__law_drawn.nd rfl (by first | exact Or.inl rfl | exact Or.inr rfl) (pe_callC (c__law_draw T) hr (pa_cons (pv 0) (pa_cons pe_int pa_nil))))
  (pss_cons (ps_par (i := 3) (j := 4) (by rfl) sc__law_drawn.nd rfl rfl (by decide) rfl rfl (pa_cons (pe_callC (c__law_pick T) hr (pa_cons (pv 0) (pa_cons (pv 1) pa_nil))) (pa_cons (pe_callC (c__law_pick T) hr (pa_cons (pv 0) (pa_cons (pv 1) pa_nil))) pa_nil)) (by rfl))
  (pss_cons (ps_if (PW.pt (pw_or (pt_cmpR op_eq (pv 2) pe_int (by rfl)) (pw_or1 (PW.pt (pw_and (pt_cmpR op_eq (pv 2) pe_int (by rfl)) (pw_and1 (pt_cmpR op_eq (pv 3) (pv 4) (by rfl)))))))) (pss_one (ps_ret (pe_tup (pa_cons pe_str (pa_cons (pv 3) (pa_cons pe_non pa_nil)))))) pss_nil)
  (pss_cons (ps_if (pt_cmpR op_eq (pv 2) pe_int (by rfl)) (pss_one (ps_ret (pe_tup (pa_cons pe_str (pa_cons (pv 3) (pa_cons (pv 4) pa_nil)))))) pss_nil)
  (pss_cons (ps_if (pt_cmpR op_lt (pv 2) pe_int (by rfl)) (pss_one (ps_ret (pe_tup (pa_cons pe_str (pa_cons (pv 4) (pa_cons pe_non pa_nil)))))) pss_nil)
  (pss_one (ps_ret (pe_tup (pa_cons (pe_ix ix_list (pe_lst (pa_cons pe_str (pa_cons pe_str (pa_cons pe_str pa_nil)))) (pe_op op_mod (pe_callTy call_int1 (by rfl) T.n_int (by decide +kernel) (pa_cons (pe_op op_sub (pv 2) pe_int) pa_nil)) pe_int) (fun _ _ => rfl)) (pa_cons (pv 3) (pa_cons (pv 4) pa_nil))))))))))), ?_⟩
    obtain ⟨kv0, hd0⟩ := hp.dK
    walk_at "st"
    refine ⟨pd, c, B, _, rfl, hp, by omega, by decide, by decide, fun way H1 y0 y1 p1 kx1 => ?_⟩
    have hl1 := kx1.lst hd0 hl
    obtain ⟨kv1, hd1⟩ := p1.dK
    walk_at "st"
    refine ⟨pd, c, _, p1, by omega, .inl ⟨l, _, rfl, hl1, by rw [List.length_map]; exact w0, by rw [List.length_map]; omega, fun xv H2 hx p2 kx2 => ?_⟩⟩
    obtain ⟨x, hxm, rfl⟩ := List.mem_map.mp hx
    have hl2 := kx2.lst hd1 hl1
    obtain ⟨kv2, hd2⟩ := p2.dK
    walk_at "st"
    refine ⟨pd, c, _, p2, by omega, .inl ⟨l, _, rfl, hl2, by rw [List.length_map]; exact w0, by rw [List.length_map]; omega, fun yv H3 hy p3 kx3 => ?_⟩⟩
    obtain ⟨y, hym, rfl⟩ := List.mem_map.mp hy
    have kx3' := (kx1.trans kx2).trans kx3
    have out : ∀ {H4 : Hp} (kk f : Str) (sv : V), kk.length ≤ 1000 → f ∈ ws → (sv = .non ∨ ∃ y, y ∈ ws ∧ sv = .str y) → Ex H3 H4 → [V.str kk, V.str f, sv].length ≤ sizeLine ∧ ∀ p, H4 p = none → Q (.ref p) (upd H4 p (.tup [V.str kk, V.str f, sv])) := fun {H4} kk f sv h1 h2 h3 e4 =>
      ⟨by show 3 ≤ sizeLine; decide, fun p hp => k kk f sv p _ h1 h2 h3 upd_same ((p3.ex (e4.trans (Ex.new hp))).mono (by omega)) (kx3'.trans (Kx.of (e4.trans (Ex.new hp))))⟩
    have rest : tSeq (tIfS (tTest (tOp rEq (tVar 2) (tC (V.int 1)))) (tRet (tTup (tCons (tC (V.str "alike")) (tCons (tVar 3) (tCons (tVar 4) tNil))))) tNext)
        (tSeq (tIfS (tTest (tOp (rI0 fun i j => V.bl (decide (i < j))) (tVar 2) (tC (V.int 4)))) (tRet (tTup (tCons (tC (V.str "still")) (tCons (tVar 4) (tCons (tC V.non) tNil))))) tNext)
          (tRet (tTup (tCons (tOp (rIxL K) (tLst (tCons (tC (V.str "kept")) (tCons (tC (V.str "over")) (tCons (tC (V.str "undone")) tNil)))) (tOp (rI (fun x j => 0 < j) fun i j => V.int (i % j)) (tCB (fun xs H Q => (∃ i, xs = [V.int i] ∧ Q (V.int i) H) ∨ ∃ k, xs = [V.bl k] ∧ Q (V.int (if k = true then 1 else 0)) H) (tCons (tOp (rI0 fun i j => V.int (i - j)) (tVar 2) (tC (V.int 4))) tNil)) (tC (V.int 3)))) (tCons (tVar 3) (tCons (tVar 4) tNil)))))) { nx := fun x H' => Q V.non H', rt := Q } [some (.ref pd), some (.ref l), some (.int way), some (.str x), some (.str y)] H3 := by
      walk_at "st"
      refine ite2 (fun h => ?_) (fun h => ?_)
      · walk_at "st"
        exact out "alike" x (.str y) (by decide +kernel) hxm (.inr ⟨y, hym, rfl⟩) (Ex.refl _)
      · walk_at "st"
        refine ite2 (fun h2 => ?_) (fun h2 => ?_)
        · walk_at "st"
          exact out "still" y .non (by decide +kernel) hym (.inl rfl) (Ex.refl _)
        · walk_at "st"
          refine ⟨by show 3 ≤ sizeLine; decide, ?_⟩
          intro L hL
          have e4 := Ex.new (o := HO.lst [V.str "kept", V.str "over", V.str "undone"]) hL
          have h4 : upd H3 L (HO.lst [V.str "kept", V.str "over", V.str "undone"]) L = some (HO.lst [V.str "kept", V.str "over", V.str "undone"]) := upd_same
          generalize upd H3 L (HO.lst [V.str "kept", V.str "over", V.str "undone"]) = H4 at e4 h4 ⊢
          walk_at "st"
          refine rd_I (by show (0 : Int) < 3; decide) ?_
          have m3 := Int.emod_lt_of_pos (way - 4) (show (0 : Int) < 3 by decide)
          have n3 := Int.emod_nonneg (way - 4) (show (3 : Int) ≠ 0 by decide)
          obtain ⟨v, hv, _, hat⟩ := atI_int (xs := [V.str "kept", V.str "over", V.str "undone"]) n3 m3
          refine ⟨_, _, _, v, rfl, rfl, sq_of h4, hat, ?_⟩
          have hv' : ∃ kk : Str, v = .str kk ∧ kk.length ≤ 1000 := by
            simp only [List.mem_cons, List.not_mem_nil, or_false] at hv
            rcases hv with rfl | rfl | rfl
            all_goals exact ⟨_, rfl, by decide +kernel⟩
          obtain ⟨kk, rfl, lk⟩ := hv'
          walk_at "st"
          exact out kk x (.str y) lk hxm (.inr ⟨y, hym, rfl⟩) e4
    walk_at "st"
    refine ite2 (fun h => ?_) (fun h => ?_)
    · walk_at "st"
      exact out "idle" x .non (by decide +kernel) hxm (.inl rfl) (Ex.refl _)
    · walk_at "st"
      refine ite2 (fun h1 => ?_) (fun h1 => ?_)
      · walk_at "st"
        refine ite2 (fun h2 => ?_) (fun h2 => ?_)
        · walk_at "st"
          exact out "idle" x .non (by decide +kernel) hxm (.inl rfl) (Ex.refl _)
        · exact rd_next rest
      · exact rd_next rest
end


section
variable {P : Program} {w : World} {K : PySem.W.Frag} {mg : Str → Option Value} {base : Heap} {a : Ad}
theorem kd_kx {pd : Addr} {H H' : Hp} {v : V} (k : Kd H v) (e : Kx pd H H') (n : v ≠ .ref pd) : Kd H' v := by
  have ne : ∀ {b : Addr}, V.ref b ≠ V.ref pd → b ≠ pd := fun h q => h (by rw [q])
  cases k with
  | str z h => exact .str z h
  | non => exact .non
  | bl b => exact .bl b
  | int i => exact .int i
  | lst h => exact .lst (e _ _ (ne n) h)
  | tup h => exact .tup (e _ _ (ne n) h)
  | dK h => exact .dK (e _ _ (ne n) h)
def spOdd : Sp := fun vs H Q _ => ∃ (pd c l : Addr) (B : Nat) (ws : List Str), vs = [.ref pd, .ref l] ∧ PenK H pd c B ∧ B < 700000000 ∧ H l = some (.lst (ws.map V.str)) ∧ 0 < ws.length ∧ ws.length ≤ 100 ∧ (∀ z ∈ ws, z.length ≤ 20) ∧
  ∀ (x : V) (H' : Hp), Kd H' x → x ≠ .ref pd → PenK H' pd c (B + 3) → Kx pd H H' → Q x H'
theorem c__law_odd (T : Txt P K mg a) : Cal P w K mg base 3 "_law_odd" ["_law_pen_here", "_law_letters_here"] spOdd := by
  obtain ⟨fd, F, b⟩ := T.F__law_odd
  refine ⟨_, _, F.ok sc__law_odd (fun vs H Q E h => ?_) (fun cdv A outer s H vs Q E hr h => ?_), T.g__law_odd, F.kp, b⟩
  · obtain ⟨pd, c, l, B, ws, rfl, _⟩ := h; rfl
  · obtain ⟨pd, c, l, B, ws, rfl, hp, hB, hl, w0, w1, wl, k⟩ := h
    refine ⟨_, (pss_cons (ps_set (i := 2) sc__law_odd.nd rfl (by first | exact Or.inl rfl | exact Or.inr rfl) (pe_callC (c__law_pick T) hr (pa_cons (pv 0) (pa_cons (pv 1) pa_nil))))
  (pss_cons (ps_set (i := 3) sc__law_odd.nd rfl (by first | exact Or.inl rfl | exact Or.inr rfl) (pe_op op_add_str (pv 2) (pe_callC (c__law_pick T) hr (pa_cons (pv 0) (pa_cons pe_str pa_nil)))))
  (pss_cons (ps_set (i := 4) sc__law_odd.nd rfl (by first | exact Or.inl rfl | exact Or.inr rfl) (pe_lst (pa_cons pe_non (pa_cons pe_bl (pa_cons pe_int (pa_cons pe_int (pa_cons (pe_lst (pa_cons (pv 2) pa_nil)) (pa_cons (pe_tup (pa_cons (pv 2) pa_nil)) (pa_cons (pe_disp (pps_cons (pv 2) (pv 2) pps_nil) (by rfl) (by rfl) (fun z => by cases z) (by decide)) (pa_cons pe_str (pa_cons pe_str (pa_cons pe_str (pa_cons (pv 3) (pa_cons (pe_slice sl_str (pv 2) (po_some pe_int) po_none) (pa_cons (pe_upper (pv 2)) (pa_cons (pe_op op_add_str pe_str (pv 2)) pa_nil))))))))))))))))
  (pss_cons (ps_setLc (own := [("_law_value", 6)]) (i := 5) (by rfl) sc__law_odd.nd rfl rfl (sw_true rfl rfl rfl (by decide +kernel)) (pi_list (pv 4)) (blkOk_by (own := [("_law_value", 6)]) (N := N__law_odd) (sc := defScope s__law_odd) (by decide +kernel)) (fun _ _ _ _ _ => (pg_name (i := 6) sc__law_odd.nd rfl (by first | exact Or.inl rfl | exact Or.inr rfl))) (fun _ _ _ _ _ => pts_one (pt_not (PW.pt (pw_and (pt_val (pe_callB (call_isiK' (K := K)) (by rfl) T.n_isinstance (by decide +kernel) (pa_cons (pv 6) (pa_cons (pe_bty "str" T.n_str (by decide +kernel)) pa_nil)))) (pw_and1 (pt_cmpR (op_in_seqK (K := K)) (pv 6) (pv 1) (by rfl))))))) (fun _ _ _ _ _ => (pv 6)))
  (pss_one (ps_ret (pe_callC (c__law_pick T) hr (pa_cons (pv 0) (pa_cons (pv 5) pa_nil))))))))), ?_⟩
    obtain ⟨kv0, hd0⟩ := hp.dK
    walk_at "st"
    refine ⟨pd, c, _, hp, by omega, .inl ⟨l, _, rfl, hl, by rw [List.length_map]; exact w0, by rw [List.length_map]; omega, fun xv H1 hx p1 kx1 => ?_⟩⟩
    obtain ⟨one, hom, rfl⟩ := List.mem_map.mp hx
    have l1 := wl one hom
    have hl1 := kx1.lst hd0 hl
    obtain ⟨kv1, hd1⟩ := p1.dK
    walk_at "st"
    refine ⟨pd, c, _, p1, by omega, .inr ⟨_, rfl, by decide +kernel, by decide +kernel, fun d H2 hd p2 kx2 => ?_⟩⟩
    refine rd_strs (by rw [one_len]; omega) ?_
    have hl2 := kx2.lst hd1 hl1
    have lg : (one ++ ⟨#[d]⟩ : Str).length ≤ 1000 := by rw [app_len, one_len]; omega
    generalize (one ++ ⟨#[d]⟩ : Str) = longer at lg ⊢
    walk_at "st"
    refine ⟨by show 1 ≤ sizeLine; decide, ?_⟩
    intro ol hol
    have e3 := Ex.new (o := HO.lst [V.str one]) hol
    have h3 : upd H2 ol (HO.lst [V.str one]) ol = some (HO.lst [V.str one]) := upd_same
    generalize upd H2 ol (HO.lst [V.str one]) = H3 at e3 h3 ⊢
    walk_at "st"
    refine ⟨by show 1 ≤ sizeLine; decide, ?_⟩
    intro ot hot
    have e4 := Ex.new (o := HO.tup [V.str one]) hot
    have h4 : upd H3 ot (HO.tup [V.str one]) ot = some (HO.tup [V.str one]) := upd_same
    generalize upd H3 ot (HO.tup [V.str one]) = H4 at e4 h4 ⊢
    walk_at "st"
    intro od hod
    have e5 : Ex H4 (upd H4 od (.dK [])) := Ex.new hod
    refine ⟨V.str one, rfl, V.str one, rfl, upd_same, [(Sum.inr one, V.str one)], rfl, by show 1 ≤ 15; decide, ?_⟩
    have ed : Ex H4 (upd (upd H4 od (.dK [])) od (.dK (mergeK [] [(Sum.inr one, V.str one)]))) := fun b o h => by rw [upd_ne (ne_of_none h hod), upd_ne (ne_of_none h hod)]; exact h
    have h5 : upd (upd H4 od (.dK [])) od (.dK (mergeK [] [(Sum.inr one, V.str one)])) od = some (.dK (mergeK [] [(Sum.inr one, V.str one)])) := upd_same
    generalize upd (upd H4 od (.dK [])) od (.dK (mergeK [] [(Sum.inr one, V.str one)])) = H5 at ed h5 ⊢
    generalize mergeK [] [((Sum.inr one : Key), V.str one)] = dk at h5
    dsimp only
    walk_at "st"
    refine rd_slS (by omega) ?_
    have cl := cutS_length one (some 1) none
    walk_at "st"
    refine ⟨V.str one, rfl, ⟨one, rfl⟩, one, rfl, rfl, by omega, ?_⟩
    have ul := PyProof.Rows.len_upper one
    walk_at "st"
    refine rd_strs (by rw [tilde_len]; omega) ?_
    have tl : ("~" ++ one : Str).length ≤ 1000 := by rw [app_len, tilde_len]; omega
    generalize ("~" ++ one : Str) = tone at tl ⊢
    generalize Txt.upper one = up at ul ⊢
    generalize cutS one (some 1) none = co at cl ⊢
    walk_at "st"
    refine ⟨by show 14 ≤ sizeLine; decide, ?_⟩
    intro oi hoi
    have e6 := Ex.new (o := HO.lst [V.non, V.bl true, V.int 0, V.int 1, V.ref ol, V.ref ot, V.ref od, V.str "", V.str "new", V.str "found", V.str longer, V.str co, V.str up, V.str tone]) hoi
    have h6 : upd H5 oi (HO.lst [V.non, V.bl true, V.int 0, V.int 1, V.ref ol, V.ref ot, V.ref od, V.str "", V.str "new", V.str "found", V.str longer, V.str co, V.str up, V.str tone]) oi = some (HO.lst [V.non, V.bl true, V.int 0, V.int 1, V.ref ol, V.ref ot, V.ref od, V.str "", V.str "new", V.str "found", V.str longer, V.str co, V.str up, V.str tone]) := upd_same
    generalize upd H5 oi (HO.lst [V.non, V.bl true, V.int 0, V.int 1, V.ref ol, V.ref ot, V.ref od, V.str "", V.str "new", V.str "found", V.str longer, V.str co, V.str up, V.str tone]) = H6 at e6 h6 ⊢
    have e26 : Ex H2 H6 := ((e3.trans e4).trans ed).trans e6
    have items : ∀ {H' : Hp}, Ex H6 H' → ∀ v ∈ [V.non, V.bl true, V.int 0, V.int 1, V.ref ol, V.ref ot, V.ref od, V.str "", V.str "new", V.str "found", V.str longer, V.str co, V.str up, V.str tone], Kd H' v := fun {H'} e v hv => by
      simp only [List.mem_cons, List.not_mem_nil, or_false] at hv
      rcases hv with rfl | rfl | rfl | rfl | rfl | rfl | rfl | rfl | rfl | rfl | rfl | rfl | rfl | rfl
      · exact .non
      · exact .bl _
      · exact .int _
      · exact .int _
      · exact .lst (e _ _ (e6 _ _ (ed _ _ (e4 _ _ h3))))
      · exact .tup (e _ _ (e6 _ _ (ed _ _ h4)))
      · exact .dK (e _ _ (e6 _ _ h5))
      · exact .str _ (by decide +kernel)
      · exact .str _ (by decide +kernel)
      · exact .str _ (by decide +kernel)
      · exact .str _ lg
      · exact .str _ (by omega)
      · exact .str _ (by omega)
      · exact .str _ tl
    have hl6 := e26 _ _ hl2
    obtain ⟨kv2, hd2⟩ := p2.dK
    have nref : ∀ v ∈ [V.non, V.bl true, V.int 0, V.int 1, V.ref ol, V.ref ot, V.ref od, V.str "", V.str "new", V.str "found", V.str longer, V.str co, V.str up, V.str tone], v ≠ V.ref pd := fun v hv => by
      simp only [List.mem_cons, List.not_mem_nil, or_false] at hv
      have n1 : ol ≠ pd := (ne_of_none hd2 hol).symm
      have n2 : ot ≠ pd := (ne_of_none (e3 _ _ hd2) hot).symm
      have n3 : od ≠ pd := (ne_of_none (e4 _ _ (e3 _ _ hd2)) hod).symm
      rcases hv with rfl | rfl | rfl | rfl | rfl | rfl | rfl | rfl | rfl | rfl | rfl | rfl | rfl | rfl
      all_goals intro q; first | exact n1 (V.ref.inj q) | exact n2 (V.ref.inj q) | exact n3 (V.ref.inj q) | cases q
    generalize hI : [V.non, V.bl true, V.int 0, V.int 1, V.ref ol, V.ref ot, V.ref od, V.str "", V.str "new", V.str "found", V.str longer, V.str co, V.str up, V.str tone] = its at h6 items nref
    have i0 : its[0]? = some V.non := by rw [← hI]; rfl
    have il : its.length = 14 := by rw [← hI]; rfl
    walk_at "st"
    refine rd_lcYl (J := Itl K oi) (H1 := H6) (fun R r => ⟨_, rfl, oi, rfl, ⟨_, sq_of h6⟩, r⟩) (yl_list its) (fun D i H' => H6 D = none ∧ ∃ fs : List V, H' D = some (.lst fs) ∧ (∀ v ∈ fs, v ∈ its) ∧ (0 < i → 0 < fs.length) ∧ fs.length ≤ i ∧ Ex H6 H') (fun D i H' _ p => let ⟨_, _, _, _, _, _, e⟩ := p; sq_of (e _ _ h6)) (fun D hD => ⟨hD, [], upd_same, (fun v hv => by cases hv), (fun h => absurd h (Nat.lt_irrefl _)), Nat.le_refl _, Ex.new hD⟩) (fun D i x H7 H8 hi p e yy => ?_) (fun D H7 p => ?_)
    · obtain ⟨hD, fs, g1, g2, g3, g4, e7⟩ := p
      refine ⟨rfl, ?_⟩
      have e8 := e7.trans e
      have kd := items e8 x (List.mem_of_getElem? yy)
      have yes : ∃ acc, H8 D = some (.lst acc) ∧ acc.length < sizeLine ∧ (H6 D = none ∧ ∃ fs : List V, upd H8 D (.lst (acc ++ [x])) D = some (.lst fs) ∧ (∀ v ∈ fs, v ∈ its) ∧ (0 < i + 1 → 0 < fs.length) ∧ fs.length ≤ i + 1 ∧ Ex H6 (upd H8 D (.lst (acc ++ [x])))) := by
        refine ⟨fs, e _ _ g1, Nat.lt_of_le_of_lt (show _ ≤ 100 by omega) (by decide), hD, fs ++ [x], upd_same, fun v hv => ?_, fun _ => by simp, by simp; omega, Ex.mut e8 hD⟩
        rcases List.mem_append.mp hv with h | h
        · exact g2 v h
        · rw [List.mem_singleton] at h; subst h; exact List.mem_of_getElem? yy
      walk_at "st"
      refine rd_isiKd kd ?_
      walk_at "st"
      cases hs : isStrV x with
      | false =>
        walk_at "st"
        exact yes
      | true =>
        obtain ⟨z, rfl⟩ := isStrV_iff.mp hs
        walk_at "st"
        refine ⟨_, _, rfl, .inl (sq_of (e8 _ _ hl6)), rfl, flat_strs _, ?_⟩
        rw [inV_strs, if_neg Bool.false_ne_true]
        walk_at "st"
        by_cases hz : z ∈ ws
        · rw [decide_eq_true hz]
          walk_at "st"
          have ipos : 0 < i := by
            rcases Nat.eq_zero_or_pos i with h | h
            · subst h; rw [i0] at yy; cases yy
            · exact h
          exact ⟨hD, fs, e _ _ g1, g2, fun _ => g3 ipos, by omega, e8⟩
        · rw [decide_eq_false hz]
          walk_at "st"
          exact yes
    · obtain ⟨hD, fs, g1, g2, g3, g4, e7⟩ := p
      walk_at "st"
      refine ⟨pd, c, _, p2.ex (e26.trans e7), by omega, .inl ⟨D, fs, rfl, g1, g3 (by omega), by omega, fun x H8 hx p8 kx8 => ?_⟩⟩
      exact k x H8 (kd_kx (items e7 x (g2 x hx)) kx8 (nref x (g2 x hx))) (nref x (g2 x hx)) p8 (((kx1.trans kx2).trans (Kx.of (e26.trans e7))).trans kx8)
end


section
variable {P : Program} {w : World} {K : PySem.W.Frag} {mg : Str → Option Value} {base : Heap} {a : Ad}
/-- the answer that tells the error n -/
def dueT : Nat → List V
  | 1 => [.str "kind"]
  | 2 => [.str "letter", .int 0]
  | 3 => [.str "letter", .int 1]
  | _ => [.str "nothing"]
def DueV (H : Hp) (v : V) (n : Nat) : Prop := (n = 0 ∧ v = .non) ∨ (n ≠ 0 ∧ ∃ p, v = .ref p ∧ H p = some (.tup (dueT n)))
def spDue : Sp := fun vs H Q _ => ∃ (l : Addr) (ws : List Str) (kv fv sv : V), vs = [.ref l, kv, fv, sv] ∧ H l = some (.lst (ws.map V.str)) ∧ Kd H kv ∧ Kd H fv ∧ Kd H sv ∧ ∀ v H', Ex H H' → DueV H' v (senDue ws kv fv sv) → Q v H'
theorem c__law_due (T : Txt P K mg a) : Cal P w K mg base 1 "_law_due" ["_law_letters_here", "_law_kind", "_law_first", "_law_second"] spDue := by
  obtain ⟨fd, F, b⟩ := T.F__law_due
  refine ⟨_, _, F.ok sc__law_due (fun vs H Q E h => ?_) (fun cdv A outer s H vs Q E hr h => ?_), T.g__law_due, F.kp, b⟩
  · obtain ⟨l, ws, kv, fv, sv, rfl, _⟩ := h; rfl
  · obtain ⟨l, ws, kv, fv, sv, rfl, hl, dk, df, ds, q⟩ := h
    refine ⟨_, (pss_cons (ps_if (PW.pt (pw_or (pt_not (pt_val (pe_callB call_isi (by rfl) T.n_isinstance (by decide +kernel) (pa_cons (pv 1) (pa_cons (pe_bty "str" T.n_str (by decide +kernel)) pa_nil))))) (pw_or1 (pt_cmpR op_notIn_seq (pv 1) (pe_tup (pa_cons pe_str (pa_cons pe_str (pa_cons pe_str (pa_cons pe_str (pa_cons pe_str (pa_cons pe_str pa_nil))))))) (by rfl))))) (pss_one (ps_ret (pe_tup (pa_cons pe_str pa_nil)))) pss_nil)
  (pss_cons (ps_if (PW.pt (pw_or (pt_not (pt_val (pe_callB call_isi (by rfl) T.n_isinstance (by decide +kernel) (pa_cons (pv 2) (pa_cons (pe_bty "str" T.n_str (by decide +kernel)) pa_nil))))) (pw_or1 (pt_cmpR op_notIn_seq (pv 2) (pv 0) (by rfl))))) (pss_one (ps_ret (pe_tup (pa_cons pe_str (pa_cons pe_int pa_nil))))) pss_nil)
  (pss_cons (ps_if (pt_cmpR op_in_seq (pv 1) (pe_tup (pa_cons pe_str (pa_cons pe_str pa_nil))) (by rfl)) (pss_one (ps_ret (pe_ifExp (pt_cmpR op_isN (pv 3) pe_non (by rfl)) pe_non (pe_tup (pa_cons pe_str (pa_cons pe_int pa_nil)))))) pss_nil)
  (pss_cons (ps_if (PW.pt (pw_or (pt_not (pt_val (pe_callB call_isi (by rfl) T.n_isinstance (by decide +kernel) (pa_cons (pv 3) (pa_cons (pe_bty "str" T.n_str (by decide +kernel)) pa_nil))))) (pw_or1 (pt_cmpR op_notIn_seq (pv 3) (pv 0) (by rfl))))) (pss_one (ps_ret (pe_tup (pa_cons pe_str (pa_cons pe_int pa_nil))))) pss_nil)
  (pss_one (ps_ret (pe_ifExp (PW.pt (pw_and (pt_cmpR op_eq (pv 1) pe_str (by rfl)) (pw_and1 (pt_cmpR op_eq (pv 2) (pv 3) (by rfl))))) (pe_tup (pa_cons pe_str pa_nil)) pe_non))))))), ?_⟩
    have tell : ∀ {H1 : Hp} (n : Nat), n ≠ 0 → senDue ws kv fv sv = n → Ex H H1 → (dueT n).length ≤ sizeLine ∧ ∀ p, H1 p = none → Q (.ref p) (upd H1 p (.tup (dueT n))) := fun {H1} n h0 hn e =>
      ⟨by unfold dueT; split <;> decide, fun p hp => q _ _ (e.trans (Ex.new hp)) (by rw [hn]; exact .inr ⟨h0, p, rfl, upd_same⟩)⟩
    have strOf : ∀ {v : V} {zs : List Str}, inWs v zs = true → ∃ z, v = V.str z := fun {v zs} h => isStrV_iff.mp (by cases hv : isStrV v with | true => rfl | false => rw [inWs_not hv] at h; cases h)
    walk_at "st"
    refine rd_isiKd dk ?_
    walk_at "st"
    cases hs : isStrV kv with
    | false =>
      walk_at "st"
      exact tell 1 (by decide) (by simp [senDue, inWs_not hs]) (Ex.refl _)
    | true =>
    obtain ⟨k, rfl⟩ := isStrV_iff.mp hs
    walk_at "st"
    refine ⟨by show 6 ≤ sizeLine; decide, ?_⟩
    intro t1 ht1
    have e1 := Ex.new (o := HO.tup [V.str "idle", V.str "kept", V.str "still", V.str "over", V.str "undone", V.str "alike"]) ht1
    have h1 : upd H t1 (HO.tup [V.str "idle", V.str "kept", V.str "still", V.str "over", V.str "undone", V.str "alike"]) t1 = some (HO.tup [V.str "idle", V.str "kept", V.str "still", V.str "over", V.str "undone", V.str "alike"]) := upd_same
    generalize upd H t1 (HO.tup [V.str "idle", V.str "kept", V.str "still", V.str "over", V.str "undone", V.str "alike"]) = H1 at e1 h1 ⊢
    refine ⟨_, _, rfl, .inr (st_of h1), rfl, rfl, ?_⟩
    rw [if_pos rfl, show inV (V.str k) [V.str "idle", V.str "kept", V.str "still", V.str "over", V.str "undone", V.str "alike"] = inWs (.str k) kinds from inV_strs k kinds]
    walk_at "st"
    cases c1 : inWs (V.str k) kinds with
    | false =>
      walk_at "st"
      exact tell 1 (by decide) (by simp [senDue, c1]) e1
    | true =>
    walk_at "st"
    refine rd_isiKd (df.ex e1) ?_
    walk_at "st"
    cases hs2 : isStrV fv with
    | false =>
      walk_at "st"
      exact tell 2 (by decide) (by simp [senDue, c1, inWs_not hs2]) e1
    | true =>
    obtain ⟨f, rfl⟩ := isStrV_iff.mp hs2
    walk_at "st"
    refine ⟨_, _, rfl, .inl (sq_of (e1 _ _ hl)), rfl, flat_strs _, ?_⟩
    rw [if_pos rfl, inV_strs, show decide (f ∈ ws) = inWs (.str f) ws from rfl]
    walk_at "st"
    cases c2 : inWs (V.str f) ws with
    | false =>
      walk_at "st"
      exact tell 2 (by decide) (by simp [senDue, c1, c2]) e1
    | true =>
    walk_at "st"
    refine ⟨by show 2 ≤ sizeLine; decide, ?_⟩
    intro t2 ht2
    have e2 := Ex.new (o := HO.tup [V.str "idle", V.str "still"]) ht2
    have h2 : upd H1 t2 (HO.tup [V.str "idle", V.str "still"]) t2 = some (HO.tup [V.str "idle", V.str "still"]) := upd_same
    generalize upd H1 t2 (HO.tup [V.str "idle", V.str "still"]) = H2 at e2 h2 ⊢
    have e12 := e1.trans e2
    refine ⟨_, _, rfl, .inr (st_of h2), rfl, rfl, ?_⟩
    rw [if_neg Bool.false_ne_true, show inV (V.str k) [V.str "idle", V.str "still"] = inWs (.str k) single from inV_strs k single]
    walk_at "st"
    cases cs : inWs (V.str k) single with
    | true =>
      have n1 : ¬ (V.str k = V.str "alike") := fun e => by rw [e] at cs; exact absurd cs (by decide +kernel)
      walk_at "st"
      by_cases hn : sv = .non
      · rw [decide_eq_true hn]
        walk_at "st"
        exact q _ _ e12 (.inl ⟨by simp [senDue, c1, c2, badSecond, cs, hn, n1], rfl⟩)
      · rw [decide_eq_false hn]
        walk_at "st"
        exact tell 3 (by decide) (by simp [senDue, c1, c2, badSecond, cs, hn]) e12
    | false =>
    walk_at "st"
    refine rd_isiKd (ds.ex e12) ?_
    walk_at "st"
    cases hs3 : isStrV sv with
    | false =>
      walk_at "st"
      exact tell 3 (by decide) (by simp [senDue, c1, c2, badSecond, cs, inWs_not hs3]) e12
    | true =>
    obtain ⟨y, rfl⟩ := isStrV_iff.mp hs3
    walk_at "st"
    refine ⟨_, _, rfl, .inl (sq_of (e12 _ _ hl)), rfl, flat_strs _, ?_⟩
    rw [if_pos rfl, inV_strs, show decide (y ∈ ws) = inWs (.str y) ws from rfl]
    walk_at "st"
    cases c3 : inWs (V.str y) ws with
    | false =>
      walk_at "st"
      exact tell 3 (by decide) (by simp [senDue, c1, c2, badSecond, cs, c3]) e12
    | true =>
    have b3 : badSecond ws (.str k) (.str y) = false := by simp [badSecond, cs, c3]
    have sd : senDue ws (.str k) (.str f) (.str y) = if V.str k = V.str "alike" ∧ V.str f = V.str y then 4 else 0 := by
      unfold senDue; rw [if_neg (by rw [c1]; simp), if_neg (by rw [c2]; simp), if_neg (by rw [b3]; simp)]
    walk_at "st"
    by_cases ka : V.str k = V.str "alike"
    · rw [decide_eq_true ka]
      walk_at "st"
      by_cases fy : V.str f = V.str y
      · rw [decide_eq_true fy]
        walk_at "st"
        exact tell 4 (by decide) (by rw [sd, if_pos ⟨ka, fy⟩]) e12
      · rw [decide_eq_false fy]
        walk_at "st"
        exact q _ _ e12 (.inl ⟨by rw [sd, if_neg (fun h => fy h.2)], rfl⟩)
    · rw [decide_eq_false ka]
      walk_at "st"
      exact q _ _ e12 (.inl ⟨by rw [sd, if_neg (fun h => ka h.1)], rfl⟩)
end


section
variable {P : Program} {w : World} {K : PySem.W.Frag} {mg : Str → Option Value} {base : Heap} {a : Ad}
theorem mk_let {H : Hp} {l : Addr} {ws : List Str} {R : Addr → Hp → Prop} (h : H l = some (.lst (ws.map V.str))) (O : LetOk ws) (q : ∀ x H', H x = none → Ex H H' → LetAt a H' x ws → R x H') :
    ∀ x dx, H x = none → H dx = none → dx ≠ x → spLetInit a [.ref x, .ref l] (upd (upd H dx (.own x)) x (.ins a.Letters dx [])) (fun v H2 => v = .non ∧ R x H2) E0 := by
  intro x dx hx hdx ne
  have e0 : Ex H (upd (upd H dx (.own x)) x (.ins a.Letters dx [])) := fun b o h => by rw [upd_ne (ne_of_none h hx), upd_ne (ne_of_none h hdx)]; exact h
  refine ⟨x, dx, l, ws, rfl, upd_same, e0 _ _ h, O, fun t o H' ht ho h1 h2 kx => ⟨rfl, q x H' hx (fun b o h => kx b o (ne_of_none h hx) (e0 b o h)) ⟨dx, t, o, h2, h1, ho, O.so⟩⟩⟩
theorem kinds_so : ∀ k ∈ kinds, PyData.strOk k = true := by decide +kernel
theorem row_data {ws : List Str} {k f : Str} {sv : V} (hk : k ∈ kinds) (hf : f ∈ ws) (hs : sv = .non ∨ ∃ y, y ∈ ws ∧ sv = .str y) (so : ∀ x ∈ ws, PyData.strOk x = true) : ∃ ds, (∀ H, DpAll K H [.str k, .str f, sv] ds) ∧ SeqAt.shaped (.tuple ds) = true ∧ PyData.eqv (.tuple ds) (.tuple ds) = true := by
  have o1 := kinds_so k hk
  have o2 := so f hf
  rcases hs with rfl | ⟨y, hy, rfl⟩
  · refine ⟨[.str k, .str f, .none], fun H => .cons (.str _) (.cons (.str _) (.cons .non .nil)), ?_, ?_⟩
    · simp [SeqAt.shaped, PyData.canLay0, PyData.canLayAll0, PyData.depth, PyData.depthAll, o1, o2]
    · simp [PyData.eqv, PyData.eqvAll]
  · have o3 := so y hy
    refine ⟨[.str k, .str f, .str y], fun H => .cons (.str _) (.cons (.str _) (.cons (.str _) .nil)), ?_, ?_⟩
    · simp [SeqAt.shaped, PyData.canLay0, PyData.canLayAll0, PyData.depth, PyData.depthAll, o1, o2, o3]
    · simp [PyData.eqv, PyData.eqvAll]
/-- what an error that is not due leaves -/
theorem due0 {ws : List Str} {kv fv sv : V} (h : senDue ws kv fv sv = 0) : ∃ k f, kv = .str k ∧ fv = .str f ∧ k ∈ kinds ∧ f ∈ ws ∧ ((sv = .non ∧ k ∈ single) ∨ (k ∉ single ∧ ∃ y, sv = .str y ∧ y ∈ ws)) := by
  have so : ∀ {v : V} {zs : List Str}, inWs v zs = true → ∃ z, v = V.str z ∧ z ∈ zs := fun {v zs} h => by
    cases v with
    | str z => exact ⟨z, rfl, of_decide_eq_true h⟩
    | _ => cases h
  unfold senDue at h
  by_cases c1 : inWs kv kinds = false
  · rw [if_pos c1] at h; cases h
  by_cases c2 : inWs fv ws = false
  · rw [if_neg c1, if_pos c2] at h; cases h
  by_cases c3 : badSecond ws kv sv = true
  · rw [if_neg c1, if_neg c2, if_pos c3] at h; cases h
  obtain ⟨k, rfl, hk⟩ := so (by simpa using c1 : inWs kv kinds = true)
  obtain ⟨f, rfl, hf⟩ := so (by simpa using c2 : inWs fv ws = true)
  refine ⟨k, f, rfl, rfl, hk, hf, ?_⟩
  unfold badSecond at c3
  cases cs : inWs (V.str k) single with
  | true =>
    rw [cs, if_pos rfl] at c3
    exact .inl ⟨by simpa using c3, of_decide_eq_true cs⟩
  | false =>
    rw [cs, if_neg Bool.false_ne_true] at c3
    obtain ⟨y, rfl, hy⟩ := so (by simpa using c3 : inWs sv ws = true)
    exact .inr ⟨of_decide_eq_false cs, y, rfl, hy⟩
theorem norm_ok {ws : List Str} {k f : Str} {sv : V} (hk : k ∈ kinds) (hf : f ∈ ws) (hs : sv = .non ∨ ∃ y, y ∈ ws ∧ sv = .str y) : (senNorm ws k f sv).1 ∈ kinds ∧ (senNorm ws k f sv).2.1 ∈ ws ∧ ((senNorm ws k f sv).2.2 = .non ∨ ∃ y, y ∈ ws ∧ (senNorm ws k f sv).2.2 = .str y) := by
  rcases hs with rfl | ⟨y, hy, rfl⟩
  · exact ⟨hk, hf, .inl rfl⟩
  · unfold senNorm
    dsimp only
    split
    · exact ⟨hk, hy, .inr ⟨f, hf, rfl⟩⟩
    · split
      · exact ⟨(by decide +kernel : ("kept" : Str) ∈ kinds), hf, .inr ⟨y, hy, rfl⟩⟩
      · exact ⟨hk, hf, .inr ⟨y, hy, rfl⟩⟩
def spTold : Sp := fun vs H Q _ => ∃ (l : Addr) (ws : List Str) (kv fv sv : V), vs = [.ref l, kv, fv, sv] ∧ H l = some (.lst (ws.map V.str)) ∧ LetOk ws ∧ Kd H kv ∧ Kd H fv ∧ Kd H sv ∧ ∀ v H', Ex H H' → DueV H' v (senDue ws kv fv sv) → Q v H'
theorem c__law_told (T : Txt P K mg a) : Cal P w K mg base 7 "_law_told" ["_law_letters_here", "_law_kind", "_law_first", "_law_second"] spTold := by
  obtain ⟨fd, F, b⟩ := T.F__law_told
  refine ⟨_, _, F.ok sc__law_told (fun vs H Q E h => ?_) (fun cdv A outer s H vs Q E hr h => ?_), T.g__law_told, F.kp, b⟩
  · obtain ⟨l, ws, kv, fv, sv, rfl, _⟩ := h; rfl
  · obtain ⟨l, ws, kv, fv, sv, rfl, hl, O, dk, df, ds, q⟩ := h
    refine ⟨_, (pss_cons (ps_try_asM rfl rfl sc__law_told.nd takes_none5 (fun W pn xe tk pw => (pss_one (ps_set (i := 6) sc__law_told.nd rfl (by first | exact Or.inl rfl | exact Or.inr rfl) (pe_makeX (c_Sentence T) hr tk (pa_cons (pe_makeC (c_Letters T) hr (pa_cons (pv 0) pa_nil)) (pa_cons (pv 1) (pa_cons (pv 2) (pa_cons (pv 3) pa_nil))))))))
    (HdsA.consN ⟨by rfl, by decide, .inl T.g_BadKind⟩ (fun xa oe cls d pn hz hd => (pss_one (ps_ret (pe_tup (pa_cons pe_str pa_nil))))) (HdsA.cons (i := 4) ⟨by rfl, by decide, .inl T.g_BadLetter⟩ rfl rfl (fun xa oe cls d pn hz hd => (pss_one (ps_ret (pe_tup (pa_cons pe_str (pa_cons (pe_xf T.xf_BadLetter T.na_BadLetter_index hz hd (pv 4)) pa_nil)))))) (HdsA.consN ⟨by rfl, by decide, .inl T.g_SaysNothing⟩ (fun xa oe cls d pn hz hd => (pss_one (ps_ret (pe_tup (pa_cons pe_str pa_nil))))) HdsA.nil))))
  (pss_cons (ps_set (i := 5) sc__law_told.nd rfl (by first | exact Or.inl rfl | exact Or.inr rfl) (pe_callC (c__law_normal T) hr (pa_cons (pv 0) (pa_cons (pe_tup (pa_cons (pv 1) (pa_cons (pv 2) (pa_cons (pv 3) pa_nil)))) pa_nil))))
  (pss_one (ps_ret (pe_ifExp (pt_cmpR (op_eqD hr.units) (pe_callC (c__law_triple T) hr (pa_cons (pv 6) pa_nil)) (pv 5) (by rfl)) pe_non (pe_tup (pa_cons pe_str pa_nil))))))), ?_⟩
    walk_at "st"
    refine rd_makeW ?_
    walk_at "st"
    refine mk_let hl O (fun lp H1 hlp e1 L1 => ?_)
    walk_at "st"
    intro x dx hx hdx ne
    have e0 : Ex H1 (upd (upd H1 dx (.own x)) x (.ins a.Sentence dx [])) := fun b o h => by rw [upd_ne (ne_of_none h hx), upd_ne (ne_of_none h hdx)]; exact h
    have e01 := e1.trans e0
    have tell : ∀ {H2 : Hp} (n : Nat), n ≠ 0 → senDue ws kv fv sv = n → Ex H H2 → (dueT n).length ≤ sizeLine ∧ ∀ p, H2 p = none → Q (.ref p) (upd H2 p (.tup (dueT n))) := fun {H2} n h0 hn e =>
      ⟨by unfold dueT; split <;> decide, fun p hp => q _ _ (e.trans (Ex.new hp)) (by rw [hn]; exact .inr ⟨h0, p, rfl, upd_same⟩)⟩
    refine ⟨x, dx, lp, ws, kv, fv, sv, rfl, upd_same, L1.ex e0, O.short, dk.ex e01, df.ex e01, ds.ex e01, ⟨?_, ?_, ?_, ?_⟩, ?_⟩
    · intro hn
      refine ⟨true, T.em_BadKind_BadKind, fun _ ea hea => ?_, fun h => by cases h⟩
      walk_at "st"
      exact tell 1 (by decide) hn e01
    · intro hn d H' hd e h
      refine ⟨false, T.em_BadLetter_BadKind, (fun h => by cases h), fun _ => ⟨true, T.em_BadLetter_BadLetter, fun _ ea hea => ?_, fun h => by cases h⟩⟩
      walk_at "st"
      refine ⟨_, rfl, rfl, rfl, d, _, _, rfl, h, rfl, ?_⟩
      walk_at "st"
      exact tell 2 (by decide) hn (e01.trans e)
    · intro hn d H' hd e h
      refine ⟨false, T.em_BadLetter_BadKind, (fun h => by cases h), fun _ => ⟨true, T.em_BadLetter_BadLetter, fun _ ea hea => ?_, fun h => by cases h⟩⟩
      walk_at "st"
      refine ⟨_, rfl, rfl, rfl, d, _, _, rfl, h, rfl, ?_⟩
      walk_at "st"
      exact tell 3 (by decide) hn (e01.trans e)
    · intro hn
      refine ⟨false, T.em_SaysNothing_BadKind, (fun h => by cases h), fun _ => ⟨false, T.em_SaysNothing_BadLetter, (fun h => by cases h), fun _ => ⟨true, T.em_SaysNothing_SaysNothing, fun _ ea hea => ?_, fun h => by cases h⟩⟩⟩
      walk_at "st"
      exact tell 4 (by decide) hn e01
    · intro d0 k f H2 ek ef h2 kx2
      subst ek ef
      obtain ⟨_, _, q1, q2, hk, hf, hs⟩ := due0 d0
      cases q1
      cases q2
      have hs' : sv = .non ∨ ∃ y, y ∈ ws ∧ sv = .str y := by
        rcases hs with ⟨h, _⟩ | ⟨_, y, h, hy⟩
        · exact .inl h
        · exact .inr ⟨y, hy, h⟩
      have e2 : Ex H H2 := e1.trans fun b o h => kx2 b o (ne_of_none h hx) (e0 b o h)
      have nk := norm_ok hk hf hs'
      obtain ⟨dd, hdd, sh, eq⟩ := row_data (K := K) nk.1 nk.2.1 nk.2.2 O.so
      refine ⟨rfl, ?_⟩
      walk_at "st"
      refine ⟨by show 3 ≤ sizeLine; decide, ?_⟩
      intro t ht
      have e3 := Ex.new (o := HO.tup [V.str k, V.str f, sv]) ht
      have h3 : upd H2 t (HO.tup [V.str k, V.str f, sv]) t = some (HO.tup [V.str k, V.str f, sv]) := upd_same
      generalize upd H2 t (HO.tup [V.str k, V.str f, sv]) = H3 at e3 h3 ⊢
      walk_at "st"
      refine ⟨l, t, ws, k, f, sv, rfl, e3 _ _ (e2 _ _ hl), h3, hf, ?_, fun p H4 e4 h4 => ?_⟩
      · rcases hs with ⟨h, hk2⟩ | ⟨_, y, h, hy⟩
        · exact .inl ⟨h, fun q => by rw [q] at hk2; exact absurd hk2 (by decide +kernel), fun q => by rw [q] at hk2; exact absurd hk2 (by decide +kernel)⟩
        · exact .inr ⟨y, h, hy⟩
      walk_at "st"
      refine ⟨x, dx, lp, _, rfl, e4 _ _ (e3 _ _ h2), fun p2 H5 e5 h5 => ?_⟩
      walk_at "st"
      refine ⟨_, _, .tup (st_of h5) (hdd _), .tup (st_of (e5 _ _ h4)) (hdd _), sh, sh, ?_⟩
      rw [eq]
      walk_at "st"
      exact q _ _ (((e2.trans e3).trans e4).trans e5) (.inl ⟨d0, rfl⟩)
end


section
variable {P : Program} {w : World} {K : PySem.W.Frag} {mg : Str → Option Value} {base : Heap} {a : Ad}
/-- what stands within a turn -/
structure Now (pd c L Wy : Addr) (ws : List Str) (x y z : Int) (kv fv sv : V) (B : Nat) (H : Hp) : Prop where
  pen : PenK H pd c B
  hL : H L = some (.lst (ws.map V.str))
  hW : H Wy = some (.lst [.int x, .int y, .int z])
  k : Kd H kv ∧ kv ≠ .ref pd
  f : Kd H fv ∧ fv ≠ .ref pd
  s : Kd H sv ∧ sv ≠ .ref pd
theorem Now.kx {pd c L Wy : Addr} {ws : List Str} {x y z : Int} {kv fv sv : V} {B B' : Nat} {H H' : Hp} (n : Now pd c L Wy ws x y z kv fv sv B H) (e : Kx pd H H') (p : PenK H' pd c B') : Now pd c L Wy ws x y z kv fv sv B' H' := by
  obtain ⟨kvs, hd⟩ := n.pen.dK
  exact ⟨p, e.lst hd n.hL, e.lst hd n.hW, ⟨kd_kx n.k.1 e n.k.2, n.k.2⟩, ⟨kd_kx n.f.1 e n.f.2, n.f.2⟩, ⟨kd_kx n.s.1 e n.s.2, n.s.2⟩⟩
theorem Now.ex {pd c L Wy : Addr} {ws : List Str} {x y z : Int} {kv fv sv : V} {B : Nat} {H H' : Hp} (n : Now pd c L Wy ws x y z kv fv sv B H) (e : Ex H H') : Now pd c L Wy ws x y z kv fv sv B H' := n.kx (Kx.of e) (n.pen.ex e)
theorem DueV.ex {H H' : Hp} {v : V} {n : Nat} (d : DueV H v n) (e : Ex H H') : DueV H' v n := by
  rcases d with d | ⟨h, p, rfl, hp⟩
  · exact .inl d
  · exact .inr ⟨h, p, rfl, e _ _ hp⟩
theorem due_data {H : Hp} {u v : V} {n : Nat} (d1 : DueV H u n) (d2 : DueV H v n) : ∃ dd, Dp K H u dd ∧ Dp K H v dd ∧ SeqAt.shaped dd = true ∧ PyData.eqv dd dd = true := by
  rcases d1 with ⟨h, rfl⟩ | ⟨h, p, rfl, hp⟩
  · rcases d2 with ⟨h2, rfl⟩ | ⟨h2, p2, rfl, hp2⟩
    · exact ⟨.none, .non, .non, by decide +kernel, rfl⟩
    · exact absurd h h2
  · rcases d2 with ⟨h2, rfl⟩ | ⟨h2, p2, rfl, hp2⟩
    · exact absurd h2 h
    · have : ∃ ds, DpAll K H (dueT n) ds ∧ SeqAt.shaped (.tuple ds) = true ∧ PyData.eqv (.tuple ds) (.tuple ds) = true := by
        unfold dueT
        split
        · exact ⟨[.str "kind"], .cons (.str _) .nil, by decide +kernel, by decide +kernel⟩
        · exact ⟨[.str "letter", .int 0], .cons (.str _) (.cons (.int _) .nil), by decide +kernel, by decide +kernel⟩
        · exact ⟨[.str "letter", .int 1], .cons (.str _) (.cons (.int _) .nil), by decide +kernel, by decide +kernel⟩
        · exact ⟨[.str "nothing"], .cons (.str _) .nil, by decide +kernel, by decide +kernel⟩
      obtain ⟨ds, a1, a2, a3⟩ := this
      exact ⟨.tuple ds, .tup (st_of hp) a1, .tup (st_of hp2) a1, a2, a3⟩
theorem ab_ok : LetOk ["a", "b"] := ⟨by decide, by decide, by decide +kernel, by decide +kernel, by decide +kernel, by decide +kernel⟩
def spLaw (K : PySem.W.Frag) : Sp := fun vs H Q _ => ∃ (s : Addr) (ns : List Int), vs = [.ref s] ∧ SqL K H s (ns.map V.int) ∧ ∀ H', Q (.bl true) H'
theorem ok_law (T : Txt P K mg a) {fd : FuncData} (F : Fun K "law" "law" s_law a.f_law fd) : FnOk P w K mg base CX0 9 a.f_law fd ["_law_script"] (spLaw K) := by
  refine F.ok sc_law (fun vs H Q E h => ?_) (fun cdv A outer s H vs Q E hr h => ?_)
  · obtain ⟨z, ns, rfl, _⟩ := h; rfl
  · obtain ⟨z, ns, rfl, hz, k⟩ := h
    refine ⟨_, (pss_cons (ps_set (i := 1) sc_law.nd rfl (by first | exact Or.inl rfl | exact Or.inr rfl) (pe_callC (c__law_pen T) hr (pa_cons (pv 0) pa_nil)))
  (pss_cons (ps_for PassesOwn.never (by rfl) (pi_range1 (by rfl) T.n_range (pa_cons pe_int pa_nil)) (pg_name (i := 2) sc_law.nd rfl (by first | exact Or.inl rfl | exact Or.inr rfl))
    (pss_cons (ps_set (i := 4) sc_law.nd rfl (by first | exact Or.inl rfl | exact Or.inr rfl) (pe_callC (c__law_letters T) hr (pa_cons (pv 1) (pa_cons (pe_op op_add pe_int (pe_callC (c__law_draw T) hr (pa_cons (pv 1) (pa_cons pe_int pa_nil)))) pa_nil))))
      (pss_cons (ps_asg (pe_callC (c__law_drawn T) hr (pa_cons (pv 1) (pa_cons (pv 4) pa_nil))) (pg_tup rfl (pgs_cons (pg_name (i := 6) sc_law.nd rfl (by first | exact Or.inl rfl | exact Or.inr rfl)) (pgs_cons (pg_name (i := 7) sc_law.nd rfl (by first | exact Or.inl rfl | exact Or.inr rfl)) (pgs_cons (pg_name (i := 8) sc_law.nd rfl (by first | exact Or.inl rfl | exact Or.inr rfl)) pgs_nil)))))
      (pss_cons (ps_setLc (own := [("_law_k", 9)]) (i := 5) (by rfl) sc_law.nd rfl rfl (sw_true rfl rfl rfl (by decide +kernel)) (pi_range1 (by rfl) T.n_range (pa_cons pe_int pa_nil)) (blkOk_by (own := [("_law_k", 9)]) (N := N_law) (sc := defScope s_law) (by decide +kernel)) (fun _ _ _ _ _ => (pg_name (i := 9) sc_law.nd rfl (by first | exact Or.inl rfl | exact Or.inr rfl))) (fun _ _ _ _ _ => pts_nil) (fun _ _ _ _ _ => (pe_callC (c__law_draw T) hr (pa_cons (pv 1) (pa_cons pe_int pa_nil)))))
      (Evl.pss_cut (ps_if (pt_cmpR op_eq (pe_ix ix_list (pv 5) pe_int (fun _ _ => rfl)) pe_int (by rfl)) (pss_one (ps_set (i := 6) sc_law.nd rfl (by first | exact Or.inl rfl | exact Or.inr rfl) (pe_callC (c__law_pick T) hr (pa_cons (pv 1) (pa_cons (pe_lst (pa_cons pe_str (pa_cons pe_str (pa_cons pe_str (pa_cons pe_str (pa_cons pe_str (pa_cons pe_non (pa_cons pe_int (pa_cons pe_bl (pa_cons (pe_tup (pa_cons pe_str pa_nil)) (pa_cons (pe_lst (pa_cons pe_str pa_nil)) (pa_cons (pe_ix ix_list (pv 4) pe_int (fun _ _ => rfl)) pa_nil)))))))))))) pa_nil))))) pss_nil)
      (Evl.pss_cut (ps_if (pt_cmpR op_eq (pe_ix ix_list (pv 5) pe_int (fun _ _ => rfl)) pe_int (by rfl)) (pss_one (ps_set (i := 6) sc_law.nd rfl (by first | exact Or.inl rfl | exact Or.inr rfl) (pe_callC (c__law_pick T) hr (pa_cons (pv 1) (pa_cons (pe_lst (pa_cons pe_str (pa_cons pe_str (pa_cons pe_str (pa_cons pe_str (pa_cons pe_str (pa_cons pe_str pa_nil))))))) pa_nil))))) pss_nil)
      (Evl.pss_cut (ps_if (pt_cmpR op_eq (pe_ix ix_list (pv 5) pe_int (fun _ _ => rfl)) pe_int (by rfl)) (pss_one (ps_set (i := 7) sc_law.nd rfl (by first | exact Or.inl rfl | exact Or.inr rfl) (pe_callC (c__law_odd T) hr (pa_cons (pv 1) (pa_cons (pv 4) pa_nil))))) pss_nil)
      (Evl.pss_cut (ps_if (pt_cmpR op_eq (pe_ix ix_list (pv 5) pe_int (fun _ _ => rfl)) pe_int (by rfl)) (pss_one (ps_set (i := 8) sc_law.nd rfl (by first | exact Or.inl rfl | exact Or.inr rfl) (pe_callC (c__law_odd T) hr (pa_cons (pv 1) (pa_cons (pv 4) pa_nil))))) pss_nil)
      (Evl.pss_cut (ps_if (pt_cmpR op_eq (pe_ix ix_list (pv 5) pe_int (fun _ _ => rfl)) pe_int (by rfl)) (pss_one (ps_set (i := 8) sc_law.nd rfl (by first | exact Or.inl rfl | exact Or.inr rfl) (pe_callC (c__law_pick T) hr (pa_cons (pv 1) (pa_cons (pe_lst (pa_cons pe_non (pa_cons (pv 7) (pa_cons (pe_ix ix_list (pv 4) pe_int (fun _ _ => rfl)) (pa_cons (pe_ix ix_list (pv 4) (pe_un un_neg pe_int) (fun _ _ => rfl)) pa_nil))))) pa_nil))))) pss_nil)
      (pss_one (ps_if (pt_cmpR (op_neD hr.units) (pe_callC (c__law_told T) hr (pa_cons (pv 4) (pa_cons (pv 6) (pa_cons (pv 7) (pa_cons (pv 8) pa_nil))))) (pe_callC (c__law_due T) hr (pa_cons (pv 4) (pa_cons (pv 6) (pa_cons (pv 7) (pa_cons (pv 8) pa_nil))))) (by rfl)) (pss_one (ps_ret pe_bl)) pss_nil)))))))))))
  (pss_cons (ps_try_asM rfl rfl sc_law.nd takes_none5 (fun W pn xe tk pw => (pss_one (ps_expr (pe_makeX (c_Sentence1 T) hr tk (pa_cons (pe_makeC (c_Letters T) hr (pa_cons (pe_lst (pa_cons pe_str (pa_cons pe_str pa_nil))) pa_nil)) (pa_cons pe_str (pa_cons pe_str pa_nil)))))))
    (HdsA.cons (i := 3) ⟨by rfl, by decide, .inl T.g_BadLetter⟩ rfl rfl (fun xa oe cls d pn hz hd => (pss_one (ps_ret (pe_and (pe_cmpR op_eq (pe_xf T.xf_BadLetter T.na_BadLetter_index hz hd (pv 3)) pe_int (by rfl)) (pe_one (pe_callB (call_isX T.xe_BadLetter hz hd) (by rfl) T.n_isinstance (by decide +kernel) (pa_cons (pv 3) (pa_cons (pe_bty "ValueError" T.n_ValueError (by decide +kernel)) pa_nil)))))))) HdsA.nil))
  (pss_one (ps_ret pe_bl))))), ?_⟩
    walk_at "st"
    refine ⟨z, ns, rfl, hz, fun pd c H1 hpd hc p1 e1 => ?_⟩
    walk_at "st"
    refine rd_forYl (J := Itr 0 9) (H1 := H1) (fun R r => ⟨_, rfl, by decide, by decide, r⟩) (yl_range 0 9) (fun i σ H' => (∃ v2 v4 v5 v6 v7 v8, σ = [some (.ref z), some (.ref pd), v2, none, v4, v5, v6, v7, v8, none]) ∧ PenK H' pd c (200 * i)) (fun _ _ _ _ _ => trivial) ⟨⟨_, _, _, _, _, _, rfl⟩, p1⟩ (fun i x σ H2 H3 hi hv e yy => ?_) (fun σ H2 hv => ?_)
    · obtain ⟨⟨v2, v4, v5, v6, v7, v8, rfl⟩, p2⟩ := hv
      have p3 := p2.ex e
      refine rd_gname ?_
      walk_at "st"
      refine ⟨pd, c, _, _, rfl, p3, by omega, by decide, by decide, fun r H4 r0 r1 p4 kx4 => ?_⟩
      walk_at "st"
      obtain ⟨n, en, n1, n2⟩ : ∃ n : Nat, 1 + r = (n : Int) ∧ 1 ≤ n ∧ n ≤ 4 := ⟨(1 + r).toNat, by omega, by omega, by omega⟩
      rw [en]
      refine ⟨pd, c, _, n, rfl, p4, by omega, by omega, fun ws L H5 hws hL h5 p5 kx5 => ?_⟩
      obtain ⟨lw, ndw, mkw⟩ := hws
      have O : LetOk ws := ⟨by omega, by omega, fun x hx => (mkw x hx).ok, fun x hx => by have := (mkw x hx).len; omega, ndw, fun x hx => (mkw x hx).so⟩
      refine rd_seq (rd_asgG ?_)
      walk_at "st"
      refine ⟨pd, c, L, _, ws, rfl, p5, by omega, h5, by omega, by omega, fun kk f sv t H6 lk hf hs h6 p6 kx6 => ?_⟩
      refine rd_gTup3 rfl (st_of h6) ?_
      have kx56 := kx6
      obtain ⟨kv5, hd5⟩ := p5.dK
      have hL6 := kx6.lst hd5 h5
      walk_at "st"
      refine rd_lc ?_
      walk_at "st"
      refine ⟨by decide, by decide, ?_⟩
      intro D hD
      refine lc_yl (yl_range 0 3) (fun i' H' => ∃ ns : List Int, ns.length = i' ∧ H' D = some (.lst (ns.map V.int)) ∧ PenK H' pd c (200 * i + 105 + i') ∧ Kx pd H6 H') (fun _ _ _ _ => trivial) ⟨[], rfl, upd_same, (p6.ex (Ex.new hD)).mono (by omega), Kx.of (Ex.new hD)⟩ (fun i' x' H7 H8 hi' hv e8 yy' => ?_) (fun H7 hv => ?_)
      · obtain ⟨ns', ln, hD7, p7, kx7⟩ := hv
        refine ⟨rfl, ?_⟩
        walk_at "st"
        have p8 := p7.ex e8
        refine ⟨pd, c, _, _, rfl, p8, by omega, by decide, by decide, fun r' H9 r0' r1' p9 kx9 => ?_⟩
        obtain ⟨kvs, hk8⟩ := p8.dK
        refine ⟨_, kx9.lst hk8 (e8 _ _ hD7), Nat.lt_of_le_of_lt (show _ ≤ 100 by simp; omega) (by decide), ns' ++ [r'], by simp [ln], by rw [upd_same, List.map_append]; rfl, p9.wr (p6.np hD) (p6.nc hD), ((kx7.trans (Kx.of e8)).trans kx9).mut hD⟩
      · obtain ⟨ns', ln, hD7, p7, kx7⟩ := hv
        obtain ⟨x1, x2, x3, rfl⟩ : ∃ a b c, ns' = [a, b, c] := by
          match ns', ln with
          | [a, b, c], _ => exact ⟨a, b, c, rfl⟩
        obtain ⟨kv6, hd6⟩ := p6.dK
        have fref : ∀ {u : V}, (∀ b, u ≠ .ref b) → u ≠ .ref pd := fun h => h pd
        have hsK : ∀ H', Kd H' sv ∧ sv ≠ .ref pd := fun H' => by
          rcases hs with rfl | ⟨y, hy, rfl⟩
          · exact ⟨.non, fun q => by cases q⟩
          · exact ⟨.str y (O.short y hy), fun q => by cases q⟩
        have N0 : Now pd c L D ws x1 x2 x3 (.str kk) (.str f) sv (200 * i + 108) H7 := ⟨p7, kx7.lst hd6 hL6, hD7, ⟨.str kk lk, fun q => by cases q⟩, ⟨.str f (O.short f hf), fun q => by cases q⟩, hsK H7⟩
        have at3 : ∀ {u v w : V}, atI [u, v, w] 0 = some u ∧ atI [u, v, w] 1 = some v ∧ atI [u, v, w] 2 = some w := fun {u v w} => ⟨atI_nat (j := 0) rfl, atI_nat (j := 1) rfl, atI_nat (j := 2) rfl⟩
        have M : ∃ M : Nat → L2.St → Hp → Prop, ∀ b σ' H', M b σ' H' ↔ ∃ kv fv sv' : V, σ' = [some (.ref z), some (.ref pd), some x, none, some (.ref L), some (.ref D), some kv, some fv, some sv', none] ∧ Now pd c L D ws x1 x2 x3 kv fv sv' (200 * i + 108 + b) H' := ⟨_, fun _ _ _ => Iff.rfl⟩
        obtain ⟨M, hM⟩ := M
        walk_at "st"
        refine ⟨M 2, ?_, ?_⟩
        · walk_at "st"
          refine ⟨_, _, _, _, rfl, rfl, sq_of N0.hW, at3.1, ?_⟩
          walk_at "st"
          refine ite2 (fun h => ?_) (fun h => ?_)
          · walk_at "st"
            refine ⟨by show 1 ≤ sizeLine; decide, ?_⟩
            intro o1 ho1
            have e8 := Ex.new (o := HO.tup [V.str "kept"]) ho1
            have g8 : upd H7 o1 (HO.tup [V.str "kept"]) o1 = some (HO.tup [V.str "kept"]) := upd_same
            generalize upd H7 o1 (HO.tup [V.str "kept"]) = H8 at e8 g8 ⊢
            walk_at "st"
            refine ⟨by show 1 ≤ sizeLine; decide, ?_⟩
            intro o2 ho2
            have e9 := Ex.new (o := HO.lst [V.str "over"]) ho2
            have g9 : upd H8 o2 (HO.lst [V.str "over"]) o2 = some (HO.lst [V.str "over"]) := upd_same
            generalize upd H8 o2 (HO.lst [V.str "over"]) = H9 at e9 g9 ⊢
            walk_at "st"
            obtain ⟨w0, wr, ew⟩ : ∃ w0 wr, ws = w0 :: wr := by
              cases ws with
              | nil => simp at lw; omega
              | cons a b => exact ⟨a, b, rfl⟩
            refine ⟨_, _, _, V.str w0, rfl, rfl, sq_of (e9 _ _ (e8 _ _ N0.hL)), (by rw [ew]; exact atI_nat (j := 0) rfl), ?_⟩
            walk_at "st"
            refine ⟨by show 11 ≤ sizeLine; decide, ?_⟩
            intro o3 ho3
            have e10 := Ex.new (o := HO.lst [V.str "", V.str "Idle", V.str "keep", V.str "overs", V.str "new", V.non, V.int 0, V.bl true, V.ref o1, V.ref o2, V.str w0]) ho3
            have g10 : upd H9 o3 (HO.lst [V.str "", V.str "Idle", V.str "keep", V.str "overs", V.str "new", V.non, V.int 0, V.bl true, V.ref o1, V.ref o2, V.str w0]) o3 = some (HO.lst [V.str "", V.str "Idle", V.str "keep", V.str "overs", V.str "new", V.non, V.int 0, V.bl true, V.ref o1, V.ref o2, V.str w0]) := upd_same
            generalize upd H9 o3 (HO.lst [V.str "", V.str "Idle", V.str "keep", V.str "overs", V.str "new", V.non, V.int 0, V.bl true, V.ref o1, V.ref o2, V.str w0]) = H10 at e10 g10 ⊢
            walk_at "st"
            have e7 := (e8.trans e9).trans e10
            have N1 := N0.ex e7
            refine ⟨pd, c, _, N1.pen, by omega, .inl ⟨o3, _, rfl, g10, by show 0 < 11; decide, by show 11 ≤ 1000; decide, fun xv H11 hx p11 kx11 => ?_⟩⟩
            have N2 := N1.kx kx11 p11
            obtain ⟨kv7, hd7⟩ := p7.dK
            have n1' : o1 ≠ pd := (ne_of_none hd7 ho1).symm
            have n2' : o2 ≠ pd := (ne_of_none (e8 _ _ hd7) ho2).symm
            have kdx : Kd H10 xv ∧ xv ≠ .ref pd := by
              simp only [List.mem_cons, List.not_mem_nil, or_false] at hx
              rcases hx with rfl | rfl | rfl | rfl | rfl | rfl | rfl | rfl | rfl | rfl | rfl
              · exact ⟨.str _ (by decide +kernel), fun q => by cases q⟩
              · exact ⟨.str _ (by decide +kernel), fun q => by cases q⟩
              · exact ⟨.str _ (by decide +kernel), fun q => by cases q⟩
              · exact ⟨.str _ (by decide +kernel), fun q => by cases q⟩
              · exact ⟨.str _ (by decide +kernel), fun q => by cases q⟩
              · exact ⟨.non, fun q => by cases q⟩
              · exact ⟨.int _, fun q => by cases q⟩
              · exact ⟨.bl _, fun q => by cases q⟩
              · exact ⟨.tup (e10 _ _ (e9 _ _ g8)), fun q => n1' (V.ref.inj q)⟩
              · exact ⟨.lst (e10 _ _ g9), fun q => n2' (V.ref.inj q)⟩
              · exact ⟨.str _ (O.short w0 (by rw [ew]; exact List.mem_cons_self ..)), fun q => by cases q⟩
            refine (hM _ _ _).mpr ⟨xv, _, _, rfl, ?_⟩
            exact ⟨N2.pen.mono (by omega), N2.hL, N2.hW, ⟨kd_kx kdx.1 kx11 kdx.2, kdx.2⟩, N2.f, N2.s⟩
          · walk_at "st"
            exact (hM _ _ _).mpr ⟨_, _, _, rfl, N0.kx (Kx.refl _ _) (N0.pen.mono (by omega))⟩
        · intro σ' H8 hm
          obtain ⟨kv, fv, sv', rfl, N⟩ := (hM _ _ _).mp hm
          walk_at "st"
          refine ⟨M 4, ?_, ?_⟩
          · walk_at "st"
            refine ⟨_, _, _, _, rfl, rfl, sq_of N.hW, at3.1, ?_⟩
            walk_at "st"
            refine ite2 (fun h => ?_) (fun h => ?_)
            · walk_at "st"
              refine ⟨by show 6 ≤ sizeLine; decide, ?_⟩
              intro o3 ho3
              have e10 := Ex.new (o := HO.lst [V.str "idle", V.str "kept", V.str "still", V.str "over", V.str "undone", V.str "alike"]) ho3
              have g10 : upd H8 o3 (HO.lst [V.str "idle", V.str "kept", V.str "still", V.str "over", V.str "undone", V.str "alike"]) o3 = some (HO.lst [V.str "idle", V.str "kept", V.str "still", V.str "over", V.str "undone", V.str "alike"]) := upd_same
              generalize upd H8 o3 (HO.lst [V.str "idle", V.str "kept", V.str "still", V.str "over", V.str "undone", V.str "alike"]) = H10 at e10 g10 ⊢
              walk_at "st"
              have N1 := N.ex e10
              refine ⟨pd, c, _, N1.pen, by omega, .inl ⟨o3, _, rfl, g10, by decide, by decide, fun xv H11 hx p11 kx11 => ?_⟩⟩
              have N2 := N1.kx kx11 p11
              have kdx : Kd H11 xv ∧ xv ≠ .ref pd := by
                simp only [List.mem_cons, List.not_mem_nil, or_false] at hx
                rcases hx with rfl | rfl | rfl | rfl | rfl | rfl
                all_goals exact ⟨.str _ (by decide +kernel), fun q => by cases q⟩
              exact (hM _ _ _).mpr ⟨xv, _, _, rfl, N2.pen.mono (by omega), N2.hL, N2.hW, kdx, N2.f, N2.s⟩
            · walk_at "st"
              exact (hM _ _ _).mpr ⟨_, _, _, rfl, N.kx (Kx.refl _ _) (N.pen.mono (by omega))⟩
          · clear hm N H8
            intro σ' H8 hm
            clear kv fv sv'
            obtain ⟨kv, fv, sv', rfl, N⟩ := (hM _ _ _).mp hm
            walk_at "st"
            refine ⟨M 8, ?_, ?_⟩
            · walk_at "st"
              refine ⟨_, _, _, _, rfl, rfl, sq_of N.hW, at3.2.1, ?_⟩
              walk_at "st"
              refine ite2 (fun h => ?_) (fun h => ?_)
              · walk_at "st"
                refine ⟨pd, c, L, _, ws, rfl, N.pen, by omega, N.hL, by omega, by omega, fun z hz => by have := (mkw z hz).len; omega, fun xv H11 kx nx p11 kx11 => ?_⟩
                have N2 := N.kx kx11 p11
                exact (hM _ _ _).mpr ⟨_, xv, _, rfl, N2.pen.mono (by omega), N2.hL, N2.hW, N2.k, ⟨kx, nx⟩, N2.s⟩
              · walk_at "st"
                exact (hM _ _ _).mpr ⟨_, _, _, rfl, N.kx (Kx.refl _ _) (N.pen.mono (by omega))⟩
            · clear hm N H8
              intro σ' H8 hm
              clear kv fv sv'
              obtain ⟨kv, fv, sv', rfl, N⟩ := (hM _ _ _).mp hm
              walk_at "st"
              refine ⟨M 12, ?_, ?_⟩
              · walk_at "st"
                refine ⟨_, _, _, _, rfl, rfl, sq_of N.hW, at3.2.2, ?_⟩
                walk_at "st"
                refine ite2 (fun h => ?_) (fun h => ?_)
                · walk_at "st"
                  refine ⟨pd, c, L, _, ws, rfl, N.pen, by omega, N.hL, by omega, by omega, fun z hz => by have := (mkw z hz).len; omega, fun xv H11 kx nx p11 kx11 => ?_⟩
                  have N2 := N.kx kx11 p11
                  exact (hM _ _ _).mpr ⟨_, _, xv, rfl, N2.pen.mono (by omega), N2.hL, N2.hW, N2.k, N2.f, ⟨kx, nx⟩⟩
                · walk_at "st"
                  exact (hM _ _ _).mpr ⟨_, _, _, rfl, N.kx (Kx.refl _ _) (N.pen.mono (by omega))⟩
              · clear hm N H8
                intro σ' H8 hm
                clear kv fv sv'
                obtain ⟨kv, fv, sv', rfl, N⟩ := (hM _ _ _).mp hm
                walk_at "st"
                refine ⟨M 16, ?_, ?_⟩
                · walk_at "st"
                  refine ⟨_, _, _, _, rfl, rfl, sq_of N.hW, at3.2.2, ?_⟩
                  walk_at "st"
                  refine ite2 (fun h => ?_) (fun h => ?_)
                  · walk_at "st"
                    obtain ⟨w0, wr, ew⟩ : ∃ w0 wr, ws = w0 :: wr := by
                      cases ws with
                      | nil => simp at lw; omega
                      | cons a b => exact ⟨a, b, rfl⟩
                    refine ⟨_, _, _, V.str w0, rfl, rfl, sq_of N.hL, (by rw [ew]; exact atI_nat (j := 0) rfl), ?_⟩
                    walk_at "st"
                    obtain ⟨zl, hzl⟩ : ∃ z, ws.getLast? = some z := by rw [ew]; exact ⟨_, List.getLast?_cons⟩
                    have hat2 : atI (ws.map V.str) (-1) = some (V.str zl) := by
                      obtain ⟨ys, rfl⟩ := List.getLast?_eq_some_iff.mp hzl
                      rw [List.map_append]
                      exact atI_last _ _
                    refine ⟨1, rfl, _, _, _, _, rfl, rfl, sq_of N.hL, hat2, ?_⟩
                    walk_at "st"
                    refine ⟨by show 4 ≤ sizeLine; decide, ?_⟩
                    intro o3 ho3
                    have e10 := Ex.new (o := HO.lst [V.non, fv, V.str w0, V.str zl]) ho3
                    have g10 : upd H8 o3 (HO.lst [V.non, fv, V.str w0, V.str zl]) o3 = some (HO.lst [V.non, fv, V.str w0, V.str zl]) := upd_same
                    generalize upd H8 o3 (HO.lst [V.non, fv, V.str w0, V.str zl]) = H10 at e10 g10 ⊢
                    walk_at "st"
                    have N1 := N.ex e10
                    refine ⟨pd, c, _, N1.pen, by omega, .inl ⟨o3, _, rfl, g10, by show 0 < 4; decide, by show 4 ≤ 1000; decide, fun xv H11 hx p11 kx11 => ?_⟩⟩
                    have N2 := N1.kx kx11 p11
                    have kdx : Kd H11 xv ∧ xv ≠ .ref pd := by
                      simp only [List.mem_cons, List.not_mem_nil, or_false] at hx
                      rcases hx with rfl | rfl | rfl | rfl
                      · exact ⟨.non, fun q => by cases q⟩
                      · exact N2.f
                      · exact ⟨.str _ (O.short w0 (by rw [ew]; exact List.mem_cons_self ..)), fun q => by cases q⟩
                      · exact ⟨.str _ (O.short zl (List.mem_of_getLast? hzl)), fun q => by cases q⟩
                    exact (hM _ _ _).mpr ⟨_, _, xv, rfl, N2.pen.mono (by omega), N2.hL, N2.hW, N2.k, N2.f, kdx⟩
                  · walk_at "st"
                    exact (hM _ _ _).mpr ⟨_, _, _, rfl, N.kx (Kx.refl _ _) (N.pen.mono (by omega))⟩
                · clear hm N H8
                  intro σ' H8 hm
                  clear kv fv sv'
                  obtain ⟨kv, fv, sv', rfl, N⟩ := (hM _ _ _).mp hm
                  walk_at "st"
                  refine ⟨L, ws, kv, fv, sv', rfl, N.hL, O, N.k.1, N.f.1, N.s.1, fun u H9 e9 du => ?_⟩
                  have N1 := N.ex e9
                  walk_at "st"
                  refine ⟨L, ws, kv, fv, sv', rfl, N1.hL, N1.k.1, N1.f.1, N1.s.1, fun u2 H10 e10 du2 => ?_⟩
                  have N2 := N1.ex e10
                  obtain ⟨dd, d1, d2, sh, eq⟩ := due_data (K := K) (du.ex e10) du2
                  refine ⟨dd, dd, d1, d2, sh, sh, ?_⟩
                  rw [eq]
                  walk_at "st"
                  exact ⟨⟨_, _, _, _, _, _, rfl⟩, N2.pen.mono (by omega)⟩
    · obtain ⟨⟨v2, v4, v5, v6, v7, v8, rfl⟩, p2⟩ := hv
      walk_at "st"
      refine rd_makeW ?_
      walk_at "st"
      refine ⟨by show 2 ≤ sizeLine; decide, ?_⟩
      intro o1 ho1
      have e3 := Ex.new (o := HO.lst [V.str "a", V.str "b"]) ho1
      have g3 : upd H2 o1 (HO.lst [V.str "a", V.str "b"]) o1 = some (HO.lst [V.str "a", V.str "b"]) := upd_same
      generalize upd H2 o1 (HO.lst [V.str "a", V.str "b"]) = H3 at e3 g3 ⊢
      walk_at "st"
      refine mk_let (ws := ["a", "b"]) g3 ab_ok (fun lp H4 hlp e4 L4 => ?_)
      walk_at "st"
      intro x dx hx hdx ne
      have e0 : Ex H4 (upd (upd H4 dx (.own x)) x (.ins a.Sentence dx [])) := fun b o h => by rw [upd_ne (ne_of_none h hx), upd_ne (ne_of_none h hdx)]; exact h
      have hd : senDue ["a", "b"] (.str "kept") (.str "a") .non = 3 := by decide +kernel
      refine ⟨x, dx, lp, ["a", "b"], _, _, _, rfl, upd_same, L4.ex e0, ab_ok.short, .str _ (by decide +kernel), .str _ (by decide +kernel), .non, ⟨?_, ?_, ?_, ?_⟩, ?_⟩
      · intro h; rw [hd] at h; cases h
      · intro h; rw [hd] at h; cases h
      · intro _ d H' hdn e h
        refine ⟨true, T.em_BadLetter_BadLetter, fun _ ea hea => ?_, fun h => by cases h⟩
        walk_at "st"
        refine ⟨_, rfl, rfl, rfl, d, _, _, rfl, h, rfl, ?_⟩
        walk_at "st"
        rw [decide_eq_true (show V.int 1 = V.int 1 from rfl)]
        refine iteT ?_
        walk_at "st"
        refine ⟨rfl, d, _, V.ty "ValueError", .type "ValueError", true, rfl, h, rfl, fun u hu => hu, T.kv_BadLetter, ?_⟩
        exact k _
      · intro h; rw [hd] at h; cases h
      · intro h; rw [hd] at h; cases h
end
theorem all_mk {l : PySem.W.OpenLaw} {w : World} {K : PySem.W.Frag} {h : Heap} {mg : Str → Option Value} {fa : Addr} (X : K.In h) (G : h.Ns mainGlobals mg) (hfa : mg "law" = some (.ref fa))
    {MOST_LETTERS : Tok}
    {BEGINNINGS : Addr} {od_BEGINNINGS : Option Addr} {sl_BEGINNINGS : Array (Option Value)} {sn_BEGINNINGS : Nat} {t0_BEGINNINGS t1_BEGINNINGS : Tok}
    {SMALL : Tok}
    {SIGNS : Tok}
    {KINDS : Addr} {od_KINDS : Option Addr} {sl_KINDS : Array (Option Value)} {sn_KINDS : Nat} {t0_KINDS t1_KINDS t2_KINDS t3_KINDS t4_KINDS t5_KINDS : Tok}
    {SINGLE : Addr} {od_SINGLE : Option Addr} {sl_SINGLE : Array (Option Value)} {sn_SINGLE : Nat} {t0_SINGLE t1_SINGLE : Tok}
    {Letters : Addr}
    {Sentence : Addr}
    {f_is_word : Addr} {od_is_word an_is_word : Option Addr} {sl_is_word : Array (Option Value)} {oc_is_word kV_is_word dc_is_word pm_is_word cd_is_word ct_is_word : Value}
    {f_is_beginning : Addr} {od_is_beginning an_is_beginning : Option Addr} {sl_is_beginning : Array (Option Value)} {oc_is_beginning kV_is_beginning dc_is_beginning pm_is_beginning cd_is_beginning ct_is_beginning : Value}
    {f_is_letter : Addr} {od_is_letter an_is_letter : Option Addr} {sl_is_letter : Array (Option Value)} {oc_is_letter kV_is_letter dc_is_letter pm_is_letter cd_is_letter ct_is_letter : Value}
    {f_Letters___contains__ : Addr} {od_Letters___contains__ an_Letters___contains__ : Option Addr} {sl_Letters___contains__ : Array (Option Value)} {oc_Letters___contains__ kV_Letters___contains__ dc_Letters___contains__ pm_Letters___contains__ cd_Letters___contains__ ct_Letters___contains__ : Value}
    {f_Letters___init__ : Addr} {od_Letters___init__ an_Letters___init__ : Option Addr} {sl_Letters___init__ : Array (Option Value)} {oc_Letters___init__ kV_Letters___init__ dc_Letters___init__ pm_Letters___init__ cd_Letters___init__ ct_Letters___init__ : Value}
    {f_Letters_rank : Addr} {od_Letters_rank an_Letters_rank : Option Addr} {sl_Letters_rank : Array (Option Value)} {oc_Letters_rank kV_Letters_rank dc_Letters_rank pm_Letters_rank cd_Letters_rank ct_Letters_rank : Value}
    {f_is_one_of : Addr} {od_is_one_of an_is_one_of : Option Addr} {sl_is_one_of : Array (Option Value)} {oc_is_one_of kV_is_one_of dc_is_one_of pm_is_one_of cd_is_one_of ct_is_one_of : Value}
    {f_Sentence___init__ : Addr} {od_Sentence___init__ an_Sentence___init__ : Option Addr} {sl_Sentence___init__ : Array (Option Value)} {oc_Sentence___init__ kV_Sentence___init__ dc_Sentence___init__ pm_Sentence___init__ cd_Sentence___init__ ct_Sentence___init__ : Value}
    {df_Sentence___init__ : Addr} {dod_Sentence___init__ : Option Addr} {doc_Sentence___init__ : Value} {dn_Sentence___init__ : Nat} {dsl_Sentence___init__ : Array (Option Value)}
    {f__law_pen : Addr} {od__law_pen an__law_pen : Option Addr} {sl__law_pen : Array (Option Value)} {oc__law_pen kV__law_pen dc__law_pen pm__law_pen cd__law_pen ct__law_pen : Value}
    {f__law_draw : Addr} {od__law_draw an__law_draw : Option Addr} {sl__law_draw : Array (Option Value)} {oc__law_draw kV__law_draw dc__law_draw pm__law_draw cd__law_draw ct__law_draw : Value}
    {f__law_pick : Addr} {od__law_pick an__law_pick : Option Addr} {sl__law_pick : Array (Option Value)} {oc__law_pick kV__law_pick dc__law_pick pm__law_pick cd__law_pick ct__law_pick : Value}
    {f__law_letters : Addr} {od__law_letters an__law_letters : Option Addr} {sl__law_letters : Array (Option Value)} {oc__law_letters kV__law_letters dc__law_letters pm__law_letters cd__law_letters ct__law_letters : Value}
    {f__law_normal : Addr} {od__law_normal an__law_normal : Option Addr} {sl__law_normal : Array (Option Value)} {oc__law_normal kV__law_normal dc__law_normal pm__law_normal cd__law_normal ct__law_normal : Value}
    {f__law_triple : Addr} {od__law_triple an__law_triple : Option Addr} {sl__law_triple : Array (Option Value)} {oc__law_triple kV__law_triple dc__law_triple pm__law_triple cd__law_triple ct__law_triple : Value}
    {f__law_drawn : Addr} {od__law_drawn an__law_drawn : Option Addr} {sl__law_drawn : Array (Option Value)} {oc__law_drawn kV__law_drawn dc__law_drawn pm__law_drawn cd__law_drawn ct__law_drawn : Value}
    {f__law_odd : Addr} {od__law_odd an__law_odd : Option Addr} {sl__law_odd : Array (Option Value)} {oc__law_odd kV__law_odd dc__law_odd pm__law_odd cd__law_odd ct__law_odd : Value}
    {f__law_due : Addr} {od__law_due an__law_due : Option Addr} {sl__law_due : Array (Option Value)} {oc__law_due kV__law_due dc__law_due pm__law_due cd__law_due ct__law_due : Value}
    {f__law_told : Addr} {od__law_told an__law_told : Option Addr} {sl__law_told : Array (Option Value)} {oc__law_told kV__law_told dc__law_told pm__law_told cd__law_told ct__law_told : Value}
    {f_law : Addr} {od_law an_law : Option Addr} {sl_law : Array (Option Value)} {oc_law kV_law dc_law pm_law cd_law ct_law : Value}
    {AsksError : Addr}
    {BadLetter : Addr}
    {f_BadLetter___init__ cc_BadLetter c_BadLetter N_BadLetter : Addr} {nm_BadLetter q_BadLetter : Str} {bs_BadLetter sub_BadLetter : List Value} {sn_BadLetter : List Str} {ab_BadLetter : Bool} {col_BadLetter : Option Bool} {dd_BadLetter : Option Addr} {m0_BadLetter m1_BadLetter m2_BadLetter m3_BadLetter m5_BadLetter : Option Value} {oc_BadLetter doc_BadLetter pm_BadLetter ctv_BadLetter e1_BadLetter e3_BadLetter : Value} {od_BadLetter e2_BadLetter e4_BadLetter : Option Addr} {osl_BadLetter e5_BadLetter e6_BadLetter : Array (Option Value)} {vs_BadLetter : Array Value} {file_BadLetter : Str} {tf_BadLetter : Tok}
    {BadKind : Addr}
    {SaysNothing : Addr}
    (z_ValueError : PySem.W.nsIn K mainGlobals "ValueError" = some none)
    (z_abs : PySem.W.nsIn K mainGlobals "abs" = some none)
    (z_all : PySem.W.nsIn K mainGlobals "all" = some none)
    (z_enumerate : PySem.W.nsIn K mainGlobals "enumerate" = some none)
    (z_int : PySem.W.nsIn K mainGlobals "int" = some none)
    (z_isinstance : PySem.W.nsIn K mainGlobals "isinstance" = some none)
    (z_len : PySem.W.nsIn K mainGlobals "len" = some none)
    (z_list : PySem.W.nsIn K mainGlobals "list" = some none)
    (z_min : PySem.W.nsIn K mainGlobals "min" = some none)
    (z_range : PySem.W.nsIn K mainGlobals "range" = some none)
    (z_str : PySem.W.nsIn K mainGlobals "str" = some none)
    (z_tuple : PySem.W.nsIn K mainGlobals "tuple" = some none)
    (h_MOST_LETTERS : PySem.W.nsIn K mainGlobals "MOST_LETTERS" = some (some (.int 12 MOST_LETTERS)))
    (h_BEGINNINGS : PySem.W.nsIn K mainGlobals "BEGINNINGS" = some (some (.ref BEGINNINGS)))
    (lk_BEGINNINGS : K.lookup BEGINNINGS = some ⟨.type "tuple", od_BEGINNINGS, .seq #[.str "new" t0_BEGINNINGS, .str "found" t1_BEGINNINGS] sn_BEGINNINGS, sl_BEGINNINGS⟩)
    (h_SMALL : PySem.W.nsIn K mainGlobals "SMALL" = some (some (.str "abcdefghijklmnopqrstuvwxyz" SMALL)))
    (h_SIGNS : PySem.W.nsIn K mainGlobals "SIGNS" = some (some (.str "abcdefghijklmnopqrstuvwxyz0123456789" SIGNS)))
    (h_KINDS : PySem.W.nsIn K mainGlobals "KINDS" = some (some (.ref KINDS)))
    (lk_KINDS : K.lookup KINDS = some ⟨.type "tuple", od_KINDS, .seq #[.str "idle" t0_KINDS, .str "kept" t1_KINDS, .str "still" t2_KINDS, .str "over" t3_KINDS, .str "undone" t4_KINDS, .str "alike" t5_KINDS] sn_KINDS, sl_KINDS⟩)
    (h_SINGLE : PySem.W.nsIn K mainGlobals "SINGLE" = some (some (.ref SINGLE)))
    (lk_SINGLE : K.lookup SINGLE = some ⟨.type "tuple", od_SINGLE, .seq #[.str "idle" t0_SINGLE, .str "still" t1_SINGLE] sn_SINGLE, sl_SINGLE⟩)
    (h_Letters : PySem.W.nsIn K mainGlobals "Letters" = some (some (.ref Letters)))
    (pg_Letters : PySem.W.plainGet K Letters Str.empty = true)
    (hd_Letters : PySem.W.hasDictIn K Letters = true)
    (po_Letters : PySem.W.plainOver K Letters = true)
    (sa_Letters : PySem.W.findIn K (.ref Letters) "__setattr__" = some (some (.builtin "object.__setattr__")))
    (na_Letters_words : PySem.W.findIn K (.ref Letters) "words" = some none)
    (ia_Letters : PySem.W.findIn K (.ref Letters) "__class__" = some (some (.builtin "object.__class__")))
    (in_Letters : PySem.W.specialIn K (.builtin "object.__class__") "__get__" = some (some (.builtin "getset_descriptor.__get__")))
    (it_Letters : PySem.W.takesIn K (.builtin "object.__class__") = some true)
    (im_Letters : PySem.W.mroIn K Letters (.type "object") = some true)
    (h_Sentence : PySem.W.nsIn K mainGlobals "Sentence" = some (some (.ref Sentence)))
    (pg_Sentence : PySem.W.plainGet K Sentence Str.empty = true)
    (hd_Sentence : PySem.W.hasDictIn K Sentence = true)
    (po_Sentence : PySem.W.plainOver K Sentence = true)
    (sa_Sentence : PySem.W.findIn K (.ref Sentence) "__setattr__" = some (some (.builtin "object.__setattr__")))
    (na_Sentence_letters : PySem.W.findIn K (.ref Sentence) "letters" = some none)
    (na_Sentence_kind : PySem.W.findIn K (.ref Sentence) "kind" = some none)
    (na_Sentence_first : PySem.W.findIn K (.ref Sentence) "first" = some none)
    (na_Sentence_second : PySem.W.findIn K (.ref Sentence) "second" = some none)
    (a_is_word : PySem.W.nsIn K mainGlobals "is_word" = some (some (.ref f_is_word)))
    (l_is_word : K.lookup f_is_word = some ⟨oc_is_word, od_is_word, .func (PySem.W.fnOf "is_word" "is_word" (defArgs s_is_word) (defBody s_is_word) (defScope s_is_word) .none kV_is_word dc_is_word pm_is_word an_is_word cd_is_word ct_is_word), sl_is_word⟩)
    (c_is_word : PySem.W.codeIn K cd_is_word "is_word" = true)
    (k_is_word : PySem.W.keepIn K (.ref f_is_word) = true)
    (a_is_beginning : PySem.W.nsIn K mainGlobals "is_beginning" = some (some (.ref f_is_beginning)))
    (l_is_beginning : K.lookup f_is_beginning = some ⟨oc_is_beginning, od_is_beginning, .func (PySem.W.fnOf "is_beginning" "is_beginning" (defArgs s_is_beginning) (defBody s_is_beginning) (defScope s_is_beginning) .none kV_is_beginning dc_is_beginning pm_is_beginning an_is_beginning cd_is_beginning ct_is_beginning), sl_is_beginning⟩)
    (c_is_beginning : PySem.W.codeIn K cd_is_beginning "is_beginning" = true)
    (k_is_beginning : PySem.W.keepIn K (.ref f_is_beginning) = true)
    (a_is_letter : PySem.W.nsIn K mainGlobals "is_letter" = some (some (.ref f_is_letter)))
    (l_is_letter : K.lookup f_is_letter = some ⟨oc_is_letter, od_is_letter, .func (PySem.W.fnOf "is_letter" "is_letter" (defArgs s_is_letter) (defBody s_is_letter) (defScope s_is_letter) .none kV_is_letter dc_is_letter pm_is_letter an_is_letter cd_is_letter ct_is_letter), sl_is_letter⟩)
    (c_is_letter : PySem.W.codeIn K cd_is_letter "is_letter" = true)
    (k_is_letter : PySem.W.keepIn K (.ref f_is_letter) = true)
    (a_Letters___contains__ : PySem.W.findIn K (.ref Letters) "__contains__" = some (some (.ref f_Letters___contains__)))
    (i_Letters___contains__ : PySem.W.isFn K (.ref f_Letters___contains__) = true)
    (l_Letters___contains__ : K.lookup f_Letters___contains__ = some ⟨oc_Letters___contains__, od_Letters___contains__, .func (PySem.W.fnOf "__contains__" "Letters.__contains__" (defArgs s_Letters___contains__) (defBody s_Letters___contains__) (defScope s_Letters___contains__) .none kV_Letters___contains__ dc_Letters___contains__ pm_Letters___contains__ an_Letters___contains__ cd_Letters___contains__ ct_Letters___contains__), sl_Letters___contains__⟩)
    (c_Letters___contains__ : PySem.W.codeIn K cd_Letters___contains__ "Letters.__contains__" = true)
    (k_Letters___contains__ : PySem.W.keepIn K (.ref f_Letters___contains__) = true)
    (a_Letters___init__ : PySem.W.findIn K (.ref Letters) "__init__" = some (some (.ref f_Letters___init__)))
    (i_Letters___init__ : PySem.W.isFn K (.ref f_Letters___init__) = true)
    (l_Letters___init__ : K.lookup f_Letters___init__ = some ⟨oc_Letters___init__, od_Letters___init__, .func (PySem.W.fnOf "__init__" "Letters.__init__" (defArgs s_Letters___init__) (defBody s_Letters___init__) (defScope s_Letters___init__) .none kV_Letters___init__ dc_Letters___init__ pm_Letters___init__ an_Letters___init__ cd_Letters___init__ ct_Letters___init__), sl_Letters___init__⟩)
    (c_Letters___init__ : PySem.W.codeIn K cd_Letters___init__ "Letters.__init__" = true)
    (k_Letters___init__ : PySem.W.keepIn K (.ref f_Letters___init__) = true)
    (a_Letters_rank : PySem.W.findIn K (.ref Letters) "rank" = some (some (.ref f_Letters_rank)))
    (i_Letters_rank : PySem.W.isFn K (.ref f_Letters_rank) = true)
    (l_Letters_rank : K.lookup f_Letters_rank = some ⟨oc_Letters_rank, od_Letters_rank, .func (PySem.W.fnOf "rank" "Letters.rank" (defArgs s_Letters_rank) (defBody s_Letters_rank) (defScope s_Letters_rank) .none kV_Letters_rank dc_Letters_rank pm_Letters_rank an_Letters_rank cd_Letters_rank ct_Letters_rank), sl_Letters_rank⟩)
    (c_Letters_rank : PySem.W.codeIn K cd_Letters_rank "Letters.rank" = true)
    (k_Letters_rank : PySem.W.keepIn K (.ref f_Letters_rank) = true)
    (a_is_one_of : PySem.W.nsIn K mainGlobals "is_one_of" = some (some (.ref f_is_one_of)))
    (l_is_one_of : K.lookup f_is_one_of = some ⟨oc_is_one_of, od_is_one_of, .func (PySem.W.fnOf "is_one_of" "is_one_of" (defArgs s_is_one_of) (defBody s_is_one_of) (defScope s_is_one_of) .none kV_is_one_of dc_is_one_of pm_is_one_of an_is_one_of cd_is_one_of ct_is_one_of), sl_is_one_of⟩)
    (c_is_one_of : PySem.W.codeIn K cd_is_one_of "is_one_of" = true)
    (k_is_one_of : PySem.W.keepIn K (.ref f_is_one_of) = true)
    (a_Sentence___init__ : PySem.W.findIn K (.ref Sentence) "__init__" = some (some (.ref f_Sentence___init__)))
    (i_Sentence___init__ : PySem.W.isFn K (.ref f_Sentence___init__) = true)
    (l_Sentence___init__ : K.lookup f_Sentence___init__ = some ⟨oc_Sentence___init__, od_Sentence___init__, .func (PySem.W.fnOf "__init__" "Sentence.__init__" (defArgs s_Sentence___init__) (defBody s_Sentence___init__) (defScope s_Sentence___init__) (.ref df_Sentence___init__) kV_Sentence___init__ dc_Sentence___init__ pm_Sentence___init__ an_Sentence___init__ cd_Sentence___init__ ct_Sentence___init__), sl_Sentence___init__⟩)
    (c_Sentence___init__ : PySem.W.codeIn K cd_Sentence___init__ "Sentence.__init__" = true)
    (k_Sentence___init__ : PySem.W.keepIn K (.ref f_Sentence___init__) = true)
    (d_Sentence___init__ : K.lookup df_Sentence___init__ = some ⟨doc_Sentence___init__, dod_Sentence___init__, .seq [Value.none].toArray dn_Sentence___init__, dsl_Sentence___init__⟩)
    (a__law_pen : PySem.W.nsIn K mainGlobals "_law_pen" = some (some (.ref f__law_pen)))
    (l__law_pen : K.lookup f__law_pen = some ⟨oc__law_pen, od__law_pen, .func (PySem.W.fnOf "_law_pen" "_law_pen" (defArgs s__law_pen) (defBody s__law_pen) (defScope s__law_pen) .none kV__law_pen dc__law_pen pm__law_pen an__law_pen cd__law_pen ct__law_pen), sl__law_pen⟩)
    (c__law_pen : PySem.W.codeIn K cd__law_pen "_law_pen" = true)
    (k__law_pen : PySem.W.keepIn K (.ref f__law_pen) = true)
    (a__law_draw : PySem.W.nsIn K mainGlobals "_law_draw" = some (some (.ref f__law_draw)))
    (l__law_draw : K.lookup f__law_draw = some ⟨oc__law_draw, od__law_draw, .func (PySem.W.fnOf "_law_draw" "_law_draw" (defArgs s__law_draw) (defBody s__law_draw) (defScope s__law_draw) .none kV__law_draw dc__law_draw pm__law_draw an__law_draw cd__law_draw ct__law_draw), sl__law_draw⟩)
    (c__law_draw : PySem.W.codeIn K cd__law_draw "_law_draw" = true)
    (k__law_draw : PySem.W.keepIn K (.ref f__law_draw) = true)
    (a__law_pick : PySem.W.nsIn K mainGlobals "_law_pick" = some (some (.ref f__law_pick)))
    (l__law_pick : K.lookup f__law_pick = some ⟨oc__law_pick, od__law_pick, .func (PySem.W.fnOf "_law_pick" "_law_pick" (defArgs s__law_pick) (defBody s__law_pick) (defScope s__law_pick) .none kV__law_pick dc__law_pick pm__law_pick an__law_pick cd__law_pick ct__law_pick), sl__law_pick⟩)
    (c__law_pick : PySem.W.codeIn K cd__law_pick "_law_pick" = true)
    (k__law_pick : PySem.W.keepIn K (.ref f__law_pick) = true)
    (a__law_letters : PySem.W.nsIn K mainGlobals "_law_letters" = some (some (.ref f__law_letters)))
    (l__law_letters : K.lookup f__law_letters = some ⟨oc__law_letters, od__law_letters, .func (PySem.W.fnOf "_law_letters" "_law_letters" (defArgs s__law_letters) (defBody s__law_letters) (defScope s__law_letters) .none kV__law_letters dc__law_letters pm__law_letters an__law_letters cd__law_letters ct__law_letters), sl__law_letters⟩)
    (c__law_letters : PySem.W.codeIn K cd__law_letters "_law_letters" = true)
    (k__law_letters : PySem.W.keepIn K (.ref f__law_letters) = true)
    (a__law_normal : PySem.W.nsIn K mainGlobals "_law_normal" = some (some (.ref f__law_normal)))
    (l__law_normal : K.lookup f__law_normal = some ⟨oc__law_normal, od__law_normal, .func (PySem.W.fnOf "_law_normal" "_law_normal" (defArgs s__law_normal) (defBody s__law_normal) (defScope s__law_normal) .none kV__law_normal dc__law_normal pm__law_normal an__law_normal cd__law_normal ct__law_normal), sl__law_normal⟩)
    (c__law_normal : PySem.W.codeIn K cd__law_normal "_law_normal" = true)
    (k__law_normal : PySem.W.keepIn K (.ref f__law_normal) = true)
    (a__law_triple : PySem.W.nsIn K mainGlobals "_law_triple" = some (some (.ref f__law_triple)))
    (l__law_triple : K.lookup f__law_triple = some ⟨oc__law_triple, od__law_triple, .func (PySem.W.fnOf "_law_triple" "_law_triple" (defArgs s__law_triple) (defBody s__law_triple) (defScope s__law_triple) .none kV__law_triple dc__law_triple pm__law_triple an__law_triple cd__law_triple ct__law_triple), sl__law_triple⟩)
    (c__law_triple : PySem.W.codeIn K cd__law_triple "_law_triple" = true)
    (k__law_triple : PySem.W.keepIn K (.ref f__law_triple) = true)
    (a__law_drawn : PySem.W.nsIn K mainGlobals "_law_drawn" = some (some (.ref f__law_drawn)))
    (l__law_drawn : K.lookup f__law_drawn = some ⟨oc__law_drawn, od__law_drawn, .func (PySem.W.fnOf "_law_drawn" "_law_drawn" (defArgs s__law_drawn) (defBody s__law_drawn) (defScope s__law_drawn) .none kV__law_drawn dc__law_drawn pm__law_drawn an__law_drawn cd__law_drawn ct__law_drawn), sl__law_drawn⟩)
    (c__law_drawn : PySem.W.codeIn K cd__law_drawn "_law_drawn" = true)
    (k__law_drawn : PySem.W.keepIn K (.ref f__law_drawn) = true)
    (a__law_odd : PySem.W.nsIn K mainGlobals "_law_odd" = some (some (.ref f__law_odd)))
    (l__law_odd : K.lookup f__law_odd = some ⟨oc__law_odd, od__law_odd, .func (PySem.W.fnOf "_law_odd" "_law_odd" (defArgs s__law_odd) (defBody s__law_odd) (defScope s__law_odd) .none kV__law_odd dc__law_odd pm__law_odd an__law_odd cd__law_odd ct__law_odd), sl__law_odd⟩)
    (c__law_odd : PySem.W.codeIn K cd__law_odd "_law_odd" = true)
    (k__law_odd : PySem.W.keepIn K (.ref f__law_odd) = true)
    (a__law_due : PySem.W.nsIn K mainGlobals "_law_due" = some (some (.ref f__law_due)))
    (l__law_due : K.lookup f__law_due = some ⟨oc__law_due, od__law_due, .func (PySem.W.fnOf "_law_due" "_law_due" (defArgs s__law_due) (defBody s__law_due) (defScope s__law_due) .none kV__law_due dc__law_due pm__law_due an__law_due cd__law_due ct__law_due), sl__law_due⟩)
    (c__law_due : PySem.W.codeIn K cd__law_due "_law_due" = true)
    (k__law_due : PySem.W.keepIn K (.ref f__law_due) = true)
    (a__law_told : PySem.W.nsIn K mainGlobals "_law_told" = some (some (.ref f__law_told)))
    (l__law_told : K.lookup f__law_told = some ⟨oc__law_told, od__law_told, .func (PySem.W.fnOf "_law_told" "_law_told" (defArgs s__law_told) (defBody s__law_told) (defScope s__law_told) .none kV__law_told dc__law_told pm__law_told an__law_told cd__law_told ct__law_told), sl__law_told⟩)
    (c__law_told : PySem.W.codeIn K cd__law_told "_law_told" = true)
    (k__law_told : PySem.W.keepIn K (.ref f__law_told) = true)
    (a_law : PySem.W.nsIn K mainGlobals "law" = some (some (.ref f_law)))
    (l_law : K.lookup f_law = some ⟨oc_law, od_law, .func (PySem.W.fnOf "law" "law" (defArgs s_law) (defBody s_law) (defScope s_law) .none kV_law dc_law pm_law an_law cd_law ct_law), sl_law⟩)
    (c_law : PySem.W.codeIn K cd_law "law" = true)
    (k_law : PySem.W.keepIn K (.ref f_law) = true)
    (mk_Letters : PySem.W.makesIn K Letters = true)
    (kc_Letters : PySem.W.keepIn K (.ref Letters) = true)
    (mk_Sentence : PySem.W.makesIn K Sentence = true)
    (kc_Sentence : PySem.W.keepIn K (.ref Sentence) = true)
    (h_AsksError : PySem.W.nsIn K mainGlobals "AsksError" = some (some (.ref AsksError)))
    (op_ : PySem.W.nsIn K cStatics "thirdparty.any" = some none)
    (z_super : PySem.W.nsIn K mainGlobals "super" = some none)
    (hst_ : (l.prog.main.scope.names.lookup ("super" : Str)).isSome = false)
    (h_BadLetter : PySem.W.nsIn K mainGlobals "BadLetter" = some (some (.ref BadLetter)))
    (sb_BadLetter : PySem.W.subIn K (.ref BadLetter) (.type "BaseException") = some true)
    (xd_BadLetter : PySem.W.hasDictIn K BadLetter = true)
    (tt_BadLetter : PySem.W.typeIn K (.ref BadLetter) = some (.type "type"))
    (kc_BadLetter : PySem.W.keepIn K (.ref BadLetter) = true)
    (su_BadLetter_BadLetter : PySem.W.subIn K (.ref BadLetter) (.ref BadLetter) = some true)
    (su_BadKind_BadLetter : PySem.W.subIn K (.ref BadKind) (.ref BadLetter) = some false)
    (su_SaysNothing_BadLetter : PySem.W.subIn K (.ref SaysNothing) (.ref BadLetter) = some false)
    (a_BadLetter___init__ : PySem.W.findIn K (.ref BadLetter) "__init__" = some (some (.ref f_BadLetter___init__)))
    (xl_BadLetter : K.lookup BadLetter = some (excClassObj nm_BadLetter q_BadLetter BadLetter N_BadLetter bs_BadLetter [.ref AsksError, .type "ValueError", .type "Exception", .type "BaseException", .type "object"] true sn_BadLetter sub_BadLetter ab_BadLetter col_BadLetter dd_BadLetter m0_BadLetter m1_BadLetter m2_BadLetter m3_BadLetter m5_BadLetter "ValueError.__new__"))
    (xs_BadLetter : PySem.W.findIn K (.ref BadLetter) "__setattr__" = some (some (.builtin "object.__setattr__")))
    (ga_BadLetter : PySem.W.findIn K (.ref BadLetter) "__getattribute__" = some (some (.builtin "BaseException.__getattribute__")))
    (gg_BadLetter : PySem.W.findIn K (.ref BadLetter) "__getattr__" = some none)
    (xa_BadLetter : PySem.W.findIn K (.ref BadLetter) "__class__" = some (some (.builtin "object.__class__")))
    (xn_BadLetter : PySem.W.specialIn K (.builtin "object.__class__") "__get__" = some (some (.builtin "getset_descriptor.__get__")))
    (xt_BadLetter : PySem.W.takesIn K (.builtin "object.__class__") = some true)
    (xm_BadLetter : PySem.W.mroIn K BadLetter (.type "object") = some true)
    (na_BadLetter_index : PySem.W.findIn K (.ref BadLetter) "index" = some none)
    (l_BadLetter___init__ : K.lookup f_BadLetter___init__ = some ⟨oc_BadLetter, od_BadLetter, .func ((F_BadLetter cc_BadLetter c_BadLetter).fd doc_BadLetter pm_BadLetter ctv_BadLetter), osl_BadLetter⟩)
    (cd_BadLetter : PySem.W.codeIn K (.ref c_BadLetter) "BadLetter.__init__" = true)
    (cl_BadLetter : K.lookup cc_BadLetter = some ⟨e1_BadLetter, e2_BadLetter, .cell (some (.ref BadLetter)), e5_BadLetter⟩)
    (fl_BadLetter : K.lookup c_BadLetter = some ⟨e3_BadLetter, e4_BadLetter, .fields vs_BadLetter, e6_BadLetter⟩)
    (rv_BadLetter : vs_BadLetter[2]? = some (.str file_BadLetter tf_BadLetter))
    (rf_BadLetter : ((l.prog.main.file : Str) == file_BadLetter) = true)
    (me_BadLetter : PySem.W.mroIn K BadLetter (.ref BadLetter) = some true)
    (up_BadLetter : PySem.W.ks_superIn K BadLetter BadLetter "__init__" = some (some (.builtin "ValueError.__init__")))
    (ve_BadLetter : PySem.W.subIn K (.ref BadLetter) (.type "ValueError") = some true)
    (ty_BadLetter : PySem.W.typeIn K (.ref f_BadLetter___init__) = some (.type "function"))
    (h_BadKind : PySem.W.nsIn K mainGlobals "BadKind" = some (some (.ref BadKind)))
    (sb_BadKind : PySem.W.subIn K (.ref BadKind) (.type "BaseException") = some true)
    (xd_BadKind : PySem.W.hasDictIn K BadKind = true)
    (tt_BadKind : PySem.W.typeIn K (.ref BadKind) = some (.type "type"))
    (kc_BadKind : PySem.W.keepIn K (.ref BadKind) = true)
    (su_BadLetter_BadKind : PySem.W.subIn K (.ref BadLetter) (.ref BadKind) = some false)
    (su_BadKind_BadKind : PySem.W.subIn K (.ref BadKind) (.ref BadKind) = some true)
    (su_SaysNothing_BadKind : PySem.W.subIn K (.ref SaysNothing) (.ref BadKind) = some false)
    (xq_BadKind : PySem.W.excIn K BadKind [.type "ValueError", .type "Exception", .type "BaseException", .type "object"] "ValueError.__new__" = true)
    (h_SaysNothing : PySem.W.nsIn K mainGlobals "SaysNothing" = some (some (.ref SaysNothing)))
    (sb_SaysNothing : PySem.W.subIn K (.ref SaysNothing) (.type "BaseException") = some true)
    (xd_SaysNothing : PySem.W.hasDictIn K SaysNothing = true)
    (tt_SaysNothing : PySem.W.typeIn K (.ref SaysNothing) = some (.type "type"))
    (kc_SaysNothing : PySem.W.keepIn K (.ref SaysNothing) = true)
    (su_BadLetter_SaysNothing : PySem.W.subIn K (.ref BadLetter) (.ref SaysNothing) = some false)
    (su_BadKind_SaysNothing : PySem.W.subIn K (.ref BadKind) (.ref SaysNothing) = some false)
    (su_SaysNothing_SaysNothing : PySem.W.subIn K (.ref SaysNothing) (.ref SaysNothing) = some true)
    (xq_SaysNothing : PySem.W.excIn K SaysNothing [.type "ValueError", .type "Exception", .type "BaseException", .type "object"] "ValueError.__new__" = true)
    : ∃ fd : FuncData, (∀ (s : Shared) (v : Value), BindsTo s fd ⟨[v], []⟩ [("_law_script", v)]) ∧ ∀ base : Heap, K.In base → base.Ns mainGlobals mg → FnOk l.prog w K mg base CX0 9 fa fd ["_law_script"] (spLaw K) := by
  have e := hfa.symm.trans (PySem.W.mg_of X G a_law)
  cases e
  have T : Txt l.prog K mg ⟨Letters, Sentence, BadLetter, f_BadLetter___init__, BadKind, SaysNothing, MOST_LETTERS, BEGINNINGS, SMALL, SIGNS, KINDS, SINGLE, f_is_word, f_is_beginning, f_is_letter, f_Letters___contains__, f_Letters___init__, f_Letters_rank, f_is_one_of, f_Sentence___init__, f__law_pen, f__law_draw, f__law_pick, f__law_letters, f__law_normal, f__law_triple, f__law_drawn, f__law_odd, f__law_due, f__law_told, fa⟩ := {
    n_ValueError := PySem.W.mg_none_of X G z_ValueError,
    n_abs := PySem.W.mg_none_of X G z_abs,
    n_all := PySem.W.mg_none_of X G z_all,
    n_enumerate := PySem.W.mg_none_of X G z_enumerate,
    n_int := PySem.W.mg_none_of X G z_int,
    n_isinstance := PySem.W.mg_none_of X G z_isinstance,
    n_len := PySem.W.mg_none_of X G z_len,
    n_list := PySem.W.mg_none_of X G z_list,
    n_min := PySem.W.mg_none_of X G z_min,
    n_range := PySem.W.mg_none_of X G z_range,
    n_str := PySem.W.mg_none_of X G z_str,
    n_tuple := PySem.W.mg_none_of X G z_tuple,
    g_MOST_LETTERS := PySem.W.mg_of X G h_MOST_LETTERS,
    g_BEGINNINGS := PySem.W.mg_of X G h_BEGINNINGS,
    k_BEGINNINGS := fun H => .inr ⟨_, _, _, lk_BEGINNINGS, rfl, rfl, by show 2 ≤ sizeLine; decide, (.cons ⟨_, rfl⟩ (.cons ⟨_, rfl⟩ .nil))⟩,
    g_SMALL := PySem.W.mg_of X G h_SMALL,
    g_SIGNS := PySem.W.mg_of X G h_SIGNS,
    g_KINDS := PySem.W.mg_of X G h_KINDS,
    k_KINDS := fun H => .inr ⟨_, _, _, lk_KINDS, rfl, rfl, by show 6 ≤ sizeLine; decide, (.cons ⟨_, rfl⟩ (.cons ⟨_, rfl⟩ (.cons ⟨_, rfl⟩ (.cons ⟨_, rfl⟩ (.cons ⟨_, rfl⟩ (.cons ⟨_, rfl⟩ .nil))))))⟩,
    g_SINGLE := PySem.W.mg_of X G h_SINGLE,
    k_SINGLE := fun H => .inr ⟨_, _, _, lk_SINGLE, rfl, rfl, by show 2 ≤ sizeLine; decide, (.cons ⟨_, rfl⟩ (.cons ⟨_, rfl⟩ .nil))⟩,
    g_Letters := PySem.W.mg_of X G h_Letters,
    cl_Letters := ⟨pg_Letters, hd_Letters, po_Letters, sa_Letters⟩,
    na_Letters_words := na_Letters_words,
    isi_Letters := ⟨ia_Letters, in_Letters, it_Letters, im_Letters, if_pos (beq_self_eq_true _)⟩,
    g_Sentence := PySem.W.mg_of X G h_Sentence,
    cl_Sentence := ⟨pg_Sentence, hd_Sentence, po_Sentence, sa_Sentence⟩,
    na_Sentence_letters := na_Sentence_letters,
    na_Sentence_kind := na_Sentence_kind,
    na_Sentence_first := na_Sentence_first,
    na_Sentence_second := na_Sentence_second,
    F_is_word := ⟨_, fun_mk (st := s_is_word) l_is_word c_is_word k_is_word, (fun_mk (st := s_is_word) l_is_word c_is_word k_is_word).binds (ps := ["value"]) fun _ _ _ _ _ _ us hl => match us, hl with | [_], _ => rfl⟩,
    g_is_word := PySem.W.mg_of X G a_is_word,
    F_is_beginning := ⟨_, fun_mk (st := s_is_beginning) l_is_beginning c_is_beginning k_is_beginning, (fun_mk (st := s_is_beginning) l_is_beginning c_is_beginning k_is_beginning).binds (ps := ["value"]) fun _ _ _ _ _ _ us hl => match us, hl with | [_], _ => rfl⟩,
    g_is_beginning := PySem.W.mg_of X G a_is_beginning,
    F_is_letter := ⟨_, fun_mk (st := s_is_letter) l_is_letter c_is_letter k_is_letter, (fun_mk (st := s_is_letter) l_is_letter c_is_letter k_is_letter).binds (ps := ["value"]) fun _ _ _ _ _ _ us hl => match us, hl with | [_], _ => rfl⟩,
    g_is_letter := PySem.W.mg_of X G a_is_letter,
    F_Letters___contains__ := ⟨_, fun_mk (st := s_Letters___contains__) l_Letters___contains__ c_Letters___contains__ k_Letters___contains__, (fun_mk (st := s_Letters___contains__) l_Letters___contains__ c_Letters___contains__ k_Letters___contains__).binds (ps := ["self", "x"]) fun _ _ _ _ _ _ us hl => match us, hl with | [_, _], _ => rfl⟩,
    m_Letters___contains__ := ⟨a_Letters___contains__, i_Letters___contains__, k_Letters___contains__⟩,
    F_Letters___init__ := ⟨_, fun_mk (st := s_Letters___init__) l_Letters___init__ c_Letters___init__ k_Letters___init__, (fun_mk (st := s_Letters___init__) l_Letters___init__ c_Letters___init__ k_Letters___init__).binds (ps := ["self", "words"]) fun _ _ _ _ _ _ us hl => match us, hl with | [_, _], _ => rfl⟩,
    F_Letters_rank := ⟨_, fun_mk (st := s_Letters_rank) l_Letters_rank c_Letters_rank k_Letters_rank, (fun_mk (st := s_Letters_rank) l_Letters_rank c_Letters_rank k_Letters_rank).binds (ps := ["self", "x"]) fun _ _ _ _ _ _ us hl => match us, hl with | [_, _], _ => rfl⟩,
    m_Letters_rank := ⟨a_Letters_rank, i_Letters_rank, k_Letters_rank⟩,
    F_is_one_of := ⟨_, fun_mk (st := s_is_one_of) l_is_one_of c_is_one_of k_is_one_of, (fun_mk (st := s_is_one_of) l_is_one_of c_is_one_of k_is_one_of).binds (ps := ["value", "words"]) fun _ _ _ _ _ _ us hl => match us, hl with | [_, _], _ => rfl⟩,
    g_is_one_of := PySem.W.mg_of X G a_is_one_of,
    F_Sentence___init__ := ⟨_, ⟨_, _, _, _, _, _, _, _, _, _, rfl, l_Sentence___init__, c_Sentence___init__, .inr ⟨(by intro z; cases z), _, _, _, _, rfl, d_Sentence___init__, rfl, (.cons rfl .nil)⟩, .inl rfl⟩, k_Sentence___init__⟩,
    F__law_pen := ⟨_, fun_mk (st := s__law_pen) l__law_pen c__law_pen k__law_pen, (fun_mk (st := s__law_pen) l__law_pen c__law_pen k__law_pen).binds (ps := ["_law_script"]) fun _ _ _ _ _ _ us hl => match us, hl with | [_], _ => rfl⟩,
    g__law_pen := PySem.W.mg_of X G a__law_pen,
    F__law_draw := ⟨_, fun_mk (st := s__law_draw) l__law_draw c__law_draw k__law_draw, (fun_mk (st := s__law_draw) l__law_draw c__law_draw k__law_draw).binds (ps := ["_law_pen_here", "_law_many"]) fun _ _ _ _ _ _ us hl => match us, hl with | [_, _], _ => rfl⟩,
    g__law_draw := PySem.W.mg_of X G a__law_draw,
    F__law_pick := ⟨_, fun_mk (st := s__law_pick) l__law_pick c__law_pick k__law_pick, (fun_mk (st := s__law_pick) l__law_pick c__law_pick k__law_pick).binds (ps := ["_law_pen_here", "_law_options"]) fun _ _ _ _ _ _ us hl => match us, hl with | [_, _], _ => rfl⟩,
    g__law_pick := PySem.W.mg_of X G a__law_pick,
    F__law_letters := ⟨_, fun_mk (st := s__law_letters) l__law_letters c__law_letters k__law_letters, (fun_mk (st := s__law_letters) l__law_letters c__law_letters k__law_letters).binds (ps := ["_law_pen_here", "_law_many"]) fun _ _ _ _ _ _ us hl => match us, hl with | [_, _], _ => rfl⟩,
    g__law_letters := PySem.W.mg_of X G a__law_letters,
    F__law_normal := ⟨_, fun_mk (st := s__law_normal) l__law_normal c__law_normal k__law_normal, (fun_mk (st := s__law_normal) l__law_normal c__law_normal k__law_normal).binds (ps := ["_law_letters_here", "_law_triple_here"]) fun _ _ _ _ _ _ us hl => match us, hl with | [_, _], _ => rfl⟩,
    g__law_normal := PySem.W.mg_of X G a__law_normal,
    F__law_triple := ⟨_, fun_mk (st := s__law_triple) l__law_triple c__law_triple k__law_triple, (fun_mk (st := s__law_triple) l__law_triple c__law_triple k__law_triple).binds (ps := ["_law_sentence"]) fun _ _ _ _ _ _ us hl => match us, hl with | [_], _ => rfl⟩,
    g__law_triple := PySem.W.mg_of X G a__law_triple,
    F__law_drawn := ⟨_, fun_mk (st := s__law_drawn) l__law_drawn c__law_drawn k__law_drawn, (fun_mk (st := s__law_drawn) l__law_drawn c__law_drawn k__law_drawn).binds (ps := ["_law_pen_here", "_law_letters_here"]) fun _ _ _ _ _ _ us hl => match us, hl with | [_, _], _ => rfl⟩,
    g__law_drawn := PySem.W.mg_of X G a__law_drawn,
    F__law_odd := ⟨_, fun_mk (st := s__law_odd) l__law_odd c__law_odd k__law_odd, (fun_mk (st := s__law_odd) l__law_odd c__law_odd k__law_odd).binds (ps := ["_law_pen_here", "_law_letters_here"]) fun _ _ _ _ _ _ us hl => match us, hl with | [_, _], _ => rfl⟩,
    g__law_odd := PySem.W.mg_of X G a__law_odd,
    F__law_due := ⟨_, fun_mk (st := s__law_due) l__law_due c__law_due k__law_due, (fun_mk (st := s__law_due) l__law_due c__law_due k__law_due).binds (ps := ["_law_letters_here", "_law_kind", "_law_first", "_law_second"]) fun _ _ _ _ _ _ us hl => match us, hl with | [_, _, _, _], _ => rfl⟩,
    g__law_due := PySem.W.mg_of X G a__law_due,
    F__law_told := ⟨_, fun_mk (st := s__law_told) l__law_told c__law_told k__law_told, (fun_mk (st := s__law_told) l__law_told c__law_told k__law_told).binds (ps := ["_law_letters_here", "_law_kind", "_law_first", "_law_second"]) fun _ _ _ _ _ _ us hl => match us, hl with | [_, _, _, _], _ => rfl⟩,
    g__law_told := PySem.W.mg_of X G a__law_told,
    F_law := ⟨_, fun_mk (st := s_law) l_law c_law k_law, (fun_mk (st := s_law) l_law c_law k_law).binds (ps := ["_law_script"]) fun _ _ _ _ _ _ us hl => match us, hl with | [_], _ => rfl⟩,
    g_law := PySem.W.mg_of X G a_law,
    mk_Letters := ⟨mk_Letters, a_Letters___init__, i_Letters___init__, kc_Letters⟩,
    mk_Sentence := ⟨mk_Sentence, a_Sentence___init__, i_Sentence___init__, kc_Sentence⟩,
    g_BadLetter := PySem.W.mg_of X G h_BadLetter,
    ex_BadLetter := ⟨sb_BadLetter, xd_BadLetter, tt_BadLetter⟩,
    em_BadLetter_BadLetter := ExmC.em ⟨sb_BadLetter, xd_BadLetter, tt_BadLetter⟩ su_BadLetter_BadLetter,
    em_BadKind_BadLetter := ExmC.em ⟨sb_BadLetter, xd_BadLetter, tt_BadLetter⟩ su_BadKind_BadLetter,
    em_SaysNothing_BadLetter := ExmC.em ⟨sb_BadLetter, xd_BadLetter, tt_BadLetter⟩ su_SaysNothing_BadLetter,
    xf_BadLetter := ⟨ga_BadLetter, gg_BadLetter, sb_BadLetter, xd_BadLetter⟩,
    xe_BadLetter := ⟨ga_BadLetter, gg_BadLetter, sb_BadLetter, xd_BadLetter, xa_BadLetter, xn_BadLetter, xt_BadLetter, xm_BadLetter⟩,
    na_BadLetter_index := na_BadLetter_index,
    xi_BadLetter := ⟨cc_BadLetter, c_BadLetter, doc_BadLetter, pm_BadLetter, ctv_BadLetter, ⟨⟨_, _, _, l_BadLetter___init__⟩, cd_BadLetter, ⟨cc_BadLetter, _, _, _, rfl, cl_BadLetter⟩, ⟨_, rfl, rfl⟩, ⟨_, _, _, _, _, _, fl_BadLetter, rv_BadLetter, rf_BadLetter⟩, me_BadLetter, PySem.W.mg_none_of X G z_super, rfl, hst_, op_, up_BadLetter, ve_BadLetter, ⟨⟨_, _, _, _, _, _, _, _, _, _, _, _, _, _, _, xl_BadLetter, rfl⟩, xs_BadLetter, sb_BadLetter, tt_BadLetter, kc_BadLetter⟩⟩, fun s us _ hl => match us, hl with | [_, _], _ => .of_eq rfl⟩,
    kv_BadLetter := kit_own ve_BadLetter,
    in_BadLetter := a_BadLetter___init__,
    ty_BadLetter := ty_BadLetter,
    g_BadKind := PySem.W.mg_of X G h_BadKind,
    ex_BadKind := ⟨sb_BadKind, xd_BadKind, tt_BadKind⟩,
    em_BadLetter_BadKind := ExmC.em ⟨sb_BadKind, xd_BadKind, tt_BadKind⟩ su_BadLetter_BadKind,
    em_BadKind_BadKind := ExmC.em ⟨sb_BadKind, xd_BadKind, tt_BadKind⟩ su_BadKind_BadKind,
    em_SaysNothing_BadKind := ExmC.em ⟨sb_BadKind, xd_BadKind, tt_BadKind⟩ su_SaysNothing_BadKind,
    x0_BadKind := ⟨⟨_, PySem.F.excBase_ValueError, xq_BadKind⟩, PySem.W.mg_of X G h_BadKind, kc_BadKind, sb_BadKind, tt_BadKind⟩,
    g_SaysNothing := PySem.W.mg_of X G h_SaysNothing,
    ex_SaysNothing := ⟨sb_SaysNothing, xd_SaysNothing, tt_SaysNothing⟩,
    em_BadLetter_SaysNothing := ExmC.em ⟨sb_SaysNothing, xd_SaysNothing, tt_SaysNothing⟩ su_BadLetter_SaysNothing,
    em_BadKind_SaysNothing := ExmC.em ⟨sb_SaysNothing, xd_SaysNothing, tt_SaysNothing⟩ su_BadKind_SaysNothing,
    em_SaysNothing_SaysNothing := ExmC.em ⟨sb_SaysNothing, xd_SaysNothing, tt_SaysNothing⟩ su_SaysNothing_SaysNothing,
    x0_SaysNothing := ⟨⟨_, PySem.F.excBase_ValueError, xq_SaysNothing⟩, PySem.W.mg_of X G h_SaysNothing, kc_SaysNothing, sb_SaysNothing, tt_SaysNothing⟩ }
  refine ⟨PySem.W.fnOf "law" "law" (defArgs s_law) (defBody s_law) (defScope s_law) .none kV_law dc_law pm_law an_law cd_law ct_law, fun s v => .of_eq rfl, fun base _ _ => ?_⟩
  exact ok_law T (fun_mk (st := s_law) l_law c_law k_law)
theorem walk {l : PySem.W.OpenLaw} {q : Program} {loose : List Str} {XP : (Str → Option Value) → Heap → Prop} {YP : World → Heap → Prop} {d : DefRec} {K : Params → PySem.W.Frag} (hn : l.most = some 63) (hdf : d.params.defaults = [])
    (hY : ∀ (w : World) (h : Heap), YP w h → (K w.params).In h)
    (F : ∀ (w : World) (mg : Str → Option Value) (fa : Addr) (h : Heap), (K w.params).In h → h.Ns mainGlobals mg → mg d.name = some (.ref fa) →
      ∃ fd : FuncData, (∀ (s : Shared) (u : Value), BindsTo s fd ⟨[u], []⟩ [("_law_script", u)]) ∧ ∀ base : Heap, (K w.params).In base → base.Ns mainGlobals mg → FnOk l.prog w (K w.params) mg base CX0 9 fa fd ["_law_script"] (spLaw (K w.params))) :
    PySem.W.WalkO q loose XP YP l.row.toRowW d [] (fun f vs => PySem.call f vs) :=
  L2.walk_ofK (n := 63) (k := 9) (x := "_law_script") (CX := CX0) (sp := spLaw) hn (by decide) hdf ⟨rfl, by decide, by decide⟩ hY F (fun K H a ns hl _ hS => ⟨a, ns, rfl, hS, fun _ => rfl⟩) fun _ _ _ _ z => z
end K08
open PySem PySem.W PyProof.Rows
set_option maxRecDepth 100000 in
set_option maxHeartbeats 0 in
theorem PySem.Challenge.cw_asksmore_k08_sentences_refused_holds : PySem.Challenge.rw_asksmore_k08_sentences_refused.Holds := by
  w_on; o_law; k_head; (case hw => w_witness2)
  k_fill
  refine K08.walk (l := PySem.Challenge.rw_asksmore_k08_sentences_refused) rfl rfl (fun w h Y => PySem.W.kIn_of Y) ?F
  case F =>
    intro w mg fa h KX G hmg
    refine' K08.all_mk KX G hmg ?z_ValueError ?z_abs ?z_all ?z_enumerate ?z_int ?z_isinstance ?z_len ?z_list ?z_min ?z_range ?z_str ?z_tuple ?h_MOST_LETTERS ?h_BEGINNINGS ?lk_BEGINNINGS ?h_SMALL ?h_SIGNS ?h_KINDS ?lk_KINDS ?h_SINGLE ?lk_SINGLE ?h_Letters ?pg_Letters ?hd_Letters ?po_Letters ?sa_Letters ?na_Letters_words ?ia_Letters ?in_Letters ?it_Letters ?im_Letters ?h_Sentence ?pg_Sentence ?hd_Sentence ?po_Sentence ?sa_Sentence ?na_Sentence_letters ?na_Sentence_kind ?na_Sentence_first ?na_Sentence_second ?a_is_word ?l_is_word ?c_is_word ?k_is_word ?a_is_beginning ?l_is_beginning ?c_is_beginning ?k_is_beginning ?a_is_letter ?l_is_letter ?c_is_letter ?k_is_letter ?a_Letters___contains__ ?i_Letters___contains__ ?l_Letters___contains__ ?c_Letters___contains__ ?k_Letters___contains__ ?a_Letters___init__ ?i_Letters___init__ ?l_Letters___init__ ?c_Letters___init__ ?k_Letters___init__ ?a_Letters_rank ?i_Letters_rank ?l_Letters_rank ?c_Letters_rank ?k_Letters_rank ?a_is_one_of ?l_is_one_of ?c_is_one_of ?k_is_one_of ?a_Sentence___init__ ?i_Sentence___init__ ?l_Sentence___init__ ?c_Sentence___init__ ?k_Sentence___init__ ?d_Sentence___init__ ?a__law_pen ?l__law_pen ?c__law_pen ?k__law_pen ?a__law_draw ?l__law_draw ?c__law_draw ?k__law_draw ?a__law_pick ?l__law_pick ?c__law_pick ?k__law_pick ?a__law_letters ?l__law_letters ?c__law_letters ?k__law_letters ?a__law_normal ?l__law_normal ?c__law_normal ?k__law_normal ?a__law_triple ?l__law_triple ?c__law_triple ?k__law_triple ?a__law_drawn ?l__law_drawn ?c__law_drawn ?k__law_drawn ?a__law_odd ?l__law_odd ?c__law_odd ?k__law_odd ?a__law_due ?l__law_due ?c__law_due ?k__law_due ?a__law_told ?l__law_told ?c__law_told ?k__law_told ?a_law ?l_law ?c_law ?k_law ?mk_Letters ?kc_Letters ?mk_Sentence ?kc_Sentence ?h_AsksError ?op_ ?z_super ?hst_ ?h_BadLetter ?sb_BadLetter ?xd_BadLetter ?tt_BadLetter ?kc_BadLetter ?su_BadLetter_BadLetter ?su_BadKind_BadLetter ?su_SaysNothing_BadLetter ?a_BadLetter___init__ ?xl_BadLetter ?xs_BadLetter ?ga_BadLetter ?gg_BadLetter ?xa_BadLetter ?xn_BadLetter ?xt_BadLetter ?xm_BadLetter ?na_BadLetter_index ?l_BadLetter___init__ ?cd_BadLetter ?cl_BadLetter ?fl_BadLetter ?rv_BadLetter ?rf_BadLetter ?me_BadLetter ?up_BadLetter ?ve_BadLetter ?ty_BadLetter ?h_BadKind ?sb_BadKind ?xd_BadKind ?tt_BadKind ?kc_BadKind ?su_BadLetter_BadKind ?su_BadKind_BadKind ?su_SaysNothing_BadKind ?xq_BadKind ?h_SaysNothing ?sb_SaysNothing ?xd_SaysNothing ?tt_SaysNothing ?kc_SaysNothing ?su_BadLetter_SaysNothing ?su_BadKind_SaysNothing ?su_SaysNothing_SaysNothing ?xq_SaysNothing
    (case h_MOST_LETTERS => k_is)
    (case h_BEGINNINGS => k_is)
    (case h_SMALL => k_is)
    (case h_SIGNS => k_is)
    (case h_KINDS => k_is)
    (case h_SINGLE => k_is)
    (case h_Letters => k_is)
    (case h_Sentence => k_is)
    (case h_AsksError => k_is)
    (case h_BadLetter => k_is)
    (case h_BadKind => k_is)
    (case h_SaysNothing => k_is)
    (case a_is_word => k_is)
    (case a_is_beginning => k_is)
    (case a_is_letter => k_is)
    (case a_Letters___contains__ => k_is)
    (case a_Letters___init__ => k_is)
    (case a_Letters_rank => k_is)
    (case a_is_one_of => k_is)
    (case a_Sentence___init__ => k_is)
    (case a__law_pen => k_is)
    (case a__law_draw => k_is)
    (case a__law_pick => k_is)
    (case a__law_letters => k_is)
    (case a__law_normal => k_is)
    (case a__law_triple => k_is)
    (case a__law_drawn => k_is)
    (case a__law_odd => k_is)
    (case a__law_due => k_is)
    (case a__law_told => k_is)
    (case a_law => k_is)
    (case a_BadLetter___init__ => k_is)
    (case l_is_word => k_is)
    (case l_is_beginning => k_is)
    (case l_is_letter => k_is)
    (case l_Letters___contains__ => k_is)
    (case l_Letters___init__ => k_is)
    (case l_Letters_rank => k_is)
    (case l_is_one_of => k_is)
    (case l_Sentence___init__ => k_is)
    (case l__law_pen => k_is)
    (case l__law_draw => k_is)
    (case l__law_pick => k_is)
    (case l__law_letters => k_is)
    (case l__law_normal => k_is)
    (case l__law_triple => k_is)
    (case l__law_drawn => k_is)
    (case l__law_odd => k_is)
    (case l__law_due => k_is)
    (case l__law_told => k_is)
    (case l_law => k_is)
    (case l_BadLetter___init__ => k_is)
    (case z_ValueError => k_is)
    (case z_abs => k_is)
    (case z_all => k_is)
    (case z_enumerate => k_is)
    (case z_int => k_is)
    (case z_isinstance => k_is)
    (case z_len => k_is)
    (case z_list => k_is)
    (case z_min => k_is)
    (case z_range => k_is)
    (case z_str => k_is)
    (case z_tuple => k_is)
    (case lk_BEGINNINGS => k_is)
    (case lk_KINDS => k_is)
    (case lk_SINGLE => k_is)
    (case pg_Letters => k_is)
    (case hd_Letters => k_is)
    (case po_Letters => k_is)
    (case sa_Letters => k_is)
    (case na_Letters_words => k_is)
    (case ia_Letters => k_is)
    (case in_Letters => k_is)
    (case it_Letters => k_is)
    (case im_Letters => k_is)
    (case pg_Sentence => k_is)
    (case hd_Sentence => k_is)
    (case po_Sentence => k_is)
    (case sa_Sentence => k_is)
    (case na_Sentence_letters => k_is)
    (case na_Sentence_kind => k_is)
    (case na_Sentence_first => k_is)
    (case na_Sentence_second => k_is)
    (case c_is_word => k_is)
    (case k_is_word => k_is)
    (case c_is_beginning => k_is)
    (case k_is_beginning => k_is)
    (case c_is_letter => k_is)
    (case k_is_letter => k_is)
    (case i_Letters___contains__ => k_is)
    (case c_Letters___contains__ => k_is)
    (case k_Letters___contains__ => k_is)
    (case i_Letters___init__ => k_is)
    (case c_Letters___init__ => k_is)
    (case k_Letters___init__ => k_is)
    (case i_Letters_rank => k_is)
    (case c_Letters_rank => k_is)
    (case k_Letters_rank => k_is)
    (case c_is_one_of => k_is)
    (case k_is_one_of => k_is)
    (case i_Sentence___init__ => k_is)
    (case c_Sentence___init__ => k_is)
    (case k_Sentence___init__ => k_is)
    (case d_Sentence___init__ => k_is)
    (case c__law_pen => k_is)
    (case k__law_pen => k_is)
    (case c__law_draw => k_is)
    (case k__law_draw => k_is)
    (case c__law_pick => k_is)
    (case k__law_pick => k_is)
    (case c__law_letters => k_is)
    (case k__law_letters => k_is)
    (case c__law_normal => k_is)
    (case k__law_normal => k_is)
    (case c__law_triple => k_is)
    (case k__law_triple => k_is)
    (case c__law_drawn => k_is)
    (case k__law_drawn => k_is)
    (case c__law_odd => k_is)
    (case k__law_odd => k_is)
    (case c__law_due => k_is)
    (case k__law_due => k_is)
    (case c__law_told => k_is)
    (case k__law_told => k_is)
    (case c_law => k_is)
    (case k_law => k_is)
    (case mk_Letters => k_is)
    (case kc_Letters => k_is)
    (case mk_Sentence => k_is)
    (case kc_Sentence => k_is)
    (case op_ => k_is)
    (case z_super => k_is)
    (case hst_ => rfl)
    (case sb_BadLetter => k_is)
    (case xd_BadLetter => k_is)
    (case tt_BadLetter => k_is)
    (case kc_BadLetter => k_is)
    (case su_BadLetter_BadLetter => k_is)
    (case su_BadKind_BadLetter => k_is)
    (case su_SaysNothing_BadLetter => k_is)
    (case xl_BadLetter => k_is)
    (case xs_BadLetter => k_is)
    (case ga_BadLetter => k_is)
    (case gg_BadLetter => k_is)
    (case xa_BadLetter => k_is)
    (case xn_BadLetter => k_is)
    (case xt_BadLetter => k_is)
    (case xm_BadLetter => k_is)
    (case na_BadLetter_index => k_is)
    (case cd_BadLetter => k_is)
    (case cl_BadLetter => k_is)
    (case fl_BadLetter => k_is)
    (case rv_BadLetter => rfl)
    (case rf_BadLetter => decide +kernel)
    (case me_BadLetter => k_is)
    (case up_BadLetter => ks_is)
    (case ve_BadLetter => k_is)
    (case ty_BadLetter => k_is)
    (case sb_BadKind => k_is)
    (case xd_BadKind => k_is)
    (case tt_BadKind => k_is)
    (case kc_BadKind => k_is)
    (case su_BadLetter_BadKind => k_is)
    (case su_BadKind_BadKind => k_is)
    (case su_SaysNothing_BadKind => k_is)
    (case xq_BadKind => k_exc)
    (case sb_SaysNothing => k_is)
    (case xd_SaysNothing => k_is)
    (case tt_SaysNothing => k_is)
    (case kc_SaysNothing => k_is)
    (case su_BadLetter_SaysNothing => k_is)
    (case su_BadKind_SaysNothing => k_is)
    (case su_SaysNothing_SaysNothing => k_is)
    (case xq_SaysNothing => k_exc)
