import PyProof.Rows.All
import Wide.All
import OpenK.AllK
import Wide.FinOn
import PyProof.InstNe
import HandS.ForMost
import HandS.Strs
import HandS.Style
import HandS.TupAny
import HandS.Wide
import HandS.Defaults
import HandS.IsInst
import HandS.More
import HandS.Codes
import HandS.OwnEq
import HandS.Evl
import KE.GoesEnum
import KE.KExcSuper
import HandS.ExcInit
import HandS.Nested
import HandS.TryMany
import HandS.FStr
import HandS.ExcField
import HandS.ExcOwn
import HandS.ExcIs
import HandS.WordsExc
import KE.KExcIs
import PyProof.ReprRoads
import HandS.Deep
import HandS.MakeKw
import HandS.Star
import KE.KOpsOwn
import HandS.Conv
import HandS.Set
import HandS.SetTxt0
import HandS.TupSets
import PyProof.Rows.SortStr
import PyProof.Rows.SetFrom
import HandS.Property
import HandS.ClsMeth
import KE.KCallOwn
import PySem.Challenge.RW_asksmore_k09_limits_and_answers
set_option Elab.async false
set_option linter.all false
set_option maxRecDepth 100000
set_option maxHeartbeats 4000000
namespace Aq
open PySem L2

/-! ### defs, classes and methods in one word each -/
section
variable (P : Program) (w : World) (K : PySem.W.Frag) (mg : Str → Option Value) (base : Heap)
structure Cal (k : Nat) (x : Str) (ps : List Str) (sp : Sp) : Prop where
  ex : ∃ (f : Addr) (fd : FuncData), FnOk P w K mg base CX0 k f fd ps sp ∧ mg x = some (.ref f) ∧ PySem.W.keepIn K (.ref f) = true ∧ Binds K fd ps []
structure Ctr (k : Nat) (x : Str) (C : Addr) (ps : List Str) (dvs : List V) (sp : Sp) : Prop where
  ex : ∃ (f : Addr) (fd : FuncData) (ds : List Value), Mk K C f ∧ FnOk P w K mg base CX0 k f fd ps sp ∧ mg x = some (.ref C) ∧ Binds K fd ps ds ∧ Vals dvs ds
structure Mth (k : Nat) (C : Addr) (m : Str) (ps : List Str) (sp : Sp) : Prop where
  cl : Cls K C
  ex : ∃ (f : Addr) (fd : FuncData), Meth K C m f ∧ FnOk P w K mg base CX0 k f fd ps sp ∧ Binds K fd ps []
end
section
variable {X : Cx} {k j : Nat} {x m : Str} {C : Addr} {ps : List Str} {dvs : List V} {sp : Sp} {e o : Expr} {es : List Expr} {ta : TE} {t : TA} {p pos apos : Pos}
theorem pe_callC (c : Cal X.prog X.w X.K X.mg X.base k x ps sp) (hr : Room j X.A) (ha : PA X (e :: es) t) (hk : k ≤ j := by decide) (hg : Gl X x := by rfl)
    (hdb : (x == ("__debug__" : Str)) = false := by decide) (he : starEach (e :: es) X.env = (false, eval e X.env) :: starEach es X.env := by rfl) (hpl : (backTo pos (starEach es X.env)).any (·.1) = false := by rfl) :
    PE X (.Call (.Name x p) (e :: es) [] pos) (tCall sp [] E0 t) := by
  obtain ⟨f, fd, F, hm, kp, b⟩ := c.ex
  exact pe_call F (hr.mono hk) hg hm kp b .nil pass0 ha hdb he hpl
theorem pe_makeC (c : Ctr X.prog X.w X.K X.mg X.base k x C ps dvs sp) (hr : Room j X.A) (ha : PA X (e :: es) t) (hk : k + 1 ≤ j := by decide) (hg : Gl X x := by rfl)
    (hdb : (x == ("__debug__" : Str)) = false := by decide) (he : starEach (e :: es) X.env = (false, eval e X.env) :: starEach es X.env := by rfl) (hpl : (backTo pos (starEach es X.env)).any (·.1) = false := by rfl) :
    PE X (.Call (.Name x p) (e :: es) [] pos) (tMake C sp dvs E0 t) := by
  obtain ⟨f, fd, ds, M, F, hm, b, hd⟩ := c.ex
  exact pe_make M F (hr.mono hk) hg hm b hd pass0 ha hdb he hpl
theorem pe_methC {pl : Sem Bool} (c : Mth X.prog X.w X.K X.mg X.base k C m ps sp) (hr : Room j X.A) (ho : PE X o ta) (ha : PA X (e :: es) t) (hk : k ≤ j := by decide)
    (hst : starEach (e :: es) X.env = (false, eval e X.env) :: starEach es X.env := by rfl) (hpl : (backTo pos (starEach es X.env)).any (·.1) = false := by rfl)
    (ht : eval (.Call (.Attribute o m apos) (e :: es) [] pos) X.env = (do
      let ov ← eval o X.env
      standAt apos.atName
      let (f, first) ← holding [ov] (getMethod ov m pl)
      callWith pos f first (backTo pos (starEach (e :: es) X.env)) (backToKw pos (keywordEach [] X.env))) := by rfl) :
    PE X (.Call (.Attribute o m apos) (e :: es) [] pos) (tMeth C m sp [] E0 ta t) := by
  obtain ⟨f, fd, M, F, b⟩ := c.ex
  exact pe_meth ho c.cl M F (hr.mono hk) b .nil pass0 ha hst hpl ht

/-! ### x in o, x not in o by an own __contains__; ==, != by an own __eq__ -/
/-- what an own operator gives is a bool -/
def rOwnB (sp : Sp) (g : Bool → Bool) (vs : List V) (H : Hp) (Q : VK) : Prop := sp vs H (fun v H' => ∃ b, v = .bl b ∧ Q (.bl (g b)) H') E0
def rInOwn (C : Addr) (sp : Sp) (g : Bool → Bool) : R2 := fun x y H Q => ∃ a dx fs, y = .ref a ∧ H a = some (.ins C dx fs) ∧ rOwnB sp g [y, x] H Q
theorem own_call {pins : List (Addr × Obj)} {σ : St} {H : Hp} {s : Shared} {Q : VK} {g : Bool → Bool} {f : Addr} {fd : FuncData} {us : List Value} {vs : List V} (F : FnOk X.prog X.w X.K X.mg X.base CX0 k f fd ps sp) (hr : Room k X.A) (hb : Binds X.K fd ps [])
    (I : Inv X pins σ H s) (r : Vals vs us) (h : rOwnB sp g vs H Q) : wpAny (model X.prog X.w) X.A (call (.ref f) us) (fun v s' => ∃ b, v = .bool b ∧ EP X pins σ Q (.bool (g b)) s') X.xe s := by
  refine thn (run_fn F hr hb .nil pass0 I r (by rw [List.append_nil]; exact h)) fun v s' hq => ?_
  obtain ⟨z, H', I', rz, b, rfl, q⟩ := hq
  exact ⟨b, rz, .bl (g b), H', I', rfl, q⟩
theorem op_inOwn (c : Mth X.prog X.w X.K X.mg X.base k C "__contains__" ps sp) (hr : Room j X.A) (hk : k ≤ j := by decide) : OpR X (compareOp .In) (rInOwn C sp id) := by
  intro pins s σ H x y u v Q I rx ry h
  obtain ⟨f, fd, M, F, b⟩ := c.ex
  obtain ⟨a, dx, fs, rfl, ha, h⟩ := h
  cases ry
  obtain ⟨mA, J, _⟩ := ins_get I.hok ha
  obtain ⟨od, J, _⟩ := J.look
  obtain ⟨m, hF⟩ := I.fr
  have r2 : Vals [V.ref a, x] [Value.ref a, u] := .cons rfl (.cons rx .nil)
  have oc := own_call F (hr.mono hk) b I r2 h
  refine PySem.W.in_K hF I.ok.mod.kin J M.at_ M.fn (thn oc fun r s' hq => ?_)
  obtain ⟨r, rfl, q⟩ := hq
  exact wpAny_truthy_bool q
theorem op_notInOwn (c : Mth X.prog X.w X.K X.mg X.base k C "__contains__" ps sp) (hr : Room j X.A) (hk : k ≤ j := by decide) : OpR X (compareOp .NotIn) (rInOwn C sp not) := by
  intro pins s σ H x y u v Q I rx ry h
  obtain ⟨f, fd, M, F, b⟩ := c.ex
  obtain ⟨a, dx, fs, rfl, ha, h⟩ := h
  cases ry
  obtain ⟨mA, J, _⟩ := ins_get I.hok ha
  obtain ⟨od, J, _⟩ := J.look
  obtain ⟨m, hF⟩ := I.fr
  have r2 : Vals [V.ref a, x] [Value.ref a, u] := .cons rfl (.cons rx .nil)
  have oc := own_call F (hr.mono hk) b I r2 h
  refine PySem.W.notIn_K hF I.ok.mod.kin J M.at_ M.fn (thn oc fun r s' hq => ?_)
  obtain ⟨r, rfl, q⟩ := hq
  exact wpAny_truthy_bool q
/-- both of the class C -/
def rEqOwn (C : Addr) (sp : Sp) (g : Bool → Bool) : R2 := fun x y H Q => ∃ a b dx dy fs gs, x = .ref a ∧ y = .ref b ∧ H a = some (.ins C dx fs) ∧ H b = some (.ins C dy gs) ∧ rOwnB sp g [x, y] H Q
theorem op_eqOwn (c : Mth X.prog X.w X.K X.mg X.base k C "__eq__" ps sp) (hr : Room j X.A) (hk : k ≤ j := by decide) : OpR X (compareOp .Eq) (rEqOwn C sp id) := by
  intro pins s σ H x y u v Q I rx ry h
  obtain ⟨f, fd, M, F, b⟩ := c.ex
  obtain ⟨a, b', dx, dy, fs, gs, rfl, rfl, ha, hb, h⟩ := h
  cases rx
  cases ry
  obtain ⟨mA, J, _⟩ := ins_get I.hok ha
  obtain ⟨mB, J', _⟩ := ins_get I.hok hb
  obtain ⟨od, J, _⟩ := J.look
  obtain ⟨od', J', _⟩ := J'.look
  obtain ⟨m, hF⟩ := I.fr
  have r2 : Vals [V.ref a, V.ref b'] [Value.ref a, Value.ref b'] := .cons rfl (.cons rfl .nil)
  have oc := own_call F (hr.mono hk) b I r2 h
  refine PySem.W.cmp_K (op := .Eq) (tb := .ref C) hr.units0 hF I.ok.mod.kin J J'.type (by simp [PySem.W.notFirst]) M.at_ M.fn (thn oc fun r s' hq => ?_)
  obtain ⟨r, rfl, q⟩ := hq
  exact q
end
section
variable {prog : Program} {w : World} {A : Around} {E : Value → Shared → Prop} {s : Shared} {K : PySem.W.Frag} {x C L f : Addr} {h₀ : Heap} {m : Str → Option Value} {ox : Obj} {od : Option Obj} {b tb : Value}
open PySem.W in
theorem objNe_K (X : K.In s.heap) (I : InstAt s.heap x ox C od) (hs : findIn K (.ref C) "__eq__" = some (some (.ref f))) (hf : isFn K (.ref f) = true) (hu : A.units < cLine) {Q : Fin → Shared → Prop}
    (hcall : wpAny (model prog w) A (call (.ref f) [.ref x, b]) (fun v s' => ∃ r, v = .bool r ∧ Q (.done (.ret (.bool (!r)))) s') E s) :
    wpAny (model prog w) A (Builtin.«object.__ne__» ⟨[.ref x, b], []⟩) Q E s := by
  unfold Builtin.«object.__ne__»
  repeat (first
    | with_reducible refine wpAny_cRoomFor hu ?_
    | (refine wpAny_bind (m := callSpecialIfBound? (.ref x) (Str.ofString "__eq__") [b])
        (ifBound_K X I hs hf (wpAny_mono hcall (fun r s' hr => by
          obtain ⟨b, rfl, hq⟩ := hr
          repeat (first | exact hq | exact wpAny_pure hq | exact wpAny_truthy_bool hq | (refine wpAny_bind (m := truthy (.bool _)) (wpAny_truthy_bool ?_)) | wp_step)) fun _ _ e => e)))
    | wp_step)
open PySem.W in
theorem slotcheck_K {id owner n : String} {rest : List Value} {Q : Unit → Shared → Prop} (X : K.In s.heap) (I : InstAt s.heap x ox C od) (hk : builtinKind id = some .slot) (hs : splitId id = some (owner, n))
    (ha : argsOk id ⟨.ref x :: rest, []⟩) (hob : subIn K (.ref C) (.type owner) = some true) (hq : Q () s) :
    wpAny (model prog w) A (checkBuiltinCall id ⟨.ref x :: rest, []⟩) Q E s := by
  simp only [checkBuiltinCall, hk, hs]
  refine wpAny_bind ?_
  unfold isInstance
  refine wpAny_bind (I.type.here ?_)
  refine (looks_subIn X hob).here ?_
  repeat (first | wp_step)
  cases hsig : Manifest.signature? id with
  | none => exact wpAny_pure hq
  | some sig =>
    simp only [argsOk, hsig] at ha
    have h2 : Bind.checkArgs id sig ⟨.ref x :: rest, []⟩ = pure () := ha
    show wpAny _ A (Bind.checkArgs id sig ⟨.ref x :: rest, []⟩) Q E _
    rw [h2]; exact wpAny_pure hq
open PySem.W in
theorem ne_K {Q : Value → Shared → Prop} (hu : A.units + 1 < cLine) (X : K.In s.heap) (I : InstAt s.heap x ox C od) (hb : Looks (model prog w) s.heap (typeOf b) tb) (hn : notFirst K C tb = true)
    (hne : findIn K (.ref C) "__ne__" = some (some (.builtin "object.__ne__"))) (hob : subIn K (.ref C) (.type "object") = some true)
    (hs : findIn K (.ref C) "__eq__" = some (some (.ref f))) (hf : isFn K (.ref f) = true)
    (h : wpAny (model prog w) A.in1 (call (.ref f) [.ref x, b]) (fun v s' => ∃ r, v = .bool r ∧ Q (.bool (!r)) s') E s) : wpAny (model prog w) A (richCompare .NotEq (.ref x) b) Q E s := by
  have one : wpAny (model prog w) A (tryCompare (.ref x) "__ne__" b) (fun r s' => ∃ v, r = some v ∧ Q v s') E s := by
    unfold tryCompare
    simp only [callSpecialIfBound?, bindSpecialIfBound?]
    refine wpAny_bind (wpAny_holding (wpAny_bind (wpAny_bind (wpAny_bind (I.type.here ((looks_findIn X hne).here ?_))))))
    refine wpAny_bind (wpAny_askSetting (wpAny_ite ?_))
    have fin : wpAny (model prog w) A (call (.builtin "object.__ne__") ([.ref x] ++ [b]) >>= fun v => pure (some v)) (fun r s' => ∃ v, r = some (.bool v) ∧ Q (.bool v) s') E s := by
      refine wpAny_bind (wpAny_call (codeAny_call_builtin (F.cmp_object).ne.plain F.cmpEntry_ne (slotcheck_K X I F.cmpKind_ne F.cmpSplit_ne (F.cmpArgs_ne _ _) hob (objNe_K (A := A.in1) X I hs hf hu (wpAny_mono h (fun v s' hv => ?_) fun _ _ e => e)))))
      obtain ⟨r, rfl, hq⟩ := hv
      exact ⟨r, rfl, wpAny_pure ⟨_, rfl, hq⟩⟩
    split
    · simp only [(F.cmp_object).ne.bind]
      refine wpAny_bind (wpAny_pure (wpAny_pure ?_))
      refine wpAny_mono fin (fun _ _ z => ?_) fun _ _ e => e
      obtain ⟨v, rfl, q⟩ := z
      exact wpAny_pure ⟨_, rfl, q⟩
    · simp only [(F.cmp_object).ne.bind]
      refine wpAny_tryCatch (wpAny_bind (wpAny_pure (wpAny_pure ?_)))
      refine wpAny_mono fin (fun _ _ z => ?_) fun _ _ e => e
      obtain ⟨v, rfl, q⟩ := z
      exact wpAny_pure ⟨_, rfl, q⟩
  unfold richCompare
  simp only [oneThing_ref]
  refine wpAny_holding (wpAny_bind (wpAny_cRoomFor (Nat.lt_of_succ_lt hu) ?_))
  refine wpAny_bind (I.type.here (wpAny_bind (hb.here ?_)))
  split
  · rename_i q
    have e : subIn K tb (.ref C) = some false := by
      rcases Bool.or_eq_true_iff.mp hn with e | e
      · rw [beq_iff_eq.mp e] at q; simp at q
      · exact beq_iff_eq.mp e
    refine wpAny_bind ((looks_subIn X e).here ?_)
    simp only [Bool.false_eq_true, if_false]
    refine wpAny_bind (wpAny_mono one (fun r s' z => ?_) fun _ _ e => e)
    obtain ⟨v, rfl, hq⟩ := z
    exact wpAny_pure hq
  · refine wpAny_bind (wpAny_pure ?_)
    simp only [Bool.false_eq_true, if_false]
    refine wpAny_bind (wpAny_mono one (fun r s' z => ?_) fun _ _ e => e)
    obtain ⟨v, rfl, hq⟩ := z
    exact wpAny_pure hq
end
section
variable {X : Cx} {k j : Nat} {C : Addr} {ps : List Str} {sp : Sp}
/-- what != by an own __eq__ wants of the class -/
structure NeC (K : PySem.W.Frag) (C : Addr) : Prop where
  ne : PySem.W.findIn K (.ref C) "__ne__" = some (some (.builtin "object.__ne__"))
  ob : PySem.W.subIn K (.ref C) (.type "object") = some true
theorem op_neOwn (n : NeC X.K C) (c : Mth X.prog X.w X.K X.mg X.base k C "__eq__" ps sp) (hr : Room j X.A) (hk : k + 1 ≤ j := by decide) : OpR X (compareOp .NotEq) (rEqOwn C sp not) := by
  intro pins s σ H x y u v Q I rx ry h
  obtain ⟨f, fd, M, F, b⟩ := c.ex
  obtain ⟨a, b', dx, dy, fs, gs, rfl, rfl, ha, hb, h⟩ := h
  cases rx
  cases ry
  obtain ⟨mA, J, _⟩ := ins_get I.hok ha
  obtain ⟨mB, J', _⟩ := ins_get I.hok hb
  obtain ⟨od, J, _⟩ := J.look
  obtain ⟨od', J', _⟩ := J'.look
  have r2 : Vals [V.ref a, V.ref b'] [Value.ref a, Value.ref b'] := .cons rfl (.cons rfl .nil)
  refine ne_K (tb := .ref C) (hu_of hr) I.kIn J J'.type (by simp [PySem.W.notFirst]) n.ne n.ob M.at_ M.fn ?_
  have hr1 : Room k X.A.in1 := (hr.mono hk).in1
  have e0 : Env0 X.prog X.w X.K X.mg X.base X.A.in1 X.stack s H := by
    have e := I.env0
    exact ⟨e.frames, e.mod, e.bs, e.bsz, e.funs, e.frf, e.hok, e.bare⟩
  have hl := F.len _ _ _ _ h
  refine wpAny_call (codeAny_mono (F.run X.A.in1 X.stack s H ⟨[.ref a, .ref b'], []⟩ [.ref a, .ref b'] [.ref a, .ref b'] _ E0 hr1 e0 (by
    have := b s [.ref a, .ref b'] I.kIn (by simpa using hl)
    simpa using this) r2 h) fun r s' hq => ?_)
  cases r with
  | error e => exact pass0 pins σ H s e s' I hq
  | ok fl =>
    cases fl with
    | ret w =>
      obtain ⟨z, H', I', rz, b, ez, q⟩ := I.after hq
      subst ez
      cases rz
      exact ⟨b, rfl, .bl (!b), H', I', rfl, q⟩
    | next => exact False.elim hq
    | brk => exact False.elim hq
    | cont => exact False.elim hq

/-! ### text times an int; xs += ys -/
theorem op_mul_str : OpR X (binaryOp .Mult) (fun x y H Q => ∃ (z : Str) (i : Int), x = .str z ∧ y = .int i ∧ z.length ≤ 16 ∧ -(2 ^ 63) ≤ i ∧ i ≤ 1048576 ∧ Q (.str (Txt.mul z i)) H) := by
  intro pins s σ H x y u v Q I rx ry h
  obtain ⟨z, i, rfl, rfl, h1, h2, h3, q⟩ := h
  obtain ⟨t, rfl⟩ := rx
  obtain ⟨t', rfl⟩ := ry
  exact PySem.W.KXi.mul rfl h1 h2 h3 fun t' k _ _ => ⟨.str (Txt.mul z i), H, I.tok _, ⟨_, rfl⟩, q⟩
theorem pe_gstr {x z : Str} {t : Tok} {pos : Pos} (hm : X.mg x = some (.str z t)) (hg : Gl X x := by rfl) (hd : (x == ("__debug__" : Str)) = false := by decide) : PE X (.Name x pos) (tC (.str z)) := pe_glob hg hm ⟨_, rfl⟩ hd
theorem pe_gint {x : Str} {i : Int} {t : Tok} {pos : Pos} (hm : X.mg x = some (.int i t)) (hg : Gl X x := by rfl) (hd : (x == ("__debug__" : Str)) = false := by decide) : PE X (.Name x pos) (tC (.int i)) := pe_glob hg hm ⟨_, rfl⟩ hd
theorem pe_gref {x : Str} {a : Addr} {pos : Pos} (hm : X.mg x = some (.ref a)) (hg : Gl X x := by rfl) (hd : (x == ("__debug__" : Str)) = false := by decide) : PE X (.Name x pos) (tC (.ref a)) := pe_glob (v := .ref a) hg hm rfl hd
theorem pe_bty {x : Str} (T : String) {pos : Pos} (hm : X.mg x = none) (hv : bootBuiltins x = some (.type T)) (hg : Gl X x := by rfl) (hn : x ≠ "__name__" := by decide) (hd : (x == ("__debug__" : Str)) = false := by decide) : PE X (.Name x pos) (tC (.ty T)) := pe_bltn (v := .ty T) hg hm hv rfl hn hd
/-- tuple(xs), the new object known whole -/
theorem call_tuple_frz : CallR X (.type "tuple") (fun xs H Q => ∃ p ys, xs = [.ref p] ∧ ((SqL X.K H p ys ∧ ∀ l o, H l = none → o.dict = none → Q (.ref l) (upd H l (.frz o (.tup ys)))) ∨ (SqT X.K H p ys ∧ Q (.ref p) H))) := by
  intro pins s σ H xs us Q I r h
  obtain ⟨p, ys, rfl, h⟩ := h
  obtain ⟨u, rfl, rx⟩ := vals1 r
  cases rx
  rcases h with ⟨hq, q⟩ | ⟨hq, q⟩
  · obtain ⟨its, r', pl, hz⟩ := I.list hq
    have hlen := r'.length
    refine PySem.call_tuple_list pl.isList (fun h' kp => ?_) (by simp only [List.size_toArray] <;> omega)
    have I1 : Inv X pins σ H { s with heap := h' } := I.kept (t' := s.toks) kp
    have I2 : Inv X pins σ (upd H h'.objs.size (.frz { cls := .type "tuple", data := .seq its.toArray } (.tup ys))) { s with heap := h'.push { cls := .type "tuple", data := .seq its.toArray } } :=
      I1.laid (t' := s.toks) (fun b o e => Heap.get?_push_of_some _ e) (Nat.le_refl _) (show ObjOk X.prog X.w _ _ _ (.frz _ (.tup ys)) from ⟨by heap_get, hz, its, r', PyProof.Rows.IsTup.new _ _⟩)
    exact ⟨.ref h'.objs.size, _, I2, rfl, q _ _ (I1.hok.fresh (Nat.le_refl _)) rfl⟩
  · obtain ⟨its, r', pl, hz⟩ := I.tuple hq
    exact PySem.call_tuple_same pl ⟨.ref p, H, I, rfl, q⟩
/-- a tuple known whole -/
def TupF (H : Hp) (x : V) : Prop := ∃ p o xs, x = .ref p ∧ H p = some (.frz o (.tup xs)) ∧ o.dict = none
def tTupM (r : V → List V → Hp → VK → Prop) (to : TE) (t : TA) : TE := fun σ H Q => to σ H fun x H1 => TupF H1 x ∧ t σ H1 fun xs H2 => r x xs H2 Q
theorem pe_tupm {o e : Expr} {es : List Expr} {to : TE} {t : TA} {name : Str} {apos cpos : Pos} {id : String} {r : V → List V → Hp → VK → Prop} (slot : Slot "tuple" name id) (hty : typeOf (.builtin id) = pure (.type "method_descriptor")) (hm : MtR X id r) (ho : PE X o to) (ha : PA X (e :: es) t)
    (hbase : attributeBase o name X.env (eval o X.env) = eval o X.env := by rfl)
    (hfew : ((backTo cpos (starEach (e :: es) X.env)).all (fun x => !x.1) && (backToKw cpos (keywordEach [] X.env)).all (fun x => x.1.isSome)
      && decide ((e :: es).length + ([] : List Keyword).length + (if ([] : List Keyword).isEmpty then 0 else 1) < 30)) = true := by rfl)
    (hline : (apos.endLine == cpos.line) = true := by rfl) (hs : starEach (e :: es) X.env = (false, eval e X.env) :: starEach es X.env := by rfl) (hplain : (backTo cpos (starEach es X.env)).any (·.1) = false := by rfl) :
    PE X (.Call (.Attribute o name apos) (e :: es) [] cpos) (tTupM r to t) := by
  refine ⟨fun pins s σ H Q I h => ?_⟩
  refine wpAny_Call_method_late hbase hfew hline rfl (thn (ho.run pins s σ H _ I h) fun v s1 ⟨x, H1, I1, r1, ty, q1⟩ => ?_)
  obtain ⟨p, ob, xs, rfl, hp, hd⟩ := ty
  cases r1
  obtain ⟨hob, _, its, _, o', ho', hc, _⟩ := I1.hok p _ hp
  have eo : ob = o' := Option.some.inj (hob.symm.trans ho')
  refine ⟨"tuple", id, PySem.F.plainAttrs_tuple, slot, hty, ⟨o', ho', hc⟩, fun a e => ?_, ?_⟩
  · cases e
    exact ⟨ob, hob, hd⟩
  have hA := ha.run cpos pins s1 σ H1 _ I1 q1
  rw [hs] at hA ⊢
  refine Calls.callWith_builtin (by show (false || (backTo cpos (starEach es X.env)).any (·.1)) = false; rw [hplain] <;> rfl) (Calls.evalArgs_plain ?_)
  exact thn hA fun us s2 ⟨vs, H2, I2, r2, q2⟩ => hm pins s2 σ H2 (.ref p) vs (.ref p) us Q I2 rfl r2 q2
/-- a if c else b as a test -/
def tIfT (tc tp tq : TT) : TT := fun σ H Q => tc σ H fun b H1 => if b = true then tp σ H1 Q else tq σ H1 Q
theorem pt_ifExp {c p q : Expr} {tc tp tq : TT} {pos : Pos} (hc : PT X c tc) (hp : PT X p tp) (hq : PT X q tq) : PT X (.IfExp c p q pos) (tIfT tc tp tq) := by
  refine ⟨fun pins s σ H Q I h => ?_⟩
  refine PyProof.Rows.isTrue_IfExp (thn (hc.run pins s σ H _ I h) fun b s1 ⟨H1, I1, h1⟩ => ?_)
  cases b with
  | true => exact hp.run pins s1 σ H1 Q I1 (by simpa using h1)
  | false => exact hq.run pins s1 σ H1 Q I1 (by simpa using h1)
/-! ### within a comprehension: the written part by its name -/
theorem pi_tupK {K : PySem.W.Frag} {tg l : Expr} {tl : TE} (hl : PE X l tl) (hK : X.K = K := by rfl) : PI X tg l (iTup K tl) := hK ▸ pi_tup hl
theorem pi_listK {K : PySem.W.Frag} {tg l : Expr} {tl : TE} (hl : PE X l tl) (hK : X.K = K := by rfl) : PI X tg l (iList K tl) := hK ▸ pi_list hl
theorem pe_fldK {K : PySem.W.Frag} {e : Expr} {f : Str} {ta : TE} {pos : Pos} (he : PE X e ta) (hb : attributeBase e f X.env (eval e X.env) = eval e X.env) (hK : X.K = K := by rfl) : PE X (.Attribute e f pos) (tFld K ta f) := hK ▸ pe_fld he hb
theorem op_in_seqK {K : PySem.W.Frag} (hK : X.K = K := by rfl) : OpR X (compareOp .In) (rIn K false) := hK ▸ op_in_seq
theorem op_notIn_seqK {K : PySem.W.Frag} (hK : X.K = K := by rfl) : OpR X (compareOp .NotIn) (rIn K true) := hK ▸ op_notIn_seq
theorem ix_listK {K : PySem.W.Frag} (hK : X.K = K := by rfl) : IxR X (rIxL K) := hK ▸ ix_list
theorem ix_tupK {K : PySem.W.Frag} (hK : X.K = K := by rfl) : IxR X (rIxT K) := hK ▸ ix_tup
theorem sl_listK {K : PySem.W.Frag} (hK : X.K = K := by rfl) : SlR X (rSlL K) := hK ▸ sl_list
theorem call_isiK' {K : PySem.W.Frag} (hK : X.K = K := by rfl) : CallR X (.builtin "isinstance") (rIsi K) := hK ▸ call_isi
theorem ip_ext : PIp X .Add rExt2 := by
  intro pins s σ H x y u v Q I rx ry h
  exact iop_ext pins s σ H x y u v Q I rx ry h
end
end Aq
/-! readings, one step at a time, the rest behind -/
namespace Aq
open PySem L2 Evl
section
variable {σ : L2.St} {H : Hp} {Q : VK} {K : PySem.W.Frag} {v x y : V} {ta tb tc te tv : TE} {tA tB' : TT} {ts : TA} {i j : Int} {n : Nat} {nx bk ct : L2.St → Hp → Prop} {rt : VK} {t u : TS} {g : TG}
/-! #### values -/
theorem rd_var {k : Nat} (h : σ[k]? = some (some v)) (q : Q v H) : tVar k σ H Q := ⟨v, h, q⟩
theorem rd_c (q : Q v H) : tC v σ H Q := q
theorem rd_op {r : R2} (h : ta σ H fun x H1 => tb σ H1 fun y H2 => r x y H2 Q) : tOp r ta tb σ H Q := h
theorem rd_un {r : V → Hp → VK → Prop} (h : ta σ H fun x H1 => r x H1 Q) : tUn r ta σ H Q := h
theorem rd_I0 {f : Int → Int → V} (q : Q (f i j) H) : rI0 f (.int i) (.int j) H Q := ⟨i, j, rfl, rfl, q⟩
theorem rd_I {C : Int → Int → Prop} {f : Int → Int → V} (c : C i j) (q : Q (f i j) H) : rI C f (.int i) (.int j) H Q := ⟨i, j, rfl, rfl, c, q⟩
theorem rd_eq (h : scal x y = true) (q : Q (.bl (decide (x = y))) H) : rEq x y H Q := ⟨h, q⟩
theorem rd_ne (h : scal x y = true) (q : Q (.bl (!decide (x = y))) H) : rNe x y H Q := ⟨h, q⟩
theorem rd_B {Qb : Bool → Hp → Prop} (h : te σ H fun x H1 => ∃ c, x = .bl c ∧ Qb c H1) : tB te σ H Qb := h
theorem rd_test {Qb : Bool → Hp → Prop} (h : te σ H fun x H1 => ∃ c, x = .bl c ∧ Qb c H1) : tTest te σ H Qb := h
theorem rd_bl {b : Bool} {Qb : Bool → Prop} (q : Qb b) : ∃ c, V.bl b = V.bl c ∧ Qb c := ⟨b, rfl, q⟩
theorem rd_not {Qb : Bool → Hp → Prop} (h : tA σ H fun c H1 => Qb (!c) H1) : tNot tA σ H Qb := h
theorem rd_and {Qb : Bool → Hp → Prop} (h : tA σ H fun c H1 => if c = true then tB' σ H1 Qb else Qb false H1) : tAnd tA tB' σ H Qb := h
theorem rd_or {Qb : Bool → Hp → Prop} (h : tA σ H fun c H1 => if c = true then Qb true H1 else tB' σ H1 Qb) : tOr tA tB' σ H Qb := h
theorem rd_andV (h : ta σ H fun x H1 => ∃ c, x = .bl c ∧ if c = true then tb σ H1 Q else Q (.bl false) H1) : tAndV ta tb σ H Q := h
theorem rd_orV (h : ta σ H fun x H1 => ∃ c, x = .bl c ∧ if c = true then Q (.bl true) H1 else tb σ H1 Q) : tOrV ta tb σ H Q := h
theorem rd_notV (h : ta σ H fun x H1 => ∃ c, x = .bl c ∧ Q (.bl (!c)) H1) : tNotV ta σ H Q := h
theorem rd_if (h : tA σ H fun c H1 => if c = true then ta σ H1 Q else tb σ H1 Q) : tIf tA ta tb σ H Q := h
theorem rd_ifT {tp tq : TT} {Qb : Bool → Hp → Prop} (h : tA σ H fun c H1 => if c = true then tp σ H1 Qb else tq σ H1 Qb) : tIfT tA tp tq σ H Qb := h
theorem rd_chain {r r' : R2} (h : ta σ H fun x H1 => tb σ H1 fun y H2 => r x y H2 fun z H3 => ∃ k, z = .bl k ∧ (if k = true then tc σ H3 fun w' H4 => r' y w' H4 Q else Q (.bl false) H3)) : tChain r r' ta tb tc σ H Q := h
theorem rd_cb {r : List V → Hp → VK → Prop} (h : ts σ H fun vs H1 => r vs H1 Q) : tCB r ts σ H Q := h
theorem rd_nil {Ql : List V → Hp → Prop} (q : Ql [] H) : tNil σ H Ql := q
theorem rd_cons {Ql : List V → Hp → Prop} (h : ta σ H fun x H1 => ts σ H1 fun xs H2 => Ql (x :: xs) H2) : tCons ta ts σ H Ql := h
theorem rd_call {sp : Sp} {dvs : List V} {E : XK} (h : ts σ H fun vs H1 => sp (vs ++ dvs) H1 Q E) : tCall sp dvs E ts σ H Q := h
/-- a new object: what stood stands -/
theorem rd_new {o : HO} {Qp : V → Hp → Prop} (q : ∀ p H', H p = none → Ex H H' → H' p = some o → Qp (.ref p) H') : ∀ p, H p = none → Qp (.ref p) (upd H p o) :=
  fun p hp => q p _ hp (Ex.new hp) upd_same
theorem rd_tup (h : ts σ H fun xs H1 => xs.length ≤ sizeLine ∧ ∀ p, H1 p = none → Q (.ref p) (upd H1 p (.tup xs))) : tTup ts σ H Q := h
theorem rd_lst (h : ts σ H fun xs H1 => xs.length ≤ sizeLine ∧ ∀ p, H1 p = none → Q (.ref p) (upd H1 p (.lst xs))) : tLst ts σ H Q := h
/-! #### fields, dicts -/
theorem rd_fld {f : Str} (h : ta σ H fun x H1 => ∃ a C dx fs v, x = .ref a ∧ H1 a = some (.ins C dx fs) ∧ Cls K C ∧ NoAttr K C f ∧ fs.lookup f = some v ∧ Q v H1) : tFld K ta f σ H Q := h
theorem rd_fldAt {f : Str} {a C dx : Addr} {fs : List (Str × V)} {R : V → Prop} (ho : H a = some (.ins C dx fs)) (c : Cls K C) (n : NoAttr K C f) (l : fs.lookup f = some v) (q : R v) :
    ∃ a' C dx fs v, V.ref a = .ref a' ∧ H a' = some (.ins C dx fs) ∧ Cls K C ∧ NoAttr K C f ∧ fs.lookup f = some v ∧ R v := ⟨a, C, dx, fs, v, rfl, ho, c, n, l, q⟩
theorem rd_dget {td ty : TE} (h : td σ H fun x H1 => ty σ H1 fun y H2 => ∃ a v, x = .ref a ∧ DGet H2 a y (some v) ∧ Q v H2) : tDGet td ty σ H Q := h
theorem rd_dgetS {a : Addr} {kvs : List (Key × V)} {k : Str} {R : V → Prop} (ho : H a = some (.dK kvs)) (l : valV kvs (Sum.inr k) = some v) (q : R v) : ∃ a' v, V.ref a = .ref a' ∧ DGet H a' (.str k) (some v) ∧ R v :=
  ⟨a, v, rfl, by have := DGet.k (k := Sum.inr k) ho; rw [l] at this; exact this, q⟩
/-! #### statements -/
theorem rd_seq (h : t ⟨u ⟨nx, rt, bk, ct⟩, rt, bk, ct⟩ σ H) : tSeq t u ⟨nx, rt, bk, ct⟩ σ H := h
theorem rd_asg {k : Nat} (h : te σ H fun x H1 => nx (σ.set k (some x)) H1) : tAsg te (gName k) ⟨nx, rt, bk, ct⟩ σ H := h
theorem rd_asgG (h : te σ H fun x H1 => g x σ H1 nx) : tAsg te g ⟨nx, rt, bk, ct⟩ σ H := h
theorem rd_gname {k : Nat} {R : L2.St → Hp → Prop} (q : R (σ.set k (some v)) H) : gName k v σ H R := q
theorem rd_drop (h : te σ H fun _ H1 => nx σ H1) : tDrop te ⟨nx, rt, bk, ct⟩ σ H := h
theorem rd_ret (h : te σ H rt) : tRet te ⟨nx, rt, bk, ct⟩ σ H := h
theorem rd_next (q : nx σ H) : tNext ⟨nx, rt, bk, ct⟩ σ H := q
theorem rd_ifS {c : TT} (h : c σ H fun b H1 => if b = true then t ⟨nx, rt, bk, ct⟩ σ H1 else u ⟨nx, rt, bk, ct⟩ σ H1) : tIfS c t u ⟨nx, rt, bk, ct⟩ σ H := h
theorem rd_par {k l : Nat} (h : ts σ H fun vs H1 => ∃ v w, vs = [v, w] ∧ nx ((σ.set k (some v)).set l (some w)) H1) : tPar k l ts ⟨nx, rt, bk, ct⟩ σ H := h
theorem rd_two {a b : V} {R : V → V → Prop} (q : R a b) : ∃ v w, [a, b] = [v, w] ∧ R v w := ⟨a, b, rfl, q⟩
theorem rd_dput {td ty : TE} (h : tv σ H fun v H1 => td σ H1 fun x H2 => ty σ H2 fun y H3 => ∃ a H4, x = .ref a ∧ DPut H3 a y v H4 ∧ nx σ H4) : sDPut td ty tv ⟨nx, rt, bk, ct⟩ σ H := h
theorem rd_dputS {a : Addr} {kvs : List (Key × V)} {k : Str} {R : Hp → Prop} (ho : H a = some (.dK kvs)) (hl : kvs.length < sizeLine) (q : R (upd H a (.dK (putK kvs (Sum.inr k) v)))) : ∃ a' H4, V.ref a = .ref a' ∧ DPut H a' (.str k) v H4 ∧ R H4 :=
  ⟨a, _, rfl, DPut.k (k := Sum.inr k) ho hl, q⟩
theorem rd_sfld {f : Str} (h : tv σ H fun y H1 => ta σ H1 fun x H2 => ∃ a C dx fs, x = .ref a ∧ H2 a = some (.ins C dx fs) ∧ Cls K C ∧ NoAttr K C f ∧ fs.length < 1000 ∧ nx σ (upd H2 a (.ins C dx (putF f y fs)))) : sFld K ta tv f ⟨nx, rt, bk, ct⟩ σ H := h
theorem rd_sfldAt {f : Str} {a C dx : Addr} {fs : List (Str × V)} {R : Hp → Prop} (ho : H a = some (.ins C dx fs)) (c : Cls K C) (n : NoAttr K C f) (l : fs.length < 1000) (q : R (upd H a (.ins C dx (putF f v fs)))) :
    ∃ a' C dx fs, V.ref a = .ref a' ∧ H a' = some (.ins C dx fs) ∧ Cls K C ∧ NoAttr K C f ∧ fs.length < 1000 ∧ R (upd H a' (.ins C dx (putF f v fs))) := ⟨a, C, dx, fs, rfl, ho, c, n, l, q⟩
theorem rd_yes {Qb : Bool → Hp → Prop} (q : Qb true H) : tYes σ H Qb := q
theorem rd_nt {A B : Prop} (h : B) : if (!true) = true then A else B := h
theorem rd_nf {A B : Prop} (h : A) : if (!false) = true then A else B := h
theorem rd_for {wi : TI} {tb : TS} (h : wi σ H fun J H1 => ∃ W : Nat → Nat → L2.St → Hp → Prop, (∃ m, W 0 m σ H1) ∧ ∀ i m σ H, W i m σ H →
      (J.stop i H ∧ nx σ H) ∨ (J.go i H ∧ ∃ N : L2.St → Hp → Prop, (∀ σ' H', N σ' H' → ∃ m', m' < m ∧ W (i + 1) m' σ' H') ∧ ∀ x H', J.yld i H x H' → g x σ H' fun σ2 H2 => tb ⟨N, rt, nx, N⟩ σ2 H2)) : tFor wi g tb ⟨nx, rt, bk, ct⟩ σ H := h
theorem rd_lc {wi : TI} {tt : TT} {vs : List Nat} (h : wi σ H fun J H1 => ∀ D, H1 D = none → ∃ W : Nat → Nat → Hp → Prop, (∃ m, W 0 m (upd H1 D (.lst []))) ∧ ∀ i m H, W i m H →
  (J.stop i H ∧ Q (.ref D) H) ∨ (J.go i H ∧ ∃ Nx : Hp → Prop, (∀ H', Nx H' → ∃ m', m' < m ∧ W (i + 1) m' H') ∧ ∀ x H', J.yld i H x H' → g x (wipe σ vs) H' fun σ2 H2 => wipe σ2 vs = wipe σ vs ∧ tt σ2 H2 fun b H3 =>
    if b = true then te σ2 H3 fun y H4 => ∃ acc, H4 D = some (.lst acc) ∧ acc.length < sizeLine ∧ Nx (upd H4 D (.lst (acc ++ [y]))) else Nx H3)) : tLc wi g tt te vs σ H Q := h
theorem rd_iStr {R : It → Hp → Prop} (h : te σ H fun v H1 => ∃ x, v = .str x ∧ R (Its x) H1) : iStr te σ H R := h
theorem rd_iStrAt {z : Str} {R : Str → Prop} (q : R z) : ∃ x, V.str z = .str x ∧ R x := ⟨z, rfl, q⟩
theorem rd_iList {R : It → Hp → Prop} (h : te σ H fun x H1 => ∃ a, x = .ref a ∧ (∃ xs, SqL K H1 a xs) ∧ R (Itl K a) H1) : iList K te σ H R := h
theorem rd_iTup {R : It → Hp → Prop} (h : te σ H fun x H1 => ∃ a, x = .ref a ∧ (∃ xs, SqT K H1 a xs) ∧ R (Itt K a) H1) : iTup K te σ H R := h
theorem rd_iListAt {a : Addr} {xs : List V} {R : Addr → Prop} (h : SqL K H a xs) (q : R a) : ∃ a', V.ref a = .ref a' ∧ (∃ xs, SqL K H a' xs) ∧ R a' := ⟨a, rfl, ⟨_, h⟩, q⟩
theorem rd_iTupAt {a : Addr} {xs : List V} {R : Addr → Prop} (h : SqT K H a xs) (q : R a) : ∃ a', V.ref a = .ref a' ∧ (∃ xs, SqT K H a' xs) ∧ R a' := ⟨a, rfl, ⟨_, h⟩, q⟩
theorem rd_iRng1 {R : It → Hp → Prop} (h : ts σ H fun vs H1 => ∃ j : Int, vs = [.int j] ∧ -(2 ^ 62) ≤ j ∧ j < 2 ^ 62 ∧ R (Itr 0 j.toNat) H1) : iRng1 ts σ H R := h
theorem rd_iRngAt {n : Int} {R : Int → Prop} (h1 : -(2 ^ 62) ≤ n) (h2 : n < 2 ^ 62) (q : R n) : ∃ j : Int, [V.int n] = [.int j] ∧ -(2 ^ 62) ≤ j ∧ j < 2 ^ 62 ∧ R j := ⟨n, rfl, h1, h2, q⟩
theorem rd_iEnum {R : It → Hp → Prop} (h : ts σ H fun vs H1 => ∃ a xs, vs = [.ref a] ∧ SqL K H1 a xs ∧ R (Ite K a) H1) : iEnum K ts σ H R := h
theorem rd_iEnumAt {a : Addr} {xs : List V} {R : Addr → Prop} (h : SqL K H a xs) (q : R a) : ∃ a' ys, [V.ref a] = [.ref a'] ∧ SqL K H a' ys ∧ R a' := ⟨a, xs, rfl, h, q⟩
theorem rd_sl {r : V → Option Int → Option Int → Hp → VK → Prop} {tl th : TO} (h : te σ H fun x H1 => tl σ H1 fun lo H2 => th σ H2 fun hi H3 => r x lo hi H3 Q) : L2.tSl r te tl th σ H Q := h
theorem rd_noPart {R : Option Int → Hp → Prop} (q : R none H) : tNoPart σ H R := q
theorem rd_part {R : Option Int → Hp → Prop} (h : te σ H fun x H1 => ∃ i, x = .int i ∧ R (some i) H1) : tPart te σ H R := h
theorem rd_partAt {R : Int → Prop} (q : R i) : ∃ k, V.int i = .int k ∧ R k := ⟨i, rfl, q⟩
theorem rd_slS {z : Str} {lo hi : Option Int} (hz : z.length ≤ 100000) (q : Q (.str (cutS z lo hi)) H) : rSlS (.str z) lo hi H Q := ⟨z, rfl, sz_of hz, q⟩
theorem rd_slL {p : Addr} {xs : List V} {lo hi : Option Int} (h : SqL K H p xs) (q : ∀ l H', H l = none → Ex H H' → H' l = some (.lst (cutV xs lo hi)) → Q (.ref l) H') : rSlL K (.ref p) lo hi H Q := ⟨p, xs, rfl, h, rd_new q⟩
theorem rd_make {C : Addr} {sp : Sp} {dvs : List V} {E : XK} (h : ts σ H fun vs H1 => ∀ x dx, H1 x = none → H1 dx = none → dx ≠ x → sp (.ref x :: (vs ++ dvs)) (upd (upd H1 dx (.own x)) x (.ins C dx [])) (fun v H2 => v = .non ∧ Q (.ref x) H2) E) : tMake C sp dvs E ts σ H Q := h
theorem rd_meth {C : Addr} {m : Str} {sp : Sp} {dvs : List V} {E : XK} (h : ta σ H fun x H1 => ∃ a dx fs, x = .ref a ∧ H1 a = some (.ins C dx fs) ∧ fs.lookup m = none ∧ ts σ H1 fun vs H2 => sp (x :: (vs ++ dvs)) H2 Q E) : tMeth C m sp dvs E ta ts σ H Q := h
theorem rd_bm {T : String} {r : V → List V → Hp → VK → Prop} (h : ta σ H fun x H1 => tyV K T x H1 ∧ ts σ H1 fun xs H2 => r x xs H2 Q) : tBM K T r ta ts σ H Q := h
theorem rd_tyL {l : Addr} {xs : List V} {R : Prop} (h : SqL K H l xs) (q : R) : tyV K "list" (.ref l) H ∧ R := ⟨.inl ⟨rfl, _, h⟩, q⟩
theorem rd_tupm {r : V → List V → Hp → VK → Prop} (h : ta σ H fun x H1 => TupF H1 x ∧ ts σ H1 fun xs H2 => r x xs H2 Q) : tTupM r ta ts σ H Q := h
theorem st_frz {a : Addr} {o : Obj} {xs : List V} (h : H a = some (.frz o (.tup xs))) : SqT K H a xs := .inl (.inr ⟨o, h⟩)
theorem rd_aug {k : Nat} {ti : TIp} (hv : σ[k]? = some (some v)) (q : te σ H fun y H1 => ti v y H1 fun z H2 => nx (σ.set k (some z)) H2) : tAug k te ti ⟨nx, rt, bk, ct⟩ σ H := ⟨v, hv, q⟩
theorem rd_append {l : Addr} {xs : List V} (h : H l = some (.lst xs)) (hl : xs.length < sizeLine) (q : Q .non (upd H l (.lst (xs ++ [y])))) : rAppend (.ref l) [y] H Q := ⟨l, xs, y, rfl, rfl, h, hl, q⟩
theorem rd_ext {l b : Addr} {xs zs : List V} (h1 : H l = some (.lst xs)) (h2 : H b = some (.lst zs)) (h3 : xs.length + zs.length ≤ sizeLine) (q : Q (.ref l) (upd H l (.lst (xs ++ zs)))) : rExt2 (.ref l) (.ref b) H Q := ⟨l, b, xs, zs, rfl, rfl, h1, h2, h3, q⟩
theorem rd_while {c : TT} {tb : TS} (W : Nat → L2.St → Hp → Prop) (m0 : Nat) (h0 : W m0 σ H)
    (hs : ∀ m σ H, W m σ H → c σ H fun b H1 => if b = true then ∃ N : L2.St → Hp → Prop, (∀ σ' H', N σ' H' → ∃ m', m' < m ∧ W m' σ' H') ∧ tb ⟨N, rt, nx, N⟩ σ H1 else nx σ H1) : tWhile c tb ⟨nx, rt, bk, ct⟩ σ H := ⟨W, ⟨m0, h0⟩, hs⟩
theorem rd_m1 {r : V → List V → Hp → VK → Prop} (h : ta σ H fun x H1 => (∃ a, x = .str a) ∧ tb σ H1 fun y H2 => r x [y] H2 Q) : tM1 r ta tb σ H Q := h
theorem rd_isS {z : Str} {R : Prop} (q : R) : (∃ a, V.str z = .str a) ∧ R := ⟨⟨z, rfl⟩, q⟩
/-! #### built-ins -/
theorem rd_isi {t c : V} {a b : Value} {r : Bool} (h1 : ClsV c b) (h2 : TyX K H t a) (h3 : PySem.W.kitOne K a b = some r) (q : Q (.bl r) H) : rIsi K [t, c] H Q := ⟨t, c, a, b, r, rfl, h1, h2, h3, q⟩
theorem rd_isiStr {z : Str} (q : Q (.bl true) H) : rIsi K [.str z, .ty "str"] H Q := rd_isi (a := .type "str") (b := .type "str") (.ty _) (.base (.str z)) (kit_ty (by decide +kernel)) q
theorem rd_lenS {z : Str} {R : Str → Prop} (hz : z.length ≤ 100000) (q : R z) : ∃ x, [V.str z] = [.str x] ∧ x.length ≤ sizeLine ∧ R x := ⟨z, rfl, sz_of hz, q⟩
theorem rd_lenL {a : Addr} {xs : List V} {R : List V → Prop} (h : SqL K H a xs) (q : R xs) : ∃ p ys, [V.ref a] = [.ref p] ∧ (SqL K H p ys ∨ SqT K H p ys) ∧ R ys := ⟨a, xs, rfl, .inl h, q⟩
theorem rd_lenT {a : Addr} {xs : List V} {R : List V → Prop} (h : SqT K H a xs) (q : R xs) : ∃ p ys, [V.ref a] = [.ref p] ∧ (SqL K H p ys ∨ SqT K H p ys) ∧ R ys := ⟨a, xs, rfl, .inr h, q⟩
theorem rd_intI {R : Int → Prop} {R' : Bool → Prop} (q : R i) : (∃ k, [V.int i] = [.int k] ∧ R k) ∨ ∃ k, [V.int i] = [.bl k] ∧ R' k := .inl ⟨i, rfl, q⟩
theorem rd_intB {b : Bool} {R : Int → Prop} {R' : Bool → Prop} (q : R' b) : (∃ k, [V.bl b] = [.int k] ∧ R k) ∨ ∃ k, [V.bl b] = [.bl k] ∧ R' k := .inr ⟨b, rfl, q⟩
theorem rd_abs {R : Int → Prop} (q : R i) : ∃ k, [V.int i] = [.int k] ∧ R k := ⟨i, rfl, q⟩
theorem rd_strs {x y : Str} {R : Str → Str → Prop} (h : x.length + y.length ≤ 100000) (q : R x y) : ∃ i j, V.str x = .str i ∧ V.str y = .str j ∧ i.length + j.length ≤ sizeLine ∧ R i j := ⟨x, y, rfl, rfl, sz_of h, q⟩
theorem rd_sign {c : Nat} {z : Str} {R : Nat → Str → Prop} (q : R c z) : ∃ (d : Nat) (y : Str), V.str ⟨#[c]⟩ = .str ⟨#[d]⟩ ∧ V.str z = .str y ∧ R d y := ⟨c, z, rfl, rfl, q⟩
theorem rd_mulS {z : Str} {R : Str → Int → Prop} (h1 : z.length ≤ 16) (h2 : -(2 ^ 63) ≤ i) (h3 : i ≤ 1048576) (q : R z i) : ∃ (y : Str) (k : Int), V.str z = .str y ∧ V.int i = .int k ∧ y.length ≤ 16 ∧ -(2 ^ 63) ≤ k ∧ k ≤ 1048576 ∧ R y k := ⟨z, i, rfl, rfl, h1, h2, h3, q⟩
theorem rd_isN' {R : Prop} (q : R) : V.non = V.non ∧ R := ⟨rfl, q⟩
theorem rd_ixS {z : Str} {c : Nat} (hz : z.length ≤ 100000) (h : atI z.cps.toList i = some c) (q : Q (.str ⟨#[c]⟩) H) : rIxS (.str z) (.int i) H Q := ⟨z, i, c, rfl, rfl, sz_of hz, h, q⟩
theorem rd_all {p : Addr} {bs : List Bool} (h : SqL K H p (bs.map V.bl)) (q : Q (.bl (bs.all id)) H) : rAll K [.ref p] H Q := ⟨p, bs, rfl, h, q⟩
theorem rd_any {p : Addr} {bs : List Bool} (h : SqL K H p (bs.map V.bl)) (q : Q (.bl (bs.any id)) H) : rAny K [.ref p] H Q := ⟨p, bs, rfl, h, q⟩
theorem len_cps (z : Str) : z.cps.toList.length = z.length := by simp [Str.length]
/-- what isinstance wants of an own class -/
structure IsiC (K : PySem.W.Frag) (C : Addr) : Prop where
  ha : PySem.W.findIn K (.ref C) "__class__" = some (some (.builtin "object.__class__"))
  hn : PySem.W.specialIn K (.builtin "object.__class__") "__get__" = some (some (.builtin "getset_descriptor.__get__"))
  htk : PySem.W.takesIn K (.builtin "object.__class__") = some true
  hm : PySem.W.mroIn K C (.type "object") = some true
  self : PySem.W.kitOne K (.ref C) (.ref C) = some true
theorem rd_isiOwn {a C dx : Addr} {fs : List (Str × V)} (c : Cls K C) (I : IsiC K C) (ho : H a = some (.ins C dx fs)) (q : Q (.bl true) H) : rIsi K [.ref a, .ref C] H Q :=
  rd_isi (.own C) (.base (.ins ho c I.ha I.hn I.htk I.hm)) I.self q
end
end Aq
/-! zip(tuple, list), out of the library's zip over any two iterators (KE.GoesZip, KE.GoesMore) -/
namespace Aq
open PySem PySem.Spec PyProof.Rows L2
section
/-- a tuple's items beside a list's, in new pairs -/
def ItzM (K : PySem.W.Frag) (a b : Addr) : It where
  go := fun i H => ∃ xs ys, SqT K H a xs ∧ SqL K H b ys ∧ i < xs.length ∧ i < ys.length
  yld := fun i H v H' => ∃ T x y, v = .ref T ∧ H T = none ∧ H' = upd H T (.tup [x, y]) ∧ (∀ xs, SqT K H a xs → xs[i]? = some x) ∧ (∀ ys, SqL K H b ys → ys[i]? = some y)
  stop := fun i H => ∃ xs ys, SqT K H a xs ∧ SqL K H b ys ∧ i ≤ xs.length ∧ i ≤ ys.length ∧ (i = xs.length ∨ i = ys.length)
/-- the five cells of such a zip, i turns in -/
structure ZmAt (z TI TO i1 i2 a b : Addr) (i : Nat) (h : Heap) : Prop where
  zz : IsZip h z TI TO .none
  ti : IsTupOf2 h TI (.ref i1) (.ref i2)
  to : ∃ x y, IsTupOf2 h TO x y
  one : h.IsTupleIter i1 a i
  two : h.IsListIter i2 b i
variable {P : Program} {w : World} {K : PySem.W.Frag} {elts : List Expr} {kk : Nat} {tpos : Pos} {a b z TI TO i1 i2 : Addr}
theorem ZmAt.lt {i : Nat} {h : Heap} (Z : ZmAt z TI TO i1 i2 a b i h) {c : Addr} (hc : c ∈ [z, TI, TO, i1, i2]) : c < h.objs.size := by
  obtain ⟨zz, ti, ⟨x, y, to⟩, ⟨_, one, _⟩, ⟨_, two, _⟩⟩ := Z
  simp only [List.mem_cons, List.not_mem_nil, or_false] at hc
  rcases hc with rfl | rfl | rfl | rfl | rfl <;> exact Heap.lt_size ‹_›
theorem turn_zipM (S : ZipSep2 z TI TO i1 i2 [i1, a] [i2, b]) (na : a ≠ i1) (nb : b ≠ i2) : Turn P w K (.Tuple elts kk tpos) (ItzM K a b) [z, TI, TO, i1, i2] z (ZmAt z TI TO i1 i2 a b) := by
  have ks : ∀ {c : Addr}, c ∉ [z, TI, TO, i1, i2] → c ≠ z ∧ c ≠ TO ∧ c ≠ i1 ∧ c ≠ i2 := fun {c} h => by
    simp only [List.mem_cons, List.not_mem_nil, or_false, not_or] at h; exact ⟨h.1, h.2.2.1, h.2.2.2.1, h.2.2.2.2⟩
  refine ⟨by simp, fun i h Z c hc => ?_, fun i h h' Z k => ?_, ?_, ?_, fun A i s Q E Z h => wpAny_pyIter_zip Z.zz h⟩
  · obtain ⟨zz, ti, ⟨x, y, to⟩, ⟨o1, one, _, d1⟩, ⟨o2, two, _, d2⟩⟩ := Z
    simp only [List.mem_cons, List.not_mem_nil, or_false] at hc
    rcases hc with rfl | rfl | rfl | rfl | rfl
    · exact ⟨_, zz, nofun⟩
    · exact ⟨_, ti, nofun⟩
    · exact ⟨_, to, nofun⟩
    · exact ⟨o1, one, fun v q => nomatch d1.symm.trans q⟩
    · exact ⟨o2, two, fun v q => nomatch d2.symm.trans q⟩
  · obtain ⟨x, y, to⟩ := Z.to
    exact ⟨k z (by simp) _ Z.zz, k TI (by simp) _ Z.ti, ⟨x, y, k TO (by simp) _ to⟩, Z.one.at (k i1 (by simp)), Z.two.at (k i2 (by simp))⟩
  · intro X eP ew eK calm i pins s σ H E I fp Z go
    subst eP ew eK
    have Zl := @Z.lt
    obtain ⟨zz, ti, ⟨x0, y0, to⟩, one, two⟩ := Z
    obtain ⟨xs, ys, qx, qy, lx, ly⟩ := go
    obtain ⟨us, rx, px, _⟩ := I.tuple qx
    obtain ⟨vs, ry, py, _⟩ := I.list qy
    have ex := rx.length
    have ey := ry.length
    have hh : X.A.in1.handled = none := I.ok.hd calm
    refine wpAny_pyNext_zipD2_item S (Draws.tuple hh i1 a na us.toArray) (Draws.list hh i2 b nb vs.toArray) zz ti to ⟨one, px⟩ ⟨two, py.isList⟩ (by simp; omega) (by simp; omega) fun u v h' tk hu hv zz' to' st1 st2 new sz keep => ?_
    refine ⟨_, rfl, wpAny_letOwnedTupleGo_zip (s := { s with heap := h', toks := tk }) zz' fun h2 zz2 sb => ?_⟩
    have up : ∀ c o, c ≠ z → h'.get? c = some o → h2.get? c = some o := fun c o n e => (sb.2 c n).trans e
    have nz : s.heap.objs.size ≠ z := Nat.ne_of_gt (Zl (by simp))
    obtain ⟨x, hx, hu'⟩ : ∃ x, xs[i]? = some x ∧ RelV x u := by
      obtain ⟨u', e1, e2⟩ := rx.get (List.getElem?_eq_getElem lx)
      have : u' = u := by have : us[i]? = some u := by simpa using hu
                          rw [this] at e1; exact (Option.some.inj e1).symm
      exact ⟨_, List.getElem?_eq_getElem lx, this ▸ e2⟩
    obtain ⟨y, hy, hv'⟩ : ∃ y, ys[i]? = some y ∧ RelV y v := by
      obtain ⟨v', e1, e2⟩ := ry.get (List.getElem?_eq_getElem ly)
      have : v' = v := by have : vs[i]? = some v := by simpa using hv
                          rw [this] at e1; exact (Option.some.inj e1).symm
      exact ⟨_, List.getElem?_eq_getElem ly, this ▸ e2⟩
    have ok : ObjOk X.prog X.w (upd H s.heap.objs.size (.tup [x, y])) h2 s.heap.objs.size (.tup [x, y]) := ⟨show 2 ≤ sizeLine by decide, [u, v], .cons hu' (.cons hv' .nil), _, up _ _ nz new, rfl, _, rfl⟩
    have J := I.turnedNew (t' := tk) (fun c o nc e => up c o (ks nc).1 (keep c o (ks nc).1 (ks nc).2.1 (ks nc).2.2.1 (ks nc).2.2.2 e)) fp (Nat.le_refl _) ok
    refine ⟨.ref s.heap.objs.size, _, J, rfl, ⟨_, x, y, rfl, I.hok.fresh (Nat.le_refl _), rfl, fun l hl => I.tuple_inj hl qx ▸ hx, fun l hl => I.list_inj hl qy ▸ hy⟩, ?_, fun c hc => ?_⟩
    · exact ⟨zz2, up _ _ S.TIz (keep TI _ S.TIz S.TITO S.TIi1 S.TIi2 ti), ⟨u, v, up _ _ S.TOz to'⟩, st1.1.at fun o e => up i1 o S.zi1.symm e, st2.1.at fun o e => up i2 o S.zi2.symm e⟩
    · rw [upd_ne (Nat.ne_of_lt (Zl hc))]; exact (fp c hc).1
  · intro X eP ew eK calm i pins s σ H E I fp Z stop
    subst eP ew eK
    obtain ⟨zz, ti, ⟨x0, y0, to⟩, one, two⟩ := Z
    obtain ⟨xs, ys, qx, qy, lx, ly, en⟩ := stop
    obtain ⟨us, rx, px, _⟩ := I.tuple qx
    obtain ⟨vs, ry, py, _⟩ := I.list qy
    have ex := rx.length
    have ey := ry.length
    have hh : X.A.in1.handled = none := I.ok.hd calm
    exact wpAny_pyNext_zipD2_end S (Draws.tuple hh i1 a na us.toArray) (Draws.list hh i2 b nb vs.toArray) zz ti to ⟨one, px⟩ ⟨two, py.isList⟩ (by simp; omega) (by simp; omega) (by simp; omega)
      fun h' tk keep => ⟨rfl, I.turnedL (t' := tk) (fun c o nc e => keep c o (ks nc).1 (ks nc).2.1 (ks nc).2.2.1 (ks nc).2.2.2 e) fp⟩
end
def iZipM (K : PySem.W.Frag) (ta : TA) : TI := fun σ H R => ta σ H fun vs H1 => ∃ a b xs ys, vs = [.ref a, .ref b] ∧ SqT K H1 a xs ∧ SqL K H1 b ys ∧ R (ItzM K a b) H1
theorem pi_zipM {X : Cx} {e e2 : Expr} {ta : TA} {p pos tpos : Pos} {elts : List Expr} {kk : Nat} (g : Gl X "zip") (m : X.mg "zip" = none) (args : PA X [e, e2] ta)
    (s1 : starEach [e, e2] X.env = (false, eval e X.env) :: starEach [e2] X.env := by rfl) (s2 : (backTo pos (starEach [e2] X.env)).any (·.1) = false := by rfl) : PI X (.Tuple elts kk tpos) (.Call (.Name "zip" p) [e, e2] [] pos) (iZipM X.K ta) := by
  constructor
  intro pins s σ H R I rd
  refine Call_ (ld_blt I g m PyProof.Rows.boot_zip (PyProof.Rows.callWith_type1 (thn (args.run pos pins s σ H _ I rd) ?_) s1 s2))
  rintro us t ⟨vs, H1, J, rel, a, b, xs, ys, rfl, qx, qy, r⟩
  obtain ⟨u1, u2, rfl, ra, rb⟩ := rel.two
  cases ra
  cases rb
  obtain ⟨as, rx, px, _⟩ := J.tuple qx
  obtain ⟨bs, ry, py, _⟩ := J.list qy
  have la : a < t.heap.objs.size := let ⟨_, q, _⟩ := px; Heap.lt_size q
  have lb : b < t.heap.objs.size := let ⟨_, q, _⟩ := py.isList; Heap.lt_size q
  refine zip_begins2 (begins_tuple a as.toArray) (begins_list b bs.toArray) px py.isList fun h' zz ti to o1 o2 _ keep => wpAny_pyIter_zip zz ?_
  refine ⟨_, _, _, _, H1, rfl, J.kept (t' := t.toks) keep, turn_zipM (zip_sep2 (N := t.heap.objs.size) (fp1 := [a]) (fp2 := [b]) (by simp; omega) (by simp; omega)) (Nat.ne_of_lt la) (Nat.ne_of_lt (Nat.lt_succ_of_lt lb)), ⟨zz, ti, ⟨_, _, to⟩, ⟨_, o1, rfl, rfl⟩, ⟨_, o2, rfl, rfl⟩⟩, fun c hc => ?_, r⟩
  have le : t.heap.objs.size ≤ c := by simp only [List.mem_cons, List.not_mem_nil, or_false] at hc; rcases hc with q | q | q | q | q <;> rw [q] <;> first | exact Nat.le_refl _ | exact Nat.le_add_right _ _
  exact J.fpOk le (J.hok.fresh le)
end Aq
/-! loops and comprehensions over anything that is walked -/
namespace Aq
open PySem L2 Evl
/-- what an iterator gives while C stands: n turns, Y i x of each -/
structure Yl (J : It) (C : Hp → Prop) (n : Nat) (Y : Nat → V → Hp → Prop) : Prop where
  go : ∀ i H, C H → i < n → J.go i H
  yld : ∀ i H x H', C H → i < n → J.yld i H x H' → Ex H H' ∧ Y i x H'
  stop : ∀ H, C H → J.stop n H
theorem yl_str (z : Str) : Yl (Its z) (fun _ => True) z.cps.size (fun i x _ => ∃ c, z.cps[i]? = some c ∧ x = .str ⟨#[c]⟩) :=
  ⟨fun i H _ h => h, fun i H x H' _ _ y => ⟨by rw [y.1]; exact Ex.refl _, y.2⟩, fun H _ => Nat.le_refl _⟩
theorem yl_list {K : PySem.W.Frag} {a : Addr} (xs : List V) : Yl (Itl K a) (fun H => SqL K H a xs) xs.length (fun i x _ => xs[i]? = some x) :=
  ⟨fun i H c h => ⟨xs, xs[i], c, by simp [h]⟩, fun i H x H' c _ y => ⟨by rw [y.1]; exact Ex.refl _, y.2 xs c⟩, fun H c => ⟨xs, c, Nat.le_refl _⟩⟩
theorem yl_tup {K : PySem.W.Frag} {a : Addr} (xs : List V) : Yl (Itt K a) (fun H => SqT K H a xs) xs.length (fun i x _ => xs[i]? = some x) :=
  ⟨fun i H c h => ⟨xs, xs[i], c, by simp [h]⟩, fun i H x H' c _ y => ⟨by rw [y.1]; exact Ex.refl _, y.2 xs c⟩, fun H c => ⟨xs, c, Nat.le_refl _⟩⟩
theorem yl_range (lo : Int) (n : Nat) : Yl (Itr lo n) (fun _ => True) n (fun i x _ => x = .int (lo + i)) :=
  ⟨fun i H _ h => h, fun i H x H' _ _ y => ⟨by rw [y.1]; exact Ex.refl _, y.2⟩, fun H _ => Nat.le_refl _⟩
theorem yl_enum {K : PySem.W.Frag} {a : Addr} (xs : List V) : Yl (Ite K a) (fun H => SqL K H a xs) xs.length (fun i x H => ∃ T y, x = .ref T ∧ H T = some (.tup [.int (i : Nat), y]) ∧ xs[i]? = some y) :=
  ⟨fun i H c h => ⟨xs, xs[i], c, by simp [h]⟩, fun i H x H' c _ y => by
    obtain ⟨T, z, rfl, hn, rfl, hx⟩ := y
    exact ⟨Ex.new hn, T, z, rfl, upd_same, hx xs c⟩, fun H c => ⟨xs, c, Nat.le_refl _⟩⟩
theorem yl_zipM {K : PySem.W.Frag} {a b : Addr} (xs ys : List V) (hl : xs.length = ys.length) : Yl (ItzM K a b) (fun H => SqT K H a xs ∧ SqL K H b ys) xs.length (fun i v H => ∃ T x y, v = .ref T ∧ H T = some (.tup [x, y]) ∧ xs[i]? = some x ∧ ys[i]? = some y) :=
  ⟨fun i H c h => ⟨xs, ys, c.1, c.2, h, hl ▸ h⟩, fun i H v H' c _ y => by
    obtain ⟨T, x, y, rfl, hn, rfl, h1, h2⟩ := y
    exact ⟨Ex.new hn, T, x, y, rfl, upd_same, h1 xs c.1, h2 ys c.2⟩, fun H c => ⟨xs, ys, c.1, c.2, Nat.le_refl _, Nat.le_of_eq hl, .inl rfl⟩⟩
theorem yl_zipL {K : PySem.W.Frag} {a b : Addr} (xs ys : List V) (hl : xs.length = ys.length) : Yl (Itz K a b) (fun H => SqL K H a xs ∧ SqL K H b ys) xs.length (fun i v H => ∃ T x y, v = .ref T ∧ H T = some (.tup [x, y]) ∧ xs[i]? = some x ∧ ys[i]? = some y) :=
  ⟨fun i H c h => ⟨xs, ys, xs[i], ys[i], c.1, c.2, by simp [h], by simp⟩, fun i H v H' c _ y => by
    obtain ⟨T, x, y, rfl, hn, rfl, h1, h2⟩ := y
    exact ⟨Ex.new hn, T, x, y, rfl, upd_same, h1 xs c.1, h2 ys c.2⟩, fun H c => ⟨xs, ys, c.1, c.2, .inl (Nat.le_refl _)⟩⟩
section
variable {J : It} {C : Hp → Prop} {n : Nat} {Y : Nat → V → Hp → Prop} {σ : L2.St} {H H1 : Hp} {Q : VK} {nx bk ct : L2.St → Hp → Prop} {rt : VK} {g : TG} {tb : TS} {wi : TI} {tt : TT} {te : TE} {vs : List Nat}
theorem for_yl (y : Yl J C n Y) (Pv : Nat → L2.St → Hp → Prop) (hC : ∀ i σ H, i ≤ n → Pv i σ H → C H) (h0 : Pv 0 σ H)
    (hs : ∀ i x σ H H', i < n → Pv i σ H → Ex H H' → Y i x H' → g x σ H' fun σ2 H2 => tb ⟨Pv (i + 1), rt, nx, Pv (i + 1)⟩ σ2 H2) (hd : ∀ σ H, Pv n σ H → nx σ H) :
    ∃ W : Nat → Nat → L2.St → Hp → Prop, (∃ m, W 0 m σ H) ∧ ∀ i m σ H, W i m σ H →
      (J.stop i H ∧ nx σ H) ∨ (J.go i H ∧ ∃ N : L2.St → Hp → Prop, (∀ σ' H', N σ' H' → ∃ m', m' < m ∧ W (i + 1) m' σ' H') ∧ ∀ x H', J.yld i H x H' → g x σ H' fun σ2 H2 => tb ⟨N, rt, nx, N⟩ σ2 H2) := by
  refine ⟨fun i m σ H => m = n - i ∧ i ≤ n ∧ Pv i σ H, ⟨n, by simp, Nat.zero_le _, h0⟩, ?_⟩
  rintro i m σ H ⟨rfl, hi, p⟩
  by_cases hlt : i < n
  · refine .inr ⟨y.go i H (hC i σ H hi p) hlt, Pv (i + 1), fun σ' H' p' => ⟨n - (i + 1), by omega, rfl, hlt, p'⟩, fun x H' q => ?_⟩
    obtain ⟨e, q⟩ := y.yld i H x H' (hC i σ H hi p) hlt q
    exact hs i x σ H H' hlt p e q
  · have e : i = n := by omega
    subst e
    exact .inl ⟨y.stop H (hC i σ H hi p), hd σ H p⟩
theorem lc_yl {D : Addr} {Qd : Hp → Prop} (y : Yl J C n Y) (Pv : Nat → Hp → Prop) (hC : ∀ i H, i ≤ n → Pv i H → C H) (h0 : Pv 0 (upd H1 D (.lst [])))
    (hs : ∀ i x H H', i < n → Pv i H → Ex H H' → Y i x H' → g x (wipe σ vs) H' fun σ2 H2 => wipe σ2 vs = wipe σ vs ∧ tt σ2 H2 fun b H3 =>
      if b = true then te σ2 H3 fun y H4 => ∃ acc, H4 D = some (.lst acc) ∧ acc.length < sizeLine ∧ Pv (i + 1) (upd H4 D (.lst (acc ++ [y]))) else Pv (i + 1) H3) (hd : ∀ H, Pv n H → Qd H) :
    ∃ W : Nat → Nat → Hp → Prop, (∃ m, W 0 m (upd H1 D (.lst []))) ∧ ∀ i m H, W i m H →
      (J.stop i H ∧ Qd H) ∨ (J.go i H ∧ ∃ Nx : Hp → Prop, (∀ H', Nx H' → ∃ m', m' < m ∧ W (i + 1) m' H') ∧ ∀ x H', J.yld i H x H' → g x (wipe σ vs) H' fun σ2 H2 => wipe σ2 vs = wipe σ vs ∧ tt σ2 H2 fun b H3 =>
        if b = true then te σ2 H3 fun y H4 => ∃ acc, H4 D = some (.lst acc) ∧ acc.length < sizeLine ∧ Nx (upd H4 D (.lst (acc ++ [y]))) else Nx H3) := by
  refine ⟨fun i m H => m = n - i ∧ i ≤ n ∧ Pv i H, ⟨n, by simp, Nat.zero_le _, h0⟩, ?_⟩
  rintro i m H ⟨rfl, hi, p⟩
  by_cases hlt : i < n
  · refine .inr ⟨y.go i H (hC i H hi p) hlt, Pv (i + 1), fun H' p' => ⟨n - (i + 1), by omega, rfl, hlt, p'⟩, fun x H' q => ?_⟩
    obtain ⟨e, q⟩ := y.yld i H x H' (hC i H hi p) hlt q
    exact hs i x H H' hlt p e q
  · have e : i = n := by omega
    subst e
    exact .inl ⟨y.stop H (hC i H hi p), hd H p⟩
theorem wipe1 {k : Nat} (x : Option V) : wipe ((wipe σ [k]).set k x) [k] = wipe σ [k] := by simp [wipe, List.set_set]
/-- a comprehension whose elements are values, found without writing -/
theorem lc_pure {k : Nat} {f : Nat → V} (y : Yl J C n Y) (hC : ∀ H', Ex H1 H' → C H') (hn : n ≤ 100000)
    (he : ∀ i x H', i < n → Ex H1 H' → Y i x H' → ∀ Q' : VK, (∀ H2, Ex H' H2 → Q' (f i) H2) → te ((wipe σ [k]).set k (some x)) H' Q')
    (q : ∀ p H', H1 p = none → Ex H1 H' → H' p = some (.lst ((List.range n).map f)) → Q (.ref p) H') :
    ∀ D, H1 D = none → ∃ W : Nat → Nat → Hp → Prop, (∃ m, W 0 m (upd H1 D (.lst []))) ∧ ∀ i m H, W i m H →
      (J.stop i H ∧ Q (.ref D) H) ∨ (J.go i H ∧ ∃ Nx : Hp → Prop, (∀ H', Nx H' → ∃ m', m' < m ∧ W (i + 1) m' H') ∧ ∀ x H', J.yld i H x H' → gName k x (wipe σ [k]) H' fun σ2 H2 => wipe σ2 [k] = wipe σ [k] ∧ tYes σ2 H2 fun b H3 =>
        if b = true then te σ2 H3 fun y H4 => ∃ acc, H4 D = some (.lst acc) ∧ acc.length < sizeLine ∧ Nx (upd H4 D (.lst (acc ++ [y]))) else Nx H3) := by
  intro D hD
  refine lc_yl y (fun i H' => Ex H1 H' ∧ H' D = some (.lst ((List.range i).map f))) (fun i H' _ p => hC H' p.1) ⟨Ex.new hD, upd_same⟩ (fun i x H' H2 hi p e yy => ?_) (fun H' p => q D H' hD p.1 p.2)
  show wipe ((wipe σ [k]).set k (some x)) [k] = wipe σ [k] ∧ _
  refine ⟨wipe1 _, rd_yes (iteT ?_)⟩
  refine he i x H2 hi (p.1.trans e) yy _ fun H3 e3 => ⟨_, e3 _ _ (e _ _ p.2), by simp; exact Nat.lt_of_lt_of_le (Nat.lt_of_lt_of_le hi hn) (by decide), ?_, ?_⟩
  · exact Ex.mut ((p.1.trans e).trans e3) hD
  · rw [upd_same, List.range_succ, List.map_append]; rfl
/-- the same, of the reading -/
theorem rd_lcPure {k : Nat} {f : Nat → V} (hw : ∀ R : It → Hp → Prop, R J H1 → wi σ H R) (y : Yl J C n Y) (hC : ∀ H', Ex H1 H' → C H') (hn : n ≤ 100000)
    (he : ∀ i x H', i < n → Ex H1 H' → Y i x H' → ∀ Q' : VK, (∀ H2, Ex H' H2 → Q' (f i) H2) → te ((wipe σ [k]).set k (some x)) H' Q')
    (q : ∀ p H', H1 p = none → Ex H1 H' → H' p = some (.lst ((List.range n).map f)) → Q (.ref p) H') : tLc wi (gName k) tYes te [k] σ H Q := hw _ (lc_pure y hC hn he q)
theorem rd_lcYl (hw : ∀ R : It → Hp → Prop, R J H1 → wi σ H R) (y : Yl J C n Y) (Pv : Addr → Nat → Hp → Prop) (hC : ∀ D i H, i ≤ n → Pv D i H → C H) (h0 : ∀ D, H1 D = none → Pv D 0 (upd H1 D (.lst [])))
    (hs : ∀ D i x H H', i < n → Pv D i H → Ex H H' → Y i x H' → g x (wipe σ vs) H' fun σ2 H2 => wipe σ2 vs = wipe σ vs ∧ tt σ2 H2 fun b H3 =>
      if b = true then te σ2 H3 fun y H4 => ∃ acc, H4 D = some (.lst acc) ∧ acc.length < sizeLine ∧ Pv D (i + 1) (upd H4 D (.lst (acc ++ [y]))) else Pv D (i + 1) H3) (hd : ∀ D H, Pv D n H → Q (.ref D) H) :
    tLc wi g tt te vs σ H Q := hw _ fun D hD => lc_yl y (Pv D) (hC D) (h0 D hD) (hs D) (hd D)
theorem rd_forYl (hw : ∀ R : It → Hp → Prop, R J H1 → wi σ H R) (y : Yl J C n Y) (Pv : Nat → L2.St → Hp → Prop) (hC : ∀ i σ H, i ≤ n → Pv i σ H → C H) (h0 : Pv 0 σ H1)
    (hs : ∀ i x σ H H', i < n → Pv i σ H → Ex H H' → Y i x H' → g x σ H' fun σ2 H2 => tb ⟨Pv (i + 1), rt, nx, Pv (i + 1)⟩ σ2 H2) (hd : ∀ σ H, Pv n σ H → nx σ H) : tFor wi g tb ⟨nx, rt, bk, ct⟩ σ H :=
  hw _ (for_yl y Pv hC h0 hs hd)
/-- the inner loop of a comprehension with two fors -/
theorem in_yl {D : Addr} {N : Hp → Prop} {τ : L2.St} (y : Yl J C n Y) (Pv : Nat → Hp → Prop) (hC : ∀ i H, i ≤ n → Pv i H → C H) (h0 : Pv 0 H1)
    (hs : ∀ i x H H', i < n → Pv i H → Ex H H' → Y i x H' → g x τ H' fun σ2 H2 => wipe σ2 vs = τ ∧ tt σ2 H2 fun b H3 =>
      if b = true then te σ2 H3 fun y H4 => ∃ acc, H4 D = some (.lst acc) ∧ acc.length < sizeLine ∧ Pv (i + 1) (upd H4 D (.lst (acc ++ [y]))) else Pv (i + 1) H3) (hd : ∀ H, Pv n H → N H) :
    ∃ W : Nat → Nat → Hp → Prop, (∃ m, W 0 m H1) ∧ ∀ i m H, W i m H →
      (J.stop i H ∧ N H) ∨ (J.go i H ∧ ∃ Nx : Hp → Prop, (∀ H', Nx H' → ∃ m', m' < m ∧ W (i + 1) m' H') ∧ ∀ x H', J.yld i H x H' → g x τ H' fun σ2 H2 => wipe σ2 vs = τ ∧ tt σ2 H2 fun b H3 =>
        if b = true then te σ2 H3 fun y H4 => ∃ acc, H4 D = some (.lst acc) ∧ acc.length < sizeLine ∧ Nx (upd H4 D (.lst (acc ++ [y]))) else Nx H3) := by
  refine ⟨fun i m H => m = n - i ∧ i ≤ n ∧ Pv i H, ⟨n, by simp, Nat.zero_le _, h0⟩, ?_⟩
  rintro i m H ⟨rfl, hi, p⟩
  by_cases hlt : i < n
  · refine .inr ⟨y.go i H (hC i H hi p) hlt, Pv (i + 1), fun H' p' => ⟨n - (i + 1), by omega, rfl, hlt, p'⟩, fun x H' q => ?_⟩
    obtain ⟨e, q⟩ := y.yld i H x H' (hC i H hi p) hlt q
    exact hs i x H H' hlt p e q
  · have e : i = n := by omega
    subst e
    exact .inl ⟨y.stop H (hC i H hi p), hd H p⟩
/-- two fors: the inner one is shown for each turn of the outer one, for any N that Pv (i + 1) gives -/
theorem rd_lc2Yl {wi1 : TI} {g1 : TG} {tt1 : TT} {vs1 : List Nat} (hw : ∀ R : It → Hp → Prop, R J H1 → wi σ H R) (y : Yl J C n Y) (Pv : Addr → Nat → Hp → Prop) (hC : ∀ D i H, i ≤ n → Pv D i H → C H) (h0 : ∀ D, H1 D = none → Pv D 0 (upd H1 D (.lst [])))
    (hs : ∀ D i x H H', i < n → Pv D i H → Ex H H' → Y i x H' → ∀ N : Hp → Prop, (∀ H, Pv D (i + 1) H → N H) → g x (wipe σ vs) H' fun σ2 H2 => wipe σ2 vs = wipe σ vs ∧ tt σ2 H2 fun b H3 =>
      if b = true then wi1 σ2 H3 fun J1 H4 => ∃ W1 : Nat → Nat → Hp → Prop, (∃ m, W1 0 m H4) ∧ ∀ j k H, W1 j k H →
        (J1.stop j H ∧ N H) ∨ (J1.go j H ∧ ∃ Nx1 : Hp → Prop, (∀ H', Nx1 H' → ∃ k', k' < k ∧ W1 (j + 1) k' H') ∧ ∀ x H', J1.yld j H x H' → g1 x (wipe σ2 vs1) H' fun σ3 H5 => wipe σ3 vs1 = wipe σ2 vs1 ∧ tt1 σ3 H5 fun b H6 =>
          if b = true then te σ3 H6 fun y H7 => ∃ acc, H7 D = some (.lst acc) ∧ acc.length < sizeLine ∧ Nx1 (upd H7 D (.lst (acc ++ [y]))) else Nx1 H6) else N H3) (hd : ∀ D H, Pv D n H → Q (.ref D) H) :
    tLc2 wi g tt wi1 g1 tt1 te vs vs1 σ H Q := by
  refine hw _ fun D hD => ⟨fun i m H => m = n - i ∧ i ≤ n ∧ Pv D i H, ⟨n, by simp, Nat.zero_le _, h0 D hD⟩, ?_⟩
  rintro i m H ⟨rfl, hi, p⟩
  by_cases hlt : i < n
  · refine .inr ⟨y.go i H (hC D i H hi p) hlt, Pv D (i + 1), fun H' p' => ⟨n - (i + 1), by omega, rfl, hlt, p'⟩, fun x H' q => ?_⟩
    obtain ⟨e, q⟩ := y.yld i H x H' (hC D i H hi p) hlt q
    exact hs D i x H H' hlt p e q _ (fun _ q => q)
  · have e : i = n := by omega
    subst e
    exact .inl ⟨y.stop H (hC D i H hi p), hd D H p⟩
end
/-- a list's items by place -/
theorem range_map {α β : Type} (l : List α) (f : α → β) (d : β) : (List.range l.length).map (fun i => (l[i]?.map f).getD d) = l.map f := by
  apply List.ext_getElem
  · simp
  · intro i h1 h2
    have : i < l.length := by simpa using h2
    simp [this]
end Aq
/-! enumerate(tuple), out of the library's enumerate over any iterator -/
namespace Aq
open PySem PySem.Spec PyProof.Rows L2 Evl
/-- the iterator of the tuple at t, as it is made -/
abbrev itT (t : Addr) : Obj := { cls := .type "tuple_iterator", data := .fields #[.ref t, .int 0 0] }
/-- an enumerate over the iterator at i, as it is made -/
abbrev enT (i : Addr) : Obj := { cls := .type "enumerate", data := .fields #[.none, .bool false, .ref i, rawInt 0, .none, .none] }
theorem meets_enT (t : Addr) (us : Array Value) :
    Meets (Builtin.«enumerate.__new__» ⟨[.type "enumerate", .ref t], []⟩) (fun _ R s => s.heap.IsTuple t us ∧ R (.ok (.ret (.ref (s.heap.push (itT t)).objs.size))) { s with heap := (s.heap.push (itT t)).push (enT s.heap.objs.size) }) := by
  refine .of_wp fun prog w A R s hh => ?_
  obtain ⟨hp, gn, dd, tk, os⟩ := s
  obtain ⟨ht, fin⟩ := hh
  have sub := sub_enumerate
  have go : ∀ {A' : Around} {E : Value → Shared → Prop} {Q : Value → Shared → Prop}, Q (.ref hp.objs.size) ⟨hp.push (itT t), gn, dd, tk, os⟩ → wpAny (model prog w) A' (pyIter (.ref t)) Q E ⟨hp, gn, dd, tk, os⟩ := fun q => wpAny_pyIter_tuple ht q
  obtain ⟨o, ho, hc, n, hd⟩ := ht
  wp_walk using go, AutoSeq1.wpAny_loadPart' ho
  refine wpAny_stack_any fun st => wpAny_pure ?_
  split
  · rename_i c _ _ _ _ _
    cases (c == Value.type "enumerate")
    all_goals
      wp_walk using go, AutoSeq1.wpAny_loadPart' ho
      exact ⟨_, rfl, fin⟩
  · wp_walk using go, AutoSeq1.wpAny_loadPart' ho
    exact ⟨_, rfl, fin⟩
section
variable {prog : Program} {w : World} {A : Around} {E : Value → Shared → Prop} {s : Shared}
theorem call_enT {t : Addr} {us : Array Value} {Q : Value → Shared → Prop} (ht : s.heap.IsTuple t us)
    (q : ∀ h', IsEnum h' (s.heap.objs.size + 1) s.heap.objs.size 0 .none → h'.IsTupleIter s.heap.objs.size t 0 → (∀ b o, s.heap.get? b = some o → h'.get? b = some o) → Q (.ref (s.heap.objs.size + 1)) { s with heap := h' }) :
    wpAny (model prog w) A (call (.type "enumerate") [.ref t]) Q E s := by
  have sz : (s.heap.push (itT t)).objs.size = s.heap.objs.size + 1 := Heap.size_push ..
  have top := Heap.get?_push_size (s.heap.push (itT t)) (o := enT s.heap.objs.size) rfl
  rw [sz] at top
  refine callType_new F.called_enumerate (by decide) (F.typeCall_enumerate_1 _) (F.newCall_enumerate_1 _) (fun obj => F.args_object_init_2 obj _) F.entry_enumerate_new (meets_enT t us) ⟨ht, ?_⟩
  show _ ∧ _
  rw [sz]
  exact ⟨⟨_, top, rfl⟩, q _ top ⟨_, Heap.get?_push_of_some _ (Heap.get?_push_size _ rfl), rfl, rfl⟩ fun b o z => Heap.get?_push_of_some _ (Heap.get?_push_of_some _ z)⟩
end
/-- the items of the tuple at a, each behind its place in a new pair -/
def ItE (K : PySem.W.Frag) (a : Addr) : It where
  go := fun i H => ∃ xs : List V, SqT K H a xs ∧ i < xs.length
  yld := fun i H v H' => ∃ T x, v = .ref T ∧ H T = none ∧ H' = upd H T (.tup [.int (i : Nat), x]) ∧ ∀ xs, SqT K H a xs → xs[i]? = some x
  stop := fun i H => ∃ xs : List V, SqT K H a xs ∧ xs.length = i
structure EnAt (e it a : Addr) (i : Nat) (h : Heap) : Prop where
  en : ∃ old, IsEnum h e it ((i : Nat) : Int) old
  tt : h.IsTupleIter it a i
  ne : e ≠ it
  nt : a ≠ it
  na : e ≠ a
theorem turn_enT {P : Program} {w : World} {K : PySem.W.Frag} {elts : List Expr} {kk : Nat} {tpos : Pos} (a e it : Addr) : Turn P w K (.Tuple elts kk tpos) (ItE K a) [e, it] e (EnAt e it a) := by
  have two : ∀ {c : Addr}, c ∈ [e, it] → c = e ∨ c = it := fun {c} h => by simpa using h
  refine ⟨by simp, fun i h Z c hc => ?_, fun i h h' Z k => ?_, ?_, ?_, fun A i s Q E Z h => let ⟨_, z⟩ := Z.en; wpAny_pyIter_enum z h⟩
  · obtain ⟨⟨old, en⟩, ⟨o, ho, _, hd⟩, _, _⟩ := Z
    rcases two hc with rfl | rfl
    · exact ⟨_, en, nofun⟩
    · exact ⟨o, ho, fun v q => nomatch hd.symm.trans q⟩
  · obtain ⟨old, en⟩ := Z.en
    exact ⟨⟨old, k e (by simp) _ en⟩, Z.tt.at (k it (by simp)), Z.ne, Z.nt, Z.na⟩
  · intro X eP ew eK calm i pins s σ H E I fp Z go
    subst eP ew eK
    obtain ⟨⟨old, en⟩, tit, ne, nt, na⟩ := Z
    obtain ⟨xs, qx, lx⟩ := go
    obtain ⟨us, rx, px, _⟩ := I.tuple qx
    have ex := rx.length
    have hh : X.A.in1.handled = none := I.ok.hd calm
    have le : e < s.heap.objs.size := Heap.lt_size en
    have li : it < s.heap.objs.size := let ⟨_, q, _⟩ := tit; Heap.lt_size q
    refine wpAny_pyNext_enum_itemD (Draws.tuple hh it a nt us.toArray) en ⟨tit, px⟩ (by simp; omega) ne (by simp [ne, na]) fun u h' tk hu out st new _ keep => ?_
    refine ⟨_, rfl, wpAny_letOwnedTupleGo_enum (s := { s with heap := h', toks := tk + 1 }) out fun h2 en2 sb => ?_⟩
    have up : ∀ c o, c ≠ e → h'.get? c = some o → h2.get? c = some o := fun c o n z => (sb.2 c n).trans z
    obtain ⟨x, hx, ru⟩ : ∃ x, xs[i]? = some x ∧ RelV x u := by
      obtain ⟨u', e1, e2⟩ := rx.get (List.getElem?_eq_getElem lx)
      have e3 : us[i]? = some u := by simpa using hu
      rw [e3] at e1
      cases e1
      exact ⟨_, List.getElem?_eq_getElem lx, e2⟩
    have ok : ObjOk X.prog X.w (upd H s.heap.objs.size (.tup [.int (i : Nat), x])) h2 s.heap.objs.size (.tup [.int (i : Nat), x]) := ⟨show 2 ≤ sizeLine by decide, _, .cons ⟨tk, rfl⟩ (.cons ru .nil), _, up _ _ (Nat.ne_of_gt le) new, rfl, _, rfl⟩
    have nn : ∀ {c : Addr}, c ∉ [e, it] → c ≠ e ∧ c ≠ it := fun {c} h => by simpa using h
    have J := I.turnedNew (t' := tk + 1) (fun c o nc z => up c o (nn nc).1 (keep c o (nn nc).1 (nn nc).2 z)) fp (Nat.le_refl _) ok
    refine ⟨.ref s.heap.objs.size, _, J, rfl, ⟨_, x, rfl, I.hok.fresh (Nat.le_refl _), rfl, fun l hl => I.tuple_inj hl qx ▸ hx⟩, ⟨⟨u, ?_⟩, st.1.at fun o z => up it o ne.symm z, ne, nt, na⟩, fun c hc => ?_⟩
    · rw [show (((i + 1 : Nat)) : Int) = (i : Int) + 1 by omega]; exact en2
    · have lc : c < s.heap.objs.size := by rcases two hc with rfl | rfl <;> assumption
      rw [upd_ne (Nat.ne_of_lt lc)]
      exact (fp c hc).1
  · intro X eP ew eK calm i pins s σ H E I fp Z stop
    subst eP ew eK
    obtain ⟨⟨old, en⟩, tit, ne, nt, na⟩ := Z
    obtain ⟨xs, qx, lx⟩ := stop
    obtain ⟨us, rx, px, _⟩ := I.tuple qx
    have ex := rx.length
    have hh : X.A.in1.handled = none := I.ok.hd calm
    have lu : us.toArray.size = i := by simp; omega
    refine wpAny_pyNext_enum_endD (Draws.tuple hh it a nt us.toArray) en ⟨?_, px⟩ fun h' eb => ⟨rfl, I.turnedL (t' := s.toks) (fun c o nc z => eb c o (fun q => nc (by simp [q])) z) fp⟩
    rw [lu]; exact tit
def iEnT (K : PySem.W.Frag) (ta : TA) : TI := fun σ H R => ta σ H fun vs H1 => ∃ a xs, vs = [.ref a] ∧ SqT K H1 a xs ∧ R (ItE K a) H1
theorem pi_enumT {X : Cx} {e : Expr} {ta : TA} {p pos tpos : Pos} {elts : List Expr} {kk : Nat} (g : Gl X "enumerate") (m : X.mg "enumerate" = none) (args : PA X [e] ta) (s1 : starEach [e] X.env = [(false, eval e X.env)] := by rfl) : PI X (.Tuple elts kk tpos) (.Call (.Name "enumerate" p) [e] [] pos) (iEnT X.K ta) := by
  constructor
  intro pins s σ H R I rd
  refine Call_ (ld_blt I g m boot_enumerate (PyProof.Rows.callWith_type1 (thn (args.run pos pins s σ H _ I rd) ?_) s1 rfl))
  rintro us t ⟨vs, H1, J, rel, a, xs, rfl, qx, r⟩
  obtain ⟨u1, rfl, ra⟩ := rel.one
  cases ra
  obtain ⟨as, rx, px, _⟩ := J.tuple qx
  have la : a < t.heap.objs.size := let ⟨_, q, _⟩ := px; Heap.lt_size q
  refine call_enT px fun h' en it keep => wpAny_pyIter_enum en ?_
  refine ⟨_, _, _, _, H1, rfl, J.kept (t' := t.toks) keep, turn_enT a (t.heap.objs.size + 1) t.heap.objs.size, ⟨⟨.none, en⟩, it, Nat.succ_ne_self _, Nat.ne_of_lt la, Nat.ne_of_gt (Nat.lt_succ_of_lt la)⟩, fun c hc => ?_, r⟩
  have le : t.heap.objs.size ≤ c := by
    have : c = t.heap.objs.size + 1 ∨ c = t.heap.objs.size := by simpa using hc
    rcases this with q | q <;> rw [q] <;> first | exact Nat.le_refl _ | exact Nat.le_succ _
  exact J.fpOk le (J.hok.fresh le)
theorem yl_enumT {K : PySem.W.Frag} {a : Addr} (xs : List V) : Yl (ItE K a) (fun H => SqT K H a xs) xs.length (fun i x H => ∃ T y, x = .ref T ∧ H T = some (.tup [.int (i : Nat), y]) ∧ xs[i]? = some y) :=
  ⟨fun i H c h => ⟨xs, c, h⟩, fun i H x H' c _ y => by
    obtain ⟨T, z, rfl, hn, rfl, hx⟩ := y
    exact ⟨Ex.new hn, T, z, rfl, upd_same, hx xs c⟩, fun H c => ⟨xs, c, rfl⟩⟩
theorem rd_iEnT {K : PySem.W.Frag} {ts : TA} {σ : L2.St} {H : Hp} {R : It → Hp → Prop} (h : ts σ H fun vs H1 => ∃ a xs, vs = [.ref a] ∧ SqT K H1 a xs ∧ R (ItE K a) H1) : iEnT K ts σ H R := h
end Aq
/-! what stays; dicts with text keys; texts as lists of codes -/
namespace Aq
open PySem L2 Evl
/-- all but p stays -/
def Kx (p : Addr) (H H' : Hp) : Prop := ∀ a o, a ≠ p → H a = some o → H' a = some o
theorem Kx.refl (p : Addr) (H : Hp) : Kx p H H := fun _ _ _ h => h
theorem Kx.trans {p : Addr} {H H1 H2 : Hp} (a : Kx p H H1) (b : Kx p H1 H2) : Kx p H H2 := fun x o n h => b x o n (a x o n h)
theorem Kx.of {p : Addr} {H H' : Hp} (e : Ex H H') : Kx p H H' := fun a o _ h => e a o h
theorem Kx.put {p : Addr} {H : Hp} {o : HO} : Kx p H (upd H p o) := fun a u n h => by rw [upd_ne n]; exact h
theorem Kx.ex {p : Addr} {H H' : Hp} (e : Kx p H H') (h : H p = none) : Ex H H' := fun a o q => e a o (ne_of_none q h) q
/-- .. and a younger thing may be written -/
theorem Kx.mut {p q : Addr} {H H' : Hp} {o : HO} (e : Kx p H H') (h : H q = none) : Kx p H (upd H' q o) := fun a u n ha => by rw [upd_ne (ne_of_none ha h)]; exact e a u n ha
theorem Kx.lst {p a : Addr} {H H' : Hp} {xs : List V} {kvs : List (Key × V)} (e : Kx p H H') (hp : H p = some (.dK kvs)) (h : H a = some (.lst xs)) : H' a = some (.lst xs) := e a _ (ne_of h hp (by intro z; cases z)) h
theorem Kx.tup {p a : Addr} {H H' : Hp} {xs : List V} {kvs : List (Key × V)} (e : Kx p H H') (hp : H p = some (.dK kvs)) (h : H a = some (.tup xs)) : H' a = some (.tup xs) := e a _ (ne_of h hp (by intro z; cases z)) h
theorem Kx.free {p a : Addr} {H H' : Hp} (e : Kx p H H') (n : a ≠ p) (h : H' a = none) : H a = none := by
  cases q : H a with
  | none => rfl
  | some o => rw [e a o n q] at h; cases h
theorem Ex.free {a : Addr} {H H' : Hp} (e : Ex H H') (h : H' a = none) : H a = none := fresh_back e h
theorem upd_lst {H : Hp} {a b : Addr} {o : HO} {u : HO} (n : b ≠ a) (h : H b = some u) : upd H a o b = some u := by rw [upd_ne n]; exact h
/-! ### data -/
theorem canLay_strs : ∀ ws : List Str, (∀ x ∈ ws, PyData.strOk x = true) → PyData.canLay0 (.tuple (ws.map PyData.str)) = true
  | [], _ => by simp [PyData.canLay0, PyData.canLayAll0]
  | x :: r, h => by
    have ih := canLay_strs r fun y hy => h y (List.mem_cons_of_mem _ hy)
    simp only [PyData.canLay0, List.map_cons, PyData.canLayAll0] at ih ⊢
    simp [PyData.canLay0, ih, h x (List.mem_cons_self ..)]
theorem depthAll_strs : ∀ ws : List Str, PyData.depthAll (ws.map PyData.str) ≤ 1
  | [] => by simp [PyData.depthAll]
  | x :: r => by
    have ih := depthAll_strs r
    simp only [List.map_cons, PyData.depthAll, PyData.depth]
    omega
theorem shaped_strs (ws : List Str) (h : ∀ x ∈ ws, PyData.strOk x = true) : SeqAt.shaped (.tuple (ws.map PyData.str)) = true := by
  unfold SeqAt.shaped
  rw [canLay_strs ws h, Bool.true_and]
  apply decide_eq_true
  have := depthAll_strs ws
  simp only [PyData.depth]
  omega
theorem eqvAll_strs : ∀ ws zs : List Str, PyData.eqvAll (ws.map PyData.str) (zs.map PyData.str) = decide (ws = zs)
  | [], [] => rfl
  | [], _ :: _ => rfl
  | _ :: _, [] => rfl
  | x :: r, y :: t => by
    rw [List.map_cons, List.map_cons, PyData.eqvAll, eqvAll_strs r t, PyData.eqv, Bool.eq_iff_iff]
    simp
theorem dp_strs {K : PySem.W.Frag} {H : Hp} : ∀ ws : List Str, DpAll K H (ws.map V.str) (ws.map PyData.str)
  | [] => .nil
  | x :: r => .cons (.str x) (dp_strs r)
theorem putF_new {f : Str} {v : V} : ∀ {fs : List (Str × V)} (ks : List Str) (e : fs.map (·.1) = ks) (h : f ∉ ks), putF f v fs = fs ++ [(f, v)]
  | [], _, _, _ => rfl
  | (g, x) :: r, ks, e, h => by
    subst e
    have hg : ¬ g = f := fun q => h (by simp [q])
    have := putF_new (f := f) (v := v) (fs := r) _ rfl (fun q => h (by simp at q ⊢; exact .inr q))
    show (if g = f then _ else (g, x) :: putF f v r) = _
    rw [if_neg hg, this]
    rfl
theorem putF_len {f : Str} {v : V} : ∀ fs : List (Str × V), (putF f v fs).length ≤ fs.length + 1
  | [] => Nat.le_refl _
  | (g, x) :: r => by
    show (if g = f then (g, v) :: r else (g, x) :: putF f v r).length ≤ _
    split
    · simp
    · have := putF_len (f := f) (v := v) r
      simp; omega
theorem putF_lt {f : Str} {v : V} {fs : List (Str × V)} {n : Nat} (h : fs.length ≤ n) (hn : n < 999) : (putF f v fs).length ≤ n + 1 ∧ (putF f v fs).length < 1000 := by
  have := putF_len (f := f) (v := v) fs
  omega
theorem canLay_ints : ∀ ns : List Int, PyData.canLayAll0 (ns.map PyData.int) = true
  | [] => by simp [PyData.canLayAll0]
  | x :: r => by
    have ih := canLay_ints r
    rw [List.map_cons, PyData.canLayAll0, ih]; simp [PyData.canLay0]
theorem depthAll_ints : ∀ ns : List Int, PyData.depthAll (ns.map PyData.int) ≤ 1
  | [] => by simp [PyData.depthAll]
  | x :: r => by
    have ih := depthAll_ints r
    simp only [List.map_cons, PyData.depthAll, PyData.depth]
    omega
theorem shaped_ints (ns : List Int) : SeqAt.shaped (.list (ns.map PyData.int)) = true := by
  unfold SeqAt.shaped
  have := depthAll_ints ns
  rw [PyData.canLay0, canLay_ints, Bool.true_and]
  apply decide_eq_true
  simp only [PyData.depth]; omega
theorem dp_ints {K : PySem.W.Frag} {H : Hp} : ∀ ns : List Int, DpAll K H (ns.map V.int) (ns.map PyData.int)
  | [] => .nil
  | x :: r => .cons (.int x) (dp_ints r)
theorem eqv_emptyI : ∀ ns : List Int, PyData.eqv (.list (ns.map PyData.int)) (.list []) = ns.isEmpty
  | [] => rfl
  | _ :: _ => rfl
theorem eqv_emptyS : ∀ ns : List Str, PyData.eqv (.list (ns.map PyData.str)) (.list []) = ns.isEmpty
  | [] => rfl
  | _ :: _ => rfl
/-! ### the pen: a dict of three -/
section
variable {k1 k2 k3 : Str}
def pd3 (k1 k2 k3 : Str) (x y z : V) : List (Key × V) := [(Sum.inr k1, x), (Sum.inr k2, y), (Sum.inr k3, z)]
structure D3 (k1 k2 k3 : Str) : Prop where
  a : k1 ≠ k2
  b : k1 ≠ k3
  c : k2 ≠ k3
theorem D3.v1 (d : D3 k1 k2 k3) {x y z : V} : valV (pd3 k1 k2 k3 x y z) (Sum.inr k1) = some x := valV_pos rfl
theorem D3.v2 (d : D3 k1 k2 k3) {x y z : V} : valV (pd3 k1 k2 k3 x y z) (Sum.inr k2) = some y := by
  unfold pd3; rw [valV_neg (fun e => d.a (Sum.inr.inj e)), valV_pos rfl]
theorem D3.v3 (d : D3 k1 k2 k3) {x y z : V} : valV (pd3 k1 k2 k3 x y z) (Sum.inr k3) = some z := by
  unfold pd3; rw [valV_neg (fun e => d.b (Sum.inr.inj e)), valV_neg (fun e => d.c (Sum.inr.inj e)), valV_pos rfl]
theorem D3.p2 (d : D3 k1 k2 k3) {x y z v : V} : putK (pd3 k1 k2 k3 x y z) (Sum.inr k2) v = pd3 k1 k2 k3 x v z := by
  have e1 : ¬ (Sum.inr k1 : Key) = Sum.inr k2 := fun e => d.a (Sum.inr.inj e)
  have e2 : ¬ (Sum.inr k3 : Key) = Sum.inr k2 := fun e => d.c (Sum.inr.inj e).symm
  simp [putK, pd3, e1, e2, d.a, d.c, Ne.symm d.c]
theorem D3.p3 (d : D3 k1 k2 k3) {x y z v : V} : putK (pd3 k1 k2 k3 x y z) (Sum.inr k3) v = pd3 k1 k2 k3 x y v := by
  simp [putK, pd3, d.b, d.c]
theorem D3.m (d : D3 k1 k2 k3) {x y z : V} : mergeK [] (pd3 k1 k2 k3 x y z) = pd3 k1 k2 k3 x y z := by
  simp [mergeK, pd3, putK, d.a, d.b, d.c]
/-- the pen at pd, its cells at c: at most B of them were begun -/
def Pen (k1 k2 k3 : Str) (H : Hp) (pd c : Addr) (B : Nat) : Prop := ∃ (ns : List Int) (at_ rest : Int),
  H pd = some (.dK (pd3 k1 k2 k3 (.ref c) (.int at_) (.int rest))) ∧ H c = some (.lst (ns.map V.int)) ∧ 0 ≤ at_ ∧ at_ ≤ B ∧ 0 ≤ rest
variable {H H' : Hp} {pd c : Addr} {B B' : Nat}
theorem Pen.ex (p : Pen k1 k2 k3 H pd c B) (e : Ex H H') : Pen k1 k2 k3 H' pd c B := let ⟨ns, i, j, h1, h2, r⟩ := p; ⟨ns, i, j, e _ _ h1, e _ _ h2, r⟩
theorem Pen.mono (p : Pen k1 k2 k3 H pd c B) (h : B ≤ B') : Pen k1 k2 k3 H pd c B' := let ⟨ns, i, j, h1, h2, r1, r2, r3⟩ := p; ⟨ns, i, j, h1, h2, r1, by omega, r3⟩
theorem Pen.wr {D : Addr} {o : HO} (p : Pen k1 k2 k3 H pd c B) (n1 : pd ≠ D) (n2 : c ≠ D) : Pen k1 k2 k3 (upd H D o) pd c B :=
  let ⟨ns, i, j, h1, h2, r⟩ := p; ⟨ns, i, j, by rw [upd_ne n1]; exact h1, by rw [upd_ne n2]; exact h2, r⟩
theorem Pen.dK (p : Pen k1 k2 k3 H pd c B) : ∃ kvs, H pd = some (.dK kvs) := let ⟨_, _, _, h1, _⟩ := p; ⟨_, h1⟩
theorem Pen.np {D : Addr} (p : Pen k1 k2 k3 H pd c B) (h : H D = none) : pd ≠ D := let ⟨_, _, _, h1, _⟩ := p; ne_of_none h1 h
theorem Pen.nc {D : Addr} (p : Pen k1 k2 k3 H pd c B) (h : H D = none) : c ≠ D := let ⟨_, _, _, _, h2, _⟩ := p; ne_of_none h2 h
/-- draws -/
def spDraw (k1 k2 k3 : Str) : Sp := fun vs H Q _ => ∃ (pd c : Addr) (B : Nat) (m : Int), vs = [.ref pd, .int m] ∧ Pen k1 k2 k3 H pd c B ∧ B < 1000000000 ∧ 0 < m ∧ m ≤ 1000000000 ∧
  ∀ r H', 0 ≤ r → r < m → Pen k1 k2 k3 H' pd c (B + 1) → Kx pd H H' → Q (.int r) H'
end
theorem atI_int {α : Type} {xs : List α} {i : Int} (h0 : 0 ≤ i) (h1 : i < xs.length) : ∃ v, v ∈ xs ∧ xs[i.toNat]? = some v ∧ atI xs i = some v := by
  have h : i.toNat < xs.length := by omega
  refine ⟨xs[i.toNat], List.getElem_mem h, List.getElem?_eq_getElem h, ?_⟩
  have e := atI_nat (List.getElem?_eq_getElem h)
  rw [Int.toNat_of_nonneg h0] at e
  exact e
theorem canLay_strsA : ∀ ws : List Str, (∀ x ∈ ws, PyData.strOk x = true) → PyData.canLayAll0 (ws.map PyData.str) = true := fun ws h => by
  have := canLay_strs ws h
  rwa [PyData.canLay0] at this
theorem shaped_strsL (ws : List Str) (h : ∀ x ∈ ws, PyData.strOk x = true) : SeqAt.shaped (.list (ws.map PyData.str)) = true := by
  unfold SeqAt.shaped
  rw [PyData.canLay0, canLay_strsA ws h, Bool.true_and]
  apply decide_eq_true
  have := depthAll_strs ws
  simp only [PyData.depth]
  omega
theorem perm_erase {α : Type} : ∀ (l : List α) (i : Nat) (x : α), l[i]? = some x → (x :: l.eraseIdx i).Perm l
  | [], _, _, h => by simp at h
  | y :: r, 0, x, h => by simp at h; subst h; exact List.Perm.refl _
  | y :: r, i + 1, x, h => by
    have ih := perm_erase r i x (by simpa using h)
    rw [List.eraseIdx_cons_succ]
    exact (List.Perm.swap y x _).trans (ih.cons y)
theorem join_ones : ∀ cs : List Nat, (Txt.join "" (cs.map fun c => (⟨#[c]⟩ : Str))).cps.toList = cs := fun cs => by
  rw [TL.join_eq]
  induction cs with
  | nil => rfl
  | cons c r ih =>
    cases r with
    | nil => rfl
    | cons d r =>
      show (⟨#[c]⟩ ++ "" ++ Str.join "" ((d :: r).map fun c => (⟨#[c]⟩ : Str)) : Str).cps.toList = _
      rw [PySem.W.KT.app_list, PySem.W.KT.app_list, ih]
      rfl
theorem ones_len : ∀ cs : List Nat, ((cs.map fun c => (⟨#[c]⟩ : Str)).map (·.length)).sum = cs.length
  | [] => rfl
  | c :: r => by
    have := ones_len r
    simp only [List.map_cons, List.sum_cons, List.length_cons, this]
    have : (⟨#[c]⟩ : Str).length = 1 := rfl
    omega
theorem mul_zero (x : Str) : Txt.mul x 0 = ⟨#[]⟩ := by
  unfold Txt.mul; rw [if_pos (by decide)]; rfl
theorem mul_one (x : Str) : Txt.mul x 1 = x := by
  unfold Txt.mul; rw [if_neg (by decide)]; simp
/-! ### texts -/
theorem str_ext {x y : Str} (h : x.cps.toList = y.cps.toList) : x = y := by
  cases x; cases y; congr 1; exact Array.toList_inj.mp h
theorem app_cps (x y : Str) : (x ++ y).cps.toList = x.cps.toList ++ y.cps.toList := PySem.W.KT.app_list x y
theorem app_len (x y : Str) : (x ++ y).length = x.length + y.length := by
  rw [← len_cps, ← len_cps, ← len_cps, app_cps, List.length_append]
theorem one_cps (c : Nat) : (⟨#[c]⟩ : Str).cps.toList = [c] := rfl
theorem one_len (c : Nat) : (⟨#[c]⟩ : Str).length = 1 := rfl
end Aq
/-! an own exception over ValueError whose __init__ begins super().__init__(e) -/
namespace Aq
open PySem PySem.Spec PyProof.Rows L2 NdefX
section
variable {prog : Program} {w : World} {A : Around} {E : Value → Shared → Prop} {s : Shared} {nm q : Str} {C N x u t : Addr} {bs bm : List Value} {hdct : Bool} {sn : List Str} {sub : List Value} {ab : Bool} {col : Option Bool} {dd dv : Option Addr} {k0 k1 k2 k3 k5 : Option Value} {rest : List Value}
/-- ValueError.__init__ bound to x, called -/
theorem mw_init {Q : Value → Shared → Prop} (hC : s.heap.get? C = some (excClassObj nm q C N bs bm hdct sn sub ab col dd k0 k1 k2 k3 k5 "ValueError.__new__")) (hx : s.heap.get? x = some (PySem.W.excRec (.ref C) t dv .none .none (.bool false)))
    (hu : s.heap.get? u = some (PySem.W.kxs_mw "ValueError.__init__" x)) (hz : rest.length ≤ sizeLine)
    (h : ∀ h' t', (∀ b o, b ≠ x → s.heap.get? b = some o → h'.get? b = some o) → h'.get? x = some (PySem.W.excRec (.ref C) t' dv .none .none (.bool false)) → Q .none { s with heap := h' }) : wpAny (model prog w) A (call (.ref u) rest) Q E s := by
  obtain ⟨hp, g, d, tk, os⟩ := s
  refine wpAny_call (codeAny_of_tree (show wpAny _ A.in1 (callAny (.ref u) ⟨rest, []⟩) _ _ _ from ?_))
  unfold callAny
  refine wpAny_bind (wpAny_load hu (PySem.W.KFB.if_so (by show (Value.type "method-wrapper" == Value.type "method" || Value.type "method-wrapper" == Value.type "builtin_function_or_method" || Value.type "method-wrapper" == Value.type "method-wrapper") = true; decide) (wpAny_bind (PySem.W.check_bound_init F.excBase_ValueError.toExcCallFacts hC hx rfl (wpAny_bind (wpAny_pure (wpAny_pure ⟨plainId_quiet F.excBase_ValueError.init.plain _, codeAny_builtin F.excBase_ValueError.initEntry ?_⟩)))))))
  exact PySem.W.exc_init_tree hx hz fun h' k e _ => h h' _ k e
end
/-- what the written part says of the class at D and of its __init__, F at f, which begins super().__init__(..) -/
structure XI (P : Program) (K : PySem.W.Frag) (mg : Str → Option Value) (F : NF) (f D : Addr) (a0 : Str) (doc pm ctv : Value) : Prop where
  lk : ∃ oc od osl, K.lookup f = some ⟨oc, od, .func (F.fd doc pm ctv), osl⟩
  cd : PySem.W.codeIn K (.ref F.c) F.qual = true
  cl : ∃ cc c1 c2 c3, F.cl = [(("__class__" : Str), cc)] ∧ K.lookup cc = some ⟨c1, c2, .cell (some (.ref D)), c3⟩
  ar : ∃ ar, (F.params.posonlyargs ++ F.params.args).head? = some ar ∧ ar.arg = a0
  fl : ∃ c1 c2 c3 vs file tf, K.lookup F.c = some ⟨c1, c2, .fields vs, c3⟩ ∧ vs[2]? = some (.str file tf) ∧ ((P.main.file : Str) == file) = true
  me : PySem.W.mroIn K D (.ref D) = some true
  sg : mg "super" = none
  sk : F.scope.names.lookup ("super" : Str) = some .globalImplicit
  st : (P.main.scope.names.lookup ("super" : Str)).isSome = false
  op : PySem.W.nsIn K cStatics "thirdparty.any" = some none
  up : PySem.W.ks_superIn K D D "__init__" = some (some (.builtin "ValueError.__init__"))
  ve : PySem.W.subIn K (.ref D) (.type "ValueError") = some true
  ox : OexC K D
theorem fn_exc {CX : CXT} {P : Program} {w : World} {K : PySem.W.Frag} {mg : Str → Option Value} {base : Heap} {N psr : List Str} {a0 : Str} {F : NF} {f D : Addr} {k : Nat} {sp : Sp} {doc pm ctv : Value} {e : Expr} {rest : List Stmt} {p0 p1 p2 p3 p4 : Pos}
    (T : XI P K mg F f D a0 doc pm ctv) (S : NScope N (a0 :: psr) ["__class__"] F.scope) (eb : F.body = .Expr (.Call (.Attribute (.Call (.Name "super" p0) [] [] p1) "__init__" p2) [e] [] p3) p4 :: rest)
    (len : ∀ vs H Q E, sp vs H Q E → vs.length = (a0 :: psr).length)
    (hbody : ∀ (A : Around) (outer : List Env) (s : Shared) (H : Hp) (vs : List V) (Q : VK) (E : XK), Room k (A.deeper (envF F f s.heap.objs.size)) → sp vs H Q E → ∃ ta t a, PA (ncx CX P w K mg base N F f A outer s H E) [e] ta ∧ PSs (ncx CX P w K mg base N F f A outer s H E) rest t ∧
      vs[0]? = some (.ref a) ∧ H a = some (exo a D none) ∧ ta (startF N vs [none]) H fun xs H1 => xs.length ≤ 1000 ∧ H1 a = some (exo a D none) ∧ t { nx := fun _ H' => Q .non H', rt := Q } (startF N vs [none]) H1)
    (hst : ∀ A outer s H E, starEach [e] (ncx CX P w K mg base N F f A outer s H E).env = (false, eval e (ncx CX P w K mg base N F f A outer s H E).env) :: starEach [] (ncx CX P w K mg base N F f A outer s H E).env := by intros; rfl)
    (hev : ∃ pl : Addr → Sem Bool, ∀ L, eval (.Call (.Attribute (.Call (.Name "super" p0) [] [] p1) "__init__" p2) [e] [] p3) (envF F f L) = (do
      let ov ← attributeBase (.Call (.Name "super" p0) [] [] p1) "__init__" (envF F f L) (eval (.Call (.Name "super" p0) [] [] p1) (envF F f L))
      standAt p2.atName
      let (g, first) ← holding [ov] (getMethod ov "__init__" (pl L))
      callWith p3 g first (backTo p3 (starEach [e] (envF F f L))) []) := by exact ⟨_, fun _ => rfl⟩)
    (hin : ∀ L, interactive (envF F f L) = false := by intros; rfl)
    (hsw : ∀ L, swapsWith (.Call (.Attribute (.Call (.Name "super" p0) [] [] p1) "__init__" p2) [e] [] p3) none p4.line (envF F f L) = pure false := by intros; rfl) :
    FnOk P w K mg base CX (k + 1) f (F.fd doc pm ctv) (a0 :: psr) sp := by
  refine ⟨len, fun A outer s H args us vs Q E hr e0 hb r hsp => ?_⟩
  have hl := len _ _ _ _ hsp
  have KX : K.In s.heap := e0.mod.kin.keeps fun b o z => (e0.bs b o z).1
  obtain ⟨oc, od, osl, lk⟩ := T.lk
  obtain ⟨cc, c1, c2, c3, ecl, hcell⟩ := T.cl
  obtain ⟨ar, har, ear⟩ := T.ar
  obtain ⟨d1, d2, d3, cvs, file, tf, hcode, hvs, hfile⟩ := T.fl
  have hfree : ∀ b o, K.lookup b = some o → H b = none := fun b o z => (e0.bs b o (e0.mod.kin _ _ z)).2
  refine codeAny_call_function hr.depth (KX _ _ lk) rfl S.co S.gen rfl (PySem.W.codeRec_of KX T.cd) (hb _ _ _ _ (wpAny_newFunctionEnv S.nocell (fun ⟨n, _⟩ hy => S.par n (List.of_mem_zip hy).1) (fun h1 hns hsb => ⟨(e0.mod.nolimit.keeps fun b o z => (e0.bs b o z).1).fresh _ hsb, ?_⟩) S.kind))
  show codeAny _ _ (.func F.body (envF F f s.heap.objs.size)) _ _
  have kp : ∀ b o, s.heap.get? b = some o → h1.get? b = some o := fun b o z => hsb.extBut b o (Nat.ne_of_lt (Heap.lt_size z)) (Heap.get?_push_of_some _ z)
  have CA : CellsAt F.cl ["__class__"] [none] s.heap H := by
    refine ⟨rfl, fun y c h => ?_, fun x y c h1 h2 => ?_, fun i y h => ?_⟩
    · rw [ecl] at h
      have : c = cc := by
        simp only [List.lookup] at h
        split at h
        · exact (Option.some.inj h).symm
        · cases h
      subst this
      exact ⟨hfree _ _ hcell, _, _, KX _ _ hcell, rfl⟩
    · rw [ecl] at h1 h2
      simp only [List.lookup] at h1 h2
      split at h1
      · split at h2
        · rename_i q1 _ q2
          exact (eq_of_beq q1).trans (eq_of_beq q2).symm
        · cases h2
      · cases h1
    · cases i with
      | zero =>
        simp at h
        subst h
        exact ⟨cc, by rw [ecl]; simp [List.lookup], fun v hv => by simp at hv⟩
      | succ i => simp at h
  obtain ⟨ta, t, a, pa, ps, ev, ha, hq⟩ := hbody A outer s H vs Q E (hr.deeper _) hsp
  have I : Inv (ncx CX P w K mg base N F f A outer s H E) [] (startF N vs [none]) H { s with heap := h1, toks := s.toks + ((a0 :: psr).zip us).length } := inv_startN S hr.hd e0 hl r CA hns kp
  generalize hs1 : ({ s with heap := h1, toks := s.toks + ((a0 :: psr).zip us).length } : Shared) = s1 at I ⊢
  have hns1 : s1.heap.Ns s.heap.objs.size fun y => ((a0 :: psr).zip us).reverse.lookup y := by rw [← hs1]; exact hns
  have fin : ∀ {fl : Flow} {s' : Shared}, SP (ncx CX P w K mg base N F f A outer s H E) [] { nx := fun _ H' => Q .non H', rt := Q } fl s' → CR CX outer P w H s Q E (.ok (.ret (match fl with | .ret v => v | _ => .none))) s' := fun {fl s'} hs => by
    cases fl with
    | ret u => obtain ⟨v, σ', H', J, rv, q⟩ := hs; exact ⟨v, H', J.os, J.bare, J.base, J.hok, rv, q⟩
    | next => obtain ⟨σ', H', J, q⟩ := hs; exact ⟨.non, H', J.os, J.bare, J.base, J.hok, rfl, q⟩
    | brk => obtain ⟨_, _, _, q⟩ := hs; exact q.elim
    | cont => obtain ⟨_, _, _, q⟩ := hs; exact q.elim
  refine ks_codeAny_funcAt ?_
  rw [eb]
  have hkc : (envF F f s.heap.objs.size).kindOf "__class__" = some .free := S.frk _ (by simp)
  have X1 := I.kIn
  obtain ⟨nm, qn, NN, bs, bm, sn, sub, ab, col, dd, k0, k1, k2, k3, k5, hC, hbm⟩ := T.ox.cls
  obtain ⟨t1, hoa⟩ := exo_at I.hok ha
  have hns2 := hns1
  have hua : ((a0 :: psr).zip us).reverse.lookup a0 = some (.ref a) := by
    obtain ⟨u, hu, ru⟩ := r.get ev
    cases ru
    have nd : (a0 :: psr).Nodup := by
      have q := S.nd.sublist (List.take_sublist ((a0 :: psr).length + [("__class__" : Str)].length) N)
      rw [S.pre] at q
      exact (List.nodup_append.mp q).1
    exact zip_look nd (i := 0) rfl hu
  have hCl : PySem.W.clsIn K D = some { name := nm, bases := bs, mro := .ref D :: bm, ns := NN, qualname := qn, hasDict := true, slotNames := sn, subclasses := sub, abstract := ab, collection := col, hasDel := false } := by
    unfold PySem.W.clsIn; rw [hC] <;> rfl
  obtain ⟨pl, hev⟩ := hev
  refine ks_wpAt_execs_cons (ks_wpAt_Expr_any (ks_wpAt_MethodCall (ks_wpAt_super_base T.sk hkc (by decide) rfl (X1 _ _ lk) rfl har rfl (X1 _ _ hcode) rfl hvs hfile T.st ?_) (hev _)) (hin _) (hsw _))
  obtain ⟨mb, b1, b2⟩ := I.mod.blt
  refine PySem.W.ks_loadName_global S.kind T.sk (Calls.loadGlobal_builtin (I.mod.glob.keeps I.bk) T.sg (b1.keeps I.bk) ((b2 _ (by decide)).trans (by decide +kernel)) ⟨rfl, ?_⟩)
  refine wpAny_loadName_free S.kind hkc (c := cc) (by show F.cl.lookup _ = _; rw [ecl]; simp [List.lookup]) ⟨_, X1 _ _ hcell, rfl⟩ ?_
  subst ear
  refine wpAny_loadName_local S.kind (S.par _ (by simp)) hns1 hua (ks_wpAny_isType_cls (X1 _ _ hC) rfl ⟨rfl, ?_⟩)
  have naD : a ≠ D := fun z => by
    have := hfree D _ hC
    rw [← z, ha] at this
    cases this
  clear hs1 hns2
  obtain ⟨hp, g, d, tk, os⟩ := s1
  refine ks_wpAny_call_super (X1 _ _ hC) rfl hoa rfl (fun c q => nomatch q) (PySem.W.looks_mroIn X1 T.me) fun h2 hso kp2 => ?_
  have I2 := I.kept (t' := tk) kp2
  have hup := T.up
  unfold PySem.W.ks_superIn at hup
  rw [hCl] at hup
  have IA : PySem.W.InstAt h2 a { cls := .ref D, dict := none, data := .fields #[.ref t1, .none, .none, .none, .bool false, .none] } D none := ⟨kp2 _ _ hoa, rfl, rfl, trivial⟩
  refine PySem.W.kxs_getMethod PySem.W.kxs_ValueError hso (PySem.W.looks_opaque I2.kIn T.op) (l₀ := .ref D :: bm) (fun A Q E s k q => wpAny_bind ((PySem.W.looks_clsIn I2.kIn hCl) A _ E s k (wpAny_pure q))) rfl I2.kIn hup (IA.type.andThen (PySem.W.looks_subIn I2.kIn T.ve)) naD rfl ?_
  have I3 : Inv (ncx CX P w K mg base N F f A outer s H E) [(h2.objs.size, PySem.W.kxs_mw "ValueError.__init__" a)] (startF N vs [none]) H ⟨h2.push (PySem.W.kxs_mw "ValueError.__init__" a), g, d, tk + 1, os⟩ := by
    have J := I2.kept (h' := h2.push (PySem.W.kxs_mw "ValueError.__init__" a)) (t' := tk + 1) fun b o z => Heap.get?_push_of_some _ z
    refine J.pins_of fun p hp => ?_
    rw [List.mem_singleton] at hp
    subst hp
    exact ⟨Heap.get?_push_size _ rfl, I2.hok.fresh (Nat.le_refl _), Nat.ne_of_gt I2.lt, I2.nofs (Nat.le_refl _), nofun⟩
  have hs0 : starEach [e] (envF F f s.heap.objs.size) = (false, eval e (envF F f s.heap.objs.size)) :: starEach [] (envF F f s.heap.objs.size) := hst A outer s H E
  have run : wpAny (model P w) _ (spliced (backTo p3 (starEach [e] (envF F f s.heap.objs.size)))) _ _ _ := pa.run p3 _ _ _ H _ I3 hq
  show wpAny _ _ (callWith p3 (.ref h2.objs.size) [] (backTo p3 (starEach [e] (envF F f s.heap.objs.size))) []) _ _ _
  rw [hs0] at run ⊢
  refine PySem.W.kxs_callWith (i := "ValueError.__init__") (x := a) rfl (Calls.evalArgs_plain (thn run fun us2 s2 hs2 => ?_))
  obtain ⟨ws, H1, I4, rws, hz, ha1, q1⟩ := hs2
  obtain ⟨t2, ho2⟩ := exo_at I4.hok ha1
  have pin := (I4.pin _ (List.mem_append_right _ (List.mem_singleton_self _))).1
  have lz : us2.length ≤ sizeLine := by rw [← rws.length]; exact Nat.le_trans hz (by decide)
  refine ⟨pin, mw_init (I4.kIn _ _ hC) ho2 pin lz fun h3 t3 k3 hx3 => ?_⟩
  have J := I4.write (t' := s2.toks) (x := a) (e := a) (o := exo a D none) (by rw [ha1]; exact True.intro) (.inl rfl) k3 ⟨_, hx3⟩ (exo_ok hx3)
  have eu : upd H1 a (exo a D none) = H1 := by
    funext b
    by_cases hb : b = a
    · rw [hb, upd_same, ha1]
    · rw [upd_ne hb]
  rw [eu] at J
  have J0 : Inv (ncx CX P w K mg base N F f A outer s H E) [] (startF N vs [none]) H1 _ := J.pins_of (pins' := []) (fun p hp => by cases hp)
  refine wpAt_of_wpAny (wpAny_mono (ps.run [] _ _ H1 _ J0 q1) (fun fl s' hs => fin hs) fun e s' hs => hs)
end Aq
/-! try with several clauses `except X as n` -/
namespace Aq
open PySem PySem.Spec PyProof.Rows L2
abbrev Clause := Value × Option Nat × (Addr → Value → Option Addr → TS)
/-- the ends of a suite behind which slot i is gone -/
def Ends.gone (D : Ends) (i : Nat) : Ends := { nx := fun σ' H' => D.nx (σ'.set i none) H', rt := D.rt, bk := fun σ' H' => D.bk (σ'.set i none) H', ct := fun σ' H' => D.ct (σ'.set i none) H' }
def wAsM (K : PySem.W.Frag) (Wout : WX) (D : Ends) : List Clause → WX
  | [] => Wout
  | (c, none, ts) :: r => fun cls d σ H => ∃ b, PySem.W.exmOne K cls c = some b ∧ (b = true → ∀ a, H a = none → ts a cls d D σ H) ∧ (b = false → wAsM K Wout D r cls d σ H)
  | (c, some i, ts) :: r => fun cls d σ H => ∃ b, PySem.W.exmOne K cls c = some b ∧ (b = true → ∀ a, H a = none → ts a cls d (Ends.gone D i) (σ.set i (some (.ref a))) H) ∧ (b = false → wAsM K Wout D r cls d σ H)
inductive HdsA (X : Cx) : List ExceptHandler → List Clause → Prop
  | nil : HdsA X [] []
  | cons {x n : Str} {c : Value} {i : Nat} {ts : Addr → Value → Option Addr → TS} {b0 : Stmt} {suite : List Stmt} {np pos' : Pos} {hds : List ExceptHandler} {l : List Clause} (hc : Names X x c) (hi : X.N[i]? = some n) (hln : X.env.kindOf n = some .local)
      (hsu : ∀ (a : Addr) (oe : Obj) (cls : Value) (d : Option Addr) (pn : List (Addr × Obj)), Zc cls d oe → (∃ vs, oe.data = .fields vs) → PSs (X.suite a ((a, oe) :: pn)) (b0 :: suite) (ts a cls d)) (r : HdsA X hds l) : HdsA X (.ExceptHandler (some (.Name x np)) (some n) (b0 :: suite) pos' :: hds) ((c, some i, ts) :: l)
  | consN {x : Str} {c : Value} {ts : Addr → Value → Option Addr → TS} {b0 : Stmt} {suite : List Stmt} {np pos' : Pos} {hds : List ExceptHandler} {l : List Clause} (hc : Names X x c)
      (hsu : ∀ (a : Addr) (oe : Obj) (cls : Value) (d : Option Addr) (pn : List (Addr × Obj)), Zc cls d oe → (∃ vs, oe.data = .fields vs) → PSs (X.suite a ((a, oe) :: pn)) (b0 :: suite) (ts a cls d)) (r : HdsA X hds l) : HdsA X (.ExceptHandler (some (.Name x np)) none (b0 :: suite) pos' :: hds) ((c, none, ts) :: l)
section
variable {X : Cx} {body : List Stmt} {h0 : ExceptHandler} {hds : List ExceptHandler} {l : List Clause} {pos : Pos} {tb : WX → TS} {Wout : WX}
theorem ps_try_asM (hs : X.stack = X.env :: X.outer) (hf : X.env.frame = some X.env.locals) (hN : X.N.Nodup) (tk : Takes X Wout)
    (hb : ∀ (W : WX) (pn : List (Addr × Obj)) (xe : Value → Shared → Prop), Takes (X.tr pn xe) W → PassesOwn (model X.prog X.w) X.A X.env xe → PSs (X.tr pn xe) body (tb W)) (hh : HdsA X (h0 :: hds) l) : PS X (.Try body (h0 :: hds) [] [] pos) (fun D σ H => tb (wAsM X.K Wout D l) D σ H) := by
  constructor
  intro pins s σ H D I rd
  have ok := I.ok
  have hfr : X.A.frames = some (X.env :: X.outer) := hs ▸ ok.frames
  refine wpAny_Try_except (wpAny_mono ((hb (wAsM X.K Wout D l) (X.pn ++ pins) (fun e s1 => wpAny (model X.prog X.w) X.A (noteFrame e X.env) (fun _ s2 => wpAny (model X.prog X.w) X.A (setFlight e none) (fun _ s3 => wpAny (model X.prog X.w) X.A (handleBy e X.env (h0 :: hds)) (SP X pins D) X.xe s3) X.xe s2) X.xe s1) ?_ PassesOwn.looking).run [] s σ H D (I.toTry _) rd) ?_ fun _ _ q => q)
  · rintro u t ⟨a, B, tI, pins', σ', H', cls, d, rfl, J', nb, up, sky, na, os, ag, wish⟩
    have J : Inv X pins σ' H' tI := J'.ofTry ok
    refine Sky.land Zc.steady hfr hf (hs ▸ sky) fun h3 fl3 up3 => ?_
    have J3 : Inv X pins σ' H' { t with heap := h3 } := J.landed nb fl3.1 (up.trans up3) os ag
    obtain ⟨oe3, vs3, he3, hz3, hd3⟩ := fl3.there
    have nfr : a ∉ frs (X.env :: X.outer) := fun hm => by
      obtain ⟨_, o', e', hnf⟩ := fl3.2.2.1.mem hm
      cases he3.symm.trans e'
      exact hnf _ hd3
    have nL : a ≠ X.env.locals := fun z => nfr (List.mem_filterMap.mpr ⟨X.env, List.mem_cons_self, z ▸ hf⟩)
    have nF : a ∉ X.fs := fun hm => by
      obtain ⟨e, he, q⟩ := List.mem_filterMap.mp hm
      exact nfr (List.mem_filterMap.mpr ⟨e, List.mem_cons_of_mem _ he, q⟩)
    have S3 := J3.suite he3 hd3 na nL nF
    clear hb
    have go : ∀ {hs' : List ExceptHandler} {l' : List Clause}, HdsA X hs' l' → wAsM X.K Wout D l' cls d σ' H' → wpAny (model X.prog X.w) X.A (handleBy (.ref a) X.env hs') (SP X pins D) X.xe { t with heap := h3 } := fun {hs' l'} hk => by
      induction hk with
      | nil =>
        intro wo
        obtain ⟨_, _, _, oe, vs, T, oT, ts', he, hz, hd, h1, _⟩ := id fl3
        have out : wpAny (model X.prog X.w) X.A (setFlight (.ref a) X.env.frame) (fun _ s4 => wpAny (model X.prog X.w) X.A (throw (.ref a) : Sem Flow) (SP X pins D) X.xe s4) X.xe { t with heap := h3 } := by
          rw [hf]
          exact HandSPX.setFlight_upZ fl3 fun h4 hh4 up4 => wpAny_throw (tk _ _ ⟨a, B, tI, pins, σ', H', cls, d, rfl, J, nb, (up.trans up3).trans up4, .inr (.inr (hs ▸ hh4)), na, os, ag, wo⟩)
        refine wpAny_handleBy_nil ?_
        delta PySem.passOn
        refine wpAny_bind (wpAny_field he hd h1 (?_ : wpAny _ _ (if (Value.ref T == Value.none) = true then _ else _) _ _ _))
        rw [if_neg (by simp : ¬ (Value.ref T == Value.none) = true)]
        first | exact wpAny_bind (wpAny_pure (wpAny_bind out)) | exact wpAny_bind out
      | @cons x n c i ts b0 suite np pos' hds2 l2 hc hi hln hsu r ih =>
        rintro ⟨b, eb, yes, no⟩
        have LM := PySem.W.exm_one (M := model X.prog X.w) J3.kIn (show PySem.W.Looks (model X.prog X.w) h3 (typeOf (.ref a)) cls from fun A Q E s k q => wpAny_typeOf_ref (k _ _ he3) (hz3.1.symm ▸ q)) eb
        have test : ∀ {Q : Value → Shared → Prop} {E : Value → Shared → Prop}, Q c { t with heap := h3 } → wpAny (model X.prog X.w) (X.A.mark (some (.ref a))) (eval (.Name x np) X.env) Q E { t with heap := h3 } := fun {Q E} q => by
          exact hc.2.2.elim (fun z => ld_glob (X := X.suite a ((a, oe3) :: (X.pn ++ pins))) S3 hc.1 z q hc.2.1) fun z => ld_blt (X := X.suite a ((a, oe3) :: (X.pn ++ pins))) S3 hc.1 z.1 z.2.1 q z.2.2 hc.2.1
        refine wpAny_handleBy_cons (codeAny_handlers_test (test (LM.here ?_))) (fun q => nomatch q)
        cases b with
        | false => exact ih (no rfl)
        | true =>
          refine codeAny_handlers_suite_as (HandSPX.lands_againZ fl3 fun h4 fl4 up4 => ?_)
          obtain ⟨oe4, vs4, he4, hz4, hd4⟩ := fl4.there
          have J4 : Inv X pins σ' H' { t with heap := h4 } := J.landed nb fl4.1 ((up.trans up3).trans up4) os ag
          have S4 := J4.suite he4 hd4 na nL nF
          refine store_ok (X := X.suite a ((a, oe4) :: (X.pn ++ pins))) (v := .ref a) S4 hN hi (.inl hln) rfl (fun s5 S5 => ?_) (.inr hln)
          refine wpAny_mono ((hsu a oe4 cls d (X.pn ++ pins) hz4 ⟨_, hd4⟩).run [] s5 _ H' _ S5 (yes rfl a na)) (fun f s6 hsp => ?_) fun _ _ z => False.elim z
          have gone : ∀ {σ6 : L2.St} {H6 : Hp} {Q : Shared → Prop}, Inv (X.suite a ((a, oe4) :: (X.pn ++ pins))) [] σ6 H6 s6 → (∀ s7, Inv X pins (σ6.set i none) H6 s7 → Q s7) → wpAny (model X.prog X.w) X.A (do bindName X.env n .none; unbindBehindTheSuite X.env n pos') (fun _ s7 => Q s7) X.xe s6 :=
            fun {σ6 H6 Q} S6 hq => gone_ok (S6.unsuite ok) hN hi hln hq
          cases f with
          | ret u => obtain ⟨v6, σ6, H6, S6, r6, q6⟩ := hsp; exact gone S6 fun s7 J7 => ⟨_, _, _, J7, r6, q6⟩
          | next => obtain ⟨σ6, H6, S6, q6⟩ := hsp; exact gone S6 fun s7 J7 => ⟨_, _, J7, q6⟩
          | brk => obtain ⟨σ6, H6, S6, q6⟩ := hsp; exact gone S6 fun s7 J7 => ⟨_, _, J7, q6⟩
          | cont => obtain ⟨σ6, H6, S6, q6⟩ := hsp; exact gone S6 fun s7 J7 => ⟨_, _, J7, q6⟩
      | @consN x c ts b0 suite np pos' hds2 l2 hc hsu r ih =>
        rintro ⟨b, eb, yes, no⟩
        have LM := PySem.W.exm_one (M := model X.prog X.w) J3.kIn (show PySem.W.Looks (model X.prog X.w) h3 (typeOf (.ref a)) cls from fun A Q E s k q => wpAny_typeOf_ref (k _ _ he3) (hz3.1.symm ▸ q)) eb
        have test : ∀ {Q : Value → Shared → Prop} {E : Value → Shared → Prop}, Q c { t with heap := h3 } → wpAny (model X.prog X.w) (X.A.mark (some (.ref a))) (eval (.Name x np) X.env) Q E { t with heap := h3 } := fun {Q E} q => by
          exact hc.2.2.elim (fun z => ld_glob (X := X.suite a ((a, oe3) :: (X.pn ++ pins))) S3 hc.1 z q hc.2.1) fun z => ld_blt (X := X.suite a ((a, oe3) :: (X.pn ++ pins))) S3 hc.1 z.1 z.2.1 q z.2.2 hc.2.1
        refine wpAny_handleBy_cons (codeAny_handlers_test (test (LM.here ?_))) (fun q => nomatch q)
        cases b with
        | false => exact ih (no rfl)
        | true =>
          refine codeAny_handlers_suite (HandSPX.lands_againZ fl3 fun h4 fl4 up4 => ?_)
          have J4 : Inv X pins σ' H' { t with heap := h4 } := J.landed nb fl4.1 ((up.trans up3).trans up4) os ag
          obtain ⟨ob, vs4, he4, hz4, hd4⟩ := fl4.there
          refine wpAny_mono ((hsu a ob cls d (X.pn ++ pins) hz4 ⟨_, hd4⟩).run [] _ _ H' _ (J4.suite he4 hd4 na nL nF) (yes rfl a na)) (fun f s6 hsp => ?_) fun _ _ z => False.elim z
          cases f with
          | ret u => obtain ⟨v6, σ6, H6, S6, r6, q6⟩ := hsp; exact ⟨_, _, _, S6.unsuite ok, r6, q6⟩
          | next => obtain ⟨σ6, H6, S6, q6⟩ := hsp; exact ⟨_, _, S6.unsuite ok, q6⟩
          | brk => obtain ⟨σ6, H6, S6, q6⟩ := hsp; exact ⟨_, _, S6.unsuite ok, q6⟩
          | cont => obtain ⟨σ6, H6, S6, q6⟩ := hsp; exact ⟨_, _, S6.unsuite ok, q6⟩
    exact go hh wish
  · intro f s1 q
    cases f with
    | next => obtain ⟨σ', H', J', z⟩ := q; exact wpAny_execs_nil ⟨σ', H', J'.ofTry ok, z⟩
    | brk => obtain ⟨σ', H', J', z⟩ := q; exact ⟨σ', H', J'.ofTry ok, z⟩
    | cont => obtain ⟨σ', H', J', z⟩ := q; exact ⟨σ', H', J'.ofTry ok, z⟩
    | ret u => obtain ⟨v, σ', H', J', z, y⟩ := q; exact ⟨v, σ', H', J'.ofTry ok, z, y⟩
end
end Aq
/-! defs, classes and methods that may let an own exception out -/
namespace Aq
open PySem PySem.Spec PyProof.Rows L2
section
variable (P : Program) (w : World) (K : PySem.W.Frag) (mg : Str → Option Value) (base : Heap)
structure CalX (k : Nat) (x : Str) (ps : List Str) (sp : Sp) : Prop where
  ex : ∃ (f : Addr) (fd : FuncData), FnOk P w K mg base (L2.CX P w) k f fd ps sp ∧ mg x = some (.ref f) ∧ PySem.W.keepIn K (.ref f) = true ∧ Binds K fd ps []
structure CtrX (k : Nat) (x : Str) (C : Addr) (ps : List Str) (dvs : List V) (sp : Sp) : Prop where
  ex : ∃ (f : Addr) (fd : FuncData) (ds : List Value), Mk K C f ∧ FnOk P w K mg base (L2.CX P w) k f fd ps sp ∧ mg x = some (.ref C) ∧ Binds K fd ps ds ∧ Vals dvs ds
structure MthX (k : Nat) (C : Addr) (m : Str) (ps : List Str) (sp : Sp) : Prop where
  cl : Cls K C
  ex : ∃ (f : Addr) (fd : FuncData), Meth K C m f ∧ FnOk P w K mg base (L2.CX P w) k f fd ps sp ∧ Binds K fd ps []
/-- an own exception and its __init__ -/
structure Xcl (k : Nat) (x : Str) (C : Addr) (ps : List Str) (sp : Sp) : Prop where
  ox : OexC K C
  xf : XfC K C
  ex : ∃ (f : Addr) (fd : FuncData), PySem.W.findIn K (.ref C) "__init__" = some (some (.ref f)) ∧ PySem.W.typeIn K (.ref f) = some (.type "function") ∧ FnOk P w K mg base CX0 k f fd ps sp ∧ mg x = some (.ref C) ∧ Binds K fd ps []
end
section
variable {X : Cx} {k j : Nat} {x m : Str} {C : Addr} {ps : List Str} {dvs : List V} {sp : Sp} {W : WX} {p pos apos : Pos} {e o : Expr} {es : List Expr} {ta : TE} {t : TA}
def PassAt (X : Cx) (σ : L2.St) (E : XK) : Prop := ∀ (pins : List (Addr × Obj)) (H : Hp) (s : Shared) (e : Value) (s' : Shared), Inv X pins σ H s → L2.CX X.prog X.w X.stack H s E e s' → X.xe e s'
theorem passAt {σ : L2.St} (tk : Takes X W) : PassAt X σ fun cls d H => W cls d σ H := fun _ _ _ e s' I c => tk e s' (XE.of_call I (fun _ _ _ h => h) c)
theorem passX0 : Passes (L2.CX X.prog X.w) X E0 := by
  rintro pins σ H s e s' I ⟨a, B, H', cls, d, _, _, _, _, _, _, _, z⟩
  exact z.elim
/-- readings of a call, a making, a method's call; what leaves them is wished by W -/
def tCallW (sp : Sp) (dvs : List V) (W : WX) (t : TA) : TE := fun σ H Q => t σ H fun vs H1 => sp (vs ++ dvs) H1 Q fun cls d H' => W cls d σ H'
def tMakeW (C : Addr) (sp : Sp) (dvs : List V) (W : WX) (t : TA) : TE := fun σ H Q => t σ H fun vs H1 => ∀ x dx, H1 x = none → H1 dx = none → dx ≠ x → sp (.ref x :: (vs ++ dvs)) (upd (upd H1 dx (.own x)) x (.ins C dx [])) (fun v H2 => v = .non ∧ Q (.ref x) H2) fun cls d H' => W cls d σ H'
def tMethW (C : Addr) (m : Str) (sp : Sp) (W : WX) (ta : TE) (t : TA) : TE := fun σ H Q => ta σ H fun x H1 => ∃ a dx fs, x = .ref a ∧ H1 a = some (.ins C dx fs) ∧ fs.lookup m = none ∧ t σ H1 fun vs H2 => sp (x :: vs) H2 Q fun cls d H' => W cls d σ H'
variable {pins : List (Addr × Obj)} {σ : L2.St} {H : Hp} {s : Shared} {Q : VK} {us ds : List Value} {vs : List V} {f : Addr} {fd : FuncData} {E : XK}
theorem runA (F : FnOk X.prog X.w X.K X.mg X.base (L2.CX X.prog X.w) k f fd ps sp) (hr : Room k X.A) (hb : Binds X.K fd ps ds) (hd : Vals dvs ds) (hx : PassAt X σ E) (I : Inv X pins σ H s) (r : Vals vs us) (h : sp (vs ++ dvs) H Q E) : wpAny (model X.prog X.w) X.A (call (.ref f) us) (EP X pins σ Q) X.xe s := by
  have r2 := r.append hd
  have hl := r2.length.symm.trans (F.len _ _ _ _ h)
  refine wpAny_call (codeAny_mono (F.run X.A X.stack s H ⟨us, []⟩ _ _ Q E hr I.env0 (hb s us I.kIn hl) r2 h) fun out s' hq => ?_)
  match out, hq with
  | .error e, hq => exact hx pins H s e s' I hq
  | .ok (.ret u), hq => exact I.after hq
  | .ok .next, hq => exact hq.elim
  | .ok .brk, hq => exact hq.elim
  | .ok .cont, hq => exact hq.elim
theorem makeA (M : Mk X.K C f) (F : FnOk X.prog X.w X.K X.mg X.base (L2.CX X.prog X.w) k f fd ps sp) (hr : Room (k + 1) X.A) (hb : Binds X.K fd ps ds) (hd : Vals dvs ds) (hx : PassAt X σ E) (I : Inv X pins σ H s) (r : Vals vs us)
    (h : ∀ x dx, H x = none → H dx = none → dx ≠ x → sp (.ref x :: (vs ++ dvs)) (upd (upd H dx (.own x)) x (.ins C dx [])) (fun v H2 => v = .non ∧ Q (.ref x) H2) E) : wpAny (model X.prog X.w) X.A (call (.ref C) us) (EP X pins σ Q) X.xe s := by
  have hq := h (s.heap.objs.size + 1) s.heap.objs.size (I.hok.fresh (Nat.le_succ _)) (I.hok.fresh (Nat.le_refl _)) (Nat.ne_of_lt (Nat.lt_succ_self _))
  have J := Inv.made (C := C) I
  have r2 : Vals (V.ref (s.heap.objs.size + 1) :: (vs ++ dvs)) (Value.ref (s.heap.objs.size + 1) :: (us ++ ds)) := .cons rfl (r.append hd)
  have hl := r2.length.symm.trans (F.len _ _ _ _ hq)
  refine wpAny_call (make_map (f := f) I.kIn M.makes M.init (beq_iff_eq.mp M.fn) (codeAny_mono (F.run _ X.stack _ _ ⟨Value.ref (s.heap.objs.size + 1) :: us, []⟩ _ _ _ E (hr.make C us []) (J.env0.make C us []) (hb _ (Value.ref (s.heap.objs.size + 1) :: us) J.kIn hl) r2 hq) fun out s' z => ?_))
  match out, z with
  | .error e, z => exact hx pins _ _ e s' J z
  | .ok (.ret u), z =>
    obtain ⟨v, H', J2, rv, ev, q3⟩ := J.after z
    subst ev
    exact ⟨rv, V.ref (s.heap.objs.size + 1), H', J2, rfl, q3⟩
  | .ok .next, z => exact z.elim
  | .ok .brk, z => exact z.elim
  | .ok .cont, z => exact z.elim
theorem pe_callX (c : CalX X.prog X.w X.K X.mg X.base k x ps sp) (hr : Room j X.A) (tk : Takes X W) (ha : PA X (e :: es) t) (hk : k ≤ j := by decide) (hg : Gl X x := by rfl) (hdb : (x == ("__debug__" : Str)) = false := by decide)
    (he : starEach (e :: es) X.env = (false, eval e X.env) :: starEach es X.env := by rfl) (hpl : (backTo pos (starEach es X.env)).any (·.1) = false := by rfl) : PE X (.Call (.Name x p) (e :: es) [] pos) (tCallW sp [] W t) := by
  obtain ⟨f, fd, F, hm, kp, b⟩ := c.ex
  exact ⟨fun pins s σ H Q I h => wpAny_Call_Name_kw (ld_glob I hg hm (PySem.W.callWith_K (h₀ := X.base) I.ok.mod.kin kp (thn (ha.run pos pins s σ H _ I h) fun us s1 ⟨vs, H1, I1, r, q⟩ => ⟨I1.kIn, runA F (hr.mono hk) b .nil (passAt tk) I1 r q⟩) he hpl) hdb)⟩
theorem pe_callX0 (c : CalX X.prog X.w X.K X.mg X.base k x ps sp) (hr : Room j X.A) (ha : PA X (e :: es) t) (hk : k ≤ j := by decide) (hg : Gl X x := by rfl) (hdb : (x == ("__debug__" : Str)) = false := by decide)
    (he : starEach (e :: es) X.env = (false, eval e X.env) :: starEach es X.env := by rfl) (hpl : (backTo pos (starEach es X.env)).any (·.1) = false := by rfl) : PE X (.Call (.Name x p) (e :: es) [] pos) (tCall sp [] E0 t) := by
  obtain ⟨f, fd, F, hm, kp, b⟩ := c.ex
  exact pe_call F (hr.mono hk) hg hm kp b .nil passX0 ha hdb he hpl
theorem pe_makeX (c : CtrX X.prog X.w X.K X.mg X.base k x C ps dvs sp) (hr : Room j X.A) (tk : Takes X W) (ha : PA X (e :: es) t) (hk : k + 1 ≤ j := by decide) (hg : Gl X x := by rfl) (hdb : (x == ("__debug__" : Str)) = false := by decide)
    (he : starEach (e :: es) X.env = (false, eval e X.env) :: starEach es X.env := by rfl) (hpl : (backTo pos (starEach es X.env)).any (·.1) = false := by rfl) : PE X (.Call (.Name x p) (e :: es) [] pos) (tMakeW C sp dvs W t) := by
  obtain ⟨f, fd, ds, M, F, hm, b, hd⟩ := c.ex
  exact ⟨fun pins s σ H Q I h => wpAny_Call_Name_kw (ld_glob I hg hm (PySem.W.callWith_K (h₀ := X.base) I.ok.mod.kin M.kp (thn (ha.run pos pins s σ H _ I h) fun us s1 ⟨vs, H1, I1, r, q⟩ => ⟨I1.kIn, makeA M F (hr.mono hk) b hd (passAt tk) I1 r q⟩) he hpl) hdb)⟩
theorem pe_makeX0 (c : CtrX X.prog X.w X.K X.mg X.base k x C ps dvs sp) (hr : Room j X.A) (ha : PA X (e :: es) t) (hk : k + 1 ≤ j := by decide) (hg : Gl X x := by rfl) (hdb : (x == ("__debug__" : Str)) = false := by decide)
    (he : starEach (e :: es) X.env = (false, eval e X.env) :: starEach es X.env := by rfl) (hpl : (backTo pos (starEach es X.env)).any (·.1) = false := by rfl) : PE X (.Call (.Name x p) (e :: es) [] pos) (tMake C sp dvs E0 t) := by
  obtain ⟨f, fd, ds, M, F, hm, b, hd⟩ := c.ex
  exact pe_make M F (hr.mono hk) hg hm b hd passX0 ha hdb he hpl
theorem pe_methX {pl : Sem Bool} (c : MthX X.prog X.w X.K X.mg X.base k C m ps sp) (hr : Room j X.A) (tk : Takes X W) (ho : PE X o ta) (ha : PA X (e :: es) t) (hk : k ≤ j := by decide)
    (hst : starEach (e :: es) X.env = (false, eval e X.env) :: starEach es X.env := by rfl) (hpl : (backTo pos (starEach es X.env)).any (·.1) = false := by rfl)
    (ht : eval (.Call (.Attribute o m apos) (e :: es) [] pos) X.env = (do
      let ov ← eval o X.env
      standAt apos.atName
      let (f, first) ← holding [ov] (getMethod ov m pl)
      callWith pos f first (backTo pos (starEach (e :: es) X.env)) (backToKw pos (keywordEach [] X.env))) := by rfl) : PE X (.Call (.Attribute o m apos) (e :: es) [] pos) (tMethW C m sp W ta t) := by
  obtain ⟨f, fd, M, F, b⟩ := c.ex
  constructor
  intro pins s σ H Q I h
  refine PySem.W.methodCall_KW (pl := pl) (thn (ho.run pins s σ H _ I h) ?_) ht
  rintro u s1 ⟨x, H1, I1, rx, a, dx, fs, rfl, ea, lk, q⟩
  cases rx
  refine getmeth_ok I1 ea c.cl M lk (PySem.W.callWith_K (first := [.ref a]) (h₀ := X.base) I.ok.mod.kin M.kp (thn (ha.run pos pins s1 σ H1 _ I1 q) fun us s2 ⟨vs, H2, I2, r, q2⟩ => ⟨I2.kIn, ?_⟩) hst hpl)
  exact runA (us := .ref a :: us) (vs := .ref a :: vs) F (hr.mono hk) b .nil (passAt tk) I2 (.cons rfl r) (by rw [List.append_nil]; exact q2)
theorem pe_methX0 {pl : Sem Bool} (c : MthX X.prog X.w X.K X.mg X.base k C m ps sp) (hr : Room j X.A) (ho : PE X o ta) (ha : PA X (e :: es) t) (hk : k ≤ j := by decide)
    (hst : starEach (e :: es) X.env = (false, eval e X.env) :: starEach es X.env := by rfl) (hpl : (backTo pos (starEach es X.env)).any (·.1) = false := by rfl)
    (ht : eval (.Call (.Attribute o m apos) (e :: es) [] pos) X.env = (do
      let ov ← eval o X.env
      standAt apos.atName
      let (f, first) ← holding [ov] (getMethod ov m pl)
      callWith pos f first (backTo pos (starEach (e :: es) X.env)) (backToKw pos (keywordEach [] X.env))) := by rfl) : PE X (.Call (.Attribute o m apos) (e :: es) [] pos) (tMeth C m sp [] E0 ta t) := by
  obtain ⟨f, fd, M, F, b⟩ := c.ex
  exact pe_meth ho c.cl M F (hr.mono hk) b .nil passX0 ha hst hpl ht
/-- raise C(e, ..) -/
theorem ps_raiseX {rpos : Pos} (c : Xcl X.prog X.w X.K X.mg X.base k x C ps sp) (hr : Room j X.A) (tk : Takes X W) (ha : PA X (e :: es) t) (hc : X.calm = true := by rfl) (hk : k + 1 ≤ j := by decide) (hg : Gl X x := by rfl) (hdb : (x == ("__debug__" : Str)) = false := by decide)
    (he : starEach (e :: es) X.env = (false, eval e X.env) :: starEach es X.env := by rfl) (hpl : (backTo pos (starEach es X.env)).any (·.1) = false := by rfl) :
    PS X (.Raise (some (.Call (.Name x p) (e :: es) [] pos)) none rpos) (fun _ σ H => tMkO C sp [] t σ H fun cls d H' => W cls d σ H') := by
  obtain ⟨f, fd, iC, tI, F, hm, b⟩ := c.ex
  exact ps_raise hc tk (pmk_oex c.ox iC tI F (hr.mono hk) b .nil pass0 hg hm ha hdb he hpl)
/-- an own exception without an __init__ -/
structure Xc0 (K : PySem.W.Frag) (mg : Str → Option Value) (x : Str) (C : Addr) : Prop where
  q : ∃ bm, ExcBaseFacts "ValueError" "ValueError.__new__" "ValueError.__init__" bm ∧ PySem.W.excIn K C bm "ValueError.__new__" = true
  g : mg x = some (.ref C)
  kC : PySem.W.keepIn K (.ref C) = true
  exC : PySem.W.subIn K (.ref C) (.type "BaseException") = some true
  tyC : PySem.W.typeIn K (.ref C) = some (.type "type")
/-- raise C() -/
theorem ps_raise0 {rpos : Pos} (c : Xc0 X.K X.mg x C) (tk : Takes X W) (hc : X.calm = true := by rfl) (hg : Gl X x := by rfl) (hdb : (x == ("__debug__" : Str)) = false := by decide) :
    PS X (.Raise (some (.Call (.Name x p) [] [] pos)) none rpos) (fun _ σ H => W (.ref C) none σ H) := by
  obtain ⟨bm, F, q⟩ := c.q
  refine ps_raise (t := fun σ H Q => Q (.ref C) none H) hc tk fun pins s σ H Q I h => ?_
  obtain ⟨_, _, _, _, _, _, _, _, _, _, _, _, _, _, _, _, _, hC, hN, hni, T⟩ := exc_obj I.kIn q
  exact wpAny_Call_Name_kw (ld_glob I hg c.g (PySem.W.callWith_K0 I.kIn c.kC (wpAny_call_exc_subT F T hC hN hni (fun h' e hm => mk_of I hm (raises_own c.exC c.tyC) h (I.hok.gone hm.new)) (Nat.zero_le _))) hdb)
end
end Aq
/-! own exceptions: messages, stores, what is raised -/
namespace Aq
open PySem PySem.Spec PyProof.Rows L2 Evl
/-- what is told in a message -/
def Fmt (y : V) : Prop := (∃ z : Str, y = .str z ∧ z.length ≤ 1000) ∨ ∃ i : Int, y = .int i ∧ i.natAbs.log2 < 1000
section
variable {K : PySem.W.Frag} {σ : L2.St} {H : Hp} {Qs : Str → Hp → Prop} {ts : List TE} {acc z : Str} {n i : Nat} {y : V}
theorem js_c (hn : acc.length ≤ n) (hb : n ≤ 100000) (hz : z.length ≤ 1000) (k : ∀ acc' : Str, acc'.length ≤ n + 1000 → tJs ts acc' σ H Qs) : tJs (tC (.str z) :: ts) acc σ H Qs :=
  ⟨z, rfl, by rw [app_len]; exact Nat.le_trans (show _ ≤ 200000 by omega) (by decide), k _ (by rw [app_len]; omega)⟩
theorem js_f (hv : σ[i]? = some (some y)) (hn : acc.length ≤ n) (hb : n ≤ 100000) (hf : Fmt y) (k : ∀ acc' : Str, acc'.length ≤ n + 1001 → tJs ts acc' σ H Qs) : tJs (tFmt (tVar i) :: ts) acc σ H Qs := by
  refine ⟨y, hv, ?_⟩
  rcases hf with ⟨z, rfl, hz⟩ | ⟨j, rfl, hj⟩
  · exact .inl ⟨z, rfl, Nat.le_trans hz (by decide), z, rfl, by rw [app_len]; exact Nat.le_trans (show _ ≤ 200000 by omega) (by decide), k _ (by rw [app_len]; omega)⟩
  · have hl := int_text_length_le (k := 1000) (by decide) hj
    have hl2 : (Str.ofString (toString j)).length ≤ 1001 := by rw [PySem.ofString_length]; exact hl
    exact .inr ⟨j, rfl, Nat.lt_trans hj (by decide), _, rfl, by rw [app_len]; exact Nat.le_trans (show _ ≤ 200000 by omega) (by decide), k _ (by rw [app_len]; omega)⟩
theorem js_0 (h : Qs acc H) : tJs [] acc σ H Qs := h
/-- self.f = p, the first one; a further one -/
theorem rd_ost1 {f : Str} {x C : Addr} {k : Nat} {D : Ends} (ox : OexC K C) (na : PySem.W.findIn K (.ref C) f = some none) (hy : σ[k]? = some (some y)) (hs : σ[0]? = some (some (.ref x))) (hx : H x = some (exo x C none))
    (q : ∀ dx, H dx = none → dx ≠ x → D.nx σ (upd (upd H dx (exd dx [(f, y)])) x (exo x C (some dx)))) : tOst K f (tVar 0) (tVar k) D σ H := ⟨y, hy, .ref x, hs, x, C, rfl, ox, na, .inl ⟨hx, q⟩⟩
theorem rd_ostN {f : Str} {x C dx : Addr} {k : Nat} {D : Ends} {fs : List (Str × V)} (ox : OexC K C) (na : PySem.W.findIn K (.ref C) f = some none) (hy : σ[k]? = some (some y)) (hs : σ[0]? = some (some (.ref x))) (hx : H x = some (exo x C (some dx))) (hd : H dx = some (exd dx fs)) (hl : fs.length ≤ 900)
    (q : D.nx σ (upd H dx (exd dx ((f, y) :: fs)))) : tOst K f (tVar 0) (tVar k) D σ H := ⟨y, hy, .ref x, hs, x, C, rfl, ox, na, .inr ⟨dx, fs, hx, hd, hl, q⟩⟩
/-- what stands where an exception was made and let go: its dict at d, nothing else is new -/
theorem raised {H1 H2 : Hp} {x d C : Addr} {fs : List (Str × V)} (hx : H1 x = none) (hd : H1 d = none) (ne : d ≠ x) (st : ∀ b, b ≠ x → b ≠ d → H2 b = upd H1 x (exo x C none) b) : Ex H1 (upd (del H2 x) d (.xd fs)) ∧ (upd (del H2 x) d (.xd fs)) d = some (.xd fs) := by
  refine ⟨fun b o h => ?_, upd_same⟩
  have h1 := ne_of_none h hx
  have h2 := ne_of_none h hd
  rw [upd_ne h2, del_ne h1, st b h1 h2, upd_ne h1]
  exact h
end
/-- isinstance(e, c), e a caught error of an own class with a dict -/
def rIsX (K : PySem.W.Frag) (D a : Addr) : List V → Hp → VK → Prop := rIsE K D a
/-- what a handler's class must be -/
structure ExmC (K : PySem.W.Frag) (C : Addr) : Prop where
  sb : PySem.W.subIn K (.ref C) (.type "BaseException") = some true
  hd : PySem.W.hasDictIn K C = true
  ty : PySem.W.typeIn K (.ref C) = some (.type "type")
theorem ExmC.em {K : PySem.W.Frag} {C : Addr} {cls : Value} {b : Bool} (e : ExmC K C) (h : PySem.W.subIn K cls (.ref C) = some b) : PySem.W.exmOne K cls (.ref C) = some b := PySem.W.exm_ref e.sb e.hd e.ty h
theorem kit_own {K : PySem.W.Frag} {C : Addr} {t : String} {b : Bool} (h : PySem.W.subIn K (.ref C) (.type t) = some b) (m : PySem.W.kitMeta t = true := by decide +kernel) : PySem.W.kitOne K (.ref C) (.type t) = some b := by
  show (if PySem.W.kitMeta t = true then PySem.W.subIn K (.ref C) (.type t) else none) = _
  rw [if_pos m]; exact h
end Aq
/-! values of all kinds -/
namespace Aq
open PySem L2 Evl
/-- a plain value: a text, None, a bool, an int, a list, a tuple, a dict -/
inductive Kd (H : Hp) : V → Prop
  | str (z : Str) (h : z.length ≤ 1000) : Kd H (.str z)
  | non : Kd H .non
  | bl (b : Bool) : Kd H (.bl b)
  | int (i : Int) : Kd H (.int i)
  | lst {a : Addr} {xs : List V} (h : H a = some (.lst xs)) : Kd H (.ref a)
  | tup {a : Addr} {xs : List V} (h : H a = some (.tup xs)) : Kd H (.ref a)
  | dK {a : Addr} {kvs : List (Key × V)} (h : H a = some (.dK kvs)) : Kd H (.ref a)
theorem Kd.ex {H H' : Hp} {v : V} (k : Kd H v) (e : Ex H H') : Kd H' v := by
  cases k with
  | str z h => exact .str z h
  | non => exact .non
  | bl b => exact .bl b
  | int i => exact .int i
  | lst h => exact .lst (e _ _ h)
  | tup h => exact .tup (e _ _ h)
  | dK h => exact .dK (e _ _ h)
def isStrV : V → Bool
  | .str _ => true
  | _ => false
theorem isStrV_iff {v : V} : isStrV v = true ↔ ∃ z, v = .str z := by
  cases v <;> simp [isStrV]
section
variable {K : PySem.W.Frag} {H : Hp} {v : V} {Q : VK}
theorem rd_isiKd (k : Kd H v) (q : Q (.bl (isStrV v)) H) : rIsi K [v, .ty "str"] H Q := by
  cases k with
  | str z h => exact rd_isiStr q
  | non => exact rd_isi (a := .type "NoneType") (b := .type "str") (r := false) (.ty _) (.base .non) (kit_ty (by decide +kernel)) q
  | bl b => exact rd_isi (a := .type "bool") (b := .type "str") (r := false) (.ty _) (.base (.bl b)) (kit_ty (by decide +kernel)) q
  | int i => exact rd_isi (a := .type "int") (b := .type "str") (r := false) (.ty _) (.base (.int i)) (kit_ty (by decide +kernel)) q
  | lst h => exact rd_isi (a := .type "list") (b := .type "str") (r := false) (.ty _) (.base (.lst h)) (kit_ty (by decide +kernel)) q
  | tup h => exact rd_isi (a := .type "tuple") (b := .type "str") (r := false) (.ty _) (.base (.tup h)) (kit_ty (by decide +kernel)) q
  | dK h => exact rd_isi (a := .type "dict") (b := .type "str") (r := false) (.ty _) (.base (.dK h)) (kit_ty (by decide +kernel)) q
end
/-! readings of calls that may raise -/
section
variable {σ : L2.St} {H : Hp} {Q : VK} {t : TA} {ta : TE} {W : WX} {sp : Sp} {dvs : List V} {C : Addr} {m : Str}
theorem rd_callW (h : t σ H fun vs H1 => sp (vs ++ dvs) H1 Q fun cls d H' => W cls d σ H') : tCallW sp dvs W t σ H Q := h
theorem rd_makeW (h : t σ H fun vs H1 => ∀ x dx, H1 x = none → H1 dx = none → dx ≠ x → sp (.ref x :: (vs ++ dvs)) (upd (upd H1 dx (.own x)) x (.ins C dx [])) (fun v H2 => v = .non ∧ Q (.ref x) H2) fun cls d H' => W cls d σ H') : tMakeW C sp dvs W t σ H Q := h
theorem rd_methW (h : ta σ H fun x H1 => ∃ a dx fs, x = .ref a ∧ H1 a = some (.ins C dx fs) ∧ fs.lookup m = none ∧ t σ H1 fun vs H2 => sp (x :: vs) H2 Q fun cls d H' => W cls d σ H') : tMethW C m sp W ta t σ H Q := h
end
end Aq
/-! isinstance of a caught error that has fields -/
namespace Aq
open PySem PySem.Spec PyProof.Rows L2
/-- isinstance(e, c), e the caught error at a, of the class D, its dict at dd -/
def rIsXd (K : PySem.W.Frag) (D a : Addr) (cls : Value) (d : Option Addr) : List V → Hp → VK → Prop := fun xs H Q => cls = .ref D ∧ ∃ (dd : Addr) (fs : List (Str × V)) (c : V) (cv : Value) (b : Bool), d = some dd ∧ H dd = some (.xd fs) ∧ xs = [.ref a, c] ∧ (∀ u, L2.RelV c u → u = cv) ∧ PySem.W.kitOne K (.ref D) cv = some b ∧ Q (.bl b) H
theorem call_isX {X : Cx} {a D : Addr} {oe : Obj} {cls : Value} {d : Option Addr} {pn : List (Addr × Obj)} (C : ExcC X.K D) (hz : Zc cls d oe) (hf : ∃ vs, oe.data = .fields vs) : CallR (X.suite a ((a, oe) :: pn)) (.builtin "isinstance") (rIsXd X.K D a cls d) := by
  intro pins s σ H xs us Q I r h
  obtain ⟨rfl, dd, fs, c, cv, b, rfl, hd, rfl, hcv, e, q⟩ := h
  obtain ⟨u1, u2, rfl, ra, rb⟩ := r.two
  cases ra
  have := hcv _ rb
  subst this
  have hget := (I.pin (a, oe) (List.mem_append_left _ List.mem_cons_self)).1
  obtain ⟨vs, hv⟩ := hf
  have hx : ObjOk X.prog X.w H s.heap dd (.xd fs) := I.hok dd _ hd
  obtain ⟨mA, hns, _⟩ := hx
  obtain ⟨od, ho, _⟩ := lookIn_ns hns
  have J : PySem.W.InstAt s.heap a oe D (some od) := ⟨hget, hz.1, by unfold PySem.W.notCls; rw [hv] <;> rfl, by rw [hz.2]; exact ho⟩
  have hcl : (PySem.W.clsIn X.K D).isSome = true := by obtain ⟨cd, hc, _⟩ := PySem.W.any_some C.hd; rw [hc]; rfl
  exact PySem.W.kia_one (PySem.W.kitx_exc hcl C.hg C.hk C.hs C.ha C.hn C.ht C.hm) I.kIn J e (fun z => nomatch z) fun tk => ⟨.bl b, H, I.kept (t' := tk) fun _ _ z => z, rfl, q⟩
end Aq
/-! repr of data; defs that are promised only where no repr is under way -/
namespace Aq
open PySem PySem.Spec PyProof.Rows L2 Evl
/-! ### texts of plain signs -/
def As (z : Str) : Prop := ∀ c ∈ z.cps.toList, c < 128
theorem As.so {z : Str} (h : As z) : PyData.strOk z = true := by
  unfold PyData.strOk
  rw [Array.all_eq_true_iff_forall_mem]
  intro c hc
  have := h c (by simpa using hc)
  exact decide_eq_true (by omega)
theorem As.app {x y : Str} (hx : As x) (hy : As y) : As (x ++ y) := by
  intro c hc
  rw [app_cps] at hc
  exact (List.mem_append.mp hc).elim (hx c) (hy c)
theorem As.cut {z : Str} (h : As z) (lo hi : Option Int) : As (cutS z lo hi) := by
  intro c hc
  unfold cutS at hc
  exact h c (List.mem_of_mem_drop (List.mem_of_mem_take hc))
theorem As.one {d : Nat} (h : d < 128) : As ⟨#[d]⟩ := by
  intro c hc
  rw [one_cps, List.mem_singleton] at hc
  omega
theorem As.upper {z : Str} (h : As z) : As (Txt.upper z) := by
  rw [PyProof.Rows.upper_ascii h]
  intro c hc
  have hc : c ∈ (z.cps.map PyProof.Rows.up1).toList := hc
  rw [Array.toList_map] at hc
  obtain ⟨d, hd, rfl⟩ := List.mem_map.mp hc
  have := h d hd
  unfold PyProof.Rows.up1
  split <;> omega
theorem as_of {z : Str} (h : z.cps.toList.all (fun c => decide (c < 128)) = true) : As z := fun c hc => of_decide_eq_true (List.all_eq_true.mp h c hc)
/-! ### the size of a shown value -/
/-- d can be shown, its depth is at most k, its text has at most n signs -/
structure ShN (d : PyData) (k n : Nat) : Prop where
  s : d.showable = true
  h : d.hasDict = false
  dp : d.depth ≤ k
  l : d.shown.length ≤ n
theorem ShN.mono {d : PyData} {k n k' n' : Nat} (z : ShN d k n) (h1 : k ≤ k') (h2 : n ≤ n') : ShN d k' n' := ⟨z.s, z.h, Nat.le_trans z.dp h1, Nat.le_trans z.l h2⟩
theorem sh_none : ShN .none 1 5 := ⟨rfl, rfl, by simp [PyData.depth], by decide +kernel⟩
theorem sh_bool (b : Bool) : ShN (.bool b) 1 5 := ⟨rfl, rfl, by simp [PyData.depth], by cases b <;> decide +kernel⟩
theorem sh_int {i : Int} (h : i.natAbs.log2 < 1000) : ShN (.int i) 1 1001 := by
  refine ⟨?_, rfl, by simp [PyData.depth], ?_⟩
  · simp only [PyData.showable]; exact decide_eq_true (by omega)
  · have hl := int_text_length_le (k := 1000) (by decide) h
    simp only [PyData.shown]
    rw [PySem.ofString_length]; exact hl
theorem sh_str {x : Str} (h : PyData.strOk x = true) : ShN (.str x) 1 (10 * x.length + 2) := by
  refine ⟨rfl, rfl, by simp [PyData.depth], ?_⟩
  simp only [PyData.shown]
  refine StrLaws.reprText_len x fun c hc => ?_
  unfold PyData.strOk at h
  have := Array.all_eq_true_iff_forall_mem.mp h c (by simpa using hc)
  have := of_decide_eq_true this
  omega
inductive ShAll (k n : Nat) : List PyData → Prop
  | nil : ShAll k n []
  | cons {d : PyData} {ds : List PyData} : ShN d k n → ShAll k n ds → ShAll k n (d :: ds)
theorem ShAll.of {k n : Nat} : ∀ {ds : List PyData}, (∀ d ∈ ds, ShN d k n) → ShAll k n ds
  | [], _ => .nil
  | d :: ds, h => .cons (h d (List.mem_cons_self ..)) (ShAll.of fun x hx => h x (List.mem_cons_of_mem _ hx))
theorem ShAll.facts {k n : Nat} : ∀ {ds : List PyData}, ShAll k n ds → PyData.showableAll ds = true ∧ PyData.hasDictAll ds = false ∧ PyData.depthAll ds ≤ k ∧ piled (PyData.shownAll ds) ≤ ds.length * (n + 2)
  | [], _ => ⟨by simp [PyData.showableAll], by simp [PyData.hasDictAll], by simp [PyData.depthAll], by simp [PyData.shownAll, piled_nil]⟩
  | d :: ds, .cons a b => by
    obtain ⟨h1, h2, h3, h4⟩ := b.facts
    refine ⟨by simp [PyData.showableAll, a.s, h1], by simp [PyData.hasDictAll, a.h, h2], ?_, ?_⟩
    · simp only [PyData.depthAll]
      have := a.dp
      omega
    · simp only [PyData.shownAll]
      rw [piled_cons]
      have := a.l
      rw [List.length_cons, Nat.succ_mul]
      omega
theorem listText_le (ts : List Str) : (listText ts).length ≤ piled ts + 2 := by
  unfold listText
  rw [strLen_append]
  have e1 : (("]" : String) : Str).length = 1 := rfl
  cases ts with
  | nil => show ((("[" : String) : Str)).length + _ ≤ _; have : ((("[" : String) : Str)).length = 1 := rfl; rw [e1, this]; omega
  | cons t r =>
    show (textFrom 1 _ r).length + _ ≤ _
    rw [textFrom_length_pos r 1 _ (by decide), strLen_append, strLen_append, e1, piled_cons]
    have h1 : ((("[" : String) : Str)).length = 1 := rfl
    have h2 : (((if (0 : Nat) > 0 then ", " else "" : String)) : Str).length = 0 := rfl
    omega
theorem tupleText_le (ts : List Str) : (tupleText ts).length ≤ piled ts + 3 := by
  unfold tupleText
  rw [strLen_append, strLen_append]
  have e1 : ((("(" : String) : Str)).length = 1 := rfl
  have e3 : (((if ts.length == 1 then ",)" else ")" : String) : Str)).length ≤ 2 := by split <;> decide +kernel
  have : (Str.join (", " : Str) ts).length ≤ piled ts := by
    by_cases h : ts = []
    · subst h; decide +kernel
    · have := join_length_add ts h
      omega
  omega
theorem sh_list {ds : List PyData} {k n m : Nat} (a : ShAll k n ds) (hm : ds.length ≤ m) : ShN (.list ds) (k + 1) (m * (n + 2) + 2) := by
  obtain ⟨h1, h2, h3, h4⟩ := a.facts
  refine ⟨by simp [PyData.showable, h1], by simp [PyData.hasDict, h2], by simp only [PyData.depth]; omega, ?_⟩
  simp only [PyData.shown]
  have := listText_le (PyData.shownAll ds)
  have := Nat.mul_le_mul_right (n + 2) hm
  omega
theorem sh_tuple {ds : List PyData} {k n m : Nat} (a : ShAll k n ds) (hm : ds.length ≤ m) : ShN (.tuple ds) (k + 1) (m * (n + 2) + 3) := by
  obtain ⟨h1, h2, h3, h4⟩ := a.facts
  refine ⟨by simp [PyData.showable, h1], by simp [PyData.hasDict, h2], by simp only [PyData.depth]; omega, ?_⟩
  simp only [PyData.shown]
  have := tupleText_le (PyData.shownAll ds)
  have := Nat.mul_le_mul_right (n + 2) hm
  omega
theorem sh_strs {ws : List Str} {k m : Nat} (so : ∀ x ∈ ws, PyData.strOk x = true) (hl : ∀ x ∈ ws, x.length ≤ k) : ShAll 1 (10 * k + 2) (ws.map PyData.str) := by
  refine .of fun d hd => ?_
  obtain ⟨x, hx, rfl⟩ := List.mem_map.mp hd
  have := hl x hx
  exact (sh_str (so x hx)).mono (Nat.le_refl _) (by omega)
theorem log2_lt {i : Nat} (h : i < 2 ^ 40) : i.log2 < 1000 := by
  by_cases z : i = 0
  · subst z; decide
  · exact (Nat.log2_lt z).mpr (Nat.lt_trans h (Nat.pow_lt_pow_right (by decide) (by decide)))
theorem fmt_nat {i : Nat} (h : i < 2 ^ 40) : Fmt (.int (i : Nat)) := .inr ⟨i, rfl, log2_lt h⟩
/-- raise C(..) -/
theorem rd_mkO {C : Addr} {sp : Sp} {dvs : List V} {ta : TA} {σ : L2.St} {H : Hp} {Q : XK} (h : ta σ H fun vs H1 => vs.length ≤ 1000 ∧ ∀ x, H1 x = none → sp (.ref x :: (vs ++ dvs)) (upd H1 x (exo x C none)) (fun v H2 => v = .non ∧ ∃ (d : Addr) (fs : List (Str × V)), H2 x = some (exo x C (some d)) ∧ H2 d = some (exd d fs) ∧ H1 d = none ∧ Q (.ref C) (some d) (upd (del H2 x) d (.xd fs))) (fun _ _ _ => False)) : tMkO C sp dvs ta σ H Q := h
/-- xs + ys, lists -/
theorem rd_cat {l1 l2 : Addr} {xs ys : List V} {H : Hp} {Q : VK} (h1 : H l1 = some (.lst xs)) (h2 : H l2 = some (.lst ys)) (hl : xs.length + ys.length ≤ 100000) (q : ∀ p H', H p = none → Ex H H' → H' p = some (.lst (xs ++ ys)) → Q (.ref p) H') : rCat (.ref l1) (.ref l2) H Q :=
  ⟨l1, l2, xs, ys, rfl, rfl, h1, h2, Nat.le_trans hl (by decide), rd_new q⟩
/-! ### repr(v) -/
def rRepr (K : PySem.W.Frag) : List V → Hp → VK → Prop := fun xs H Q => ∃ (v : V) (d : PyData), xs = [v] ∧ Dp K H v d ∧ ShN d 40 1000000 ∧ Q (.str d.shown) H
section
variable {X : Cx}
theorem call_reprD (hg : X.A.guards = some []) (hu : X.A.units + 64 < cLine) : CallR X (.builtin "repr") (rRepr X.K) := by
  intro pins s σ H xs us Q I r h
  obtain ⟨v, d, rfl, hd, sh, q⟩ := h
  obtain ⟨u, rfl, ru⟩ := r.one
  obtain ⟨as, rd⟩ := Dp.reads I d v u hd ru
  have sz : d.shown.length ≤ sizeLine := Nat.le_trans sh.l (by decide)
  have dp := sh.dp
  have one : ∀ (h' : Heap) (t tk : Tok), (∀ b o, s.heap.get? b = some o → h'.get? b = some o) → EP X pins σ Q (.str d.shown t) { s with heap := h', toks := tk } := fun h' t tk kp => ⟨.str d.shown, H, I.kept (t' := tk) kp, ⟨t, rfl⟩, q⟩
  have flat : ∀ (t tk : Tok), EP X pins σ Q (.str d.shown t) { s with toks := tk } := fun t tk => one s.heap t tk fun _ _ z => z
  cases hd with
  | non => cases ru; exact P.repr_of_none (flat _ _)
  | bl b => cases ru; exact P.repr_of_bool (flat _ _)
  | int i =>
    obtain ⟨t, rfl⟩ := ru
    refine P.repr_of_int ?_ (flat _ _)
    have := sh.s
    simp only [PyData.showable] at this
    exact of_decide_eq_true this
  | str x => obtain ⟨t, rfl⟩ := ru; exact P.repr_of_str (flat _ _) sz
  | lst _ _ => cases ru; exact repr_of_reads' rd sh.s (PyData.noDict_hsm sh.h) hg (by omega) (fun _ _ z => z) one sz
  | tup _ _ => cases ru; exact repr_of_reads' rd sh.s (PyData.noDict_hsm sh.h) hg (by omega) (fun _ _ z => z) one sz
theorem rd_repr {K : PySem.W.Frag} {H : Hp} {v : V} {d : PyData} {Q : VK} (h : Dp K H v d) (s : ShN d 40 1000000) (q : Q (.str d.shown) H) : rRepr K [v] H Q := ⟨v, d, rfl, h, s, q⟩
end
theorem units65 {k : Nat} {A : Around} (r : Room k A) : A.units + 65 < cLine := by have := r.un; omega
section
variable {X : Cx}
theorem call_reprDK {K : PySem.W.Frag} (hg : X.A.guards = some []) (hu : X.A.units + 64 < cLine) (hK : X.K = K := by rfl) : CallR X (.builtin "repr") (rRepr K) := hK ▸ call_reprD hg hu
theorem op_inDK {K : PySem.W.Frag} (hu : X.A.units + 65 < cLine) (hK : X.K = K := by rfl) : OpR X (compareOp .In) (rInD K) := hK ▸ op_inD hu
theorem op_notInDK {K : PySem.W.Frag} (hu : X.A.units + 65 < cLine) (hK : X.K = K := by rfl) : OpR X (compareOp .NotIn) (rNotInD K) := hK ▸ op_notInD hu
theorem op_eqDK {K : PySem.W.Frag} (hu : X.A.units + 64 < cLine) (hK : X.K = K := by rfl) : OpR X (compareOp .Eq) (rEqD K) := hK ▸ op_eqD hu
theorem op_neDK {K : PySem.W.Frag} (hu : X.A.units + 64 < cLine) (hK : X.K = K := by rfl) : OpR X (compareOp .NotEq) (rNeD K) := hK ▸ op_neD hu
end
/-! ### defs promised where no repr is under way -/
structure FnOkG (P : Program) (w : World) (K : PySem.W.Frag) (mg : Str → Option Value) (base : Heap) (CX : CXT) (k : Nat) (f : Addr) (fd : FuncData) (ps : List Str) (sp : Sp) : Prop where
  len : ∀ vs H Q E, sp vs H Q E → vs.length = ps.length
  run : ∀ (A : Around) (outer : List Env) (s : Shared) (H : Hp) (args : Args) (us : List Value) (vs : List V) (Q : VK) (E : XK), A.guards = some [] → Room k A → Env0 P w K mg base A outer s H → BindsTo s fd args (ps.zip us) → Vals vs us → sp vs H Q E →
    codeAny (model P w) A (.call (.ref f) args) (CR CX outer P w H s Q E) s
section
variable {P : Program} {w : World} {K : PySem.W.Frag} {mg : Str → Option Value} {base : Heap} {CX : CXT} {k : Nat} {f : Addr} {fd : FuncData} {ps : List Str} {sp : Sp}
theorem fnG (F : FnOk P w K mg base CX k f fd ps sp) : FnOkG P w K mg base CX k f fd ps sp := ⟨F.len, fun A outer s H args us vs Q E _ => F.run A outer s H args us vs Q E⟩
theorem okG {x qual : Str} {st : Stmt} {N : List Str} (F : Fun K x qual st f fd) (S : FnScope N ps (defScope st)) (len : ∀ vs H Q E, sp vs H Q E → vs.length = ps.length)
    (body : ∀ (cdv : Value) (A : Around) (outer : List Env) (s : Shared) (H : Hp) (vs : List V) (Q : VK) (E : XK), (A.deeper (envOfC qual (defScope st) s.heap.objs.size f cdv)).guards = some [] → Room k (A.deeper (envOfC qual (defScope st) s.heap.objs.size f cdv)) → sp vs H Q E →
      ∃ t, PSs (cxOf CX P w K mg base N qual (defScope st) f cdv A outer s H E) (defBody st) t ∧ t { nx := fun _ H' => Q .non H', rt := Q } (start N vs) H) : FnOkG P w K mg base CX (k + 1) f fd ps sp := by
  obtain ⟨c0, c1, c2, c3, c4, c5, cdv, c7, c8, rfl, lk, code⟩ := F.ex
  constructor
  · exact len
  intro A outer s H args us vs Q E gd room e0 bind rel hs
  have old : ∀ b o, base.get? b = some o → s.heap.get? b = some o := fun b o z => (e0.bs b o z).1
  have kin : K.In s.heap := e0.mod.kin.keeps old
  have kinds : ∀ y ∈ ps.zip us, (defScope st).names.lookup y.1 = some .local ∨ ((defScope st).names.lookup y.1 = some .cell ∧ ((cellsFrom (s.heap.objs.size + 1) (defScope st).names []).lookup y.1).isSome = true) := by
    rintro ⟨n, v⟩ hy
    exact (S.par n (List.of_mem_zip hy).1).imp id fun z => ⟨z, PySem.W.cellsFrom_some _ _ _ (.inl z)⟩
  obtain ⟨t, ht, hq⟩ := body cdv A outer s H vs Q E gd (room.deeper _) hs
  refine codeAny_call_function room.depth (kin _ _ lk) rfl S.co S.gen rfl (PySem.W.codeRec_of kin code) (bind _ _ _ _ (wpAny_newFunctionEnv_cells S.kind kinds ?_))
  intro env he s1 inn
  cases he
  refine ⟨(e0.mod.nolimit.keeps old).keeps inn.toInCall.keep, codeAny_func (wpAny_mono (ht.run [] s1 _ H _ (inv_start S room.hd e0 (len _ _ _ _ hs) rel inn) hq) ?_ fun e s' z => z)⟩
  intro fl s' z
  cases fl with
  | ret u => obtain ⟨v, _, H', J, rv, q⟩ := z; exact ⟨v, H', J.os, J.bare, J.base, J.hok, rv, q⟩
  | next => obtain ⟨_, H', J, q⟩ := z; exact ⟨.non, H', J.os, J.bare, J.base, J.hok, rfl, q⟩
  | brk => obtain ⟨_, _, _, q⟩ := z; exact q.elim
  | cont => obtain ⟨_, _, _, q⟩ := z; exact q.elim
/-- the same for a def that lets nothing out -/
theorem okG0 {x qual : Str} {st : Stmt} {N : List Str} (F : Fun K x qual st f fd) (S : FnScope N ps (defScope st)) (len : ∀ vs H Q E, sp vs H Q E → vs.length = ps.length)
    (body : ∀ (cdv : Value) (A : Around) (outer : List Env) (s : Shared) (H : Hp) (vs : List V) (Q : VK) (E : XK), (A.deeper (envOfC qual (defScope st) s.heap.objs.size f cdv)).guards = some [] → Room k (A.deeper (envOfC qual (defScope st) s.heap.objs.size f cdv)) → sp vs H Q E →
      ∃ t, PSs (cxOf CX0 P w K mg base N qual (defScope st) f cdv A outer s H E).nox (defBody st) t ∧ t { nx := fun _ H' => Q .non H', rt := Q } (start N vs) H) : FnOkG P w K mg base CX0 (k + 1) f fd ps sp :=
  okG F S len fun cdv A outer s H vs Q E gd hr hs => let ⟨t, h, q⟩ := body cdv A outer s H vs Q E gd hr hs; ⟨t, h.nox, q⟩
end
/-- a def in one word -/
structure CalG (P : Program) (w : World) (K : PySem.W.Frag) (mg : Str → Option Value) (base : Heap) (k : Nat) (x : Str) (ps : List Str) (sp : Sp) : Prop where
  ex : ∃ (f : Addr) (fd : FuncData), FnOkG P w K mg base CX0 k f fd ps sp ∧ mg x = some (.ref f) ∧ PySem.W.keepIn K (.ref f) = true ∧ Binds K fd ps []
section
variable {X : Cx} {k j : Nat} {x : Str} {ps : List Str} {sp : Sp} {e : Expr} {es : List Expr} {t : TA} {p pos : Pos}
theorem pe_callG (gd : X.A.guards = some []) (c : CalG X.prog X.w X.K X.mg X.base k x ps sp) (hr : Room j X.A) (ha : PA X (e :: es) t) (hk : k ≤ j := by decide) (hg : Gl X x := by rfl) (hdb : (x == ("__debug__" : Str)) = false := by decide)
    (he : starEach (e :: es) X.env = (false, eval e X.env) :: starEach es X.env := by rfl) (hpl : (backTo pos (starEach es X.env)).any (·.1) = false := by rfl) : PE X (.Call (.Name x p) (e :: es) [] pos) (tCall sp [] E0 t) := by
  obtain ⟨f, fd, F, hm, kp, b⟩ := c.ex
  refine ⟨fun pins s σ H Q I h => wpAny_Call_Name_kw (ld_glob I hg hm (PySem.W.callWith_K (h₀ := X.base) I.ok.mod.kin kp (thn (ha.run pos pins s σ H _ I h) fun us s1 ⟨vs, H1, I1, r, q⟩ => ⟨I1.kIn, ?_⟩) he hpl) hdb)⟩
  have q : sp vs H1 Q E0 := by have z : sp (vs ++ []) H1 Q E0 := q; rw [List.append_nil] at z; exact z
  have hl := r.length.symm.trans (F.len _ _ _ _ q)
  have hb := b s1 us I1.kIn (by simpa using hl)
  rw [List.append_nil] at hb
  refine wpAny_call (codeAny_mono (F.run X.A X.stack s1 H1 ⟨us, []⟩ us vs Q E0 gd (hr.mono hk) I1.env0 hb r q) fun out s' hq => ?_)
  match out, hq with
  | .error e, hq => exact pass0 pins σ H1 s1 e s' I1 hq
  | .ok (.ret u), hq => exact I1.after hq
  | .ok .next, hq => exact hq.elim
  | .ok .brk, hq => exact hq.elim
  | .ok .cont, hq => exact hq.elim
end
/-! ### the end of a law whose def is promised so -/
theorem endG {P : Program} {w : World} {K : PySem.W.Frag} {mg mb : Str → Option Value} {k : Nat} {fa a : Addr} {fd : FuncData} {x : Str} {sp : Sp} {s1 : Shared} {vs : List Value} {ns : List Int}
    (KX : K.In s1.heap) (hns : s1.heap.Ns mainGlobals mg) (hb : s1.heap.Ns builtinsNs mb) (hbb : ∀ x : Str, x ≠ "__name__" → mb x = bootBuiltins x) (hlim : s1.heap.NoLimit) (hg : s1.gens = #[])
    (ha : s1.heap.get? a = some { cls := .type "list", data := .seq vs.toArray }) (hi : IntsAre vs ns) (hl : ns.length ≤ sizeLine) (hr : Room k callerA)
    (F : ∀ base : Heap, K.In base → base.Ns mainGlobals mg → FnOkG P w K mg base CX0 k fa fd [x] sp) (hbind : ∀ (s : Shared) (u : Value), BindsTo s fd ⟨[u], []⟩ [(x, u)])
    (hsp : ∀ H : Hp, Only H → SqL K H a (ns.map V.int) → sp [.ref a] H (fun v _ => v = .bl true) fun _ _ _ => False) :
    codeAny (model P w) callerA (.call (.ref fa) ⟨[.ref a], []⟩) (fun r s' => r = .ok (.ret (.bool true)) ∧ OldK s1.heap s'.heap ∧ s'.os = s1.os ∧ AllBare s'.gens) s1 := by
  have rel := vals_ints hi
  have big : (ns.map V.int).length ≤ sizeLine := by rw [List.length_map]; exact hl
  obtain ⟨H, only, sq, hok, isA, notK⟩ : ∃ H : Hp, Only H ∧ SqL K H a (ns.map V.int) ∧ HOk P w H s1.heap ∧ (∀ b, H b ≠ none → b = a) ∧ (H a ≠ none → K.lookup a = none) := by
    cases hk : K.lookup a with
    | some o =>
      have e := KX a o hk
      rw [ha] at e
      cases e
      exact ⟨fun _ => none, fun _ => .inl rfl, .inr ⟨_, vs.toArray, _, hk, rfl, rfl, rfl, by rw [List.size_toArray, hi.length]; exact hl, by simpa using rel⟩, (fun b u (z : (none : Option HO) = some u) => nomatch z), fun b z => absurd rfl z, fun z => absurd rfl z⟩
    | none =>
      refine ⟨fun b => if b = a then some (.frz { cls := .type "list", data := .seq vs.toArray } (.lst (ns.map V.int))) else none, fun b => ?_, .inl (.inr ⟨_, if_pos rfl⟩), fun b u z => ?_, fun b z => ?_, fun _ => rfl⟩
      · exact (Classical.em (b = a)).elim (fun e => .inr ⟨_, _, if_pos e⟩) fun e => .inl (if_neg e)
      · by_cases e : b = a
        · cases (if_pos e).symm.trans z; subst e; exact ⟨ha, big, vs, _, rel, ha⟩
        · cases (if_neg e).symm.trans z
      · exact Classical.byContradiction fun e => z (if_neg e)
  have hid : ∀ {b : Addr} {m : Str → Option Value}, s1.heap.Ns b m → (hidT s1.heap H).Ns b m := by
    rintro b m ⟨o, es, ep, e, d, r⟩
    refine ⟨o, es, ep, hidT_get e ?_, d, r⟩
    cases q : H b with
    | none => rfl
    | some u =>
      have eb := isA b (by rw [q]; exact nofun)
      rw [eb, ha] at e
      cases e
      cases d
  have kin : K.In (hidT s1.heap H) := by
    intro b o e
    refine hidT_get (KX b o e) ?_
    cases q : H b with
    | none => rfl
    | some u =>
      have eb := isA b (by rw [q]; exact nofun)
      subst eb
      rw [notK (by rw [q]; exact nofun)] at e
      cases e
  have mod : Mod K mg (hidT s1.heap H) := ⟨kin, hid hns, ⟨mb, hid hb, hbb⟩, let ⟨mc, q1, q2⟩ := hlim; ⟨mc, hid q1, q2⟩⟩
  have e0 : Env0 P w K mg (hidT s1.heap H) callerA [] s1 H := ⟨rfl, mod, fun b o e => of_hidT e, Nat.le_of_eq (hidT_size _ _), trivial, nofun, hok, .of_eq hg⟩
  refine codeAny_mono ((F _ kin (hid hns)).run callerA [] s1 H _ [.ref a] [.ref a] _ _ rfl hr e0 (hbind s1 (.ref a)) (.cons rfl .nil) (hsp H only sq)) fun out s' z => ?_
  match out, z with
  | .error e, z => exact z.elim
  | .ok .next, z => exact z.elim
  | .ok .brk, z => exact z.elim
  | .ok .cont, z => exact z.elim
  | .ok (.ret u), ⟨v, H', os, bare, un, hok', rv, (q : v = .bl true)⟩ =>
    subst q
    cases rv
    refine ⟨rfl, OldK.of_keep fun b o e => ?_, os, bare⟩
    rcases only b with hn | ⟨ob, xs, hn⟩
    · exact un.keep b o e hn nofun nofun
    · have st := un.frzs b ob _ hn
      obtain ⟨e1, _⟩ := hok b _ hn
      obtain ⟨e2, _⟩ := hok' b _ st
      rw [e] at e1
      cases e1
      exact e2
theorem walkG {l : PySem.W.OpenLaw} {n k : Nat} {q : Program} {loose : List Str} {XP : (Str → Option Value) → Heap → Prop} {YP : World → Heap → Prop} {d : DefRec} {K : Params → PySem.W.Frag} {sp : PySem.W.Frag → Sp} {x : Str}
    (hn : l.most = some n) (hn2 : n ≤ sizeLine) (hdf : d.params.defaults = []) (hr : Room k callerA) (hY : ∀ (w : World) (h : Heap), YP w h → (K w.params).In h)
    (F : ∀ (w : World) (mg : Str → Option Value) (fa : Addr) (h : Heap), (K w.params).In h → h.Ns mainGlobals mg → mg d.name = some (.ref fa) →
      ∃ fd : FuncData, (∀ (s : Shared) (u : Value), BindsTo s fd ⟨[u], []⟩ [(x, u)]) ∧ ∀ base : Heap, (K w.params).In base → base.Ns mainGlobals mg → FnOkG l.prog w (K w.params) mg base CX0 k fa fd [x] (sp (K w.params)))
    (hsp : ∀ (K : PySem.W.Frag) (H : Hp) (a : Addr) (ns : List Int), ns.length ≤ n → Only H → SqL K H a (ns.map V.int) → sp K [.ref a] H (fun v _ => v = .bl true) fun _ _ _ => False) :
    PySem.W.WalkO q loose XP YP l.row.toRowW d [] (fun f vs => PySem.call f vs) :=
  Att.attach_call hn hdf fun w _ _ mg _ fa _ _ _ _ _ _ _ G Y _ _ _ hmg hobj hints hlen hg =>
    let ⟨_, hb, hF⟩ := F w mg fa _ (hY w _ Y) G.T.g hmg
    endG (hY w _ Y) G.T.g G.T.b G.T.builtins G.T.nolimit hg hobj hints (Nat.le_trans hlen hn2) hr hF hb fun H hO hS => hsp (K w.params) H _ _ hlen hO hS
end Aq
/-! own methods called by built-ins: len -/
namespace Aq
open PySem PySem.Spec PyProof.Rows L2 Evl
theorem rd_bm0 {K : PySem.W.Frag} {T : String} {r : V → List V → Hp → VK → Prop} {ta : TE} {σ : L2.St} {H : Hp} {Q : VK} (h : ta σ H fun x H1 => tyV K T x H1 ∧ r x [] H1 Q) : tBM0 K T r ta σ H Q := h
theorem rd_revL {K : PySem.W.Frag} {ta : TE} {σ : L2.St} {H : Hp} {Q : VK} (h : ta σ H fun x H1 => ∃ a xs, x = .ref a ∧ SqL K H1 a xs ∧ ∀ p, H1 p = none → Q (.ref p) (upd H1 p (.lst xs.reverse))) : tRevL K ta σ H Q := h
/-- a, b = .. as a comprehension's target -/
theorem pg_tupK {X : Cx} {K : PySem.W.Frag} {es : List Expr} {k n : Nat} {t : TGs} {pos : Pos} (hc : X.calm = true) (h : PGs X es t) (hn : (assignEach es X.env).length = n := by rfl) (hst : (assignEach es X.env).findIdx? (·.1) = none := by rfl) (hK : X.K = K := by rfl) : PG X (.Tuple es k pos) (gTup K n t) := hK ▸ pg_tup hc h hn hst
section
variable {X : Cx} {k j : Nat} {C : Addr} {ps : List Str} {sp : Sp}
/-- an own def called one unit deeper -/
theorem run_in1 {pins : List (Addr × Obj)} {σ : L2.St} {H : Hp} {s : Shared} {Q : VK} {f : Addr} {fd : FuncData} {us : List Value} {vs : List V} (F : FnOk X.prog X.w X.K X.mg X.base CX0 k f fd ps sp) (hr : Room (k + 1) X.A) (b : Binds X.K fd ps [])
    (I : Inv X pins σ H s) (r : Vals vs us) (h : sp vs H Q E0) : wpAny (model X.prog X.w) X.A.in1 (call (.ref f) us) (fun v s' => EP X pins σ Q v s') X.xe s := by
  have e := I.env0
  have e0 : Env0 X.prog X.w X.K X.mg X.base X.A.in1 X.stack s H := ⟨e.frames, e.mod, e.bs, e.bsz, e.funs, e.frf, e.hok, e.bare⟩
  have hl := r.length.symm.trans (F.len _ _ _ _ h)
  have hb := b s us I.kIn (by simpa using hl)
  rw [List.append_nil] at hb
  refine wpAny_call (codeAny_mono (F.run X.A.in1 X.stack s H ⟨us, []⟩ us vs Q E0 hr.in1 e0 hb r h) fun out s' hq => ?_)
  match out, hq with
  | .error e, hq => exact pass0 pins σ H s e s' I hq
  | .ok (.ret u), hq => exact I.after hq
  | .ok .next, hq => exact hq.elim
  | .ok .brk, hq => exact hq.elim
  | .ok .cont, hq => exact hq.elim
def rLenOwn (C : Addr) (sp : Sp) : List V → Hp → VK → Prop := fun xs H Q => ∃ a dx fs, xs = [.ref a] ∧ H a = some (.ins C dx fs) ∧ sp [.ref a] H (fun v H' => ∃ n : Nat, v = .int (n : Nat) ∧ n < 2 ^ 60 ∧ Q (.int (n : Nat)) H') E0
theorem call_lenOwn (c : Mth X.prog X.w X.K X.mg X.base k C "__len__" ps sp) (hr : Room j X.A) (hk : k + 1 ≤ j := by decide) : CallR X (.builtin "len") (rLenOwn C sp) := by
  intro pins s σ H xs us Q I r h
  obtain ⟨f, fd, M, F, b⟩ := c.ex
  obtain ⟨a, dx, fs, rfl, ha, h⟩ := h
  obtain ⟨u, rfl, ru⟩ := r.one
  cases ru
  obtain ⟨mA, J, _⟩ := ins_get I.hok ha
  obtain ⟨od, J, _⟩ := J.look
  obtain ⟨m, hF⟩ := I.fr
  refine PySem.W.len_K hF I.ok.mod.kin J M.at_ M.fn (wpAny_mono (run_in1 F (hr.mono hk) b I (show Vals [V.ref a] [Value.ref a] from .cons rfl .nil) h) (fun v s' z => ?_) fun _ _ e => e)
  obtain ⟨x, H', I', rx, n, rfl, hn, q⟩ := z
  obtain ⟨t, rfl⟩ := rx
  exact ⟨⟨by omega, by omega⟩, .int (n : Nat), H', I'.tok _, ⟨_, rfl⟩, q⟩
end
/-! C(e, .., k = v, ..) of a class that may raise -/
structure CtrN (P : Program) (w : World) (K : PySem.W.Frag) (mg : Str → Option Value) (base : Heap) (k : Nat) (x : Str) (C : Addr) (n : Nat) (ps ks : List Str) (gV : List V → List V → List V) (sp : Sp) : Prop where
  ex : ∃ (f : Addr) (fd : FuncData) (g : List Value → List Value → List Value), Mk K C f ∧ FnOk P w K mg base (L2.CX P w) k f fd ps sp ∧ mg x = some (.ref C) ∧ KBn K fd ps (n + 1) ks g gV
section
variable {X : Cx} {k j n : Nat} {x : Str} {C : Addr} {ps ks : List Str} {sp : Sp} {gV : List V → List V → List V} {e : Expr} {es : List Expr} {kws : List Keyword} {t tk : TA} {p pos : Pos}
theorem pe_makeNX0 (c : CtrN X.prog X.w X.K X.mg X.base k x C n ps ks gV sp) (hr : Room j X.A) (ha : PA X (e :: es) t) (hkw : PK X kws tk) (hk : k + 1 ≤ j := by decide) (hg : Gl X x := by rfl)
    (hall : (backToKw pos (keywordEach kws X.env)).all (·.1.isSome) = true := by rfl) (hks : (backToKw pos (keywordEach kws X.env)).filterMap (·.1) = ks := by rfl)
    (hdb : (x == ("__debug__" : Str)) = false := by decide) (he : starEach (e :: es) X.env = (false, eval e X.env) :: starEach es X.env := by rfl)
    (hpl : ((backTo pos (starEach (e :: es) X.env)).any (·.1) || (backToKw pos (keywordEach kws X.env)).any (·.1.isNone)) = false := by rfl) : PE X (.Call (.Name x p) (e :: es) kws pos) (tMakeN C n ks.length sp gV E0 t tk) := by
  obtain ⟨f, fd, g, M, F, hm, b⟩ := c.ex
  exact pe_makeN M F (hr.mono hk) hg hm b passX0 ha hkw hall hks hdb he hpl
end
end Aq
/-! runs: pairs of a letter and a count, as they stand in lists and tuples -/
namespace Aq
open PySem PySem.Spec PyProof.Rows L2 Evl
/-- tuples stay -/
def Kt (H H' : Hp) : Prop := ∀ a, (∀ xs, H a = some (.tup xs) → H' a = some (.tup xs)) ∧ (∀ o xs, H a = some (.frz o (.tup xs)) → H' a = some (.frz o (.tup xs)))
theorem Kt.refl (H : Hp) : Kt H H := fun _ => ⟨fun _ h => h, fun _ _ h => h⟩
theorem Kt.trans {H H1 H2 : Hp} (x : Kt H H1) (y : Kt H1 H2) : Kt H H2 := fun a => ⟨fun xs h => (y a).1 xs ((x a).1 xs h), fun o xs h => (y a).2 o xs ((x a).2 o xs h)⟩
theorem Kt.of {H H' : Hp} (e : Ex H H') : Kt H H' := fun a => ⟨fun _ h => e _ _ h, fun _ _ h => e _ _ h⟩
theorem Kt.kx {H H' : Hp} {pd : Addr} {kvs : List (Key × V)} (e : Kx pd H H') (hd : H pd = some (.dK kvs)) : Kt H H' := fun a =>
  ⟨fun _ h => e _ _ (ne_of h hd (by intro z; cases z)) h, fun _ _ h => e _ _ (ne_of h hd (by intro z; cases z)) h⟩
theorem Kt.lst {H : Hp} {l : Addr} {xs : List V} {o : HO} (hl : H l = some (.lst xs)) : Kt H (upd H l o) := fun a =>
  ⟨fun _ h => by rw [upd_ne (ne_of h hl (by intro z; cases z))]; exact h, fun _ _ h => by rw [upd_ne (ne_of h hl (by intro z; cases z))]; exact h⟩
theorem Kt.ins {H : Hp} {l C dx : Addr} {fs : List (Str × V)} {o : HO} (hl : H l = some (.ins C dx fs)) : Kt H (upd H l o) := fun a =>
  ⟨fun _ h => by rw [upd_ne (ne_of h hl (by intro z; cases z))]; exact h, fun _ _ h => by rw [upd_ne (ne_of h hl (by intro z; cases z))]; exact h⟩
theorem sqt_kt {K : PySem.W.Frag} {H H' : Hp} {a : Addr} {xs : List V} (h : SqT K H a xs) (k : Kt H H') : SqT K H' a xs := by
  rcases h with (h | ⟨o, h⟩) | h
  · exact .inl (.inl ((k a).1 _ h))
  · exact .inl (.inr ⟨o, (k a).2 _ _ h⟩)
  · exact .inr h
def pairD (r : Str × Int) : PyData := .tuple [.str r.1, .int r.2]
/-- the values vs are the pairs rs -/
def PR (K : PySem.W.Frag) (H : Hp) (vs : List V) (rs : List (Str × Int)) : Prop := DpAll K H vs (rs.map pairD)
section
variable {K : PySem.W.Frag} {H H' : Hp}
theorem pr_inv {v : V} {r : Str × Int} (h : Dp K H v (pairD r)) : ∃ p, v = .ref p ∧ SqT K H p [.str r.1, .int r.2] := by
  unfold pairD at h
  cases h with
  | tup s d =>
    cases d with
    | cons h1 d =>
      cases d with
      | cons h2 d =>
        cases d
        cases h1
        cases h2
        exact ⟨_, rfl, s⟩
theorem pr_one {p : Addr} {z : Str} {n : Int} (h : SqT K H p [.str z, .int n]) : Dp K H (.ref p) (pairD (z, n)) := .tup h (.cons (.str z) (.cons (.int n) .nil))
theorem PR.nil : PR K H [] [] := DpAll.nil
theorem PR.cons {v : V} {r : Str × Int} {vs : List V} {rs : List (Str × Int)} (h : Dp K H v (pairD r)) (t : PR K H vs rs) : PR K H (v :: vs) (r :: rs) := DpAll.cons h t
theorem PR.inv {v : V} {vs : List V} : ∀ {rs : List (Str × Int)}, PR K H (v :: vs) rs → ∃ r t, rs = r :: t ∧ Dp K H v (pairD r) ∧ PR K H vs t
  | [], h => by cases h
  | r :: t, h => by
    cases h with
    | cons h1 h2 => exact ⟨r, t, rfl, h1, h2⟩
theorem PR.len : ∀ {vs : List V} {rs : List (Str × Int)}, PR K H vs rs → vs.length = rs.length
  | [], [], _ => rfl
  | [], _ :: _, h => by cases h
  | v :: vs, rs, h => by
    obtain ⟨r, t, rfl, _, h⟩ := h.inv
    simp [h.len]
theorem PR.kt : ∀ {vs : List V} {rs : List (Str × Int)}, PR K H vs rs → Kt H H' → PR K H' vs rs
  | [], [], _, _ => .nil
  | [], _ :: _, h, _ => by cases h
  | v :: vs, rs, h, k => by
    obtain ⟨r, t, rfl, h1, h2⟩ := h.inv
    obtain ⟨p, rfl, s⟩ := pr_inv h1
    exact .cons (pr_one (sqt_kt s k)) (PR.kt h2 k)
theorem PR.ex {vs : List V} {rs : List (Str × Int)} (h : PR K H vs rs) (e : Ex H H') : PR K H' vs rs := h.kt (.of e)
theorem PR.app : ∀ {vs ws : List V} {rs ts : List (Str × Int)}, PR K H vs rs → PR K H ws ts → PR K H (vs ++ ws) (rs ++ ts)
  | [], _, [], _, _, h => h
  | [], _, _ :: _, _, h, _ => by cases h
  | v :: vs, ws, rs, ts, h, h2 => by
    obtain ⟨r, t, rfl, h1, h⟩ := h.inv
    exact .cons h1 (h.app h2)
theorem PR.get : ∀ {vs : List V} {rs : List (Str × Int)} {i : Nat} {v : V}, PR K H vs rs → vs[i]? = some v → ∃ r p, rs[i]? = some r ∧ v = .ref p ∧ SqT K H p [.str r.1, .int r.2]
  | [], _, i, v, _, e => by simp at e
  | x :: vs, rs, 0, v, h, e => by
    obtain ⟨r, t, rfl, h1, h⟩ := h.inv
    simp at e
    subst e
    obtain ⟨p, rfl, s⟩ := pr_inv h1
    exact ⟨r, p, rfl, rfl, s⟩
  | x :: vs, rs, i + 1, v, h, e => by
    obtain ⟨r, t, rfl, h1, h⟩ := h.inv
    have := h.get (i := i) (by simpa using e)
    simpa using this
theorem PR.snoc : ∀ {vs : List V} {rs : List (Str × Int)}, PR K H vs rs → vs ≠ [] → ∃ ws v ts r, vs = ws ++ [v] ∧ rs = ts ++ [r] ∧ PR K H ws ts ∧ Dp K H v (pairD r)
  | [], _, _, n => absurd rfl n
  | [x], rs, h, _ => by
    obtain ⟨r, t, rfl, h1, h⟩ := h.inv
    cases t with
    | nil => exact ⟨[], x, [], r, rfl, rfl, .nil, h1⟩
    | cons a b => cases h
  | x :: y :: vs, rs, h, _ => by
    obtain ⟨r, t, rfl, h1, h⟩ := h.inv
    obtain ⟨ws, v, ts, r', e1, e2, h3, h4⟩ := h.snoc (by simp)
    exact ⟨x :: ws, v, r :: ts, r', by rw [e1]; rfl, by rw [e2]; rfl, .cons h1 h3, h4⟩
theorem shaped_pairs (rs : List (Str × Int)) (so : ∀ r ∈ rs, PyData.strOk r.1 = true) : PyData.canLayAll0 (rs.map pairD) = true ∧ PyData.depthAll (rs.map pairD) ≤ 2 := by
  induction rs with
  | nil => simp [PyData.canLayAll0, PyData.depthAll]
  | cons r t ih =>
    obtain ⟨h1, h2⟩ := ih fun x hx => so x (List.mem_cons_of_mem _ hx)
    have := so r (List.mem_cons_self ..)
    simp only [List.map_cons, PyData.canLayAll0, PyData.depthAll]
    refine ⟨by rw [h1]; simp [pairD, PyData.canLay0, PyData.canLayAll0, this], ?_⟩
    have : (pairD r).depth ≤ 2 := by simp [pairD, PyData.depth, PyData.depthAll]
    omega
theorem shaped_pL (rs : List (Str × Int)) (so : ∀ r ∈ rs, PyData.strOk r.1 = true) : SeqAt.shaped (.list (rs.map pairD)) = true := by
  obtain ⟨h1, h2⟩ := shaped_pairs rs so
  unfold SeqAt.shaped
  rw [PyData.canLay0, h1, Bool.true_and]
  apply decide_eq_true
  simp only [PyData.depth]; omega
theorem shaped_pT (rs : List (Str × Int)) (so : ∀ r ∈ rs, PyData.strOk r.1 = true) : SeqAt.shaped (.tuple (rs.map pairD)) = true := by
  obtain ⟨h1, h2⟩ := shaped_pairs rs so
  unfold SeqAt.shaped
  rw [PyData.canLay0, h1, Bool.true_and]
  apply decide_eq_true
  simp only [PyData.depth]; omega
theorem eqv_pair (r s : Str × Int) : PyData.eqv (pairD r) (pairD s) = decide (r = s) := by
  obtain ⟨z, n⟩ := r
  obtain ⟨y, m⟩ := s
  rw [Bool.eq_iff_iff]
  simp [pairD, PyData.eqv, PyData.eqvAll]
theorem eqv_pairs : ∀ rs ts : List (Str × Int), PyData.eqvAll (rs.map pairD) (ts.map pairD) = decide (rs = ts)
  | [], [] => rfl
  | [], _ :: _ => rfl
  | _ :: _, [] => rfl
  | r :: rs, t :: ts => by
    rw [List.map_cons, List.map_cons, PyData.eqvAll, eqv_pairs rs ts, eqv_pair, Bool.eq_iff_iff]
    simp
theorem eqv_pnilL (rs : List (Str × Int)) : PyData.eqv (.list (rs.map pairD)) (.list []) = rs.isEmpty := by cases rs <;> rfl
theorem eqv_pnilT (rs : List (Str × Int)) : PyData.eqv (.tuple (rs.map pairD)) (.tuple []) = rs.isEmpty := by cases rs <;> rfl
end
theorem gT2 {K : PySem.W.Frag} {n i j : Nat} {p : Addr} {x y : V} {σ : L2.St} {H : Hp} {R : L2.St → Hp → Prop} (hn : 2 = n) (h : SqT K H p [x, y]) (q : R ((σ.set i (some x)).set j (some y)) H) : gTup K n (gCons (gName i) (gCons (gName j) gNil)) (.ref p) σ H R :=
  ⟨p, [x, y], rfl, h, hn, x, [y], rfl, y, [], rfl, rfl, q⟩
theorem gT3 {K : PySem.W.Frag} {n i j l : Nat} {p : Addr} {x y z : V} {σ : L2.St} {H : Hp} {R : L2.St → Hp → Prop} (hn : 3 = n) (h : SqT K H p [x, y, z]) (q : R (((σ.set i (some x)).set j (some y)).set l (some z)) H) : gTup K n (gCons (gName i) (gCons (gName j) (gCons (gName l) gNil))) (.ref p) σ H R :=
  ⟨p, [x, y, z], rfl, h, hn, x, [y, z], rfl, y, [z], rfl, z, [], rfl, rfl, q⟩
/-! ### runs joined -/
def joinStep (acc : List (Str × Int)) (r : Str × Int) : List (Str × Int) := match acc.getLast? with
  | some s => if s.1 = r.1 then acc.dropLast ++ [(r.1, s.2 + r.2)] else acc ++ [r]
  | none => [r]
def joinR (rs : List (Str × Int)) : List (Str × Int) := rs.foldl joinStep []
theorem joinStep_nil (r : Str × Int) : joinStep [] r = [r] := rfl
theorem joinStep_snoc (acc : List (Str × Int)) (s r : Str × Int) : joinStep (acc ++ [s]) r = if s.1 = r.1 then acc ++ [(r.1, s.2 + r.2)] else acc ++ [s] ++ [r] := by
  unfold joinStep
  rw [List.getLast?_append, List.getLast?_singleton]
  simp
theorem joinR_snoc (rs : List (Str × Int)) (r : Str × Int) : joinR (rs ++ [r]) = joinStep (joinR rs) r := by
  unfold joinR
  rw [List.foldl_append]; rfl
theorem joinStep_mem {acc : List (Str × Int)} {r x : Str × Int} {C : Str → Prop} (h : ∀ y ∈ acc, C y.1) (hr : C r.1) (hx : x ∈ joinStep acc r) : C x.1 := by
  rcases List.eq_nil_or_concat acc with rfl | ⟨b, s, rfl⟩
  · rw [joinStep_nil, List.mem_singleton] at hx; rw [hx]; exact hr
  · rw [List.concat_eq_append, joinStep_snoc] at hx
    split at hx
    · rcases List.mem_append.mp hx with q | q
      · exact h x (by simp [q])
      · rw [List.mem_singleton] at q; rw [q]; exact hr
    · rcases List.mem_append.mp hx with q | q
      · exact h x (by simpa using q)
      · rw [List.mem_singleton] at q; rw [q]; exact hr
theorem joinR_mem {C : Str → Prop} : ∀ (rs acc : List (Str × Int)), (∀ r ∈ rs, C r.1) → (∀ r ∈ acc, C r.1) → ∀ x ∈ rs.foldl joinStep acc, C x.1
  | [], acc, _, h, x, hx => h x hx
  | r :: t, acc, h1, h2, x, hx => joinR_mem t (joinStep acc r) (fun y hy => h1 y (List.mem_cons_of_mem _ hy)) (fun y hy => joinStep_mem h2 (h1 r (List.mem_cons_self ..)) hy) x hx
theorem joinStep_len (acc : List (Str × Int)) (r : Str × Int) : (joinStep acc r).length ≤ acc.length + 1 := by
  rcases List.eq_nil_or_concat acc with rfl | ⟨b, s, rfl⟩
  · simp [joinStep_nil]
  · rw [List.concat_eq_append, joinStep_snoc]; split <;> simp
theorem joinR_len (rs : List (Str × Int)) : (joinR rs).length ≤ rs.length := by
  have : ∀ (rs acc : List (Str × Int)), (rs.foldl joinStep acc).length ≤ acc.length + rs.length := by
    intro rs
    induction rs with
    | nil => intro acc; simp
    | cons r t ih =>
      intro acc
      have h1 := ih (joinStep acc r)
      have h2 := joinStep_len acc r
      simp only [List.foldl_cons, List.length_cons]
      omega
  have h := this rs []
  unfold joinR
  simpa using h
end Aq
/-! values of all kinds, as data -/
namespace Aq
open PySem PySem.Spec PyProof.Rows L2 Evl
section
variable {K : PySem.W.Frag}
inductive Wv (H : Hp) : V → PyData → Prop
  | str (z : Str) (h : z.length ≤ 50) (s : As z) : Wv H (.str z) (.str z)
  | non : Wv H .non .none
  | bl (b : Bool) : Wv H (.bl b) (.bool b)
  | int (i : Int) (h : i.natAbs < 100) : Wv H (.int i) (.int i)
  | lst {p : Addr} {z : Str} (h : z.length ≤ 50) (s : As z) (hp : H p = some (.lst [.str z])) : Wv H (.ref p) (.list [.str z])
  | tup {p : Addr} {z : Str} (h : z.length ≤ 50) (s : As z) (hp : H p = some (.tup [.str z])) : Wv H (.ref p) (.tuple [.str z])
section
variable {H H' : Hp} {v : V} {d : PyData} {vs : List V}
theorem Wv.kd (x : Wv H v d) : Kd H v := by
  cases x with
  | str z h s => exact .str z (by omega)
  | non => exact .non
  | bl b => exact .bl b
  | int i _ => exact .int i
  | lst _ _ h => exact .lst h
  | tup _ _ h => exact .tup h
theorem Wv.as_ (x : Wv H v d) : ∀ z, v = .str z → As z := by
  cases x with
  | str z h s => intro y e; cases e; exact s
  | _ => intro y e; cases e
theorem Wv.to (x : Wv H v d) (e : ∀ p o, v = .ref p → H p = some o → H' p = some o) : Wv H' v d := by
  cases x with
  | str z h s => exact .str z h s
  | non => exact .non
  | bl b => exact .bl b
  | int i h => exact .int i h
  | lst h s hp => exact .lst h s (e _ _ rfl hp)
  | tup h s hp => exact .tup h s (e _ _ rfl hp)
theorem Wv.ex (x : Wv H v d) (e : Ex H H') : Wv H' v d := x.to fun p o _ h => e p o h
theorem Wv.kx {pd : Addr} (x : Wv H v d) (e : Kx pd H H') (n : v ≠ .ref pd) : Wv H' v d := x.to fun p o q h => e p o (fun z => n (by rw [q, z])) h
theorem Wv.dp (x : Wv H v d) : Dp K H v d := by
  cases x with
  | str z h s => exact .str z
  | non => exact .non
  | bl b => exact .bl b
  | int i _ => exact .int i
  | lst _ _ h => exact .lst (sq_of h) (.cons (.str _) .nil)
  | tup _ _ h => exact .tup (st_of h) (.cons (.str _) .nil)
theorem Wv.sh (x : Wv H v d) : ShN d 2 2000 := by
  cases x with
  | str z h s => exact (sh_str s.so).mono (by decide) (by omega)
  | non => exact sh_none.mono (by decide) (by decide)
  | bl b => exact (sh_bool b).mono (by decide) (by decide)
  | int i h => exact (sh_int (log2_lt (by omega))).mono (by decide) (by decide)
  | lst h s _ => exact (sh_list (m := 1) (.cons (sh_str s.so) .nil) (by simp)).mono (by decide) (by omega)
  | tup h s _ => exact (sh_tuple (m := 1) (.cons (sh_str s.so) .nil) (by simp)).mono (by decide) (by omega)
theorem Wv.lay (x : Wv H v d) : PyData.canLay0 d = true := by
  cases x with
  | str z h s => simp [PyData.canLay0, s.so]
  | non => simp [PyData.canLay0]
  | bl b => simp [PyData.canLay0]
  | int i _ => simp [PyData.canLay0]
  | lst _ s h => simp [PyData.canLay0, PyData.canLayAll0, s.so]
  | tup _ s h => simp [PyData.canLay0, PyData.canLayAll0, s.so]
theorem Wv.eqs (x : Wv H v d) (z : Str) : PyData.eqv d (.str z) = decide (v = .str z) := by
  cases x with
  | str y h s => rw [PyData.eqv, Bool.eq_iff_iff]; simp
  | non => rfl
  | bl b => rfl
  | int i _ => rfl
  | lst _ _ h => rfl
  | tup _ _ h => rfl
theorem wv_all : ∀ {vs : List V}, (∀ v ∈ vs, ∃ d, Wv H v d) → ∃ ds, DpAll K H vs ds ∧ ds.length = vs.length ∧ ShAll 2 2000 ds ∧ PyData.canLayAll0 ds = true ∧ ∀ z : Str, (ds.any fun d => PyData.eqv d (.str z)) = decide (V.str z ∈ vs)
  | [], _ => ⟨[], .nil, rfl, .nil, by simp [PyData.canLayAll0], fun z => by simp⟩
  | v :: r, h => by
    obtain ⟨ds, h1, h2, h3, h4, h5⟩ := wv_all (vs := r) fun x hx => h x (List.mem_cons_of_mem _ hx)
    obtain ⟨d, hd⟩ := h v (List.mem_cons_self ..)
    refine ⟨d :: ds, .cons hd.dp h1, by simp [h2], .cons hd.sh h3, by simp [PyData.canLayAll0, hd.lay, h4], fun z => ?_⟩
    rw [List.any_cons, h5, hd.eqs, Bool.eq_iff_iff]
    simp only [Bool.or_eq_true, decide_eq_true_eq, List.mem_cons]
    exact ⟨fun q => q.elim (fun e => .inl e.symm) .inr, fun q => q.elim (fun e => .inl e.symm) .inr⟩
theorem shaped_all {ds : List PyData} (h1 : ShAll 2 2000 ds) (h2 : PyData.canLayAll0 ds = true) : SeqAt.shaped (.list ds) = true := by
  unfold SeqAt.shaped
  obtain ⟨_, _, h3, _⟩ := h1.facts
  rw [PyData.canLay0, h2, Bool.true_and]
  apply decide_eq_true
  simp only [PyData.depth]; omega
end
end
section
variable {H : Hp} {v : V} {d : PyData}
theorem Wv.eqs' (x : Wv H v d) (z : Str) : PyData.eqv (.str z) d = decide (v = .str z) := by
  cases x with
  | str y h s => rw [PyData.eqv, Bool.eq_iff_iff]; simp; exact eq_comm
  | non => rfl
  | bl b => rfl
  | int i _ => rfl
  | lst _ _ h => rfl
  | tup _ _ h => rfl
theorem Wv.shd (x : Wv H v d) : SeqAt.shaped d = true := by
  unfold SeqAt.shaped
  rw [x.lay, Bool.true_and]
  have := x.sh.dp
  exact decide_eq_true (by omega)
end
/-- x in (a, b, ..), data of any depth -/
def rInDT (K : PySem.W.Frag) : R2 := fun x y H Q => ∃ d ds, Dp K H x d ∧ Dp K H y (.tuple ds) ∧ SeqAt.shaped d = true ∧ SeqAt.shaped (.tuple ds) = true ∧ Q (.bl (ds.any fun z => PyData.eqv z d)) H
def rNotInDT (K : PySem.W.Frag) : R2 := fun x y H Q => ∃ d ds, Dp K H x d ∧ Dp K H y (.tuple ds) ∧ SeqAt.shaped d = true ∧ SeqAt.shaped (.tuple ds) = true ∧ Q (.bl (!ds.any fun z => PyData.eqv z d)) H
theorem op_inDT {X : Cx} (hu : X.A.units + 65 < cLine) : OpR X (compareOp .In) (rInDT X.K) := by
  rintro pins s σ H x y v u Q I rx ry ⟨d, ds, hd, he, sd, se, q⟩
  obtain ⟨as, r1⟩ := Dp.reads I d x v hd rx
  obtain ⟨bs, r2⟩ := Dp.reads I (.tuple ds) y u he ry
  exact SeqAt.in_tuple_reads r2 r1 (SeqAt.canLay_of_shaped se) (SeqAt.canLay_of_shaped sd) (room_in_shaped sd hu) ⟨.bl _, H, I, rfl, q⟩
theorem op_notInDT {X : Cx} (hu : X.A.units + 65 < cLine) : OpR X (compareOp .NotIn) (rNotInDT X.K) := by
  rintro pins s σ H x y v u Q I rx ry ⟨d, ds, hd, he, sd, se, q⟩
  obtain ⟨as, r1⟩ := Dp.reads I d x v hd rx
  obtain ⟨bs, r2⟩ := Dp.reads I (.tuple ds) y u he ry
  exact SeqAt.notIn_tuple_reads r2 r1 (SeqAt.canLay_of_shaped se) (SeqAt.canLay_of_shaped sd) (room_in_shaped sd hu) ⟨.bl _, H, I, rfl, q⟩
end Aq
/-! own operators: o[i], o + xs -/
namespace Aq
open PySem PySem.Spec PyProof.Rows L2 Evl
/-- a method that may raise, with what a subscript asks of it -/
structure Sub1 (K : PySem.W.Frag) (f : Addr) : Prop where
  fn : PySem.W.fnIn K f = true
/-- readings: what leaves the method is wished by W -/
def tIxW (C : Addr) (sp : Sp) (W : WX) (ta tb : TE) : TE := fun σ H Q => ta σ H fun x H1 => tb σ H1 fun y H2 => ∃ p dx fs, x = .ref p ∧ H2 p = some (.ins C dx fs) ∧ sp [x, y] H2 Q fun cls d H' => W cls d σ H'
section
variable {X : Cx} {k j : Nat} {C : Addr} {ps : List Str} {sp : Sp} {W : WX} {o i : Expr} {ta tb : TE} {pos : Pos}
theorem runA1 {pins : List (Addr × Obj)} {σ : L2.St} {H : Hp} {s : Shared} {Q : VK} {us : List Value} {vs : List V} {f : Addr} {fd : FuncData} {E : XK} (F : FnOk X.prog X.w X.K X.mg X.base (L2.CX X.prog X.w) k f fd ps sp) (hr : Room (k + 1) X.A) (b : Binds X.K fd ps []) (hx : PassAt X σ E) (I : Inv X pins σ H s) (r : Vals vs us) (h : sp vs H Q E) :
    wpAny (model X.prog X.w) X.A.in1 (call (.ref f) us) (EP X pins σ Q) X.xe s := by
  have e := I.env0
  have e0 : Env0 X.prog X.w X.K X.mg X.base X.A.in1 X.stack s H := ⟨e.frames, e.mod, e.bs, e.bsz, e.funs, e.frf, e.hok, e.bare⟩
  have hl := r.length.symm.trans (F.len _ _ _ _ h)
  have hb := b s us I.kIn (by simpa using hl)
  rw [List.append_nil] at hb
  refine wpAny_call (codeAny_mono (F.run X.A.in1 X.stack s H ⟨us, []⟩ us vs Q E hr.in1 e0 hb r h) fun out s' hq => ?_)
  match out, hq with
  | .error e, hq => exact hx pins H s e s' I hq
  | .ok (.ret u), hq => exact I.after hq
  | .ok .next, hq => exact hq.elim
  | .ok .brk, hq => exact hq.elim
  | .ok .cont, hq => exact hq.elim
theorem pe_ixOwnX (c : MthX X.prog X.w X.K X.mg X.base k C "__getitem__" ps sp) (s1 : ∀ f, Meth X.K C "__getitem__" f → PySem.W.fnIn X.K f = true) (hr : Room j X.A) (tk : Takes X W) (ho : PE X o ta) (hi : PE X i tb) (hk : k + 1 ≤ j := by decide)
    (hs : ∀ v u, subscripted i true v u = runValue (.builtin "lifetime.subscript" ⟨[v, u], []⟩) := by intros; rfl) : PE X (.Subscript o i pos) (tIxW C sp W ta tb) := by
  obtain ⟨f, fd, M, F, b⟩ := c.ex
  constructor
  intro pins s σ H Q I h
  refine Subscript_ (binT ho hi I h fun v u s2 x y H2 I2 rx ry q => ?_)
  obtain ⟨p, dx, fs, rfl, hp, q⟩ := q
  cases rx
  obtain ⟨mA, J, _⟩ := ins_get I2.hok hp
  obtain ⟨od, J, _⟩ := J.look
  obtain ⟨m, hF⟩ := I2.fr
  exact PySem.W.sub_K hF I2.ok.mod.kin J M.at_ (s1 f M) M.fn (runA1 F (hr.mono hk) b (passAt tk) I2 (show Vals [V.ref p, y] [Value.ref p, u] from .cons rfl (.cons ry .nil)) q) (hs _ _)
end
/-! ### o + xs by an own __add__ -/
/-- what + asks of the class C and of the built-in type T on the right -/
structure AddC (K : PySem.W.Frag) (C : Addr) (T : String) : Prop where
  sf : PySem.W.selfFirst K C = true
  rr : PySem.W.findIn K (.ref C) "__radd__" = some none
  tt : ∃ fo ro, PySem.W.findIn K (.type T) "__add__" = some fo ∧ PySem.W.findIn K (.type T) "__radd__" = some ro
  sb : PySem.W.subIn K (.type T) (.ref C) = some false
section
open PySem.W
variable {prog : Program} {w : World} {A : Around} {E : Value → Shared → Prop} {s : Shared} {K : Frag} {x C f : Addr} {ox : Obj} {od : Option Obj} {T : String}
theorem add_seq {b : Value} {Q : Value → Shared → Prop} (X : K.In s.heap) (I : InstAt s.heap x ox C od) (hb : Looks (model prog w) s.heap (typeOf b) (.type T)) (c : AddC K C T) (hs : findIn K (.ref C) "__add__" = some (some (.ref f))) (hf : isFn K (.ref f) = true)
    (run : wpAny (model prog w) A (call (.ref f) [.ref x, b]) (PySem.W.CmpBack Q) E s) : wpAny (model prog w) A (binaryOp .Add (.ref x) b) Q E s := by
  obtain ⟨cd, rest, hcd, hm⟩ := ksp_first c.sf
  obtain ⟨fo, ro, t1, t2⟩ := c.tt
  have tried := ksp_try X I hs hf run
  obtain ⟨hp, gn, dd, tk, os⟩ := s
  have q1 : Looks (model prog w) hp (typeOf (.ref x)) (.ref C) := I.type
  have q2 : Looks (model prog w) hp (typeOf b) (.type T) := hb
  have q3 : Looks (model prog w) hp (fillsNumberSlot (.ref C) "add") true := fills_K (nm := "add") X hcd hm hs
  have q4 := ksp_fillsT (M := model prog w) (nm := "add") X t1 t2
  have q5 : Looks (model prog w) hp (isSubtype (.type T) (.ref C)) false := looks_subIn X c.sb
  have q6 : Looks (model prog w) hp (numberSlotInPython (.ref C) "add") true := ksp_inPy (nm := "add") X hs c.rr (.inl rfl)
  have q7 : Looks (model prog w) hp (numberSlotInPython (.type T) "add") false := Looks.of_pure rfl
  have q8 : Looks (model prog w) hp (typeLookup (.type T) (dunderR "add")) ro := looks_findIn X t2
  have ne : (Value.ref C == Value.type T) = false := rfl
  generalize ((fo.isSome && !isSeqSlot fo) || (ro.isSome && !isSeqSlot ro)) = right at q4
  have hi : Operator.Add.info = ("+", "add") := rfl
  simp only [binaryOp, hi]
  refine wpAny_holding (wpAny_bind ?_)
  unfold binaryOp1
  refine wpAny_bind (q1.at (wpAny_bind (q2.at (wpAny_bind (q3.at ?_)))))
  simp only [ne, Bool.false_eq_true, if_false]
  cases right
  all_goals
    ksp_lk
    refine wpAny_mono tried (fun r s' z => ?_) fun _ _ e => e
    obtain ⟨v, rfl, hq⟩ := z
    ksp_lk
    exact hq
end
theorem looks_ty {M : Model} {h : Heap} {b : Addr} {T : String} (z : ∃ o, h.get? b = some o ∧ o.cls = .type T) : PySem.W.Looks M h (typeOf (.ref b)) (.type T) := let ⟨_, h1, h2⟩ := z; h2 ▸ (PySem.W.Looks.ld h1).andThen .now
/-- o + xs: xs a list or a tuple of the abstract heap -/
def rAddOwn (K : PySem.W.Frag) (C : Addr) (sp : Sp) : R2 := fun x y H Q => ∃ p dx fs q, x = .ref p ∧ H p = some (.ins C dx fs) ∧ y = .ref q ∧ ((∃ xs, H q = some (.lst xs) ∧ AddC K C "list") ∨ (∃ xs, H q = some (.tup xs) ∧ AddC K C "tuple")) ∧ sp [x, y] H (fun v H' => (∃ b, v = .ref b) ∧ Q v H') E0
theorem op_addOwn {X : Cx} {k j : Nat} {C : Addr} {ps : List Str} {sp : Sp} (c : MthX X.prog X.w X.K X.mg X.base k C "__add__" ps sp) (hr : Room j X.A) (hk : k ≤ j := by decide) : OpR X (binaryOp .Add) (rAddOwn X.K C sp) := by
  intro pins s σ H x y u v Q I rx ry h
  obtain ⟨f, fd, M, F, b⟩ := c.ex
  obtain ⟨p, dx, fs, q, rfl, hp, rfl, hq, h⟩ := h
  cases rx
  cases ry
  obtain ⟨mA, J, _⟩ := ins_get I.hok hp
  obtain ⟨od, J, _⟩ := J.look
  have r2 : Vals [V.ref p, V.ref q] [Value.ref p, Value.ref q] := .cons rfl (.cons rfl .nil)
  have run : wpAny (model X.prog X.w) X.A (call (.ref f) [Value.ref p, Value.ref q]) (PySem.W.CmpBack (EP X pins σ Q)) X.xe s := by
    refine wpAny_mono (runA (E := E0) F (hr.mono hk) b .nil (fun pins H s e s' I z => passX0 pins σ H s e s' I z) I r2 (by rw [List.append_nil]; exact h)) (fun v s' z => ?_) fun _ _ e => e
    obtain ⟨z, H', I', rz, ⟨b', rfl⟩, q⟩ := z
    cases rz
    exact ⟨V.ref b', H', I', rfl, q⟩
  rcases hq with ⟨xs, hq, ac⟩ | ⟨xs, hq, ac⟩
  · obtain ⟨its, _, pl, _⟩ := I.list (sq_of hq)
    exact add_seq I.kIn J (looks_ty pl.isList.typeIs) ac M.at_ M.fn run
  · obtain ⟨its, _, pl, _⟩ := I.tuple (st_of hq)
    exact add_seq I.kIn J (looks_ty pl.typeIs) ac M.at_ M.fn run
/-! ### readings -/
theorem rd_makeN {C : Addr} {n m : Nat} {sp : Sp} {gV : List V → List V → List V} {E : XK} {t tk : TA} {σ : L2.St} {H : Hp} {Q : VK} (h : t σ H fun vs H1 => tk σ H1 fun zs H2 => vs.length = n ∧ zs.length = m ∧
  ∀ x dx, H2 x = none → H2 dx = none → dx ≠ x → sp (gV (.ref x :: vs) zs) (upd (upd H2 dx (.own x)) x (.ins C dx [])) (fun v H3 => v = .non ∧ Q (.ref x) H3) E) : tMakeN C n m sp gV E t tk σ H Q := h
theorem rd_ixW {C : Addr} {sp : Sp} {W : WX} {ta tb : TE} {σ : L2.St} {H : Hp} {Q : VK} (h : ta σ H fun x H1 => tb σ H1 fun y H2 => ∃ p dx fs, x = .ref p ∧ H2 p = some (.ins C dx fs) ∧ sp [x, y] H2 Q fun cls d H' => W cls d σ H') : tIxW C sp W ta tb σ H Q := h
/-! ### runs by place and by size -/
def sumL (rs : List (Str × Int)) : Int := (rs.map (·.2)).sum
theorem sumL_nil : sumL [] = 0 := rfl
theorem sumL_cons (r : Str × Int) (t : List (Str × Int)) : sumL (r :: t) = r.2 + sumL t := by simp [sumL]
theorem sumL_app (x y : List (Str × Int)) : sumL (x ++ y) = sumL x + sumL y := by simp [sumL]
def atR : List (Str × Int) → Int → Option Str
  | [], _ => none
  | r :: t, l => if l < r.2 then some r.1 else atR t (l - r.2)
def takeR : List (Str × Int) → Int → List (Str × Int)
  | [], _ => []
  | r :: t, l => if 0 < l then (r.1, min l r.2) :: takeR t (l - r.2) else takeR t (l - r.2)
theorem takeR_app : ∀ (x y : List (Str × Int)) (l : Int), takeR (x ++ y) l = takeR x l ++ takeR y (l - sumL x)
  | [], y, l => by simp [takeR, sumL_nil]
  | r :: t, y, l => by
    have e : l - r.2 - sumL t = l - (r.2 + sumL t) := by omega
    simp only [List.cons_append, takeR, sumL_cons, takeR_app t y (l - r.2), e]
    split <;> rfl
theorem takeR_snoc (x : List (Str × Int)) (r : Str × Int) (l : Int) : takeR (x ++ [r]) l = if 0 < l - sumL x then takeR x l ++ [(r.1, min (l - sumL x) r.2)] else takeR x l := by
  rw [takeR_app]
  simp only [takeR]
  split <;> simp
theorem takeR_mem {C : Str → Prop} : ∀ (x : List (Str × Int)) (l : Int), (∀ r ∈ x, C r.1) → ∀ r ∈ takeR x l, C r.1
  | [], _, _, r, h => by cases h
  | s :: t, l, hx, r, h => by
    simp only [takeR] at h
    have ih := takeR_mem t (l - s.2) fun y hy => hx y (List.mem_cons_of_mem _ hy)
    split at h
    · rcases List.mem_cons.mp h with q | q
      · rw [q]; exact hx s (List.mem_cons_self ..)
      · exact ih r q
    · exact ih r h
theorem takeR_len : ∀ (x : List (Str × Int)) (l : Int), (takeR x l).length ≤ x.length
  | [], _ => Nat.le_refl _
  | s :: t, l => by
    have ih := takeR_len t (l - s.2)
    simp only [takeR]
    split <;> simp <;> omega
/-! ### counts of nought left out; joining -/
def posR (rs : List (Str × Int)) : List (Str × Int) := rs.filter fun r => decide (0 < r.2)
theorem posR_snoc (x : List (Str × Int)) (z : Str) (n : Int) : posR (x ++ [(z, n)]) = if 0 < n then posR x ++ [(z, n)] else posR x := by
  unfold posR
  rw [List.filter_append]
  split
  · rename_i h; rw [List.filter_cons_of_pos (by simpa using h), List.filter_nil]
  · rename_i h; rw [List.filter_cons_of_neg (by simpa using h), List.filter_nil, List.append_nil]
theorem posR_len (x : List (Str × Int)) : (posR x).length ≤ x.length := List.length_filter_le _ _
theorem posR_id {x : List (Str × Int)} (h : ∀ r ∈ x, 1 ≤ r.2) : posR x = x := by
  unfold posR
  rw [List.filter_eq_self]
  intro r hr
  have := h r hr
  exact decide_eq_true (by omega)
theorem posR_pos {x : List (Str × Int)} {r : Str × Int} (h : r ∈ posR x) : r ∈ x ∧ 1 ≤ r.2 := by
  obtain ⟨h1, h2⟩ := List.mem_filter.mp h
  have := of_decide_eq_true h2
  exact ⟨h1, by omega⟩
theorem step_same (acc : List (Str × Int)) (z : Str) (n m : Int) : joinStep (joinStep acc (z, n)) (z, m) = joinStep acc (z, n + m) := by
  rcases List.eq_nil_or_concat acc with rfl | ⟨b, s, rfl⟩
  · have := joinStep_snoc [] (z, n) (z, m)
    simp only [List.nil_append] at this
    rw [joinStep_nil, joinStep_nil, this]
    simp
  · rw [List.concat_eq_append, joinStep_snoc, joinStep_snoc]
    by_cases h : s.1 = z
    · rw [if_pos h, if_pos h, joinStep_snoc, if_pos rfl]
      simp only [Int.add_assoc]
    · rw [if_neg h, if_neg h, joinStep_snoc, if_pos rfl]
theorem fold_step (acc b : List (Str × Int)) (r : Str × Int) : (joinStep b r).foldl joinStep acc = joinStep (b.foldl joinStep acc) r := by
  rcases List.eq_nil_or_concat b with rfl | ⟨c, s, rfl⟩
  · rfl
  · rw [List.concat_eq_append, joinStep_snoc, List.foldl_append]
    obtain ⟨z, n⟩ := s
    obtain ⟨y, m⟩ := r
    by_cases h : z = y
    · subst h
      rw [if_pos rfl, List.foldl_append]
      show joinStep (c.foldl joinStep acc) (z, n + m) = joinStep (joinStep (c.foldl joinStep acc) (z, n)) (z, m)
      rw [step_same]
    · rw [if_neg h, List.foldl_append, List.foldl_append]
      rfl
theorem fold_join : ∀ (b acc : List (Str × Int)), (joinR b).foldl joinStep acc = b.foldl joinStep acc := by
  intro b acc
  have gen : ∀ (b c : List (Str × Int)), (b.foldl joinStep c).foldl joinStep acc = b.foldl joinStep (c.foldl joinStep acc) := by
    intro b
    induction b with
    | nil => intro c; rfl
    | cons r t ih =>
      intro c
      rw [List.foldl_cons, ih, fold_step, List.foldl_cons]
  exact gen b []
theorem join_join (b : List (Str × Int)) : joinR (joinR b) = joinR b := fold_join b []
theorem join_app (x y : List (Str × Int)) : joinR (joinR x ++ joinR y) = joinR (x ++ y) := by
  unfold joinR
  rw [List.foldl_append, List.foldl_append]
  have h1 := fold_join x []
  have h2 := fold_join y
  unfold joinR at h1 h2
  rw [h1, h2]
theorem sum_step (acc : List (Str × Int)) (r : Str × Int) : sumL (joinStep acc r) = sumL acc + r.2 := by
  rcases List.eq_nil_or_concat acc with rfl | ⟨b, s, rfl⟩
  · rw [joinStep_nil, sumL_cons, sumL_nil]; omega
  · rw [List.concat_eq_append, joinStep_snoc]
    split
    · simp only [sumL_app, sumL_cons, sumL_nil]; omega
    · simp only [sumL_app, sumL_cons, sumL_nil]; omega
theorem sum_join (rs : List (Str × Int)) : sumL (joinR rs) = sumL rs := by
  have : ∀ (rs acc : List (Str × Int)), sumL (rs.foldl joinStep acc) = sumL acc + sumL rs := by
    intro rs
    induction rs with
    | nil => intro acc; rw [List.foldl_nil, sumL_nil]; omega
    | cons r t ih => intro acc; rw [List.foldl_cons, ih, sum_step, sumL_cons]; omega
  have h := this rs []
  rw [sumL_nil] at h
  unfold joinR
  omega
theorem step_pos {acc : List (Str × Int)} {r : Str × Int} (h : ∀ x ∈ acc, 1 ≤ x.2) (hr : 1 ≤ r.2) : ∀ x ∈ joinStep acc r, 1 ≤ x.2 := by
  intro x hx
  rcases List.eq_nil_or_concat acc with rfl | ⟨b, s, rfl⟩
  · rw [joinStep_nil, List.mem_singleton] at hx; rw [hx]; exact hr
  · rw [List.concat_eq_append] at h
    rw [List.concat_eq_append, joinStep_snoc] at hx
    have hs := h s (by simp)
    split at hx
    · rcases List.mem_append.mp hx with q | q
      · exact h x (by simp [q])
      · rw [List.mem_singleton] at q; rw [q]; show 1 ≤ s.2 + r.2; omega
    · rcases List.mem_append.mp hx with q | q
      · exact h x q
      · rw [List.mem_singleton] at q; rw [q]; exact hr
theorem join_pos {rs : List (Str × Int)} (h : ∀ x ∈ rs, 1 ≤ x.2) : ∀ x ∈ joinR rs, 1 ≤ x.2 := by
  have : ∀ (rs acc : List (Str × Int)), (∀ x ∈ rs, 1 ≤ x.2) → (∀ x ∈ acc, 1 ≤ x.2) → ∀ x ∈ rs.foldl joinStep acc, 1 ≤ x.2 := by
    intro rs
    induction rs with
    | nil => intro acc _ h; exact h
    | cons r t ih => intro acc h1 h2; exact ih _ (fun x hx => h1 x (List.mem_cons_of_mem _ hx)) (step_pos h2 (h1 r (List.mem_cons_self ..)))
  exact this rs [] h (by simp)
/-! ### the law's cut -/
def cutA : List (Str × Int) → Int → List (Str × Int)
  | [], _ => []
  | r :: t, l => (r.1, max 0 (min l r.2)) :: cutA t (l - max 0 (min l r.2))
def cutB : List (Str × Int) → Int → List (Str × Int)
  | [], _ => []
  | r :: t, l => (r.1, r.2 - max 0 (min l r.2)) :: cutB t (l - max 0 (min l r.2))
theorem cutA_nought : ∀ (x : List (Str × Int)), (∀ r ∈ x, 1 ≤ r.2) → posR (cutA x 0) = []
  | [], _ => rfl
  | r :: t, h => by
    have h1 := h r (List.mem_cons_self ..)
    have e : max 0 (min 0 r.2) = 0 := by omega
    simp only [cutA, e]
    unfold posR
    rw [List.filter_cons_of_neg (by simp)]
    exact cutA_nought t fun x hx => h x (List.mem_cons_of_mem _ hx)
theorem takeR_nought : ∀ (x : List (Str × Int)) (l : Int), (∀ r ∈ x, 1 ≤ r.2) → l ≤ 0 → takeR x l = []
  | [], _, _, _ => rfl
  | r :: t, l, h, hl => by
    have h1 := h r (List.mem_cons_self ..)
    simp only [takeR]
    rw [if_neg (by omega)]
    exact takeR_nought t _ (fun x hx => h x (List.mem_cons_of_mem _ hx)) (by omega)
theorem cutA_take : ∀ (x : List (Str × Int)) (l : Int), (∀ r ∈ x, 1 ≤ r.2) → 0 ≤ l → posR (cutA x l) = takeR x l
  | [], _, _, _ => rfl
  | r :: t, l, h, hl => by
    have h1 := h r (List.mem_cons_self ..)
    have ht : ∀ x ∈ t, 1 ≤ x.2 := fun x hx => h x (List.mem_cons_of_mem _ hx)
    by_cases h0 : 0 < l
    · have e : max 0 (min l r.2) = min l r.2 := by omega
      simp only [cutA, takeR, e]
      rw [if_pos h0]
      unfold posR
      rw [List.filter_cons_of_pos (by simp; omega)]
      congr 1
      by_cases hn : r.2 ≤ l
      · rw [show l - min l r.2 = l - r.2 by omega]
        exact cutA_take t _ ht (by omega)
      · rw [show l - min l r.2 = 0 by omega, takeR_nought t _ ht (by omega)]
        exact cutA_nought t ht
    · have l0 : l = 0 := by omega
      subst l0
      rw [takeR_nought _ _ h (by omega)]
      exact cutA_nought _ h
theorem cutB_nought : ∀ (x : List (Str × Int)), (∀ r ∈ x, 1 ≤ r.2) → posR (cutB x 0) = x
  | [], _ => rfl
  | r :: t, h => by
    have h1 := h r (List.mem_cons_self ..)
    have e : max 0 (min 0 r.2) = 0 := by omega
    simp only [cutB, e]
    unfold posR
    rw [List.filter_cons_of_pos (by simp; omega), Int.sub_zero]
    congr 1
    exact cutB_nought t fun x hx => h x (List.mem_cons_of_mem _ hx)
theorem cut_fold : ∀ (x : List (Str × Int)) (l : Int) (acc : List (Str × Int)), (∀ r ∈ x, 1 ≤ r.2) → 0 ≤ l → (takeR x l ++ posR (cutB x l)).foldl joinStep acc = x.foldl joinStep acc
  | [], _, _, _, _ => rfl
  | r :: t, l, acc, h, hl => by
    have h1 := h r (List.mem_cons_self ..)
    have ht : ∀ x ∈ t, 1 ≤ x.2 := fun x hx => h x (List.mem_cons_of_mem _ hx)
    obtain ⟨z, n⟩ := r
    have h1 : 1 ≤ n := h1
    by_cases h0 : 0 < l
    · have e : max 0 (min l n) = min l n := by omega
      simp only [cutB, takeR, e]
      rw [if_pos h0]
      by_cases hn : n ≤ l
      · have e1 : posR ((z, n - min l n) :: cutB t (l - min l n)) = posR (cutB t (l - n)) := by
          rw [show l - min l n = l - n by omega]
          unfold posR
          rw [List.filter_cons_of_neg (by simp; omega)]
        rw [e1, show min l n = n by omega]
        show (takeR t (l - n) ++ posR (cutB t (l - n))).foldl joinStep (joinStep acc (z, n)) = _
        rw [cut_fold t (l - n) _ ht (by omega)]
        rfl
      · have e1 : posR ((z, n - min l n) :: cutB t (l - min l n)) = (z, n - l) :: t := by
          rw [show l - min l n = 0 by omega, show n - min l n = n - l by omega]
          have := cutB_nought t ht
          unfold posR at this ⊢
          rw [List.filter_cons_of_pos (by simp; omega), this]
        rw [e1, takeR_nought t _ ht (by omega), show min l n = l by omega]
        show t.foldl joinStep (joinStep (joinStep acc (z, l)) (z, n - l)) = t.foldl joinStep (joinStep acc (z, n))
        rw [step_same, show l + (n - l) = n by omega]
    · have l0 : l = 0 := by omega
      subst l0
      rw [takeR_nought _ _ h (by omega), cutB_nought _ h]
      rfl
theorem take_sum : ∀ (x : List (Str × Int)) (l : Int), (∀ r ∈ x, 1 ≤ r.2) → 0 ≤ l → l ≤ sumL x → sumL (takeR x l) = l
  | [], l, _, h0, h1 => by rw [sumL_nil] at h1; simp only [takeR, sumL_nil]; omega
  | r :: t, l, h, h0, hl => by
    have h1 := h r (List.mem_cons_self ..)
    have ht : ∀ x ∈ t, 1 ≤ x.2 := fun x hx => h x (List.mem_cons_of_mem _ hx)
    rw [sumL_cons] at hl
    simp only [takeR]
    by_cases hp : 0 < l
    · rw [if_pos hp, sumL_cons]
      by_cases hn : r.2 ≤ l
      · rw [take_sum t _ ht (by omega) (by omega)]
        show min l r.2 + _ = l
        omega
      · rw [takeR_nought t _ ht (by omega), sumL_nil]
        show min l r.2 + 0 = l
        omega
    · rw [if_neg hp, takeR_nought t _ ht (by omega), sumL_nil]; omega
theorem take_all : ∀ (x : List (Str × Int)), (∀ r ∈ x, 1 ≤ r.2) → takeR x (sumL x) = x
  | [], _ => rfl
  | r :: t, h => by
    have h1 := h r (List.mem_cons_self ..)
    have ht : ∀ x ∈ t, 1 ≤ x.2 := fun x hx => h x (List.mem_cons_of_mem _ hx)
    have hs : ∀ (y : List (Str × Int)), (∀ r ∈ y, 1 ≤ r.2) → 0 ≤ sumL y := by
      intro y
      induction y with
      | nil => intro _; rw [sumL_nil]; omega
      | cons s u ih => intro g; rw [sumL_cons]; have := ih fun x hx => g x (List.mem_cons_of_mem _ hx); have := g s (List.mem_cons_self ..); omega
    have := hs t ht
    simp only [takeR, sumL_cons]
    rw [if_pos (by omega), show r.2 + sumL t - r.2 = sumL t by omega, take_all t ht, show min (r.2 + sumL t) r.2 = r.2 by omega]
theorem cutA_app : ∀ (x y : List (Str × Int)) (l : Int), cutA (x ++ y) l = cutA x l ++ cutA y (l - sumL (cutA x l))
  | [], y, l => by simp [cutA, sumL_nil]
  | r :: t, y, l => by
    simp only [List.cons_append, cutA, sumL_cons, cutA_app t y]
    rw [show l - max 0 (min l r.2) - sumL (cutA t (l - max 0 (min l r.2))) = l - (max 0 (min l r.2) + sumL (cutA t (l - max 0 (min l r.2)))) by omega]
theorem cutB_app : ∀ (x y : List (Str × Int)) (l : Int), cutB (x ++ y) l = cutB x l ++ cutB y (l - sumL (cutA x l))
  | [], y, l => by simp [cutA, cutB, sumL_nil]
  | r :: t, y, l => by
    simp only [List.cons_append, cutA, cutB, sumL_cons, cutB_app t y]
    rw [show l - max 0 (min l r.2) - sumL (cutA t (l - max 0 (min l r.2))) = l - (max 0 (min l r.2) + sumL (cutA t (l - max 0 (min l r.2)))) by omega]
theorem cutA_len : ∀ (x : List (Str × Int)) (l : Int), (cutA x l).length = x.length
  | [], _ => rfl
  | r :: t, l => by simp [cutA, cutA_len t]
theorem cutB_len : ∀ (x : List (Str × Int)) (l : Int), (cutB x l).length = x.length
  | [], _ => rfl
  | r :: t, l => by simp [cutB, cutB_len t]
theorem cutA_mem {C : Str → Prop} : ∀ (x : List (Str × Int)) (l : Int), (∀ r ∈ x, C r.1) → ∀ r ∈ cutA x l, C r.1
  | [], _, _, r, h => by cases h
  | s :: t, l, hx, r, h => by
    simp only [cutA] at h
    rcases List.mem_cons.mp h with q | q
    · rw [q]; exact hx s (List.mem_cons_self ..)
    · exact cutA_mem t _ (fun y hy => hx y (List.mem_cons_of_mem _ hy)) r q
theorem cutB_mem {C : Str → Prop} : ∀ (x : List (Str × Int)) (l : Int), (∀ r ∈ x, C r.1) → ∀ r ∈ cutB x l, C r.1
  | [], _, _, r, h => by cases h
  | s :: t, l, hx, r, h => by
    simp only [cutB] at h
    rcases List.mem_cons.mp h with q | q
    · rw [q]; exact hx s (List.mem_cons_self ..)
    · exact cutB_mem t _ (fun y hy => hx y (List.mem_cons_of_mem _ hy)) r q
def lawAt : List (Str × Int) → Int → Option Str
  | [], _ => none
  | r :: t, l => if 0 ≤ l ∧ l < r.2 then some r.1 else lawAt t (l - r.2)
theorem lawAt_neg : ∀ (x : List (Str × Int)) (l : Int), (∀ r ∈ x, 1 ≤ r.2) → l < 0 → lawAt x l = none
  | [], _, _, _ => rfl
  | r :: t, l, h, hl => by
    have h1 := h r (List.mem_cons_self ..)
    simp only [lawAt]
    rw [if_neg (by omega)]
    exact lawAt_neg t _ (fun x hx => h x (List.mem_cons_of_mem _ hx)) (by omega)
theorem lawAt_pos : ∀ (x : List (Str × Int)) (l : Int), 0 ≤ l → lawAt x l = atR x l
  | [], _, _ => rfl
  | r :: t, l, hl => by
    simp only [lawAt, atR]
    by_cases h : l < r.2
    · rw [if_pos ⟨hl, h⟩, if_pos h]
    · rw [if_neg (fun q => h q.2), if_neg h]
      exact lawAt_pos t _ (by omega)
def optV : Option Str → V
  | some z => .str z
  | none => .non
end Aq
/-! unpacking a list or a tuple; runs given as lists or tuples -/
namespace Aq
open PySem PySem.Spec PyProof.Rows L2 Evl
def gSq (K : PySem.W.Frag) (n : Nat) (t : TGs) : TG := fun v σ H Q => ∃ a xs, v = .ref a ∧ (SqT K H a xs ∨ SqL K H a xs) ∧ xs.length = n ∧ t xs σ H Q
theorem pg_sqK {X : Cx} {K : PySem.W.Frag} {es : List Expr} {k n : Nat} {t : TGs} {pos : Pos} (hc : X.calm = true) (h : PGs X es t) (hn : (assignEach es X.env).length = n := by rfl) (hst : (assignEach es X.env).findIdx? (·.1) = none := by rfl) (hK : X.K = K := by rfl) : PG X (.Tuple es k pos) (gSq K n t) := by
  subst hK
  refine ⟨fun pins s σ H v u Q I r hw => ?_⟩
  obtain ⟨b, xs, e1, hq, hl, hw⟩ := hw
  rcases hq with hq | hq
  · exact (pg_tup hc h hn hst).run pins s σ H v u Q I r ⟨b, xs, e1, hq, hl, hw⟩
  · exact (pg_lst hc h hn hst).run pins s σ H v u Q I r ⟨b, xs, e1, hq, hl, hw⟩
theorem gS2 {K : PySem.W.Frag} {n i j : Nat} {p : Addr} {x y : V} {σ : L2.St} {H : Hp} {R : L2.St → Hp → Prop} (hn : 2 = n) (h : SqT K H p [x, y] ∨ SqL K H p [x, y]) (q : R ((σ.set i (some x)).set j (some y)) H) : gSq K n (gCons (gName i) (gCons (gName j) gNil)) (.ref p) σ H R :=
  ⟨p, [x, y], rfl, h, hn, x, [y], rfl, y, [], rfl, rfl, q⟩
section
variable {K : PySem.W.Frag} {H H' : Hp}
/-- pairs, each a list or a tuple -/
inductive PS (K : PySem.W.Frag) (H : Hp) : List V → List (Str × Int) → Prop
  | nil : PS K H [] []
  | cons {p : Addr} {z : Str} {n : Int} {vs : List V} {rs : List (Str × Int)} (h : SqT K H p [.str z, .int n] ∨ SqL K H p [.str z, .int n]) (t : PS K H vs rs) : PS K H (.ref p :: vs) ((z, n) :: rs)
theorem sql_ex {p : Addr} {xs : List V} (h : SqL K H p xs) (e : Ex H H') : SqL K H' p xs := h.imp (fun h => h.imp (fun h => e _ _ h) (fun ⟨o, h⟩ => ⟨o, e _ _ h⟩)) id
theorem PS.ex {vs : List V} {rs : List (Str × Int)} (h : PS K H vs rs) (e : Ex H H') : PS K H' vs rs := by
  induction h with
  | nil => exact .nil
  | cons h _ ih => exact .cons (h.imp (fun h => sqt_kt h (.of e)) (fun h => sql_ex h e)) ih
theorem PS.app {vs ws : List V} {rs ts : List (Str × Int)} (h : PS K H vs rs) (k : PS K H ws ts) : PS K H (vs ++ ws) (rs ++ ts) := by
  induction h with
  | nil => exact k
  | cons h _ ih => exact .cons h ih
theorem PS.len {vs : List V} {rs : List (Str × Int)} (h : PS K H vs rs) : vs.length = rs.length := by
  induction h with
  | nil => rfl
  | cons _ _ ih => simp [ih]
theorem PS.get {vs : List V} {rs : List (Str × Int)} (h : PS K H vs rs) : ∀ {i : Nat} {v : V}, vs[i]? = some v → ∃ r p, rs[i]? = some r ∧ v = .ref p ∧ (SqT K H p [.str r.1, .int r.2] ∨ SqL K H p [.str r.1, .int r.2]) := by
  induction h with
  | nil => intro i v e; simp at e
  | @cons p z n vs rs h _ ih =>
    intro i v e
    cases i with
    | zero => simp at e; subst e; exact ⟨(z, n), p, rfl, rfl, h⟩
    | succ i => simpa using ih (by simpa using e)
theorem PR.ps : ∀ {vs : List V} {rs : List (Str × Int)}, PR K H vs rs → PS K H vs rs
  | [], [], _ => .nil
  | [], _ :: _, h => by cases h
  | v :: vs, rs, h => by
    obtain ⟨r, t, rfl, h1, h2⟩ := h.inv
    obtain ⟨p, rfl, s⟩ := pr_inv h1
    exact .cons (.inl s) (PR.ps h2)
end
section
variable {K : PySem.W.Frag} {H H' : Hp}
/-- pairs, each a made tuple -/
inductive PT (H : Hp) : List V → List (Str × Int) → Prop
  | nil : PT H [] []
  | cons {p : Addr} {z : Str} {n : Int} {vs : List V} {rs : List (Str × Int)} (h : H p = some (.tup [.str z, .int n])) (t : PT H vs rs) : PT H (.ref p :: vs) ((z, n) :: rs)
theorem PT.kt {vs : List V} {rs : List (Str × Int)} (h : PT H vs rs) (k : Kt H H') : PT H' vs rs := by
  induction h with
  | nil => exact .nil
  | cons h _ ih => exact .cons ((k _).1 _ h) ih
theorem PT.ex {vs : List V} {rs : List (Str × Int)} (h : PT H vs rs) (e : Ex H H') : PT H' vs rs := h.kt (.of e)
theorem PT.app {vs ws : List V} {rs ts : List (Str × Int)} (h : PT H vs rs) (k : PT H ws ts) : PT H (vs ++ ws) (rs ++ ts) := by
  induction h with
  | nil => exact k
  | cons h _ ih => exact .cons h ih
theorem PT.len {vs : List V} {rs : List (Str × Int)} (h : PT H vs rs) : vs.length = rs.length := by
  induction h with
  | nil => rfl
  | cons _ _ ih => simp [ih]
theorem PT.pr {vs : List V} {rs : List (Str × Int)} (h : PT H vs rs) : PR K H vs rs := by
  induction h with
  | nil => exact .nil
  | cons h _ ih => exact .cons (pr_one (st_of h)) ih
theorem PT.get {vs : List V} {rs : List (Str × Int)} (h : PT H vs rs) : ∀ {i : Nat} {v : V}, vs[i]? = some v → ∃ r p, rs[i]? = some r ∧ v = .ref p ∧ H p = some (.tup [.str r.1, .int r.2]) := by
  induction h with
  | nil => intro i v e; simp at e
  | @cons p z n vs rs h _ ih =>
    intro i v e
    cases i with
    | zero => simp at e; subst e; exact ⟨(z, n), p, rfl, rfl, h⟩
    | succ i => simpa using ih (by simpa using e)
theorem PT.snoc {vs : List V} {rs : List (Str × Int)} (h : PT H vs rs) : vs ≠ [] → ∃ ws p ts r, vs = ws ++ [.ref p] ∧ rs = ts ++ [r] ∧ PT H ws ts ∧ H p = some (.tup [.str r.1, .int r.2]) := by
  induction h with
  | nil => intro n; exact absurd rfl n
  | @cons p z n vs rs h t ih =>
    intro _
    cases t with
    | nil => exact ⟨[], p, [], (z, n), rfl, rfl, .nil, h⟩
    | @cons p2 z2 n2 vs2 rs2 h2 t2 =>
      obtain ⟨ws, q, ts, r, e1, e2, h3, h4⟩ := ih (by simp)
      exact ⟨.ref p :: ws, q, (z, n) :: ts, r, by rw [e1]; rfl, by rw [e2]; rfl, .cons h h3, h4⟩
end
theorem call_list_ofK {X : Cx} {K : PySem.W.Frag} (hK : X.K = K := by rfl) : CallR X (.type "list") (fun xs H Q => ∃ p ys, xs = [.ref p] ∧ (SqL K H p ys ∨ SqT K H p ys) ∧ ∀ l, H l = none → Q (.ref l) (upd H l (.lst ys))) := hK ▸ call_list_of
/-! ### own methods without arguments that may raise -/
section
variable {X : Cx} {k j : Nat} {C : Addr} {m : Str} {ps : List Str} {sp : Sp} {o : Expr} {ta : TE} {apos pos : Pos} {W : WX}
theorem pe_meth0X {pl : Sem Bool} (c : MthX X.prog X.w X.K X.mg X.base k C m ps sp) (hr : Room j X.A) (tk : Takes X W) (ho : PE X o ta) (hk : k ≤ j := by decide)
    (ht : eval (.Call (.Attribute o m apos) [] [] pos) X.env = (do
      let ov ← eval o X.env
      standAt apos.atName
      let (f, first) ← holding [ov] (getMethod ov m pl)
      callWith pos f first (backTo pos (starEach [] X.env)) (backToKw pos (keywordEach [] X.env))) := by rfl) : PE X (.Call (.Attribute o m apos) [] [] pos) (tMethW C m sp W ta tNil) := by
  obtain ⟨f, fd, M, F, b⟩ := c.ex
  constructor
  intro pins s σ H Q I h
  refine PySem.W.methodCall_KW (pl := pl) (thn (ho.run pins s σ H _ I h) ?_) ht
  rintro u s1 ⟨x, H1, I1, rx, a, dx, fs, rfl, ea, lk, q⟩
  cases rx
  refine getmeth_ok I1 ea c.cl M lk (PySem.W.callWith_K0 (first := [.ref a]) I1.kIn M.kp ?_)
  exact runA (us := [.ref a]) (vs := [.ref a]) F (hr.mono hk) b .nil (passAt tk) I1 (.cons rfl .nil) q
theorem pe_meth0X0 {pl : Sem Bool} (c : MthX X.prog X.w X.K X.mg X.base k C m ps sp) (hr : Room j X.A) (ho : PE X o ta) (hk : k ≤ j := by decide)
    (ht : eval (.Call (.Attribute o m apos) [] [] pos) X.env = (do
      let ov ← eval o X.env
      standAt apos.atName
      let (f, first) ← holding [ov] (getMethod ov m pl)
      callWith pos f first (backTo pos (starEach [] X.env)) (backToKw pos (keywordEach [] X.env))) := by rfl) : PE X (.Call (.Attribute o m apos) [] [] pos) (tMeth C m sp [] E0 ta tNil) := by
  obtain ⟨f, fd, M, F, b⟩ := c.ex
  exact pe_meth0 ho c.cl M F (hr.mono hk) b .nil passX0 ht
end
/-! ### comprehensions with two clauses -/
section
variable {J J1 : It} {C C1 : Hp → Prop} {n n1 : Nat} {Y Y1 : Nat → V → Hp → Prop} {σ σ2 : L2.St} {H H1 H4 : Hp} {Q : VK} {g g1 : TG} {wi wi1 : TI} {tt tt1 : TT} {te : TE} {vs vs1 : List Nat}
/-- the inner loop -/
theorem lc_in {D : Addr} {Qd : Hp → Prop} (y : Yl J1 C1 n1 Y1) (Pv : Nat → Hp → Prop) (hC : ∀ i H, i ≤ n1 → Pv i H → C1 H) (h0 : Pv 0 H4)
    (hs : ∀ i x H H', i < n1 → Pv i H → Ex H H' → Y1 i x H' → g1 x (wipe σ2 vs1) H' fun σ3 H5 => wipe σ3 vs1 = wipe σ2 vs1 ∧ tt1 σ3 H5 fun b H6 =>
      if b = true then te σ3 H6 fun y H7 => ∃ acc, H7 D = some (.lst acc) ∧ acc.length < sizeLine ∧ Pv (i + 1) (upd H7 D (.lst (acc ++ [y]))) else Pv (i + 1) H6) (hd : ∀ H, Pv n1 H → Qd H) :
    ∃ W1 : Nat → Nat → Hp → Prop, (∃ m, W1 0 m H4) ∧ ∀ j k H, W1 j k H →
      (J1.stop j H ∧ Qd H) ∨ (J1.go j H ∧ ∃ Nx1 : Hp → Prop, (∀ H', Nx1 H' → ∃ k', k' < k ∧ W1 (j + 1) k' H') ∧ ∀ x H', J1.yld j H x H' → g1 x (wipe σ2 vs1) H' fun σ3 H5 => wipe σ3 vs1 = wipe σ2 vs1 ∧ tt1 σ3 H5 fun b H6 =>
        if b = true then te σ3 H6 fun y H7 => ∃ acc, H7 D = some (.lst acc) ∧ acc.length < sizeLine ∧ Nx1 (upd H7 D (.lst (acc ++ [y]))) else Nx1 H6) := by
  refine ⟨fun i m H => m = n1 - i ∧ i ≤ n1 ∧ Pv i H, ⟨n1, by simp, Nat.zero_le _, h0⟩, ?_⟩
  rintro i m H ⟨rfl, hi, p⟩
  by_cases hlt : i < n1
  · refine .inr ⟨y.go i H (hC i H hi p) hlt, Pv (i + 1), fun H' p' => ⟨n1 - (i + 1), by omega, rfl, hlt, p'⟩, fun x H' q => ?_⟩
    obtain ⟨e, q⟩ := y.yld i H x H' (hC i H hi p) hlt q
    exact hs i x H H' hlt p e q
  · have e : i = n1 := by omega
    subst e
    exact .inl ⟨y.stop H (hC i H hi p), hd H p⟩
theorem rd_lc2Y (hw : ∀ R : It → Hp → Prop, R J H1 → wi σ H R) (y : Yl J C n Y) (Pv : Addr → Nat → Hp → Prop) (hC : ∀ D i H, i ≤ n → Pv D i H → C H) (h0 : ∀ D, H1 D = none → Pv D 0 (upd H1 D (.lst [])))
    (hs : ∀ D i x H H', i < n → Pv D i H → Ex H H' → Y i x H' → g x (wipe σ vs) H' fun σ2 H2 => wipe σ2 vs = wipe σ vs ∧ tt σ2 H2 fun b H3 =>
      if b = true then wi1 σ2 H3 fun J1 H4 => ∃ W1 : Nat → Nat → Hp → Prop, (∃ m, W1 0 m H4) ∧ ∀ j k H, W1 j k H →
        (J1.stop j H ∧ Pv D (i + 1) H) ∨ (J1.go j H ∧ ∃ Nx1 : Hp → Prop, (∀ H', Nx1 H' → ∃ k', k' < k ∧ W1 (j + 1) k' H') ∧ ∀ x H', J1.yld j H x H' → g1 x (wipe σ2 vs1) H' fun σ3 H5 => wipe σ3 vs1 = wipe σ2 vs1 ∧ tt1 σ3 H5 fun b H6 =>
          if b = true then te σ3 H6 fun y H7 => ∃ acc, H7 D = some (.lst acc) ∧ acc.length < sizeLine ∧ Nx1 (upd H7 D (.lst (acc ++ [y]))) else Nx1 H6)
      else Pv D (i + 1) H3) (hd : ∀ D H, Pv D n H → Q (.ref D) H) :
    tLc2 wi g tt wi1 g1 tt1 te vs vs1 σ H Q := hw _ fun D hD => by
  refine ⟨fun i m H => m = n - i ∧ i ≤ n ∧ Pv D i H, ⟨n, by simp, Nat.zero_le _, h0 D hD⟩, ?_⟩
  rintro i m H ⟨rfl, hi, p⟩
  by_cases hlt : i < n
  · refine .inr ⟨y.go i H (hC D i H hi p) hlt, Pv D (i + 1), fun H' p' => ⟨n - (i + 1), by omega, rfl, hlt, p'⟩, fun x H' q => ?_⟩
    obtain ⟨e, q⟩ := y.yld i H x H' (hC D i H hi p) hlt q
    exact hs D i x H H' hlt p e q
  · have e : i = n := by omega
    subst e
    exact .inl ⟨y.stop H (hC D i H hi p), hd D H p⟩
end
/-! ### runs written out -/
def flatR (rs : List (Str × Int)) : List Str := rs.flatMap fun r => List.replicate r.2.toNat r.1
theorem flatR_nil : flatR [] = [] := rfl
theorem flatR_cons (r : Str × Int) (t : List (Str × Int)) : flatR (r :: t) = List.replicate r.2.toNat r.1 ++ flatR t := rfl
theorem flatR_app (x y : List (Str × Int)) : flatR (x ++ y) = flatR x ++ flatR y := by
  induction x with
  | nil => rfl
  | cons r t ih => rw [List.cons_append, flatR_cons, flatR_cons, ih, List.append_assoc]
theorem flat_len : ∀ (x : List (Str × Int)), (∀ r ∈ x, 1 ≤ r.2) → ((flatR x).length : Int) = sumL x
  | [], _ => rfl
  | r :: t, h => by
    have ih := flat_len t fun y hy => h y (List.mem_cons_of_mem _ hy)
    have := h r (List.mem_cons_self ..)
    rw [flatR_cons, List.length_append, List.length_replicate, sumL_cons]
    omega
theorem flat_step {acc : List (Str × Int)} {r : Str × Int} (h : ∀ x ∈ acc, 1 ≤ x.2) (hr : 1 ≤ r.2) : flatR (joinStep acc r) = flatR acc ++ flatR [r] := by
  rcases List.eq_nil_or_concat acc with rfl | ⟨t, s, rfl⟩
  · rfl
  · rw [List.concat_eq_append] at *
    obtain ⟨y, m⟩ := s
    obtain ⟨z, n⟩ := r
    have hm : 1 ≤ m := h (y, m) (by simp)
    have hn : 1 ≤ n := hr
    rw [joinStep_snoc]
    by_cases hy : y = z
    · subst hy
      rw [if_pos rfl, flatR_app, flatR_app, List.append_assoc]
      congr 1
      show List.replicate (m + n).toNat y ++ [] = (List.replicate m.toNat y ++ []) ++ (List.replicate n.toNat y ++ [])
      rw [List.append_nil, List.append_nil, List.append_nil, Int.toNat_add (by omega) (by omega), List.replicate_append_replicate]
    · rw [if_neg hy, flatR_app]
theorem flat_join {rs : List (Str × Int)} (h : ∀ x ∈ rs, 1 ≤ x.2) : flatR (joinR rs) = flatR rs := by
  have : ∀ (rs acc : List (Str × Int)), (∀ x ∈ rs, 1 ≤ x.2) → (∀ x ∈ acc, 1 ≤ x.2) → flatR (rs.foldl joinStep acc) = flatR acc ++ flatR rs := by
    intro rs
    induction rs with
    | nil => intro acc _ _; rw [flatR_nil, List.append_nil]; rfl
    | cons r t ih =>
      intro acc h1 h2
      have hr := h1 r (List.mem_cons_self ..)
      rw [List.foldl_cons, ih _ (fun x hx => h1 x (List.mem_cons_of_mem _ hx)) (step_pos h2 hr), flat_step h2 hr, List.append_assoc, ← flatR_app]
      rfl
  exact this rs [] h (by simp)
def unitR (ws : List Str) : List (Str × Int) := ws.map fun z => (z, 1)
theorem unit_pos (ws : List Str) : ∀ x ∈ unitR ws, 1 ≤ x.2 := fun x hx => by
  obtain ⟨z, _, rfl⟩ := List.mem_map.mp hx
  exact Int.le_refl _
theorem fold_units (z : Str) : ∀ (n : Nat) (acc : List (Str × Int)), (List.replicate (n + 1) (z, (1 : Int))).foldl joinStep acc = joinStep acc (z, ((n + 1 : Nat) : Int))
  | 0, acc => rfl
  | n + 1, acc => by
    rw [List.replicate_succ', List.foldl_append, fold_units z n acc]
    show joinStep (joinStep acc (z, ((n + 1 : Nat) : Int))) (z, 1) = _
    rw [step_same]; rfl
theorem join_unit {rs : List (Str × Int)} (h : ∀ x ∈ rs, 1 ≤ x.2) : joinR (unitR (flatR rs)) = joinR rs := by
  have : ∀ (rs acc : List (Str × Int)), (∀ x ∈ rs, 1 ≤ x.2) → (unitR (flatR rs)).foldl joinStep acc = rs.foldl joinStep acc := by
    intro rs
    induction rs with
    | nil => intro acc _; rfl
    | cons r t ih =>
      intro acc h1
      have hr := h1 r (List.mem_cons_self ..)
      rw [flatR_cons]
      unfold unitR
      rw [List.map_append, List.foldl_append, List.map_replicate]
      obtain ⟨z, n⟩ := r
      have hr : 1 ≤ n := hr
      obtain ⟨k, hk⟩ : ∃ k : Nat, n = ((k + 1 : Nat) : Int) := ⟨n.toNat - 1, by omega⟩
      subst hk
      rw [Int.toNat_natCast, fold_units]
      exact ih _ fun x hx => h1 x (List.mem_cons_of_mem _ hx)
  exact this rs [] h
theorem atR_flat : ∀ (rs : List (Str × Int)) (k : Nat), (∀ x ∈ rs, 1 ≤ x.2) → atR rs (k : Nat) = (flatR rs)[k]?
  | [], k, _ => rfl
  | (z, n) :: t, k, h => by
    have hn : 1 ≤ n := h (z, n) (List.mem_cons_self ..)
    rw [flatR_cons]
    show (if ((k : Nat) : Int) < n then some z else atR t ((k : Nat) - n)) = _
    by_cases c : ((k : Nat) : Int) < n
    · rw [if_pos c, List.getElem?_append_left (by rw [List.length_replicate]; show k < n.toNat; omega), List.getElem?_replicate, if_pos (show k < n.toNat by omega)]
    · rw [if_neg c, List.getElem?_append_right (by rw [List.length_replicate]; show n.toNat ≤ k; omega), List.length_replicate]
      have e : ((k : Nat) : Int) - n = ((k - n.toNat : Nat) : Int) := by omega
      rw [e]
      exact atR_flat t _ fun x hx => h x (List.mem_cons_of_mem _ hx)
end Aq
/-! Plain: words, letters, the drawn letters -/
namespace Aq
open PySem L2 Evl
abbrev smallS : Str := "abcdefghijklmnopqrstuvwxyz"
abbrev signsS : Str := "abcdefghijklmnopqrstuvwxyz0123456789"
def isWordB (z : Str) : Bool := decide (1 ≤ z.length) && decide (z.length ≤ 12) && (z.cps.toList.take 1).all (fun c => decide (c ∈ smallS.cps.toList)) && z.cps.toList.all (fun c => decide (c ∈ signsS.cps.toList))
def isBegB (z : Str) : Bool := decide (z = "new") || decide (z = "found")
theorem inV_two (z x y : Str) : inV (.str z) [.str x, .str y] = (decide (z = x) || decide (z = y)) := by
  have e : ∀ u v : Str, (u == v) = decide (v = u) := fun u v => by
    rw [Bool.eq_iff_iff, beq_iff_eq, decide_eq_true_eq]; exact eq_comm
  simp only [inV, eqV, List.any_cons, List.any_nil, Bool.or_false, e]
def bareS (z : Str) : Str := if decide (V.str (cutS z none (some 1)) = V.str "~") = true then cutS z (some 1) none else z
def isLetterB (z : Str) : Bool := isWordB (bareS z) && !isBegB (bareS z)
theorem inV_strs (z : Str) : ∀ ws : List Str, inV (.str z) (ws.map V.str) = decide (z ∈ ws)
  | [] => by simp [inV]
  | x :: r => by
    have ih := inV_strs z r
    have e : ∀ u v : Str, (u == v) = decide (v = u) := fun u v => by rw [Bool.eq_iff_iff, beq_iff_eq, decide_eq_true_eq]; exact eq_comm
    show (eqV (.str x) (.str z) || inV (.str z) (r.map V.str)) = _
    rw [ih]
    show ((x == z) || decide (z ∈ r)) = _
    rw [e, Bool.eq_iff_iff]
    simp
theorem flat_strs : ∀ ws : List Str, (ws.map V.str).all flatV = true
  | [] => rfl
  | x :: r => by
    rw [List.map_cons, List.all_cons, flat_strs r]
    rfl
structure GoodW (w : Str) : Prop where
  wd : isWordB w = true
  nb : isBegB w = false
structure Words (n : Nat) (ws : List Str) : Prop where
  len : ws.length = n
  nd : ws.Nodup
  ok : ∀ w ∈ ws, GoodW w
theorem Words.perm {n : Nat} {ws zs : List Str} (h : Words n ws) (p : zs.Perm ws) : Words n zs := ⟨p.length_eq.trans h.len, p.nodup_iff.mpr h.nd, fun w hw => h.ok w (p.mem_iff.mp hw)⟩
abbrev smallL : List Nat := [97, 98, 99, 100, 101, 102, 103, 104, 105, 106, 107, 108, 109, 110, 111, 112, 113, 114, 115, 116, 117, 118, 119, 120, 121, 122]
abbrev signsL : List Nat := smallL ++ [48, 49, 50, 51, 52, 53, 54, 55, 56, 57]
theorem smallS_cps : smallS.cps.toList = smallL := by decide +kernel
theorem signsS_cps : signsS.cps.toList = signsL := by decide +kernel
theorem small_sub {c : Nat} (h : c ∈ smallL) : c ∈ signsL := List.mem_append_left _ h
theorem signs_lt {c : Nat} (h : c ∈ signsL) : c < 123 := by
  simp only [signsL, smallL, List.mem_append, List.mem_cons, List.not_mem_nil, or_false] at h
  omega
theorem GoodW.cps {w : Str} (h : GoodW w) : 1 ≤ w.length ∧ w.length ≤ 12 ∧ (∀ c ∈ w.cps.toList, c ∈ signsL) ∧ ∃ c r, w.cps.toList = c :: r ∧ c ∈ smallL := by
  have := h.wd
  unfold isWordB at this
  rw [smallS_cps, signsS_cps] at this
  simp only [Bool.and_eq_true, decide_eq_true_eq, List.all_eq_true] at this
  obtain ⟨⟨⟨h1, h2⟩, h3⟩, h4⟩ := this
  refine ⟨h1, h2, h4, ?_⟩
  have hl := len_cps w
  cases e : w.cps.toList with
  | nil => rw [e] at hl; simp at hl; omega
  | cons c r => rw [e] at h3; exact ⟨c, r, rfl, h3 c (by simp)⟩
theorem GoodW.so {w : Str} (h : GoodW w) : PyData.strOk w = true := by
  unfold PyData.strOk
  rw [Array.all_eq_true_iff_forall_mem]
  intro c hc
  have := signs_lt (h.cps.2.2.1 c (by simpa using hc))
  exact decide_eq_true (by omega)
/-- a word out of its codes: goodW of (codes, with a 0 behind new and found) -/
def fix0 (w : Str) : Str := w ++ Txt.mul "0" (if inV (.str w) [.str "new", .str "found"] then 1 else 0)
theorem fix0_cps (w : Str) : (fix0 w).cps.toList = w.cps.toList ++ (if isBegB w then [48] else []) := by
  unfold fix0
  rw [app_cps, inV_two]
  show _ ++ (Txt.mul "0" (if isBegB w = true then 1 else 0)).cps.toList = _
  cases isBegB w with
  | true => rw [if_pos rfl, mul_one]; rfl
  | false => rw [if_neg Bool.false_ne_true, mul_zero]; rfl
theorem new_cps : ("new" : Str).cps.toList = [110, 101, 119] := by decide +kernel
theorem found_cps : ("found" : Str).cps.toList = [102, 111, 117, 110, 100] := by decide +kernel
theorem beg_iff (w : Str) : isBegB w = true ↔ w.cps.toList = [110, 101, 119] ∨ w.cps.toList = [102, 111, 117, 110, 100] := by
  unfold isBegB
  simp only [Bool.or_eq_true, decide_eq_true_eq]
  constructor
  · rintro (h | h)
    · exact .inl (h ▸ new_cps)
    · exact .inr (h ▸ found_cps)
  · rintro (h | h)
    · exact .inl (str_ext (h.trans new_cps.symm))
    · exact .inr (str_ext (h.trans found_cps.symm))
theorem good_fix {w : Str} {c : Nat} {r : List Nat} (e : w.cps.toList = c :: r) (hc : c ∈ smallL) (hr : ∀ d ∈ r, d ∈ signsL) (hl : r.length ≤ 11) : GoodW (fix0 w) := by
  have e1 := fix0_cps w
  have lb : isBegB w = true → r.length ≤ 4 := fun hb => by
    rcases (beg_iff w).mp hb with q | q <;> rw [e] at q <;> have q2 := congrArg List.length q <;> simp at q2 <;> omega
  have lt : (if isBegB w then [48] else ([] : List Nat)).length ≤ 1 := by split <;> simp
  have mt : ∀ d ∈ (if isBegB w then [48] else ([] : List Nat)), d ∈ signsL := by
    split
    · intro d hd; simp at hd; subst hd; decide
    · intro d hd; cases hd
  have ll : (fix0 w).length = 1 + r.length + (if isBegB w then [48] else ([] : List Nat)).length := by
    rw [← len_cps, e1, e, List.length_append, List.length_cons]; omega
  constructor
  · unfold isWordB
    rw [smallS_cps, signsS_cps, e1, e]
    simp only [Bool.and_eq_true, decide_eq_true_eq, List.all_eq_true]
    refine ⟨⟨⟨by omega, ?_⟩, ?_⟩, ?_⟩
    · by_cases b : isBegB w = true
      · have := lb b; omega
      · rw [if_neg b] at ll; simp at ll; omega
    · intro d hd
      rw [List.cons_append, List.take_succ_cons, List.take_zero, List.mem_singleton] at hd
      subst hd
      exact hc
    · intro d hd
      rcases List.mem_append.mp hd with h | h
      · rcases List.mem_cons.mp h with h | h
        · subst h; exact small_sub hc
        · exact hr d h
      · exact mt d h
  · rw [Bool.eq_false_iff]
    intro hb
    rcases (beg_iff _).mp hb with h | h
    all_goals
      rw [e1] at h
      by_cases b : isBegB w = true
      · rw [b, if_pos rfl] at h
        rcases (beg_iff w).mp b with q | q <;> rw [q] at h <;> simp at h
      · rw [if_neg b, List.append_nil] at h
        first | exact b ((beg_iff w).mpr (.inl h)) | exact b ((beg_iff w).mpr (.inr h))
theorem cutS_to (z : Str) (n : Nat) (h : n ≤ z.length) : (cutS z none (some (n : Int))).cps.toList = z.cps.toList.take n := by
  unfold cutS
  rw [HT.sIx_none, HT.sIx_nat, Nat.min_eq_left h]
  simp
theorem cutS_from (z : Str) (n : Nat) (h : n ≤ z.length) : (cutS z (some (n : Int)) none).cps.toList = z.cps.toList.drop n := by
  unfold cutS
  rw [HT.sIx_none, HT.sIx_nat, Nat.min_eq_left h]
  have := len_cps z
  simp
  rw [← this]
  rw [List.take_of_length_le (by simp)]
theorem getD_mem {l : List Nat} {i : Nat} (h : i < l.length) : l.getD i 0 ∈ l := by
  simp only [List.getD, List.getElem?_eq_getElem h, Option.getD_some]; exact List.getElem_mem h
/-! ### letters out of words -/
theorem tilde_cps : ("~" : Str).cps.toList = [126] := by decide +kernel
theorem tilde_len : ("~" : Str).length = 1 := by decide +kernel
theorem bare_of {z : Str} {c : Nat} {r : List Nat} (e : z.cps.toList = c :: r) : (bareS z).cps.toList = if c = 126 then r else c :: r := by
  have hl : 1 ≤ z.length := by rw [← len_cps, e]; simp
  have h1 : (cutS z none (some 1)).cps.toList = [c] := by
    have := cutS_to z 1 hl
    rw [e] at this
    exact this
  have h2 : (cutS z (some 1) none).cps.toList = r := by
    have := cutS_from z 1 hl
    rw [e] at this
    exact this
  unfold bareS
  by_cases hc : c = 126
  · have : cutS z none (some 1) = "~" := str_ext (by rw [h1, tilde_cps, hc])
    rw [this, if_pos (by decide +kernel), if_pos hc, h2]
  · have : ¬ V.str (cutS z none (some 1)) = V.str "~" := fun q => hc (by
      have := V.str.inj q
      rw [this, tilde_cps] at h1
      simpa using h1.symm)
    rw [if_neg (by simpa using this), if_neg hc, e]
/-- a word or the way back over it -/
def Mk1 (z : Str) : Prop := ∃ w, GoodW w ∧ (z = w ∨ z = "~" ++ w)
theorem GoodW.bare {w : Str} (h : GoodW w) : bareS w = w ∧ bareS ("~" ++ w) = w := by
  obtain ⟨_, _, _, c, r, e, hc⟩ := h.cps
  have nc : c ≠ 126 := by have := signs_lt (small_sub hc); omega
  refine ⟨str_ext ?_, str_ext ?_⟩
  · rw [bare_of e, if_neg nc, e]
  · have : ("~" ++ w : Str).cps.toList = 126 :: w.cps.toList := by rw [app_cps, tilde_cps]; rfl
    rw [bare_of this, if_pos rfl]
theorem Mk1.good {z : Str} (h : Mk1 z) : GoodW (bareS z) := by
  obtain ⟨w, g, rfl | rfl⟩ := h
  · rw [g.bare.1]; exact g
  · rw [g.bare.2]; exact g
theorem Mk1.eq {z : Str} (h : Mk1 z) : z = bareS z ∨ z = "~" ++ bareS z := by
  obtain ⟨w, g, rfl | rfl⟩ := h
  · rw [g.bare.1]; exact .inl rfl
  · rw [g.bare.2]; exact .inr rfl
theorem Mk1.ok {z : Str} (h : Mk1 z) : isLetterB z = true := by
  have g := h.good
  rw [isLetterB, g.wd, g.nb]; rfl
theorem Mk1.len {z : Str} (h : Mk1 z) : 1 ≤ z.length ∧ z.length ≤ 13 := by
  have g := h.good.cps
  rcases h.eq with e | e
  · rw [e]; omega
  · rw [e, app_len, tilde_len]; omega
theorem Mk1.so {z : Str} (h : Mk1 z) : PyData.strOk z = true := by
  have g := h.good
  unfold PyData.strOk
  rw [Array.all_eq_true_iff_forall_mem]
  intro c hc
  have hc' : c ∈ z.cps.toList := by simpa using hc
  have : c < 127 := by
    rcases h.eq with e | e
    · rw [e] at hc'
      have := signs_lt (g.cps.2.2.1 c hc'); omega
    · rw [e, app_cps, tilde_cps] at hc'
      rcases List.mem_append.mp hc' with q | q
      · simp at q; omega
      · have := signs_lt (g.cps.2.2.1 c q); omega
  exact decide_eq_true (by omega)
theorem take_snoc {α : Type} {l : List α} {i : Nat} {x : α} (h : l[i]? = some x) : l.take (i + 1) = l.take i ++ [x] := by
  rw [List.take_add_one, h]; rfl
/-! ### the drawn letters -/
/-- a row of letters: words of the stock bw, each at most once, each with its way back at most once -/
structure Row (bw : Nat → Str) (zs : List Str) : Prop where
  nd : zs.Nodup
  each : ∀ z ∈ zs, ∃ j, j < zs.length ∧ (z = bw j ∨ z = "~" ++ bw j)
  last : ∀ z, zs.getLast? = some z → cutS z none (some 1) ≠ "~" → ("~" ++ z : Str) ∉ zs
structure Stock (n : Nat) (bw : Nat → Str) : Prop where
  good : ∀ j, j < n → GoodW (bw j)
  inj : ∀ i j, i < n → j < n → bw i = bw j → i = j
variable {n : Nat} {bw : Nat → Str} {zs : List Str}
theorem Stock.back (S : Stock n bw) {i j : Nat} (hi : i < n) (hj : j < n) : (bw i = "~" ++ bw j → False) ∧ ("~" ++ bw i = "~" ++ bw j → i = j) := by
  have bi := (S.good i hi).bare
  have bj := (S.good j hj).bare
  refine ⟨fun e => ?_, fun e => ?_⟩
  · have := congrArg Str.length e
    have h2 : bw i = bw j := by
      have q := congrArg bareS e
      rw [bi.1, bj.2] at q
      exact q
    rw [h2, app_len, tilde_len] at this
    omega
  · have q := congrArg bareS e
    rw [bi.2, bj.2] at q
    exact S.inj i j hi hj q
theorem cut_back (w : Str) : cutS ("~" ++ w) none (some 1) = "~" := by
  have hl : 1 ≤ ("~" ++ w : Str).length := by rw [app_len, tilde_len]; omega
  have := cutS_to ("~" ++ w) 1 hl
  rw [app_cps, tilde_cps] at this
  exact str_ext (this.trans tilde_cps.symm)
theorem Row.nil : Row bw [] := ⟨List.nodup_nil, (fun z h => by cases h), (fun z h => by cases h)⟩
theorem Row.fresh (S : Stock n bw) (R : Row bw zs) (hk : zs.length < n) : bw zs.length ∉ zs ∧ ("~" ++ bw zs.length : Str) ∉ zs := by
  refine ⟨fun h => ?_, fun h => ?_⟩
  · obtain ⟨j, hj, q | q⟩ := R.each _ h
    · have := S.inj _ _ hk (by omega) q; omega
    · exact (S.back hk (by omega)).1 q
  · obtain ⟨j, hj, q | q⟩ := R.each _ h
    · exact (S.back (by omega) hk).1 q.symm
    · have := (S.back hk (by omega)).2 q; omega
theorem Row.plain (S : Stock n bw) (R : Row bw zs) (hk : zs.length < n) : Row bw (zs ++ [bw zs.length]) := by
  have fr := R.fresh S hk
  refine ⟨?_, fun z hz => ?_, fun z hz hb => ?_⟩
  · rw [List.nodup_append]; exact ⟨R.nd, by simp, fun x hx y hy => by rw [List.mem_singleton] at hy; subst hy; exact fun e => fr.1 (e ▸ hx)⟩
  · rw [List.length_append, List.length_singleton]
    rcases List.mem_append.mp hz with h | h
    · obtain ⟨j, hj, q⟩ := R.each z h; exact ⟨j, by omega, q⟩
    · rw [List.mem_singleton] at h; exact ⟨zs.length, by omega, .inl h⟩
  · rw [List.getLast?_concat] at hz
    cases hz
    intro h
    rcases List.mem_append.mp h with h | h
    · exact fr.2 h
    · rw [List.mem_singleton] at h; exact (S.back hk hk).1 h.symm
theorem Row.back (S : Stock n bw) (R : Row bw zs) (hk : zs.length < n) : Row bw (zs ++ ["~" ++ bw zs.length]) := by
  have fr := R.fresh S hk
  refine ⟨?_, fun z hz => ?_, fun z hz hb => ?_⟩
  · rw [List.nodup_append]; exact ⟨R.nd, by simp, fun x hx y hy => by rw [List.mem_singleton] at hy; subst hy; exact fun e => fr.2 (e ▸ hx)⟩
  · rw [List.length_append, List.length_singleton]
    rcases List.mem_append.mp hz with h | h
    · obtain ⟨j, hj, q⟩ := R.each z h; exact ⟨j, by omega, q⟩
    · rw [List.mem_singleton] at h; exact ⟨zs.length, by omega, .inr h⟩
  · rw [List.getLast?_concat] at hz
    cases hz
    exact absurd (cut_back _) hb
/-- the last one again, as its way back -/
theorem Row.again (S : Stock n bw) (R : Row bw zs) (hk : zs.length < n) {z : Str} (hz : zs.getLast? = some z) (hb : cutS z none (some 1) ≠ "~") : Row bw (zs ++ ["~" ++ z]) := by
  have fr := R.last z hz hb
  refine ⟨?_, fun y hy => ?_, fun y hy hc => ?_⟩
  · rw [List.nodup_append]; exact ⟨R.nd, by simp, fun x hx y hy => by rw [List.mem_singleton] at hy; subst hy; exact fun e => fr (e ▸ hx)⟩
  · rw [List.length_append, List.length_singleton]
    rcases List.mem_append.mp hy with h | h
    · obtain ⟨j, hj, q⟩ := R.each y h; exact ⟨j, by omega, q⟩
    · rw [List.mem_singleton] at h
      obtain ⟨j, hj, q | q⟩ := R.each z (List.mem_of_getLast? hz)
      · exact ⟨j, by omega, .inr (by rw [h, q])⟩
      · exact absurd (by rw [q]; exact cut_back _) hb
  · rw [List.getLast?_concat] at hy
    cases hy
    exact absurd (cut_back _) hc
theorem Row.mk1 (S : Stock n bw) (R : Row bw zs) (hk : zs.length ≤ n) : ∀ z ∈ zs, Mk1 z := fun z hz => by
  obtain ⟨j, hj, q⟩ := R.each z hz
  exact ⟨bw j, S.good j (by omega), q⟩
/-- the k-th word ahead of fix0: the stem up to at, a sign, the tail -/
def rawL (at_ : Nat) (f st : Int) (stem : Str) (k : Nat) : Str :=
  (cutS stem none (some (at_ : Int)) ++ ⟨#[if 0 < at_ then signsL.getD ((f + st * k) % 36).toNat 0 else smallL.getD ((f + st * k) % 26).toNat 0]⟩) ++ cutS (cutS stem (some (at_ : Int)) none) none (some (((cutS stem (some (at_ : Int)) none).length : Int) - k * (if decide ((k : Int) < 2) = true then 1 else 0)))
structure LOk (at_ : Nat) (f st : Int) (stem : Str) : Prop where
  f0 : 0 ≤ f
  f1 : f < 36
  s : st = 1 ∨ st = 5 ∨ st = 7 ∨ st = 11 ∨ st = 17 ∨ st = 19 ∨ st = 23 ∨ st = 25
  hd : ∀ c r, stem.cps.toList = c :: r → c ∈ smallL
  sg : ∀ c ∈ stem.cps.toList, c ∈ signsL
  sl : stem.length ≤ 11
  al : at_ ≤ stem.length
theorem cut_sub (z : Str) (lo hi : Option Int) : (∀ c ∈ (cutS z lo hi).cps.toList, c ∈ z.cps.toList) ∧ (cutS z lo hi).length ≤ z.length := by
  refine ⟨fun c hc => ?_, cutS_length z lo hi⟩
  have hc' : c ∈ (z.cps.toList.drop (HT.sIx z.length 0 lo)).take (HT.sIx z.length z.length hi - HT.sIx z.length 0 lo) := by simpa [cutS] using hc
  exact List.mem_of_mem_drop (List.mem_of_mem_take hc')
theorem rawL_cps {at_ : Nat} {f st : Int} {stem : Str} (h : LOk at_ f st stem) (k : Nat) : ∃ c r, (rawL at_ f st stem k).cps.toList = c :: r ∧ c ∈ smallL ∧ (∀ d ∈ r, d ∈ signsL) ∧ r.length ≤ 11 ∧
    (rawL at_ f st stem k).cps.toList[at_]? = some (if 0 < at_ then signsL.getD ((f + st * k) % 36).toNat 0 else smallL.getD ((f + st * k) % 26).toNat 0) := by
  have m36 : ((f + st * k) % 36).toNat < signsL.length := by have : signsL.length = 36 := rfl; omega
  have m26 : ((f + st * k) % 26).toNat < smallL.length := by have : smallL.length = 26 := rfl; omega
  have ls := len_cps stem
  have h2 := h.sl
  have h3 := h.al
  have eA := cutS_to stem at_ h.al
  have eT := cutS_from stem at_ h.al
  have lT : (cutS stem (some (at_ : Int)) none).length = stem.length - at_ := by rw [← len_cps, eT, List.length_drop, ls]
  obtain ⟨sB, lB⟩ := cut_sub (cutS stem (some (at_ : Int)) none) none (some (((cutS stem (some (at_ : Int)) none).length : Int) - k * (if decide ((k : Int) < 2) = true then 1 else 0)))
  unfold rawL
  generalize cutS (cutS stem (some (at_ : Int)) none) none (some (((cutS stem (some (at_ : Int)) none).length : Int) - k * (if decide ((k : Int) < 2) = true then 1 else 0))) = Bt at sB lB ⊢
  have sB2 : ∀ c ∈ Bt.cps.toList, c ∈ signsL := fun c hc => h.sg c (List.mem_of_mem_drop (eT ▸ sB c hc))
  have lB2 := len_cps Bt
  have lA : (stem.cps.toList.take at_).length = at_ := by rw [List.length_take]; omega
  by_cases h0 : 0 < at_
  · simp only [if_pos h0]
    have ms := getD_mem m36
    generalize signsL.getD ((f + st * (k : Int)) % 36).toNat 0 = x at ms ⊢
    have ec : ((cutS stem none (some (at_ : Int)) ++ ⟨#[x]⟩) ++ Bt : Str).cps.toList = stem.cps.toList.take at_ ++ [x] ++ Bt.cps.toList := by rw [app_cps, app_cps, eA]
    obtain ⟨c, r, es⟩ : ∃ c r, stem.cps.toList = c :: r := by
      cases e : stem.cps.toList with
      | nil => rw [e] at ls; simp at ls; omega
      | cons c r => exact ⟨c, r, rfl⟩
    obtain ⟨m, rfl⟩ : ∃ m, at_ = m + 1 := ⟨at_ - 1, by omega⟩
    have lr : r.length + 1 = stem.length := by rw [← ls, es, List.length_cons]
    refine ⟨c, r.take m ++ [x] ++ Bt.cps.toList, ?_, h.hd c r es, fun d hd => ?_, ?_, ?_⟩
    · rw [ec, es]; simp
    · rcases List.mem_append.mp hd with q | q
      · rcases List.mem_append.mp q with q | q
        · exact h.sg d (by rw [es]; exact List.mem_cons_of_mem _ (List.mem_of_mem_take q))
        · rw [List.mem_singleton] at q; rw [q]; exact ms
      · exact sB2 d q
    · simp only [List.length_append, List.length_take, List.length_singleton]; omega
    · rw [ec, List.append_assoc, List.getElem?_append_right (by omega), lA, Nat.sub_self]; rfl
  · have ez : at_ = 0 := by omega
    subst ez
    simp only [Nat.lt_irrefl, if_false]
    have ms := getD_mem m26
    generalize smallL.getD ((f + st * (k : Int)) % 26).toNat 0 = x at ms ⊢
    have ec : ((cutS stem none (some ((0 : Nat) : Int)) ++ ⟨#[x]⟩) ++ Bt : Str).cps.toList = x :: Bt.cps.toList := by rw [app_cps, app_cps, eA]; rfl
    refine ⟨x, Bt.cps.toList, ec, ms, sB2, by omega, ?_⟩
    rw [ec]; rfl
theorem rawL_inj {at_ : Nat} {f st : Int} {stem : Str} (h : LOk at_ f st stem) {k l : Nat} (hk : k < 26) (hl : l < 26) (e : fix0 (rawL at_ f st stem k) = fix0 (rawL at_ f st stem l)) : k = l := by
  have nd36 : signsL.Nodup := by decide
  have nd26 : smallL.Nodup := by decide
  have inj : ∀ (L : List Nat) (i j : Nat), L.Nodup → i < L.length → j < L.length → L.getD i 0 = L.getD j 0 → i = j := fun L i j nd hi hj e => by
    simp only [List.getD, List.getElem?_eq_getElem hi, List.getElem?_eq_getElem hj, Option.getD_some] at e
    rcases Nat.lt_trichotomy i j with c | c | c
    · exact absurd e (List.pairwise_iff_getElem.mp nd i j hi hj c)
    · exact c
    · exact absurd e.symm (List.pairwise_iff_getElem.mp nd j i hj hi c)
  obtain ⟨_, _, _, _, _, _, gk⟩ := rawL_cps h k
  obtain ⟨_, _, _, _, _, _, gl⟩ := rawL_cps h l
  have ge := congrArg (fun z : Str => z.cps.toList[at_]?) e
  simp only [fix0_cps] at ge
  rw [List.getElem?_append_left (List.getElem?_eq_some_iff.mp gk).1, List.getElem?_append_left (List.getElem?_eq_some_iff.mp gl).1, gk, gl] at ge
  have ge := Option.some.inj ge
  have h36 : signsL.length = 36 := rfl
  have h26 : smallL.length = 26 := rfl
  have := h.s
  by_cases h0 : 0 < at_
  · simp only [if_pos h0] at ge
    have q := inj signsL _ _ nd36 (by omega) (by omega) ge
    rcases h.s with s | s | s | s | s | s | s | s <;> subst s <;> omega
  · simp only [if_neg h0] at ge
    have q := inj smallL _ _ nd26 (by omega) (by omega) ge
    rcases h.s with s | s | s | s | s | s | s | s <;> subst s <;> omega
theorem rawL_stock {at_ : Nat} {f st : Int} {stem : Str} (h : LOk at_ f st stem) : Stock 26 fun k => fix0 (rawL at_ f st stem k) :=
  ⟨fun j hj => by obtain ⟨c, r, e, hc, hr, hl, _⟩ := rawL_cps h j; exact good_fix e hc hr hl, fun i j hi hj e => rawL_inj h hi hj e⟩
end Aq
/-! sorted(set(texts)) -/
namespace Aq
open PySem PySem.Spec PyProof.Rows L2
/-- the set of texts at a: its members, each once, in some order -/
def SX (P : Program) (w : World) (h : Heap) (a : Addr) (l : List Str) : Prop :=
  ∃ D : Froz.SD, h.get? a = some (Froz.sObj "set" D) ∧ Froz.TxOk P w D l ∧ l.Nodup ∧ Ris D.2.2.place.toList ∧ (w.params.followText "set-order" = true ∨ D.2.2.led = true)
def putL (l : List Str) (k : Str) : List Str := if k ∈ l then l else k :: l
section
variable {P : Program} {w : World} {A : Around} {E : Value → Shared → Prop} {s : Shared} {h h' : Heap} {a : Addr} {l : List Str} {k : Str} {u : Tok}
theorem SX.at (z : SX P w h a l) (e : ∀ o, h.get? a = some o → h'.get? a = some o) : SX P w h' a l := let ⟨D, ho, r⟩ := z; ⟨D, e _ ho, r⟩
theorem addTx_two {x : Int} {v : Value} {D : Froz.SD} (r : Ris D.2.2.place.toList) : Ris (Froz.addTx x v D).2.2.place.toList ∧ (Froz.addTx x v D).2.2.led = D.2.2.led := by
  obtain ⟨es, ep, t⟩ := D
  have r1 := layNew_ris t es x v r
  have l1 := layNew_led t es x v
  have both : ∀ t2 : SetTable, Ris t2.place.toList → t2.led = t.led → Ris (Froz.tailTx ep (layNew t es x v).1 t2 (layNew t es x v).2.2.1).2.2.place.toList ∧ (Froz.tailTx ep (layNew t es x v).1 t2 (layNew t es x v).2.2.1).2.2.led = t.led := fun t2 a1 a2 => by
    unfold Froz.tailTx
    split
    · exact ⟨relayAll_ris _ _ _, (relayAll_led _ _ _).trans a2⟩
    · exact ⟨a1, a2⟩
  refine both _ ?_ ?_
  · split
    · exact r1
    · exact r1
  · split
    · exact l1
    · exact l1
theorem sx_add {Q : Bool → Shared → Prop} (z : SX P w s.heap a l) (room : l.length + 1 < scanBound) (hQ : ∀ (b : Bool) h', Heap.SameBut a s.heap h' → SX P w h' a (putL l k) → Q b { s with heap := h' }) : wpAny (model P w) A (setAddHashed a (.str k u) (hashStr w k)) Q E s := by
  obtain ⟨D, ho, F, nd, r, ld⟩ := id z
  by_cases c : k ∈ l
  · have eL : putL l k = l := if_pos c
    have q0 := hQ false s.heap (Heap.SameBut.refl a s.heap) (by rw [eL]; exact z)
    obtain ⟨es, ep, t⟩ := D
    have dd : (Froz.sObj "set" (es, ep, t)).data = .set es ep t := rfl
    have ft : t.fits es.size = true := F.fit
    have el : ElemsOf (strKind P w) es.toList := F.el
    have es_ : es.size < scanBound := by have : es.size = l.length := F.sz; omega
    obtain ⟨e0, he0, ie0⟩ := (F.mem k).mp c
    unfold setAddHashed setAddHashedIn
    refine wpAny_holding (wpAny_bind (wpAny_setState_of ho dd ft ?_))
    dsimp only
    rw [byScan_of (x := Value.str k u) rfl es_ el]
    simp only [↓reduceIte]
    unfold setAddByScan
    refine wpAny_bind (wpAny_bind (wpAny_rule (wpAny_bind (wpAny_setScan_of (knd := strKind P w) (k := k) (Froz.is_str k u) ho dd ft el ?_))))
    cases fi : List.findIdx? (fun e => (strKind P w).is k e.2) es.toList with
    | some j =>
      dsimp only
      exact wpAny_pure (wpAny_pure q0)
    | none =>
      have := List.findIdx?_eq_none_iff.mp fi e0 he0
      rw [ie0] at this
      cases this
  · have eL : putL l k = k :: l := if_neg c
    refine Froz.add_x ho F c room ?_
    refine hQ true _ (Heap.SameBut.update s.heap a _) ?_
    rw [eL]
    obtain ⟨r2, l2⟩ := addTx_two (x := hashStr w k) (v := .str k u) r
    exact ⟨_, Froz.get_upd _ ho rfl, Froz.add_ok u F, List.nodup_cons.mpr ⟨c, nd⟩, r2, ld.imp id fun y => l2.trans y⟩
theorem putL_len (l : List Str) (k : Str) : (putL l k).length ≤ l.length + 1 := by
  unfold putL
  split
  · omega
  · exact Nat.le_refl _
theorem foldL_len : ∀ (xs l : List Str), (xs.foldl putL l).length ≤ l.length + xs.length
  | [], l => Nat.le_refl _
  | x :: r, l => by
    have h1 := foldL_len r (putL l x)
    have h2 := putL_len l x
    rw [List.foldl_cons, List.length_cons]
    omega
end
section
variable {P : Program} {w : World} {A : Around} {R : Result → Shared → Prop} {I : Addr} {fp wr : List Addr} {G : Array GenState → Array GenState → Prop} {n : Nat} {Pv : Nat → Value → Prop} {St : Nat → Shared → Prop}
theorem sx_loop (W : WalksS P w A.in1 I fp wr G n Pv St) (a : Addr) (na : a ∉ fp) (xs : List Str) (xl : xs.length = n) (room : n + 1 < scanBound) (hv : ∀ i v, Pv i v → ∃ t, v = .str (xs.getD i Str.empty) t) :
    ∀ (m i : Nat) (s : Shared), n - i = m → i ≤ n → St i s → SX P w s.heap a ((xs.take i).foldl putL []) →
      (∀ s2, Moved (a :: wr) G s s2 → SX P w s2.heap a (xs.foldl putL []) → R (.ok (.ret .none)) s2) → codeAny (model P w) A (.builtin "set.update.loop" ⟨[.ref a, .ref I], []⟩) R s := by
  have nw : a ∉ wr := fun z => na (W.sub _ z)
  have more : ∀ b ∈ wr, b ∈ a :: wr := fun b z => List.mem_cons_of_mem _ z
  intro m
  induction m with
  | zero =>
    intro i s e1 e2 st z q
    obtain rfl : i = n := by omega
    refine codeAny_builtin PyProof.Rows.F.entry_set_update_loop ?_
    rw [Around.under_plainId PyProof.Rows.F.plain_set_update_loop _]
    show wpAny _ A.in1 (pyNext (Value.ref I) >>= _) _ _ s
    refine wpAny_bind (W.done s _ _ st fun s2 mv => ?_)
    show wpAny _ A.in1 (ret .none) _ _ s2
    refine wpAny_pure (q s2 (mv.mono more) ?_)
    have z2 := z.at (h' := s2.heap) fun o ho => mv.heap a o nw ho
    rw [← xl, List.take_length] at z2
    exact z2
  | succ m ih =>
    intro i s e1 e2 st z q
    have lt : i < n := by omega
    refine codeAny_builtin PyProof.Rows.F.entry_set_update_loop ?_
    rw [Around.under_plainId PyProof.Rows.F.plain_set_update_loop _]
    show wpAny _ A.in1 (pyNext (Value.ref I) >>= _) _ _ s
    refine wpAny_bind (W.item i s _ _ lt st fun v s2 pv st2 mv => ?_)
    obtain ⟨t, rfl⟩ := hv i v pv
    have z2 := z.at (h' := s2.heap) fun o ho => mv.heap a o nw ho
    have tk : xs.take (i + 1) = xs.take i ++ [xs.getD i Str.empty] := by
      rw [List.take_succ, List.getD_eq_getElem?_getD, List.getElem?_eq_getElem (by omega)]; rfl
    have ln := foldL_len (xs.take i) []
    rw [List.length_take, List.length_nil] at ln
    show wpAny _ A.in1 (holding [Value.str (xs.getD i Str.empty) t] (setAdd a (.str (xs.getD i Str.empty) t)) >>= _) _ _ s2
    refine wpAny_bind (wpAny_holding ?_)
    unfold setAdd
    refine wpAny_holding (wpAny_bind ((PySem.strKind P w).pyHash (k := xs.getD i Str.empty) (Froz.is_str _ _) ?_))
    refine sx_add (s := { s2 with toks := s2.toks + 1 }) z2 (by omega) fun b h' sb z3 => ?_
    have z4 : SX P w h' a ((xs.take (i + 1)).foldl putL []) := by rw [tk, List.foldl_append]; exact z3
    refine wpAny_pure ⟨plainId_quiet PyProof.Rows.F.plain_set_update_loop _, ih (i + 1) _ (by omega) lt (W.frame _ s2 _ _ st2 (Nat.le_succ _) fun b hb o e => ?_) z4 fun s3 mv3 z5 => ?_⟩
    · rw [sb.2 b fun c => na (c ▸ hb)]; exact e
    · refine q s3 (Moved.trans W.gtrans ((mv.mono more).then_heap (Nat.le_succ _) fun b o hb e => ?_) mv3) z5
      rw [sb.2 b fun c => hb (c ▸ List.mem_cons_self)]; exact e
end
/-! ### set(xs) -/
abbrev newSet (w : World) : Obj := { cls := .type "set", dict := none, data := .set #[] 0 (.fresh 0 0 (!w.params.followText "set-order")) }
section
variable {P : Program} {w : World} {A : Around} {E : Value → Shared → Prop} {s : Shared} {h : Heap} {a : Addr}
theorem sx_new (ho : h.get? a = some (newSet w)) : SX P w h a [] := by
  refine ⟨(#[], 0, .fresh 0 0 (!w.params.followText "set-order")), ho, Froz.TxOk.nil rfl, List.nodup_nil, List.Pairwise.nil, ?_⟩
  show _ ∨ (!w.params.followText "set-order") = true
  cases w.params.followText "set-order"
  · exact .inr rfl
  · exact .inl rfl
/-- set(xs), xs a list of texts -/
theorem call_setX {p : Addr} {its : Array Value} {xs : List Str} {Q : Value → Shared → Prop} (hn : A.handled = none) (hp : s.heap.IsList p its) (hx : StrsAre its.toList xs) (room : xs.length + 1 < scanBound)
    (q : ∀ (h2 : Heap) (tk : Nat), SX P w h2 s.heap.objs.size (xs.foldl putL []) → (∀ b o, s.heap.get? b = some o → h2.get? b = some o) → Q (.ref s.heap.objs.size) { s with heap := h2, toks := tk }) :
    wpAny (model P w) A (call (.type "set") [.ref p]) Q E s := by
  have xl : xs.length = its.size := by rw [← Array.length_toList, hx.length]
  have old : ∀ {b : Addr} {o : Obj}, s.heap.get? b = some o → b ≠ s.heap.objs.size := fun e => Nat.ne_of_lt (Heap.lt_size e)
  obtain ⟨cc, tt, mro_⟩ := F.called_set.mro
  have made_ := F.called_set.made
  have sub_ := F.called_set.sub
  refine wpAny_call (codeAny_of_tree (show wpAny _ _ (callAny (.type "set") _) _ _ _ from ?_))
  refine wpAny_pure (And.intro (Code.quiet_builtin _ (by decide +kernel)) (codeAny_builtin F.entry_type_call ?_))
  rw [Around.under_plain (weight_type_call_type "set" [.ref p] []) rfl]
  have f1 := F.called_set.notType
  have f2 := F.called_set.canCreate
  have f3 := F.typeCall_set_1 (.ref p)
  repeat (any_goals (first | assumption | wp_step))
  refine codeAny_mono (code_set_led1 (.ref p) (E := E) (Q₁ := fun x s1 => x = .ref s.heap.objs.size ∧ s1 = { s with heap := s.heap.push (newSet w) }) ⟨rfl, rfl⟩) fun out s1 z1 => ?_
  match out, z1 with
  | .error e, z1 => exact z1
  | .ok (.ret x), z1 =>
    obtain ⟨rfl, rfl⟩ := z1
    have at0 : (s.heap.push (newSet w)).get? s.heap.objs.size = some (newSet w) := Heap.get?_push_size _ rfl
    have ty0 : Shared.TypeIs { s with heap := s.heap.push (newSet w) } (.ref s.heap.objs.size) "set" := ⟨_, at0, rfl⟩
    have i1 := F.called_set.init.lookup
    have i2 := F.called_set.init.bind (.ref s.heap.objs.size)
    repeat (any_goals (first | assumption | wp_step))
    refine codeAny_mono (codeAny_call_builtin (R := wants (fun r s2 => r = .none ∧ ∃ (h2 : Heap) (tk : Nat), s2 = { s with heap := h2, toks := tk } ∧ SX P w h2 s.heap.objs.size (xs.foldl putL []) ∧ ∀ b o, s.heap.get? b = some o → h2.get? b = some o) E) F.called_set.init.plain F.entry_set_init (check_set_init_1 ty0 ?_)) fun out2 s2 z2 => ?_
    · obtain ⟨⟨oc, od, odat, osl⟩, atp, ec, nl, ed⟩ := hp
      simp only at ec ed
      subst ec; subst ed
      have plt : p < s.heap.objs.size := Heap.lt_size atp
      have sz1 : (s.heap.push (newSet w)).objs.size = s.heap.objs.size + 1 := Heap.size_push ..
      have atp1 : (s.heap.push (newSet w)).get? p = some { cls := .type "list", dict := od, data := .seq its nl, slots := osl } := Heap.get?_push_of_some _ atp
      have s1_ := F.sub_list_set
      have s2_ := F.sub_list_frozenset
      have n1_ : (Value.type "list" == Value.type "dict") = false := by decide
      have isl : (s.heap.push (newSet w)).IsList p its := ⟨_, atp1, rfl, nl, rfl⟩
      unfold Builtin.«set.__init__» noKeywords Builtin.Frozenset.updateFrom
      generalize iterE : pyIter = It
      wp_walk
      subst iterE
      refine wpAny_pyIter_list isl (wpAny_bind (wpAny_runValue ?_))
      have hn3 : A.in1.in1.in1.handled = none := by simp [hn]
      have nI : p ≠ (s.heap.push (newSet w)).objs.size := by rw [sz1]; exact Nat.ne_of_lt (Nat.lt_succ_of_lt plt)
      have nS : s.heap.objs.size ∉ [(s.heap.push (newSet w)).objs.size, p] := by
        rw [sz1]
        simp only [List.mem_cons, List.not_mem_nil, or_false, not_or]
        exact And.intro (Nat.ne_of_lt (Nat.lt_succ_self _)) (Nat.ne_of_gt plt)
      have val : ∀ (i : Nat) (v : Value), its[i]? = some v → ∃ t, v = .str (xs.getD i Str.empty) t := fun i v e => SS.strs_at hx i v (by rw [Array.getElem?_toList]; exact e)
      refine sx_loop ((Walks.list hn3 _ p nI its).toS) s.heap.objs.size nS xs xl (by rw [← xl]; exact room) val (its.size - 0) 0 _ rfl (Nat.zero_le _) ⟨⟨_, Heap.get?_push_size _ rfl, rfl, rfl⟩, isl.push _⟩ (sx_new (Heap.get?_push_of_some _ at0)) fun s3 mv z3 => ?_
      obtain ⟨h3, g3, d3, t3, o3⟩ := s3
      obtain rfl : g3 = s.gens := mv.gens
      obtain rfl : d3 = s.drawn := mv.drawn
      obtain rfl : o3 = s.os := mv.os
      refine (show wpAny _ _ _ _ _ _ from wpAny_pure (show wpAny _ _ (ret Value.none) _ _ _ from wpAny_pure ⟨rfl, h3, t3, rfl, z3, fun b o e => ?_⟩))
      have b1 := Heap.lt_size e
      refine mv.heap b o ?_ (Heap.get?_push_of_some _ (Heap.get?_push_of_some _ e))
      rw [sz1]
      simp only [List.mem_cons, List.not_mem_nil, or_false, not_or]
      exact And.intro (Nat.ne_of_lt b1) (Nat.ne_of_lt (Nat.lt_succ_of_lt b1))
    · match out2, z2 with
      | .error e, z2 => exact z2
      | .ok (.ret r), z2 =>
        obtain ⟨rfl, h2, tk, rfl, z3, kp⟩ := z2
        repeat (any_goals (first | assumption | wp_step))
        exact q _ _ z3 kp
      | .ok .next, z2 => exact z2.elim
      | .ok .brk, z2 => exact z2.elim
      | .ok .cont, z2 => exact z2.elim
  | .ok .next, z1 => exact z1.elim
  | .ok .brk, z1 => exact z1.elim
  | .ok .cont, z1 => exact z1.elim
end
/-! ### plain: members, order -/
theorem perm_of {α : Type} [DecidableEq α] : ∀ {l m : List α}, l.Nodup → (∀ x ∈ l, x ∈ m) → m.length ≤ l.length → m.Perm l
  | [], m, _, _, h => by rw [List.length_eq_zero_iff.mp (Nat.le_zero.mp h)]
  | x :: t, m, nd, sub, h => by
    obtain ⟨n1, n2⟩ := List.nodup_cons.mp nd
    have hx : x ∈ m := sub x List.mem_cons_self
    have p1 := List.perm_cons_erase hx
    have l1 := p1.length_eq
    rw [List.length_cons] at l1 h
    refine p1.trans (List.Perm.cons x (perm_of n2 (fun y hy => ?_) (by omega)))
    have ne : y ≠ x := fun e => n1 (e ▸ hy)
    exact (List.mem_erase_of_ne ne).mpr (sub y (List.mem_cons_of_mem _ hy))
abbrev LtS (a b : Str) : Prop := a.cps.toList < b.cps.toList
theorem ltS_ne {a b : Str} (h : LtS a b) : a ≠ b := fun e => by rw [e] at h; exact List.lt_irrefl _ h
theorem not_ltS {a b : Str} (h : ¬ LtS b a) (ne : a ≠ b) : LtS a b := by
  rcases Decidable.em (LtS a b) with c | c
  · exact c
  · exact absurd (str_ext (List.le_antisymm (List.not_lt.mp h) (List.not_lt.mp c))) ne
theorem rising_all : ∀ (r : List Str) (p : Str), risingS p r = true → (∀ y ∈ r, ¬ LtS y p) ∧ r.Pairwise fun a b => ¬ LtS b a
  | [], p, _ => ⟨nofun, List.Pairwise.nil⟩
  | x :: r, p, h => by
    unfold risingS at h
    rw [Bool.and_eq_true] at h
    obtain ⟨h1, h2⟩ := h
    have hx : ¬ LtS x p := fun c => by
      have : ltCps x.cps.toList p.cps.toList = true := by rw [ltCps_eq]; exact decide_eq_true c
      rw [this] at h1; cases h1
    obtain ⟨i1, i2⟩ := rising_all r x h2
    refine ⟨fun y hy => ?_, List.pairwise_cons.mpr ⟨i1, i2⟩⟩
    rcases List.mem_cons.mp hy with e | e
    · rw [e]; exact hx
    · exact List.not_lt.mpr (List.le_trans (List.not_lt.mp hx) (List.not_lt.mp (i1 y e)))
/-- strictly rising -/
theorem sorted_lt {zs : List Str} (h : sortedS zs = true) (nd : zs.Nodup) : zs.Pairwise LtS := by
  have p : zs.Pairwise fun a b => ¬ LtS b a := by
    cases zs with
    | nil => exact List.Pairwise.nil
    | cons x r =>
      obtain ⟨i1, i2⟩ := rising_all r x h
      exact List.pairwise_cons.mpr ⟨i1, i2⟩
  exact (p.and nd).imp fun ⟨h1, h2⟩ => not_ltS h1 h2
/-- two strictly rising lists with the same members are one -/
theorem rise_one : ∀ {l m : List Str}, l.Pairwise LtS → m.Pairwise LtS → (∀ k, k ∈ l ↔ k ∈ m) → l = m
  | [], m, _, _, h => by
    cases m with
    | nil => rfl
    | cons y t => exact absurd ((h y).mpr List.mem_cons_self) (by simp)
  | x :: t, m, hl, hm, h => by
    cases m with
    | nil => exact absurd ((h x).mp List.mem_cons_self) (by simp)
    | cons y u =>
      obtain ⟨l1, l2⟩ := List.pairwise_cons.mp hl
      obtain ⟨m1, m2⟩ := List.pairwise_cons.mp hm
      have e : x = y := by
        rcases List.mem_cons.mp ((h x).mp List.mem_cons_self) with e | e
        · exact e
        · rcases List.mem_cons.mp ((h y).mpr List.mem_cons_self) with e2 | e2
          · exact e2.symm
          · exact absurd (List.lt_trans (m1 x e) (l1 y e2)) (List.lt_irrefl _)
      subst e
      have nx : ∀ k, k ∈ t → k ≠ x := fun k hk e => List.lt_irrefl _ (e ▸ l1 k hk : LtS x x)
      have ny : ∀ k, k ∈ u → k ≠ x := fun k hk e => List.lt_irrefl _ (e ▸ m1 k hk : LtS x x)
      rw [rise_one l2 m2 fun k => ⟨fun hk => (List.mem_cons.mp ((h k).mp (List.mem_cons_of_mem _ hk))).resolve_left (nx k hk), fun hk => (List.mem_cons.mp ((h k).mpr (List.mem_cons_of_mem _ hk))).resolve_left (ny k hk)⟩]
theorem putL_mem (l : List Str) (k x : Str) : x ∈ putL l k ↔ x ∈ l ∨ x = k := by
  unfold putL
  split
  · rename_i c
    exact ⟨.inl, fun h => h.elim id fun e => e ▸ c⟩
  · rw [List.mem_cons]; exact Or.comm
theorem foldL_mem : ∀ (xs l : List Str) (x : Str), x ∈ xs.foldl putL l ↔ x ∈ l ∨ x ∈ xs
  | [], l, x => by simp
  | y :: r, l, x => by
    rw [List.foldl_cons, foldL_mem r, putL_mem, List.mem_cons, or_assoc]
theorem foldL_nd : ∀ (xs l : List Str), l.Nodup → (xs.foldl putL l).Nodup
  | [], l, h => h
  | y :: r, l, h => by
    rw [List.foldl_cons]
    refine foldL_nd r _ ?_
    unfold putL
    split
    · exact h
    · rename_i c; exact List.nodup_cons.mpr ⟨c, h⟩
/-! ### sorted(set) -/
section
variable {P : Program} {w : World} {A : Around} {E : Value → Shared → Prop} {s : Shared} {h : Heap} {a : Addr} {l : List Str}
theorem sorted_setX {Q : Value → Shared → Prop} (z : SX P w s.heap a l) (hn : A.handled = none) (few : l.length < 64)
    (q : ∀ s2 p (out : Array Value) (c : Nat) (zs : List Str), (∀ b o, s.heap.get? b = some o → s2.heap.get? b = some o) → s2.gens = s.gens → s2.os = s.os → s.heap.objs.size ≤ p →
      s2.heap.get? p = some (seqObj "list" out c) → StrsAre out.toList zs → zs.Perm l → sortedS zs = true → Q (.ref p) s2) : wpAny (model P w) A (call (.builtin "sorted") [.ref a]) Q E s := by
  obtain ⟨⟨es, ep, t⟩, ho, F, nd, r, ld⟩ := z
  have es_ : es.size = l.length := F.sz
  have sb : es.size < scanBound := Nat.lt_of_lt_of_le (show es.size < 64 by omega) (by unfold scanBound; decide)
  refine Calls.call_function_entry kind_sorted plain_sorted entry_sorted (args_sorted1 (.ref a)) ?_
  unfold Builtin.«sorted»
  refine wpAny_bind (m := checkCount "sorted" 1 1 _) (wpAny_pure (wpAny_bind (collect_set (A := A.in1) hn ⟨_, ho, rfl, rfl⟩ F.fit sb r ld fun s1 vs k1 z1 g1 o1 pm => ?_)))
  have vl : vs.length = l.length := by rw [pm.length_eq, List.length_map, Array.length_toList]; exact es_
  have str : ∀ v ∈ vs, ∃ x tk, v = .str x tk := fun v hv => by
    obtain ⟨e, he, q⟩ := List.mem_map.mp (pm.mem_iff.mp hv)
    obtain ⟨⟨k, ik, _⟩, _⟩ := F.el e he
    obtain ⟨tk, et⟩ := Value.isStrOf_shape ik
    exact ⟨k, tk, by rw [← q]; exact et⟩
  have hS : StrsAre vs (vs.map strOf) := strsAre_map vs str
  have pl : (vs.map strOf).Perm l := by
    refine perm_of nd (fun k hk => ?_) (by rw [List.length_map, vl]; exact Nat.le_refl _)
    obtain ⟨e, he, ik⟩ := (F.mem k).mp hk
    obtain ⟨tk, et⟩ := Value.isStrOf_shape ik
    exact List.mem_map.mpr ⟨e.2, pm.mem_iff.mpr (List.mem_map.mpr ⟨e, he, rfl⟩), by rw [et]; rfl⟩
  refine wpAny_bind (wpAny_newList ?_ (Nat.le_trans (show vs.length ≤ 64 by omega) (by rw [sizeLine_eq]; decide)))
  have oL : (s1.heap.push (seqObj "list" vs.toArray 0)).get? s1.heap.objs.size = some (seqObj "list" vs.toArray 0) := Heap.get?_push_size _ rfl
  have hO := strKind_oneLt
  refine wpAny_bind (wpAny_holding (wpAny_call_entry slot_list_sort ⟨_, oL, rfl⟩ entry_list_sort (list_sort_treeK hO oL hS.keysOf (fun v1 v2 rest e => keyKind_strs (by rw [← e]; exact hS)) (by omega) fun st hp hs => ⟨_, rfl, ?_⟩) (args_list_sort (.ref s1.heap.objs.size))))
  obtain ⟨zs, a1, a2, a3⟩ := sorted_out_str hS hp hs
  obtain ⟨c, hc⟩ := sortedHeap_at (vs := vs) (out := (arrOf st).map (·.2)) oL
  refine wpAny_pure ⟨_, rfl, q _ s1.heap.objs.size _ c zs (fun b u e => ?_) g1 o1 z1 hc a1 (a2.trans pl) a3⟩
  have e1 := k1 b u e
  have lt := Heap.lt_size e1
  show (sortedHeap (s1.heap.push (seqObj "list" vs.toArray 0)) s1.heap.objs.size vs _).get? b = some u
  refine (sortedHeap_old (Nat.ne_of_lt lt) (by rw [size_push']; exact Nat.lt_succ_of_lt lt)).trans (Heap.get?_push_of_some _ e1)
end
/-! ### rules -/
def SXO (P : Program) (w : World) (a : Addr) (l : List Str) : HO := .ext fun h => SX P w h a l
section
variable {X : Cx}
theorem sxo_new {P : Program} {w : World} {H : Hp} {h : Heap} {a : Addr} {l : List Str} (z : SX P w h a l) : ObjOk P w H h a (SXO P w a l) := by
  have ⟨D, ho, _⟩ := z
  exact ⟨z, ⟨_, ho⟩, fun h1 h2 p k => SX.at p fun o e => k o e⟩
def rSetX (K : PySem.W.Frag) (P : Program) (w : World) : List V → Hp → VK → Prop := fun xs H Q => ∃ (p : Addr) (ys : List Str), xs = [.ref p] ∧ SqL K H p (ys.map V.str) ∧ ys.length < 64 ∧ ∀ a, H a = none → Q (.ref a) (upd H a (SXO P w a (ys.foldl putL [])))
theorem cr_setX (hc : X.calm = true) : CallR X (.type "set") (rSetX X.K X.prog X.w) := by
  intro pins s σ H xs us Q I r h
  obtain ⟨p, ys, rfl, hp, few, q⟩ := h
  rw [Vals.ref1 r]
  obtain ⟨its, rv, pl, _⟩ := I.list hp
  have hn : H s.heap.objs.size = none := I.hok.fresh (Nat.le_refl _)
  refine call_setX (P := X.prog) (w := X.w) (xs := ys) (I.ok.hd hc) pl.isList (by simpa using rv.strs) (Nat.lt_of_lt_of_le (show ys.length + 1 < 65 by omega) (by unfold scanBound; decide)) fun h2 tk z k => ?_
  exact ⟨.ref _, _, I.laid (t' := tk) k (Nat.le_refl _) (sxo_new z), rfl, q _ hn⟩
def rSortX (P : Program) (w : World) : List V → Hp → VK → Prop := fun xs H Q => ∃ (a : Addr) (l : List Str), xs = [.ref a] ∧ H a = some (SXO P w a l) ∧ l.Nodup ∧ l.length < 64 ∧ ∀ (zs : List Str) (p : Addr), zs.Pairwise LtS → (∀ k, k ∈ zs ↔ k ∈ l) → zs.length = l.length → H p = none → Q (.ref p) (upd H p (.lst (zs.map V.str)))
theorem cr_sortX (hc : X.calm = true) : CallR X (.builtin "sorted") (rSortX X.prog X.w) := by
  intro pins s σ H xs us Q I r h
  obtain ⟨a, l, rfl, ha, nd, few, q⟩ := h
  have z : SX X.prog X.w s.heap a l := (I.hok a _ ha).1
  rw [Vals.ref1 r]
  refine sorted_setX z (I.ok.hd hc) few fun s2 p out c zs k g o hp hg hs pm so => ?_
  have ln : (zs.map V.str).length ≤ sizeLine := by rw [List.length_map, pm.length_eq, sizeLine_eq]; omega
  have hn : H p = none := I.hok.fresh hp
  have J : Inv X pins σ (upd H p (.lst (zs.map V.str))) { s with heap := s2.heap, gens := s2.gens, drawn := s2.drawn, toks := s2.toks } :=
    I.call (ch := []) (Un.laid k hp hn) (I.hok.laid k hp ⟨ln, out.toList, c, vals_of_strs hs, hg⟩) (by rw [g]; exact I.bare) fun _ y => nomatch y
  have e : s2 = { s with heap := s2.heap, gens := s2.gens, drawn := s2.drawn, toks := s2.toks } := by
    obtain ⟨_, _, _, _, _⟩ := s2
    obtain ⟨_, _, _, _, _⟩ := s
    cases o
    rfl
  rw [e]
  exact ⟨.ref p, _, J, rfl, q zs p (sorted_lt so (pm.nodup_iff.mpr nd)) (fun k => pm.mem_iff) pm.length_eq hn⟩
end
end Aq
/-! Mirrors: values without addresses (D), worlds, what represents what -/
namespace Mi
open PySem L2 Aq Evl
/-- a value without addresses. own: a list or dict that the running def alone holds; bor: one that a caller holds; cel: a shared thing that changes (the pen) -/
inductive D where
  | int (i : Int) | bl (b : Bool) | non | str (z : Str)
  | tup (xs : List D) | ftp (xs : List D) | lst (xs : List D) | dic (kvs : List (Key × D))
  | obj (c : Str) (fs : List (Str × D))
  | cel (k : Nat) | pen (n : Nat) | scr
  | ty (n : String) | cls (c : Str)
  | own (t : Option Addr) (d : D) | bor (d : D)
  | exc (a : Addr) (d : Option Addr) (c : Str) (fs : List (Str × D))
structure Wd where
  H : Hp
  S : List D
  ρ : List Addr
  F : List Addr
  O : List Addr
def Wd.Lv (w : Wd) (a : Addr) : Prop := a ∈ w.ρ ∨ a ∈ w.F ∨ a ∈ w.O
def D.val : D → Bool
  | .own _ _ => false
  | .bor _ => false
  | .pen _ => false
  | _ => true
def D.nown : D → Bool
  | .own _ _ => false
  | .pen _ => false
  | _ => true
section
variable (K : PySem.W.Frag) (κ : Str → Addr)
/-- a tuple of vs stands at a, for good -/
def TupAt (w : Wd) (a : Addr) (vs : List V) : Prop := (¬ w.Lv a ∧ (w.H a = some (.tup vs) ∨ ∃ o, w.H a = some (.frz o (.tup vs)) ∧ o.dict = none)) ∨ ∀ H, SqT K H a vs
mutual
def Rep (w : Wd) : D → V → Prop
  | .int i, v => v = .int i
  | .bl b, v => v = .bl b
  | .non, v => v = .non
  | .str z, v => v = .str z
  | .tup ds, v => ∃ a vs, v = .ref a ∧ TupAt K w a vs ∧ RepL w ds vs
  | .ftp ds, v => ∃ a vs, v = .ref a ∧ (¬ w.Lv a ∧ ∃ o, w.H a = some (.frz o (.tup vs)) ∧ o.dict = none) ∧ RepL w ds vs
  | .lst ds, v => ∃ a vs, v = .ref a ∧ (¬ w.Lv a ∧ w.H a = some (.lst vs)) ∧ RepL w ds vs
  | .dic kvs, v => ∃ a us, v = .ref a ∧ (¬ w.Lv a ∧ w.H a = some (.dK us)) ∧ RepK w kvs us
  | .obj c fs, v => ∃ a dx us, v = .ref a ∧ (¬ w.Lv a ∧ w.H a = some (.ins (κ c) dx us)) ∧ RepF w fs us
  | .cel k, v => ∃ a, v = .ref a ∧ w.ρ[k]? = some a
  | .pen _, _ => False
  | .scr, v => ∃ (a : Addr) (ns : List Int), v = .ref a ∧ ((¬ w.Lv a ∧ ∃ o, w.H a = some (.frz o (.lst (ns.map V.int)))) ∨ ∀ H, SqL K H a (ns.map V.int))
  | .ty n, v => v = .ty n
  | .cls c, v => v = .ref (κ c)
  | .own _ _, _ => False
  | .bor _, _ => False
  | .exc a d _ fs, v => v = .ref a ∧ ∀ dd, d = some dd → ∃ us, (¬ w.Lv dd ∧ w.H dd = some (.xd us)) ∧ RepF w fs us
def RepL (w : Wd) : List D → List V → Prop
  | [], vs => vs = []
  | d :: r, vs => ∃ v t, vs = v :: t ∧ Rep w d v ∧ RepL w r t
def RepK (w : Wd) : List (Key × D) → List (Key × V) → Prop
  | [], us => us = []
  | (k, d) :: r, us => ∃ v t, us = (k, v) :: t ∧ Rep w d v ∧ RepK w r t
def RepF (w : Wd) : List (Str × D) → List (Str × V) → Prop
  | [], us => us = []
  | (k, d) :: r, us => ∃ v t, us = (k, v) :: t ∧ Rep w d v ∧ RepF w r t
end
end
/-- what stands and is not held by anyone stays -/
structure Stay (w w' : Wd) : Prop where
  ρ : ∀ (k : Nat) (a : Addr), w.ρ[k]? = some a → w'.ρ[k]? = some a
  H : ∀ (a : Addr) (o : HO), w.H a = some o → ¬ w.Lv a → w'.H a = some o ∧ ¬ w'.Lv a
theorem Stay.refl (w : Wd) : Stay w w := ⟨fun _ _ h => h, fun _ _ h n => ⟨h, n⟩⟩
theorem Stay.trans {w w1 w2 : Wd} (a : Stay w w1) (b : Stay w1 w2) : Stay w w2 :=
  ⟨fun k x h => b.ρ k x (a.ρ k x h), fun x o h n => let ⟨h1, n1⟩ := a.H x o h n; b.H x o h1 n1⟩
section
variable {K : PySem.W.Frag} {κ : Str → Addr} {w w' : Wd}
theorem TupAt.stay {a : Addr} {vs : List V} (s : Stay w w') (h : TupAt K w a vs) : TupAt K w' a vs := by
  rcases h with ⟨n, h | ⟨o, h, e⟩⟩ | h
  · obtain ⟨h1, n1⟩ := s.H a _ h n
    exact .inl ⟨n1, .inl h1⟩
  · obtain ⟨h1, n1⟩ := s.H a _ h n
    exact .inl ⟨n1, .inr ⟨o, h1, e⟩⟩
  · exact .inr h
theorem TupAt.sq {a : Addr} {vs : List V} (h : TupAt K w a vs) : SqT K w.H a vs := by
  rcases h with ⟨n, h | ⟨o, h, e⟩⟩ | h
  · exact .inl (.inl h)
  · exact .inl (.inr ⟨o, h⟩)
  · exact h _
mutual
theorem Rep.stay (s : Stay w w') : ∀ (d : D) (v : V), Rep K κ w d v → Rep K κ w' d v
  | .int _, _, h => h
  | .bl _, _, h => h
  | .non, _, h => h
  | .str _, _, h => h
  | .tup ds, v, ⟨a, vs, e, t, l⟩ => ⟨a, vs, e, t.stay s, RepL.stay s ds vs l⟩
  | .ftp ds, v, ⟨a, vs, e, ⟨n, o, h, z⟩, l⟩ => ⟨a, vs, e, ⟨(s.H a _ h n).2, o, (s.H a _ h n).1, z⟩, RepL.stay s ds vs l⟩
  | .lst ds, v, ⟨a, vs, e, t, l⟩ => ⟨a, vs, e, (s.H a _ t.2 t.1).symm, RepL.stay s ds vs l⟩
  | .dic ds, v, ⟨a, vs, e, t, l⟩ => ⟨a, vs, e, (s.H a _ t.2 t.1).symm, RepK.stay s ds vs l⟩
  | .obj c fs, v, ⟨a, dx, us, e, t, l⟩ => ⟨a, dx, us, e, (s.H a _ t.2 t.1).symm, RepF.stay s fs us l⟩
  | .cel k, v, ⟨a, e, h⟩ => ⟨a, e, s.ρ k a h⟩
  | .pen _, _, h => h
  | .scr, v, ⟨a, ns, e, h⟩ => ⟨a, ns, e, h.imp (fun ⟨n, o, h⟩ => let ⟨h1, n1⟩ := s.H a _ h n; ⟨n1, o, h1⟩) id⟩
  | .ty _, _, h => h
  | .cls _, _, h => h
  | .own _ _, _, h => h
  | .bor _, _, h => h
  | .exc a d c fs, v, ⟨e, h⟩ => ⟨e, fun dd q => let ⟨us, t, l⟩ := h dd q; ⟨us, (s.H dd _ t.2 t.1).symm, RepF.stay s fs us l⟩⟩
theorem RepL.stay (s : Stay w w') : ∀ (ds : List D) (vs : List V), RepL K κ w ds vs → RepL K κ w' ds vs
  | [], _, h => h
  | d :: r, vs, ⟨v, t, e, h, l⟩ => ⟨v, t, e, Rep.stay s d v h, RepL.stay s r t l⟩
theorem RepK.stay (s : Stay w w') : ∀ (ds : List (Key × D)) (vs : List (Key × V)), RepK K κ w ds vs → RepK K κ w' ds vs
  | [], _, h => h
  | (k, d) :: r, vs, ⟨v, t, e, h, l⟩ => ⟨v, t, e, Rep.stay s d v h, RepK.stay s r t l⟩
theorem RepF.stay (s : Stay w w') : ∀ (ds : List (Str × D)) (vs : List (Str × V)), RepF K κ w ds vs → RepF K κ w' ds vs
  | [], _, h => h
  | (k, d) :: r, vs, ⟨v, t, e, h, l⟩ => ⟨v, t, e, Rep.stay s d v h, RepF.stay s r t l⟩
end
end
section
variable (K : PySem.W.Frag) (κ : Str → Addr)
/-- what a changing thing at a holds now -/
def View (w : Wd) : D → Addr → Prop
  | .lst ds, a => ∃ vs, w.H a = some (.lst vs) ∧ RepL K κ w ds vs
  | .dic ds, a => ∃ us, w.H a = some (.dK us) ∧ RepK K κ w ds us
  | .obj c fs, a => ∃ dx us, w.H a = some (.ins (κ c) dx us) ∧ RepF K κ w fs us
  | .pen n, a => ∃ c, Pen "cells" "begun" "left" w.H a c n ∧ ¬ w.Lv c
  | _, _ => False
/-- a value as an expression gives it -/
def RX (w : Wd) (d : D) (v : V) : Prop := match d with
  | .own t d => ∃ a, v = .ref a ∧ (a ∈ w.F ∧ ∀ b, t = some b → b = a) ∧ View K κ w d a
  | .bor d => ∃ a, v = .ref a ∧ a ∈ w.O ∧ View K κ w d a
  | d => Rep K κ w d v
structure Good (w : Wd) : Prop where
  len : w.S.length = w.ρ.length
  nd : w.ρ.Nodup
  df : ∀ a ∈ w.ρ, a ∉ w.F ∧ a ∉ w.O
  dfo : ∀ a ∈ w.F, a ∉ w.O
  al : ∀ a, w.Lv a → w.H a ≠ none
  cel : ∀ (k : Nat) (a : Addr) (d : D), w.ρ[k]? = some a → w.S[k]? = some d → View K κ w d a
/-- behind an expression -/
structure Gr (w w' : Wd) : Prop where
  F : w'.F = w.F
  O : w'.O = w.O
  ρ : ∀ (k : Nat) (a : Addr), w.ρ[k]? = some a → w'.ρ[k]? = some a
  fr : ∀ a ∈ w'.ρ, a ∈ w.ρ ∨ w.H a = none
  H : ∀ (a : Addr) (o : HO), w.H a = some o → a ∉ w.ρ → w'.H a = some o
/-- behind a statement -/
structure St (w w' : Wd) : Prop where
  O : w'.O = w.O
  st : Stay w w'
  H : ∀ a ∈ w.O, w'.H a = w.H a
/-- behind an expression that gives a new thing, held by the def -/
structure GrN (w w' : Wd) (p : Addr) : Prop where
  F : w'.F = p :: w.F
  O : w'.O = w.O
  ρ : ∀ (k : Nat) (a : Addr), w.ρ[k]? = some a → w'.ρ[k]? = some a
  fr : ∀ a ∈ w'.ρ, a ∈ w.ρ ∨ w.H a = none
  H : ∀ (a : Addr) (o : HO), w.H a = some o → a ∉ w.ρ → w'.H a = some o
  p : w.H p = none
end
section
variable {K : PySem.W.Frag} {κ : Str → Addr} {w w' w1 w2 : Wd} {d : D} {v : V} {a p : Addr}
theorem Gr.refl (w : Wd) : Gr w w := ⟨rfl, rfl, fun _ _ h => h, fun _ h => .inl h, fun _ _ h _ => h⟩
theorem Gr.trans (x : Gr w w1) (y : Gr w1 w2) : Gr w w2 := by
  refine ⟨y.F.trans x.F, y.O.trans x.O, fun k a h => y.ρ k a (x.ρ k a h), fun a h => ?_, fun a o h n => y.H a o (x.H a o h n) fun q => ?_⟩
  · rcases y.fr a h with q | q
    · exact x.fr a q
    · cases e : w.H a with
      | none => exact .inr rfl
      | some o =>
        by_cases m : a ∈ w.ρ
        · exact .inl m
        · rw [x.H a o e m] at q; cases q
  · rcases x.fr a q with r | r
    · exact n r
    · rw [h] at r; cases r
theorem Gr.stay (x : Gr w w') : Stay w w' := ⟨x.ρ, fun a o h n => ⟨x.H a o h fun q => n (.inl q), fun q => by
  rcases q with q | q | q
  · rcases x.fr a q with r | r
    · exact n (.inl r)
    · rw [h] at r; cases r
  · rw [x.F] at q; exact n (.inr (.inl q))
  · rw [x.O] at q; exact n (.inr (.inr q))⟩⟩
theorem Gr.hF (g : Good K κ w) (x : Gr w w') (h : a ∈ w.F) : w'.H a = w.H a := by
  cases e : w.H a with
  | none => exact absurd e (g.al a (.inr (.inl h)))
  | some o => exact x.H a o e fun q => (g.df a q).1 h
theorem Gr.hO (g : Good K κ w) (x : Gr w w') (h : a ∈ w.O) : w'.H a = w.H a := by
  cases e : w.H a with
  | none => exact absurd e (g.al a (.inr (.inr h)))
  | some o => exact x.H a o e fun q => (g.df a q).2 h
theorem Gr.st (g : Good K κ w) (x : Gr w w') : St w w' := ⟨x.O, x.stay, fun _ h => x.hO g h⟩
theorem St.refl (w : Wd) : St w w := ⟨rfl, Stay.refl w, fun _ _ => rfl⟩
theorem St.trans (x : St w w1) (y : St w1 w2) : St w w2 := ⟨y.O.trans x.O, x.st.trans y.st, fun a h => (y.H a (x.O ▸ h)).trans (x.H a h)⟩
theorem View.stay (s : Stay w w') (e : w'.H a = w.H a) (h : View K κ w d a) : View K κ w' d a := by
  cases d with
  | lst ds => obtain ⟨vs, h1, h2⟩ := h; exact ⟨vs, e.trans h1, RepL.stay s _ _ h2⟩
  | dic ds => obtain ⟨vs, h1, h2⟩ := h; exact ⟨vs, e.trans h1, RepK.stay s _ _ h2⟩
  | obj c fs => obtain ⟨dx, us, h1, h2⟩ := h; exact ⟨dx, us, e.trans h1, RepF.stay s _ _ h2⟩
  | pen n =>
    obtain ⟨c, ⟨ns, i, j, h1, h2, r⟩, nc⟩ := h
    obtain ⟨h3, n3⟩ := s.H c _ h2 nc
    exact ⟨c, ⟨ns, i, j, e.trans h1, h3, r⟩, n3⟩
  | _ => exact h.elim
theorem RX.gr (g : Good K κ w) (x : Gr w w') (h : RX K κ w d v) : RX K κ w' d v := by
  cases d with
  | own t d => obtain ⟨a, e, m, V⟩ := h; exact ⟨a, e, ⟨x.F ▸ m.1, m.2⟩, V.stay x.stay (x.hF g m.1)⟩
  | bor d => obtain ⟨a, e, m, V⟩ := h; exact ⟨a, e, x.O ▸ m, V.stay x.stay (x.hO g m)⟩
  | _ => exact Rep.stay x.stay _ _ h
theorem RX.of_rep (h : Rep K κ w d v) : RX K κ w d v := by
  cases d with
  | own t d => exact h.elim
  | bor d => exact h.elim
  | _ => exact h
theorem RX.rep (e : d.val = true) (h : RX K κ w d v) : Rep K κ w d v := by
  cases d with
  | own t d => cases e
  | bor d => cases e
  | _ => exact h
def pk (S : List D) : D → D
  | .own _ d => d
  | .bor d => d
  | .cel k => match S[k]? with
    | some (.ftp _) => .scr
    | some d => d
    | none => .scr
  | .ftp ds => .tup ds
  | d => d
theorem cel_of (g : Good K κ w) {k : Nat} (h : Rep K κ w (.cel k) v) : ∃ a c, v = .ref a ∧ w.ρ[k]? = some a ∧ w.S[k]? = some c ∧ View K κ w c a := by
  obtain ⟨a, e, h⟩ := h
  have hk := (List.getElem?_eq_some_iff.mp h).1
  rw [← g.len] at hk
  exact ⟨a, w.S[k], e, h, by simp [hk], g.cel k a _ h (by simp [hk])⟩
theorem lst_of (g : Good K κ w) (h : RX K κ w d v) {ds : List D} (e : pk w.S d = .lst ds) : ∃ a vs, v = .ref a ∧ w.H a = some (.lst vs) ∧ RepL K κ w ds vs := by
  cases d with
  | own t d => cases e; obtain ⟨a, e, m, vs, h1, h2⟩ := h; exact ⟨a, vs, e, h1, h2⟩
  | bor d => cases e; obtain ⟨a, e, m, vs, h1, h2⟩ := h; exact ⟨a, vs, e, h1, h2⟩
  | lst ds => cases e; obtain ⟨a, vs, e, h1, h2⟩ := h; exact ⟨a, vs, e, h1.2, h2⟩
  | cel k =>
    obtain ⟨a, c, e1, _, h2, V⟩ := cel_of g h
    have e : pk w.S (.cel k) = .lst ds := e
    simp only [pk, h2] at e
    cases c <;> first | exact V.elim | cases e
    obtain ⟨vs, h1, h2⟩ := V
    exact ⟨a, vs, e1, h1, h2⟩
  | _ => cases e
theorem dic_of (g : Good K κ w) (h : RX K κ w d v) {ds : List (Key × D)} (e : pk w.S d = .dic ds) : ∃ a us, v = .ref a ∧ w.H a = some (.dK us) ∧ RepK K κ w ds us := by
  cases d with
  | own t d => cases e; obtain ⟨a, e, m, vs, h1, h2⟩ := h; exact ⟨a, vs, e, h1, h2⟩
  | bor d => cases e; obtain ⟨a, e, m, vs, h1, h2⟩ := h; exact ⟨a, vs, e, h1, h2⟩
  | dic ds => cases e; obtain ⟨a, vs, e, h1, h2⟩ := h; exact ⟨a, vs, e, h1.2, h2⟩
  | cel k =>
    obtain ⟨a, c, e1, _, h2, V⟩ := cel_of g h
    have e : pk w.S (.cel k) = .dic ds := e
    simp only [pk, h2] at e
    cases c <;> first | exact V.elim | cases e
    obtain ⟨vs, h1, h2⟩ := V
    exact ⟨a, vs, e1, h1, h2⟩
  | _ => cases e
theorem obj_of (g : Good K κ w) (h : RX K κ w d v) {c : Str} {fs : List (Str × D)} (e : pk w.S d = .obj c fs) : ∃ a dx us, v = .ref a ∧ w.H a = some (.ins (κ c) dx us) ∧ RepF K κ w fs us := by
  cases d with
  | own t d => cases e; obtain ⟨a, e, m, dx, us, h1, h2⟩ := h; exact ⟨a, dx, us, e, h1, h2⟩
  | bor d => cases e; obtain ⟨a, e, m, dx, us, h1, h2⟩ := h; exact ⟨a, dx, us, e, h1, h2⟩
  | obj c fs => cases e; obtain ⟨a, dx, us, e, h1, h2⟩ := h; exact ⟨a, dx, us, e, h1.2, h2⟩
  | cel k =>
    obtain ⟨a, c1, e1, _, h2, V⟩ := cel_of g h
    have e : pk w.S (.cel k) = .obj c fs := e
    simp only [pk, h2] at e
    cases c1 <;> first | exact V.elim | cases e
    obtain ⟨dx, us, h1, h2⟩ := V
    exact ⟨a, dx, us, e1, h1, h2⟩
  | _ => cases e
theorem tup_of (g : Good K κ w) (h : RX K κ w d v) {ds : List D} (e : pk w.S d = .tup ds) : ∃ a vs, v = .ref a ∧ TupAt K w a vs ∧ RepL K κ w ds vs := by
  cases d with
  | own t d => cases e; obtain ⟨a, e, m, V⟩ := h; exact V.elim
  | bor d => cases e; obtain ⟨a, e, m, V⟩ := h; exact V.elim
  | tup ds => cases e; exact h
  | ftp ds => cases e; obtain ⟨a, vs, e1, ⟨n, o, h1, z⟩, l⟩ := h; exact ⟨a, vs, e1, .inl ⟨n, .inr ⟨o, h1, z⟩⟩, l⟩
  | cel k =>
    obtain ⟨a, c, e1, _, h2, V⟩ := cel_of g h
    have e : pk w.S (.cel k) = .tup ds := e
    simp only [pk, h2] at e
    cases c <;> first | exact V.elim | cases e
  | _ => cases e
theorem pk_ftp (g : Good K κ w) (h : RX K κ w d v) {ds : List D} (e : pk w.S d = .ftp ds) : False := by
  cases d with
  | own t d => cases e; obtain ⟨a, _, _, V⟩ := h; exact V
  | bor d => cases e; obtain ⟨a, _, _, V⟩ := h; exact V
  | cel k =>
    obtain ⟨a, c, e1, _, h2, V⟩ := cel_of g h
    simp only [pk, h2] at e
    cases c <;> first | exact V.elim | cases e
  | _ => cases e
/-- a plain thing: the value itself -/
def flatD : D → Option V
  | .int i => some (.int i)
  | .bl b => some (.bl b)
  | .non => some .non
  | .str z => some (.str z)
  | _ => none
theorem flat_of (g : Good K κ w) (h : RX K κ w d v) {u : V} (e : flatD (pk w.S d) = some u) : v = u := by
  cases d with
  | own t d => obtain ⟨a, _, m, V⟩ := h; cases d <;> first | exact V.elim | cases e
  | bor d => obtain ⟨a, _, m, V⟩ := h; cases d <;> first | exact V.elim | cases e
  | cel k =>
    obtain ⟨a, c, e1, _, h2, V⟩ := cel_of g h
    have e : flatD (pk w.S (.cel k)) = some u := e
    simp only [pk, h2] at e
    cases c <;> first | exact V.elim | cases e
  | int i => cases e; exact h
  | bl i => cases e; exact h
  | non => cases e; exact h
  | str i => cases e; exact h
  | _ => cases e
theorem int_of (g : Good K κ w) (h : RX K κ w d v) {i : Int} (e : pk w.S d = .int i) : v = .int i := flat_of g h (by rw [e]; rfl)
theorem str_of (g : Good K κ w) (h : RX K κ w d v) {i : Str} (e : pk w.S d = .str i) : v = .str i := flat_of g h (by rw [e]; rfl)
theorem bl_of (g : Good K κ w) (h : RX K κ w d v) {i : Bool} (e : pk w.S d = .bl i) : v = .bl i := flat_of g h (by rw [e]; rfl)
theorem non_of (g : Good K κ w) (h : RX K κ w d v) (e : pk w.S d = .non) : v = .non := flat_of g h (by rw [e]; rfl)
/-! ### lists of what is represented -/
theorem RepL.len : ∀ {ds : List D} {vs : List V}, RepL K κ w ds vs → vs.length = ds.length
  | [], _, h => by cases h; rfl
  | d :: r, vs, ⟨v, t, e, _, l⟩ => by subst e; simp [RepL.len l]
theorem RepL.get : ∀ {ds : List D} {vs : List V} {i : Nat} {d : D}, RepL K κ w ds vs → ds[i]? = some d → ∃ v, vs[i]? = some v ∧ Rep K κ w d v
  | [], _, i, d, _, e => by simp at e
  | x :: r, vs, 0, d, ⟨v, t, e1, h, l⟩, e => by subst e1; simp at e; subst e; exact ⟨v, rfl, h⟩
  | x :: r, vs, i + 1, d, ⟨v, t, e1, h, l⟩, e => by
    subst e1
    obtain ⟨u, h1, h2⟩ := RepL.get (i := i) l (by simpa using e)
    exact ⟨u, by simpa using h1, h2⟩
theorem RepL.get' : ∀ {ds : List D} {vs : List V} {i : Nat} {v : V}, RepL K κ w ds vs → vs[i]? = some v → ∃ d, ds[i]? = some d ∧ Rep K κ w d v := fun {ds vs i v} h e => by
  have hi := (List.getElem?_eq_some_iff.mp e).1
  rw [h.len] at hi
  obtain ⟨u, h1, h2⟩ := RepL.get (i := i) (d := ds[i]) h (by simp [hi])
  rw [e] at h1; cases h1
  exact ⟨ds[i], by simp [hi], h2⟩
theorem RepL.app : ∀ {ds es : List D} {vs us : List V}, RepL K κ w ds vs → RepL K κ w es us → RepL K κ w (ds ++ es) (vs ++ us)
  | [], es, _, us, h, l => by cases h; exact l
  | d :: r, es, vs, us, ⟨v, t, e, h, l⟩, m => by subst e; exact ⟨v, t ++ us, rfl, h, RepL.app l m⟩
theorem RepL.one (h : Rep K κ w d v) : RepL K κ w [d] [v] := ⟨v, [], rfl, h, rfl⟩
theorem RepL.drop : ∀ (n : Nat) {ds : List D} {vs : List V}, RepL K κ w ds vs → RepL K κ w (ds.drop n) (vs.drop n)
  | 0, ds, vs, h => h
  | n + 1, [], vs, h => by cases h; exact rfl
  | n + 1, d :: r, vs, ⟨v, t, e, h, l⟩ => by subst e; exact RepL.drop n l
theorem RepL.take : ∀ (n : Nat) {ds : List D} {vs : List V}, RepL K κ w ds vs → RepL K κ w (ds.take n) (vs.take n)
  | 0, ds, vs, h => rfl
  | n + 1, [], vs, h => by cases h; exact rfl
  | n + 1, d :: r, vs, ⟨v, t, e, h, l⟩ => by subst e; exact ⟨v, t.take n, rfl, h, RepL.take n l⟩
theorem RepL.set {d : D} {v : V} (hd : Rep K κ w d v) : ∀ (n : Nat) {ds : List D} {vs : List V}, RepL K κ w ds vs → RepL K κ w (ds.set n d) (vs.set n v)
  | n, [], vs, h => by cases h; exact rfl
  | 0, x :: r, vs, ⟨u, t, e, h, l⟩ => by subst e; exact ⟨v, t, rfl, hd, l⟩
  | n + 1, x :: r, vs, ⟨u, t, e, h, l⟩ => by subst e; exact ⟨u, t.set n v, rfl, h, RepL.set hd n l⟩
theorem RepL.rev : ∀ {ds : List D} {vs : List V}, RepL K κ w ds vs → RepL K κ w ds.reverse vs.reverse
  | [], _, h => by cases h; exact rfl
  | d :: r, vs, ⟨v, t, e, h, l⟩ => by subst e; rw [List.reverse_cons, List.reverse_cons]; exact RepL.app (RepL.rev l) (RepL.one h)
theorem RepL.at {i : Int} {ds : List D} {vs : List V} (h : RepL K κ w ds vs) (e : atI ds i = some d) : ∃ v, atI vs i = some v ∧ Rep K κ w d v := by
  unfold atI at e ⊢
  rw [h.len]
  cases q : ixN ds.length i with
  | none => rw [q] at e; cases e
  | some j => rw [q] at e; exact h.get e
def cutD (xs : List D) (lo hi : Option Int) : List D := (xs.drop (HT.sIx xs.length 0 lo)).take (HT.sIx xs.length xs.length hi - HT.sIx xs.length 0 lo)
theorem RepL.cut {ds : List D} {vs : List V} (h : RepL K κ w ds vs) (lo hi : Option Int) : RepL K κ w (cutD ds lo hi) (cutV vs lo hi) := by
  unfold cutD cutV
  rw [h.len]
  exact RepL.take _ (RepL.drop _ h)
theorem RepL.rep (n : Nat) {ds : List D} {vs : List V} (h : RepL K κ w ds vs) : RepL K κ w (List.replicate n ds).flatten (List.replicate n vs).flatten := by
  induction n with
  | zero => exact rfl
  | succ n ih => rw [List.replicate_succ, List.replicate_succ, List.flatten_cons, List.flatten_cons]; exact RepL.app h ih
theorem RepL.flat : ∀ {ds : List D} {us vs : List V}, ds.map flatD = us.map some → RepL K κ w ds vs → vs = us
  | [], us, vs, e, h => by cases h; cases us with | nil => rfl | cons _ _ => cases e
  | d :: r, [], vs, e, h => by cases e
  | d :: r, u :: us, vs, e, ⟨v, t, e1, h, l⟩ => by
    subst e1
    rw [List.map_cons, List.map_cons, List.cons.injEq] at e
    have e2 := RepL.flat e.2 l
    subst e2
    have : v = u := by
      have e := e.1
      cases d with
      | int i => cases e; exact h
      | bl i => cases e; exact h
      | non => cases e; exact h
      | str i => cases e; exact h
      | _ => cases e
    rw [this]
theorem RepF.look : ∀ {fs : List (Str × D)} {us : List (Str × V)} {f : Str} {d : D}, RepF K κ w fs us → fs.lookup f = some d → ∃ v, us.lookup f = some v ∧ Rep K κ w d v
  | [], _, f, d, _, e => by cases e
  | (k, x) :: r, us, f, d, ⟨v, t, e1, h, l⟩, e => by
    subst e1
    rw [List.lookup_cons] at e ⊢
    cases q : f == k with
    | true => rw [q] at e; simp at e; subst e; exact ⟨v, rfl, h⟩
    | false => rw [q] at e; exact RepF.look l (by simpa using e)
theorem RepF.none : ∀ {fs : List (Str × D)} {us : List (Str × V)} {f : Str}, RepF K κ w fs us → fs.lookup f = Option.none → us.lookup f = Option.none
  | [], _, f, h, _ => by cases h; rfl
  | (k, x) :: r, us, f, ⟨v, t, e1, h, l⟩, e => by
    subst e1
    rw [List.lookup_cons] at e ⊢
    cases q : f == k with
    | true => rw [q] at e; cases e
    | false => rw [q] at e; exact RepF.none l (by simpa using e)
def putD (f : Str) (v : D) : List (Str × D) → List (Str × D)
  | [] => [(f, v)]
  | (g, x) :: r => if g = f then (g, v) :: r else (g, x) :: putD f v r
theorem RepF.put {f : Str} (hd : Rep K κ w d v) : ∀ {fs : List (Str × D)} {us : List (Str × V)}, RepF K κ w fs us → RepF K κ w (putD f d fs) (putF f v us)
  | [], _, h => by cases h; exact ⟨v, [], rfl, hd, rfl⟩
  | (k, x) :: r, us, ⟨u, t, e1, h, l⟩ => by
    subst e1
    show RepF K κ w (if k = f then (k, d) :: r else (k, x) :: putD f d r) (if k = f then (k, v) :: t else (k, u) :: putF f v t)
    by_cases q : k = f
    · rw [if_pos q, if_pos q]; exact ⟨v, t, rfl, hd, l⟩
    · rw [if_neg q, if_neg q]; exact ⟨u, _, rfl, h, RepF.put hd l⟩
theorem RepF.len : ∀ {fs : List (Str × D)} {us : List (Str × V)}, RepF K κ w fs us → us.length = fs.length
  | [], _, h => by cases h; rfl
  | (k, d) :: r, vs, ⟨v, t, e, _, l⟩ => by subst e; simp [RepF.len l]
theorem RepK.len : ∀ {fs : List (Key × D)} {us : List (Key × V)}, RepK K κ w fs us → us.length = fs.length
  | [], _, h => by cases h; rfl
  | (k, d) :: r, vs, ⟨v, t, e, _, l⟩ => by subst e; simp [RepK.len l]
end
end Mi
/-! Mirrors of expressions: what a reading asks is met by its mirror -/
namespace Mi
open PySem L2 Aq Evl
abbrev Nv := List (Option D)
abbrev Sto := List D
/-- an own exception: its class, its fields (none where the class has no __init__) -/
abbrev Exn := Str × Option (List (Str × D))
abbrev DK := D → Sto → Prop
abbrev XM := Exn → Sto → Prop
abbrev ME := Nv → Sto → DK → XM → Prop
abbrev MT := Nv → Sto → (Bool → Sto → Prop) → XM → Prop
abbrev MA := Nv → Sto → (List D → Sto → Prop) → XM → Prop
abbrev F2 := D → D → Sto → DK → Prop
abbrev F1 := D → Sto → DK → Prop
abbrev FL := List D → Sto → DK → Prop
def D.box : D → Bool
  | .lst _ => true
  | .dic _ => true
  | .obj _ _ => true
  | _ => false
section
variable (K : PySem.W.Frag) (κ : Str → Addr)
structure EnvR (w : Wd) (η : Nv) (σ : L2.St) : Prop where
  len : η.length = σ.length
  at_ : ∀ (i : Nat) (d : D), η[i]? = some (some d) → ∃ v, σ[i]? = some (some v) ∧ RX K κ w d v
  dis : ∀ (i j : Nat) (s t : Option Addr) (d e : D) (a : Addr), η[i]? = some (some (.own s d)) → η[j]? = some (some (.own t e)) → σ[i]? = some (some (.ref a)) → σ[j]? = some (some (.ref a)) → i = j
/-- an exception that leaves -/
def ExR (w : Wd) (e : Exn) (c : Value) (dd : Option Addr) : Prop := c = .ref (κ e.1) ∧ (e.2 = none → dd = none) ∧ ∀ fs, e.2 = some fs → ∃ d us, dd = some d ∧ (¬ w.Lv d ∧ w.H d = some (.xd us)) ∧ RepF K κ w fs us
def HX (W : WX) (w : Wd) (σ : L2.St) (x : XM) : Prop := ∀ w' e c dd, Good K κ w' → Gr w w' → ExR K κ w' e c dd → x e w'.S → W c dd σ w'.H
/-- what is wanted of a value -/
def KX (w : Wd) (q : DK) (Q : VK) : Prop := ∀ w' d v, Good K κ w' → Gr w w' → RX K κ w' d v → q d w'.S → Q v w'.H
def KB (w : Wd) (q : Bool → Sto → Prop) (Q : Bool → Hp → Prop) : Prop := ∀ w' b, Good K κ w' → Gr w w' → q b w'.S → Q b w'.H
def KL (w : Wd) (q : List D → Sto → Prop) (Q : List V → Hp → Prop) : Prop := ∀ w' ds vs, Good K κ w' → Gr w w' → Paired (RX K κ w') ds vs → q ds w'.S → Q vs w'.H
def KN (w : Wd) (q : DK) (Q : VK) : Prop := ∀ w' d p, Good K κ w' → GrN w w' p → d.box = true → View K κ w' d p → q d w'.S → Q (.ref p) w'.H
structure RfE (W : WX) (t : TE) (m : ME) : Prop where
  go : ∀ w η σ q x Q, Good K κ w → EnvR K κ w η σ → m η w.S q x → HX K κ W w σ x → KX K κ w q Q → t σ w.H Q
structure RfT (W : WX) (t : TT) (m : MT) : Prop where
  go : ∀ w η σ q x Q, Good K κ w → EnvR K κ w η σ → m η w.S q x → HX K κ W w σ x → KB K κ w q Q → t σ w.H Q
structure RfA (W : WX) (t : TA) (m : MA) : Prop where
  go : ∀ w η σ q x Q, Good K κ w → EnvR K κ w η σ → m η w.S q x → HX K κ W w σ x → KL K κ w q Q → t σ w.H Q
/-- .. that gives a new list, dict or object -/
structure RfN (W : WX) (t : TE) (m : ME) : Prop where
  go : ∀ w η σ q x Q, Good K κ w → EnvR K κ w η σ → m η w.S q x → HX K κ W w σ x → KN K κ w q Q → t σ w.H Q
def RfO (r : R2) (f : F2) : Prop := ∀ w d e u v q Q, Good K κ w → RX K κ w d u → RX K κ w e v → f d e w.S q → KX K κ w q Q → r u v w.H Q
def RfON (r : R2) (f : F2) : Prop := ∀ w d e u v q Q, Good K κ w → RX K κ w d u → RX K κ w e v → f d e w.S q → KN K κ w q Q → r u v w.H Q
def RfU (r : V → Hp → VK → Prop) (f : F1) : Prop := ∀ w d u q Q, Good K κ w → RX K κ w d u → f d w.S q → KX K κ w q Q → r u w.H Q
def RfC (r : List V → Hp → VK → Prop) (f : FL) : Prop := ∀ w ds vs q Q, Good K κ w → Paired (RX K κ w) ds vs → f ds w.S q → KX K κ w q Q → r vs w.H Q
def RfCN (r : List V → Hp → VK → Prop) (f : FL) : Prop := ∀ w ds vs q Q, Good K κ w → Paired (RX K κ w) ds vs → f ds w.S q → KN K κ w q Q → r vs w.H Q
end
section
variable {K : PySem.W.Frag} {κ : Str → Addr} {W : WX} {w w' w1 : Wd} {η : Nv} {σ : L2.St}
theorem EnvR.gr (g : Good K κ w) (x : Gr w w') (h : EnvR K κ w η σ) : EnvR K κ w' η σ :=
  ⟨h.len, fun i d e => let ⟨v, h1, h2⟩ := h.at_ i d e; ⟨v, h1, h2.gr g x⟩, h.dis⟩
theorem HX.gr {x : XM} (y : Gr w w') (h : HX K κ W w σ x) : HX K κ W w' σ x := fun w2 e c dd g r => h w2 e c dd g (y.trans r)
theorem KX.gr {q : DK} {Q : VK} (y : Gr w w') (h : KX K κ w q Q) : KX K κ w' q Q := fun w2 d v g r => h w2 d v g (y.trans r)
theorem GrN.gr {p : Addr} (g1 : Good K κ w1) (y : Gr w w1) (g : GrN w1 w' p) : GrN w w' p := by
  refine ⟨g.F.trans (y.F ▸ rfl), g.O.trans y.O, fun k a h => g.ρ k a (y.ρ k a h), fun a h => ?_, fun a o h n => g.H a o (y.H a o h n) fun q => ?_, ?_⟩
  · rcases g.fr a h with q | q
    · exact y.fr a q
    · cases e : w.H a with
      | none => exact .inr rfl
      | some o =>
        by_cases m : a ∈ w.ρ
        · exact .inl m
        · rw [y.H a o e m] at q; cases q
  · rcases y.fr a q with r | r
    · exact n r
    · rw [h] at r; cases r
  · cases e : w.H p with
    | none => rfl
    | some o =>
      by_cases m : p ∈ w.ρ
      · obtain ⟨k, hk⟩ := List.mem_iff_getElem?.mp m
        exact absurd g.p (g1.al p (.inl (List.mem_of_getElem? (y.ρ k p hk))))
      · have := y.H p o e m
        rw [g.p] at this; cases this
theorem KN.gr {q : DK} {Q : VK} (g1 : Good K κ w') (y : Gr w w') (h : KN K κ w q Q) : KN K κ w' q Q := fun w2 d p g r => h w2 d p g (GrN.gr g1 y r)
theorem new_own {p : Addr} {o : HO} (g : Good K κ w) (h : w.H p = none) : Good K κ { w with H := upd w.H p o, F := p :: w.F } ∧ GrN w { w with H := upd w.H p o, F := p :: w.F } p ∧ Stay w { w with H := upd w.H p o, F := p :: w.F } := by
  have ne : ∀ a, w.H a ≠ none → a ≠ p := fun a z e => z (e ▸ h)
  have st : Stay w { w with H := upd w.H p o, F := p :: w.F } := ⟨fun _ _ z => z, fun a u z n => by
    have np := ne a (by rw [z]; exact nofun)
    refine ⟨by show upd w.H p o a = _; rw [upd_ne np]; exact z, fun q => ?_⟩
    rcases q with q | q | q
    · exact n (.inl q)
    · rcases List.mem_cons.mp q with q | q
      · exact np q
      · exact n (.inr (.inl q))
    · exact n (.inr (.inr q))⟩
  refine ⟨⟨g.len, g.nd, fun a z => ⟨fun q => ?_, (g.df a z).2⟩, fun a z q => ?_, fun a z => ?_, fun k a d z z2 => ?_⟩, ⟨rfl, rfl, fun _ _ z => z, fun _ z => .inl z, fun a u z _ => ?_, h⟩, st⟩
  · rcases List.mem_cons.mp q with q | q
    · exact ne a (g.al a (.inl z)) q
    · exact (g.df a z).1 q
  · rcases List.mem_cons.mp z with z | z
    · exact ne a (g.al a (.inr (.inr q))) z
    · exact g.dfo a z q
  · show upd w.H p o a ≠ none
    by_cases e : a = p
    · rw [e, upd_same]; exact nofun
    · rw [upd_ne e]
      rcases z with z | z | z
      · exact g.al a (.inl z)
      · exact g.al a (.inr (.inl ((List.mem_cons.mp z).resolve_left e)))
      · exact g.al a (.inr (.inr z))
  · refine View.stay st ?_ (g.cel k a d z z2)
    show upd w.H p o a = _
    rw [upd_ne (ne a (g.al a (.inl (List.mem_of_getElem? z))))]
  · show upd w.H p o a = _
    rw [upd_ne (ne a (by rw [z]; exact nofun))]; exact z
/-- an own thing is let go: it is a value from now on -/
theorem own_val {p : Addr} {d : D} (g0 : Good K κ w) (gr : GrN w w' p) (g : Good K κ w') (b : d.box = true) (h : View K κ w' d p) : Good K κ { w' with F := w.F } ∧ Gr w { w' with F := w.F } ∧ Rep K κ { w' with F := w.F } d (.ref p) := by
  have sub : ∀ a, a ∈ w.F → a ∈ w'.F := fun a z => by rw [gr.F]; exact List.mem_cons_of_mem _ z
  have hp : p ∈ w'.F := by rw [gr.F]; exact List.mem_cons_self
  have nl : ∀ a, ¬ w'.Lv a → ¬ ({ w' with F := w.F } : Wd).Lv a := fun a n q => n (q.imp id (.imp (sub a) id))
  have st : Stay w' { w' with F := w.F } := ⟨fun _ _ z => z, fun a o z n => ⟨z, nl a n⟩⟩
  have npF : p ∉ w.F := fun z => g0.al p (.inr (.inl z)) gr.p
  refine ⟨⟨g.len, g.nd, fun a z => ⟨fun q => (g.df a z).1 (sub a q), (g.df a z).2⟩, fun a z => g.dfo a (sub a z), fun a z => g.al a (z.imp id (.imp (sub a) id)), fun k a d z z2 => View.stay st rfl (g.cel k a d z z2)⟩, ⟨rfl, gr.O, gr.ρ, gr.fr, gr.H⟩, ?_⟩
  have np : ¬ ({ w' with F := w.F } : Wd).Lv p := fun q => by
    rcases q with q | q | q
    · exact (g.df p q).1 hp
    · exact npF q
    · exact g.dfo p hp q
  have V := View.stay (w' := { w' with F := w.F }) st rfl h
  cases d with
  | lst ds => obtain ⟨vs, h1, h2⟩ := V; exact ⟨p, vs, rfl, ⟨np, h1⟩, h2⟩
  | dic ds => obtain ⟨vs, h1, h2⟩ := V; exact ⟨p, vs, rfl, ⟨np, h1⟩, h2⟩
  | obj c fs => obtain ⟨dx, us, h1, h2⟩ := V; exact ⟨p, dx, us, rfl, ⟨np, h1⟩, h2⟩
  | _ => cases b
theorem box_val {d : D} (b : d.box = true) : d.val = true := by cases d <;> first | rfl | cases b
theorem KX.kn {q : DK} {Q : VK} (g : Good K κ w) (h : KX K κ w q Q) : KN K κ w q Q := fun w' d p g' gr b V z =>
  let ⟨g2, gr2, r⟩ := own_val g gr g' b V
  h { w' with F := w.F } d _ g2 gr2 (RX.of_rep r) z
theorem rf_val {t : TE} {m : ME} (h : RfN K κ W t m) : RfE K κ W t m := ⟨fun w η σ q x Q g e m hx k => h.go w η σ q x Q g e m hx (k.kn g)⟩
theorem RfON.o {r : R2} {f : F2} (h : RfON K κ r f) : RfO K κ r f := fun w d e u v q Q g hd he hf k => h w d e u v q Q g hd he hf (k.kn g)
theorem RfCN.c {r : List V → Hp → VK → Prop} {f : FL} (h : RfCN K κ r f) : RfC K κ r f := fun w ds vs q Q g hd hf k => h w ds vs q Q g hd hf (k.kn g)
/-- a new list -/
theorem KN.lst {q : DK} {Q : VK} {ds : List D} {vs : List V} {p : Addr} (g : Good K κ w) (k : KN K κ w q Q) (r : RepL K κ w ds vs) (hp : w.H p = none) (hq : q (.lst ds) w.S) : Q (.ref p) (upd w.H p (.lst vs)) := by
  obtain ⟨g', gr, st⟩ := new_own (o := .lst vs) g hp
  exact k { w with H := upd w.H p (.lst vs), F := p :: w.F } (.lst ds) p g' gr rfl ⟨vs, upd_same, RepL.stay st _ _ r⟩ hq
/-- a new thing that nobody holds -/
theorem new_val {p : Addr} {o : HO} (g : Good K κ w) (hp : w.H p = none) : Good K κ { w with H := upd w.H p o } ∧ Gr w { w with H := upd w.H p o } ∧ ¬ ({ w with H := upd w.H p o } : Wd).Lv p := by
  obtain ⟨g', gr, st⟩ := new_own (o := o) g hp
  have npF : p ∉ w.F := fun z => g.al p (.inr (.inl z)) hp
  have npO : p ∉ w.O := fun z => g.al p (.inr (.inr z)) hp
  have npr : p ∉ w.ρ := fun z => g.al p (.inl z) hp
  have gr2 : Gr w { w with H := upd w.H p o } := ⟨rfl, rfl, fun _ _ z => z, fun _ z => .inl z, gr.H⟩
  refine ⟨⟨g.len, g.nd, g.df, g.dfo, fun a z => g'.al a (z.imp id (.imp (List.mem_cons_of_mem _) id)), fun a b d z z2 => ?_⟩, gr2, fun q => ?_⟩
  · refine View.stay gr2.stay ?_ (g.cel a b d z z2)
    show upd w.H p o b = _
    rw [upd_ne (fun e : b = p => npr (by rw [← e]; exact List.mem_of_getElem? z))]
  · rcases q with q | q | q
    · exact npr q
    · exact npF q
    · exact npO q
/-- a new tuple -/
theorem KX.tup {q : DK} {Q : VK} {ds : List D} {vs : List V} {p : Addr} (g : Good K κ w) (k : KX K κ w q Q) (r : RepL K κ w ds vs) (hp : w.H p = none) (o : HO) (ho : o = .tup vs ∨ ∃ u, o = .frz u (.tup vs) ∧ u.dict = none) (hq : q (.tup ds) w.S) : Q (.ref p) (upd w.H p o) := by
  obtain ⟨g2, gr2, np⟩ := new_val (o := o) g hp
  refine k { w with H := upd w.H p o } (.tup ds) _ g2 gr2 ⟨p, vs, rfl, .inl ⟨np, ?_⟩, RepL.stay gr2.stay _ _ r⟩ hq
  rcases ho with rfl | ⟨u, rfl, e⟩
  · exact .inl upd_same
  · exact .inr ⟨u, upd_same, e⟩
theorem KX.same {q : DK} {Q : VK} {d : D} {v : V} (g : Good K κ w) (k : KX K κ w q Q) (r : RX K κ w d v) (hq : q d w.S) : Q v w.H := k w d v g (Gr.refl w) r hq
/-! ### names, constants, lists of arguments -/
def mVar (i : Nat) : ME := fun η S q _ => ∃ d, η[i]? = some (some d) ∧ q d S
def mC (d : D) : ME := fun _ S q _ => q d S
theorem rf_var {i : Nat} : RfE K κ W (tVar i) (mVar i) := ⟨fun w η σ q x Q g e ⟨d, h1, h2⟩ hx k => by
  obtain ⟨v, h3, r⟩ := e.at_ i d h1
  exact ⟨v, h3, k.same g r h2⟩⟩
theorem rf_c {v : V} {d : D} (h : ∀ w, Rep K κ w d v) : RfE K κ W (tC v) (mC d) := ⟨fun w η σ q x Q g e h2 hx k => k.same g (.of_rep (h w)) h2⟩
theorem rf_int {i : Int} : RfE K κ W (tC (.int i)) (mC (.int i)) := rf_c fun _ => rfl
theorem rf_str {i : Str} : RfE K κ W (tC (.str i)) (mC (.str i)) := rf_c fun _ => rfl
theorem rf_bl {i : Bool} : RfE K κ W (tC (.bl i)) (mC (.bl i)) := rf_c fun _ => rfl
theorem rf_non : RfE K κ W (tC .non) (mC .non) := rf_c fun _ => rfl
theorem RepL.strs (w : Wd) : ∀ zs : List Str, RepL K κ w (zs.map D.str) (zs.map V.str)
  | [] => rfl
  | z :: r => ⟨_, _, rfl, rfl, RepL.strs w r⟩
theorem rf_tupK {a : Addr} {zs : List Str} (h : ∀ H, SqT K H a (zs.map V.str)) : RfE K κ W (tC (.ref a)) (mC (.tup (zs.map D.str))) := rf_c fun w => ⟨a, _, rfl, .inr h, RepL.strs w zs⟩
def mNil : MA := fun _ S q _ => q [] S
def mCons (m : ME) (r : MA) : MA := fun η S q x => m η S (fun d S1 => r η S1 (fun ds S2 => q (d :: ds) S2) x) x
theorem rf_nil : RfA K κ W tNil mNil := ⟨fun w η σ q x Q g e h hx k => k w [] [] g (Gr.refl w) .nil h⟩
theorem rf_cons {t : TE} {u : TA} {m : ME} {r : MA} (h : RfE K κ W t m) (h2 : RfA K κ W u r) : RfA K κ W (tCons t u) (mCons m r) :=
  ⟨fun w η σ q x Q g e hm hx k => h.go w η σ _ x _ g e hm hx fun w1 d v g1 gr1 rx hm1 =>
    h2.go w1 η σ _ x _ g1 (e.gr g gr1) hm1 (hx.gr gr1) fun w2 ds vs g2 gr2 rl hq => k w2 (d :: ds) (v :: vs) g2 (gr1.trans gr2) (.cons (rx.gr g1 gr2) rl) hq⟩
/-! ### operators -/
def mOp (f : F2) (a b : ME) : ME := fun η S q x => a η S (fun d S1 => b η S1 (fun e S2 => f d e S2 q) x) x
def mUn (f : F1) (a : ME) : ME := fun η S q x => a η S (fun d S1 => f d S1 q) x
def mCB (f : FL) (a : MA) : ME := fun η S q x => a η S (fun ds S1 => f ds S1 q) x
variable {r : R2} {f : F2} {ta tb : TE} {ma mb : ME}
theorem rf_op (hr : RfO K κ r f) (ha : RfE K κ W ta ma) (hb : RfE K κ W tb mb) : RfE K κ W (tOp r ta tb) (mOp f ma mb) :=
  ⟨fun w η σ q x Q g e hm hx k => ha.go w η σ _ x _ g e hm hx fun w1 d u g1 gr1 rx hm1 =>
    hb.go w1 η σ _ x _ g1 (e.gr g gr1) hm1 (hx.gr gr1) fun w2 d2 v g2 gr2 ry hf => hr w2 d d2 u v q Q g2 (rx.gr g1 gr2) ry hf (k.gr (gr1.trans gr2))⟩
theorem rf_opN (hr : RfON K κ r f) (ha : RfE K κ W ta ma) (hb : RfE K κ W tb mb) : RfN K κ W (tOp r ta tb) (mOp f ma mb) :=
  ⟨fun w η σ q x Q g e hm hx k => ha.go w η σ _ x _ g e hm hx fun w1 d u g1 gr1 rx hm1 =>
    hb.go w1 η σ _ x _ g1 (e.gr g gr1) hm1 (hx.gr gr1) fun w2 d2 v g2 gr2 ry hf => hr w2 d d2 u v q Q g2 (rx.gr g1 gr2) ry hf (k.gr g2 (gr1.trans gr2))⟩
theorem rf_un {r : V → Hp → VK → Prop} {f : F1} (hr : RfU K κ r f) (ha : RfE K κ W ta ma) : RfE K κ W (tUn r ta) (mUn f ma) :=
  ⟨fun w η σ q x Q g e hm hx k => ha.go w η σ _ x _ g e hm hx fun w1 d u g1 gr1 rx hm1 => hr w1 d u q Q g1 rx hm1 (k.gr gr1)⟩
theorem rf_cb {r : List V → Hp → VK → Prop} {f : FL} {t : TA} {m : MA} (hr : RfC K κ r f) (ha : RfA K κ W t m) : RfE K κ W (tCB r t) (mCB f m) :=
  ⟨fun w η σ q x Q g e hm hx k => ha.go w η σ _ x _ g e hm hx fun w1 d u g1 gr1 rx hm1 => hr w1 d u q Q g1 rx hm1 (k.gr gr1)⟩
theorem rf_cbN {r : List V → Hp → VK → Prop} {f : FL} {t : TA} {m : MA} (hr : RfCN K κ r f) (ha : RfA K κ W t m) : RfN K κ W (tCB r t) (mCB f m) :=
  ⟨fun w η σ q x Q g e hm hx k => ha.go w η σ _ x _ g e hm hx fun w1 d u g1 gr1 rx hm1 => hr w1 d u q Q g1 rx hm1 (k.gr g1 gr1)⟩
/-! ### displays, fields, tests -/
def allVal (ds : List D) : Bool := ds.all D.val
theorem RepL.of {ds : List D} {vs : List V} : Paired (RX K κ w) ds vs → allVal ds = true → RepL K κ w ds vs := fun h b => by
  induction h with
  | nil => exact rfl
  | cons r t ih =>
    unfold allVal at b ih
    rw [List.all_cons, Bool.and_eq_true] at b
    exact ⟨_, _, rfl, RX.rep b.1 r, ih b.2⟩
theorem prd_len {ds : List D} {vs : List V} (h : Paired (RX K κ w) ds vs) : ds.length = vs.length := Paired.length h
def mTup (m : MA) : ME := fun η S q x => m η S (fun ds S1 => allVal ds = true ∧ ds.length ≤ 100000 ∧ q (.tup ds) S1) x
def mLst (m : MA) : ME := fun η S q x => m η S (fun ds S1 => allVal ds = true ∧ ds.length ≤ 100000 ∧ q (.lst ds) S1) x
theorem rf_tup {t : TA} {m : MA} (h : RfA K κ W t m) : RfE K κ W (tTup t) (mTup m) :=
  ⟨fun w η σ q x Q g e hm hx k => h.go w η σ _ x _ g e hm hx fun w1 ds vs g1 gr1 rl ⟨a, b, hq⟩ =>
    ⟨sz_of (by rw [← prd_len rl]; exact b), fun p hp => (k.gr gr1).tup g1 (.of rl a) hp _ (.inl rfl) hq⟩⟩
theorem rf_lst {t : TA} {m : MA} (h : RfA K κ W t m) : RfN K κ W (tLst t) (mLst m) :=
  ⟨fun w η σ q x Q g e hm hx k => h.go w η σ _ x _ g e hm hx fun w1 ds vs g1 gr1 rl ⟨a, b, hq⟩ =>
    ⟨sz_of (by rw [← prd_len rl]; exact b), fun p hp => (k.gr g1 gr1).lst g1 (.of rl a) hp hq⟩⟩
/-- what == .. say of the class c: its attributes -/
def mFld (cs : List Str) (f : Str) (m : ME) : ME := fun η S q x => m η S (fun d S1 => match pk S1 d with
  | .obj c fs => c ∈ cs ∧ ∃ v, fs.lookup f = some v ∧ q v S1
  | _ => False) x
theorem rf_fld {f : Str} {cs : List Str} (hc : ∀ c ∈ cs, Cls K (κ c) ∧ NoAttr K (κ c) f) (h : RfE K κ W ta ma) : RfE K κ W (tFld K ta f) (mFld cs f ma) :=
  ⟨fun w η σ q x Q g e hm hx k => h.go w η σ _ x _ g e hm hx fun w1 d u g1 gr1 rx hm1 => by
    split at hm1
    · rename_i c fs e1
      obtain ⟨mc, v, l, hq⟩ := hm1
      obtain ⟨a, dx, us, rfl, h1, h2⟩ := obj_of g1 rx e1
      obtain ⟨v', l', rv⟩ := h2.look l
      exact ⟨a, κ c, dx, us, v', rfl, h1, (hc c mc).1, (hc c mc).2, l', (k.gr gr1).same g1 (.of_rep rv) hq⟩
    · exact hm1.elim⟩
def mTest (m : ME) : MT := fun η S q x => m η S (fun d S1 => match d with
  | .bl b => q b S1
  | _ => False) x
theorem rf_tst {m : ME} {t : TE} (h : RfE K κ W t m) (q : Bool → Sto → Prop) (x : XM) (Q : Bool → Hp → Prop) (η : Nv) (σ : L2.St) (g : Good K κ w) (e : EnvR K κ w η σ) (hm : mTest m η w.S q x) (hx : HX K κ W w σ x) (k : KB K κ w q Q) : t σ w.H fun x H1 => ∃ c, x = .bl c ∧ Q c H1 :=
  h.go w η σ _ x _ g e hm hx fun w1 d u g1 gr1 rx hm1 => by
    split at hm1
    · rename_i b
      exact ⟨b, rx, k w1 b g1 gr1 hm1⟩
    · exact hm1.elim
theorem rf_test {m : ME} {t : TE} (h : RfE K κ W t m) : RfT K κ W (tTest t) (mTest m) := ⟨fun w η σ q x Q g e hm hx k => rf_tst h q x Q η σ g e hm hx k⟩
theorem rf_tB {m : ME} {t : TE} (h : RfE K κ W t m) : RfT K κ W (tB t) (mTest m) := ⟨fun w η σ q x Q g e hm hx k => rf_tst h q x Q η σ g e hm hx k⟩
def mNotT (m : MT) : MT := fun η S q x => m η S (fun b S1 => q (!b) S1) x
def mAndT (m n : MT) : MT := fun η S q x => m η S (fun b S1 => if b = true then n η S1 q x else q false S1) x
def mOrT (m n : MT) : MT := fun η S q x => m η S (fun b S1 => if b = true then q true S1 else n η S1 q x) x
def mIfT (c m n : MT) : MT := fun η S q x => c η S (fun b S1 => if b = true then m η S1 q x else n η S1 q x) x
variable {tA tB' tC' : TT} {mA mB mC' : MT}
theorem rf_notT (h : RfT K κ W tA mA) : RfT K κ W (tNot tA) (mNotT mA) :=
  ⟨fun w η σ q x Q g e hm hx k => h.go w η σ _ x _ g e hm hx fun w1 b g1 gr1 hq => k w1 (!b) g1 gr1 hq⟩
theorem KB.gr {q : Bool → Sto → Prop} {Q : Bool → Hp → Prop} (y : Gr w w') (h : KB K κ w q Q) : KB K κ w' q Q := fun w2 b g r => h w2 b g (y.trans r)
theorem rf_andT (h : RfT K κ W tA mA) (h2 : RfT K κ W tB' mB) : RfT K κ W (tAnd tA tB') (mAndT mA mB) :=
  ⟨fun w η σ q x Q g e hm hx k => h.go w η σ _ x _ g e hm hx fun w1 b g1 gr1 hq => by
    cases b with
    | true => exact h2.go w1 η σ q x Q g1 (e.gr g gr1) hq (hx.gr gr1) (k.gr gr1)
    | false => exact k w1 false g1 gr1 hq⟩
theorem rf_orT (h : RfT K κ W tA mA) (h2 : RfT K κ W tB' mB) : RfT K κ W (tOr tA tB') (mOrT mA mB) :=
  ⟨fun w η σ q x Q g e hm hx k => h.go w η σ _ x _ g e hm hx fun w1 b g1 gr1 hq => by
    cases b with
    | false => exact h2.go w1 η σ q x Q g1 (e.gr g gr1) hq (hx.gr gr1) (k.gr gr1)
    | true => exact k w1 true g1 gr1 hq⟩
theorem rf_ifT (h : RfT K κ W tA mA) (h2 : RfT K κ W tB' mB) (h3 : RfT K κ W tC' mC') : RfT K κ W (tIfT tA tB' tC') (mIfT mA mB mC') :=
  ⟨fun w η σ q x Q g e hm hx k => h.go w η σ _ x _ g e hm hx fun w1 b g1 gr1 hq => by
    cases b with
    | true => exact h2.go w1 η σ q x Q g1 (e.gr g gr1) hq (hx.gr gr1) (k.gr gr1)
    | false => exact h3.go w1 η σ q x Q g1 (e.gr g gr1) hq (hx.gr gr1) (k.gr gr1)⟩
/-! values of tests -/
def mAndV (m n : ME) : ME := fun η S q x => m η S (fun d S1 => match d with
  | .bl b => if b = true then n η S1 q x else q (.bl false) S1
  | _ => False) x
def mOrV (m n : ME) : ME := fun η S q x => m η S (fun d S1 => match d with
  | .bl b => if b = true then q (.bl true) S1 else n η S1 q x
  | _ => False) x
def mNotV (m : ME) : ME := fun η S q x => m η S (fun d S1 => match d with
  | .bl b => q (.bl (!b)) S1
  | _ => False) x
def mIf (c : MT) (m n : ME) : ME := fun η S q x => c η S (fun b S1 => if b = true then m η S1 q x else n η S1 q x) x
theorem rf_andV (h : RfE K κ W ta ma) (h2 : RfE K κ W tb mb) : RfE K κ W (tAndV ta tb) (mAndV ma mb) :=
  ⟨fun w η σ q x Q g e hm hx k => h.go w η σ _ x _ g e hm hx fun w1 d u g1 gr1 rx hq => by
    split at hq
    · rename_i b
      refine ⟨b, rx, ?_⟩
      cases b with
      | true => exact h2.go w1 η σ q x Q g1 (e.gr g gr1) hq (hx.gr gr1) (k.gr gr1)
      | false => exact (k.gr gr1).same g1 (d := .bl false) rfl hq
    · exact hq.elim⟩
theorem rf_orV (h : RfE K κ W ta ma) (h2 : RfE K κ W tb mb) : RfE K κ W (tOrV ta tb) (mOrV ma mb) :=
  ⟨fun w η σ q x Q g e hm hx k => h.go w η σ _ x _ g e hm hx fun w1 d u g1 gr1 rx hq => by
    split at hq
    · rename_i b
      refine ⟨b, rx, ?_⟩
      cases b with
      | false => exact h2.go w1 η σ q x Q g1 (e.gr g gr1) hq (hx.gr gr1) (k.gr gr1)
      | true => exact (k.gr gr1).same g1 (d := .bl true) rfl hq
    · exact hq.elim⟩
theorem rf_notV (h : RfE K κ W ta ma) : RfE K κ W (tNotV ta) (mNotV ma) :=
  ⟨fun w η σ q x Q g e hm hx k => h.go w η σ _ x _ g e hm hx fun w1 d u g1 gr1 rx hq => by
    split at hq
    · rename_i b
      exact ⟨b, rx, (k.gr gr1).same g1 (d := .bl (!b)) rfl hq⟩
    · exact hq.elim⟩
theorem rf_if (h : RfT K κ W tA mA) (h2 : RfE K κ W ta ma) (h3 : RfE K κ W tb mb) : RfE K κ W (tIf tA ta tb) (mIf mA ma mb) :=
  ⟨fun w η σ q x Q g e hm hx k => h.go w η σ _ x _ g e hm hx fun w1 b g1 gr1 hq => by
    cases b with
    | true => exact h2.go w1 η σ q x Q g1 (e.gr g gr1) hq (hx.gr gr1) (k.gr gr1)
    | false => exact h3.go w1 η σ q x Q g1 (e.gr g gr1) hq (hx.gr gr1) (k.gr gr1)⟩
def mChain (f f' : F2) (a b c : ME) : ME := fun η S q x => a η S (fun d S1 => b η S1 (fun e S2 => f d e S2 fun z S3 => match z with
  | .bl k => if k = true then c η S3 (fun y S4 => f' e y S4 q) x else q (.bl false) S3
  | _ => False) x) x
theorem rf_chain {r' : R2} {f' : F2} {tc : TE} {mc : ME} (hr : RfO K κ r f) (hr' : RfO K κ r' f') (ha : RfE K κ W ta ma) (hb : RfE K κ W tb mb) (hc : RfE K κ W tc mc) : RfE K κ W (tChain r r' ta tb tc) (mChain f f' ma mb mc) :=
  ⟨fun w η σ q x Q g e hm hx k => ha.go w η σ _ x _ g e hm hx fun w1 d u g1 gr1 rx hm1 =>
    hb.go w1 η σ _ x _ g1 (e.gr g gr1) hm1 (hx.gr gr1) fun w2 d2 v g2 gr2 ry hf => hr w2 d d2 u v _ _ g2 (rx.gr g1 gr2) ry hf fun w3 z zv g3 gr3 rz hq => by
      have g13 := (gr1.trans gr2).trans gr3
      split at hq
      · rename_i b
        refine ⟨b, rz, ?_⟩
        cases b with
        | false => exact (k.gr g13).same g3 (d := .bl false) rfl hq
        | true => exact hc.go w3 η σ _ x _ g3 (e.gr g g13) hq (hx.gr g13) fun w4 y yv g4 gr4 ryy hf' => hr' w4 d2 y v yv q Q g4 (ry.gr g2 (gr3.trans gr4)) ryy hf' (k.gr (g13.trans gr4))
      · exact hq.elim⟩
end
end Mi
/-! Mirrors of operators and built-ins -/
namespace Mi
open PySem L2 Aq Evl
/-! ### data -/
mutual
def toPy : D → Option PyData
  | .int i => some (.int i)
  | .bl b => some (.bool b)
  | .non => some .none
  | .str z => some (.str z)
  | .tup ds => (toPyL ds).map PyData.tuple
  | .ftp ds => (toPyL ds).map PyData.tuple
  | .lst ds => (toPyL ds).map PyData.list
  | _ => none
def toPyL : List D → Option (List PyData)
  | [] => some []
  | d :: r => match toPy d, toPyL r with
    | some p, some ps => some (p :: ps)
    | _, _ => none
end
section
variable {K : PySem.W.Frag} {κ : Str → Addr} {w w' w1 : Wd} {X : Cx}
mutual
theorem dp_of : ∀ (d : D) (v : V) (p : PyData), Rep K κ w d v → toPy d = some p → Dp K w.H v p
  | .int i, v, p, h, e => by cases h; cases e; exact .int i
  | .bl i, v, p, h, e => by cases h; cases e; exact .bl i
  | .non, v, p, h, e => by cases h; cases e; exact .non
  | .str i, v, p, h, e => by cases h; cases e; exact .str i
  | .tup ds, v, p, ⟨a, vs, e1, t, l⟩, e => by
    subst e1
    rw [toPy] at e
    cases q : toPyL ds with
    | none => rw [q] at e; cases e
    | some ps => rw [q] at e; cases e; exact .tup t.sq (dpL_of ds vs ps l q)
  | .ftp ds, v, p, ⟨a, vs, e1, ⟨n, o, h, z⟩, l⟩, e => by
    subst e1
    rw [toPy] at e
    cases q : toPyL ds with
    | none => rw [q] at e; cases e
    | some ps => rw [q] at e; cases e; exact .tup (.inl (.inr ⟨o, h⟩)) (dpL_of ds vs ps l q)
  | .lst ds, v, p, ⟨a, vs, e1, t, l⟩, e => by
    subst e1
    rw [toPy] at e
    cases q : toPyL ds with
    | none => rw [q] at e; cases e
    | some ps => rw [q] at e; cases e; exact .lst (.inl (.inl t.2)) (dpL_of ds vs ps l q)
  | .dic _, v, p, _, e => by cases e
  | .obj _ _, v, p, _, e => by cases e
  | .cel _, v, p, _, e => by cases e
  | .pen _, v, p, _, e => by cases e
  | .scr, v, p, _, e => by cases e
  | .ty _, v, p, _, e => by cases e
  | .cls _, v, p, _, e => by cases e
  | .own _ _, v, p, _, e => by cases e
  | .bor _, v, p, _, e => by cases e
  | .exc _ _ _ _, v, p, _, e => by cases e
theorem dpL_of : ∀ (ds : List D) (vs : List V) (ps : List PyData), RepL K κ w ds vs → toPyL ds = some ps → DpAll K w.H vs ps
  | [], vs, ps, h, e => by cases h; cases e; exact .nil
  | d :: r, vs, ps, ⟨v, t, e1, h, l⟩, e => by
    subst e1
    rw [toPyL] at e
    split at e
    · rename_i p ps' q1 q2
      cases e
      exact .cons (dp_of d v p h q1) (dpL_of r t ps' l q2)
    · cases e
end
theorem dp_rx {d : D} {v : V} {p : PyData} (g : Good K κ w) (h : RX K κ w d v) (e : toPy (pk w.S d) = some p) : Dp K w.H v p := by
  generalize e1 : pk w.S d = z at e
  cases z with
  | lst ds =>
    obtain ⟨a, vs, rfl, h1, l⟩ := lst_of g h e1
    rw [toPy] at e
    cases q : toPyL ds with
    | none => rw [q] at e; cases e
    | some ps => rw [q] at e; cases e; exact .lst (.inl (.inl h1)) (dpL_of ds vs ps l q)
  | tup ds =>
    obtain ⟨a, vs, rfl, h1, l⟩ := tup_of g h e1
    rw [toPy] at e
    cases q : toPyL ds with
    | none => rw [q] at e; cases e
    | some ps => rw [q] at e; cases e; exact .tup h1.sq (dpL_of ds vs ps l q)
  | ftp ds => exact (pk_ftp g h e1).elim
  | int i => cases e; rw [int_of g h e1]; exact .int i
  | bl i => cases e; rw [bl_of g h e1]; exact .bl i
  | non => cases e; rw [non_of g h e1]; exact .non
  | str i => cases e; rw [str_of g h e1]; exact .str i
  | _ => cases e
/-! ### == and != -/
def eqQ (d e : D) (k : Bool → Prop) : Prop := match d, e with
  | .int i, .int j => k (decide (i = j))
  | .str a, .str b => k (decide (a = b))
  | .bl a, .bl b => k (decide (a = b))
  | .non, .non => k true
  | .non, .int _ => k false
  | .int _, .non => k false
  | .non, .str _ => k false
  | .str _, .non => k false
  | .non, .bl _ => k false
  | .bl _, .non => k false
  | .int _, .str _ => k false
  | .str _, .int _ => k false
  | .bl _, .str _ => k false
  | .str _, .bl _ => k false
  | d, e => ∃ p r, toPy d = some p ∧ toPy e = some r ∧ SeqAt.shaped p = true ∧ SeqAt.shaped r = true ∧ k (PyData.eqv p r)
def fEq : F2 := fun d e S q => eqQ (pk S d) (pk S e) fun b => q (.bl b) S
def fNe : F2 := fun d e S q => eqQ (pk S d) (pk S e) fun b => q (.bl (!b)) S
def rEqA (K : PySem.W.Frag) : R2 := fun x y H Q => rEq x y H Q ∨ rEqD K x y H Q
def rNeA (K : PySem.W.Frag) : R2 := fun x y H Q => rNe x y H Q ∨ rNeD K x y H Q
theorem op_eqA (hu : X.A.units + 64 < cLine) (hK : X.K = K := by rfl) : OpR X (compareOp .Eq) (rEqA K) := op_eq.or (op_eqDK hu hK)
theorem op_neA (hu : X.A.units + 64 < cLine) (hK : X.K = K := by rfl) : OpR X (compareOp .NotEq) (rNeA K) := op_ne.or (op_neDK hu hK)
theorem eq_cases {d e : D} {u v : V} {k : Bool → Prop} (g : Good K κ w) (hd : RX K κ w d u) (he : RX K κ w e v) (h : eqQ (pk w.S d) (pk w.S e) k) :
    (scal u v = true ∧ k (decide (u = v))) ∨ ∃ p r, Dp K w.H u p ∧ Dp K w.H v r ∧ SeqAt.shaped p = true ∧ SeqAt.shaped r = true ∧ k (PyData.eqv p r) := by
  unfold eqQ at h
  have two : ∀ {a b : V} {z : Bool}, flatD (pk w.S d) = some a → flatD (pk w.S e) = some b → scal a b = true → decide (a = b) = z → k z → (scal u v = true ∧ k (decide (u = v))) ∨ ∃ p r, Dp K w.H u p ∧ Dp K w.H v r ∧ SeqAt.shaped p = true ∧ SeqAt.shaped r = true ∧ k (PyData.eqv p r) := by
    intro a b z e1 e2 s ez kz
    rw [flat_of g hd e1, flat_of g he e2]
    exact .inl ⟨s, ez ▸ kz⟩
  split at h
  case h_15 => obtain ⟨p, r, h1, h2, h3, h4, h5⟩ := h; exact .inr ⟨p, r, dp_rx g hd h1, dp_rx g he h2, h3, h4, h5⟩
  all_goals (rename_i e1 e2; refine two (by rw [e1]; rfl) (by rw [e2]; rfl) rfl ?_ h; simp)
theorem rfo_eq : RfO K κ (rEqA K) fEq := fun w d e u v q Q g hd he h k => by
  rcases eq_cases g hd he h with ⟨s, z⟩ | ⟨p, r, h1, h2, h3, h4, z⟩
  · exact .inl ⟨s, k.same g (d := .bl _) rfl z⟩
  · exact .inr ⟨p, r, h1, h2, h3, h4, k.same g (d := .bl _) rfl z⟩
theorem rfo_ne : RfO K κ (rNeA K) fNe := fun w d e u v q Q g hd he h k => by
  rcases eq_cases g hd he h with ⟨s, z⟩ | ⟨p, r, h1, h2, h3, h4, z⟩
  · exact .inl ⟨s, k.same g (d := .bl _) rfl z⟩
  · exact .inr ⟨p, r, h1, h2, h3, h4, k.same g (d := .bl _) rfl z⟩
/-! ### + - * // % ** -/
def fAdd : F2 := fun d e S q => match pk S d, pk S e with
  | .int i, .int j => q (.int (i + j)) S
  | .str a, .str b => a.length + b.length ≤ 100000 ∧ q (.str (a ++ b)) S
  | .lst a, .lst b => a.length + b.length ≤ 100000 ∧ q (.lst (a ++ b)) S
  | .tup a, .tup b => a.length + b.length ≤ 100000 ∧ q (.tup (a ++ b)) S
  | _, _ => False
def fCat : F2 := fun d e S q => match pk S d, pk S e with
  | .lst a, .lst b => a.length + b.length ≤ 100000 ∧ q (.lst (a ++ b)) S
  | _, _ => False
def rAddA (K : PySem.W.Frag) : R2 := fun x y H Q => (rI0 (fun i j => .int (i + j)) x y H Q) ∨ (∃ i j, x = .str i ∧ y = .str j ∧ i.length + j.length ≤ sizeLine ∧ Q (.str (i ++ j)) H) ∨ rCat x y H Q ∨ rCatA K x y H Q
theorem op_addA (hK : X.K = K := by rfl) : OpR X (binaryOp .Add) (rAddA K) := hK ▸ op_add.or (op_add_str.or (op_cat.or op_catA))
theorem rfon_cat : RfON K κ rCat fCat := fun w d e u v q Q g hd he h k => by
  unfold fCat at h
  split at h
  · rename_i a b e1 e2
    obtain ⟨p, vs, rfl, h1, l1⟩ := lst_of g hd e1
    obtain ⟨p2, vs2, rfl, h2, l2⟩ := lst_of g he e2
    exact ⟨p, p2, vs, vs2, rfl, rfl, h1, h2, sz_of (by rw [l1.len, l2.len]; exact h.1), fun p hp => k.lst g (l1.app l2) hp h.2⟩
  · exact h.elim
theorem rfo_add : RfO K κ (rAddA K) fAdd := fun w d e u v q Q g hd he h k => by
  unfold fAdd at h
  split at h
  · rename_i i j e1 e2
    rw [int_of g hd e1, int_of g he e2]
    exact .inl ⟨i, j, rfl, rfl, k.same g (d := .int _) rfl h⟩
  · rename_i i j e1 e2
    rw [str_of g hd e1, str_of g he e2]
    exact .inr (.inl ⟨i, j, rfl, rfl, sz_of h.1, k.same g (d := .str _) rfl h.2⟩)
  · rename_i a b e1 e2
    obtain ⟨p, vs, rfl, h1, l1⟩ := lst_of g hd e1
    obtain ⟨p2, vs2, rfl, h2, l2⟩ := lst_of g he e2
    exact .inr (.inr (.inl ⟨p, p2, vs, vs2, rfl, rfl, h1, h2, sz_of (by rw [l1.len, l2.len]; exact h.1), fun p hp => (k.kn g).lst g (l1.app l2) hp h.2⟩))
  · rename_i a b e1 e2
    obtain ⟨p, vs, rfl, h1, l1⟩ := tup_of g hd e1
    obtain ⟨p2, vs2, rfl, h2, l2⟩ := tup_of g he e2
    refine .inr (.inr (.inr ⟨p, p2, vs, vs2, rfl, rfl, h1.sq, h2.sq, sz_of (by rw [l1.len, l2.len]; exact h.1), fun z => ?_, fun _ z => ?_, fun _ _ p hp => k.tup g (l1.app l2) hp _ (.inl rfl) h.2⟩))
    · subst z
      have e : a = [] := List.length_eq_zero_iff.mp l1.len.symm
      subst e
      exact k.same g (d := .tup b) ⟨p2, vs2, rfl, h2, l2⟩ h.2
    · subst z
      have e : b = [] := List.length_eq_zero_iff.mp l2.len.symm
      subst e
      exact k.same g (d := .tup a) ⟨p, vs, rfl, h1, l1⟩ (by simpa using h.2)
  · exact h.elim
def fSub : F2 := fun d e S q => match pk S d, pk S e with
  | .int i, .int j => q (.int (i - j)) S
  | _, _ => False
theorem rfo_sub : RfO K κ (rI0 fun i j => .int (i - j)) fSub := fun w d e u v q Q g hd he h k => by
  unfold fSub at h
  split at h
  · rename_i i j e1 e2
    rw [int_of g hd e1, int_of g he e2]
    exact ⟨i, j, rfl, rfl, k.same g (d := .int _) rfl h⟩
  · exact h.elim
/-- not too great -/
def Sm (i : Int) : Prop := i.natAbs.log2 < 4000
def fMul : F2 := fun d e S q => match pk S d, pk S e with
  | .int i, .int j => Sm i ∧ Sm j ∧ q (.int (i * j)) S
  | .str z, .int i => z.length ≤ 16 ∧ -(2 ^ 63) ≤ i ∧ i ≤ 1048576 ∧ q (.str (Txt.mul z i)) S
  | .lst a, .int i => -(2 ^ 63) ≤ i ∧ i < 2 ^ 63 ∧ a.length * i.toNat ≤ 100000 ∧ q (.lst (List.replicate i.toNat a).flatten) S
  | _, _ => False
def rMulA : R2 := fun x y H Q => (rI CMulW (fun i j => .int (i * j)) x y H Q) ∨ (∃ (z : Str) (i : Int), x = .str z ∧ y = .int i ∧ z.length ≤ 16 ∧ -(2 ^ 63) ≤ i ∧ i ≤ 1048576 ∧ Q (.str (Txt.mul z i)) H) ∨ rRep x y H Q
theorem op_mulA : OpR X (binaryOp .Mult) rMulA := op_mulW.or (op_mul_str.or op_rep)
theorem rfo_mul : RfO K κ rMulA fMul := fun w d e u v q Q g hd he h k => by
  unfold fMul at h
  split at h
  · rename_i i j e1 e2
    rw [int_of g hd e1, int_of g he e2]
    obtain ⟨h1, h2, h3⟩ := h
    exact .inl ⟨i, j, rfl, rfl, by unfold Sm at h1 h2; unfold CMulW; omega, k.same g (d := .int _) rfl h3⟩
  · rename_i i j e1 e2
    rw [str_of g hd e1, int_of g he e2]
    obtain ⟨h1, h2, h3, h4⟩ := h
    exact .inr (.inl ⟨i, j, rfl, rfl, h1, h2, h3, k.same g (d := .str _) rfl h4⟩)
  · rename_i a i e1 e2
    obtain ⟨p, vs, rfl, h1, l1⟩ := lst_of g hd e1
    rw [int_of g he e2]
    obtain ⟨h2, h3, h4, h5⟩ := h
    exact .inr (.inr ⟨p, i, vs, rfl, rfl, h1, h2, h3, sz_of (by rw [l1.len]; exact h4), fun p hp => (k.kn g).lst g (l1.rep _) hp h5⟩)
  · exact h.elim
def fRep : F2 := fun d e S q => match pk S d, pk S e with
  | .lst a, .int i => -(2 ^ 63) ≤ i ∧ i < 2 ^ 63 ∧ a.length * i.toNat ≤ 100000 ∧ q (.lst (List.replicate i.toNat a).flatten) S
  | _, _ => False
theorem rfon_rep : RfON K κ rRep fRep := fun w d e u v q Q g hd he h k => by
  unfold fRep at h
  split at h
  · rename_i a i e1 e2
    obtain ⟨p, vs, rfl, h1, l1⟩ := lst_of g hd e1
    rw [int_of g he e2]
    obtain ⟨h2, h3, h4, h5⟩ := h
    exact ⟨p, i, vs, rfl, rfl, h1, h2, h3, sz_of (by rw [l1.len]; exact h4), fun p hp => k.lst g (l1.rep _) hp h5⟩
  · exact h.elim
def fInt2 (C : Int → Int → Prop) (f : Int → Int → Int) : F2 := fun d e S q => match pk S d, pk S e with
  | .int i, .int j => C i j ∧ q (.int (f i j)) S
  | _, _ => False
theorem rfo_int2 {C : Int → Int → Prop} {f : Int → Int → Int} : RfO K κ (rI C fun i j => .int (f i j)) (fInt2 C f) := fun w d e u v q Q g hd he h k => by
  unfold fInt2 at h
  split at h
  · rename_i i j e1 e2
    rw [int_of g hd e1, int_of g he e2]
    exact ⟨i, j, rfl, rfl, h.1, k.same g (d := .int _) rfl h.2⟩
  · exact h.elim
abbrev fMod : F2 := fInt2 (fun _ j => 0 < j) fun i j => i % j
abbrev fDiv : F2 := fInt2 CDivW fun i j => i / j
abbrev fPow : F2 := fInt2 CPow fun i j => i ^ j.toNat
def fNeg : F1 := fun d S q => match pk S d with
  | .int i => q (.int (-i)) S
  | _ => False
theorem rfu_neg : RfU K κ (rU fun i => .int (-i)) fNeg := fun w d u q Q g hd h k => by
  unfold fNeg at h
  split at h
  · rename_i i e1
    rw [int_of g hd e1]
    exact ⟨i, rfl, k.same g (d := .int _) rfl h⟩
  · exact h.elim
/-! ### < <= > >= -/
def fCmp (fi : Int → Int → Bool) (fs : List Nat → List Nat → Bool) : F2 := fun d e S q => match pk S d, pk S e with
  | .int i, .int j => q (.bl (fi i j)) S
  | .str a, .str b => q (.bl (fs a.cps.toList b.cps.toList)) S
  | _, _ => False
def rCmpA (fi : Int → Int → Bool) (fs : List Nat → List Nat → Bool) : R2 := fun x y H Q => (rI0 (fun i j => .bl (fi i j)) x y H Q) ∨ (∃ i j, x = .str i ∧ y = .str j ∧ Q (.bl (fs i.cps.toList j.cps.toList)) H)
theorem rfo_cmp {fi : Int → Int → Bool} {fs : List Nat → List Nat → Bool} : RfO K κ (rCmpA fi fs) (fCmp fi fs) := fun w d e u v q Q g hd he h k => by
  unfold fCmp at h
  split at h
  · rename_i i j e1 e2
    rw [int_of g hd e1, int_of g he e2]
    exact .inl ⟨i, j, rfl, rfl, k.same g (d := .bl _) rfl h⟩
  · rename_i i j e1 e2
    rw [str_of g hd e1, str_of g he e2]
    exact .inr ⟨i, j, rfl, rfl, k.same g (d := .bl _) rfl h⟩
  · exact h.elim
abbrev fLt : F2 := fCmp (fun i j => decide (i < j)) fun a b => decide (a < b)
abbrev fLe : F2 := fCmp (fun i j => decide (i ≤ j)) fun a b => !decide (b < a)
abbrev fGt : F2 := fCmp (fun i j => decide (j < i)) fun a b => decide (b < a)
abbrev fGe : F2 := fCmp (fun i j => decide (j ≤ i)) fun a b => !decide (a < b)
theorem op_ltA : OpR X (compareOp .Lt) (rCmpA (fun i j => decide (i < j)) fun a b => decide (a < b)) := op_lt.or op_lt_str
theorem op_leA : OpR X (compareOp .LtE) (rCmpA (fun i j => decide (i ≤ j)) fun a b => !decide (b < a)) := op_le.or op_le_str
theorem op_gtA : OpR X (compareOp .Gt) (rCmpA (fun i j => decide (j < i)) fun a b => decide (b < a)) := op_gt.or op_gt_str
theorem op_geA : OpR X (compareOp .GtE) (rCmpA (fun i j => decide (j ≤ i)) fun a b => !decide (a < b)) := op_ge.or op_ge_str
/-! ### is None; is of bools -/
def isNon : D → Bool
  | .non => true
  | _ => false
def fIs (g : Bool → Bool) : F2 := fun d e S q => match e with
  | .non => match pk S d with
    | .cel _ => False
    | .scr => False
    | .pen _ => False
    | .cls _ => False
    | .ty _ => False
    | z => q (.bl (g (isNon z))) S
  | .bl b => match d with
    | .bl c => q (.bl (g (decide (c = b)))) S
    | _ => False
  | _ => False
def rIsA (g : Bool → Bool) : R2 := fun x y H Q => (y = .non ∧ Q (.bl (g (decide (x = .non)))) H) ∨ (∃ a b : Bool, x = .bl a ∧ y = .bl b ∧ Q (.bl (g (decide (a = b)))) H)
theorem op_isA : OpR X (compareOp .Is) (rIsA id) := op_isN.or op_isBl
theorem op_isNotA : OpR X (compareOp .IsNot) (rIsA not) := op_notN.or op_notBl
theorem isNon_of {d : D} {v : V} (g : Good K κ w) (hd : RX K κ w d v) (h : ∀ k, pk w.S d ≠ .cel k) (h2 : pk w.S d ≠ .scr) (h3 : ∀ c, pk w.S d ≠ .cls c) (h4 : ∀ c, pk w.S d ≠ .ty c) : decide (v = .non) = isNon (pk w.S d) := by
  generalize e1 : pk w.S d = z at h h2 h3 h4
  cases z with
  | ty n => exact absurd rfl (h4 n)
  | ftp n => exact (pk_ftp g hd e1).elim
  | cls n => exact absurd rfl (h3 n)
  | lst ds => obtain ⟨a, vs, rfl, _⟩ := lst_of g hd e1; rfl
  | tup ds => obtain ⟨a, vs, rfl, _⟩ := tup_of g hd e1; rfl
  | dic ds => obtain ⟨a, vs, rfl, _⟩ := dic_of g hd e1; rfl
  | obj c ds => obtain ⟨a, dx, vs, rfl, _⟩ := obj_of g hd e1; rfl
  | int i => rw [int_of g hd e1]; rfl
  | bl i => rw [bl_of g hd e1]; rfl
  | non => rw [non_of g hd e1]; rfl
  | str i => rw [str_of g hd e1]; rfl
  | cel k => exact absurd rfl (h k)
  | scr => exact absurd rfl h2
  | pen n =>
    cases d with
    | own t d => cases e1; obtain ⟨a, rfl, _⟩ := hd; rfl
    | bor d => cases e1; obtain ⟨a, rfl, _⟩ := hd; rfl
    | pen n => exact hd.elim
    | cel k => obtain ⟨a, rfl, _⟩ := hd; rfl
    | _ => cases e1
  | own s x =>
    cases d with
    | own t d => cases e1; obtain ⟨a, rfl, _⟩ := hd; rfl
    | bor d => cases e1; obtain ⟨a, rfl, _⟩ := hd; rfl
    | cel k => obtain ⟨a, rfl, _⟩ := hd; rfl
    | _ => cases e1
  | bor x =>
    cases d with
    | own t d => cases e1; obtain ⟨a, rfl, _⟩ := hd; rfl
    | bor d => cases e1; obtain ⟨a, rfl, _⟩ := hd; rfl
    | cel k => obtain ⟨a, rfl, _⟩ := hd; rfl
    | _ => cases e1
  | exc a dd c fs =>
    cases d with
    | own t d => cases e1; obtain ⟨a, rfl, _⟩ := hd; rfl
    | bor d => cases e1; obtain ⟨a, rfl, _⟩ := hd; rfl
    | cel k => obtain ⟨a, rfl, _⟩ := hd; rfl
    | exc a dd c fs => rw [hd.1]; rfl
    | _ => cases e1
theorem rfo_is {gg : Bool → Bool} : RfO K κ (rIsA gg) (fIs gg) := fun w d e u v q Q g hd he h k => by
  unfold fIs at h
  split at h
  · refine .inl ⟨he, ?_⟩
    split at h
    · exact h.elim
    · exact h.elim
    · exact h.elim
    · exact h.elim
    · exact h.elim
    · rename_i h1 h2 h3 h4 h5
      rw [isNon_of g hd (fun k e => h1 k e) h2 (fun k e => h4 k e) (fun k e => h5 k e)]
      exact k.same g (d := .bl _) rfl h
  · split at h
    · rename_i b _ c
      exact .inr ⟨c, b, hd, he, k.same g (d := .bl _) rfl h⟩
    · exact h.elim
  · exact h.elim
/-! ### x in y -/
def flatsD (ds : List D) : Option (List V) := ds.mapM flatD
theorem flats_map : ∀ {ds : List D} {us : List V}, flatsD ds = some us → ds.map flatD = us.map some
  | [], us, h => by cases h; rfl
  | d :: r, us, h => by
    unfold flatsD at h
    rw [List.mapM_cons] at h
    cases q : flatD d with
    | none => rw [q] at h; cases h
    | some u =>
      rw [q] at h
      cases q2 : flatsD r with
      | none => unfold flatsD at q2; simp [q2] at h
      | some us2 =>
        have ih := flats_map q2
        unfold flatsD at q2
        simp [q2] at h
        subst h
        rw [List.map_cons, List.map_cons, q, ih]
def inQ (d : D) (ds : List D) (k : Bool → Prop) : Prop :=
  (∃ u us, flatD d = some u ∧ flatsD ds = some us ∧ k (inV u us)) ∨
  (∃ p ps, toPy d = some p ∧ toPyL ds = some ps ∧ SeqAt.shaped p = true ∧ SeqAt.shaped (.list ps) = true ∧ SeqAt.shaped (.tuple ps) = true ∧ k (ps.any fun z => PyData.eqv z p))
def fIn (g : Bool → Bool) : F2 := fun d e S q => match pk S e with
  | .lst ds => inQ (pk S d) ds fun b => q (.bl (g b)) S
  | .tup ds => inQ (pk S d) ds fun b => q (.bl (g b)) S
  | .str z => ∃ c, pk S d = .str ⟨#[c]⟩ ∧ q (.bl (g (decide (c ∈ z.cps.toList)))) S
  | _ => False
def rSign (g : Bool → Bool) : R2 := fun x y H Q => ∃ (c : Nat) (z : Str), x = .str ⟨#[c]⟩ ∧ y = .str z ∧ Q (.bl (g (decide (c ∈ z.cps.toList)))) H
def rInA (K : PySem.W.Frag) : R2 := fun x y H Q => rIn K false x y H Q ∨ rInD K x y H Q ∨ rInDT K x y H Q ∨ rSign id x y H Q
def rNotInA (K : PySem.W.Frag) : R2 := fun x y H Q => rIn K true x y H Q ∨ rNotInD K x y H Q ∨ rNotInDT K x y H Q ∨ rSign not x y H Q
theorem op_inA (hu : X.A.units + 65 < cLine) (hK : X.K = K := by rfl) : OpR X (compareOp .In) (rInA K) := hK ▸ op_in_seq.or ((op_inD hu).or ((op_inDT hu).or op_in_sign))
theorem op_notInA (hu : X.A.units + 65 < cLine) (hK : X.K = K := by rfl) : OpR X (compareOp .NotIn) (rNotInA K) := hK ▸ op_notIn_seq.or ((op_notInD hu).or ((op_notInDT hu).or op_notIn_sign))
theorem flat_flatV {d : D} {u : V} (h : flatD d = some u) : flatV u = true := by cases d <;> first | cases h; rfl | cases h
theorem flats_flatV {ds : List D} {us : List V} (h : flatsD ds = some us) : us.all flatV = true := by
  have h := flats_map h
  rw [List.all_eq_true]
  intro u hu
  obtain ⟨i, hi, rfl⟩ := List.mem_iff_getElem.mp hu
  have e : (ds.map flatD)[i]? = (us.map some)[i]? := by rw [h]
  rw [List.getElem?_map, List.getElem?_map, List.getElem?_eq_getElem hi] at e
  cases q : ds[i]? with
  | none => rw [q] at e; cases e
  | some d => rw [q] at e; exact flat_flatV (d := d) (by simpa using e)
theorem toPyL_tup {ds : List D} {ps : List PyData} (h : toPyL ds = some ps) : toPy (.tup ds) = some (.tuple ps) := by rw [toPy, h]; rfl
theorem toPyL_lst {ds : List D} {ps : List PyData} (h : toPyL ds = some ps) : toPy (.lst ds) = some (.list ps) := by rw [toPy, h]; rfl
theorem rfo_in : RfO K κ (rInA K) (fIn id) := fun w d e u v q Q g hd he h k => by
  unfold fIn at h
  split at h
  · rename_i ds e1
    have he' := he
    obtain ⟨a, vs, rfl, h1, l1⟩ := lst_of g he e1
    rcases h with ⟨x, us, h3, h4, h5⟩ | ⟨p, ps, h3, h4, h5, h6, h7, h8⟩
    · rw [flat_of g hd h3]
      have := RepL.flat (flats_map h4) l1
      subst this
      exact .inl ⟨a, vs, rfl, .inl (.inl (.inl h1)), flat_flatV h3, flats_flatV h4, k.same g (d := .bl _) rfl h5⟩
    · exact .inr (.inl ⟨p, ps, dp_rx g hd h3, dp_rx g he' (by rw [e1]; exact toPyL_lst h4), h5, h6, k.same g (d := .bl _) rfl h8⟩)
  · rename_i ds e1
    have he' := he
    obtain ⟨a, vs, rfl, h1, l1⟩ := tup_of g he e1
    rcases h with ⟨x, us, h3, h4, h5⟩ | ⟨p, ps, h3, h4, h5, h6, h7, h8⟩
    · rw [flat_of g hd h3]
      have := RepL.flat (flats_map h4) l1
      subst this
      exact .inl ⟨a, vs, rfl, .inr h1.sq, flat_flatV h3, flats_flatV h4, k.same g (d := .bl _) rfl h5⟩
    · exact .inr (.inr (.inl ⟨p, ps, dp_rx g hd h3, dp_rx g he' (by rw [e1]; exact toPyL_tup h4), h5, h7, k.same g (d := .bl _) rfl h8⟩))
  · rename_i z e1
    obtain ⟨c, e2, h⟩ := h
    rw [str_of g he e1, str_of g hd e2]
    exact .inr (.inr (.inr ⟨c, z, rfl, rfl, k.same g (d := .bl _) rfl h⟩))
  · exact h.elim
theorem rfo_notIn : RfO K κ (rNotInA K) (fIn not) := fun w d e u v q Q g hd he h k => by
  unfold fIn at h
  split at h
  · rename_i ds e1
    have he' := he
    obtain ⟨a, vs, rfl, h1, l1⟩ := lst_of g he e1
    rcases h with ⟨x, us, h3, h4, h5⟩ | ⟨p, ps, h3, h4, h5, h6, h7, h8⟩
    · rw [flat_of g hd h3]
      have := RepL.flat (flats_map h4) l1
      subst this
      exact .inl ⟨a, vs, rfl, .inl (.inl (.inl h1)), flat_flatV h3, flats_flatV h4, k.same g (d := .bl _) rfl h5⟩
    · exact .inr (.inl ⟨p, ps, dp_rx g hd h3, dp_rx g he' (by rw [e1]; exact toPyL_lst h4), h5, h6, k.same g (d := .bl _) rfl h8⟩)
  · rename_i ds e1
    have he' := he
    obtain ⟨a, vs, rfl, h1, l1⟩ := tup_of g he e1
    rcases h with ⟨x, us, h3, h4, h5⟩ | ⟨p, ps, h3, h4, h5, h6, h7, h8⟩
    · rw [flat_of g hd h3]
      have := RepL.flat (flats_map h4) l1
      subst this
      exact .inl ⟨a, vs, rfl, .inr h1.sq, flat_flatV h3, flats_flatV h4, k.same g (d := .bl _) rfl h5⟩
    · exact .inr (.inr (.inl ⟨p, ps, dp_rx g hd h3, dp_rx g he' (by rw [e1]; exact toPyL_tup h4), h5, h7, k.same g (d := .bl _) rfl h8⟩))
  · rename_i z e1
    obtain ⟨c, e2, h⟩ := h
    rw [str_of g he e1, str_of g hd e2]
    exact .inr (.inr (.inr ⟨c, z, rfl, rfl, k.same g (d := .bl _) rfl h⟩))
  · exact h.elim
/-! ### x[i] -/
def fIx : F2 := fun d e S q => match pk S d, pk S e with
  | .lst ds, .int i => ∃ z, atI ds i = some z ∧ q z S
  | .tup ds, .int i => ∃ z, atI ds i = some z ∧ q z S
  | .str z, .int i => z.length ≤ 100000 ∧ ∃ c, atI z.cps.toList i = some c ∧ q (.str ⟨#[c]⟩) S
  | _, _ => False
theorem ix_A (hK : X.K = K := by rfl) : IxR X (rIx K) := hK ▸ ix_seq
theorem rfo_ix : RfO K κ (rIx K) fIx := fun w d e u v q Q g hd he h k => by
  unfold fIx at h
  split at h
  · rename_i ds i e1 e2
    obtain ⟨a, vs, rfl, h1, l1⟩ := lst_of g hd e1
    rw [int_of g he e2]
    obtain ⟨z, h2, h3⟩ := h
    obtain ⟨zv, h4, h5⟩ := l1.at h2
    exact .inl ⟨a, vs, i, zv, rfl, rfl, .inl (.inl h1), h4, k.same g (.of_rep h5) h3⟩
  · rename_i ds i e1 e2
    obtain ⟨a, vs, rfl, h1, l1⟩ := tup_of g hd e1
    rw [int_of g he e2]
    obtain ⟨z, h2, h3⟩ := h
    obtain ⟨zv, h4, h5⟩ := l1.at h2
    exact .inr (.inl ⟨a, vs, i, zv, rfl, rfl, h1.sq, h4, k.same g (.of_rep h5) h3⟩)
  · rename_i z i e1 e2
    rw [str_of g hd e1, int_of g he e2]
    obtain ⟨hz, c, h2, h3⟩ := h
    exact .inr (.inr ⟨z, i, c, rfl, rfl, sz_of hz, h2, k.same g (d := .str _) rfl h3⟩)
  · exact h.elim
/-! ### slices -/
abbrev MO := Nv → Sto → (Option Int → Sto → Prop) → XM → Prop
def RfP (K : PySem.W.Frag) (κ : Str → Addr) (W : WX) (t : TO) (m : MO) : Prop := ∀ w η σ q x (Q : Option Int → Hp → Prop), Good K κ w → EnvR K κ w η σ → m η w.S q x → HX K κ W w σ x → (∀ w' o, Good K κ w' → Gr w w' → q o w'.S → Q o w'.H) → t σ w.H Q
def mNoP : MO := fun _ S q _ => q none S
def mPart (m : ME) : MO := fun η S q x => m η S (fun d S1 => match pk S1 d with
  | .int i => q (some i) S1
  | _ => False) x
variable {W : WX} {te : TE} {me : ME} {tl th : TO} {ml mh : MO}
theorem rf_noP : RfP K κ W tNoPart mNoP := fun w η σ q x Q g e h hx k => k w none g (Gr.refl w) h
theorem rf_part (h : RfE K κ W te me) : RfP K κ W (tPart te) (mPart me) := fun w η σ q x Q g e hm hx k => h.go w η σ _ x _ g e hm hx fun w1 d u g1 gr1 rx hq => by
  split at hq
  · rename_i i e1
    exact ⟨i, int_of g1 rx e1, k w1 _ g1 gr1 hq⟩
  · exact hq.elim
def fSl (lo hi : Option Int) : F1 := fun d S q => match pk S d with
  | .lst ds => q (.lst (cutD ds lo hi)) S
  | .tup ds => q (.tup (cutD ds lo hi)) S
  | .str z => z.length ≤ 100000 ∧ q (.str (cutS z lo hi)) S
  | _ => False
def mSl (me : ME) (ml mh : MO) : ME := fun η S q x => me η S (fun d S1 => ml η S1 (fun lo S2 => mh η S2 (fun hi S3 => fSl lo hi d S3 q) x) x) x
def rSlAny (K : PySem.W.Frag) : V → Option Int → Option Int → Hp → VK → Prop := fun x lo hi H Q => rSlL K x lo hi H Q ∨ rSlA K x lo hi H Q ∨ rSlS x lo hi H Q
theorem sl_A (hK : X.K = K := by rfl) : SlR X (rSlAny K) := hK ▸ sl_list.or (sl_tupA.or sl_str)
theorem cut_all {ds : List D} {lo hi : Option Int} (h : HT.sIx ds.length 0 lo = 0 ∧ HT.sIx ds.length ds.length hi = ds.length) : cutD ds lo hi = ds := by
  unfold cutD
  rw [h.1, h.2]; simp
theorem rf_sl (h : RfE K κ W te me) (hl : RfP K κ W tl ml) (hh : RfP K κ W th mh) : RfE K κ W (L2.tSl (rSlAny K) te tl th) (mSl me ml mh) :=
  ⟨fun w η σ q x Q g e hm hx k => h.go w η σ _ x _ g e hm hx fun w1 d u g1 gr1 rx hm1 => hl w1 η σ _ x _ g1 (e.gr g gr1) hm1 (hx.gr gr1) fun w2 lo g2 gr2 hm2 => hh w2 η σ _ x _ g2 (e.gr g (gr1.trans gr2)) hm2 (hx.gr (gr1.trans gr2)) fun w3 hi g3 gr3 hq => by
    have gr13 := (gr1.trans gr2).trans gr3
    have rx := rx.gr g1 (gr2.trans gr3)
    have k := k.gr gr13
    unfold fSl at hq
    split at hq
    · rename_i ds e1
      obtain ⟨a, vs, rfl, h1, l1⟩ := lst_of g3 rx e1
      exact .inl ⟨a, vs, rfl, .inl (.inl h1), fun p hp => (k.kn g3).lst g3 (l1.cut lo hi) hp hq⟩
    · rename_i ds e1
      obtain ⟨a, vs, rfl, h1, l1⟩ := tup_of g3 rx e1
      refine .inr (.inl ⟨a, vs, rfl, h1.sq, fun z => ?_, fun _ p hp => k.tup g3 (l1.cut lo hi) hp _ (.inl rfl) hq⟩)
      rw [l1.len] at z
      rw [cut_all z] at hq
      exact k.same g3 (d := .tup ds) ⟨a, vs, rfl, h1, l1⟩ hq
    · rename_i z e1
      rw [str_of g3 rx e1]
      exact .inr (.inr ⟨z, rfl, sz_of hq.1, k.same g3 (d := .str _) rfl hq.2⟩)
    · exact hq.elim⟩
def fSlN (lo hi : Option Int) : F1 := fun d S q => match pk S d with
  | .lst ds => q (.lst (cutD ds lo hi)) S
  | _ => False
def mSlN (me : ME) (ml mh : MO) : ME := fun η S q x => me η S (fun d S1 => ml η S1 (fun lo S2 => mh η S2 (fun hi S3 => fSlN lo hi d S3 q) x) x) x
theorem rf_slN (h : RfE K κ W te me) (hl : RfP K κ W tl ml) (hh : RfP K κ W th mh) : RfN K κ W (L2.tSl (rSlL K) te tl th) (mSlN me ml mh) :=
  ⟨fun w η σ q x Q g e hm hx k => h.go w η σ _ x _ g e hm hx fun w1 d u g1 gr1 rx hm1 => hl w1 η σ _ x _ g1 (e.gr g gr1) hm1 (hx.gr gr1) fun w2 lo g2 gr2 hm2 => hh w2 η σ _ x _ g2 (e.gr g (gr1.trans gr2)) hm2 (hx.gr (gr1.trans gr2)) fun w3 hi g3 gr3 hq => by
    have gr13 := (gr1.trans gr2).trans gr3
    have rx := rx.gr g1 (gr2.trans gr3)
    have k := k.gr g3 gr13
    unfold fSlN at hq
    split at hq
    · rename_i ds e1
      obtain ⟨a, vs, rfl, h1, l1⟩ := lst_of g3 rx e1
      exact ⟨a, vs, rfl, .inl (.inl h1), fun p hp => k.lst g3 (l1.cut lo hi) hp hq⟩
    · exact hq.elim⟩
/-- xs[::-1] -/
def mRev (me : ME) : ME := fun η S q x => me η S (fun d S1 => match pk S1 d with
  | .lst ds => q (.lst ds.reverse) S1
  | _ => False) x
theorem rf_rev (h : RfE K κ W te me) : RfN K κ W (tRevL K te) (mRev me) :=
  ⟨fun w η σ q x Q g e hm hx k => h.go w η σ _ x _ g e hm hx fun w1 d u g1 gr1 rx hq => by
    split at hq
    · rename_i ds e1
      obtain ⟨a, vs, rfl, h1, l1⟩ := lst_of g1 rx e1
      exact ⟨a, vs, rfl, .inl (.inl h1), fun p hp => (k.gr g1 gr1).lst g1 l1.rev hp hq⟩
    · exact hq.elim⟩
end
end Mi
/-! Mirrors of built-ins called by name, of methods of texts -/
namespace Mi
open PySem L2 Aq Evl
section
variable {K : PySem.W.Frag} {κ : Str → Addr} {w w' w1 : Wd} {X : Cx}
theorem prd1 {α β : Type} {F : α → β → Prop} {x : α} {ys : List β} (h : Paired F [x] ys) : ∃ y, ys = [y] ∧ F x y := by
  cases h with | cons a t => cases t; exact ⟨_, rfl, a⟩
theorem prd2 {α β : Type} {F : α → β → Prop} {x z : α} {ys : List β} (h : Paired F [x, z] ys) : ∃ y u, ys = [y, u] ∧ F x y ∧ F z u := by
  cases h with | cons a t => cases t with | cons b t => cases t; exact ⟨_, _, rfl, a, b⟩
/-! ### len -/
def fLen : FL := fun ds S q => match ds with
  | [d] => match pk S d with
    | .lst xs => q (.int xs.length) S
    | .tup xs => q (.int xs.length) S
    | .str z => z.length ≤ 100000 ∧ q (.int z.length) S
    | .dic xs => q (.int xs.length) S
    | _ => False
  | _ => False
def rLenA (K : PySem.W.Frag) : List V → Hp → VK → Prop := fun xs H Q => (∃ p ys, xs = [.ref p] ∧ (SqL K H p ys ∨ SqT K H p ys) ∧ Q (.int ys.length) H) ∨ (∃ z, xs = [.str z] ∧ z.length ≤ sizeLine ∧ Q (.int z.length) H) ∨ (∃ a kvs, xs = [V.ref a] ∧ H a = some (.dK kvs) ∧ Q (.int kvs.length) H)
theorem call_lenA (hK : X.K = K := by rfl) : CallR X (.builtin "len") (rLenA K) := hK ▸ CallR.or call_len_seq (CallR.or call_len_str call_lenD)
theorem rfc_len : RfC K κ (rLenA K) fLen := fun w ds vs q Q g hd h k => by
  unfold fLen at h
  split at h
  · rename_i d
    obtain ⟨v, rfl, hv⟩ := prd1 hd
    split at h
    · rename_i xs e1
      obtain ⟨a, us, rfl, h1, l1⟩ := lst_of g hv e1
      exact .inl ⟨a, us, rfl, .inl (.inl (.inl h1)), by rw [l1.len]; exact k.same g (d := .int _) rfl h⟩
    · rename_i xs e1
      obtain ⟨a, us, rfl, h1, l1⟩ := tup_of g hv e1
      exact .inl ⟨a, us, rfl, .inr h1.sq, by rw [l1.len]; exact k.same g (d := .int _) rfl h⟩
    · rename_i z e1
      rw [str_of g hv e1]
      exact .inr (.inl ⟨z, rfl, sz_of h.1, k.same g (d := .int _) rfl h.2⟩)
    · rename_i xs e1
      obtain ⟨a, us, rfl, h1, l1⟩ := dic_of g hv e1
      exact .inr (.inr ⟨a, us, rfl, h1, by rw [l1.len]; exact k.same g (d := .int _) rfl h⟩)
    · exact h.elim
  · exact h.elim
/-! ### int, abs, min, max, str -/
def fInt : FL := fun ds S q => match ds with
  | [d] => match pk S d with
    | .int i => q (.int i) S
    | .bl b => q (.int (if b = true then 1 else 0)) S
    | _ => False
  | _ => False
theorem rfc_int : RfC K κ (fun xs H Q => (∃ i, xs = [V.int i] ∧ Q (V.int i) H) ∨ ∃ k, xs = [V.bl k] ∧ Q (V.int (if k = true then 1 else 0)) H) fInt := fun w ds vs q Q g hd h k => by
  unfold fInt at h
  split at h
  · obtain ⟨v, rfl, hv⟩ := prd1 hd
    split at h
    · rename_i i e1; rw [int_of g hv e1]; exact .inl ⟨i, rfl, k.same g (d := .int _) rfl h⟩
    · rename_i i e1; rw [bl_of g hv e1]; exact .inr ⟨i, rfl, k.same g (d := .int _) rfl h⟩
    · exact h.elim
  · exact h.elim
def fAbs : FL := fun ds S q => match ds with
  | [d] => match pk S d with
    | .int i => q (.int (if i < 0 then -i else i)) S
    | _ => False
  | _ => False
theorem rfc_abs : RfC K κ (fun xs H Q => ∃ i, xs = [.int i] ∧ Q (.int (if i < 0 then -i else i)) H) fAbs := fun w ds vs q Q g hd h k => by
  unfold fAbs at h
  split at h
  · obtain ⟨v, rfl, hv⟩ := prd1 hd
    split at h
    · rename_i i e1; rw [int_of g hv e1]; exact ⟨i, rfl, k.same g (d := .int _) rfl h⟩
    · exact h.elim
  · exact h.elim
def fTwo (f : Int → Int → Int) : FL := fun ds S q => match ds with
  | [d, e] => match pk S d, pk S e with
    | .int i, .int j => q (.int (f i j)) S
    | _, _ => False
  | _ => False
theorem rfc_two {f : Int → Int → Int} : RfC K κ (fun xs H Q => ∃ i j, xs = [V.int i, V.int j] ∧ Q (V.int (f i j)) H) (fTwo f) := fun w ds vs q Q g hd h k => by
  unfold fTwo at h
  split at h
  · obtain ⟨v, u, rfl, hv, hu⟩ := prd2 hd
    split at h
    · rename_i i j e1 e2; rw [int_of g hv e1, int_of g hu e2]; exact ⟨i, j, rfl, k.same g (d := .int _) rfl h⟩
    · exact h.elim
  · exact h.elim
abbrev fMin : FL := fTwo fun i j => if j < i then j else i
abbrev fMax : FL := fTwo fun i j => if j > i then j else i
def fStr : FL := fun ds S q => match ds with
  | [d] => match pk S d with
    | .int i => i.natAbs.log2 < 1920 ∧ q (.str (Str.ofString (toString i))) S
    | _ => False
  | _ => False
theorem rfc_str : RfC K κ (fun xs H Q => ∃ i, xs = [V.int i] ∧ Nat.log2 (Int.natAbs i) < 1920 ∧ Q (V.str (Str.ofString (toString i))) H) fStr := fun w ds vs q Q g hd h k => by
  unfold fStr at h
  split at h
  · obtain ⟨v, rfl, hv⟩ := prd1 hd
    split at h
    · rename_i i e1; rw [int_of g hv e1]; exact ⟨i, rfl, h.1, k.same g (d := .str _) rfl h.2⟩
    · exact h.elim
  · exact h.elim
/-! ### tuple(xs), list(xs) -/
def fTuple : FL := fun ds S q => match ds with
  | [.ftp xs] => q (.ftp xs) S
  | [d] => match pk S d with
    | .lst xs => q (.ftp xs) S
    | .tup xs => q (.tup xs) S
    | _ => False
  | _ => False
def rTupleA (K : PySem.W.Frag) : List V → Hp → VK → Prop := fun xs H Q => ∃ p ys, xs = [.ref p] ∧ ((SqL K H p ys ∧ ∀ l o, H l = none → o.dict = none → Q (.ref l) (upd H l (.frz o (.tup ys)))) ∨ (SqT K H p ys ∧ Q (.ref p) H))
theorem call_tupleA (hK : X.K = K := by rfl) : CallR X (.type "tuple") (rTupleA K) := hK ▸ call_tuple_frz
theorem rfc_tuple : RfC K κ (rTupleA K) fTuple := fun w ds vs q Q g hd h k => by
  unfold fTuple at h
  split at h
  · rename_i xs
    obtain ⟨v, rfl, hv⟩ := prd1 hd
    obtain ⟨a, us, rfl, ⟨n, o, h1, z⟩, l⟩ := (hv : Rep K κ w (.ftp xs) v)
    exact ⟨a, us, rfl, .inr ⟨.inl (.inr ⟨o, h1⟩), k.same g (d := .ftp xs) ⟨a, us, rfl, ⟨n, o, h1, z⟩, l⟩ h⟩⟩
  · obtain ⟨v, rfl, hv⟩ := prd1 hd
    split at h
    · rename_i xs e1
      obtain ⟨a, us, rfl, h1, l1⟩ := lst_of g hv e1
      refine ⟨a, us, rfl, .inl ⟨.inl (.inl h1), fun l o hl ho => ?_⟩⟩
      obtain ⟨g2, gr2, np⟩ := new_val (o := .frz o (.tup us)) g hl
      exact k _ (.ftp xs) _ g2 gr2 ⟨l, us, rfl, ⟨np, o, upd_same, ho⟩, RepL.stay gr2.stay _ _ l1⟩ h
    · rename_i xs e1
      obtain ⟨a, us, rfl, h1, l1⟩ := tup_of g hv e1
      exact ⟨a, us, rfl, .inr ⟨h1.sq, k.same g (d := .tup xs) ⟨a, us, rfl, h1, l1⟩ h⟩⟩
    · exact h.elim
  · exact h.elim
def fList : FL := fun ds S q => match ds with
  | [d] => match pk S d with
    | .lst xs => q (.lst xs) S
    | .tup xs => q (.lst xs) S
    | _ => False
  | _ => False
def rListA (K : PySem.W.Frag) : List V → Hp → VK → Prop := fun xs H Q => ∃ p ys, xs = [.ref p] ∧ (SqL K H p ys ∨ SqT K H p ys) ∧ ∀ l, H l = none → Q (.ref l) (upd H l (.lst ys))
theorem call_listA (hK : X.K = K := by rfl) : CallR X (.type "list") (rListA K) := hK ▸ call_list_of
theorem rfcn_list : RfCN K κ (rListA K) fList := fun w ds vs q Q g hd h k => by
  unfold fList at h
  split at h
  · obtain ⟨v, rfl, hv⟩ := prd1 hd
    split at h
    · rename_i xs e1
      obtain ⟨a, us, rfl, h1, l1⟩ := lst_of g hv e1
      exact ⟨a, us, rfl, .inl (.inl (.inl h1)), fun l hl => k.lst g l1 hl h⟩
    · rename_i xs e1
      obtain ⟨a, us, rfl, h1, l1⟩ := tup_of g hv e1
      exact ⟨a, us, rfl, .inr h1.sq, fun l hl => k.lst g l1 hl h⟩
    · exact h.elim
  · exact h.elim
/-! ### sum, any, all, sorted -/
def intsD : List D → Option (List Int)
  | [] => some []
  | .int i :: r => (intsD r).map (i :: ·)
  | _ => none
def blsD : List D → Option (List Bool)
  | [] => some []
  | .bl i :: r => (blsD r).map (i :: ·)
  | _ => none
def strsD : List D → Option (List Str)
  | [] => some []
  | .str i :: r => (strsD r).map (i :: ·)
  | _ => none
theorem ints_of : ∀ {ds : List D} {vs : List V} {ns : List Int}, RepL K κ w ds vs → intsD ds = some ns → vs = ns.map V.int
  | [], vs, ns, h, e => by cases h; cases e; rfl
  | d :: r, vs, ns, ⟨v, t, e1, h, l⟩, e => by
    subst e1
    cases d with
    | int i =>
      rw [intsD] at e
      cases q : intsD r with
      | none => rw [q] at e; cases e
      | some ms => rw [q] at e; cases e; rw [ints_of l q, show v = .int i from h]; rfl
    | _ => cases e
theorem bls_of : ∀ {ds : List D} {vs : List V} {ns : List Bool}, RepL K κ w ds vs → blsD ds = some ns → vs = ns.map V.bl
  | [], vs, ns, h, e => by cases h; cases e; rfl
  | d :: r, vs, ns, ⟨v, t, e1, h, l⟩, e => by
    subst e1
    cases d with
    | bl i =>
      rw [blsD] at e
      cases q : blsD r with
      | none => rw [q] at e; cases e
      | some ms => rw [q] at e; cases e; rw [bls_of l q, show v = .bl i from h]; rfl
    | _ => cases e
theorem strs_of : ∀ {ds : List D} {vs : List V} {ns : List Str}, RepL K κ w ds vs → strsD ds = some ns → vs = ns.map V.str
  | [], vs, ns, h, e => by cases h; cases e; rfl
  | d :: r, vs, ns, ⟨v, t, e1, h, l⟩, e => by
    subst e1
    cases d with
    | str i =>
      rw [strsD] at e
      cases q : strsD r with
      | none => rw [q] at e; cases e
      | some ms => rw [q] at e; cases e; rw [strs_of l q, show v = .str i from h]; rfl
    | _ => cases e
def fSum : FL := fun ds S q => match ds with
  | [d] => match pk S d with
    | .lst xs => ∃ ns, intsD xs = some ns ∧ q (.int ns.sum) S
    | _ => False
  | _ => False
theorem rfc_sum : RfC K κ (rSum K) fSum := fun w ds vs q Q g hd h k => by
  unfold fSum at h
  split at h
  · obtain ⟨v, rfl, hv⟩ := prd1 hd
    split at h
    · rename_i xs e1
      obtain ⟨a, us, rfl, h1, l1⟩ := lst_of g hv e1
      obtain ⟨ns, e, h⟩ := h
      have := ints_of l1 e
      subst this
      exact ⟨a, ns, rfl, .inl (.inl h1), k.same g (d := .int _) rfl h⟩
    · exact h.elim
  · exact h.elim
def fBls (f : List Bool → Bool) : FL := fun ds S q => match ds with
  | [d] => match pk S d with
    | .lst xs => ∃ ns, blsD xs = some ns ∧ q (.bl (f ns)) S
    | _ => False
  | _ => False
theorem rfc_bls {f : List Bool → Bool} : RfC K κ (fun vs H Q => ∃ (a : Addr) (bs : List Bool), vs = [V.ref a] ∧ SqL K H a (bs.map V.bl) ∧ Q (.bl (f bs)) H) (fBls f) := fun w ds vs q Q g hd h k => by
  unfold fBls at h
  split at h
  · obtain ⟨v, rfl, hv⟩ := prd1 hd
    split at h
    · rename_i xs e1
      obtain ⟨a, us, rfl, h1, l1⟩ := lst_of g hv e1
      obtain ⟨ns, e, h⟩ := h
      have := bls_of l1 e
      subst this
      exact ⟨a, ns, rfl, .inl (.inl h1), k.same g (d := .bl _) rfl h⟩
    · exact h.elim
  · exact h.elim
abbrev fAny : FL := fBls fun bs => bs.any id
abbrev fAll : FL := fBls fun bs => bs.all id
theorem call_anyA (hc : X.calm = true := by rfl) (hK : X.K = K := by rfl) : CallR X (.builtin "any") (rAny K) := hK ▸ cr_any hc
theorem call_allA (hc : X.calm = true := by rfl) (hK : X.K = K := by rfl) : CallR X (.builtin "all") (rAll K) := hK ▸ cr_all hc
theorem call_sumA (hc : X.calm = true := by rfl) (hK : X.K = K := by rfl) : CallR X (.builtin "sum") (rSum K) := hK ▸ cr_sum hc
theorem rfc_any : RfC K κ (rAny K) fAny := rfc_bls
theorem rfc_all : RfC K κ (rAll K) fAll := rfc_bls
/-! ### repr -/
def fRepr : FL := fun ds S q => match ds with
  | [d] => ∃ p, toPy (pk S d) = some p ∧ ShN p 40 1000000 ∧ q (.str p.shown) S
  | _ => False
theorem rfc_repr : RfC K κ (rRepr K) fRepr := fun w ds vs q Q g hd h k => by
  unfold fRepr at h
  split at h
  · obtain ⟨v, rfl, hv⟩ := prd1 hd
    obtain ⟨p, e, s, h⟩ := h
    exact ⟨v, p, rfl, dp_rx g hv e, s, k.same g (d := .str _) rfl h⟩
  · exact h.elim
/-! ### isinstance -/
inductive Ty where
  | b (n : String) | o (c : Str)
  deriving DecidableEq
def Ty.v (κ : Str → Addr) : Ty → Value
  | .b n => .type n
  | .o c => .ref (κ c)
def tyD : D → Option Ty
  | .int _ => some (.b "int")
  | .bl _ => some (.b "bool")
  | .non => some (.b "NoneType")
  | .str _ => some (.b "str")
  | .lst _ => some (.b "list")
  | .tup _ => some (.b "tuple")
  | .dic _ => some (.b "dict")
  | .obj c _ => some (.o c)
  | _ => none
def subT (t u : Ty) : Bool := decide (t = u) || (decide (t = .b "bool") && decide (u = .b "int"))
/-- what isinstance wants of the classes cs -/
structure IsiF (K : PySem.W.Frag) (C : Addr) : Prop where
  cl : Cls K C
  ha : PySem.W.findIn K (.ref C) "__class__" = some (some (.builtin "object.__class__"))
  hn : PySem.W.specialIn K (.builtin "object.__class__") "__get__" = some (some (.builtin "getset_descriptor.__get__"))
  htk : PySem.W.takesIn K (.builtin "object.__class__") = some true
  hm : PySem.W.mroIn K C (.type "object") = some true
/-- Kp: the pairs of types that are told -/
structure Kit (K : PySem.W.Frag) (κ : Str → Addr) (Kp : Ty → Ty → Bool) : Prop where
  one : ∀ t u, Kp t u = true → PySem.W.kitOne K (t.v κ) (u.v κ) = some (subT t u)
  own : ∀ c u, Kp (.o c) u = true → IsiF K (κ c)
theorem tyx_of {d : D} {v : V} {t : Ty} {u : Ty} {Kp : Ty → Ty → Bool} (kt : Kit K κ Kp) (g : Good K κ w) (hd : RX K κ w d v) (e : tyD (pk w.S d) = some t) (hp : Kp t u = true) : TyX K w.H v (t.v κ) := by
  generalize e1 : pk w.S d = z at e
  cases z with
  | lst ds => cases e; obtain ⟨a, vs, rfl, h, _⟩ := lst_of g hd e1; exact .base (.lst h)
  | tup ds =>
    cases e
    obtain ⟨a, vs, rfl, h, _⟩ := tup_of g hd e1
    rcases h with ⟨_, h | ⟨o, h, _⟩⟩ | h
    · exact .base (.tup h)
    · exact .fTuple h
    · rcases h (fun _ => none) with h | ⟨o, its, n, h, c, _⟩
      · rcases h with h | ⟨_, h⟩ <;> cases h
      · exact .kTuple h c
  | dic ds => cases e; obtain ⟨a, vs, rfl, h, _⟩ := dic_of g hd e1; exact .base (.dK h)
  | obj c ds =>
    cases e
    obtain ⟨a, dx, vs, rfl, h, _⟩ := obj_of g hd e1
    have f := kt.own c u hp
    exact .base (.ins h f.cl f.ha f.hn f.htk f.hm)
  | int i => cases e; rw [int_of g hd e1]; exact .base (.int i)
  | bl i => cases e; rw [bl_of g hd e1]; exact .base (.bl i)
  | non => cases e; rw [non_of g hd e1]; exact .base .non
  | str i => cases e; rw [str_of g hd e1]; exact .base (.str i)
  | _ => cases e
def clsD : D → Option Ty
  | .ty n => some (.b n)
  | .cls c => some (.o c)
  | _ => none
def fIsi (Kp : Ty → Ty → Bool) : FL := fun ds S q => match ds with
  | [d, c] => ∃ t u, tyD (pk S d) = some t ∧ clsD c = some u ∧ Kp t u = true ∧ q (.bl (subT t u)) S
  | _ => False
theorem rfc_isi {Kp : Ty → Ty → Bool} (kt : Kit K κ Kp) : RfC K κ (rIsi K) (fIsi Kp) := fun w ds vs q Q g hd h k => by
  unfold fIsi at h
  split at h
  · rename_i d c
    obtain ⟨v, u, rfl, hv, hu⟩ := prd2 hd
    obtain ⟨t, y, h1, h2, h3, h4⟩ := h
    have cv : ClsV u (y.v κ) := by
      cases c with
      | ty n => cases h2; rw [show u = .ty n from hu]; exact .ty n
      | cls n => cases h2; rw [show u = .ref (κ n) from hu]; exact .own _
      | _ => cases h2
    exact ⟨v, u, t.v κ, y.v κ, subT t y, rfl, cv, tyx_of kt g hv h1 h3, kt.one t y h3, k.same g (d := .bl _) rfl h4⟩
  · exact h.elim
theorem call_isiA (hK : X.K = K := by rfl) : CallR X (.builtin "isinstance") (rIsi K) := hK ▸ call_isi
theorem call_isiTA (hK : X.K = K := by rfl) : CallR X (.builtin "isinstance") (rIsiT K) := hK ▸ call_isiT
/-- isinstance(x, (A, B)) with the tuple as it is written -/
def mIsiT (Kp : Ty → Ty → Bool) (a b : Ty) (m : ME) : ME := fun η S q x => m η S (fun d S1 => ∃ t, tyD (pk S1 d) = some t ∧ Kp t a = true ∧ Kp t b = true ∧ q (.bl (subT t a || subT t b)) S1) x
def Ty.val (κ : Str → Addr) : Ty → V
  | .b n => .ty n
  | .o c => .ref (κ c)
theorem rf_isiT {Kp : Ty → Ty → Bool} {a b : Ty} {W : WX} {te : TE} {me : ME} (kt : Kit K κ Kp) (h : RfE K κ W te me) :
    RfE K κ W (tCB (rIsiT K) (tCons te (tCons (tTup (tCons (tC (a.val κ)) (tCons (tC (b.val κ)) tNil))) tNil))) (mIsiT Kp a b me) :=
  ⟨fun w η σ q x Q g e hm hx k => h.go w η σ _ x _ g e hm hx fun w1 d v g1 gr1 rx hq => by
    obtain ⟨t, h1, h2, h3, h4⟩ := hq
    refine ⟨by show 2 ≤ sizeLine; decide, fun p hp => ?_⟩
    have cv : ∀ y : Ty, ClsV (y.val κ) (y.v κ) := fun y => by cases y with | b n => exact .ty n | o c => exact .own _
    have k1 := k.gr gr1
    have ty := tyx_of kt g1 rx h1 h2
    have ne : ∀ {c : Addr} {o : HO}, w1.H c = some o → upd w1.H p (.tup [a.val κ, b.val κ]) c = some o := fun {c o} z => by rw [upd_ne (ne_of_none z hp)]; exact z
    have ty2 : TyX K (upd w1.H p (.tup [a.val κ, b.val κ])) v (t.v κ) := by
      obtain ⟨g', gr', st⟩ := new_own (o := .tup [a.val κ, b.val κ]) g1 hp
      generalize t.v κ = tv at ty
      cases ty with
      | base h =>
        cases h with
        | non => exact .base .non
        | bl b => exact .base (.bl b)
        | int b => exact .base (.int b)
        | str b => exact .base (.str b)
        | flt b => exact .base (.flt b)
        | lst e => exact .base (.lst (ne e))
        | frz e => exact .base (.frz (ne e))
        | tup e => exact .base (.tup (ne e))
        | dK e => exact .base (.dK (ne e))
        | dT e => exact .base (.dT (ne e))
        | ins e c1 c2 c3 c4 c5 => exact .base (.ins (ne e) c1 c2 c3 c4 c5)
      | byt b => exact .byt b
      | set e => exact .set (ne e)
      | kList e c => exact .kList e c
      | kTuple e c => exact .kTuple e c
      | kDict e c => exact .kDict e c
      | fTuple e => exact .fTuple (ne e)
      | fDict e => exact .fDict (ne e)
    have any2 : PySem.W.kitAny K (t.v κ) [a.v κ, b.v κ] = some (subT t a || subT t b) := by
      have q1 := kt.one t a h2
      have q2 := kt.one t b h3
      have inn : PySem.W.kitAny K (t.v κ) [b.v κ] = some (subT t b) := by
        cases z : subT t b with
        | true => rw [z] at q2; exact kitAny_cons q2 (fun e => by cases e) (fun _ => rfl)
        | false => rw [z] at q2; exact kitAny_cons q2 (fun _ => kitAny_nil) (fun e => by cases e)
      cases z : subT t a with
      | true => rw [z] at q1; exact kitAny_cons q1 (fun e => by cases e) (fun _ => rfl)
      | false => rw [z] at q1; exact kitAny_cons q1 (fun _ => by rw [inn]; rfl) (fun e => by cases e)
    refine ⟨v, p, _, _, _, _, rfl, upd_same, .cons (cv a) (.cons (cv b) .nil), ty2, any2, ?_⟩
    obtain ⟨g2, gr2, _⟩ := new_val (o := .tup [a.val κ, b.val κ]) g1 hp
    exact k1 _ (.bl _) _ g2 gr2 rfl h4⟩
end
/-! ### sep.join(xs), x.upper() -/
section
variable {K : PySem.W.Frag} {κ : Str → Addr} {W : WX} {te to : TE} {me mo : ME}
def rJoinA (K : PySem.W.Frag) : V → List V → Hp → VK → Prop := fun x xs H Q => ∃ a p ys, x = V.str a ∧ xs = [V.ref p] ∧ (SqL K H p (List.map V.str ys) ∨ SqT K H p (List.map V.str ys)) ∧ List.sum (List.map (fun x => Str.length x) ys) + List.length ys * Str.length a ≤ 16777216 ∧ Q (V.str (Txt.join a ys)) H
def strsOf : D → Option (List Str)
  | .lst xs => strsD xs
  | .tup xs => strsD xs
  | _ => none
def mJoin (mo me : ME) : ME := fun η S q x => mo η S (fun d S1 => match d with
  | .str a => me η S1 (fun e S2 => ∃ ys, strsOf (pk S2 e) = some ys ∧ (ys.map Str.length).sum + ys.length * a.length ≤ 16777216 ∧ q (.str (Txt.join a ys)) S2) x
  | _ => False) x
theorem rf_join (ho : RfE K κ W to mo) (he : RfE K κ W te me) : RfE K κ W (tM1 (rJoinA K) to te) (mJoin mo me) :=
  ⟨fun w η σ q x Q g e hm hx k => ho.go w η σ _ x _ g e hm hx fun w1 d v g1 gr1 rx hm1 => by
    split at hm1
    · rename_i a
      refine ⟨⟨a, rx⟩, he.go w1 η σ _ x _ g1 (e.gr g gr1) hm1 (hx.gr gr1) fun w2 d2 v2 g2 gr2 rx2 hq => ?_⟩
      obtain ⟨ys, h1, h2, h3⟩ := hq
      have k2 := k.gr (gr1.trans gr2)
      generalize e1 : pk w2.S d2 = z at h1
      cases z with
      | lst xs =>
        obtain ⟨p, us, rfl, h4, l⟩ := lst_of g2 rx2 e1
        have := strs_of l h1
        subst this
        exact ⟨a, p, ys, rx, rfl, .inl (.inl (.inl h4)), h2, k2.same g2 (d := .str _) rfl h3⟩
      | tup xs =>
        obtain ⟨p, us, rfl, h4, l⟩ := tup_of g2 rx2 e1
        have := strs_of l h1
        subst this
        exact ⟨a, p, ys, rx, rfl, .inr h4.sq, h2, k2.same g2 (d := .str _) rfl h3⟩
      | _ => cases h1
    · exact hm1.elim⟩
def mUpper (mo : ME) : ME := fun η S q x => mo η S (fun d S1 => match d with
  | .str a => a.length ≤ 100000 ∧ q (.str (Txt.upper a)) S1
  | _ => False) x
theorem rf_upper (ho : RfE K κ W to mo) : RfE K κ W (tM0 (fun x xs H Q => ∃ a, x = V.str a ∧ xs = [] ∧ Str.length a ≤ 5592405 ∧ Q (V.str (Txt.upper a)) H) to) (mUpper mo) :=
  ⟨fun w η σ q x Q g e hm hx k => ho.go w η σ _ x _ g e hm hx fun w1 d v g1 gr1 rx hm1 => by
    split at hm1
    · rename_i a
      exact ⟨⟨a, rx⟩, a, rx, rfl, Nat.le_trans hm1.1 (by decide), (k.gr gr1).same g1 (d := .str _) rfl hm1.2⟩
    · exact hm1.elim⟩
/-- tuple.index of texts -/
def mTupIx (mo me : ME) : ME := fun η S q x => mo η S (fun d S1 => match d with
  | .ftp xs => me η S1 (fun e S2 => match pk S2 e with
    | .str z => ∃ ys j, strsD xs = some ys ∧ ys[j]? = some z ∧ (∀ m, m < j → ys[m]? ≠ some z) ∧ q (.int (j : Nat)) S2
    | _ => False) x
  | _ => False) x
def rTupIx (K : PySem.W.Frag) : V → List V → Hp → VK → Prop := fun x xs H Q => ∃ (p : Addr) (ys : List Str) (z : Str) (j : Nat), x = V.ref p ∧ xs = [V.str z] ∧ SqT K H p (List.map V.str ys) ∧ ys[j]? = some z ∧ (∀ (m : Nat), m < j → ys[m]? ≠ some z) ∧ Q (V.int ↑j) H
theorem mt_tupIx {X : Cx} (hK : X.K = K := by rfl) : MtR X "tuple.index" (rTupIx K) := hK ▸ mt_tup_index
theorem rf_tupIx (ho : RfE K κ W to mo) (he : RfE K κ W te me) : RfE K κ W (tTupM (rTupIx K) to (tCons te tNil)) (mTupIx mo me) :=
  ⟨fun w η σ q x Q g e hm hx k => ho.go w η σ _ x _ g e hm hx fun w1 d v g1 gr1 rx hm1 => by
    split at hm1
    · rename_i xs
      obtain ⟨a, us, rfl, ⟨n, o, h1, z⟩, l⟩ := (rx : Rep K κ w1 (.ftp xs) v)
      refine ⟨⟨a, o, us, rfl, h1, z⟩, he.go w1 η σ _ x _ g1 (e.gr g gr1) hm1 (hx.gr gr1) fun w2 d2 v2 g2 gr2 rx2 hq => ?_⟩
      split at hq
      · rename_i z2 e2
        obtain ⟨ys, j, h2, h3, h4, h5⟩ := hq
        rw [str_of g2 rx2 e2]
        have := strs_of l h2
        subst this
        obtain ⟨h6, _⟩ := gr2.stay.H a _ h1 n
        exact ⟨a, ys, z2, j, rfl, rfl, .inl (.inr ⟨o, h6⟩), h3, h4, (k.gr (gr1.trans gr2)).same g2 (d := .int _) rfl h5⟩
      · exact hq.elim
    · exact hm1.elim⟩
/-- *xs in a list of arguments -/
def mStar (m : ME) (r : MA) : MA := fun η S q x => m η S (fun d S1 => match d with
  | .lst xs => r η S1 (fun ds S2 => q (xs ++ ds) S2) x
  | .tup xs => r η S1 (fun ds S2 => q (xs ++ ds) S2) x
  | .ftp xs => r η S1 (fun ds S2 => q (xs ++ ds) S2) x
  | .bor (.lst xs) => r η S1 (fun ds S2 => q (xs ++ ds) S2) x
  | .own _ (.lst xs) => r η S1 (fun ds S2 => q (xs ++ ds) S2) x
  | _ => False) x
theorem RepL.prd {w : Wd} : ∀ {ds : List D} {vs : List V}, RepL K κ w ds vs → Paired (RX K κ w) ds vs
  | [], _, h => by cases h; exact .nil
  | d :: r, vs, ⟨v, t, e, h, l⟩ => by subst e; exact .cons (.of_rep h) (RepL.prd l)
theorem prd_app {α β : Type} {F : α → β → Prop} : ∀ {xs zs : List α} {ys us : List β}, Paired F xs ys → Paired F zs us → Paired F (xs ++ zs) (ys ++ us)
  | _, _, _, _, .nil, h => h
  | _, _, _, _, .cons a t, h => .cons a (prd_app t h)
theorem rf_star {t : TA} {m : MA} (he : RfE K κ W te me) (h : RfA K κ W t m) : RfA K κ W (StX.tStar K te t) (mStar me m) :=
  ⟨fun w η σ q x Q g e hm hx k => he.go w η σ _ x _ g e hm hx fun w1 d v g1 gr1 rx hm1 => by
    have go : ∀ {xs : List D} {p : Addr} {us : List V}, v = .ref p → (SqT K w1.H p us ∨ SqL K w1.H p us) → RepL K κ w1 xs us → m η w1.S (fun ds S2 => q (xs ++ ds) S2) x → ∃ p xs, v = V.ref p ∧ (SqT K w1.H p xs ∨ SqL K w1.H p xs) ∧ t σ w1.H fun ys H2 => Q (xs ++ ys) H2 :=
      fun {xs p us} e1 sq l hm2 => ⟨p, us, e1, sq, h.go w1 η σ _ x _ g1 (e.gr g gr1) hm2 (hx.gr gr1) fun w2 ds vs g2 gr2 pr hq => k w2 _ _ g2 (gr1.trans gr2) (prd_app (RepL.prd (RepL.stay gr2.stay _ _ l)) pr) hq⟩
    split at hm1
    · rename_i xs
      obtain ⟨p, us, rfl, h1, l⟩ := lst_of (ds := xs) g1 rx rfl
      exact go rfl (.inr (.inl (.inl h1))) l hm1
    · rename_i xs
      obtain ⟨p, us, rfl, h1, l⟩ := tup_of (ds := xs) g1 rx rfl
      exact go rfl (.inl h1.sq) l hm1
    · rename_i xs
      obtain ⟨p, us, rfl, h1, l⟩ := tup_of (ds := xs) g1 rx rfl
      exact go rfl (.inl h1.sq) l hm1
    · rename_i xs
      obtain ⟨p, us, rfl, h1, l⟩ := lst_of (ds := xs) g1 rx rfl
      exact go rfl (.inr (.inl (.inl h1))) l hm1
    · rename_i xs
      obtain ⟨p, us, rfl, h1, l⟩ := lst_of (ds := xs) g1 rx rfl
      exact go rfl (.inr (.inl (.inl h1))) l hm1
    · exact hm1.elim⟩
end
end Mi
/-! Mirrors of targets, of what is walked, of comprehensions -/
namespace Mi
open PySem L2 Aq Evl
/-! ### slots forgotten -/
theorem wipe_get {σ : L2.St} {i : Nat} : ∀ {vs : List Nat}, (wipe σ vs)[i]? = if i ∈ vs then σ[i]?.map (fun _ => none) else σ[i]?
  | [] => by simp [wipe]
  | v :: vs => by
    have ih := wipe_get (σ := σ) (i := i) (vs := vs)
    unfold wipe
    by_cases hv : v = i
    · subst hv
      rw [if_pos (List.mem_cons_self)]
      by_cases hl : v < σ.length
      · rw [List.getElem?_set_self (by rw [wipe_length]; exact hl)]; simp [hl]
      · rw [List.getElem?_eq_none (by rw [List.length_set, wipe_length]; omega)]; simp [hl]
    · rw [List.getElem?_set_ne hv, ih]
      by_cases hm : i ∈ vs
      · rw [if_pos hm, if_pos (List.mem_cons_of_mem _ hm)]
      · rw [if_neg hm, if_neg (by simp only [List.mem_cons, not_or]; exact ⟨fun e => hv e.symm, hm⟩)]
theorem wipe_set {σ : L2.St} {i : Nat} {x : Option V} {vs : List Nat} (h : i ∈ vs) : wipe (σ.set i x) vs = wipe σ vs := by
  apply List.ext_getElem?
  intro j
  rw [wipe_get, wipe_get]
  by_cases hj : j ∈ vs
  · rw [if_pos hj, if_pos hj, List.getElem?_set]
    by_cases e : i = j
    · subst e
      by_cases hl : i < σ.length
      · simp [hl]
      · simp [hl]
    · rw [if_neg e]
  · rw [if_neg hj, if_neg hj, List.getElem?_set_ne (fun e : i = j => hj (by rw [← e]; exact h))]
theorem wipe_wipe {σ : L2.St} {vs : List Nat} : wipe (wipe σ vs) vs = wipe σ vs := by
  apply List.ext_getElem?
  intro j
  rw [wipe_get, wipe_get]
  by_cases hj : j ∈ vs
  · rw [if_pos hj, if_pos hj]
    cases σ[j]? <;> rfl
  · rw [if_neg hj, if_neg hj]
def wipeD (η : Nv) : List Nat → Nv
  | [] => η
  | v :: vs => (wipeD η vs).set v none
section
variable {K : PySem.W.Frag} {κ : Str → Addr} {w w' w1 : Wd} {η : Nv} {σ : L2.St} {d : D} {v : V}
theorem EnvR.forget {i : Nat} (e : EnvR K κ w η σ) : EnvR K κ w (η.set i none) (σ.set i none) := by
  have get : ∀ {j : Nat} {z : D}, (η.set i none)[j]? = some (some z) → j ≠ i ∧ η[j]? = some (some z) := fun {j z} h => by
    by_cases q : i = j
    · subst q
      rw [List.getElem?_set] at h
      by_cases hl : i < η.length
      · rw [if_pos rfl, if_pos hl] at h; cases h
      · rw [if_pos rfl, if_neg hl] at h; cases h
    · rw [List.getElem?_set_ne q] at h; exact ⟨fun z => q z.symm, h⟩
  refine ⟨by simp [e.len], fun j z h => ?_, fun j k s u x y a h1 h2 h3 h4 => ?_⟩
  · obtain ⟨n, h⟩ := get h
    obtain ⟨v, h1, h2⟩ := e.at_ j z h
    exact ⟨v, by rw [List.getElem?_set_ne (Ne.symm n)]; exact h1, h2⟩
  · obtain ⟨n1, h1⟩ := get h1
    obtain ⟨n2, h2⟩ := get h2
    rw [List.getElem?_set_ne (Ne.symm n1)] at h3
    rw [List.getElem?_set_ne (Ne.symm n2)] at h4
    exact e.dis j k s u x y a h1 h2 h3 h4
theorem EnvR.wipe (e : EnvR K κ w η σ) : ∀ vs : List Nat, EnvR K κ w (wipeD η vs) (wipe σ vs)
  | [] => e
  | v :: vs => (EnvR.wipe e vs).forget
theorem EnvR.put {i : Nat} (e : EnvR K κ w η σ) (r : RX K κ w d v) (n : d.nown = true) : EnvR K κ w (η.set i (some d)) (σ.set i (some v)) := by
  have get : ∀ {j : Nat} {z : D}, (η.set i (some d))[j]? = some (some z) → (j = i ∧ z = d ∧ i < η.length) ∨ (j ≠ i ∧ η[j]? = some (some z)) := fun {j z} h => by
    by_cases q : i = j
    · subst q
      rw [List.getElem?_set] at h
      by_cases hl : i < η.length
      · rw [if_pos rfl, if_pos hl] at h; cases h; exact .inl ⟨rfl, rfl, hl⟩
      · rw [if_pos rfl, if_neg hl] at h; cases h
    · rw [List.getElem?_set_ne q] at h; exact .inr ⟨fun z => q z.symm, h⟩
  have own : ∀ {j : Nat} {s : Option Addr} {z : D}, (η.set i (some d))[j]? = some (some (.own s z)) → j ≠ i ∧ η[j]? = some (some (.own s z)) := fun {j s z} h => by
    rcases get h with ⟨_, q, _⟩ | q
    · subst q; cases n
    · exact q
  refine ⟨by simp [e.len], fun j z h => ?_, fun j k s u x y a h1 h2 h3 h4 => ?_⟩
  · rcases get h with ⟨rfl, rfl, hl⟩ | ⟨n, h⟩
    · exact ⟨v, by rw [List.getElem?_set_self (by rw [← e.len]; exact hl)], r⟩
    · obtain ⟨v, h1, h2⟩ := e.at_ j z h
      exact ⟨v, by rw [List.getElem?_set_ne (Ne.symm n)]; exact h1, h2⟩
  · obtain ⟨n1, h1⟩ := own h1
    obtain ⟨n2, h2⟩ := own h2
    rw [List.getElem?_set_ne (Ne.symm n1)] at h3
    rw [List.getElem?_set_ne (Ne.symm n2)] at h4
    exact e.dis j k s u x y a h1 h2 h3 h4
end
/-! ### targets -/
abbrev MG := D → Nv → Sto → (Nv → Sto → Prop) → Prop
abbrev MGs := List D → Nv → Sto → (Nv → Sto → Prop) → Prop
section
variable (K : PySem.W.Frag) (κ : Str → Addr)
/-- nothing new is held -/
def OwS (η : Nv) (σ : L2.St) (η' : Nv) (σ' : L2.St) : Prop := ∀ (i : Nat) (t : Option Addr) (d : D), η'[i]? = some (some (.own t d)) → η[i]? = some (some (.own t d)) ∧ σ'[i]? = σ[i]?
def KE (w : Wd) (η : Nv) (σ : L2.St) (vs : List Nat) (n : Nv → Sto → Prop) (N : L2.St → Hp → Prop) : Prop := ∀ w' η' σ', Good K κ w' → Gr w w' → EnvR K κ w' η' σ' → wipe σ' vs = wipe σ vs → OwS η σ η' σ' → n η' w'.S → N σ' w'.H
def RfG (t : TG) (g : MG) (vs : List Nat) : Prop := ∀ w η σ v d n N, Good K κ w → EnvR K κ w η σ → RX K κ w d v → g d η w.S n → KE K κ w η σ vs n N → t v σ w.H N
def RfGs (t : TGs) (g : MGs) (vs : List Nat) : Prop := ∀ w η σ us ds n N, Good K κ w → EnvR K κ w η σ → RepL K κ w ds us → g ds η w.S n → KE K κ w η σ vs n N → t us σ w.H N
end
def mGName (i : Nat) : MG := fun d η S n => d.nown = true ∧ n (η.set i (some d)) S
def mGNil : MGs := fun ds η S n => ds = [] ∧ n η S
def mGCons (g : MG) (gs : MGs) : MGs := fun ds η S n => match ds with
  | d :: r => g d η S (fun η1 S1 => gs r η1 S1 n)
  | [] => False
def mGTup (k : Nat) (gs : MGs) : MG := fun d η S n => match d with
  | .tup ds => ds.length = k ∧ gs ds η S n
  | .ftp ds => ds.length = k ∧ gs ds η S n
  | .lst ds => ds.length = k ∧ gs ds η S n
  | .bor (.lst ds) => ds.length = k ∧ gs ds η S n
  | _ => False
section
variable {K : PySem.W.Frag} {κ : Str → Addr} {w w' w1 : Wd} {η : Nv} {σ : L2.St} {W : WX}
theorem OwS.refl (η : Nv) (σ : L2.St) : OwS η σ η σ := fun _ _ _ h => ⟨h, rfl⟩
theorem OwS.trans {η1 η2 : Nv} {σ1 σ2 : L2.St} (a : OwS η σ η1 σ1) (b : OwS η1 σ1 η2 σ2) : OwS η σ η2 σ2 := fun i t d h => let ⟨h1, e1⟩ := b i t d h; let ⟨h2, e2⟩ := a i t d h1; ⟨h2, e1.trans e2⟩
theorem OwS.put {i : Nat} {d : D} {v : V} (n : d.nown = true) : OwS η σ (η.set i (some d)) (σ.set i (some v)) := fun j s z h => by
  by_cases q : i = j
  · subst q
    rw [List.getElem?_set] at h
    by_cases hl : i < η.length
    · rw [if_pos rfl, if_pos hl] at h; cases h; cases n
    · rw [if_pos rfl, if_neg hl] at h; cases h
  · rw [List.getElem?_set_ne q] at h ⊢
    exact ⟨h, rfl⟩
theorem KE.same {vs : List Nat} {n : Nv → Sto → Prop} {N : L2.St → Hp → Prop} {η' : Nv} {σ' : L2.St} (g : Good K κ w) (k : KE K κ w η σ vs n N) (e : EnvR K κ w η' σ') (h : L2.wipe σ' vs = L2.wipe σ vs) (o : OwS η σ η' σ') (hn : n η' w.S) : N σ' w.H := k w η' σ' g (Gr.refl w) e h o hn
theorem rfg_name {i : Nat} {vs : List Nat} (h : i ∈ vs) : RfG K κ (gName i) (mGName i) vs := fun w η σ v d n N g e r hm k => k.same g (e.put r hm.1) (wipe_set h) (.put hm.1) hm.2
theorem rfg_nil {vs : List Nat} : RfGs K κ gNil mGNil vs := fun w η σ us ds n N g e r hm k => by
  obtain ⟨rfl, hn⟩ := hm
  cases r
  exact ⟨rfl, k.same g e rfl (.refl _ _) hn⟩
theorem rfg_cons {t : TG} {ts : TGs} {m : MG} {ms : MGs} {vs : List Nat} (h : RfG K κ t m vs) (h2 : RfGs K κ ts ms vs) : RfGs K κ (gCons t ts) (mGCons m ms) vs := fun w η σ us ds n N g e r hm k => by
  cases ds with
  | nil => exact hm.elim
  | cons d ds =>
    obtain ⟨v, t', e1, hv, l⟩ := r
    subst e1
    exact ⟨v, t', rfl, h w η σ v d _ _ g e (.of_rep hv) hm fun w1 η1 σ1 g1 gr1 e1 hw o1 hm1 => h2 w1 η1 σ1 t' ds n N g1 e1 (RepL.stay gr1.stay _ _ l) hm1 fun w2 η2 σ2 g2 gr2 e2 hw2 o2 hn => k w2 η2 σ2 g2 (gr1.trans gr2) e2 (hw2.trans hw) (o1.trans o2) hn⟩
theorem rfg_tup {ts : TGs} {ms : MGs} {vs : List Nat} {m : Nat} (h : RfGs K κ ts ms vs) : RfG K κ (gSq K m ts) (mGTup m ms) vs := fun w η σ v d n N g e r hm k => by
  unfold mGTup at hm
  split at hm
  · rename_i ds
    obtain ⟨a, us, rfl, h1, l⟩ := tup_of (ds := ds) g r rfl
    exact ⟨a, us, rfl, .inl h1.sq, l.len.trans hm.1, h w η σ us ds n N g e l hm.2 k⟩
  · rename_i ds
    obtain ⟨a, us, rfl, h1, l⟩ := tup_of (ds := ds) g r rfl
    exact ⟨a, us, rfl, .inl h1.sq, l.len.trans hm.1, h w η σ us ds n N g e l hm.2 k⟩
  · rename_i ds
    obtain ⟨a, us, rfl, h1, l⟩ := lst_of (ds := ds) g r rfl
    exact ⟨a, us, rfl, .inr (.inl (.inl h1)), l.len.trans hm.1, h w η σ us ds n N g e l hm.2 k⟩
  · rename_i ds
    obtain ⟨a, us, rfl, h1, l⟩ := lst_of (ds := ds) g r rfl
    exact ⟨a, us, rfl, .inr (.inl (.inl h1)), l.len.trans hm.1, h w η σ us ds n N g e l hm.2 k⟩
  · exact hm.elim
end
/-! ### what is walked -/
/-- what stays while a thing is walked: all that nobody holds, what callers hold, (b = false) what the def itself holds -/
structure Hd (b : Bool) (w w' : Wd) : Prop where
  st : Stay w w'
  O : ∀ a ∈ w.O, w'.H a = w.H a
  F : b = false → ∀ a ∈ w.F, w'.H a = w.H a
abbrev MI := Nv → Sto → (Bool → List D → Sto → Prop) → XM → Prop
section
variable (K : PySem.W.Frag) (κ : Str → Addr)
structure YL (w0 : Wd) (J : It) (b : Bool) (ds : List D) : Prop where
  go : ∀ w i, Good K κ w → Hd b w0 w → i < ds.length → J.go i w.H
  yld : ∀ w i v H', Good K κ w → Hd b w0 w → i < ds.length → J.yld i w.H v H' → ∃ w' d, w'.H = H' ∧ Good K κ w' ∧ Gr w w' ∧ w'.S = w.S ∧ ds[i]? = some d ∧ Rep K κ w' d v
  stop : ∀ w, Good K κ w → Hd b w0 w → J.stop ds.length w.H
def RfI (W : WX) (wi : TI) (mi : MI) : Prop := ∀ w η σ q x R, Good K κ w → EnvR K κ w η σ → mi η w.S q x → HX K κ W w σ x → (∀ w' J b ds, Good K κ w' → Gr w w' → YL K κ w' J b ds → q b ds w'.S → R J w'.H) → wi σ w.H R
end
section
variable {K : PySem.W.Frag} {κ : Str → Addr} {w w' w0 w1 : Wd} {η : Nv} {σ : L2.St} {W : WX} {X : Cx}
theorem Gr.hd (g : Good K κ w) (x : Gr w w') (b : Bool) : Hd b w w' := ⟨x.stay, fun _ h => x.hO g h, fun _ _ h => x.hF g h⟩
theorem Hd.refl (b : Bool) (w : Wd) : Hd b w w := ⟨Stay.refl w, fun _ _ => rfl, fun _ _ _ => rfl⟩
theorem yl_list {a : Addr} {vs : List V} {ds : List D} {b : Bool} (h1 : w0.H a = some (.lst vs)) (l : RepL K κ w0 ds vs) (hb : (¬ w0.Lv a ∨ a ∈ w0.O) ∨ (b = false ∧ a ∈ w0.F)) : YL K κ w0 (Itl K a) b ds := by
  have at_ : ∀ w, Hd b w0 w → w.H a = some (.lst vs) := fun w h => by
    rcases hb with (n | n) | ⟨e, n⟩
    · exact (h.st.H a _ h1 n).1
    · exact (h.O a n).trans h1
    · exact (h.F e a n).trans h1
  have sq : ∀ w, Hd b w0 w → SqL K w.H a vs := fun w h => .inl (.inl (at_ w h))
  refine ⟨fun w i g h hi => ⟨vs, vs[i]'(by rw [l.len]; exact hi), sq w h, by simp⟩, fun w i v H' g h hi y => ?_, fun w g h => ⟨vs, sq w h, by rw [l.len]; exact Nat.le_refl _⟩⟩
  obtain ⟨d, e, r⟩ := RepL.get' (i := i) (v := v) l (y.2 vs (sq w h))
  exact ⟨w, d, y.1.symm, g, Gr.refl w, rfl, e, Rep.stay h.st _ _ r⟩
theorem yl_tup {a : Addr} {vs : List V} {ds : List D} {b : Bool} (h1 : TupAt K w0 a vs) (l : RepL K κ w0 ds vs) : YL K κ w0 (Itt K a) b ds := by
  have sq : ∀ w, Hd b w0 w → SqT K w.H a vs := fun w h => (h1.stay h.st).sq
  refine ⟨fun w i g h hi => ⟨vs, vs[i]'(by rw [l.len]; exact hi), sq w h, by simp⟩, fun w i v H' g h hi y => ?_, fun w g h => ⟨vs, sq w h, by rw [l.len]; exact Nat.le_refl _⟩⟩
  obtain ⟨d, e, r⟩ := RepL.get' (i := i) (v := v) l (y.2 vs (sq w h))
  exact ⟨w, d, y.1.symm, g, Gr.refl w, rfl, e, Rep.stay h.st _ _ r⟩
def signsD (z : Str) : List D := z.cps.toList.map fun c => .str ⟨#[c]⟩
theorem yl_str {z : Str} {b : Bool} : YL K κ w0 (Its z) b (signsD z) := by
  have ln : (signsD z).length = z.cps.size := by simp [signsD]
  refine ⟨fun w i g h hi => by rw [ln] at hi; exact hi, fun w i v H' g h hi y => ?_, fun w g h => by rw [ln]; exact Nat.le_refl _⟩
  obtain ⟨e, c, h1, rfl⟩ := y
  exact ⟨w, .str ⟨#[c]⟩, e.symm, g, Gr.refl w, rfl, by simp [signsD, h1], rfl⟩
def rngD (lo : Int) (n : Nat) : List D := (List.range n).map fun i => .int (lo + (i : Nat))
theorem yl_rng {lo : Int} {n : Nat} {b : Bool} : YL K κ w0 (Itr lo n) b (rngD lo n) := by
  have ln : (rngD lo n).length = n := by simp [rngD]
  refine ⟨fun w i g h hi => by rw [ln] at hi; exact hi, fun w i v H' g h hi y => ?_, fun w g h => by rw [ln]; exact Nat.le_refl _⟩
  rw [ln] at hi
  exact ⟨w, .int (lo + i), y.1.symm, g, Gr.refl w, rfl, by simp [rngD, hi], y.2⟩
/-- over a list, a tuple or a text -/
def iSeqA (K : PySem.W.Frag) (tl : TE) : TI := fun σ H R => tl σ H fun x H1 => (∃ a, x = .ref a ∧ (∃ xs, SqL K H1 a xs) ∧ R (Itl K a) H1) ∨ (∃ a, x = .ref a ∧ (∃ xs, SqT K H1 a xs) ∧ R (Itt K a) H1) ∨ (∃ z, x = .str z ∧ R (Its z) H1)
def mISeq (m : ME) : MI := fun η S q x => m η S (fun d S1 => match d with
  | .lst ds => q true ds S1
  | .tup ds => q true ds S1
  | .ftp ds => q true ds S1
  | .bor (.lst ds) => q true ds S1
  | .own _ (.lst ds) => q false ds S1
  | .str z => q true (signsD z) S1
  | _ => False) x
theorem rf_iSeq {tl : TE} {m : ME} (h : RfE K κ W tl m) : RfI K κ W (iSeqA K tl) (mISeq m) := fun w η σ q x R g e hm hx k => h.go w η σ _ x _ g e hm hx fun w1 d v g1 gr1 rx hq => by
  split at hq
  · rename_i ds
    obtain ⟨a, vs, rfl, ⟨n, h1⟩, l⟩ := (rx : Rep K κ w1 (.lst ds) v)
    exact .inl ⟨a, rfl, ⟨vs, .inl (.inl h1)⟩, k w1 _ _ _ g1 gr1 (yl_list h1 l (.inl (.inl n))) hq⟩
  · rename_i ds
    obtain ⟨a, vs, rfl, h1, l⟩ := tup_of (ds := ds) g1 rx rfl
    exact .inr (.inl ⟨a, rfl, ⟨vs, h1.sq⟩, k w1 _ _ _ g1 gr1 (yl_tup h1 l) hq⟩)
  · rename_i ds
    obtain ⟨a, vs, rfl, h1, l⟩ := tup_of (ds := ds) g1 rx rfl
    exact .inr (.inl ⟨a, rfl, ⟨vs, h1.sq⟩, k w1 _ _ _ g1 gr1 (yl_tup h1 l) hq⟩)
  · rename_i ds
    obtain ⟨a, rfl, m, vs, h1, l⟩ := rx
    exact .inl ⟨a, rfl, ⟨vs, .inl (.inl h1)⟩, k w1 _ _ _ g1 gr1 (yl_list h1 l (.inl (.inr m))) hq⟩
  · rename_i ds
    obtain ⟨a, rfl, m, vs, h1, l⟩ := rx
    exact .inl ⟨a, rfl, ⟨vs, .inl (.inl h1)⟩, k w1 _ _ _ g1 gr1 (yl_list h1 l (.inr ⟨rfl, m.1⟩)) hq⟩
  · rename_i z
    exact .inr (.inr ⟨z, rx, k w1 _ _ _ g1 gr1 yl_str hq⟩)
  · exact hq.elim
theorem pi_seqA {tg l : Expr} {tl : TE} (hl : PE X l tl) (hK : X.K = K := by rfl) : PI X tg l (iSeqA K tl) := by
  subst hK
  constructor
  intro pins s σ H R I h
  refine thn (hl.run pins s σ H _ I h) fun u sa ⟨y, Ha, Ia, ry, cases3⟩ => ?_
  have fp : ∀ b ∈ [sa.heap.objs.size], FpOk X pins Ha b := fun b hb => by
    rw [List.mem_singleton] at hb
    rw [hb]
    exact Ia.fpOk (Nat.le_refl _) (Ia.hok.fresh (Nat.le_refl _))
  rcases cases3 with ⟨a, rfl, ⟨zs, sq⟩, q⟩ | ⟨a, rfl, ⟨zs, sq⟩, q⟩ | ⟨z, rfl, q⟩
  · cases ry
    obtain ⟨its, _, pl, _⟩ := Ia.list sq
    exact wpAny_pyIter_list pl.isList ⟨_, _, _, _, Ha, rfl, Ia.kept (t' := sa.toks) (fun _ _ z => Heap.get?_push_of_some _ z), turn_list a _, ⟨_, Heap.get?_push_size _ rfl, rfl, rfl⟩, fp, q⟩
  · cases ry
    obtain ⟨its, _, pl, _⟩ := Ia.tuple sq
    exact wpAny_pyIter_tuple pl ⟨_, _, _, _, Ha, rfl, Ia.kept (t' := sa.toks) (fun _ _ z => Heap.get?_push_of_some _ z), turn_tuple a _, ⟨_, Heap.get?_push_size _ rfl, rfl, rfl⟩, fp, q⟩
  · obtain ⟨tk, rfl⟩ := ry
    by_cases wide : z.cps.all (· < 128) = true
    · exact wpAny_pyIter_ascii wide ⟨_, _, _, _, Ha, rfl, Ia.kept (t' := sa.toks) (fun _ _ z => Heap.get?_push_of_some _ z), turn_str _ z tk "str_ascii_iterator" (.inl rfl), ⟨_, Heap.get?_push_size _ rfl, rfl, rfl⟩, fp, q⟩
    · exact wpAny_pyIter_wide (Bool.eq_false_iff.mpr wide) ⟨_, _, _, _, Ha, rfl, Ia.kept (t' := sa.toks) (fun _ _ z => Heap.get?_push_of_some _ z), turn_str _ z tk "str_iterator" (.inr rfl), ⟨_, Heap.get?_push_size _ rfl, rfl, rfl⟩, fp, q⟩
def mIRng1 (m : MA) : MI := fun η S q x => m η S (fun ds S1 => match ds with
  | [d] => match pk S1 d with
    | .int j => -(2 ^ 62) ≤ j ∧ j < 2 ^ 62 ∧ q true (rngD 0 j.toNat) S1
    | _ => False
  | _ => False) x
theorem rf_iRng1 {t : TA} {m : MA} (h : RfA K κ W t m) : RfI K κ W (iRng1 t) (mIRng1 m) := fun w η σ q x R g e hm hx k => h.go w η σ _ x _ g e hm hx fun w1 ds vs g1 gr1 pr hq => by
  split at hq
  · obtain ⟨v, rfl, hv⟩ := prd1 pr
    split at hq
    · rename_i j e1
      rw [int_of g1 hv e1]
      exact ⟨j, rfl, hq.1, hq.2.1, k w1 _ _ _ g1 gr1 yl_rng hq.2.2⟩
    · exact hq.elim
  · exact hq.elim
def mIRng2 (m : MA) : MI := fun η S q x => m η S (fun ds S1 => match ds with
  | [d, e] => match pk S1 d, pk S1 e with
    | .int i, .int j => (-(2 ^ 62) ≤ i ∧ i < 2 ^ 62 ∧ -(2 ^ 62) ≤ j ∧ j < 2 ^ 62) ∧ q true (rngD i (j - i).toNat) S1
    | _, _ => False
  | _ => False) x
theorem rf_iRng2 {t : TA} {m : MA} (h : RfA K κ W t m) : RfI K κ W (iRng2 t) (mIRng2 m) := fun w η σ q x R g e hm hx k => h.go w η σ _ x _ g e hm hx fun w1 ds vs g1 gr1 pr hq => by
  split at hq
  · obtain ⟨v, u, rfl, hv, hu⟩ := prd2 pr
    split at hq
    · rename_i i j e1 e2
      rw [int_of g1 hv e1, int_of g1 hu e2]
      exact ⟨i, j, rfl, hq.1, k w1 _ _ _ g1 gr1 yl_rng hq.2⟩
    · exact hq.elim
  · exact hq.elim
/-! enumerate, zip -/
theorem new_pair {T : Addr} {a b : D} {x y : V} (g : Good K κ w) (h : w.H T = none) (ra : Rep K κ w a x) (rb : Rep K κ w b y) : ∃ w', w'.H = upd w.H T (.tup [x, y]) ∧ Good K κ w' ∧ Gr w w' ∧ w'.S = w.S ∧ Rep K κ w' (.tup [a, b]) (.ref T) := by
  obtain ⟨g2, gr2, np⟩ := new_val (o := .tup [x, y]) g h
  exact ⟨_, rfl, g2, gr2, rfl, T, [x, y], rfl, .inl ⟨np, .inl upd_same⟩, x, [y], rfl, Rep.stay gr2.stay _ _ ra, y, [], rfl, Rep.stay gr2.stay _ _ rb, rfl⟩
def enumD (ds : List D) : List D := ds.zipIdx.map fun p => .tup [.int (p.2 : Nat), p.1]
theorem enum_get {ds : List D} {i : Nat} {d : D} (h : ds[i]? = some d) : (enumD ds)[i]? = some (.tup [.int (i : Nat), d]) := by
  simp [enumD, h]
theorem enum_len (ds : List D) : (enumD ds).length = ds.length := by simp [enumD]
theorem yl_enum {a : Addr} {vs : List V} {ds : List D} {b : Bool} (h1 : w0.H a = some (.lst vs)) (l : RepL K κ w0 ds vs) (hb : (¬ w0.Lv a ∨ a ∈ w0.O) ∨ (b = false ∧ a ∈ w0.F)) : YL K κ w0 (Ite K a) b (enumD ds) := by
  have at_ : ∀ w, Hd b w0 w → w.H a = some (.lst vs) := fun w h => by
    rcases hb with (n | n) | ⟨e, n⟩
    · exact (h.st.H a _ h1 n).1
    · exact (h.O a n).trans h1
    · exact (h.F e a n).trans h1
  have sq : ∀ w, Hd b w0 w → SqL K w.H a vs := fun w h => .inl (.inl (at_ w h))
  refine ⟨fun w i g h hi => ⟨vs, vs[i]'(by rw [l.len, ← enum_len]; exact hi), sq w h, by simp⟩, fun w i v H' g h hi y => ?_, fun w g h => ⟨vs, sq w h, by rw [l.len, enum_len]; exact Nat.le_refl _⟩⟩
  obtain ⟨T, z, rfl, hn, rfl, hx⟩ := y
  obtain ⟨d, e, r⟩ := RepL.get' (i := i) (v := z) l (hx vs (sq w h))
  obtain ⟨w', e1, g', gr', es, rp⟩ := new_pair (a := .int (i : Nat)) (x := .int (i : Nat)) g hn rfl (Rep.stay h.st _ _ r)
  exact ⟨w', _, e1, g', gr', es, enum_get e, rp⟩
theorem yl_enumT {a : Addr} {vs : List V} {ds : List D} {b : Bool} (h1 : TupAt K w0 a vs) (l : RepL K κ w0 ds vs) : YL K κ w0 (ItE K a) b (enumD ds) := by
  have sq : ∀ w, Hd b w0 w → SqT K w.H a vs := fun w h => (h1.stay h.st).sq
  refine ⟨fun w i g h hi => ⟨vs, sq w h, by rw [l.len, ← enum_len]; exact hi⟩, fun w i v H' g h hi y => ?_, fun w g h => ⟨vs, sq w h, by rw [l.len, enum_len]⟩⟩
  obtain ⟨T, z, rfl, hn, rfl, hx⟩ := y
  obtain ⟨d, e, r⟩ := RepL.get' (i := i) (v := z) l (hx vs (sq w h))
  obtain ⟨w', e1, g', gr', es, rp⟩ := new_pair (a := .int (i : Nat)) (x := .int (i : Nat)) g hn rfl (Rep.stay h.st _ _ r)
  exact ⟨w', _, e1, g', gr', es, enum_get e, rp⟩
/-- enumerate(a list or a tuple) -/
def iEnumA (K : PySem.W.Frag) (ta : TA) : TI := fun σ H R => ta σ H fun vs H1 => (∃ a xs, vs = [.ref a] ∧ SqL K H1 a xs ∧ R (Ite K a) H1) ∨ (∃ a xs, vs = [.ref a] ∧ SqT K H1 a xs ∧ R (ItE K a) H1)
open PySem.Spec PyProof.Rows in
theorem pi_enumA {X : Cx} {e : Expr} {ta : TA} {p pos tpos : Pos} {elts : List Expr} {kk : Nat} (g : Gl X "enumerate") (m : X.mg "enumerate" = none) (args : PA X [e] ta) (s1 : starEach [e] X.env = [(false, eval e X.env)] := by rfl) : PI X (.Tuple elts kk tpos) (.Call (.Name "enumerate" p) [e] [] pos) (iEnumA X.K ta) := by
  constructor
  intro pins s σ H R I rd
  refine Call_ (ld_blt I g m boot_enumerate (PyProof.Rows.callWith_type1 (thn (args.run pos pins s σ H _ I rd) ?_) s1 rfl))
  rintro us t ⟨vs, H1, J, rel, both⟩
  have fresh : ∀ c, c ∈ [t.heap.objs.size + 1, t.heap.objs.size] → FpOk X pins H1 c := fun c hc => by
    have le : t.heap.objs.size ≤ c := by
      rw [List.mem_cons, List.mem_singleton] at hc
      rcases hc with q | q <;> rw [q] <;> first | exact Nat.le_refl _ | exact Nat.le_succ _
    exact J.fpOk le (J.hok.fresh le)
  rcases both with ⟨a, xs, rfl, qx, r⟩ | ⟨a, xs, rfl, qx, r⟩
  · obtain ⟨u1, rfl, ra⟩ := rel.one
    cases ra
    obtain ⟨as, rx, px, _⟩ := J.list qx
    refine call_enumerate_list px.isList fun h' en it sz keep => wpAny_pyIter_enum en ?_
    exact ⟨_, _, _, _, H1, rfl, J.kept (t' := t.toks) keep, turn_enum a (t.heap.objs.size + 1) t.heap.objs.size, ⟨⟨.none, en⟩, it, Nat.succ_ne_self _⟩, fresh, r⟩
  · obtain ⟨u1, rfl, ra⟩ := rel.one
    cases ra
    obtain ⟨as, rx, px, _⟩ := J.tuple qx
    have la : a < t.heap.objs.size := let ⟨_, q, _⟩ := px; Heap.lt_size q
    refine call_enT px fun h' en it keep => wpAny_pyIter_enum en ?_
    exact ⟨_, _, _, _, H1, rfl, J.kept (t' := t.toks) keep, turn_enT a (t.heap.objs.size + 1) t.heap.objs.size, ⟨⟨.none, en⟩, it, Nat.succ_ne_self _, Nat.ne_of_lt la, Nat.ne_of_gt (Nat.lt_succ_of_lt la)⟩, fresh, r⟩
def mIEnum (m : MA) : MI := fun η S q x => m η S (fun ds S1 => match ds with
  | [.lst ds] => q true (enumD ds) S1
  | [.bor (.lst ds)] => q true (enumD ds) S1
  | [.own _ (.lst ds)] => q false (enumD ds) S1
  | [.tup ds] => q true (enumD ds) S1
  | [.ftp ds] => q true (enumD ds) S1
  | _ => False) x
theorem rf_iEnum {t : TA} {m : MA} (h : RfA K κ W t m) : RfI K κ W (iEnumA K t) (mIEnum m) := fun w η σ q x R g e hm hx k => h.go w η σ _ x _ g e hm hx fun w1 ds vs g1 gr1 pr hq => by
  split at hq
  · rename_i ds
    obtain ⟨v, rfl, rx⟩ := prd1 pr
    obtain ⟨a, vs, rfl, ⟨n, h1⟩, l⟩ := (rx : Rep K κ w1 (.lst ds) v)
    exact .inl ⟨a, vs, rfl, .inl (.inl h1), k w1 _ _ _ g1 gr1 (yl_enum h1 l (.inl (.inl n))) hq⟩
  · rename_i ds
    obtain ⟨v, rfl, rx⟩ := prd1 pr
    obtain ⟨a, rfl, m, vs, h1, l⟩ := rx
    exact .inl ⟨a, vs, rfl, .inl (.inl h1), k w1 _ _ _ g1 gr1 (yl_enum h1 l (.inl (.inr m))) hq⟩
  · rename_i ds
    obtain ⟨v, rfl, rx⟩ := prd1 pr
    obtain ⟨a, rfl, m, vs, h1, l⟩ := rx
    exact .inl ⟨a, vs, rfl, .inl (.inl h1), k w1 _ _ _ g1 gr1 (yl_enum h1 l (.inr ⟨rfl, m.1⟩)) hq⟩
  · rename_i ds
    obtain ⟨v, rfl, rx⟩ := prd1 pr
    obtain ⟨a, vs, rfl, h1, l⟩ := tup_of (ds := ds) g1 rx rfl
    exact .inr ⟨a, vs, rfl, h1.sq, k w1 _ _ _ g1 gr1 (yl_enumT h1 l) hq⟩
  · rename_i ds
    obtain ⟨v, rfl, rx⟩ := prd1 pr
    obtain ⟨a, vs, rfl, h1, l⟩ := tup_of (ds := ds) g1 rx rfl
    exact .inr ⟨a, vs, rfl, h1.sq, k w1 _ _ _ g1 gr1 (yl_enumT h1 l) hq⟩
  · exact hq.elim
def mIEnT (m : MA) : MI := fun η S q x => m η S (fun ds S1 => match ds with
  | [.tup ds] => q true (enumD ds) S1
  | [.ftp ds] => q true (enumD ds) S1
  | _ => False) x
theorem rf_iEnT {t : TA} {m : MA} (h : RfA K κ W t m) : RfI K κ W (iEnT K t) (mIEnT m) := fun w η σ q x R g e hm hx k => h.go w η σ _ x _ g e hm hx fun w1 ds vs g1 gr1 pr hq => by
  split at hq
  · rename_i ds
    obtain ⟨v, rfl, rx⟩ := prd1 pr
    obtain ⟨a, vs, rfl, h1, l⟩ := tup_of (ds := ds) g1 rx rfl
    exact ⟨a, vs, rfl, h1.sq, k w1 _ _ _ g1 gr1 (yl_enumT h1 l) hq⟩
  · rename_i ds
    obtain ⟨v, rfl, rx⟩ := prd1 pr
    obtain ⟨a, vs, rfl, h1, l⟩ := tup_of (ds := ds) g1 rx rfl
    exact ⟨a, vs, rfl, h1.sq, k w1 _ _ _ g1 gr1 (yl_enumT h1 l) hq⟩
  · exact hq.elim
end
end Mi
/-! Mirrors of comprehensions -/
namespace Mi
open PySem L2 Aq Evl
section
variable {K : PySem.W.Frag} {κ : Str → Addr} {w w' w0 w1 : Wd} {η : Nv} {σ : L2.St} {W : WX}
/-- an own thing is written -/
theorem own_put {a : Addr} {o : HO} (g : Good K κ w) (m : a ∈ w.F) : Good K κ { w with H := upd w.H a o } ∧ St w { w with H := upd w.H a o } := by
  have ne : ∀ b, ¬ w.Lv b → b ≠ a := fun b n e => n (by rw [e]; exact .inr (.inl m))
  have st : Stay w { w with H := upd w.H a o } := ⟨fun _ _ z => z, fun b u z n => ⟨by show upd w.H a o b = _; rw [upd_ne (ne b n)]; exact z, n⟩⟩
  have neO : ∀ b ∈ w.O, b ≠ a := fun b z e => g.dfo a m (by rw [← e]; exact z)
  have neρ : ∀ b ∈ w.ρ, b ≠ a := fun b z e => (g.df b z).1 (by rw [e]; exact m)
  refine ⟨⟨g.len, g.nd, g.df, g.dfo, fun b z => ?_, fun k b d z z2 => ?_⟩, rfl, st, fun b z => ?_⟩
  · show upd w.H a o b ≠ none
    by_cases e : b = a
    · rw [e, upd_same]; exact nofun
    · rw [upd_ne e]; exact g.al b z
  · refine View.stay st ?_ (g.cel k b d z z2)
    show upd w.H a o b = _
    rw [upd_ne (neρ b (List.mem_of_getElem? z))]
  · show upd w.H a o b = _
    rw [upd_ne (neO b z)]
theorem GrN.put {p : Addr} {o : HO} (x : GrN w w' p) : GrN w { w' with H := upd w'.H p o } p :=
  ⟨x.F, x.O, x.ρ, x.fr, fun a u z n => by
    show upd w'.H p o a = _
    rw [upd_ne (fun e : a = p => by rw [e, x.p] at z; cases z)]
    exact x.H a u z n, x.p⟩
theorem GrN.hd {p : Addr} (g : Good K κ w) (x : GrN w w' p) (b : Bool) : Hd b w w' := by
  have np : ∀ a, w.H a ≠ none → a ≠ p := fun a n e => n (by rw [e]; exact x.p)
  refine ⟨⟨x.ρ, fun a o h n => ⟨x.H a o h fun q => n (.inl q), fun q => ?_⟩⟩, fun a z => ?_, fun _ a z => ?_⟩
  · rcases q with q | q | q
    · rcases x.fr a q with r | r
      · exact n (.inl r)
      · rw [h] at r; cases r
    · rw [x.F] at q
      rcases List.mem_cons.mp q with q | q
      · exact np a (by rw [h]; exact nofun) q
      · exact n (.inr (.inl q))
    · rw [x.O] at q; exact n (.inr (.inr q))
  · cases e : w.H a with
    | none => exact absurd e (g.al a (.inr (.inr z)))
    | some o => exact x.H a o e fun q => (g.df a q).2 z
  · cases e : w.H a with
    | none => exact absurd e (g.al a (.inr (.inl z)))
    | some o => exact x.H a o e fun q => (g.df a q).1 z
theorem EnvR.grN {p : Addr} (g : Good K κ w) (x : GrN w w' p) (h : EnvR K κ w η σ) : EnvR K κ w' η σ := by
  have hd := GrN.hd g x false
  refine ⟨h.len, fun i d e => ?_, h.dis⟩
  obtain ⟨v, h1, h2⟩ := h.at_ i d e
  refine ⟨v, h1, ?_⟩
  cases d with
  | own t d => obtain ⟨a, e, m, V⟩ := h2; exact ⟨a, e, ⟨by rw [x.F]; exact List.mem_cons_of_mem _ m.1, m.2⟩, V.stay hd.st (hd.F rfl a m.1)⟩
  | bor d => obtain ⟨a, e, m, V⟩ := h2; exact ⟨a, e, by rw [x.O]; exact m, V.stay hd.st (hd.O a m)⟩
  | _ => exact Rep.stay hd.st _ _ h2
theorem GrN.then {p : Addr} (x : GrN w w1 p) (y : Gr w1 w') : GrN w w' p := by
  refine ⟨y.F.trans x.F, y.O.trans x.O, fun k a h => y.ρ k a (x.ρ k a h), fun a h => ?_, fun a o h n => y.H a o (x.H a o h n) fun q => ?_, x.p⟩
  · rcases y.fr a h with q | q
    · exact x.fr a q
    · cases e : w.H a with
      | none => exact .inr rfl
      | some o =>
        by_cases m : a ∈ w.ρ
        · exact .inl m
        · rw [x.H a o e m] at q; cases q
  · rcases x.fr a q with r | r
    · exact n r
    · rw [h] at r; cases r
/-- one turn for each item -/
def lcL (g : MG) (tt : MT) (te : ME) (η : Nv) : List D → List D → Sto → (List D → Sto → Prop) → Prop
  | [], acc, S, q => q acc S
  | d :: r, acc, S, q => g d η S fun η1 S1 => tt η1 S1 (fun b S2 => if b = true then te η1 S2 (fun e S3 => e.val = true ∧ acc.length < 100000 ∧ lcL g tt te η r (acc ++ [e]) S3 q) (fun _ _ => False) else lcL g tt te η r acc S2 q) (fun _ _ => False)
def mLc (mi : MI) (g : MG) (tt : MT) (te : ME) (vs : List Nat) : ME := fun η S q x => mi η S (fun _ ds S1 => lcL g tt te (wipeD η vs) ds [] S1 (fun acc S2 => q (.lst acc) S2)) x
def mYes : MT := fun _ S q _ => q true S
theorem rf_yes : RfT K κ W tYes mYes := ⟨fun w η σ q x Q g e h hx k => k w true g (Gr.refl w) h⟩
theorem hx_no {w : Wd} {σ : L2.St} : HX K κ W w σ (fun _ _ => False) := fun _ _ _ _ _ _ _ h => h.elim
variable {wi : TI} {mi : MI} {tg : TG} {g : MG} {tt : TT} {mt : MT} {te : TE} {me : ME} {vs : List Nat}
theorem app_view {D : Addr} {acc : List Mi.D} {d : Mi.D} {v : V} {w1 w4 : Wd} (g4 : Good K κ w4) (x : GrN w1 w4 D) (V : View K κ w4 (.lst acc) D) (r : Rep K κ w4 d v) :
    ∃ av, w4.H D = some (.lst av) ∧ av.length = acc.length ∧ Good K κ { w4 with H := upd w4.H D (.lst (av ++ [v])) } ∧ GrN w1 { w4 with H := upd w4.H D (.lst (av ++ [v])) } D ∧ View K κ { w4 with H := upd w4.H D (.lst (av ++ [v])) } (.lst (acc ++ [d])) D := by
  obtain ⟨av, h1, l⟩ := V
  have hm : D ∈ w4.F := by rw [x.F]; exact List.mem_cons_self
  obtain ⟨g5, st⟩ := own_put (o := .lst (av ++ [v])) g4 hm
  exact ⟨av, h1, l.len, g5, x.put, _, upd_same, (RepL.stay st.st _ _ l).app (.one (Rep.stay st.st _ _ r))⟩
theorem rf_lc (hi : RfI K κ W wi mi) (hg : RfG K κ tg g vs) (ht : RfT K κ W tt mt) (he : RfE K κ W te me) : RfN K κ W (tLc wi tg tt te vs) (mLc mi g mt me vs) := by
  refine ⟨fun w η σ q x Q gw e hm hx k => hi w η σ _ x _ gw e hm hx fun w1 J b ds g1 gr1 Y hm1 => fun D hD => ?_⟩
  have e1 := e.gr gw gr1
  obtain ⟨g2, x2, _⟩ := new_own (o := .lst []) g1 hD
  refine ⟨fun i m H => m = ds.length - i ∧ i ≤ ds.length ∧ ∃ w acc, w.H = H ∧ Good K κ w ∧ GrN w1 w D ∧ View K κ w (.lst acc) D ∧ lcL g mt me (wipeD η vs) (ds.drop i) acc w.S (fun acc S2 => q (.lst acc) S2), ⟨ds.length, by simp, Nat.zero_le _, _, [], rfl, g2, x2, ⟨[], upd_same, rfl⟩, hm1⟩, ?_⟩
  rintro i m H ⟨rfl, hi, w3, acc, rfl, g3, x3, V3, h3⟩
  by_cases hlt : i < ds.length
  · refine .inr ⟨Y.go w3 i g3 (x3.hd g1 b) hlt, fun H' => i + 1 ≤ ds.length ∧ ∃ w acc, w.H = H' ∧ Good K κ w ∧ GrN w1 w D ∧ View K κ w (.lst acc) D ∧ lcL g mt me (wipeD η vs) (ds.drop (i + 1)) acc w.S (fun acc S2 => q (.lst acc) S2), fun H' p' => ⟨ds.length - (i + 1), by omega, rfl, p'⟩, fun v H' y => ?_⟩
    obtain ⟨w4, d, rfl, g4, gr4, es4, ed, r⟩ := Y.yld w3 i v H' g3 (x3.hd g1 b) hlt y
    have ed' : ds.drop i = d :: ds.drop (i + 1) := by
      rw [List.drop_eq_getElem_cons hlt]
      rw [List.getElem?_eq_getElem hlt] at ed
      rw [Option.some.inj ed]
    rw [ed', ← es4] at h3
    have hmF : ∀ {w : Wd}, GrN w1 w D → D ∈ w.F := fun {w} z => by rw [z.F]; exact List.mem_cons_self
    have x4 := x3.then gr4
    have V4 : View K κ w4 (.lst acc) D := V3.stay gr4.stay (gr4.hF g3 (hmF x3))
    have e4 := (e1.grN g1 x4).wipe vs
    refine hg w4 _ _ v d _ _ g4 e4 (.of_rep r) h3 fun w5 η5 σ5 g5 gr5 e5 hw o5 h5 => ⟨hw.trans wipe_wipe, ?_⟩
    have x5 := x4.then gr5
    have V5 := V4.stay gr5.stay (gr5.hF g4 (hmF x4))
    refine ht.go w5 η5 σ5 _ _ _ g5 e5 h5 hx_no fun w6 b6 g6 gr6 h6 => ?_
    have x6 := x5.then gr6
    have V6 := V5.stay gr6.stay (gr6.hF g5 (hmF x5))
    cases b6 with
    | false => exact ⟨hlt, w6, acc, rfl, g6, x6, V6, h6⟩
    | true =>
      refine he.go w6 η5 σ5 _ _ _ g6 (e5.gr g5 gr6) h6 hx_no fun w7 z zv g7 gr7 rz h7 => ?_
      obtain ⟨av, q1, q2, g8, x8, V8⟩ := app_view g7 (x6.then gr7) (V6.stay gr7.stay (gr7.hF g6 (hmF x6))) (RX.rep h7.1 rz)
      exact ⟨av, q1, Nat.lt_of_lt_of_le (show av.length < 100000 by rw [q2]; exact h7.2.1) (by decide), hlt, _, _, rfl, g8, x8, V8, h7.2.2⟩
  · have en : i = ds.length := by omega
    subst en
    rw [List.drop_of_length_le (Nat.le_refl _)] at h3
    exact .inl ⟨Y.stop w3 g3 (x3.hd g1 b), (k.gr g1 gr1) w3 (.lst acc) D g3 x3 rfl V3 h3⟩
theorem EnvR.put_own {D : Addr} {o : HO} (e : EnvR K κ w η σ) (g : Good K κ w) (m : D ∈ w.F) (nD : ∀ (i : Nat) (t : Option Addr) (d : Mi.D), η[i]? = some (some (.own t d)) → σ[i]? ≠ some (some (.ref D))) : EnvR K κ { w with H := upd w.H D o } η σ := by
  obtain ⟨_, s⟩ := own_put (o := o) g m
  refine ⟨e.len, fun i d h => ?_, e.dis⟩
  obtain ⟨v, h1, h2⟩ := e.at_ i d h
  refine ⟨v, h1, ?_⟩
  cases d with
  | own t d =>
    obtain ⟨a, rfl, ma, V⟩ := h2
    have ne : a ≠ D := fun z => nD i t d h (by rw [← z]; exact h1)
    exact ⟨a, rfl, ma, V.stay s.st (by show upd w.H D o a = _; rw [upd_ne ne])⟩
  | bor d => obtain ⟨a, rfl, ma, V⟩ := h2; exact ⟨a, rfl, ma, V.stay s.st (s.H a ma)⟩
  | _ => exact Rep.stay s.st _ _ h2
/-! two fors -/
def lcL2 (g : MG) (tt : MT) (mi1 : MI) (g1 : MG) (tt1 : MT) (te : ME) (vs1 : List Nat) (η : Nv) : List D → List D → Sto → (List D → Sto → Prop) → Prop
  | [], acc, S, q => q acc S
  | d :: r, acc, S, q => g d η S fun η1 S1 => tt η1 S1 (fun b S2 => if b = true then mi1 η1 S2 (fun b1 es S3 => b1 = true ∧ lcL g1 tt1 te (wipeD η1 vs1) es acc S3 fun acc' S4 => lcL2 g tt mi1 g1 tt1 te vs1 η r acc' S4 q) (fun _ _ => False) else lcL2 g tt mi1 g1 tt1 te vs1 η r acc S2 q) (fun _ _ => False)
def mLc2 (mi : MI) (g : MG) (tt : MT) (mi1 : MI) (g1 : MG) (tt1 : MT) (te : ME) (vs vs1 : List Nat) : ME := fun η S q x => mi η S (fun _ ds S1 => lcL2 g tt mi1 g1 tt1 te vs1 (wipeD η vs) ds [] S1 (fun acc S2 => q (.lst acc) S2)) x
theorem lc_in {D : Addr} {w1 w7 : Wd} {J : It} {es : List Mi.D} {acc0 : List Mi.D} {vs1 : List Nat} {q' : List Mi.D → Sto → Prop} {N : Hp → Prop} (Y : YL K κ w7 J true es) (g7 : Good K κ w7) (x7 : GrN w1 w7 D) (V7 : View K κ w7 (.lst acc0) D) (e7 : EnvR K κ w7 η σ) (nD : ∀ (i : Nat) (t : Option Addr) (d : Mi.D), η[i]? = some (some (.own t d)) → σ[i]? ≠ some (some (.ref D)))
    (hg : RfG K κ tg g vs1) (ht : RfT K κ W tt mt) (he : RfE K κ W te me) (hm : lcL g mt me (wipeD η vs1) es acc0 w7.S q') (hN : ∀ w' acc, Good K κ w' → GrN w1 w' D → View K κ w' (.lst acc) D → EnvR K κ w' η σ → q' acc w'.S → N w'.H) :
    ∃ W1 : Nat → Nat → Hp → Prop, (∃ m, W1 0 m w7.H) ∧ ∀ j k H, W1 j k H →
      (J.stop j H ∧ N H) ∨ (J.go j H ∧ ∃ Nx1 : Hp → Prop, (∀ H', Nx1 H' → ∃ k', k' < k ∧ W1 (j + 1) k' H') ∧ ∀ x H', J.yld j H x H' → tg x (wipe σ vs1) H' fun σ3 H5 => wipe σ3 vs1 = wipe σ vs1 ∧ tt σ3 H5 fun b H6 =>
        if b = true then te σ3 H6 fun y H7 => ∃ acc, H7 D = some (.lst acc) ∧ acc.length < sizeLine ∧ Nx1 (upd H7 D (.lst (acc ++ [y]))) else Nx1 H6) := by
  refine ⟨fun i m H => m = es.length - i ∧ i ≤ es.length ∧ ∃ w acc, w.H = H ∧ Good K κ w ∧ GrN w1 w D ∧ St w7 w ∧ View K κ w (.lst acc) D ∧ EnvR K κ w η σ ∧ lcL g mt me (wipeD η vs1) (es.drop i) acc w.S q', ⟨es.length, by simp, Nat.zero_le _, _, acc0, rfl, g7, x7, St.refl _, V7, e7, hm⟩, ?_⟩
  rintro i m H ⟨rfl, hi, w3, acc, rfl, g3, x3, s3, V3, e3, h3⟩
  have hd3 : Hd true w7 w3 := ⟨s3.st, s3.H, nofun⟩
  by_cases hlt : i < es.length
  · refine .inr ⟨Y.go w3 i g3 hd3 hlt, fun H' => i + 1 ≤ es.length ∧ ∃ w acc, w.H = H' ∧ Good K κ w ∧ GrN w1 w D ∧ St w7 w ∧ View K κ w (.lst acc) D ∧ EnvR K κ w η σ ∧ lcL g mt me (wipeD η vs1) (es.drop (i + 1)) acc w.S q', fun H' p' => ⟨es.length - (i + 1), by omega, rfl, p'⟩, fun v H' y => ?_⟩
    obtain ⟨w4, d, rfl, g4, gr4, es4, ed, r⟩ := Y.yld w3 i v H' g3 hd3 hlt y
    have ed' : es.drop i = d :: es.drop (i + 1) := by
      rw [List.drop_eq_getElem_cons hlt]
      rw [List.getElem?_eq_getElem hlt] at ed
      rw [Option.some.inj ed]
    rw [ed', ← es4] at h3
    have hmF : ∀ {w : Wd}, GrN w1 w D → D ∈ w.F := fun {w} z => by rw [z.F]; exact List.mem_cons_self
    have x4 := x3.then gr4
    have V4 : View K κ w4 (.lst acc) D := V3.stay gr4.stay (gr4.hF g3 (hmF x3))
    have e4' := e3.gr g3 gr4
    have e4 := e4'.wipe vs1
    refine hg w4 _ _ v d _ _ g4 e4 (.of_rep r) h3 fun w5 η5 σ5 g5 gr5 e5 hw o5 h5 => ⟨hw.trans wipe_wipe, ?_⟩
    have x5 := x4.then gr5
    have V5 := V4.stay gr5.stay (gr5.hF g4 (hmF x4))
    refine ht.go w5 η5 σ5 _ _ _ g5 e5 h5 hx_no fun w6 b6 g6 gr6 h6 => ?_
    have x6 := x5.then gr6
    have V6 := V5.stay gr6.stay (gr6.hF g5 (hmF x5))
    have gr46 := gr5.trans gr6
    cases b6 with
    | false => exact ⟨hlt, w6, acc, rfl, g6, x6, s3.trans ((gr4.trans gr46).st g3), V6, e4'.gr g4 gr46, h6⟩
    | true =>
      refine he.go w6 η5 σ5 _ _ _ g6 (e5.gr g5 gr6) h6 hx_no fun w7' z zv g7' gr7 rz h7 => ?_
      have V7' := V6.stay gr7.stay (gr7.hF g6 (hmF x6))
      obtain ⟨av, q1, q2, g8, x8, V8⟩ := app_view g7' (x6.then gr7) V7' (RX.rep h7.1 rz)
      obtain ⟨_, s8⟩ := own_put (o := .lst (av ++ [zv])) g7' (hmF (x6.then gr7))
      refine ⟨av, q1, Nat.lt_of_lt_of_le (show av.length < 100000 by rw [q2]; exact h7.2.1) (by decide), hlt, _, _, rfl, g8, x8, (s3.trans ((gr4.trans (gr46.trans gr7)).st g3)).trans s8, V8, ?_, h7.2.2⟩
      exact ((e4'.gr g4 gr46).gr g6 gr7).put_own g7' (hmF (x6.then gr7)) nD
  · have en : i = es.length := by omega
    subst en
    rw [List.drop_of_length_le (Nat.le_refl _)] at h3
    exact .inl ⟨Y.stop w3 g3 hd3, hN w3 acc g3 x3 V3 e3 h3⟩
variable {wi1 : TI} {mi1 : MI} {tg1 : TG} {g1 : MG} {tt1 : TT} {mt1 : MT} {vs1 : List Nat}
theorem rf_lc2 (hi : RfI K κ W wi mi) (hg : RfG K κ tg g vs) (ht : RfT K κ W tt mt) (hi1 : RfI K κ W wi1 mi1) (hg1 : RfG K κ tg1 g1 vs1) (ht1 : RfT K κ W tt1 mt1) (he : RfE K κ W te me) :
    RfN K κ W (tLc2 wi tg tt wi1 tg1 tt1 te vs vs1) (mLc2 mi g mt mi1 g1 mt1 me vs vs1) := by
  refine ⟨fun w η σ q x Q gw e hm hx k => hi w η σ _ x _ gw e hm hx fun w1 J b ds g1' gr1 Y hm1 => fun D hD => ?_⟩
  have e1 := e.gr gw gr1
  obtain ⟨g2, x2, _⟩ := new_own (o := .lst []) g1' hD
  have nD0 : ∀ (i : Nat) (t : Option Addr) (d : Mi.D), η[i]? = some (some (.own t d)) → σ[i]? ≠ some (some (.ref D)) := fun i t d h z => by
    obtain ⟨v, h1, a, rfl, ma, _⟩ := e1.at_ i _ h
    rw [z] at h1
    cases h1
    exact g1'.al D (.inr (.inl ma.1)) hD
  have nDw : ∀ (i : Nat) (t : Option Addr) (d : Mi.D), (wipeD η vs)[i]? = some (some (.own t d)) → (wipe σ vs)[i]? ≠ some (some (.ref D)) := fun i t d h z => by
    have h1 := (L2.wipe_some z).1
    have h2 : ∀ {vs : List Nat}, (wipeD η vs)[i]? = some (some (.own t d)) → η[i]? = some (some (.own t d)) := fun {vs} => by
      induction vs with
      | nil => exact id
      | cons v r ih =>
        intro q
        have q : ((wipeD η r).set v none)[i]? = _ := q
        rw [List.getElem?_set] at q
        split at q
        · split at q <;> cases q
        · exact ih q
    exact nD0 i t d (h2 h) h1
  refine ⟨fun i m H => m = ds.length - i ∧ i ≤ ds.length ∧ ∃ w acc, w.H = H ∧ Good K κ w ∧ GrN w1 w D ∧ View K κ w (.lst acc) D ∧ lcL2 g mt mi1 g1 mt1 me vs1 (wipeD η vs) (ds.drop i) acc w.S (fun acc S2 => q (.lst acc) S2), ⟨ds.length, by simp, Nat.zero_le _, _, [], rfl, g2, x2, ⟨[], upd_same, rfl⟩, hm1⟩, ?_⟩
  rintro i m H ⟨rfl, hi, w3, acc, rfl, g3, x3, V3, h3⟩
  by_cases hlt : i < ds.length
  · refine .inr ⟨Y.go w3 i g3 (x3.hd g1' b) hlt, fun H' => i + 1 ≤ ds.length ∧ ∃ w acc, w.H = H' ∧ Good K κ w ∧ GrN w1 w D ∧ View K κ w (.lst acc) D ∧ lcL2 g mt mi1 g1 mt1 me vs1 (wipeD η vs) (ds.drop (i + 1)) acc w.S (fun acc S2 => q (.lst acc) S2), fun H' p' => ⟨ds.length - (i + 1), by omega, rfl, p'⟩, fun v H' y => ?_⟩
    obtain ⟨w4, d, rfl, g4, gr4, es4, ed, r⟩ := Y.yld w3 i v H' g3 (x3.hd g1' b) hlt y
    have ed' : ds.drop i = d :: ds.drop (i + 1) := by
      rw [List.drop_eq_getElem_cons hlt]
      rw [List.getElem?_eq_getElem hlt] at ed
      rw [Option.some.inj ed]
    rw [ed', ← es4] at h3
    have hmF : ∀ {w : Wd}, GrN w1 w D → D ∈ w.F := fun {w} z => by rw [z.F]; exact List.mem_cons_self
    have x4 := x3.then gr4
    have V4 : View K κ w4 (.lst acc) D := V3.stay gr4.stay (gr4.hF g3 (hmF x3))
    have e4 := (e1.grN g1' x4).wipe vs
    refine hg w4 _ _ v d _ _ g4 e4 (.of_rep r) h3 fun w5 η5 σ5 g5 gr5 e5 hw o5 h5 => ⟨hw.trans wipe_wipe, ?_⟩
    have x5 := x4.then gr5
    have V5 := V4.stay gr5.stay (gr5.hF g4 (hmF x4))
    refine ht.go w5 η5 σ5 _ _ _ g5 e5 h5 hx_no fun w6 b6 g6 gr6 h6 => ?_
    have x6 := x5.then gr6
    have V6 := V5.stay gr6.stay (gr6.hF g5 (hmF x5))
    cases b6 with
    | false => exact ⟨hlt, w6, acc, rfl, g6, x6, V6, h6⟩
    | true =>
      refine hi1 w6 η5 σ5 _ _ _ g6 (e5.gr g5 gr6) h6 hx_no fun w7 J1 b1 es g7 gr7 Y1 h7 => ?_
      obtain ⟨rfl, h7⟩ := h7
      have x7 := x6.then gr7
      have V7 := V6.stay gr7.stay (gr7.hF g6 (hmF x6))
      refine lc_in Y1 g7 x7 V7 ((e5.gr g5 gr6).gr g6 gr7) (fun j s z hz => ?_) hg1 ht1 he h7 fun w' acc' g' x' V' _ h' => ⟨hlt, w', acc', rfl, g', x', V', h'⟩
      obtain ⟨q1, q2⟩ := o5 j s z hz
      rw [q2]
      exact nDw j s z q1
  · have en : i = ds.length := by omega
    subst en
    rw [List.drop_of_length_le (Nat.le_refl _)] at h3
    exact .inl ⟨Y.stop w3 g3 (x3.hd g1' b), (k.gr g1' gr1) w3 (.lst acc) D g3 x3 rfl V3 h3⟩
end
end Mi
/-! Mirrors of statements -/
namespace Mi
open PySem L2 Aq Evl
structure MEnds where
  nx : Nv → Sto → Prop
  rt : D → Sto → Prop
  bk : Nv → Sto → Prop
  ct : Nv → Sto → Prop
  ex : Exn → Nv → Sto → Prop
abbrev MS := Nv → Sto → MEnds → Prop
section
variable (K : PySem.W.Frag) (κ : Str → Addr)
structure EndsR (W : WX) (w : Wd) (D : MEnds) (Dh : Ends) : Prop where
  nx : ∀ w' η' σ', Good K κ w' → St w w' → EnvR K κ w' η' σ' → D.nx η' w'.S → Dh.nx σ' w'.H
  rt : ∀ w' d v, Good K κ w' → St w w' → w'.F = [] → Rep K κ w' d v → D.rt d w'.S → Dh.rt v w'.H
  bk : ∀ w' η' σ', Good K κ w' → St w w' → EnvR K κ w' η' σ' → D.bk η' w'.S → Dh.bk σ' w'.H
  ct : ∀ w' η' σ', Good K κ w' → St w w' → EnvR K κ w' η' σ' → D.ct η' w'.S → Dh.ct σ' w'.H
  ex : ∀ w' η' σ' e c dd, Good K κ w' → St w w' → EnvR K κ w' η' σ' → ExR K κ w' e c dd → D.ex e η' w'.S → W c dd σ' w'.H
structure RfS (W : WX) (t : TS) (m : MS) : Prop where
  go : ∀ w η σ D Dh, Good K κ w → EnvR K κ w η σ → m η w.S D → EndsR K κ W w D Dh → t Dh σ w.H
end
section
variable {K : PySem.W.Frag} {κ : Str → Addr} {w w' w0 w1 : Wd} {η : Nv} {σ : L2.St} {W : WX} {D : MEnds} {Dh : Ends} {te : TE} {me : ME} {t u : TS} {a b : MS} {X : Cx}
theorem EndsR.st (s : Mi.St w w1) (e : EndsR K κ W w D Dh) : EndsR K κ W w1 D Dh :=
  ⟨fun w' η' σ' g s' => e.nx w' η' σ' g (s.trans s'), fun w' d v g s' => e.rt w' d v g (s.trans s'), fun w' η' σ' g s' => e.bk w' η' σ' g (s.trans s'), fun w' η' σ' g s' => e.ct w' η' σ' g (s.trans s'), fun w' η' σ' x c dd g s' => e.ex w' η' σ' x c dd g (s.trans s')⟩
theorem EndsR.hx (g : Good K κ w) (e : EnvR K κ w η σ) (k : EndsR K κ W w D Dh) : HX K κ W w σ (fun x S => D.ex x η S) := fun w' x c dd g' gr hr hq => k.ex w' η σ x c dd g' (gr.st g) (e.gr g gr) hr hq
def mNext : MS := fun η S D => D.nx η S
def mSeq (a b : MS) : MS := fun η S D => a η S { D with nx := fun η S => b η S D }
def mBreak : MS := fun η S D => D.bk η S
def mCont : MS := fun η S D => D.ct η S
def mNever : MS := fun _ _ _ => False
theorem rf_next : RfS K κ W tNext mNext := ⟨fun w η σ D Dh g e h k => k.nx w η σ g (.refl w) e h⟩
theorem rf_break : RfS K κ W tBreak mBreak := ⟨fun w η σ D Dh g e h k => k.bk w η σ g (.refl w) e h⟩
theorem rf_cont : RfS K κ W tCont mCont := ⟨fun w η σ D Dh g e h k => k.ct w η σ g (.refl w) e h⟩
theorem rf_never : RfS K κ W tNever mNever := ⟨fun _ _ _ _ _ _ _ h _ => h⟩
theorem rf_seq (ha : RfS K κ W t a) (hb : RfS K κ W u b) : RfS K κ W (tSeq t u) (mSeq a b) :=
  ⟨fun w η σ D Dh g e h k => ha.go w η σ _ _ g e h ⟨fun w' η' σ' g' s' e' h' => hb.go w' η' σ' D Dh g' e' h' (k.st s'), k.rt, k.bk, k.ct, k.ex⟩⟩
/-- a test's two ways -/
def mIfS (c : MT) (a b : MS) : MS := fun η S D => c η S (fun k S1 => if k = true then a η S1 D else b η S1 D) (fun x S => D.ex x η S)
theorem rf_ifS {tc : TT} {mc : MT} (hc : RfT K κ W tc mc) (ha : RfS K κ W t a) (hb : RfS K κ W u b) : RfS K κ W (tIfS tc t u) (mIfS mc a b) :=
  ⟨fun w η σ D Dh g e h k => hc.go w η σ _ _ _ g e h (k.hx g e) fun w1 c g1 gr1 h1 => by
    cases c with
    | true => exact ha.go w1 η σ D Dh g1 (e.gr g gr1) h1 (k.st (gr1.st g))
    | false => exact hb.go w1 η σ D Dh g1 (e.gr g gr1) h1 (k.st (gr1.st g))⟩
def mDrop (m : ME) : MS := fun η S D => m η S (fun _ S1 => D.nx η S1) (fun x S => D.ex x η S)
theorem rf_drop (h : RfE K κ W te me) : RfS K κ W (tDrop te) (mDrop me) :=
  ⟨fun w η σ D Dh g e hm k => h.go w η σ _ _ _ g e hm (k.hx g e) fun w1 d v g1 gr1 _ h1 => k.nx w1 η σ g1 (gr1.st g) (e.gr g gr1) h1⟩
/-- x = e, a, b = e -/
def mAsg (m : ME) (mg : MG) : MS := fun η S D => m η S (fun d S1 => mg d η S1 D.nx) (fun x S => D.ex x η S)
theorem rf_asg {tg : TG} {mg : MG} {vs : List Nat} (h : RfE K κ W te me) (hg : RfG K κ tg mg vs) : RfS K κ W (tAsg te tg) (mAsg me mg) :=
  ⟨fun w η σ D Dh g e hm k => h.go w η σ _ _ _ g e hm (k.hx g e) fun w1 d v g1 gr1 rx h1 => hg w1 η σ v d _ _ g1 (e.gr g gr1) rx h1 fun w2 η2 σ2 g2 gr2 e2 _ _ h2 => k.nx w2 η2 σ2 g2 ((gr1.trans gr2).st g) e2 h2⟩
/-- x = e, a new thing that x alone holds -/
def mAsgN (i : Nat) (m : ME) : MS := fun η S D => m η S (fun d S1 => D.nx (η.set i (some (.own none d))) S1) (fun x S => D.ex x η S)
theorem GrN.st {p : Addr} (g : Good K κ w) (x : GrN w w' p) : Mi.St w w' := ⟨x.O, (x.hd g true).st, (x.hd g true).O⟩
theorem EnvR.putN {i : Nat} {d : Mi.D} {p : Addr} (g : Good K κ w) (x : GrN w w' p) (e : EnvR K κ w η σ) (V : View K κ w' d p) : EnvR K κ w' (η.set i (some (.own none d))) (σ.set i (some (.ref p))) := by
  have e' := e.grN g x
  have np : ∀ {j : Nat} {s : Option Addr} {z : Mi.D}, η[j]? = some (some (.own s z)) → σ[j]? ≠ some (some (.ref p)) := fun {j s z} h q => by
    obtain ⟨v, h1, a, rfl, ma, _⟩ := e.at_ j _ h
    rw [q] at h1
    cases h1
    exact g.al p (.inr (.inl ma.1)) x.p
  have get : ∀ {j : Nat} {z : Mi.D}, (η.set i (some (.own none d)))[j]? = some (some z) → (j = i ∧ z = .own none d ∧ i < η.length) ∨ (j ≠ i ∧ η[j]? = some (some z)) := fun {j z} h => by
    by_cases q : i = j
    · subst q
      rw [List.getElem?_set] at h
      by_cases hl : i < η.length
      · rw [if_pos rfl, if_pos hl] at h; cases h; exact .inl ⟨rfl, rfl, hl⟩
      · rw [if_pos rfl, if_neg hl] at h; cases h
    · rw [List.getElem?_set_ne q] at h; exact .inr ⟨fun z => q z.symm, h⟩
  refine ⟨by simp [e.len], fun j z h => ?_, fun j k s u z y a h1 h2 h3 h4 => ?_⟩
  · rcases get h with ⟨rfl, rfl, hl⟩ | ⟨n, h⟩
    · exact ⟨.ref p, by rw [List.getElem?_set_self (by rw [← e.len]; exact hl)], p, rfl, ⟨by rw [x.F]; exact List.mem_cons_self, nofun⟩, V⟩
    · obtain ⟨v, h1, h2⟩ := e'.at_ j z h
      exact ⟨v, by rw [List.getElem?_set_ne (Ne.symm n)]; exact h1, h2⟩
  · rcases get h1 with ⟨q1, _, hl⟩ | ⟨n1, u1⟩
    · rcases get h2 with ⟨q2, _, _⟩ | ⟨n2, u2⟩
      · rw [q1, q2]
      · rw [q1, List.getElem?_set_self (by rw [← e.len]; exact hl)] at h3
        cases h3
        rw [List.getElem?_set_ne (Ne.symm n2)] at h4
        exact absurd h4 (np u2)
    · rcases get h2 with ⟨q2, _, hl⟩ | ⟨n2, u2⟩
      · rw [q2, List.getElem?_set_self (by rw [← e.len]; exact hl)] at h4
        cases h4
        rw [List.getElem?_set_ne (Ne.symm n1)] at h3
        exact absurd h3 (np u1)
      · rw [List.getElem?_set_ne (Ne.symm n1)] at h3
        rw [List.getElem?_set_ne (Ne.symm n2)] at h4
        exact e'.dis j k s u z y a u1 u2 h3 h4
theorem rf_asgN {i : Nat} (h : RfN K κ W te me) : RfS K κ W (tAsg te (gName i)) (mAsgN i me) :=
  ⟨fun w η σ D Dh g e hm k => h.go w η σ _ _ _ g e hm (k.hx g e) fun w1 d p g1 x1 _ V h1 => k.nx w1 _ _ g1 (x1.st g) (e.putN g x1 V) h1⟩
/-! return -/
theorem free_own (g : Good K κ w) : Good K κ { w with F := [] } ∧ Mi.St w { w with F := [] } := by
  have nl : ∀ a, ¬ w.Lv a → ¬ ({ w with F := [] } : Wd).Lv a := fun a n q => by
    rcases q with q | q | q
    · exact n (.inl q)
    · cases q
    · exact n (.inr (.inr q))
  have st : Stay w { w with F := [] } := ⟨fun _ _ z => z, fun a o z n => ⟨z, nl a n⟩⟩
  refine ⟨⟨g.len, g.nd, fun a z => ⟨nofun, (g.df a z).2⟩, nofun, fun a z => ?_, fun k a d z z2 => View.stay st rfl (g.cel k a d z z2)⟩, rfl, st, fun _ _ => rfl⟩
  rcases z with z | z | z
  · exact g.al a (.inl z)
  · cases z
  · exact g.al a (.inr (.inr z))
/-- a value as it is returned -/
def unown : Mi.D → Option Mi.D
  | .own _ d => if d.box = true then some d else none
  | .bor _ => none
  | .pen _ => none
  | d => some d
theorem unown_rep {d z : Mi.D} {v : V} (g : Good K κ w) (h : RX K κ w d v) (e : unown d = some z) : Rep K κ { w with F := [] } z v := by
  obtain ⟨_, s⟩ := free_own g
  cases d with
  | own t d =>
    obtain ⟨a, rfl, ⟨m, _⟩, V⟩ := h
    have e : (if d.box = true then some d else none) = some z := e
    by_cases b : d.box = true
    · rw [if_pos b] at e
      cases e
      have np : ¬ ({ w with F := [] } : Wd).Lv a := fun q => by
        rcases q with q | q | q
        · exact (g.df a q).1 m
        · cases q
        · exact g.dfo a m q
      have V := View.stay (w' := { w with F := [] }) s.st rfl V
      cases z with
      | lst ds => obtain ⟨vs, h1, h2⟩ := V; exact ⟨a, vs, rfl, ⟨np, h1⟩, h2⟩
      | dic ds => obtain ⟨vs, h1, h2⟩ := V; exact ⟨a, vs, rfl, ⟨np, h1⟩, h2⟩
      | obj c fs => obtain ⟨dx, us, h1, h2⟩ := V; exact ⟨a, dx, us, rfl, ⟨np, h1⟩, h2⟩
      | _ => cases b
    · rw [if_neg b] at e; cases e
  | bor d => cases e
  | pen d => cases e
  | _ => cases e; exact Rep.stay s.st _ _ h
def mRet (m : ME) : MS := fun η S D => m η S (fun d S1 => ∃ z, unown d = some z ∧ D.rt z S1) (fun x S => D.ex x η S)
theorem rf_ret (h : RfE K κ W te me) : RfS K κ W (tRet te) (mRet me) :=
  ⟨fun w η σ D Dh g e hm k => h.go w η σ _ _ _ g e hm (k.hx g e) fun w1 d v g1 gr1 rx ⟨z, h1, h2⟩ => by
    obtain ⟨g2, s2⟩ := free_own g1
    exact k.rt { w1 with F := [] } z v g2 ((gr1.st g).trans s2) rfl (unown_rep g1 rx h1) h2⟩
def mRetN : MS := fun _ S D => D.rt .non S
theorem rf_retN : RfS K κ W tRetN mRetN := ⟨fun w η σ D Dh g e h k => by
  obtain ⟨g2, s2⟩ := free_own g
  exact k.rt { w with F := [] } .non .non g2 s2 rfl rfl h⟩
/-! loops -/
def forL (mg : MG) (mb : MS) : List Mi.D → MS
  | [], η, S, D => D.nx η S
  | d :: r, η, S, D => mg d η S fun η1 S1 => mb η1 S1 { D with nx := fun η S => forL mg mb r η S D, ct := fun η S => forL mg mb r η S D, bk := D.nx }
def mFor (mi : MI) (mg : MG) (mb : MS) : MS := fun η S D => mi η S (fun b ds S1 => b = true ∧ forL mg mb ds η S1 D) (fun x S => D.ex x η S)
theorem rf_for {wi : TI} {mi : MI} {tg : TG} {mg : MG} {vs : List Nat} {tb : TS} {mb : MS} (hi : RfI K κ W wi mi) (hg : RfG K κ tg mg vs) (hb : RfS K κ W tb mb) : RfS K κ W (tFor wi tg tb) (mFor mi mg mb) := by
  refine ⟨fun w η σ D Dh g e hm k => hi w η σ _ _ _ g e hm (k.hx g e) fun w1 J b ds g1 gr1 Y ⟨eb, h1⟩ => ?_⟩
  subst eb
  have k1 := k.st (gr1.st g)
  refine ⟨fun i m σ H => m = ds.length - i ∧ i ≤ ds.length ∧ ∃ w η, w.H = H ∧ Good K κ w ∧ Mi.St w1 w ∧ EnvR K κ w η σ ∧ forL mg mb (ds.drop i) η w.S D, ⟨ds.length, by simp, Nat.zero_le _, w1, η, rfl, g1, .refl _, e.gr g gr1, h1⟩, ?_⟩
  rintro i m σ H ⟨rfl, hl, w2, η2, rfl, g2, s2, e2, h2⟩
  have hd : Hd true w1 w2 := ⟨s2.st, s2.H, nofun⟩
  by_cases hlt : i < ds.length
  · refine .inr ⟨Y.go w2 i g2 hd hlt, fun σ' H' => i + 1 ≤ ds.length ∧ ∃ w η, w.H = H' ∧ Good K κ w ∧ Mi.St w1 w ∧ EnvR K κ w η σ' ∧ forL mg mb (ds.drop (i + 1)) η w.S D, fun σ' H' p => ⟨ds.length - (i + 1), by omega, rfl, p⟩, fun v H' y => ?_⟩
    obtain ⟨w3, d, rfl, g3, gr3, es3, ed, r⟩ := Y.yld w2 i v H' g2 hd hlt y
    have ed' : ds.drop i = d :: ds.drop (i + 1) := by
      rw [List.drop_eq_getElem_cons hlt]
      rw [List.getElem?_eq_getElem hlt] at ed
      rw [Option.some.inj ed]
    rw [ed', ← es3] at h2
    have s3 := s2.trans (gr3.st g2)
    refine hg w3 η2 σ v d _ _ g3 (e2.gr g2 gr3) (.of_rep r) h2 fun w4 η4 σ4 g4 gr4 e4 _ _ h4 => ?_
    have s4 := s3.trans (gr4.st g3)
    have k4 := k1.st s4
    exact hb.go w4 η4 σ4 _ _ g4 e4 h4 ⟨fun w5 η5 σ5 g5 s5 e5 h5 => ⟨hlt, w5, η5, rfl, g5, s4.trans s5, e5, h5⟩, k4.rt, k4.nx, fun w5 η5 σ5 g5 s5 e5 h5 => ⟨hlt, w5, η5, rfl, g5, s4.trans s5, e5, h5⟩, k4.ex⟩
  · have en : i = ds.length := by omega
    subst en
    rw [List.drop_of_length_le (Nat.le_refl _)] at h2
    exact .inl ⟨Y.stop w2 g2 hd, k1.nx w2 η2 σ g2 s2 e2 h2⟩
def whL (c : MT) (mb : MS) : Nat → MS
  | 0, _, _, _ => False
  | n + 1, η, S, D => c η S (fun b S1 => if b = true then mb η S1 { D with nx := fun η S => whL c mb n η S D, ct := fun η S => whL c mb n η S D, bk := D.nx } else D.nx η S1) (fun x S => D.ex x η S)
def mWhile (c : MT) (mb : MS) : MS := fun η S D => ∃ n, whL c mb n η S D
theorem rf_while {c : TT} {mc : MT} {tb : TS} {mb : MS} (hc : RfT K κ W c mc) (hb : RfS K κ W tb mb) : RfS K κ W (tWhile c tb) (mWhile mc mb) := by
  refine ⟨fun w η σ D Dh g e ⟨n, h⟩ k => ⟨fun m σ H => ∃ w' η, w'.H = H ∧ Good K κ w' ∧ Mi.St w w' ∧ EnvR K κ w' η σ ∧ whL mc mb m η w'.S D, ⟨n, w, η, rfl, g, .refl w, e, h⟩, ?_⟩⟩
  rintro m σ H ⟨w1, η1, rfl, g1, s1, e1, h1⟩
  cases m with
  | zero => exact h1.elim
  | succ m =>
    have k1 := k.st s1
    refine hc.go w1 η1 σ _ _ _ g1 e1 h1 (k1.hx g1 e1) fun w2 b g2 gr2 h2 => ?_
    have k2 := k1.st (gr2.st g1)
    have s2 := s1.trans (gr2.st g1)
    cases b with
    | false => exact k2.nx w2 η1 σ g2 (.refl _) (e1.gr g1 gr2) h2
    | true => exact ⟨fun σ H => ∃ w' η, w'.H = H ∧ Good K κ w' ∧ Mi.St w w' ∧ EnvR K κ w' η σ ∧ whL mc mb m η w'.S D, fun σ' H' p => ⟨m, Nat.lt_succ_self _, p⟩,
        hb.go w2 η1 σ _ _ g2 (e1.gr g1 gr2) h2 ⟨fun w5 η5 σ5 g5 s5 e5 h5 => ⟨w5, η5, rfl, g5, s2.trans s5, e5, h5⟩, k2.rt, k2.nx, fun w5 η5 σ5 g5 s5 e5 h5 => ⟨w5, η5, rfl, g5, s2.trans s5, e5, h5⟩, k2.ex⟩⟩
/-! two names at once -/
def mPar (i j : Nat) (m : MA) : MS := fun η S D => m η S (fun ds S1 => match ds with
  | [a, b] => a.nown = true ∧ b.nown = true ∧ D.nx ((η.set i (some a)).set j (some b)) S1
  | _ => False) (fun x S => D.ex x η S)
theorem rf_par {i j : Nat} {ta : TA} {ma : MA} (h : RfA K κ W ta ma) : RfS K κ W (tPar i j ta) (mPar i j ma) :=
  ⟨fun w η σ D Dh g e hm k => h.go w η σ _ _ _ g e hm (k.hx g e) fun w1 ds vs g1 gr1 pr h1 => by
    split at h1
    · rename_i a b
      obtain ⟨u, v, rfl, ru, rv⟩ := prd2 pr
      exact ⟨u, v, rfl, k.nx w1 _ _ g1 (gr1.st g) (((e.gr g gr1).put ru h1.1).put rv h1.2.1) h1.2.2⟩
    · exact h1.elim⟩
def mPar3 (i j l : Nat) (m : MA) : MS := fun η S D => m η S (fun ds S1 => match ds with
  | [a, b, c] => a.nown = true ∧ b.nown = true ∧ c.nown = true ∧ D.nx (((η.set i (some a)).set j (some b)).set l (some c)) S1
  | _ => False) (fun x S => D.ex x η S)
theorem prd3 {α β : Type} {F : α → β → Prop} {x y z : α} {ys : List β} (h : Paired F [x, y, z] ys) : ∃ a b c, ys = [a, b, c] ∧ F x a ∧ F y b ∧ F z c := by
  cases h with | cons a t => obtain ⟨u, v, e, h1, h2⟩ := prd2 t; subst e; exact ⟨_, _, _, rfl, a, h1, h2⟩
theorem rf_par3 {i j l : Nat} {ta : TA} {ma : MA} (h : RfA K κ W ta ma) : RfS K κ W (tPar3 i j l ta) (mPar3 i j l ma) :=
  ⟨fun w η σ D Dh g e hm k => h.go w η σ _ _ _ g e hm (k.hx g e) fun w1 ds vs g1 gr1 pr h1 => by
    split at h1
    · rename_i a b c
      obtain ⟨u, v, x, rfl, ru, rv, rx⟩ := prd3 pr
      exact ⟨u, v, x, rfl, k.nx w1 _ _ g1 (gr1.st g) ((((e.gr g gr1).put ru h1.1).put rv h1.2.1).put rx h1.2.2.1) h1.2.2.2⟩
    · exact h1.elim⟩
/-! x += e (ints) -/
def mAug (f : Int → Int → Int) (i : Nat) (m : ME) : MS := fun η S D => ∃ k, η[i]? = some (some (.int k)) ∧ m η S (fun d S1 => match pk S1 d with
  | .int l => D.nx (η.set i (some (.int (f k l)))) S1
  | _ => False) (fun x S => D.ex x η S)
theorem rf_aug {f : Int → Int → Int} {i : Nat} (h : RfE K κ W te me) : RfS K κ W (tAug i te (ipI f)) (mAug f i me) :=
  ⟨fun w η σ D Dh g e ⟨z, hz, hm⟩ k => by
    obtain ⟨v, h1, r⟩ := e.at_ i _ hz
    have r : v = .int z := r
    subst r
    refine ⟨_, h1, h.go w η σ _ _ _ g e hm (k.hx g e) fun w1 d u g1 gr1 ru h2 => ?_⟩
    split at h2
    · rename_i l e1
      exact ⟨z, l, rfl, int_of g1 ru e1, k.nx w1 _ _ g1 (gr1.st g) ((e.gr g gr1).put (d := .int (f z l)) (v := .int (f z l)) rfl rfl) h2⟩
    · exact h2.elim⟩
/-! own things changed -/
theorem EnvR.own_at (e : EnvR K κ w η σ) {i : Nat} {t : Option Addr} {c : Mi.D} (h : η[i]? = some (some (.own t c))) : ∃ p, σ[i]? = some (some (.ref p)) ∧ p ∈ w.F ∧ View K κ w c p := by
  obtain ⟨v, h1, a, rfl, m, V⟩ := e.at_ i _ h
  exact ⟨a, h1, m.1, V⟩
/-- the own thing of slot i has become c' -/
theorem EnvR.upd_own {i : Nat} {t : Option Addr} {c c' : Mi.D} {p : Addr} {o : HO} (g : Good K κ w) (e : EnvR K κ w η σ) (h : η[i]? = some (some (.own t c))) (hs : σ[i]? = some (some (.ref p))) (m : p ∈ w.F) (V : View K κ { w with H := upd w.H p o } c' p) :
    Good K κ { w with H := upd w.H p o } ∧ Mi.St w { w with H := upd w.H p o } ∧ EnvR K κ { w with H := upd w.H p o } (η.set i (some (.own t c'))) σ := by
  obtain ⟨g2, s⟩ := own_put (o := o) g m
  have hi : i < η.length := (List.getElem?_eq_some_iff.mp h).1
  refine ⟨g2, s, by simp [e.len], fun j z q => ?_, fun j k s1 s2 x y a h1 h2 h3 h4 => ?_⟩
  · by_cases n : i = j
    · subst n
      rw [List.getElem?_set_self hi] at q
      cases q
      obtain ⟨v, q1, a, rfl, m2, _⟩ := e.at_ i _ h
      rw [hs] at q1
      cases q1
      exact ⟨_, hs, p, rfl, m2, V⟩
    · rw [List.getElem?_set_ne n] at q
      obtain ⟨v, h1, r⟩ := e.at_ j z q
      refine ⟨v, h1, ?_⟩
      cases z with
      | own t2 z =>
        obtain ⟨a, rfl, ma, Va⟩ := r
        have ne : a ≠ p := fun x => n (e.dis i j _ _ _ _ p h q hs (by rw [← x]; exact h1))
        exact ⟨a, rfl, ma, Va.stay s.st (by show upd w.H p o a = _; rw [upd_ne ne])⟩
      | bor z => obtain ⟨a, rfl, ma, Va⟩ := r; exact ⟨a, rfl, ma, Va.stay s.st (s.H a ma)⟩
      | _ => exact Rep.stay s.st _ _ r
  · have get : ∀ {j : Nat} {s : Option Addr} {x : Mi.D}, (η.set i (some (.own t c')))[j]? = some (some (.own s x)) → ∃ s y, η[j]? = some (some (.own s y)) := fun {j s x} q => by
      by_cases n : i = j
      · subst n; exact ⟨t, c, h⟩
      · rw [List.getElem?_set_ne n] at q; exact ⟨s, x, q⟩
    obtain ⟨s1', x', h1⟩ := get h1
    obtain ⟨s2', y', h2⟩ := get h2
    exact e.dis j k s1' s2' x' y' a h1 h2 h3 h4
def mApp (i : Nat) (m : ME) : MS := fun η S D => ∃ t acc, η[i]? = some (some (.own t (.lst acc))) ∧ m η S (fun d S1 => d.val = true ∧ acc.length < 100000 ∧ D.nx (η.set i (some (.own t (.lst (acc ++ [d]))))) S1) (fun x S => D.ex x η S)
theorem tyL {a : Addr} {vs : List V} {H : Hp} (h : H a = some (.lst vs)) : tyV K "list" (.ref a) H := .inl ⟨rfl, _, .inl (.inl h)⟩
theorem rf_app {i : Nat} (h : RfE K κ W te me) : RfS K κ W (tDrop (tBM K "list" rAppend (tVar i) (tCons te tNil))) (mApp i me) :=
  ⟨fun w η σ D Dh g e ⟨t, acc, hz, hm⟩ k => by
    obtain ⟨p, hs, m, vs, h1, _⟩ := e.own_at hz
    refine ⟨_, hs, tyL h1, h.go w η σ _ _ _ g e hm (k.hx g e) fun w1 d u g1 gr1 ru h2 => ?_⟩
    have e1 := e.gr g gr1
    obtain ⟨p', hs', m', vs', h1', l⟩ := e1.own_at hz
    rw [hs] at hs'
    cases hs'
    obtain ⟨_, s⟩ := own_put (o := .lst (vs' ++ [u])) g1 m'
    obtain ⟨g2, s2, e2⟩ := e1.upd_own (o := .lst (vs' ++ [u])) g1 hz hs m' (c' := .lst (acc ++ [d])) ⟨_, upd_same, (RepL.stay s.st _ _ l).app (.one (Rep.stay s.st _ _ (RX.rep h2.1 ru)))⟩
    exact ⟨p, vs', u, rfl, rfl, h1', Nat.lt_of_lt_of_le (show vs'.length < 100000 by rw [l.len]; exact h2.2.1) (by decide), k.nx _ _ _ g2 ((gr1.st g).trans s2) e2 h2.2.2⟩⟩
/-- found[k] = e -/
def mSetIx (i : Nat) (mk m : ME) : MS := fun η S D => ∃ t acc, η[i]? = some (some (.own t (.lst acc))) ∧ m η S (fun d S1 => d.val = true ∧ mk η S1 (fun z S2 => match pk S2 z with
  | .int k => ∃ j, ixN acc.length k = some j ∧ D.nx (η.set i (some (.own t (.lst (acc.set j d))))) S2
  | _ => False) (fun x S => D.ex x η S)) (fun x S => D.ex x η S)
theorem rf_setIx {i : Nat} {tk : TE} {mk : ME} (hk : RfE K κ W tk mk) (h : RfE K κ W te me) : RfS K κ W (tAsg te (gSub (tVar i) tk rSetL)) (mSetIx i mk me) :=
  ⟨fun w η σ D Dh g e ⟨t, acc, hz, hm⟩ k => h.go w η σ _ _ _ g e hm (k.hx g e) fun w1 d u g1 gr1 ru h2 => by
    have e1 := e.gr g gr1
    have k1 := k.st (gr1.st g)
    obtain ⟨p, hs, _⟩ := e1.own_at hz
    refine ⟨_, hs, hk.go w1 η σ _ _ _ g1 e1 h2.2 (k1.hx g1 e1) fun w2 z zv g2 gr2 rz h3 => ?_⟩
    split at h3
    · rename_i kk ek
      obtain ⟨j, hj, h4⟩ := h3
      have e2 := e1.gr g1 gr2
      obtain ⟨p', hs', m', vs', h1', l⟩ := e2.own_at hz
      rw [hs] at hs'
      cases hs'
      obtain ⟨_, s⟩ := own_put (o := .lst (vs'.set j u)) g2 m'
      have rd := Rep.stay s.st _ _ (Rep.stay gr2.stay _ _ (RX.rep h2.1 ru))
      obtain ⟨g3, s3, e3⟩ := e2.upd_own (o := .lst (vs'.set j u)) g2 hz hs m' (c' := .lst (acc.set j d)) ⟨_, upd_same, (RepL.stay s.st _ _ l).set rd j⟩
      exact ⟨p, vs', kk, j, rfl, int_of g2 rz ek, h1', by rw [l.len]; exact hj, k1.nx _ _ _ g3 ((gr2.st g1).trans s3) e3 h4⟩
    · exact h3.elim⟩
/-- found.pop(), its value let go, or given to a name -/
def mPopD (i : Nat) : MS := fun η S D => ∃ t acc z, η[i]? = some (some (.own t (.lst acc))) ∧ acc[acc.length - 1]? = some z ∧ D.nx (η.set i (some (.own t (.lst acc.dropLast)))) S
theorem RepL.dl : ∀ {ds : List Mi.D} {vs : List V}, RepL K κ w ds vs → RepL K κ w ds.dropLast vs.dropLast := fun {ds vs} h => by
  rw [List.dropLast_eq_take, List.dropLast_eq_take, h.len]
  exact RepL.take _ h
theorem rf_popD {i : Nat} : RfS K κ W (tDrop (tBM0 K "list" rPop (tVar i))) (mPopD i) :=
  ⟨fun w η σ D Dh g e ⟨t, acc, z, hz, hl, hn⟩ k => by
    obtain ⟨p, hs, m, vs, h1, l⟩ := e.own_at hz
    obtain ⟨_, s⟩ := own_put (o := .lst vs.dropLast) g m
    obtain ⟨g2, s2, e2⟩ := e.upd_own (o := .lst vs.dropLast) g hz hs m (c' := .lst acc.dropLast) ⟨_, upd_same, (RepL.stay s.st _ _ l).dl⟩
    obtain ⟨v, h2, _⟩ := l.get hl
    exact ⟨_, hs, tyL h1, p, vs, v, rfl, rfl, h1, by rw [l.len]; exact h2, k.nx _ _ _ g2 s2 e2 hn⟩⟩
def mPop (i j : Nat) : MS := fun η S D => ∃ t acc z, η[i]? = some (some (.own t (.lst acc))) ∧ acc[acc.length - 1]? = some z ∧ z.nown = true ∧ i ≠ j ∧ D.nx ((η.set i (some (.own t (.lst acc.dropLast)))).set j (some z)) S
theorem rf_pop {i j : Nat} : RfS K κ W (tAsg (tBM0 K "list" rPop (tVar i)) (gName j)) (mPop i j) :=
  ⟨fun w η σ D Dh g e ⟨t, acc, z, hz, hl, nz, hij, hn⟩ k => by
    obtain ⟨p, hs, m, vs, h1, l⟩ := e.own_at hz
    obtain ⟨_, s⟩ := own_put (o := .lst vs.dropLast) g m
    obtain ⟨g2, s2, e2⟩ := e.upd_own (o := .lst vs.dropLast) g hz hs m (c' := .lst acc.dropLast) ⟨_, upd_same, (RepL.stay s.st _ _ l).dl⟩
    obtain ⟨v, h2, r⟩ := l.get hl
    exact ⟨_, hs, tyL h1, p, vs, v, rfl, rfl, h1, by rw [l.len]; exact h2, k.nx _ _ _ g2 s2 (e2.put (.of_rep (Rep.stay s.st _ _ r)) nz) hn⟩⟩
/-- self.f = e, self being made -/
def mSetF (cs : List Str) (i : Nat) (f : Str) (m : ME) : MS := fun η S D => m η S (fun d S1 => ∃ t c fs, η[i]? = some (some (.own t (.obj c fs))) ∧ c ∈ cs ∧ fs.length ≤ 900 ∧ d.val = true ∧ D.nx (η.set i (some (.own t (.obj c (putD f d fs))))) S1) (fun x S => D.ex x η S)
theorem rf_setF {i : Nat} {f : Str} {cs : List Str} (hc : ∀ c ∈ cs, Cls K (κ c) ∧ NoAttr K (κ c) f) (h : RfE K κ W te me) : RfS K κ W (sFld K (tVar i) te f) (mSetF cs i f me) :=
  ⟨fun w η σ D Dh g e hm k => h.go w η σ _ _ _ g e hm (k.hx g e) fun w1 d u g1 gr1 ru h2 => by
    obtain ⟨t, c, fs, hz, mc, ln, vd, hn⟩ := h2
    have e1 := e.gr g gr1
    obtain ⟨p, hs, m, dx, us, h1, l⟩ := e1.own_at hz
    obtain ⟨_, s⟩ := own_put (o := .ins (κ c) dx (putF f u us)) g1 m
    obtain ⟨g2, s2, e2⟩ := e1.upd_own (o := .ins (κ c) dx (putF f u us)) g1 hz hs m (c' := .obj c (putD f d fs)) ⟨dx, _, upd_same, (RepF.stay s.st _ _ l).put (Rep.stay s.st _ _ (RX.rep vd ru))⟩
    exact ⟨_, hs, p, κ c, dx, us, rfl, h1, (hc c mc).1, (hc c mc).2, by rw [l.len]; omega, k.nx _ _ _ g2 ((gr1.st g).trans s2) e2 hn⟩⟩
end
end Mi
/-! Mirrors of defs and of calls -/
namespace Mi
open PySem L2 Aq Evl
abbrev MF := List D → Sto → DK → XM → Prop
def argD : D → D
  | .own _ d => .bor d
  | d => d
def nones (n : Nat) : Nv := List.replicate n none
/-- a def's mirror by its body's: n slots -/
def runB (n : Nat) (m : MS) : MF := fun ds S q x => m (ds.map some ++ nones (n - ds.length)) S ⟨fun _ S' => q .non S', q, fun _ _ => False, fun _ _ => False, fun e _ S' => x e S'⟩
/-- __init__: slot 0 holds the instance that is made; its end gives the instance -/
def runI (n : Nat) (c : Str) (m : MS) : MF := fun ds S q x => ∀ a, m (some (.own (some a) (.obj c [])) :: (ds.map some ++ nones (n - (ds.length + 1)))) S
  ⟨fun η S' => ∃ o, η[0]? = some (some (.own (some a) o)) ∧ o.box = true ∧ q o S', fun _ _ => False, fun _ _ => False, fun _ _ => False, fun e _ S' => x e S'⟩
section
variable (K : PySem.W.Frag) (κ : Str → Addr)
def EX (w : Wd) (x : XM) (E : XK) : Prop := ∀ w' e c dd, Good K κ w' → Gr w w' → ExR K κ w' e c dd → x e w'.S → E c dd w'.H
def spM (n : Nat) (f : MF) : Sp := fun vs H Q E => vs.length = n ∧ ∃ w ds q x, w.H = H ∧ Good K κ w ∧ w.F = [] ∧ Paired (RX K κ w) ds vs ∧ f ds w.S q x ∧ KX K κ w q Q ∧ EX K κ w x E
def spI (n : Nat) (c : Str) (f : MF) : Sp := fun vs H Q E => vs.length = n ∧ ∃ w a rest ds q x dx, vs = .ref a :: rest ∧ w.H = H ∧ Good K κ w ∧ w.F = [a] ∧ H a = some (.ins (κ c) dx []) ∧ Paired (RX K κ w) ds rest ∧ (∀ d ∈ ds, d.nown = true) ∧ f ds w.S q x ∧
  (∀ w' d, Good K κ w' → St w w' → w'.F = [] → Rep K κ w' d (.ref a) → q d w'.S → Q .non w'.H) ∧ (∀ w' e c dd, Good K κ w' → St w w' → w'.F = [] → ExR K κ w' e c dd → x e w'.S → E c dd w'.H)
end
section
variable {K : PySem.W.Frag} {κ : Str → Addr} {w w' w0 w1 : Wd} {η : Nv} {σ : L2.St} {W : WX}
theorem st_gr (g : Good K κ w) (g' : Good K κ w') (h : w.F = []) (h' : w'.F = []) (s : Mi.St w w') : Gr w w' := by
  refine ⟨h'.trans h.symm, s.O, s.st.ρ, fun a z => ?_, fun a o e n => ?_⟩
  · by_cases m : a ∈ w.ρ
    · exact .inl m
    · cases e : w.H a with
      | none => exact .inr rfl
      | some o =>
        exfalso
        by_cases q : a ∈ w.O
        · exact (g'.df a z).2 (by rw [s.O]; exact q)
        · refine (s.st.H a o e fun l => ?_).2 (.inl z)
          rcases l with l | l | l
          · exact m l
          · rw [h] at l; cases l
          · exact q l
  · by_cases q : a ∈ w.O
    · rw [s.H a q]; exact e
    · refine (s.st.H a o e fun l => ?_).1
      rcases l with l | l | l
      · exact n l
      · rw [h] at l; cases l
      · exact q l
theorem start_at {N : List Str} {ds : List D} {vs : List V} (h : Paired (RX K κ w) ds vs) : (ds.map some ++ nones (N.length - ds.length)).length = (L2.start N vs).length ∧ ∀ (i : Nat) (d : D), (ds.map some ++ nones (N.length - ds.length))[i]? = some (some d) → ds[i]? = some d ∧ ∃ v, (L2.start N vs)[i]? = some (some v) ∧ RX K κ w d v := by
  have hl := prd_len h
  have get : ∀ {ds : List D} {vs : List V}, Paired (RX K κ w) ds vs → ∀ (i : Nat) (d : D), ds[i]? = some d → ∃ v, vs[i]? = some v ∧ RX K κ w d v := by
    intro ds vs h
    induction h with
    | nil => intro i d e; simp at e
    | cons a t ih =>
      intro i d e
      cases i with
      | zero => simp at e; subst e; exact ⟨_, rfl, a⟩
      | succ i => obtain ⟨v, h1, h2⟩ := ih i d (by simpa using e); exact ⟨v, by simpa using h1, h2⟩
  refine ⟨by simp [L2.start, nones, hl], fun i d e => ?_⟩
  have e' : ds[i]? = some d := by
    by_cases hi : i < ds.length
    · rw [List.getElem?_append_left (by simpa using hi), List.getElem?_map] at e
      cases q : ds[i]? with
      | none => rw [q] at e; cases e
      | some z => rw [q] at e; simp at e; rw [e]
    · rw [List.getElem?_append_right (by simpa using hi)] at e
      unfold nones at e
      rw [List.getElem?_replicate] at e
      split at e <;> cases e
  obtain ⟨v, h1, h2⟩ := get h i d e'
  refine ⟨e', v, ?_, h2⟩
  unfold L2.start
  rw [List.getElem?_append_left (by simpa using (List.getElem?_eq_some_iff.mp h1).1), List.getElem?_map, h1]
  rfl
theorem env_start {N : List Str} {ds : List D} {vs : List V} (h : Paired (RX K κ w) ds vs) (hF : w.F = []) : EnvR K κ w (ds.map some ++ nones (N.length - ds.length)) (L2.start N vs) := by
  obtain ⟨hl, at_⟩ := start_at (N := N) h
  refine ⟨hl, fun i d e => (at_ i d e).2, fun i j s t d e a h1 _ _ _ => ?_⟩
  obtain ⟨v, _, a, _, m, _⟩ := (at_ i _ h1).2
  rw [hF] at m
  cases m.1
theorem spM_len {n : Nat} {f : MF} {ps : List Str} (h : ps.length = n) : ∀ vs H Q E, spM K κ n f vs H Q E → vs.length = ps.length := fun vs H Q E z => z.1.trans h.symm
theorem spI_len {n : Nat} {c : Str} {f : MF} {ps : List Str} (h : ps.length = n) : ∀ vs H Q E, spI K κ n c f vs H Q E → vs.length = ps.length := fun vs H Q E z => z.1.trans h.symm
/-- a body whose mirror is m -/
theorem body_of {N : List Str} {n : Nat} {m : MS} {t : TS} {vs : List V} {H : Hp} {Q : VK} {E : XK} (r : RfS K κ (fun c d _ H => E c d H) t m) (h : spM K κ n (runB N.length m) vs H Q E) : t { nx := fun _ H' => Q .non H', rt := Q } (L2.start N vs) H := by
  obtain ⟨_, w, ds, q, x, rfl, g, hF, pr, hm, kx, ex⟩ := h
  refine r.go w _ _ _ _ g (env_start pr hF) hm ⟨fun w' η' σ' g' s' e' h' => ?_, fun w' d v g' s' hF' r' h' => kx w' d v g' (st_gr g g' hF hF' s') (.of_rep r') h', fun _ _ _ _ _ _ h' => h'.elim, fun _ _ _ _ _ _ h' => h'.elim, fun w' η' σ' e c dd g' s' e' hx h' => ?_⟩
  · obtain ⟨g2, s2⟩ := free_own g'
    exact kx { w' with F := [] } .non .non g2 (st_gr g g2 hF rfl (s'.trans s2)) rfl h'
  · obtain ⟨g2, s2⟩ := free_own g'
    refine ex { w' with F := [] } e c dd g2 (st_gr g g2 hF rfl (s'.trans s2)) ⟨hx.1, hx.2.1, fun fs z => ?_⟩ h'
    obtain ⟨d, us, h1, h2, h3⟩ := hx.2.2 fs z
    exact ⟨d, us, h1, ⟨(s2.st.H d _ h2.2 h2.1).2, h2.2⟩, RepF.stay s2.st _ _ h3⟩
theorem bodyI_of {N : List Str} {n : Nat} {c : Str} {m : MS} {t : TS} {vs : List V} {H : Hp} {Q : VK} {E : XK} (r : RfS K κ (fun c d _ H => E c d H) t m) (h : spI K κ n c (runI N.length c m) vs H Q E) : t { nx := fun _ H' => Q .non H', rt := Q } (L2.start N vs) H := by
  obtain ⟨_, w, a, rest, ds, q, x, dx, rfl, rfl, g, hF, ha, pr, nw, hm, kx, ex⟩ := h
  have hm := hm a
  have hown : RX K κ w (.own (some a) (.obj c [])) (.ref a) := ⟨a, rfl, ⟨by rw [hF]; exact List.mem_cons_self, fun b e => (Option.some.inj e).symm⟩, dx, [], ha, rfl⟩
  obtain ⟨hl, at_⟩ := start_at (N := N) (Paired.cons hown pr)
  have only : ∀ (i : Nat) (t : Option Addr) (d : D), (D.own (some a) (.obj c []) :: ds)[i]? = some (.own t d) → i = 0 := fun i t d e => by
    cases i with
    | zero => rfl
    | succ i =>
      have := nw _ (List.mem_of_getElem? (show ds[i]? = some (.own t d) by simpa using e))
      cases this
  have env : EnvR K κ w (some (.own (some a) (.obj c [])) :: (ds.map some ++ nones (N.length - (ds.length + 1)))) (L2.start N (.ref a :: rest)) :=
    ⟨hl, fun i d e => (at_ i d e).2, fun i j s t d e b h1 h2 _ _ => (only i s d (at_ i _ h1).1).trans (only j t e (at_ j _ h2).1).symm⟩
  refine r.go w _ _ _ _ g env hm ⟨fun w' η' σ' g' s' e' h' => ?_, fun _ _ _ _ _ _ _ h' => h'.elim, fun _ _ _ _ _ _ h' => h'.elim, fun _ _ _ _ _ _ h' => h'.elim, fun w' η' σ' e c dd g' s' e' hx h' => ?_⟩
  · obtain ⟨o, h1, h2, h3⟩ := h'
    obtain ⟨v, h4, r5⟩ := e'.at_ 0 _ h1
    have r5' := r5
    obtain ⟨p, rfl, ⟨_, tg⟩, _⟩ := r5'
    have tg := tg a rfl
    subst tg
    obtain ⟨g2, s2⟩ := free_own g'
    exact kx { w' with F := [] } o g2 (s'.trans s2) rfl (unown_rep g' r5 (if_pos h2)) h3
  · obtain ⟨g2, s2⟩ := free_own g'
    refine ex { w' with F := [] } e c dd g2 (s'.trans s2) rfl ⟨hx.1, hx.2.1, fun fs z => ?_⟩ h'
    obtain ⟨d, us, h1, h2, h3⟩ := hx.2.2 fs z
    exact ⟨d, us, h1, ⟨(s2.st.H d _ h2.2 h2.1).2, h2.2⟩, RepF.stay s2.st _ _ h3⟩
/-! ### calls -/
/-- the callee's world -/
def down (w : Wd) : Wd := { w with F := [], O := w.F ++ w.O }
theorem down_lv {a : Addr} : (down w).Lv a ↔ w.Lv a := by
  unfold Wd.Lv down
  simp [or_assoc]
theorem down_good (g : Good K κ w) : Good K κ (down w) ∧ Stay w (down w) := by
  have st : Stay w (down w) := ⟨fun _ _ z => z, fun a o z n => ⟨z, fun q => n (down_lv.mp q)⟩⟩
  refine ⟨⟨g.len, g.nd, fun a z => ⟨nofun, fun q => ?_⟩, nofun, fun a z => g.al a (down_lv.mp z), fun k a d z z2 => View.stay st rfl (g.cel k a d z z2)⟩, st⟩
  rcases List.mem_append.mp q with q | q
  · exact (g.df a z).1 q
  · exact (g.df a z).2 q
theorem down_rx {d : D} {v : V} (g : Good K κ w) (h : RX K κ w d v) : RX K κ (down w) (argD d) v := by
  obtain ⟨_, st⟩ := down_good g
  cases d with
  | own t d => obtain ⟨a, rfl, m, V⟩ := h; exact ⟨a, rfl, List.mem_append_left _ m.1, View.stay st rfl V⟩
  | bor d => obtain ⟨a, rfl, m, V⟩ := h; exact ⟨a, rfl, List.mem_append_right _ m, View.stay st rfl V⟩
  | _ => exact Rep.stay st _ _ h
theorem down_prd {ds : List D} {vs : List V} (g : Good K κ w) (h : Paired (RX K κ w) ds vs) : Paired (RX K κ (down w)) (ds.map argD) vs := by
  induction h with
  | nil => exact .nil
  | cons a t ih => exact .cons (down_rx g a) ih
/-- behind the call -/
theorem up_good (g : Good K κ w) (g' : Good K κ w') (gr : Gr (down w) w') : Good K κ { w' with F := w.F, O := w.O } ∧ Gr w { w' with F := w.F, O := w.O } ∧ Stay w' { w' with F := w.F, O := w.O } := by
  have hF : w'.F = [] := gr.F
  have hO : w'.O = w.F ++ w.O := gr.O
  have lv : ∀ a, ({ w' with F := w.F, O := w.O } : Wd).Lv a → w'.Lv a := fun a q => by
    rcases q with q | q | q
    · exact .inl q
    · exact .inr (.inr (by rw [hO]; exact List.mem_append_left _ q))
    · exact .inr (.inr (by rw [hO]; exact List.mem_append_right _ q))
  have st : Stay w' { w' with F := w.F, O := w.O } := ⟨fun _ _ z => z, fun a o z n => ⟨z, fun q => n (lv a q)⟩⟩
  refine ⟨⟨g'.len, g'.nd, fun a z => ⟨fun q => ?_, fun q => ?_⟩, g.dfo, fun a z => g'.al a (lv a z), fun k a d z z2 => View.stay st rfl (g'.cel k a d z z2)⟩, ⟨rfl, rfl, gr.ρ, gr.fr, gr.H⟩, st⟩
  · exact (g'.df a z).2 (by rw [hO]; exact List.mem_append_left _ q)
  · exact (g'.df a z).2 (by rw [hO]; exact List.mem_append_right _ q)
theorem val_of_nown {d : D} {v : V} (h : RX K κ w d v) (hF : w.F = []) (hb : ∀ z, d ≠ .bor z) : Rep K κ w d v := by
  cases d with
  | own t d => obtain ⟨a, _, m, _⟩ := h; rw [hF] at m; cases m.1
  | bor z => exact absurd rfl (hb z)
  | _ => exact h
/-- what a call gives: a value -/
def qv (q : DK) : DK := fun d S => d.val = true ∧ q d S
variable {n : Nat} {f : MF} {t : TA} {ma : MA}
def mCall (n : Nat) (f : MF) (ma : MA) : ME := fun η S q x => ma η S (fun ds S1 => ds.length = n ∧ f (ds.map argD) S1 (qv q) x) x
def mCall0 (n : Nat) (f : MF) (ma : MA) : ME := fun η S q x => ma η S (fun ds S1 => ds.length = n ∧ f (ds.map argD) S1 (qv q) (fun _ _ => False)) x
theorem ExR.up {e : Exn} {c : Value} {dd : Option Addr} (s : Stay w w') (e1 : w'.H = w.H) (h : ExR K κ w e c dd) : ExR K κ w' e c dd := ⟨h.1, h.2.1, fun fs z => by
  obtain ⟨d, us, h1, h2, h3⟩ := h.2.2 fs z
  exact ⟨d, us, h1, ⟨(s.H d _ h2.2 h2.1).2, (s.H d _ h2.2 h2.1).1⟩, RepF.stay s _ _ h3⟩⟩
theorem sp_call {ds : List D} {vs : List V} {q : DK} {x : XM} {Q : VK} {E : XK} (g : Good K κ w) (pr : Paired (RX K κ w) ds vs) (hl : ds.length = n) (hf : f (ds.map argD) w.S (qv q) x) (k : KX K κ w q Q) (hE : ∀ w' e c dd, Good K κ w' → Gr w w' → ExR K κ w' e c dd → x e w'.S → E c dd w'.H) : spM K κ n f vs w.H Q E := by
  obtain ⟨g1, s1⟩ := down_good g
  refine ⟨(prd_len pr).symm.trans hl, down w, ds.map argD, qv q, x, rfl, g1, rfl, down_prd g pr, hf, fun w' d v g' gr r ⟨hv, hq⟩ => ?_, fun w' e c dd g' gr hx hq => ?_⟩
  · obtain ⟨g2, gr2, s2⟩ := up_good g g' gr
    exact k { w' with F := w.F, O := w.O } d v g2 gr2 (.of_rep (Rep.stay s2 _ _ (RX.rep hv r))) hq
  · obtain ⟨g2, gr2, s2⟩ := up_good g g' gr
    exact hE { w' with F := w.F, O := w.O } e c dd g2 gr2 (hx.up s2 rfl) hq
theorem rf_callW (h : RfA K κ W t ma) : RfE K κ W (tCallW (spM K κ n f) [] W t) (mCall n f ma) :=
  ⟨fun w η σ q x Q g e hm hx k => h.go w η σ _ x _ g e hm hx fun w1 ds vs g1 gr1 pr ⟨hl, hf⟩ => by
    have := sp_call g1 pr hl hf (k.gr gr1) (E := fun c d H => W c d σ H) (hx.gr gr1)
    rw [← List.append_nil vs] at this
    exact this⟩
theorem rf_call0 (h : RfA K κ W t ma) : RfE K κ W (tCall (spM K κ n f) [] E0 t) (mCall0 n f ma) :=
  ⟨fun w η σ q x Q g e hm hx k => h.go w η σ _ x _ g e hm hx fun w1 ds vs g1 gr1 pr ⟨hl, hf⟩ => by
    have := sp_call g1 pr hl hf (k.gr gr1) (E := E0) (fun _ _ _ _ _ _ _ z => z.elim)
    rw [← List.append_nil vs] at this
    exact this⟩
end
end Mi
/-! Mirrors of methods, of instances made, of own operators -/
namespace Mi
open PySem L2 Aq Evl
section
variable {K : PySem.W.Frag} {κ : Str → Addr} {w w' w0 w1 : Wd} {η : Nv} {σ : L2.St} {W : WX} {n : Nat} {f : MF} {t : TA} {ma : MA} {ta tb : TE} {mo mb : ME} {c : Str} {C : Addr} {m : Str}
def mMeth (c m : Str) (n : Nat) (f : MF) (mo : ME) (ma : MA) : ME := fun η S q x => mo η S (fun d S1 => match pk S1 d with
  | .obj c' fs => c' = c ∧ fs.lookup m = none ∧ ma η S1 (fun ds S2 => ds.length + 1 = n ∧ f (argD d :: ds.map argD) S2 (qv q) x) x
  | _ => False) x
def mMeth0 (c m : Str) (n : Nat) (f : MF) (mo : ME) (ma : MA) : ME := fun η S q x => mo η S (fun d S1 => match pk S1 d with
  | .obj c' fs => c' = c ∧ fs.lookup m = none ∧ ma η S1 (fun ds S2 => ds.length + 1 = n ∧ f (argD d :: ds.map argD) S2 (qv q) (fun _ _ => False)) x
  | _ => False) x
theorem rf_methW (hC : κ c = C) (ho : RfE K κ W ta mo) (h : RfA K κ W t ma) : RfE K κ W (tMethW C m (spM K κ n f) W ta t) (mMeth c m n f mo ma) :=
  ⟨fun w η σ q x Q g e hm hx k => ho.go w η σ _ x _ g e hm hx fun w1 d v g1 gr1 rx hm1 => by
    split at hm1
    · rename_i c' fs e1
      obtain ⟨rfl, hl, hm2⟩ := hm1
      have rx' := rx
      obtain ⟨a, dx, us, rfl, h1, h2⟩ := obj_of g1 rx e1
      refine ⟨a, dx, us, rfl, hC ▸ h1, h2.none hl, h.go w1 η σ _ x _ g1 (e.gr g gr1) hm2 (hx.gr gr1) fun w2 ds vs g2 gr2 pr ⟨l, hf⟩ => ?_⟩
      exact sp_call (ds := d :: ds) g2 (.cons (rx'.gr g1 gr2) pr) (by simpa using l) hf (k.gr (gr1.trans gr2)) (E := fun c d H => W c d σ H) (hx.gr (gr1.trans gr2))
    · exact hm1.elim⟩
theorem rf_meth0 (hC : κ c = C) (ho : RfE K κ W ta mo) (h : RfA K κ W t ma) : RfE K κ W (tMeth C m (spM K κ n f) [] E0 ta t) (mMeth0 c m n f mo ma) :=
  ⟨fun w η σ q x Q g e hm hx k => ho.go w η σ _ x _ g e hm hx fun w1 d v g1 gr1 rx hm1 => by
    split at hm1
    · rename_i c' fs e1
      obtain ⟨rfl, hl, hm2⟩ := hm1
      have rx' := rx
      obtain ⟨a, dx, us, rfl, h1, h2⟩ := obj_of g1 rx e1
      refine ⟨a, dx, us, rfl, hC ▸ h1, h2.none hl, h.go w1 η σ _ x _ g1 (e.gr g gr1) hm2 (hx.gr gr1) fun w2 ds vs g2 gr2 pr ⟨l, hf⟩ => ?_⟩
      have := sp_call (ds := d :: ds) g2 (.cons (rx'.gr g1 gr2) pr) (by simpa using l) hf (k.gr (gr1.trans gr2)) (E := E0) (fun _ _ _ _ _ _ _ z => z.elim)
      rw [← List.append_nil vs] at this
      exact this
    · exact hm1.elim⟩
/-! ### C(..) -/
theorem argD_nown {d : D} {v : V} (h : RX K κ w d v) : (argD d).nown = true := by
  cases d with
  | pen n => exact h.elim
  | _ => rfl
theorem prd_nown {ds : List D} {vs : List V} (h : Paired (RX K κ w) ds vs) : ∀ d ∈ ds.map argD, d.nown = true := by
  induction h with
  | nil => nofun
  | cons a t ih =>
    intro d hd
    rcases List.mem_cons.mp hd with rfl | hd
    · exact argD_nown a
    · exact ih d hd
/-- defaults -/
structure Dft (K : PySem.W.Frag) (κ : Str → Addr) (dds : List D) (dvs : List V) : Prop where
  rx : ∀ w, Paired (RX K κ w) dds dvs
  nw : ∀ d ∈ dds, d.nown = true
theorem Dft.nil : Dft K κ [] [] := ⟨fun _ => .nil, nofun⟩
theorem Dft.non {dds : List D} {dvs : List V} (h : Dft K κ dds dvs) : Dft K κ (.non :: dds) (.non :: dvs) := ⟨fun w => .cons rfl (h.rx w), fun d hd => by
  rcases List.mem_cons.mp hd with rfl | hd
  · rfl
  · exact h.nw d hd⟩
theorem Dft.tup {a : Addr} {dds : List D} {dvs : List V} (ha : ∀ H, SqT K H a []) (h : Dft K κ dds dvs) : Dft K κ (.tup [] :: dds) (.ref a :: dvs) := ⟨fun w => .cons ⟨a, [], rfl, .inr ha, rfl⟩ (h.rx w), fun d hd => by
  rcases List.mem_cons.mp hd with rfl | hd
  · rfl
  · exact h.nw d hd⟩
theorem sp_make {ds dds : List D} {vs dvs : List V} {q : DK} {x : XM} {Q : VK} {E : XK} {p dx : Addr} (hC : κ c = C) (g : Good K κ w) (pr : Paired (RX K κ w) ds vs) (df : Dft K κ dds dvs) (hl : ds.length + dds.length + 1 = n) (hf : f (ds.map argD ++ dds) w.S q x) (k : KX K κ w q Q) (hE : ∀ w' e c dd, Good K κ w' → Gr w w' → ExR K κ w' e c dd → x e w'.S → E c dd w'.H)
    (hp : w.H p = none) (hd : w.H dx = none) (ne : dx ≠ p) : spI K κ n c f (.ref p :: (vs ++ dvs)) (upd (upd w.H dx (.own p)) p (.ins C dx [])) (fun v H2 => v = .non ∧ Q (.ref p) H2) E := by
  obtain ⟨g1, s1⟩ := down_good g
  obtain ⟨g2, gr2, _⟩ := new_val (o := .own p) g1 hd
  have hp2 : upd w.H dx (.own p) p = none := by rw [upd_ne (Ne.symm ne)]; exact hp
  obtain ⟨g3, gr3, s3⟩ := new_own (w := { down w with H := upd w.H dx (.own p) }) (o := .ins C dx []) g2 hp2
  have st3 := GrN.st g2 gr3
  have st2 := gr2.st g1
  subst hC
  have pr3 : Paired (RX K κ { down w with H := upd (upd w.H dx (.own p)) p (.ins (κ c) dx []), F := [p] }) (ds.map argD) vs := by
    have := down_prd g pr
    clear hf hl k
    have go : ∀ {d : D} {v : V}, d.nown = true → RX K κ (down w) d v → RX K κ { down w with H := upd (upd w.H dx (.own p)) p (.ins (κ c) dx []), F := [p] } d v := fun {d v} hn h => by
      have s := gr2.stay.trans s3
      cases d with
      | own t d => cases hn
      | bor d =>
        obtain ⟨a, rfl, m, V⟩ := h
        refine ⟨a, rfl, m, View.stay s ?_ V⟩
        exact (st3.H a m).trans (st2.H a m)
      | _ => exact Rep.stay s _ _ h
    have nw := prd_nown pr
    clear pr
    generalize ds.map argD = es at this nw
    induction this with
    | nil => exact .nil
    | cons a t ih => exact .cons (go (nw _ (List.mem_cons_self ..)) a) (ih fun d hd => nw d (List.mem_cons_of_mem _ hd))
  refine ⟨by rw [List.length_cons, List.length_append, ← prd_len pr, ← prd_len (df.rx w)]; exact hl, _, p, vs ++ dvs, ds.map argD ++ dds, q, x, dx, rfl, rfl, g3, rfl, upd_same, prd_app pr3 (df.rx _), fun d hd => ?_, hf, fun w' d g' st hF r hq => ?_, fun w' e cc dd g' st hF hx hq => ?_⟩
  · rcases List.mem_append.mp hd with h | h
    · exact prd_nown pr d h
    · exact df.nw d h
  · have gr := st_gr g1 g' rfl hF ((st2.trans st3).trans st)
    obtain ⟨g4, gr4, s4⟩ := up_good g g' gr
    exact ⟨rfl, k { w' with F := w.F, O := w.O } d _ g4 gr4 (.of_rep (Rep.stay s4 _ _ r)) hq⟩
  · have gr := st_gr g1 g' rfl hF ((st2.trans st3).trans st)
    obtain ⟨g4, gr4, s4⟩ := up_good g g' gr
    exact hE { w' with F := w.F, O := w.O } e cc dd g4 gr4 (hx.up s4 rfl) hq
def mMake (n : Nat) (f : MF) (dds : List D) (ma : MA) : ME := fun η S q x => ma η S (fun ds S1 => ds.length + dds.length + 1 = n ∧ f (ds.map argD ++ dds) S1 q x) x
def mMake0 (n : Nat) (f : MF) (dds : List D) (ma : MA) : ME := fun η S q x => ma η S (fun ds S1 => ds.length + dds.length + 1 = n ∧ f (ds.map argD ++ dds) S1 q (fun _ _ => False)) x
variable {dds : List D} {dvs : List V}
theorem rf_makeW (hC : κ c = C) (df : Dft K κ dds dvs) (h : RfA K κ W t ma) : RfE K κ W (tMakeW C (spI K κ n c f) dvs W t) (mMake n f dds ma) :=
  ⟨fun w η σ q x Q g e hm hx k => h.go w η σ _ x _ g e hm hx fun w1 ds vs g1 gr1 pr ⟨hl, hf⟩ => fun p dx hp hd ne => sp_make hC g1 pr df hl hf (k.gr gr1) (E := fun c d H => W c d σ H) (hx.gr gr1) hp hd ne⟩
theorem rf_make0 (hC : κ c = C) (df : Dft K κ dds dvs) (h : RfA K κ W t ma) : RfE K κ W (tMake C (spI K κ n c f) dvs E0 t) (mMake0 n f dds ma) :=
  ⟨fun w η σ q x Q g e hm hx k => h.go w η σ _ x _ g e hm hx fun w1 ds vs g1 gr1 pr ⟨hl, hf⟩ => fun p dx hp hd ne => sp_make hC g1 pr df hl hf (k.gr gr1) (E := E0) (fun _ _ _ _ _ _ _ z => z.elim) hp hd ne⟩
/-- C(e, .., k = v): the keywords behind -/
def tMakeNW (C : Addr) (n m : Nat) (sp : Sp) (gV : List V → List V → List V) (W : WX) (t tk : TA) : TE := fun σ H Q => t σ H fun vs H1 => tk σ H1 fun zs H2 => vs.length = n ∧ zs.length = m ∧
  ∀ x dx, H2 x = none → H2 dx = none → dx ≠ x → sp (gV (.ref x :: vs) zs) (upd (upd H2 dx (.own x)) x (.ins C dx [])) (fun v H3 => v = .non ∧ Q (.ref x) H3) fun cls d H' => W cls d σ H'
variable {tk : TA} {mk : MA} {n0 m0 : Nat}
def mMakeN (n n0 m0 : Nat) (f : MF) (ma mk : MA) : ME := fun η S q x => ma η S (fun ds S1 => mk η S1 (fun es S2 => ds.length = n0 ∧ es.length = m0 ∧ n0 + m0 + 1 = n ∧ f ((ds ++ es).map argD) S2 q x) x) x
def mMakeN0 (n n0 m0 : Nat) (f : MF) (ma mk : MA) : ME := fun η S q x => ma η S (fun ds S1 => mk η S1 (fun es S2 => ds.length = n0 ∧ es.length = m0 ∧ n0 + m0 + 1 = n ∧ f ((ds ++ es).map argD) S2 q (fun _ _ => False)) x) x
theorem prd_gr {ds : List D} {vs : List V} (g : Good K κ w) (x : Gr w w') (h : Paired (RX K κ w) ds vs) : Paired (RX K κ w') ds vs := by
  induction h with
  | nil => exact .nil
  | cons a t ih => exact .cons (a.gr g x) ih
theorem rf_makeNW (hC : κ c = C) (h : RfA K κ W t ma) (h2 : RfA K κ W tk mk) : RfE K κ W (tMakeNW C n0 m0 (spI K κ n c f) (fun vs zs => vs ++ zs) W t tk) (mMakeN n n0 m0 f ma mk) :=
  ⟨fun w η σ q x Q g e hm hx k => h.go w η σ _ x _ g e hm hx fun w1 ds vs g1 gr1 pr hm1 => h2.go w1 η σ _ x _ g1 (e.gr g gr1) hm1 (hx.gr gr1) fun w2 es us g2 gr2 pr2 ⟨l1, l2, hl, hf⟩ => by
    refine ⟨(prd_len pr).symm.trans l1, (prd_len pr2).symm.trans l2, fun p dx hp hd ne => ?_⟩
    have := sp_make (n := n) (f := f) (q := q) (dds := []) (dvs := []) hC g2 (prd_app (prd_gr g1 gr2 pr) pr2) .nil (by rw [List.length_append, l1, l2]; exact hl) (by rw [List.append_nil]; exact hf) (k.gr (gr1.trans gr2)) (E := fun c d H => W c d σ H) (hx.gr (gr1.trans gr2)) hp hd ne
    rw [List.append_nil] at this
    exact this⟩
theorem rf_makeN0 (hC : κ c = C) (h : RfA K κ W t ma) (h2 : RfA K κ W tk mk) : RfE K κ W (tMakeN C n0 m0 (spI K κ n c f) (fun vs zs => vs ++ zs) E0 t tk) (mMakeN0 n n0 m0 f ma mk) :=
  ⟨fun w η σ q x Q g e hm hx k => h.go w η σ _ x _ g e hm hx fun w1 ds vs g1 gr1 pr hm1 => h2.go w1 η σ _ x _ g1 (e.gr g gr1) hm1 (hx.gr gr1) fun w2 es us g2 gr2 pr2 ⟨l1, l2, hl, hf⟩ => by
    refine ⟨(prd_len pr).symm.trans l1, (prd_len pr2).symm.trans l2, fun p dx hp hd ne => ?_⟩
    have := sp_make (n := n) (f := f) (q := q) (dds := []) (dvs := []) hC g2 (prd_app (prd_gr g1 gr2 pr) pr2) .nil (by rw [List.length_append, l1, l2]; exact hl) (by rw [List.append_nil]; exact hf) (k.gr (gr1.trans gr2)) (x := fun _ _ => False) (E := E0) (fun _ _ _ _ _ _ _ z => z.elim) hp hd ne
    rw [List.append_nil] at this
    exact this⟩
/-! ### own ==, !=, in, not in, len, [], + -/
def qB (gg : Bool → Bool) (q : DK) : DK := fun d S => ∃ b, d = .bl b ∧ q (.bl (gg b)) S
def fEqOwn (c : Str) (f : MF) (gg : Bool → Bool) : F2 := fun d e S q => match pk S d, pk S e with
  | .obj c1 _, .obj c2 _ => c1 = c ∧ c2 = c ∧ f [argD d, argD e] S (qv (qB gg q)) (fun _ _ => False)
  | _, _ => False
theorem own_b {gg : Bool → Bool} {ds : List D} {vs : List V} {q : DK} {Q : VK} (g : Good K κ w) (pr : Paired (RX K κ w) ds vs) (hl : ds.length = n) (hf : f (ds.map argD) w.S (qv (qB gg q)) (fun _ _ => False)) (k : KX K κ w q Q) : rOwnB (spM K κ n f) gg vs w.H Q := by
  refine sp_call g pr hl hf (fun w' d v g' gr r hq => ?_) (fun _ _ _ _ _ _ _ z => z.elim)
  obtain ⟨b, rfl, hq⟩ := hq
  exact ⟨b, r, k w' (.bl (gg b)) _ g' gr rfl hq⟩
theorem rfo_eqOwn {gg : Bool → Bool} (hC : κ c = C) : RfO K κ (rEqOwn C (spM K κ 2 f) gg) (fEqOwn c f gg) := fun w d e u v q Q g hd he h k => by
  unfold fEqOwn at h
  split at h
  · rename_i c1 f1 c2 f2 e1 e2
    obtain ⟨rfl, rfl, hf⟩ := h
    have hd' := hd
    have he' := he
    obtain ⟨a, dx, us, rfl, h1, _⟩ := obj_of g hd e1
    obtain ⟨b, dy, vs, rfl, h2, _⟩ := obj_of g he e2
    exact ⟨a, b, dx, dy, us, vs, rfl, rfl, hC ▸ h1, hC ▸ h2, own_b (ds := [d, e]) g (.cons hd' (.cons he' .nil)) rfl hf k⟩
  · exact h.elim
def fInOwn (c : Str) (f : MF) (gg : Bool → Bool) : F2 := fun d e S q => match pk S e with
  | .obj c1 _ => c1 = c ∧ f [argD e, argD d] S (qv (qB gg q)) (fun _ _ => False)
  | _ => False
theorem rfo_inOwn {gg : Bool → Bool} (hC : κ c = C) : RfO K κ (rInOwn C (spM K κ 2 f) gg) (fInOwn c f gg) := fun w d e u v q Q g hd he h k => by
  unfold fInOwn at h
  split at h
  · rename_i c1 f1 e1
    obtain ⟨rfl, hf⟩ := h
    have he' := he
    obtain ⟨a, dx, us, rfl, h1, _⟩ := obj_of g he e1
    exact ⟨a, dx, us, rfl, hC ▸ h1, own_b (ds := [e, d]) g (.cons he' (.cons hd .nil)) rfl hf k⟩
  · exact h.elim
def fLenOwn (c : Str) (f : MF) : FL := fun ds S q => match ds with
  | [d] => match pk S d with
    | .obj c1 _ => c1 = c ∧ f [argD d] S (qv fun z S1 => ∃ n : Nat, z = .int (n : Nat) ∧ n < 2 ^ 60 ∧ q (.int (n : Nat)) S1) (fun _ _ => False)
    | _ => False
  | _ => False
theorem rfc_lenOwn (hC : κ c = C) : RfC K κ (rLenOwn C (spM K κ 1 f)) (fLenOwn c f) := fun w ds vs q Q g hd h k => by
  unfold fLenOwn at h
  split at h
  · rename_i d
    obtain ⟨v, rfl, hv⟩ := prd1 hd
    split at h
    · rename_i c1 f1 e1
      obtain ⟨rfl, hf⟩ := h
      have hv' := hv
      obtain ⟨a, dx, us, rfl, h1, _⟩ := obj_of g hv e1
      refine ⟨a, dx, us, rfl, hC ▸ h1, sp_call (ds := [d]) g (.cons hv' .nil) rfl hf (fun w' z v g' gr r hq => ?_) (fun _ _ _ _ _ _ _ z => z.elim)⟩
      obtain ⟨n, rfl, hn, hq⟩ := hq
      exact ⟨n, r, hn, k w' (.int (n : Nat)) _ g' gr rfl hq⟩
    · exact h.elim
  · exact h.elim
def mIxOwn (c : Str) (f : MF) (mo mb : ME) : ME := fun η S q x => mo η S (fun d S1 => mb η S1 (fun e S2 => match pk S2 d with
  | .obj c1 _ => c1 = c ∧ f [argD d, argD e] S2 (qv q) x
  | _ => False) x) x
theorem rf_ixOwn (hC : κ c = C) (ho : RfE K κ W ta mo) (h : RfE K κ W tb mb) : RfE K κ W (tIxW C (spM K κ 2 f) W ta tb) (mIxOwn c f mo mb) :=
  ⟨fun w η σ q x Q g e hm hx k => ho.go w η σ _ x _ g e hm hx fun w1 d u g1 gr1 rx hm1 => h.go w1 η σ _ x _ g1 (e.gr g gr1) hm1 (hx.gr gr1) fun w2 d2 v g2 gr2 ry hm2 => by
    split at hm2
    · rename_i c1 f1 e1
      obtain ⟨rfl, hf⟩ := hm2
      have rx2 := rx.gr g1 gr2
      have rx2' := rx2
      obtain ⟨a, dx, us, rfl, h1, _⟩ := obj_of g2 rx2 e1
      exact ⟨a, dx, us, rfl, hC ▸ h1, sp_call (ds := [d, d2]) g2 (.cons rx2' (.cons ry .nil)) rfl hf (k.gr (gr1.trans gr2)) (E := fun c d H => W c d σ H) (hx.gr (gr1.trans gr2))⟩
    · exact hm2.elim⟩
end
end Mi
/-! Mirrors of raise, try, caught errors -/
namespace Mi
open PySem PySem.Spec PyProof.Rows L2 Aq Evl
section
variable {K : PySem.W.Frag} {κ : Str → Addr} {w w' w0 w1 : Wd} {η : Nv} {σ : L2.St} {W : WX} {ta : TA} {ma : MA} {te : TE} {me : ME}
/-- what is told in a message -/
def fmtD : D → Bool
  | .str z => decide (z.length ≤ 1000)
  | .int i => decide (i.natAbs.log2 < 1000)
  | _ => false
theorem fmt_of {d : D} {v : V} (h : Rep K κ w d v) (f : fmtD d = true) : Fmt v := by
  cases d with
  | str z => exact .inl ⟨z, h, of_decide_eq_true f⟩
  | int i => exact .inr ⟨i, h, of_decide_eq_true f⟩
  | _ => cases f
/-- the fields of an error by the places of its arguments -/
def xfs {α : Type} (ix : List (Str × Nat)) (d0 : α) (ys : List α) : List (Str × α) := ix.map fun p => (p.1, ys.getD p.2 d0)
/-- what the text of an own error's __init__ gives: us, the places that are told in its message -/
def RzOk (C : Addr) (sp : Sp) (n : Nat) (ix : List (Str × Nat)) (us : List Nat) : Prop := ∀ (H : Hp) (ys : List V) (R : Value → Option Addr → Hp → Prop), ys.length = n → (∀ i ∈ us, Fmt (ys.getD i .non)) →
  (∀ d H', H d = none → Ex H H' → H' d = some (.xd (xfs ix .non ys)) → R (.ref C) (some d) H') →
  ys.length ≤ 1000 ∧ ∀ x, H x = none → sp (.ref x :: (ys ++ [])) (upd H x (exo x C none)) (fun v H2 => v = .non ∧ ∃ (d : Addr) (fs : List (Str × V)), H2 x = some (exo x C (some d)) ∧ H2 d = some (exd d fs) ∧ H d = none ∧ R (.ref C) (some d) (upd (del H2 x) d (.xd fs))) (fun _ _ _ => False)
theorem ex_good {H' : Hp} (g : Good K κ w) (e : Ex w.H H') : Good K κ { w with H := H' } ∧ Gr w { w with H := H' } := by
  have gr : Gr w { w with H := H' } := ⟨rfl, rfl, fun _ _ z => z, fun _ z => .inl z, fun a o z _ => e a o z⟩
  refine ⟨⟨g.len, g.nd, g.df, g.dfo, fun a z => ?_, fun k a d z z2 => ?_⟩, gr⟩
  · show H' a ≠ none
    cases q : w.H a with
    | none => exact absurd q (g.al a z)
    | some o => rw [e a o q]; exact nofun
  · refine View.stay gr.stay ?_ (g.cel k a d z z2)
    show H' a = w.H a
    cases q : w.H a with
    | none => exact absurd q (g.al a (.inl (List.mem_of_getElem? z)))
    | some o => exact e a o q
theorem xfs_rep {ix : List (Str × Nat)} {ds : List D} {vs : List V} (l : RepL K κ w ds vs) : RepF K κ w (xfs ix .non ds) (xfs ix .non vs) := by
  induction ix with
  | nil => exact rfl
  | cons p r ih =>
    refine ⟨_, _, rfl, ?_, ih⟩
    rw [List.getD_eq_getElem?_getD, List.getD_eq_getElem?_getD]
    cases q : ds[p.2]? with
    | none =>
      have : vs[p.2]? = none := by rw [List.getElem?_eq_none_iff] at q ⊢; rw [l.len]; exact q
      rw [this]; exact rfl
    | some d => obtain ⟨v, h1, h2⟩ := l.get q; rw [h1]; exact h2
def mRaise (c : Str) (n : Nat) (ix : List (Str × Nat)) (us : List Nat) (ma : MA) : MS := fun η S D => ma η S (fun ds S1 => ds.length = n ∧ allVal ds = true ∧ (us.all fun i => fmtD (ds.getD i .non)) = true ∧ D.ex (c, some (xfs ix .non ds)) η S1) (fun x S => D.ex x η S)
theorem rf_raise {c : Str} {C : Addr} {sp : Sp} {n : Nat} {ix : List (Str × Nat)} {us : List Nat} (hC : κ c = C) (rz : RzOk C sp n ix us) (h : RfA K κ W ta ma) : RfS K κ W (fun _ σ H => tMkO C sp [] ta σ H fun cls d H' => W cls d σ H') (mRaise c n ix us ma) := by
  refine ⟨fun w η σ D Dh g e hm k => h.go w η σ _ _ _ g e hm (k.hx g e) fun w1 ds vs g1 gr1 pr ⟨hl, hv, hf, hq⟩ => ?_⟩
  have l := RepL.of pr hv
  refine rz w1.H vs (fun c d H => W c d σ H) ((prd_len pr).symm.trans hl) (fun i hi => ?_) fun d H' hd ex hx => ?_
  · have := List.all_eq_true.mp hf i hi
    rw [List.getD_eq_getElem?_getD] at this ⊢
    cases q : ds[i]? with
    | none => rw [q] at this; cases this
    | some z =>
      rw [q] at this
      obtain ⟨v, h1, h2⟩ := l.get q
      rw [h1]
      exact fmt_of h2 this
  · obtain ⟨g2, gr2⟩ := ex_good g1 ex
    subst hC
    refine k.ex { w1 with H := H' } η σ (c, some (xfs ix .non ds)) _ _ g2 ((gr1.trans gr2).st g) (e.gr g (gr1.trans gr2)) ⟨rfl, nofun, fun fs z => ?_⟩ hq
    cases z
    have nl : ¬ ({ w1 with H := H' } : Wd).Lv d := fun q => g1.al d q hd
    exact ⟨d, _, rfl, ⟨nl, hx⟩, xfs_rep (RepL.stay gr2.stay _ _ l)⟩
def mRaise0 (c : Str) : MS := fun η S D => D.ex (c, none) η S
theorem rf_raise0 {c : Str} {C : Addr} (hC : κ c = C) : RfS K κ W (fun _ σ H => W (.ref C) none σ H) (mRaise0 c) :=
  ⟨fun w η σ D Dh g e hm k => k.ex w η σ (c, none) _ none g (.refl w) e ⟨by rw [hC], fun _ => rfl, nofun⟩ hm⟩
/-! ### try -/
/-- a clause: the class, the slot of its name, its suite's mirror -/
structure Cl where
  c : Str
  i : Option Nat
  m : Addr → Option Addr → Str → MS
def goneM (D : MEnds) (i : Nat) : MEnds := ⟨fun η S => D.nx (η.set i none) S, D.rt, fun η S => D.bk (η.set i none) S, fun η S => D.ct (η.set i none) S, fun e η S => D.ex e (η.set i none) S⟩
def handM (es : List Str) (sub : Str → Str → Bool) : List Cl → Exn → Nv → Sto → MEnds → Prop
  | [], e, η, S, D => D.ex e η S
  | cl :: r, e, η, S, D => e.1 ∈ es ∧ if sub e.1 cl.c = true then (match cl.i with
      | none => ∀ a d, (e.2.isSome = true → d.isSome = true) → cl.m a d e.1 η S D
      | some i => ∀ a d, (e.2.isSome = true → d.isSome = true) → cl.m a d e.1 (η.set i (some (.exc a d e.1 (e.2.getD [])))) S (goneM D i)) else handM es sub r e η S D
def mTry (es : List Str) (sub : Str → Str → Bool) (mb : MS) (cls : List Cl) : MS := fun η S D => mb η S { D with ex := fun e η S => handM es sub cls e η S D }
def noW : WX := fun _ _ _ _ => True
/-- a clause's reading and its mirror -/
inductive RfCl (K : PySem.W.Frag) (κ : Str → Addr) : List Clause → List Cl → Prop
  | nil : RfCl K κ [] []
  | cons {c : Str} {i : Option Nat} {ts : Addr → Value → Option Addr → TS} {ms : Addr → Option Addr → Str → MS} {r : List Clause} {s : List Cl} (h : ∀ a cls d cn, cls = .ref (κ cn) → RfS K κ noW (ts a cls d) (ms a d cn)) (t : RfCl K κ r s) : RfCl K κ ((.ref (κ c), i, ts) :: r) (⟨c, i, ms⟩ :: s)
/-- what is known of the classes of errors -/
def SubOk (K : PySem.W.Frag) (κ : Str → Addr) (es : List Str) (sub : Str → Str → Bool) : Prop := ∀ r ∈ es, ∀ c ∈ es, PySem.W.exmOne K (.ref (κ r)) (.ref (κ c)) = some (sub r c)
theorem EndsR.noW {D : MEnds} {Dh : Ends} (k : EndsR K κ W w D Dh) : EndsR K κ Mi.noW w D Dh := ⟨k.nx, k.rt, k.bk, k.ct, fun _ _ _ _ _ _ _ _ _ _ _ => trivial⟩
theorem hand_ok {es : List Str} {sub : Str → Str → Bool} (so : SubOk K κ es sub) {l : List Clause} {cls : List Cl} (h : RfCl K κ l cls) (hc : ∀ cl ∈ cls, cl.c ∈ es) {D : MEnds} {Dh : Ends} (k : EndsR K κ W w0 D Dh) :
    ∀ w' η' σ' e c dd, Good K κ w' → Mi.St w0 w' → EnvR K κ w' η' σ' → ExR K κ w' e c dd → handM es sub cls e η' w'.S D → wAsM K W Dh l c dd σ' w'.H := by
  induction h with
  | nil => exact k.ex
  | @cons c i ts ms r s h t ih =>
    intro w' η' σ' e cv dd g' s' e' hx hm
    obtain ⟨me, hm⟩ := hm
    have mc := hc _ (List.mem_cons_self ..)
    have em := so e.1 me c mc
    have ds : e.2.isSome = true → dd.isSome = true := fun z => by
      cases q : e.2 with
      | none => rw [q] at z; cases z
      | some fs => obtain ⟨d2, _, q1, _⟩ := hx.2.2 fs q; rw [q1]; rfl
    have hcv := hx.1
    rw [← hcv] at em
    have ih := ih fun cl hcl => hc cl (List.mem_cons_of_mem _ hcl)
    cases i with
    | none =>
      refine ⟨_, em, fun hb a _ => ?_, fun hb => ?_⟩
      · rw [if_pos hb] at hm
        exact (h a cv dd e.1 hcv).go w' η' σ' D Dh g' e' (hm a dd ds) (k.st s').noW
      · rw [if_neg (by rw [hb]; exact Bool.false_ne_true)] at hm
        exact ih w' η' σ' e cv dd g' s' e' hx hm
    | some i =>
      refine ⟨_, em, fun hb a _ => ?_, fun hb => ?_⟩
      · rw [if_pos hb] at hm
        have hr : RX K κ w' (.exc a dd e.1 (e.2.getD [])) (.ref a) := ⟨rfl, fun d hd => by
          cases q : e.2 with
          | none => have := hx.2.1 q; rw [hd] at this; cases this
          | some fs =>
            obtain ⟨d2, us, q1, q2, q3⟩ := hx.2.2 fs q
            rw [hd] at q1
            cases q1
            exact ⟨us, q2, q3⟩⟩
        have k' := (k.st s').noW
        refine (h a cv dd e.1 hcv).go w' _ _ (goneM D i) (Ends.gone Dh i) g' (e'.put hr rfl) (hm a dd ds) ⟨fun w2 η2 σ2 g2 s2 e2 h2 => k'.nx w2 _ _ g2 s2 e2.forget h2, k'.rt, fun w2 η2 σ2 g2 s2 e2 h2 => k'.bk w2 _ _ g2 s2 e2.forget h2, fun w2 η2 σ2 g2 s2 e2 h2 => k'.ct w2 _ _ g2 s2 e2.forget h2, fun _ _ _ _ _ _ _ _ _ _ _ => trivial⟩
      · rw [if_neg (by rw [hb]; exact Bool.false_ne_true)] at hm
        exact ih w' η' σ' e cv dd g' s' e' hx hm
theorem rf_try {es : List Str} {sub : Str → Str → Bool} {tb : WX → TS} {mb : MS} {l : List Clause} {cls : List Cl} (so : SubOk K κ es sub) (hc : ∀ cl ∈ cls, cl.c ∈ es) (hb : ∀ W, RfS K κ W (tb W) mb) (h : RfCl K κ l cls) :
    RfS K κ W (fun D σ H => tb (wAsM K W D l) D σ H) (mTry es sub mb cls) :=
  ⟨fun w η σ D Dh g e hm k => (hb (wAsM K W Dh l)).go w η σ _ _ g e hm ⟨k.nx, k.rt, k.bk, k.ct, hand_ok so h hc k⟩⟩
/-- e.f of a caught error -/
def mXf (a : Addr) (d : Option Addr) (cn c : Str) (f : Str) (m : ME) : ME := fun η S q x => m η S (fun z S1 => match z with
  | .exc a' d' c' fs => a' = a ∧ d' = d ∧ c' = c ∧ cn = c ∧ d'.isSome = true ∧ ∃ v, fs.lookup f = some v ∧ q v S1
  | _ => False) x
theorem rf_xf {a : Addr} {cls : Value} {d : Option Addr} {cn c f : Str} {C : Addr} (hC : κ c = C) (hcl : cls = .ref (κ cn)) (h : RfE K κ W te me) : RfE K κ W (tXf a cls d C f te) (mXf a d cn c f me) :=
  ⟨fun w η σ q x Q g e hm hx k => h.go w η σ _ x _ g e hm hx fun w1 z v g1 gr1 rx hq => by
    split at hq
    · rename_i a' d' c' fs
      obtain ⟨rfl, rfl, rfl, rfl, sm, u, l, hq⟩ := hq
      obtain ⟨rfl, hd⟩ := (rx : Rep K κ w1 (.exc a' d' cn fs) v)
      cases d' with
      | none => cases sm
      | some dd =>
        obtain ⟨us, h1, h2⟩ := hd dd rfl
        obtain ⟨u', l', r⟩ := h2.look l
        exact ⟨rfl, by rw [hcl, hC], dd, us, u', rfl, h1.2, l', (k.gr gr1).same g1 (.of_rep r) hq⟩
    · exact hq.elim⟩
end
end Mi
/-! Mirrors: what the printed texts lean on; list.index; a thing let go -/
namespace Mi
open PySem L2 Aq Evl
theorem mem_cons_all {α : Type} {P : α → Prop} {x : α} {xs : List α} (h : P x) (t : ∀ y ∈ xs, P y) : ∀ y ∈ x :: xs, P y := fun y hy => by
  rcases List.mem_cons.mp hy with rfl | hy
  · exact h
  · exact t y hy
def kinds : List String := ["int", "bool", "NoneType", "str", "list", "tuple", "dict"]
def kbb (t u : Ty) : Bool := match t, u with
  | .b s, .b n => decide (s ∈ kinds) && decide (n ∈ kinds)
  | _, _ => false
theorem kbb_all : (kinds.all fun s => kinds.all fun n => decide (kitB s n = some (subT (.b s) (.b n)))) = true := by decide +kernel
section
variable {K : PySem.W.Frag} {κ : Str → Addr} {w w' w1 : Wd} {η : Nv} {σ : L2.St} {W : WX} {te to : TE} {me mo : ME} {t : TS} {m : MS}
theorem kit_mk {l : List (Ty × Ty)} (h1 : ∀ p ∈ l, PySem.W.kitOne K (p.1.v κ) (p.2.v κ) = some (subT p.1 p.2)) (h2 : ∀ p ∈ l, ∀ c, p.1 = .o c → IsiF K (κ c)) : Kit K κ (fun t u => kbb t u || decide ((t, u) ∈ l)) := by
  refine ⟨fun t u h => ?_, fun c u h => ?_⟩
  · rcases Bool.or_eq_true _ _ ▸ h with h | h
    · cases t with
      | o c => cases h
      | b s =>
        cases u with
        | o c => cases h
        | b n =>
          obtain ⟨hs, hn⟩ := Bool.and_eq_true_iff.mp h
          have := List.all_eq_true.mp (List.all_eq_true.mp kbb_all s (of_decide_eq_true hs)) n (of_decide_eq_true hn)
          exact kit_ty (of_decide_eq_true this)
    · exact h1 _ (of_decide_eq_true h)
  · rcases Bool.or_eq_true _ _ ▸ h with h | h
    · cases h
    · exact h2 _ (of_decide_eq_true h) c rfl
/-- a thing that slot i holds is let go (nothing is done) -/
def mFz (i : Nat) (m : MS) : MS := fun η S D => match η[i]? with
  | some (some (.own _ c)) => c.box = true ∧ m (η.set i (some c)) S D
  | _ => m η S D
theorem rf_fz {i : Nat} (h : RfS K κ W t m) : RfS K κ W t (mFz i m) := by
  refine ⟨fun w η σ D Dh g e hm k => ?_⟩
  unfold mFz at hm
  split at hm
  · rename_i tg c hi
    obtain ⟨hb, hm⟩ := hm
    obtain ⟨p, hs, m, V⟩ := e.own_at hi
    have sub : ∀ a, a ∈ w.F.filter (fun a => decide (a ≠ p)) → a ∈ w.F ∧ a ≠ p := fun a z => by simpa using List.mem_filter.mp z
    have nl : ∀ a, ¬ w.Lv a → ¬ ({ w with F := w.F.filter fun a => decide (a ≠ p) } : Wd).Lv a := fun a n q => by
      rcases q with q | q | q
      · exact n (.inl q)
      · exact n (.inr (.inl (sub a q).1))
      · exact n (.inr (.inr q))
    have st : Stay w { w with F := w.F.filter fun a => decide (a ≠ p) } := ⟨fun _ _ z => z, fun a o z n => ⟨z, nl a n⟩⟩
    have g2 : Good K κ { w with F := w.F.filter fun a => decide (a ≠ p) } := ⟨g.len, g.nd, fun a z => ⟨fun q => (g.df a z).1 (sub a q).1, (g.df a z).2⟩, fun a z => g.dfo a (sub a z).1, fun a z => g.al a (by
      rcases z with q | q | q
      · exact .inl q
      · exact .inr (.inl (sub a q).1)
      · exact .inr (.inr q)), fun k a d z z2 => View.stay st rfl (g.cel k a d z z2)⟩
    have np : ¬ ({ w with F := w.F.filter fun a => decide (a ≠ p) } : Wd).Lv p := fun q => by
      rcases q with q | q | q
      · exact (g.df p q).1 m
      · exact (sub p q).2 rfl
      · exact g.dfo p m q
    have hil : i < η.length := (List.getElem?_eq_some_iff.mp hi).1
    have V' := View.stay (w' := { w with F := w.F.filter fun a => decide (a ≠ p) }) st rfl V
    have rp : Rep K κ { w with F := w.F.filter fun a => decide (a ≠ p) } c (.ref p) := by
      cases c with
      | lst ds => obtain ⟨vs, h1, h2⟩ := V'; exact ⟨p, vs, rfl, ⟨np, h1⟩, h2⟩
      | dic ds => obtain ⟨vs, h1, h2⟩ := V'; exact ⟨p, vs, rfl, ⟨np, h1⟩, h2⟩
      | obj c fs => obtain ⟨dx, us, h1, h2⟩ := V'; exact ⟨p, dx, us, rfl, ⟨np, h1⟩, h2⟩
      | _ => cases hb
    have nown : c.nown = true := by cases c <;> first | rfl | cases hb
    have get : ∀ {j : Nat} {z : Mi.D}, (η.set i (some c))[j]? = some (some z) → (j = i ∧ z = c) ∨ (j ≠ i ∧ η[j]? = some (some z)) := fun {j z} h => by
      by_cases q : i = j
      · subst q; rw [List.getElem?_set_self hil] at h; cases h; exact .inl ⟨rfl, rfl⟩
      · rw [List.getElem?_set_ne q] at h; exact .inr ⟨fun z => q z.symm, h⟩
    have env : EnvR K κ { w with F := w.F.filter fun a => decide (a ≠ p) } (η.set i (some c)) σ := by
      refine ⟨by simp [e.len], fun j z h => ?_, fun j k s u x y a h1 h2 h3 h4 => ?_⟩
      · rcases get h with ⟨rfl, rfl⟩ | ⟨n, h⟩
        · exact ⟨_, hs, .of_rep rp⟩
        · obtain ⟨v, h1, r⟩ := e.at_ j z h
          refine ⟨v, h1, ?_⟩
          cases z with
          | own t2 z =>
            obtain ⟨a, rfl, ma, Va⟩ := r
            have ne : a ≠ p := fun x => n (e.dis j i _ _ _ _ p h hi (by rw [← x]; exact h1) hs)
            exact ⟨a, rfl, ⟨List.mem_filter.mpr ⟨ma.1, by simpa using ne⟩, ma.2⟩, Va.stay st rfl⟩
          | bor z => obtain ⟨a, rfl, ma, Va⟩ := r; exact ⟨a, rfl, ma, Va.stay st rfl⟩
          | _ => exact Rep.stay st _ _ r
      · have own : ∀ {j : Nat} {s : Option Addr} {x : Mi.D}, (η.set i (some c))[j]? = some (some (.own s x)) → η[j]? = some (some (.own s x)) := fun {j s x} q => by
          rcases get q with ⟨_, q⟩ | ⟨_, q⟩
          · rw [← q] at nown; cases nown
          · exact q
        exact e.dis j k s u x y a (own h1) (own h2) h3 h4
    exact h.go { w with F := w.F.filter fun a => decide (a ≠ p) } _ σ D Dh g2 env hm (EndsR.st (w := w) (w1 := { w with F := w.F.filter fun a => decide (a ≠ p) }) ⟨rfl, st, fun _ _ => rfl⟩ k)
  · exact h.go w η σ D Dh g e hm k
/-- xs.index(e) -/
def mLstIx (mo me : ME) : ME := fun η S q x => mo η S (fun d S1 => (match pk S1 d with
  | .lst _ => True
  | _ => False) ∧ me η S1 (fun e S2 => match pk S2 d, pk S2 e with
    | .lst xs, .str z => ∃ ys j, strsD xs = some ys ∧ ys[j]? = some z ∧ (∀ m, m < j → ys[m]? ≠ some z) ∧ q (.int (j : Nat)) S2
    | _, _ => False) x) x
theorem mt_indexA {X : Cx} (hK : X.K = K := by rfl) : MtR X "list.index" (rIndex K) := hK ▸ mt_index
theorem rf_lstIx (ho : RfE K κ W to mo) (he : RfE K κ W te me) : RfE K κ W (tBM K "list" (rIndex K) to (tCons te tNil)) (mLstIx mo me) :=
  ⟨fun w η σ q x Q g e hm hx k => ho.go w η σ _ x _ g e hm hx fun w1 d v g1 gr1 rx ⟨hl, hm1⟩ => by
    split at hl
    · rename_i ds e1
      have rx' := rx
      obtain ⟨a, us, rfl, h1, l⟩ := lst_of g1 rx e1
      refine ⟨tyL h1, he.go w1 η σ _ x _ g1 (e.gr g gr1) hm1 (hx.gr gr1) fun w2 d2 v2 g2 gr2 rx2 hq => ?_⟩
      split at hq
      · rename_i xs z e2 e3
        obtain ⟨ys, j, h2, h3, h4, h5⟩ := hq
        obtain ⟨a', us', ea, h6, l6⟩ := lst_of g2 (rx'.gr g1 gr2) e2
        cases ea
        rw [str_of g2 rx2 e3]
        have := strs_of l6 h2
        subst this
        refine ⟨a, ys.map V.str, .str z, j, .str z, rfl, rfl, .inl (.inl h6), rfl, ?_, by rw [List.getElem?_map, h3]; rfl, by simp [eqV], fun m z' hm hz => ?_, (k.gr (gr1.trans gr2)).same g2 (d := .int _) rfl h5⟩
        · rw [List.all_map]; exact List.all_eq_true.mpr fun _ _ => rfl
        · rw [List.getElem?_map] at hz
          cases q : ys[m]? with
          | none => rw [q] at hz; cases hz
          | some y =>
            rw [q] at hz
            cases hz
            have ne : y ≠ z := fun e => h4 m hm (by rw [q, e])
            show (y == z) = false
            exact beq_eq_false_iff_ne.mpr ne
      · exact hq.elim
    · exact hl.elim⟩
/-! several names at once, some of them given new things -/
theorem EnvR.re {η' : Nv} {σ' : L2.St} (e : EnvR K κ w η σ) (f : Nat → Nat) (h : ∀ (k : Nat) (d : Mi.D), η'[k]? = some (some d) → η[f k]? = some (some d) ∧ σ'[k]? = σ[f k]?) (inj : ∀ k l, k < η'.length → l < η'.length → f k = f l → k = l) (hl : η'.length = σ'.length) : EnvR K κ w η' σ' := by
  refine ⟨hl, fun i d q => ?_, fun i j s t d z a h1 h2 h3 h4 => ?_⟩
  · obtain ⟨q1, q2⟩ := h i d q
    rw [q2]
    exact e.at_ _ _ q1
  · obtain ⟨q1, q2⟩ := h i _ h1
    obtain ⟨q3, q4⟩ := h j _ h2
    rw [q2] at h3
    rw [q4] at h4
    exact inj i j (List.getElem?_eq_some_iff.mp h1).1 (List.getElem?_eq_some_iff.mp h2).1 (e.dis _ _ s t d z a q1 q3 h3 h4)
theorem EnvR.pre {es : Nv} {us : L2.St} (e : EnvR K κ w (η ++ es) (σ ++ us)) (hl : η.length = σ.length) : EnvR K κ w η σ :=
  e.re id (fun k d h => by
    have hk := (List.getElem?_eq_some_iff.mp h).1
    show (η ++ es)[k]? = _ ∧ σ[k]? = (σ ++ us)[k]?
    rw [List.getElem?_append_left hk, List.getElem?_append_left (by rw [← hl]; exact hk)]
    exact ⟨h, rfl⟩) (fun _ _ _ _ h => h) hl
theorem snoc_get {α : Type} {l : List α} {x y : α} {i : Nat} (h : (l ++ [x])[i]? = some y) : (i = l.length ∧ y = x) ∨ (i < l.length ∧ l[i]? = some y) := by
  by_cases hi : i < l.length
  · rw [List.getElem?_append_left hi] at h; exact .inr ⟨hi, h⟩
  · rw [List.getElem?_append_right (by omega)] at h
    have e : i - l.length = 0 := by
      cases q : i - l.length with
      | zero => rfl
      | succ n => rw [q] at h; simp at h
    rw [e] at h
    simp at h
    exact .inl ⟨by omega, h.symm⟩
theorem EnvR.snoc {d : Mi.D} {v : V} (e : EnvR K κ w η σ) (r : RX K κ w d v) (n : d.nown = true) : EnvR K κ w (η ++ [some d]) (σ ++ [some v]) := by
  refine ⟨by simp [e.len], fun i z q => ?_, fun i j s t x y a h1 h2 h3 h4 => ?_⟩
  · rcases snoc_get q with ⟨rfl, q'⟩ | ⟨hi, q⟩
    · cases q'; exact ⟨v, by rw [List.getElem?_append_right (by rw [e.len]; exact Nat.le_refl _), e.len]; simp, r⟩
    · obtain ⟨u, h1, h2⟩ := e.at_ i z q
      exact ⟨u, by rw [List.getElem?_append_left (by rw [← e.len]; exact hi)]; exact h1, h2⟩
  · rcases snoc_get h1 with ⟨_, q⟩ | ⟨hi, q1⟩
    · cases q; cases n
    · rcases snoc_get h2 with ⟨_, q⟩ | ⟨hj, q2⟩
      · cases q; cases n
      · rw [List.getElem?_append_left (by rw [← e.len]; exact hi)] at h3
        rw [List.getElem?_append_left (by rw [← e.len]; exact hj)] at h4
        exact e.dis i j s t x y a q1 q2 h3 h4
theorem EnvR.snocN {d : Mi.D} {p : Addr} (g : Good K κ w) (x : GrN w w' p) (e : EnvR K κ w η σ) (V : View K κ w' d p) : EnvR K κ w' (η ++ [some (.own none d)]) (σ ++ [some (.ref p)]) := by
  have e0 : EnvR K κ w (η ++ [none]) (σ ++ [none]) := by
    refine ⟨by simp [e.len], fun i z q => ?_, fun i j s t x y a h1 h2 h3 h4 => ?_⟩
    · rcases snoc_get q with ⟨_, q⟩ | ⟨hi, q⟩
      · cases q
      · obtain ⟨u, h1, h2⟩ := e.at_ i z q
        exact ⟨u, by rw [List.getElem?_append_left (by rw [← e.len]; exact hi)]; exact h1, h2⟩
    · rcases snoc_get h1 with ⟨_, q⟩ | ⟨hi, q1⟩
      · cases q
      · rcases snoc_get h2 with ⟨_, q⟩ | ⟨hj, q2⟩
        · cases q
        · rw [List.getElem?_append_left (by rw [← e.len]; exact hi)] at h3
          rw [List.getElem?_append_left (by rw [← e.len]; exact hj)] at h4
          exact e.dis i j s t x y a q1 q2 h3 h4
  have := e0.putN (i := η.length) g x V
  have a1 : (η ++ [none]).set η.length (some (.own none d)) = η ++ [some (.own none d)] := by
    rw [List.set_append_right _ _ (Nat.le_refl _)]; simp
  have a2 : (σ ++ [none]).set η.length (some (L2.V.ref p)) = σ ++ [some (L2.V.ref p)] := by
    rw [e.len, List.set_append_right _ _ (Nat.le_refl _)]; simp
  rw [a1, a2] at this
  exact this
/-- what leaves, at statements -/
def HXs (K : PySem.W.Frag) (κ : Str → Addr) (W : WX) (w : Wd) (η : Nv) (σ : L2.St) (x : XM) : Prop := ∀ w' e c dd, Good K κ w' → Mi.St w w' → EnvR K κ w' η σ → ExR K κ w' e c dd → x e w'.S → W c dd σ w'.H
theorem HXs.st {x : XM} (s : Mi.St w w') (h : HXs K κ W w η σ x) : HXs K κ W w' η σ x := fun w2 e c dd g s2 => h w2 e c dd g (s.trans s2)
theorem HXs.hx {x : XM} (g : Good K κ w) (e : EnvR K κ w η σ) (h : HXs K κ W w η σ x) : HX K κ W w σ x := fun w' y c dd g' gr hr hq => h w' y c dd g' (gr.st g) (e.gr g gr) hr hq
structure RfB (K : PySem.W.Frag) (κ : Str → Addr) (W : WX) (t : TA) (m : MA) : Prop where
  go : ∀ w η σ es us q x Q, Good K κ w → η.length = σ.length → EnvR K κ w (η ++ es) (σ ++ us) → m η w.S q x → HXs K κ W w η σ x →
    (∀ w' ds vs, Good K κ w' → Mi.St w w' → EnvR K κ w' (η ++ (es ++ ds.map some)) (σ ++ (us ++ vs.map some)) → q ds w'.S → Q vs w'.H) → t σ w.H Q
def mBnil : MA := fun _ S q _ => q [] S
def mBval (m : ME) (r : MA) : MA := fun η S q x => m η S (fun d S1 => d.nown = true ∧ r η S1 (fun ds S2 => q (d :: ds) S2) x) x
def mBnew (m : ME) (r : MA) : MA := fun η S q x => m η S (fun d S1 => r η S1 (fun ds S2 => q (.own none d :: ds) S2) x) x
theorem RfB.nil : RfB K κ W tNil mBnil := ⟨fun w η σ es us q x Q g hl e h hx k => k w [] [] g (.refl w) (by simpa using e) h⟩
variable {tl : TA} {ml : MA}
theorem RfB.val (h : RfE K κ W te me) (h2 : RfB K κ W tl ml) : RfB K κ W (tCons te tl) (mBval me ml) :=
  ⟨fun w η σ es us q x Q g hl e hm hx k => h.go w η σ _ x _ g (e.pre hl) hm (hx.hx g (e.pre hl)) fun w1 d v g1 gr1 rx ⟨n, hm1⟩ => by
    have e1 := (e.gr g gr1).snoc rx n
    rw [List.append_assoc, List.append_assoc] at e1
    refine h2.go w1 η σ (es ++ [some d]) (us ++ [some v]) _ x _ g1 hl e1 hm1 (hx.st (gr1.st g)) fun w2 ds vs g2 s2 e2 hq => k w2 (d :: ds) (v :: vs) g2 ((gr1.st g).trans s2) ?_ hq
    simpa using e2⟩
theorem RfB.new (h : RfN K κ W te me) (h2 : RfB K κ W tl ml) : RfB K κ W (tCons te tl) (mBnew me ml) :=
  ⟨fun w η σ es us q x Q g hl e hm hx k => h.go w η σ _ x _ g (e.pre hl) hm (hx.hx g (e.pre hl)) fun w1 d p g1 x1 _ V hm1 => by
    have e1 := e.snocN g x1 V
    rw [List.append_assoc, List.append_assoc] at e1
    refine h2.go w1 η σ (es ++ [some (.own none d)]) (us ++ [some (.ref p)]) _ x _ g1 hl e1 hm1 (hx.st (x1.st g)) fun w2 ds vs g2 s2 e2 hq => k w2 (.own none d :: ds) (.ref p :: vs) g2 ((x1.st g).trans s2) ?_ hq
    simpa using e2⟩
def mParB (i j : Nat) (m : MA) : MS := fun η S D => m η S (fun ds S1 => match ds with
  | [a, b] => i ≠ j ∧ D.nx ((η.set i (some a)).set j (some b)) S1
  | _ => False) (fun x S => D.ex x η S)
def mParB3 (i j l : Nat) (m : MA) : MS := fun η S D => m η S (fun ds S1 => match ds with
  | [a, b, c] => (i ≠ j ∧ i ≠ l ∧ j ≠ l) ∧ D.nx (((η.set i (some a)).set j (some b)).set l (some c)) S1
  | _ => False) (fun x S => D.ex x η S)
theorem hxs_of {D : MEnds} {Dh : Ends} (k : EndsR K κ W w D Dh) : HXs K κ W w η σ (fun x S => D.ex x η S) := fun w' x c dd g' s e hr hq => k.ex w' η σ x c dd g' s e hr hq
theorem set_get {α : Type} {l : List α} {i k : Nat} {x y : α} (h : (l.set i x)[k]? = some y) : (k = i ∧ y = x) ∨ (k ≠ i ∧ l[k]? = some y) := by
  by_cases q : i = k
  · subst q
    rw [List.getElem?_set] at h
    by_cases hl : i < l.length
    · rw [if_pos rfl, if_pos hl] at h; cases h; exact .inl ⟨rfl, rfl⟩
    · rw [if_pos rfl, if_neg hl] at h; cases h
  · rw [List.getElem?_set_ne q] at h; exact .inr ⟨fun z => q z.symm, h⟩
theorem rf_parB {i j : Nat} {ta : TA} {ma : MA} (h : RfB K κ W ta ma) : RfS K κ W (tPar i j ta) (mParB i j ma) :=
  ⟨fun w η σ D Dh g e hm k => h.go w η σ [] [] _ _ _ g e.len (by simpa using e) hm (hxs_of k) fun w1 ds vs g1 s1 e1 h1 => by
    split at h1
    · rename_i a b
      have hv : vs.length = 2 := by
        have := e1.len
        simp [e.len] at this
        exact this.symm
      match vs, hv with
      | [u, v], _ =>
      refine ⟨u, v, rfl, k.nx w1 _ _ g1 s1 ?_ h1.2⟩
      have hl := e.len
      refine e1.re (fun k => if k = j then η.length + 1 else if k = i then η.length else k) (fun k d q => ?_) (fun k l hk hl' q => ?_) (by simp [hl])
      · have hk : k < η.length := by have := (List.getElem?_eq_some_iff.mp q).1; simpa using this
        rcases set_get q with ⟨rfl, q'⟩ | ⟨n, q⟩
        · cases q'
          refine ⟨by simp, ?_⟩
          rw [List.getElem?_set_self (by simp; omega)]
          simp [hl]
        · rcases set_get q with ⟨rfl, q'⟩ | ⟨n2, q⟩
          · cases q'
            refine ⟨by simp [n], ?_⟩
            rw [List.getElem?_set_ne (Ne.symm n), List.getElem?_set_self (by omega)]
            simp [n, hl]
          · simp only [n, n2, if_false]
            rw [List.getElem?_set_ne (Ne.symm n), List.getElem?_set_ne (Ne.symm n2), List.getElem?_append_left hk, List.getElem?_append_left (by omega)]
            exact ⟨q, rfl⟩
      · simp at hk hl'
        have hij := h1.1
        split at q <;> split at q <;> (try split at q) <;> (try split at q) <;> omega
    · exact h1.elim⟩
theorem rf_parB3 {i j l : Nat} {ta : TA} {ma : MA} (h : RfB K κ W ta ma) : RfS K κ W (tPar3 i j l ta) (mParB3 i j l ma) :=
  ⟨fun w η σ D Dh g e hm k => h.go w η σ [] [] _ _ _ g e.len (by simpa using e) hm (hxs_of k) fun w1 ds vs g1 s1 e1 h1 => by
    split at h1
    · rename_i a b c
      have hv : vs.length = 3 := by
        have := e1.len
        simp [e.len] at this
        exact this.symm
      match vs, hv with
      | [u, v, z], _ =>
      refine ⟨u, v, z, rfl, k.nx w1 _ _ g1 s1 ?_ h1.2⟩
      have hl := e.len
      obtain ⟨⟨hij, hil, hjl⟩, _⟩ := h1
      refine e1.re (fun k => if k = l then η.length + 2 else if k = j then η.length + 1 else if k = i then η.length else k) (fun k d q => ?_) (fun k m hk hl' q => ?_) (by simp [hl])
      · have hk : k < η.length := by have := (List.getElem?_eq_some_iff.mp q).1; simpa using this
        rcases set_get q with ⟨rfl, q'⟩ | ⟨n, q⟩
        · cases q'
          refine ⟨by simp, ?_⟩
          rw [List.getElem?_set_self (by simp; omega)]
          simp [hl]
        · rcases set_get q with ⟨rfl, q'⟩ | ⟨n2, q⟩
          · cases q'
            refine ⟨by simp [n], ?_⟩
            rw [List.getElem?_set_ne (Ne.symm n), List.getElem?_set_self (by simp; omega)]
            simp [n, hl]
          · rcases set_get q with ⟨rfl, q'⟩ | ⟨n3, q⟩
            · cases q'
              refine ⟨by simp [n, n2], ?_⟩
              rw [List.getElem?_set_ne (Ne.symm n), List.getElem?_set_ne (Ne.symm n2), List.getElem?_set_self (by omega)]
              simp [n, n2, hl]
            · simp only [n, n2, n3, if_false]
              rw [List.getElem?_set_ne (Ne.symm n), List.getElem?_set_ne (Ne.symm n2), List.getElem?_set_ne (Ne.symm n3), List.getElem?_append_left hk, List.getElem?_append_left (by omega)]
              exact ⟨q, rfl⟩
      · simp at hk hl'
        repeat' (split at q)
        all_goals omega
    · exact h1.elim⟩
end
end Mi
/-! Mirrors of the pen, of a draw -/
namespace Mi
open PySem L2 Aq Evl
def fPen : MF := fun ds S q _ => ds = [.scr] ∧ q (.cel S.length) (S ++ [.pen 0])
def fDraw : MF := fun ds S q _ => ∃ k m B, ds = [.cel k, .int m] ∧ S[k]? = some (.pen B) ∧ B < 1000000000 ∧ 0 < m ∧ m ≤ 1000000000 ∧ ∀ r, 0 ≤ r → r < m → q (.int r) (S.set k (.pen (B + 1)))
section
variable {K : PySem.W.Frag} {κ : Str → Addr} {w w' w1 : Wd} {vs : List V} {H : Hp} {Q : VK} {E : XK}
theorem imp_pen (h : spM K κ 1 fPen vs H Q E) : ∃ (s : Addr) (ns : List Int), vs = [.ref s] ∧ SqL K H s (ns.map V.int) ∧ ∀ pd c H', H pd = none → H c = none → Pen "cells" "begun" "left" H' pd c 0 → Ex H H' → Q (.ref pd) H' := by
  obtain ⟨_, w, ds, q, x, rfl, g, hF, pr, ⟨rfl, hq⟩, k, _⟩ := h
  obtain ⟨v, rfl, rx⟩ := prd1 pr
  obtain ⟨s, ns, rfl, hs⟩ := (rx : Rep K κ w .scr v)
  refine ⟨s, ns, rfl, ?_, fun pd c H' hpd hc pen ex => ?_⟩
  · rcases hs with ⟨_, o, h⟩ | h
    · exact .inl (.inr ⟨o, h⟩)
    · exact h _
  · have npr : pd ∉ w.ρ := fun z => g.al pd (.inl z) hpd
    have npF : pd ∉ w.F := fun z => g.al pd (.inr (.inl z)) hpd
    have npO : pd ∉ w.O := fun z => g.al pd (.inr (.inr z)) hpd
    have ncl : ¬ w.Lv c := fun z => g.al c z hc
    obtain ⟨ns2, i, j, h1, h2, h3⟩ := pen
    have ncp : c ≠ pd := ne_of h2 h1 (by intro z; cases z)
    have gr : Gr w { w with H := H', S := w.S ++ [.pen 0], ρ := w.ρ ++ [pd] } := ⟨rfl, rfl, fun k a z => by
      show (w.ρ ++ [pd])[k]? = some a
      rw [List.getElem?_append_left (List.getElem?_eq_some_iff.mp z).1]; exact z, fun a z => by
      rcases List.mem_append.mp z with z | z
      · exact .inl z
      · rw [List.mem_singleton] at z; rw [z]; exact .inr hpd, fun a o z _ => ex a o z⟩
    have keep : ∀ a, w.Lv a → H' a = w.H a := fun a z => by
      cases q : w.H a with
      | none => exact absurd q (g.al a z)
      | some o => exact ex a o q
    have g2 : Good K κ { w with H := H', S := w.S ++ [.pen 0], ρ := w.ρ ++ [pd] } := by
      refine ⟨by simp [g.len], ?_, fun a z => ?_, g.dfo, fun a z => ?_, fun k a d z z2 => ?_⟩
      · rw [List.nodup_append]
        refine ⟨g.nd, by simp, fun a ha b hb => ?_⟩
        rw [List.mem_singleton] at hb
        rw [hb]
        exact fun e => npr (e ▸ ha)
      · rcases List.mem_append.mp z with z | z
        · exact g.df a z
        · rw [List.mem_singleton] at z; rw [z]; exact ⟨npF, npO⟩
      · show H' a ≠ none
        rcases z with z | z | z
        · rcases List.mem_append.mp z with z | z
          · rw [keep a (.inl z)]; exact g.al a (.inl z)
          · rw [List.mem_singleton] at z; rw [z, h1]; exact nofun
        · rw [keep a (.inr (.inl z))]; exact g.al a (.inr (.inl z))
        · rw [keep a (.inr (.inr z))]; exact g.al a (.inr (.inr z))
      · by_cases hk : k < w.ρ.length
        · have z' : w.ρ[k]? = some a := by
            have z : (w.ρ ++ [pd])[k]? = some a := z
            rwa [List.getElem?_append_left hk] at z
          have z2' : w.S[k]? = some d := by
            have z2 : (w.S ++ [.pen 0])[k]? = some d := z2
            rwa [List.getElem?_append_left (by rw [g.len]; exact hk)] at z2
          exact View.stay gr.stay (keep a (.inl (List.mem_of_getElem? z'))) (g.cel k a d z' z2')
        · have z : (w.ρ ++ [pd])[k]? = some a := z
          have z2 : (w.S ++ [.pen 0])[k]? = some d := z2
          rw [List.getElem?_append_right (by omega)] at z
          rw [List.getElem?_append_right (by rw [g.len]; omega)] at z2
          have e0 : k - w.ρ.length = 0 := by
            cases q : k - w.ρ.length with
            | zero => rfl
            | succ n => rw [q] at z; simp at z
          rw [e0] at z
          rw [g.len, e0] at z2
          simp at z z2
          subst z
          subst z2
          refine ⟨c, ⟨ns2, i, j, h1, h2, h3⟩, fun q => ?_⟩
          rcases q with q | q | q
          · rcases List.mem_append.mp q with q | q
            · exact ncl (.inl q)
            · rw [List.mem_singleton] at q; exact ncp q
          · exact ncl (.inr (.inl q))
          · exact ncl (.inr (.inr q))
    refine k { w with H := H', S := w.S ++ [.pen 0], ρ := w.ρ ++ [pd] } (.cel w.S.length) _ g2 gr ⟨pd, rfl, ?_⟩ hq
    show (w.ρ ++ [pd])[w.S.length]? = some pd
    rw [g.len, List.getElem?_append_right (Nat.le_refl _)]
    simp
/-- a cell that holds a pen is written -/
theorem pen_put {k : Nat} {pd c : Addr} {B : Nat} {H' : Hp} (g : Good K κ w) (h : w.ρ[k]? = some pd) (nc : ¬ w.Lv c) (pen : Pen "cells" "begun" "left" H' pd c B) (kx : Kx pd w.H H') : Good K κ { w with H := H', S := w.S.set k (.pen B) } ∧ Gr w { w with H := H', S := w.S.set k (.pen B) } := by
  have hm := List.mem_of_getElem? h
  have gr : Gr w { w with H := H', S := w.S.set k (.pen B) } := ⟨rfl, rfl, fun _ _ z => z, fun _ z => .inl z, fun a o z n => kx a o (fun e => n (by rw [e]; exact hm)) z⟩
  have keep : ∀ a, w.Lv a → a ≠ pd → H' a = w.H a := fun a z n => by
    cases q : w.H a with
    | none => exact absurd q (g.al a z)
    | some o => exact kx a o n q
  refine ⟨⟨by simp [g.len], g.nd, g.df, g.dfo, fun a z => ?_, fun j a d z z2 => ?_⟩, gr⟩
  · show H' a ≠ none
    by_cases e : a = pd
    · obtain ⟨_, _, _, h1, _⟩ := pen; rw [e, h1]; exact nofun
    · rw [keep a z e]; exact g.al a z
  · have z2 : (w.S.set k (.pen B))[j]? = some d := z2
    by_cases e : j = k
    · subst e
      rw [h] at z
      cases z
      have hl : j < w.S.length := by rw [g.len]; exact (List.getElem?_eq_some_iff.mp h).1
      rw [List.getElem?_set_self hl] at z2
      cases z2
      exact ⟨c, pen, nc⟩
    · rw [List.getElem?_set_ne (Ne.symm e)] at z2
      have ne : a ≠ pd := fun q => by
        subst q
        obtain ⟨h1, e1⟩ := List.getElem?_eq_some_iff.mp z
        obtain ⟨h2, e2⟩ := List.getElem?_eq_some_iff.mp h
        exact e ((List.getElem_inj g.nd).mp (e1.trans e2.symm))
      exact View.stay gr.stay (keep a (.inl (List.mem_of_getElem? z)) ne) (g.cel j a d z z2)
theorem imp_draw (h : spM K κ 2 fDraw vs H Q E) : spDraw "cells" "begun" "left" vs H Q E := by
  obtain ⟨_, w, ds, q, x, rfl, g, hF, pr, ⟨k, m, B, rfl, hS, hB, m0, m1, hq⟩, kx, _⟩ := h
  obtain ⟨v, u, rfl, rx, ry⟩ := prd2 pr
  obtain ⟨pd, rfl, hρ⟩ := (rx : Rep K κ w (.cel k) v)
  obtain rfl : u = .int m := ry
  obtain ⟨c, pen, nc⟩ := g.cel k pd _ hρ hS
  refine ⟨pd, c, B, m, rfl, pen, hB, m0, m1, fun r H' r0 r1 pen' kk => ?_⟩
  obtain ⟨g2, gr⟩ := pen_put g hρ nc pen' kk
  exact kx { w with H := H', S := w.S.set k (.pen (B + 1)) } (.int r) _ g2 gr rfl (hq r r0 r1)
end
end Mi
/-! Mirrors of properties, of classmethods, of a class called by a local name, of str(o), of == with any value -/
namespace Mi
open PySem L2 Aq Evl ClX
section
variable (P : Program) (w : World) (K : PySem.W.Frag) (mg : Str → Option Value) (base : Heap)
structure Prp (k : Nat) (C : Addr) (f : Str) (sp : Sp) : Prop where
  cl : Cls K C
  ex : ∃ (p g : Addr) (fd : FuncData) (ps : List Str), PropOf K C f p g ∧ FnOk P w K mg base CX0 k g fd ps sp ∧ Binds K fd ps []
structure PrpX (k : Nat) (C : Addr) (f : Str) (sp : Sp) : Prop where
  cl : Cls K C
  ex : ∃ (p g : Addr) (fd : FuncData) (ps : List Str), PropOf K C f p g ∧ FnOk P w K mg base (L2.CX P w) k g fd ps sp ∧ Binds K fd ps []
/-- a classmethod -/
structure CmX (k : Nat) (C : Addr) (m : Str) (sp : Sp) : Prop where
  ex : ∃ (mc : Value) (p g : Addr) (fd : FuncData) (ps : List Str), CRead K C mc ∧ CMet K C mc m p g ∧ FnOk P w K mg base (L2.CX P w) k g fd ps sp ∧ Binds K fd ps []
end
section
variable {X : Cx} {k j n : Nat} {C : Addr} {f m x : Str} {sp : Sp} {e o : Expr} {es : List Expr} {kws : List Keyword} {pos apos p : Pos} {ta : TE} {t tk : TA} {W : WX}
theorem pe_propC (c : Prp X.prog X.w X.K X.mg X.base k C f sp) (hr : Room j X.A) (he : PE X e ta) (hab : attributeBase e f X.env (eval e X.env) = eval e X.env) (hk : k + 1 ≤ j := by decide) : PE X (.Attribute e f pos) (tProp C sp [] E0 ta) := by
  obtain ⟨p, g, fd, ps, hp, F, b⟩ := c.ex
  exact pe_prop he c.cl hp F (hr.mono hk) b .nil pass0 hab
theorem pe_propX0 (c : PrpX X.prog X.w X.K X.mg X.base k C f sp) (hr : Room j X.A) (he : PE X e ta) (hab : attributeBase e f X.env (eval e X.env) = eval e X.env) (hk : k + 1 ≤ j := by decide) : PE X (.Attribute e f pos) (tProp C sp [] E0 ta) := by
  obtain ⟨p, g, fd, ps, hp, F, b⟩ := c.ex
  exact pe_prop he c.cl hp F (hr.mono hk) b .nil passX0 hab
theorem pass_of {E : XK} (tk : Takes X fun c d _ H => E c d H) : Passes (L2.CX X.prog X.w) X E := fun pins σ H s e s' I c => Aq.passAt (σ := σ) (W := fun c d _ H => E c d H) tk pins H s e s' I c
theorem fnr_of {P : Program} {w : World} {K : PySem.W.Frag} {mg : Str → Option Value} {base : Heap} {CX : CXT} {g : Addr} {fd : FuncData} {ps : List Str} (F : FnOk P w K mg base CX k g fd ps sp) (hb : Binds K fd ps []) : FnR P w K mg base CX k g sp := by
  have := F.raw hb (dvs := []) .nil
  intro A outer s H us vs Q E hr e0 r hs
  exact this A outer s H us vs Q E hr e0 r (by show sp (vs ++ []) H Q E; rw [List.append_nil]; exact hs)
theorem pe_cmX0 {pl : Sem Bool} (c : CmX X.prog X.w X.K X.mg X.base k C m sp) (hr : Room j X.A) (ho : PE X o ta) (ha : PA X (e :: es) t) (hk : k ≤ j := by decide)
    (hst : starEach (e :: es) X.env = (false, eval e X.env) :: starEach es X.env := by rfl) (hpl : (backTo pos (starEach es X.env)).any (·.1) = false := by rfl)
    (ht : eval (.Call (.Attribute o m apos) (e :: es) [] pos) X.env = (do
      let ov ← eval o X.env
      standAt apos.atName
      let (f, first) ← holding [ov] (getMethod ov m pl)
      callWith pos f first (backTo pos (starEach (e :: es) X.env)) (backToKw pos (keywordEach [] X.env))) := by rfl) : PE X (.Call (.Attribute o m apos) (e :: es) [] pos) (tCMeth C sp E0 ta t) := by
  obtain ⟨mc, p, g, fd, ps, r, cm, F, b⟩ := c.ex
  exact pe_cmeth (pl := pl) ho r cm (fnr_of F b) (hr.mono hk) passX0 ha hst hpl ht
/-! a class by a local name, with keywords -/
def tMakeNL (i : Nat) (C : Addr) (n m : Nat) (sp : Sp) (gV : List V → List V → List V) (E : XK) (t tk : TA) : TE := fun σ H Q => σ[i]? = some (some (.ref C)) ∧ tMakeN C n m sp gV E t tk σ H Q
theorem pe_makeNL {C : Addr} {ps ks : List Str} {gV : List V → List V → List V} {i n : Nat} {E : XK} (c : CtrN X.prog X.w X.K X.mg X.base k x C n ps ks gV sp) (hr : Room j X.A) (tkE : Takes X fun c d _ H => E c d H) {y : Str} (ha : PA X (e :: es) t) (hkw : PK X kws tk) (hN : X.N[i]? = some y := by rfl)
    (hv : Vis X.env.scope y := by first | exact Or.inl rfl | exact Or.inr (Or.inl rfl)) (hk : k + 1 ≤ j := by decide)
    (hall : (backToKw pos (keywordEach kws X.env)).all (·.1.isSome) = true := by rfl) (hks : (backToKw pos (keywordEach kws X.env)).filterMap (·.1) = ks := by rfl)
    (hdb : (y == ("__debug__" : Str)) = false := by decide) (hcd : (y == ("__classdict__" : Str)) = false := by decide) (he : starEach (e :: es) X.env = (false, eval e X.env) :: starEach es X.env := by rfl)
    (hpl : ((backTo pos (starEach (e :: es) X.env)).any (·.1) || (backToKw pos (keywordEach kws X.env)).any (·.1.isNone)) = false := by rfl) : PE X (.Call (.Name y p) (e :: es) kws pos) (tMakeNL i C n ks.length sp gV E t tk) := by
  obtain ⟨f, fd, g, M, F, hm, b⟩ := c.ex
  refine ⟨fun pins s σ H Q I ⟨hs, h⟩ => wpAny_Call_Name_kw (thn ((pe_var (pos := p) hN hv hdb hcd).run pins s σ H (fun v H1 => v = .ref C ∧ H1 = H) I ⟨.ref C, hs, rfl, rfl⟩) fun u s1 ⟨v, H1, I1, r1, q1⟩ => ?_)⟩
  obtain ⟨rfl, rfl⟩ := q1
  cases r1
  refine PySem.W.callWith_KW (h₀ := X.base) I.ok.mod.kin M.kp hall (thn (ha.run pos pins s1 σ _ _ I1 h) fun us s2 ⟨vs, H2, I2, r, q⟩ => ?_) hpl he
  refine thn (hkw.run pos pins s2 σ H2 _ I2 q) fun ws s3 ⟨zs, H3, I3, rz, l1, l2, q3⟩ => ⟨I3.kIn, ?_⟩
  rw [hks]
  exact run_makeN M F (hr.mono hk) b (pass_of tkE) I3 r rz l1 l2 q3
theorem pe_makeNXE {C : Addr} {ps ks : List Str} {gV : List V → List V → List V} {n : Nat} {E : XK} (c : CtrN X.prog X.w X.K X.mg X.base k x C n ps ks gV sp) (hr : Room j X.A) (tkE : Takes X fun c d _ H => E c d H) (ha : PA X (e :: es) t) (hkw : PK X kws tk) (hk : k + 1 ≤ j := by decide) (hg : Gl X x := by rfl)
    (hall : (backToKw pos (keywordEach kws X.env)).all (·.1.isSome) = true := by rfl) (hks : (backToKw pos (keywordEach kws X.env)).filterMap (·.1) = ks := by rfl)
    (hdb : (x == ("__debug__" : Str)) = false := by decide) (he : starEach (e :: es) X.env = (false, eval e X.env) :: starEach es X.env := by rfl)
    (hpl : ((backTo pos (starEach (e :: es) X.env)).any (·.1) || (backToKw pos (keywordEach kws X.env)).any (·.1.isNone)) = false := by rfl) : PE X (.Call (.Name x p) (e :: es) kws pos) (tMakeN C n ks.length sp gV E t tk) := by
  obtain ⟨f, fd, g, M, F, hm, b⟩ := c.ex
  exact pe_makeN M F (hr.mono hk) hg hm b (pass_of tkE) ha hkw hall hks hdb he hpl
end
/-! ### str(o) -/
section
variable {X : Cx} {k j : Nat} {C : Addr} {ps : List Str} {sp : Sp}
def rStrOwn (C : Addr) (sp : Sp) : List V → Hp → VK → Prop := fun xs H Q => ∃ a dx fs, xs = [.ref a] ∧ H a = some (.ins C dx fs) ∧ sp [.ref a] H (fun v H' => ∃ z, v = .str z ∧ Q (.str z) H') E0
theorem call_strOwn (c : Mth X.prog X.w X.K X.mg X.base k C "__str__" ps sp) (hr : Room j X.A) (hk : k + 2 ≤ j := by decide) : CallR X (.type "str") (rStrOwn C sp) := by
  intro pins s σ H xs us Q I r h
  obtain ⟨f, fd, M, F, b⟩ := c.ex
  obtain ⟨a, dx, fs, rfl, ha, h⟩ := h
  obtain ⟨u, rfl, ru⟩ := r.one
  cases ru
  obtain ⟨mA, J, _⟩ := ins_get I.hok ha
  obtain ⟨od, J, _⟩ := J.look
  have hr2 : Room (k + 2) X.A := hr.mono hk
  have e := I.env0
  have e0 : Env0 X.prog X.w X.K X.mg X.base X.A.in1.in1 X.stack s H := ⟨e.frames, e.mod, e.bs, e.bsz, e.funs, e.frf, e.hok, e.bare⟩
  have hl := F.len _ _ _ _ h
  have hb := b s [.ref a] I.kIn (by simpa using hl)
  rw [List.append_nil] at hb
  refine PySem.W.kso_call (show X.A.in1.in1.units < cLine from by have := hr2.in1.in1.un; omega) I.kIn J M.at_ M.fn (wpAny_call (codeAny_mono (F.run X.A.in1.in1 X.stack s H ⟨[.ref a], []⟩ [.ref a] [.ref a] _ E0 hr2.in1.in1 e0 hb (.cons rfl .nil) h) fun out s' hq => ?_))
  match out, hq with
  | .error e, hq => exact pass0 pins σ H s e s' I hq
  | .ok (.ret u), hq =>
    obtain ⟨x, H', I', rx, z, rfl, q⟩ := I.after hq
    obtain ⟨tk, rfl⟩ := rx
    exact ⟨.str z, H', I', ⟨_, rfl⟩, q⟩
  | .ok .next, hq => exact hq.elim
  | .ok .brk, hq => exact hq.elim
  | .ok .cont, hq => exact hq.elim
end
/-! ### their mirrors -/
section
variable {K : PySem.W.Frag} {κ : Str → Addr} {w w' w1 : Wd} {η : Nv} {σ : L2.St} {W : WX} {n : Nat} {f : MF} {t tk : TA} {ma mk : MA} {ta : TE} {mo : ME} {c : Str} {C : Addr}
def mProp (c : Str) (f : MF) (mo : ME) : ME := fun η S q x => mo η S (fun d S1 => match pk S1 d with
  | .obj c' _ => c' = c ∧ f [argD d] S1 (qv q) (fun _ _ => False)
  | _ => False) x
theorem rf_prop (hC : κ c = C) (ho : RfE K κ W ta mo) : RfE K κ W (tProp C (spM K κ 1 f) [] E0 ta) (mProp c f mo) :=
  ⟨fun w η σ q x Q g e hm hx k => ho.go w η σ _ x _ g e hm hx fun w1 d v g1 gr1 rx hm1 => by
    split at hm1
    · rename_i c' fs e1
      obtain ⟨rfl, hf⟩ := hm1
      have rx' := rx
      obtain ⟨a, dx, us, rfl, h1, h2⟩ := obj_of g1 rx e1
      exact ⟨a, dx, us, rfl, hC ▸ h1, sp_call (ds := [d]) g1 (.cons rx' .nil) rfl hf (k.gr gr1) (fun _ _ _ _ _ _ _ z => z.elim)⟩
    · exact hm1.elim⟩
/-- C.m(..): the class itself is the first argument -/
def mCm0 (c : Str) (n : Nat) (f : MF) (ma : MA) : ME := fun η S q x => ma η S (fun ds S1 => ds.length + 1 = n ∧ f (.cls c :: ds.map argD) S1 (qv q) (fun _ _ => False)) x
theorem rf_cm0 (hC : κ c = C) (h : RfA K κ W t ma) : RfE K κ W (tCMeth C (spM K κ n f) E0 (tC (.ref C)) t) (mCm0 c n f ma) :=
  ⟨fun w η σ q x Q g e hm hx k => ⟨rfl, h.go w η σ _ x _ g e hm hx fun w1 ds vs g1 gr1 pr ⟨hl, hf⟩ => by
    have rc : RX K κ w1 (.cls c) (.ref C) := by show V.ref C = .ref (κ c); rw [hC]
    exact sp_call (ds := .cls c :: ds) g1 (.cons rc pr) (by simpa using hl) hf (k.gr gr1) (fun _ _ _ _ _ _ _ z => z.elim)⟩⟩
/-- cls(.., k = v), cls the local name of a class -/
def mMakeNL (i : Nat) (c : Str) (n n0 m0 : Nat) (f : MF) (ma mk : MA) : ME := fun η S q x => η[i]? = some (some (.cls c)) ∧ mMakeN n n0 m0 f ma mk η S q x
theorem rf_makeNE {n0 m0 : Nat} {E : XK} (hC : κ c = C) (h : RfA K κ (fun c d _ H => E c d H) t ma) (h2 : RfA K κ (fun c d _ H => E c d H) tk mk) : RfE K κ (fun c d _ H => E c d H) (tMakeN C n0 m0 (spI K κ n c f) (fun vs zs => vs ++ zs) E t tk) (mMakeN n n0 m0 f ma mk) :=
  ⟨fun w η σ q x Q g e hm hx k => (rf_makeNW hC h h2).go w η σ q x Q g e hm hx k⟩
theorem rf_makeNL {i n0 m0 : Nat} {E : XK} (hC : κ c = C) (h : RfA K κ (fun c d _ H => E c d H) t ma) (h2 : RfA K κ (fun c d _ H => E c d H) tk mk) : RfE K κ (fun c d _ H => E c d H) (tMakeNL i C n0 m0 (spI K κ n c f) (fun vs zs => vs ++ zs) E t tk) (mMakeNL i c n n0 m0 f ma mk) :=
  ⟨fun w η σ q x Q g e ⟨hi, hm⟩ hx k => by
    obtain ⟨v, h1, r⟩ := e.at_ i _ hi
    have r : v = .ref (κ c) := r
    rw [r, hC] at h1
    exact ⟨h1, (rf_makeNE hC h h2).go w η σ q x Q g e hm hx k⟩⟩
def fStrOwn (c : Str) (f : MF) : FL := fun ds S q => match ds with
  | [d] => match pk S d with
    | .obj c1 _ => c1 = c ∧ f [argD d] S (qv fun z S1 => ∃ y, z = .str y ∧ q (.str y) S1) (fun _ _ => False)
    | _ => False
  | _ => False
theorem rfc_strOwn (hC : κ c = C) : RfC K κ (rStrOwn C (spM K κ 1 f)) (fStrOwn c f) := fun w ds vs q Q g hd h k => by
  unfold fStrOwn at h
  split at h
  · rename_i d
    obtain ⟨v, rfl, hv⟩ := prd1 hd
    split at h
    · rename_i c1 f1 e1
      obtain ⟨rfl, hf⟩ := h
      have hv' := hv
      obtain ⟨a, dx, us, rfl, h1, _⟩ := obj_of g hv e1
      refine ⟨a, dx, us, rfl, hC ▸ h1, sp_call (ds := [d]) g (.cons hv' .nil) rfl hf (fun w' z v g' gr r hq => ?_) (fun _ _ _ _ _ _ _ z => z.elim)⟩
      obtain ⟨y, rfl, hq⟩ := hq
      exact ⟨y, r, k w' (.str y) _ g' gr rfl hq⟩
    · exact h.elim
  · exact h.elim
end
end Mi
/-! Own == and != with a value of a built-in type -/
namespace Mi
open PySem L2 Aq Evl
def TyV (K : PySem.W.Frag) (H : Hp) (T : String) : V → Prop
  | .str _ => T = "str"
  | .int _ => T = "int"
  | .bl _ => T = "bool"
  | .non => T = "NoneType"
  | .ref a => (∃ xs, SqT K H a xs ∧ T = "tuple") ∨ (∃ xs, SqL K H a xs ∧ T = "list")
  | _ => False
/-- of none of these types is C a base -/
def NfC (K : PySem.W.Frag) (C : Addr) (Ts : List String) : Prop := ∀ T ∈ Ts, PySem.W.subIn K (.type T) (.ref C) = some false
def rEqOwnV (K : PySem.W.Frag) (C : Addr) (Ts : List String) (sp : Sp) (g : Bool → Bool) : R2 := fun x y H Q => ∃ a dx fs T, x = .ref a ∧ H a = some (.ins C dx fs) ∧ T ∈ Ts ∧ TyV K H T y ∧ rOwnB sp g [x, y] H Q
section
variable {X : Cx} {k j : Nat} {C : Addr} {ps : List Str} {sp : Sp} {Ts : List String}
theorem looks_tyV {pins : List (Addr × Obj)} {σ : L2.St} {H : Hp} {s : Shared} {y : V} {v : Value} {T : String} (I : Inv X pins σ H s) (r : RelV y v) (t : TyV X.K H T y) : PySem.W.Looks (model X.prog X.w) s.heap (typeOf v) (.type T) := by
  cases y with
  | str z => obtain ⟨tk, rfl⟩ := r; cases t; exact PySem.W.Looks.now
  | int z => obtain ⟨tk, rfl⟩ := r; cases t; exact PySem.W.Looks.now
  | bl z => cases r; cases t; exact PySem.W.Looks.now
  | non => cases r; cases t; exact PySem.W.Looks.now
  | ref a =>
    cases r
    rcases t with ⟨xs, h, rfl⟩ | ⟨xs, h, rfl⟩
    · obtain ⟨its, _, pl, _⟩ := I.tuple h
      exact looks_ty pl.typeIs
    · obtain ⟨its, _, pl, _⟩ := I.list h
      exact looks_ty pl.isList.typeIs
  | _ => exact t.elim
theorem nf_of (n : NfC X.K C Ts) {T : String} (h : T ∈ Ts) : PySem.W.notFirst X.K C (.type T) = true := by
  simp [PySem.W.notFirst, n T h]
theorem op_eqOwnV (c : Mth X.prog X.w X.K X.mg X.base k C "__eq__" ps sp) (n : NfC X.K C Ts) (hr : Room j X.A) (hk : k ≤ j := by decide) : OpR X (compareOp .Eq) (rEqOwnV X.K C Ts sp id) := by
  intro pins s σ H x y u v Q I rx ry h
  obtain ⟨f, fd, M, F, b⟩ := c.ex
  obtain ⟨a, dx, fs, T, rfl, ha, hT, ty, h⟩ := h
  cases rx
  obtain ⟨mA, J, _⟩ := ins_get I.hok ha
  obtain ⟨od, J, _⟩ := J.look
  obtain ⟨m, hF⟩ := I.fr
  have r2 : Vals [V.ref a, y] [Value.ref a, v] := .cons rfl (.cons ry .nil)
  have oc := own_call F (hr.mono hk) b I r2 h
  refine PySem.W.cmp_K (op := .Eq) (tb := .type T) hr.units0 hF I.ok.mod.kin J (looks_tyV I ry ty) (nf_of n hT) M.at_ M.fn (thn oc fun r s' hq => ?_)
  obtain ⟨r, rfl, q⟩ := hq
  exact q
theorem op_neOwnV (ne : NeC X.K C) (n : NfC X.K C Ts) (c : Mth X.prog X.w X.K X.mg X.base k C "__eq__" ps sp) (hr : Room j X.A) (hk : k + 1 ≤ j := by decide) : OpR X (compareOp .NotEq) (rEqOwnV X.K C Ts sp not) := by
  intro pins s σ H x y u v Q I rx ry h
  obtain ⟨f, fd, M, F, b⟩ := c.ex
  obtain ⟨a, dx, fs, T, rfl, ha, hT, ty, h⟩ := h
  cases rx
  obtain ⟨mA, J, _⟩ := ins_get I.hok ha
  obtain ⟨od, J, _⟩ := J.look
  have r2 : Vals [V.ref a, y] [Value.ref a, v] := .cons rfl (.cons ry .nil)
  refine ne_K (tb := .type T) (hu_of hr) I.kIn J (looks_tyV I ry ty) (nf_of n hT) ne.ne ne.ob M.at_ M.fn ?_
  have hr1 : Room k X.A.in1 := (hr.mono hk).in1
  have e0 : Env0 X.prog X.w X.K X.mg X.base X.A.in1 X.stack s H := by
    have e := I.env0
    exact ⟨e.frames, e.mod, e.bs, e.bsz, e.funs, e.frf, e.hok, e.bare⟩
  have hl := F.len _ _ _ _ h
  refine wpAny_call (codeAny_mono (F.run X.A.in1 X.stack s H ⟨[.ref a, v], []⟩ [.ref a, v] [.ref a, y] _ E0 hr1 e0 (by
    have := b s [.ref a, v] I.kIn (by simpa using hl)
    simpa using this) r2 h) fun r s' hq => ?_)
  match r, hq with
  | .error e, hq => exact pass0 pins σ H s e s' I hq
  | .ok (.ret u), hq =>
    obtain ⟨x, H', I', rx, b, rfl, q⟩ := I.after hq
    cases rx
    exact ⟨b, rfl, .bl (!b), H', I', rfl, q⟩
  | .ok .next, hq => exact hq.elim
  | .ok .brk, hq => exact hq.elim
  | .ok .cont, hq => exact hq.elim
end
section
variable {K : PySem.W.Frag} {κ : Str → Addr} {w : Wd} {f : MF} {c : Str} {C : Addr} {Ts : List String}
def tyN : D → String
  | .str _ => "str"
  | .int _ => "int"
  | .bl _ => "bool"
  | .non => "NoneType"
  | .tup _ => "tuple"
  | .lst _ => "list"
  | _ => ""
theorem tyV_of (g : Good K κ w) {d : D} {v : V} (h : RX K κ w d v) {T : String} (e : tyN (pk w.S d) = T) (ne : T ≠ "") : TyV K w.H T v := by
  cases q : pk w.S d with
  | str z => rw [q] at e; rw [str_of g h q]; exact e.symm
  | int z => rw [q] at e; rw [int_of g h q]; exact e.symm
  | bl z => rw [q] at e; rw [bl_of g h q]; exact e.symm
  | non => rw [q] at e; rw [non_of g h q]; exact e.symm
  | tup ds => rw [q] at e; obtain ⟨a, vs, rfl, t, _⟩ := tup_of g h q; exact .inl ⟨vs, t.sq, e.symm⟩
  | lst ds => rw [q] at e; obtain ⟨a, vs, rfl, t, _⟩ := lst_of g h q; exact .inr ⟨vs, sq_of t, e.symm⟩
  | _ => rw [q] at e; exact (ne e.symm).elim
def fEqOwnV (c : Str) (Ts : List String) (f : MF) (gg : Bool → Bool) : F2 := fun d e S q => match pk S d with
  | .obj c1 _ => c1 = c ∧ tyN (pk S e) ∈ Ts ∧ f [argD d, argD e] S (qv (qB gg q)) (fun _ _ => False)
  | _ => False
theorem rfo_eqOwnV {gg : Bool → Bool} (hC : κ c = C) (hT : "" ∉ Ts) : RfO K κ (rEqOwnV K C Ts (spM K κ 2 f) gg) (fEqOwnV c Ts f gg) := fun w d e u v q Q g hd he h k => by
  unfold fEqOwnV at h
  split at h
  · rename_i c1 f1 e1
    obtain ⟨rfl, ht, hf⟩ := h
    have hd' := hd
    have he' := he
    obtain ⟨a, dx, us, rfl, h1, _⟩ := obj_of g hd e1
    exact ⟨a, dx, us, _, rfl, hC ▸ h1, ht, tyV_of g he rfl fun z => hT (z ▸ ht), own_b (ds := [d, e]) g (.cons hd' (.cons he' .nil)) rfl hf k⟩
  · exact h.elim
end
/-- isinstance of a value of a built-in type and an own class -/
theorem kit_bi {K : PySem.W.Frag} {C : Addr} {t : String} {b : Bool} (hd : PySem.W.hasDictIn K C = true) (ty : PySem.W.typeIn K (.ref C) = some (.type "type")) (h : PySem.W.subIn K (.type t) (.ref C) = some b) : PySem.W.kitOne K (.type t) (.ref C) = some b := by
  obtain ⟨cd, hc, _⟩ := PySem.W.any_some hd
  show (if ((PySem.W.clsIn K C).isSome && PySem.W.typeIn K (.ref C) == some (.type "type")) = true then PySem.W.subIn K (.type t) (.ref C) else none) = _
  rw [hc, ty, if_pos (by simp)]
  exact h
end Mi
/-! Mirrors of drawing defs that were walked by hand -/
namespace Mi
open PySem L2 Aq Evl
/-- a list of n different texts with G, drawn -/
def fLet (G : Str → Prop) : MF := fun ds S q _ => ∃ k n B, ds = [.cel k, .int (n : Nat)] ∧ S[k]? = some (.pen B) ∧ B < 700000000 ∧ n ≤ 14 ∧ ∀ zs : List Str, (zs.length = n ∧ zs.Nodup ∧ ∀ z ∈ zs, G z) → q (.lst (zs.map D.str)) (S.set k (.pen (B + 100)))
section
variable {K : PySem.W.Frag} {κ : Str → Addr} {w w' w1 : Wd} {vs : List V} {H : Hp} {Q : VK} {E : XK} {G : Str → Prop}
theorem rep_strs : ∀ zs : List Str, RepL K κ w (zs.map D.str) (zs.map V.str)
  | [] => rfl
  | z :: t => ⟨_, _, rfl, rfl, rep_strs t⟩
theorem imp_let (h : spM K κ 2 (fLet G) vs H Q E) : ∃ (pd c : Addr) (B n : Nat), vs = [.ref pd, .int n] ∧ Pen "cells" "begun" "left" H pd c B ∧ B < 700000000 ∧ n ≤ 14 ∧
    ∀ (zs : List Str) (p : Addr) (H' : Hp), (zs.length = n ∧ zs.Nodup ∧ ∀ z ∈ zs, G z) → H p = none → H' p = some (.lst (zs.map V.str)) → Pen "cells" "begun" "left" H' pd c (B + 100) → Kx pd H H' → Q (.ref p) H' := by
  obtain ⟨_, w, ds, q, x, rfl, g, hF, pr, ⟨k, n, B, rfl, hS, hB, hn, hq⟩, kx, _⟩ := h
  obtain ⟨v, u, rfl, rx, ry⟩ := prd2 pr
  obtain ⟨pd, rfl, hρ⟩ := (rx : Rep K κ w (.cel k) v)
  obtain rfl : u = .int n := ry
  obtain ⟨c, pen, nc⟩ := g.cel k pd _ hρ hS
  refine ⟨pd, c, B, n, rfl, pen, hB, hn, fun zs p H' hz hp hp' pen' kk => ?_⟩
  obtain ⟨g2, gr⟩ := pen_put g hρ nc pen' kk
  exact kx { w with H := H', S := w.S.set k (.pen (B + 100)) } (.lst (zs.map D.str)) _ g2 gr ⟨p, _, rfl, ⟨fun z => g.al p z hp, hp'⟩, rep_strs zs⟩ (hq zs hz)
end
end Mi
/-! Readings of mirrors: one step each -/
namespace Mi
open PySem L2 Aq Evl
section
variable {η : Nv} {S : Sto} {q : DK} {x : XM} {d e : D} {ds xs ys : List D} {m n c : ME} {a b : MS} {t u : MT} {ma mb : MA} {nx bk ct : Nv → Sto → Prop} {rt : D → Sto → Prop} {ex : Exn → Nv → Sto → Prop} {i j : Nat} {f : F2} {z y : Str} {k l : Int} {p r : Bool}
/-! statements -/
theorem m_seq (h : a η S ⟨fun η S => b η S ⟨nx, rt, bk, ct, ex⟩, rt, bk, ct, ex⟩) : mSeq a b η S ⟨nx, rt, bk, ct, ex⟩ := h
theorem m_next (h : nx η S) : mNext η S ⟨nx, rt, bk, ct, ex⟩ := h
theorem m_break (h : bk η S) : mBreak η S ⟨nx, rt, bk, ct, ex⟩ := h
theorem m_cont (h : ct η S) : mCont η S ⟨nx, rt, bk, ct, ex⟩ := h
theorem m_ifS (h : t η S (fun k S1 => if k = true then a η S1 ⟨nx, rt, bk, ct, ex⟩ else b η S1 ⟨nx, rt, bk, ct, ex⟩) (fun x S => ex x η S)) : mIfS t a b η S ⟨nx, rt, bk, ct, ex⟩ := h
theorem m_drop (h : m η S (fun _ S1 => nx η S1) (fun x S => ex x η S)) : mDrop m η S ⟨nx, rt, bk, ct, ex⟩ := h
theorem m_asg {mg : MG} (h : m η S (fun d S1 => mg d η S1 nx) (fun x S => ex x η S)) : mAsg m mg η S ⟨nx, rt, bk, ct, ex⟩ := h
theorem m_asgN (h : m η S (fun d S1 => nx (η.set i (some (.own none d))) S1) (fun x S => ex x η S)) : mAsgN i m η S ⟨nx, rt, bk, ct, ex⟩ := h
def kRet (rt : D → Sto → Prop) : DK := fun d S1 => ∃ z, unown d = some z ∧ rt z S1
theorem m_ret (h : m η S (kRet rt) (fun x S => ex x η S)) : mRet m η S ⟨nx, rt, bk, ct, ex⟩ := h
theorem m_kRet {v : D} (e : unown d = some v) (h : rt v S) : kRet rt d S := ⟨v, e, h⟩
theorem m_retN (h : rt .non S) : mRetN η S ⟨nx, rt, bk, ct, ex⟩ := h
def kFor (mg : MG) (mb : MS) (η : Nv) (D : MEnds) : Bool → List Mi.D → Sto → Prop := fun b ds S1 => b = true ∧ forL mg mb ds η S1 D
theorem m_for {mi : MI} {mg : MG} {mb : MS} (h : mi η S (kFor mg mb η ⟨nx, rt, bk, ct, ex⟩) (fun x S => ex x η S)) : mFor mi mg mb η S ⟨nx, rt, bk, ct, ex⟩ := h
theorem m_kFor {mg : MG} {mb : MS} {D : MEnds} (h : forL mg mb ds η S D) : kFor mg mb η D true ds S := ⟨rfl, h⟩
def kPar (i j : Nat) (η : Nv) (nx : Nv → Sto → Prop) : List D → Sto → Prop := fun ds S1 => match ds with
  | [a, b] => a.nown = true ∧ b.nown = true ∧ nx ((η.set i (some a)).set j (some b)) S1
  | _ => False
theorem m_par (h : ma η S (kPar i j η nx) (fun x S => ex x η S)) : mPar i j ma η S ⟨nx, rt, bk, ct, ex⟩ := h
theorem m_kPar {a b : D} (h : nx ((η.set i (some a)).set j (some b)) S) (e : a.nown = true := by rfl) (e' : b.nown = true := by rfl) : kPar i j η nx [a, b] S := ⟨e, e', h⟩
def kPar3 (i j l : Nat) (η : Nv) (nx : Nv → Sto → Prop) : List D → Sto → Prop := fun ds S1 => match ds with
  | [a, b, c] => a.nown = true ∧ b.nown = true ∧ c.nown = true ∧ nx (((η.set i (some a)).set j (some b)).set l (some c)) S1
  | _ => False
theorem m_par3 {l : Nat} (h : ma η S (kPar3 i j l η nx) (fun x S => ex x η S)) : mPar3 i j l ma η S ⟨nx, rt, bk, ct, ex⟩ := h
theorem m_kPar3 {l : Nat} {a b c : D} (h : nx (((η.set i (some a)).set j (some b)).set l (some c)) S) (e : a.nown = true := by rfl) (e' : b.nown = true := by rfl) (e2 : c.nown = true := by rfl) : kPar3 i j l η nx [a, b, c] S := ⟨e, e', e2, h⟩
theorem m_app {t : Option Addr} {acc : List D} (e : η[i]? = some (some (.own t (.lst acc)))) (h : m η S (fun d S1 => d.val = true ∧ acc.length < 100000 ∧ nx (η.set i (some (.own t (.lst (acc ++ [d]))))) S1) (fun x S => ex x η S)) : mApp i m η S ⟨nx, rt, bk, ct, ex⟩ := ⟨t, acc, e, h⟩
def kSetF (cs : List Str) (i : Nat) (g : Str) (η : Nv) (nx : Nv → Sto → Prop) : DK := fun d S1 => ∃ t c fs, η[i]? = some (some (.own t (.obj c fs))) ∧ c ∈ cs ∧ fs.length ≤ 900 ∧ d.val = true ∧ nx (η.set i (some (.own t (.obj c (putD g d fs))))) S1
theorem m_setF {cs : List Str} {g : Str} (h : m η S (kSetF cs i g η nx) (fun x S => ex x η S)) : mSetF cs i g m η S ⟨nx, rt, bk, ct, ex⟩ := h
theorem m_kSetF {cs : List Str} {g : Str} {t : Option Addr} {c : Str} {fs : List (Str × D)} (e : η[i]? = some (some (.own t (.obj c fs)))) (h : nx (η.set i (some (.own t (.obj c (putD g d fs))))) S) (hc : c ∈ cs := by decide) (hl : fs.length ≤ 900 := by decide) (hv : d.val = true := by rfl) : kSetF cs i g η nx d S := ⟨t, c, fs, e, hc, hl, hv, h⟩
def kRz (c : Str) (n : Nat) (ix : List (Str × Nat)) (us : List Nat) (η : Nv) (ex : Exn → Nv → Sto → Prop) : List D → Sto → Prop := fun ds S1 => ds.length = n ∧ allVal ds = true ∧ (us.all fun i => fmtD (ds.getD i .non)) = true ∧ ex (c, some (xfs ix .non ds)) η S1
theorem m_raise {c : Str} {n : Nat} {ix : List (Str × Nat)} {us : List Nat} (h : ma η S (kRz c n ix us η ex) (fun x S => ex x η S)) : mRaise c n ix us ma η S ⟨nx, rt, bk, ct, ex⟩ := h
theorem m_kRz {c : Str} {n : Nat} {ix : List (Str × Nat)} {us : List Nat} (h : ex (c, some (xfs ix .non ds)) η S) (h1 : ds.length = n := by rfl) (h2 : allVal ds = true := by rfl) (h3 : (us.all fun i => fmtD (ds.getD i .non)) = true := by rfl) : kRz c n ix us η ex ds S := ⟨h1, h2, h3, h⟩
theorem m_raise0 {c : Str} (h : ex (c, none) η S) : mRaise0 c η S ⟨nx, rt, bk, ct, ex⟩ := h
theorem m_fz {c : D} {t : Option Addr} (e : η[i]? = some (some (.own t c))) (hb : c.box = true) (h : a (η.set i (some c)) S ⟨nx, rt, bk, ct, ex⟩) : mFz i a η S ⟨nx, rt, bk, ct, ex⟩ := by
  unfold mFz
  rw [e]
  exact ⟨hb, h⟩
/-! targets -/
theorem m_gName {n : Nv → Sto → Prop} (h : n (η.set i (some d)) S) (e : d.nown = true := by rfl) : mGName i d η S n := ⟨e, h⟩
theorem m_gNil {n : Nv → Sto → Prop} (h : n η S) : mGNil [] η S n := ⟨rfl, h⟩
theorem m_gCons {g : MG} {gs : MGs} {n : Nv → Sto → Prop} (h : g d η S (fun η1 S1 => gs ds η1 S1 n)) : mGCons g gs (d :: ds) η S n := h
theorem m_gTup {gs : MGs} {n : Nv → Sto → Prop} (h : gs ds η S n) (e : ds.length = i := by rfl) : mGTup i gs (.tup ds) η S n := ⟨e, h⟩
theorem m_gFtp {gs : MGs} {n : Nv → Sto → Prop} (h : gs ds η S n) (e : ds.length = i := by rfl) : mGTup i gs (.ftp ds) η S n := ⟨e, h⟩
theorem m_gLst {gs : MGs} {n : Nv → Sto → Prop} (h : gs ds η S n) (e : ds.length = i := by rfl) : mGTup i gs (.lst ds) η S n := ⟨e, h⟩
/-! expressions -/
theorem m_var (e : η[i]? = some (some d)) (h : q d S) : mVar i η S q x := ⟨d, e, h⟩
theorem m_c (h : q d S) : mC d η S q x := h
theorem m_nil {q : List D → Sto → Prop} (h : q [] S) : mNil η S q x := h
theorem m_cons {q : List D → Sto → Prop} (h : m η S (fun d S1 => ma η S1 (fun ds S2 => q (d :: ds) S2) x) x) : mCons m ma η S q x := h
theorem m_op (h : m η S (fun d S1 => n η S1 (fun e S2 => f d e S2 q) x) x) : mOp f m n η S q x := h
theorem m_un {f : F1} (h : m η S (fun d S1 => f d S1 q) x) : mUn f m η S q x := h
theorem m_cb {f : FL} (h : ma η S (fun ds S1 => f ds S1 q) x) : mCB f ma η S q x := h
def kBox (c : List D → D) (q : DK) : List D → Sto → Prop := fun ds S1 => allVal ds = true ∧ ds.length ≤ 100000 ∧ q (c ds) S1
theorem m_tup (h : ma η S (kBox .tup q) x) : mTup ma η S q x := h
theorem m_lst (h : ma η S (kBox .lst q) x) : mLst ma η S q x := h
theorem m_kBox {c : List D → D} (h : q (c ds) S) (h1 : allVal ds = true := by rfl) (h2 : ds.length ≤ 100000 := by first | (show _ ≤ 100000; decide) | (simp; done)) : kBox c q ds S := ⟨h1, h2, h⟩
def kFld (cs : List Str) (g : Str) (q : DK) : DK := fun d S1 => match pk S1 d with
  | .obj c fs => c ∈ cs ∧ ∃ v, fs.lookup g = some v ∧ q v S1
  | _ => False
theorem m_fld {cs : List Str} {g : Str} (h : m η S (kFld cs g q) x) : mFld cs g m η S q x := h
theorem m_kFld {cs : List Str} {g : Str} {c : Str} {fs : List (Str × D)} {v : D} (e : fs.lookup g = some v) (h : q v S) (hc : c ∈ cs := by decide) : kFld cs g q (.obj c fs) S := ⟨hc, v, e, h⟩
theorem m_kFldB {cs : List Str} {g : Str} {c : Str} {fs : List (Str × D)} {v : D} {t : Option Addr} (e : fs.lookup g = some v) (h : q v S) (hc : c ∈ cs := by decide) : kFld cs g q (.own t (.obj c fs)) S := ⟨hc, v, e, h⟩
def kTest (q : Bool → Sto → Prop) : DK := fun d S1 => match d with
  | .bl b => q b S1
  | _ => False
theorem m_test {q : Bool → Sto → Prop} (h : m η S (kTest q) x) : mTest m η S q x := h
theorem m_kTest {q : Bool → Sto → Prop} (h : q p S) : kTest q (.bl p) S := h
theorem m_notT {q : Bool → Sto → Prop} (h : t η S (fun b S1 => q (!b) S1) x) : mNotT t η S q x := h
theorem m_andT {q : Bool → Sto → Prop} (h : t η S (fun b S1 => if b = true then u η S1 q x else q false S1) x) : mAndT t u η S q x := h
theorem m_orT {q : Bool → Sto → Prop} (h : t η S (fun b S1 => if b = true then q true S1 else u η S1 q x) x) : mOrT t u η S q x := h
theorem m_ifT {v : MT} {q : Bool → Sto → Prop} (h : v η S (fun b S1 => if b = true then t η S1 q x else u η S1 q x) x) : mIfT v t u η S q x := h
theorem m_if (h : t η S (fun b S1 => if b = true then m η S1 q x else n η S1 q x) x) : mIf t m n η S q x := h
def kAndV (n : ME) (η : Nv) (q : DK) (x : XM) : DK := fun d S1 => match d with
  | .bl b => if b = true then n η S1 q x else q (.bl false) S1
  | _ => False
theorem m_andV (h : m η S (kAndV n η q x) x) : mAndV m n η S q x := h
theorem m_kAndV (h : if p = true then n η S q x else q (.bl false) S) : kAndV n η q x (.bl p) S := h
def kOrV (n : ME) (η : Nv) (q : DK) (x : XM) : DK := fun d S1 => match d with
  | .bl b => if b = true then q (.bl true) S1 else n η S1 q x
  | _ => False
theorem m_orV (h : m η S (kOrV n η q x) x) : mOrV m n η S q x := h
theorem m_kOrV (h : if p = true then q (.bl true) S else n η S q x) : kOrV n η q x (.bl p) S := h
def kNotV (q : DK) : DK := fun d S1 => match d with
  | .bl b => q (.bl (!b)) S1
  | _ => False
theorem m_notV (h : m η S (kNotV q) x) : mNotV m η S q x := h
theorem m_kNotV (h : q (.bl (!p)) S) : kNotV q (.bl p) S := h
def kCh (f' : F2) (c : ME) (e : D) (η : Nv) (q : DK) (x : XM) : DK := fun z S3 => match z with
  | .bl k => if k = true then c η S3 (fun y S4 => f' e y S4 q) x else q (.bl false) S3
  | _ => False
theorem m_chain {f' : F2} (h : m η S (fun d S1 => n η S1 (fun e S2 => f d e S2 (kCh f' c e η q x)) x) x) : mChain f f' m n c η S q x := h
theorem m_kCh {f' : F2} (h : if p = true then c η S (fun y S4 => f' e y S4 q) x else q (.bl false) S) : kCh f' c e η q x (.bl p) S := h
theorem m_true {A B : Prop} (h : A) : if true = true then A else B := by rw [if_pos rfl]; exact h
theorem m_false {A B : Prop} (h : B) : if false = true then A else B := by rw [if_neg Bool.false_ne_true]; exact h
theorem m_tr {A B : Prop} (e : p = true) (h : A) : if p = true then A else B := by rw [if_pos e]; exact h
theorem m_fa {A B : Prop} (e : p = false) (h : B) : if p = true then A else B := by rw [e]; exact m_false h
theorem m_two {A B : Prop} (h1 : p = true → A) (h2 : p = false → B) : if p = true then A else B := by
  cases p with
  | true => exact m_true (h1 rfl)
  | false => exact m_false (h2 rfl)
/-! operations -/
theorem m_addI (h : q (.int (k + l)) S) : fAdd (.int k) (.int l) S q := h
theorem m_addS (h1 : z.length + y.length ≤ 100000) (h : q (.str (z ++ y)) S) : fAdd (.str z) (.str y) S q := ⟨h1, h⟩
theorem m_addL (h1 : xs.length + ys.length ≤ 100000) (h : q (.lst (xs ++ ys)) S) : fAdd (.lst xs) (.lst ys) S q := ⟨h1, h⟩
theorem m_catL (h1 : xs.length + ys.length ≤ 100000) (h : q (.lst (xs ++ ys)) S) : fCat (.lst xs) (.lst ys) S q := ⟨h1, h⟩
theorem m_subI (h : q (.int (k - l)) S) : fSub (.int k) (.int l) S q := h
theorem m_mulI (h1 : Sm k) (h2 : Sm l) (h : q (.int (k * l)) S) : fMul (.int k) (.int l) S q := ⟨h1, h2, h⟩
theorem m_int2 {C : Int → Int → Prop} {g : Int → Int → Int} (h1 : C k l) (h : q (.int (g k l)) S) : fInt2 C g (.int k) (.int l) S q := ⟨h1, h⟩
theorem m_neg (h : q (.int (-k)) S) : fNeg (.int k) S q := h
theorem m_cmp {fi : Int → Int → Bool} {fs : List Nat → List Nat → Bool} (h : q (.bl (fi k l)) S) : fCmp fi fs (.int k) (.int l) S q := h
theorem m_eqI (h : q (.bl (decide (k = l))) S) : fEq (.int k) (.int l) S q := h
theorem m_eqS (h : q (.bl (decide (z = y))) S) : fEq (.str z) (.str y) S q := h
theorem m_neI (h : q (.bl (!decide (k = l))) S) : fNe (.int k) (.int l) S q := h
theorem m_neS (h : q (.bl (!decide (z = y))) S) : fNe (.str z) (.str y) S q := h
theorem m_eqNS (h : q (.bl false) S) : fEq .non (.str y) S q := h
theorem m_eqSN (h : q (.bl false) S) : fEq (.str z) .non S q := h
theorem m_eqNN (h : q (.bl true) S) : fEq .non .non S q := h
/-- == of made data, both tuples or lists -/
theorem m_eqP {v w : PyData} (h1 : toPy (.tup xs) = some v) (h2 : toPy (.tup ys) = some w) (s1 : SeqAt.shaped v = true) (s2 : SeqAt.shaped w = true) (h : q (.bl (PyData.eqv v w)) S) (e1 : pk S d = .tup xs := by rfl) (e2 : pk S e = .tup ys := by rfl) : fEq d e S q := by
  unfold fEq
  rw [e1, e2]
  exact ⟨v, w, h1, h2, s1, s2, h⟩
theorem m_neP {v w : PyData} (h1 : toPy (.tup xs) = some v) (h2 : toPy (.tup ys) = some w) (s1 : SeqAt.shaped v = true) (s2 : SeqAt.shaped w = true) (h : q (.bl (!PyData.eqv v w)) S) (e1 : pk S d = .tup xs := by rfl) (e2 : pk S e = .tup ys := by rfl) : fNe d e S q := by
  unfold fNe
  rw [e1, e2]
  exact ⟨v, w, h1, h2, s1, s2, h⟩
theorem m_isN {g : Bool → Bool} (h : q (.bl (g true)) S) : fIs g .non .non S q := h
theorem m_isS {g : Bool → Bool} (h : q (.bl (g false)) S) : fIs g (.str z) .non S q := h
theorem m_isT {g : Bool → Bool} (h : q (.bl (g false)) S) : fIs g (.tup xs) .non S q := h
theorem inV_ofD {zs : List Str} : flatsD (zs.map D.str) = some (zs.map V.str) := by
  induction zs with
  | nil => rfl
  | cons z t ih =>
    unfold flatsD at ih ⊢
    rw [List.map_cons, List.mapM_cons, ih]
    rfl
/-- a text in a row of texts -/
theorem m_inS {g : Bool → Bool} {zs : List Str} (h : q (.bl (g (decide (z ∈ zs)))) S) (e1 : pk S d = .str z := by rfl) (e2 : pk S e = .tup (zs.map D.str) ∨ pk S e = .lst (zs.map D.str) := by first | exact Or.inl rfl | exact Or.inr rfl) : fIn g d e S q := by
  unfold fIn
  have hq : inQ (pk S d) (zs.map D.str) fun b => q (.bl (g b)) S := by
    rw [e1]
    exact .inl ⟨_, _, rfl, inV_ofD, by rw [Aq.inV_strs]; exact h⟩
  rcases e2 with e2 | e2 <;> rw [e2] <;> exact hq
theorem m_inC {g : Bool → Bool} {n : Nat} (h : q (.bl (g (decide (n ∈ z.cps.toList)))) S) : fIn g (.str ⟨#[n]⟩) (.str z) S q := ⟨n, rfl, h⟩
theorem m_ixL {v : D} (h1 : atI xs k = some v) (h : q v S) (e1 : pk S d = .lst xs := by rfl) : fIx d (.int k) S q := by
  unfold fIx
  rw [e1]
  exact ⟨v, h1, h⟩
theorem m_ixT {v : D} (h1 : atI xs k = some v) (h : q v S) (e1 : pk S d = .tup xs := by rfl) : fIx d (.int k) S q := by
  unfold fIx
  rw [e1]
  exact ⟨v, h1, h⟩
theorem m_ixS {n : Nat} (h0 : z.length ≤ 100000) (h1 : atI z.cps.toList k = some n) (h : q (.str ⟨#[n]⟩) S) : fIx (.str z) (.int k) S q := ⟨h0, n, h1, h⟩
theorem m_noP {q : Option Int → Sto → Prop} (h : q none S) : mNoP η S q x := h
def kPart (q : Option Int → Sto → Prop) : DK := fun d S1 => match pk S1 d with
  | .int i => q (some i) S1
  | _ => False
theorem m_part {q : Option Int → Sto → Prop} (h : m η S (kPart q) x) : mPart m η S q x := h
theorem m_kPart {q : Option Int → Sto → Prop} (h : q (some k) S) : kPart q (.int k) S := h
theorem m_sl {ml mh : MO} (h : m η S (fun d S1 => ml η S1 (fun lo S2 => mh η S2 (fun hi S3 => fSl lo hi d S3 q) x) x) x) : mSl m ml mh η S q x := h
theorem m_slS {lo hi : Option Int} (h1 : z.length ≤ 100000) (h : q (.str (cutS z lo hi)) S) : fSl lo hi (.str z) S q := ⟨h1, h⟩
theorem m_slL {lo hi : Option Int} (h : q (.lst (cutD xs lo hi)) S) (e1 : pk S d = .lst xs := by rfl) : fSl lo hi d S q := by
  unfold fSl
  rw [e1]
  exact h
theorem m_slT {lo hi : Option Int} (h : q (.tup (cutD xs lo hi)) S) (e1 : pk S d = .tup xs := by rfl) : fSl lo hi d S q := by
  unfold fSl
  rw [e1]
  exact h
/-! built-in calls -/
theorem m_lenL (h : q (.int xs.length) S) (e1 : pk S d = .lst xs := by rfl) : fLen [d] S q := by
  unfold fLen
  simp only [e1]
  exact h
theorem m_lenT (h : q (.int xs.length) S) (e1 : pk S d = .tup xs := by rfl) : fLen [d] S q := by
  unfold fLen
  simp only [e1]
  exact h
theorem m_lenS (h1 : z.length ≤ 100000) (h : q (.int z.length) S) : fLen [.str z] S q := ⟨h1, h⟩
theorem m_int (h : q (.int k) S) : fInt [.int k] S q := h
theorem m_intB (h : q (.int (if p = true then 1 else 0)) S) : fInt [.bl p] S q := h
theorem m_abs (h : q (.int (if k < 0 then -k else k)) S) : fAbs [.int k] S q := h
theorem m_twoI {g : Int → Int → Int} (h : q (.int (g k l)) S) : fTwo g [.int k, .int l] S q := h
theorem m_strI (h1 : k.natAbs.log2 < 1920) (h : q (.str (Str.ofString (toString k))) S) : fStr [.int k] S q := ⟨h1, h⟩
theorem m_tupleL (h : q (.ftp xs) S) (e1 : pk S d = .lst xs := by rfl) : fTuple [d] S q := by
  unfold fTuple
  split
  · rename_i ys e; cases e; cases e1
  · rename_i d' _ e; cases e; rw [e1]; exact h
  · rename_i h1 h2; exact absurd rfl (h2 d)
theorem m_tupleF (h : q (.ftp xs) S) : fTuple [.ftp xs] S q := h
theorem m_tupleT (h : q (.tup xs) S) : fTuple [.tup xs] S q := h
theorem m_listL (h : q (.lst xs) S) (e1 : pk S d = .lst xs ∨ pk S d = .tup xs := by first | exact Or.inl rfl | exact Or.inr rfl) : fList [d] S q := by
  unfold fList
  rcases e1 with e1 | e1 <;> simp only [e1] <;> exact h
theorem m_sum {ns : List Int} (e : intsD xs = some ns) (h : q (.int ns.sum) S) (e1 : pk S d = .lst xs := by rfl) : fSum [d] S q := by
  unfold fSum
  simp only [e1]
  exact ⟨ns, e, h⟩
theorem m_bls {g : List Bool → Bool} {ns : List Bool} (e : blsD xs = some ns) (h : q (.bl (g ns)) S) (e1 : pk S d = .lst xs := by rfl) : fBls g [d] S q := by
  unfold fBls
  simp only [e1]
  exact ⟨ns, e, h⟩
theorem m_repr {v : PyData} (e : toPy (pk S d) = some v) (h1 : ShN v 40 1000000) (h : q (.str v.shown) S) : fRepr [d] S q := ⟨v, e, h1, h⟩
theorem m_isi {K : Ty → Ty → Bool} {v w : Ty} (h1 : tyD (pk S d) = some v) (h2 : clsD e = some w) (h3 : K v w = true) (h : q (.bl (subT v w)) S) : fIsi K [d, e] S q := ⟨v, w, h1, h2, h3, h⟩
def kJoin (m : ME) (η : Nv) (q : DK) (x : XM) : DK := fun d S1 => match d with
  | .str a => m η S1 (fun e S2 => ∃ ys, strsOf (pk S2 e) = some ys ∧ (ys.map Str.length).sum + ys.length * a.length ≤ 16777216 ∧ q (.str (Txt.join a ys)) S2) x
  | _ => False
theorem m_join (h : m η S (kJoin n η q x) x) : mJoin m n η S q x := h
theorem m_kJoin (h : n η S (fun e S2 => ∃ ys, strsOf (pk S2 e) = some ys ∧ (ys.map Str.length).sum + ys.length * z.length ≤ 16777216 ∧ q (.str (Txt.join z ys)) S2) x) : kJoin n η q x (.str z) S := h
def kTix (m : ME) (η : Nv) (q : DK) (x : XM) : DK := fun d S1 => match d with
  | .ftp xs => m η S1 (fun e S2 => match pk S2 e with
    | .str z => ∃ ys j, strsD xs = some ys ∧ ys[j]? = some z ∧ (∀ m, m < j → ys[m]? ≠ some z) ∧ q (.int (j : Nat)) S2
    | _ => False) x
  | _ => False
theorem m_tupIx (h : m η S (kTix n η q x) x) : mTupIx m n η S q x := h
/-! calls -/
theorem m_call {g : MF} {n : Nat} (h : ma η S (fun ds S1 => ds.length = n ∧ g (ds.map argD) S1 (qv q) x) x) : mCall n g ma η S q x := h
theorem m_call0 {g : MF} {n : Nat} (h : ma η S (fun ds S1 => ds.length = n ∧ g (ds.map argD) S1 (qv q) (fun _ _ => False)) x) : mCall0 n g ma η S q x := h
theorem m_make {g : MF} {n : Nat} {dd : List D} (h : ma η S (fun ds S1 => ds.length + dd.length + 1 = n ∧ g (ds.map argD ++ dd) S1 q x) x) : mMake n g dd ma η S q x := h
theorem m_make0 {g : MF} {n : Nat} {dd : List D} (h : ma η S (fun ds S1 => ds.length + dd.length + 1 = n ∧ g (ds.map argD ++ dd) S1 q (fun _ _ => False)) x) : mMake0 n g dd ma η S q x := h
theorem m_qv (h : q d S) (e : d.val = true := by rfl) : qv q d S := ⟨e, h⟩
theorem m_len {A : Prop} {n k : Nat} (h : A) (e : n = k := by rfl) : n = k ∧ A := ⟨e, h⟩
theorem m_run {n : Nat} {q : DK} (h : a (ds.map some ++ nones (n - ds.length)) S ⟨fun _ S' => q .non S', q, fun _ _ => False, fun _ _ => False, fun e _ S' => x e S'⟩) : runB n a ds S q x := h
/-! sources -/
def kSeq (q : Bool → List D → Sto → Prop) : DK := fun d S1 => match d with
  | .lst ds => q true ds S1
  | .tup ds => q true ds S1
  | .ftp ds => q true ds S1
  | .bor (.lst ds) => q true ds S1
  | .own _ (.lst ds) => q false ds S1
  | .str z => q true (signsD z) S1
  | _ => False
theorem m_iSeq {q : Bool → List D → Sto → Prop} (h : m η S (kSeq q) x) : mISeq m η S q x := h
theorem m_kSeqL {q : Bool → List D → Sto → Prop} (h : q true ds S) : kSeq q (.lst ds) S := h
theorem m_kSeqT {q : Bool → List D → Sto → Prop} (h : q true ds S) : kSeq q (.tup ds) S := h
theorem m_kSeqF {q : Bool → List D → Sto → Prop} (h : q true ds S) : kSeq q (.ftp ds) S := h
theorem m_kSeqB {q : Bool → List D → Sto → Prop} (h : q true ds S) : kSeq q (.bor (.lst ds)) S := h
theorem m_kSeqO {q : Bool → List D → Sto → Prop} {t : Option Addr} (h : q false ds S) : kSeq q (.own t (.lst ds)) S := h
theorem m_kSeqS {q : Bool → List D → Sto → Prop} (h : q true (signsD z) S) : kSeq q (.str z) S := h
def kR1 (q : Bool → List D → Sto → Prop) : List D → Sto → Prop := fun ds S1 => match ds with
  | [d] => match pk S1 d with
    | .int j => -(2 ^ 62) ≤ j ∧ j < 2 ^ 62 ∧ q true (rngD 0 j.toNat) S1
    | _ => False
  | _ => False
theorem m_rng1 {q : Bool → List D → Sto → Prop} (h : ma η S (kR1 q) x) : mIRng1 ma η S q x := h
theorem m_kR1 {q : Bool → List D → Sto → Prop} (h1 : -(2 ^ 62) ≤ k) (h2 : k < 2 ^ 62) (h : q true (rngD 0 k.toNat) S) : kR1 q [.int k] S := ⟨h1, h2, h⟩
def kEn (q : Bool → List D → Sto → Prop) : List D → Sto → Prop := fun ds S1 => match ds with
  | [.lst ds] => q true (enumD ds) S1
  | [.bor (.lst ds)] => q true (enumD ds) S1
  | [.own _ (.lst ds)] => q false (enumD ds) S1
  | [.tup ds] => q true (enumD ds) S1
  | [.ftp ds] => q true (enumD ds) S1
  | _ => False
theorem m_kEnT {q : Bool → List D → Sto → Prop} (h : q true (enumD ds) S) : kEn q [.tup ds] S := h
theorem m_kEnF {q : Bool → List D → Sto → Prop} (h : q true (enumD ds) S) : kEn q [.ftp ds] S := h
theorem m_enum {q : Bool → List D → Sto → Prop} (h : ma η S (kEn q) x) : mIEnum ma η S q x := h
theorem m_kEnL {q : Bool → List D → Sto → Prop} (h : q true (enumD ds) S) : kEn q [.lst ds] S := h
theorem m_kEnB {q : Bool → List D → Sto → Prop} (h : q true (enumD ds) S) : kEn q [.bor (.lst ds)] S := h
theorem m_yes {q : Bool → Sto → Prop} (h : q true S) : mYes η S q x := h
theorem atI_zero {α : Type} {xs r : List α} {c : α} (e : xs = c :: r) : atI xs 0 = some c := by
  subst e
  obtain ⟨v, _, h, h2⟩ := atI_int (xs := c :: r) (i := 0) (by omega) (by rw [List.length_cons]; omega)
  rw [h2]; exact h.symm
theorem strsD_of : ∀ zs : List Str, strsD (zs.map D.str) = some zs
  | [] => rfl
  | z :: t => by rw [List.map_cons]; show (strsD (t.map D.str)).map (z :: ·) = _; rw [strsD_of t]; rfl
theorem m_kTix {zs : List Str} (h : m η S (fun e S2 => ∃ z, pk S2 e = .str z ∧ ∃ j : Nat, zs[j]? = some z ∧ (∀ m, m < j → zs[m]? ≠ some z) ∧ q (.int j) S2) x) (mono : ∀ {q q' : DK}, (∀ d S, q d S → q' d S) → m η S q x → m η S q' x) : kTix m η q x (.ftp (zs.map .str)) S := by
  refine mono (fun d S h => ?_) h
  obtain ⟨z, e, j, h1, h2, h3⟩ := h
  rw [e]
  exact ⟨zs, j, strsD_of zs, h1, h2, h3⟩
theorem mono_var {i : Nat} : ∀ {q q' : DK}, (∀ d S, q d S → q' d S) → mVar i η S q x → mVar i η S q' x := fun h ⟨d, e, k⟩ => ⟨d, e, h _ _ k⟩
/-! loops -/
theorem forL_ind {mg : MG} {mb : MS} {D : MEnds} (Inv : Nat → Nv → Sto → Prop) (h0 : Inv 0 η S) (hs : ∀ i d η S nx, ds[i]? = some d → Inv i η S → (∀ η' S', Inv (i + 1) η' S' → nx η' S') → mg d η S fun η1 S1 => mb η1 S1 ⟨nx, D.rt, D.nx, nx, D.ex⟩)
    (hq : ∀ η S, Inv ds.length η S → D.nx η S) : forL mg mb ds η S D := by
  have go : ∀ (r : List Mi.D) (i : Nat) (η : Nv) (S : Sto), ds.drop i = r → Inv i η S → i ≤ ds.length → forL mg mb r η S D := by
    intro r
    induction r with
    | nil =>
      intro i η S e h hi
      have hl := congrArg List.length e
      rw [List.length_drop, List.length_nil] at hl
      have : i = ds.length := by omega
      subst this
      exact hq η S h
    | cons d r ih =>
      intro i η S e h hi
      have hi2 : i < ds.length := by
        have hl := congrArg List.length e
        rw [List.length_drop, List.length_cons] at hl
        omega
      rw [List.drop_eq_getElem_cons hi2, List.cons.injEq] at e
      exact hs i d η S _ (by rw [← e.1, List.getElem?_eq_getElem hi2]) h fun η' S' z => ih (i + 1) η' S' e.2 z hi2
  exact go ds 0 η S rfl h0 (Nat.zero_le _)
theorem lcL_ind {g : MG} {tt : MT} {te : ME} {q : List D → Sto → Prop} {acc0 : List D} (Inv : Nat → List D → Sto → Prop) (h0 : Inv 0 acc0 S)
    (hs : ∀ i d acc S (nx : List D → Sto → Prop), ds[i]? = some d → Inv i acc S → (∀ acc' S', Inv (i + 1) acc' S' → nx acc' S') → g d η S fun η1 S1 => tt η1 S1 (fun b S2 => if b = true then te η1 S2 (fun e S3 => e.val = true ∧ acc.length < 100000 ∧ nx (acc ++ [e]) S3) (fun _ _ => False) else nx acc S2) (fun _ _ => False))
    (hq : ∀ acc S, Inv ds.length acc S → q acc S) : lcL g tt te η ds acc0 S q := by
  have go : ∀ (r : List Mi.D) (i : Nat) (acc : List D) (S : Sto), ds.drop i = r → Inv i acc S → i ≤ ds.length → lcL g tt te η r acc S q := by
    intro r
    induction r with
    | nil =>
      intro i acc S e h hi
      have hl := congrArg List.length e
      rw [List.length_drop, List.length_nil] at hl
      have : i = ds.length := by omega
      subst this
      exact hq acc S h
    | cons d r ih =>
      intro i acc S e h hi
      have hi2 : i < ds.length := by
        have hl := congrArg List.length e
        rw [List.length_drop, List.length_cons] at hl
        omega
      rw [List.drop_eq_getElem_cons hi2, List.cons.injEq] at e
      exact hs i d acc S (fun acc S => lcL g tt te η r acc S q) (by rw [← e.1, List.getElem?_eq_getElem hi2]) h fun η' S' z => ih (i + 1) η' S' e.2 z hi2
  exact go ds 0 acc0 S rfl h0 (Nat.zero_le _)
def kLc (g : MG) (tt : MT) (te : ME) (vs : List Nat) (η : Nv) (q : DK) : Bool → List D → Sto → Prop := fun _ ds S1 => lcL g tt te (wipeD η vs) ds [] S1 (fun acc S2 => q (.lst acc) S2)
theorem m_lc {mi : MI} {g : MG} {tt : MT} {vs : List Nat} (h : mi η S (kLc g tt m vs η q) x) : mLc mi g tt m vs η S q x := h
/-- a comprehension that changes nothing: what it keeps and how -/
theorem lcL_fm {g : MG} {tt : MT} {te : ME} {q : List D → Sto → Prop} (F : D → Option D) (hl : ds.length ≤ 100000) (hv : ∀ d ∈ ds, ∀ z, F d = some z → z.val = true)
    (hs : ∀ d ∈ ds, ∀ (nx : DK) (el : Sto → Prop), (∀ z, F d = some z → nx z S) → (F d = none → el S) → g d η S fun η1 S1 => tt η1 S1 (fun b S2 => if b = true then te η1 S2 nx (fun _ _ => False) else el S2) (fun _ _ => False))
    (h : q (ds.filterMap F) S) : lcL g tt te η ds [] S q := by
  have go : ∀ (r : List D) (acc : List D), (∀ d ∈ r, d ∈ ds) → acc.length + r.length ≤ 100000 → q (acc ++ r.filterMap F) S → lcL g tt te η r acc S q := by
    intro r
    induction r with
    | nil => intro acc _ _ h; rw [List.filterMap_nil, List.append_nil] at h; exact h
    | cons d r ih =>
      intro acc hd hl h
      rw [List.length_cons] at hl
      refine hs d (hd d List.mem_cons_self) _ _ (fun z hz => ?_) (fun hz => ?_)
      · refine ⟨hv d (hd d List.mem_cons_self) z hz, by omega, ih _ (fun d h => hd d (List.mem_cons_of_mem _ h)) (by rw [List.length_append, List.length_singleton]; omega) ?_⟩
        rw [List.filterMap_cons, hz] at h
        rw [List.append_assoc]
        exact h
      · refine ih _ (fun d h => hd d (List.mem_cons_of_mem _ h)) (by omega) ?_
        rw [List.filterMap_cons, hz] at h
        exact h
  exact go ds [] (fun _ h => h) (by simpa using hl) h
theorem lcL_map {g : MG} {tt : MT} {te : ME} {q : List D → Sto → Prop} (F : D → D) (hl : ds.length ≤ 100000) (hv : ∀ d ∈ ds, (F d).val = true)
    (hs : ∀ d ∈ ds, ∀ (nx : DK) (el : Sto → Prop), nx (F d) S → g d η S fun η1 S1 => tt η1 S1 (fun b S2 => if b = true then te η1 S2 nx (fun _ _ => False) else el S2) (fun _ _ => False))
    (h : q (ds.map F) S) : lcL g tt te η ds [] S q :=
  lcL_fm (fun d => some (F d)) hl (fun d hd z e => by cases e; exact hv d hd) (fun d hd nx el h1 _ => hs d hd nx el (h1 _ rfl)) (by rw [← List.filterMap_eq_map] at h; exact h)
theorem m_kLc {g : MG} {tt : MT} {vs : List Nat} {b : Bool} (h : lcL g tt m (wipeD η vs) ds [] S (fun acc S2 => q (.lst acc) S2)) : kLc g tt m vs η q b ds S := h
end
end Mi
/-! Plain data: == is equality -/
namespace Mi
open PySem L2 Aq Evl
/-- plain data of a small depth: no bools, no dicts -/
def Pl : Nat → PyData → Bool
  | 0, _ => false
  | _ + 1, .none => true
  | _ + 1, .int _ => true
  | _ + 1, .str z => PyData.strOk z
  | n + 1, .list xs => xs.all (Pl n)
  | n + 1, .tuple xs => xs.all (Pl n)
  | _ + 1, _ => false
theorem pl_ok : ∀ (n : Nat) (p : PyData), Pl n p = true → PyData.canLay0 p = true ∧ PyData.depth p ≤ n
  | 0, _, h => by cases h
  | n + 1, p, h => by
    have all : ∀ xs : List PyData, xs.all (Pl n) = true → PyData.canLayAll0 xs = true ∧ PyData.depthAll xs ≤ n := by
      intro xs
      induction xs with
      | nil => intro _; exact ⟨rfl, Nat.zero_le _⟩
      | cons x t ih =>
        intro h
        rw [List.all_cons, Bool.and_eq_true] at h
        obtain ⟨h1, h2⟩ := pl_ok n x h.1
        obtain ⟨h3, h4⟩ := ih h.2
        refine ⟨?_, ?_⟩
        · simp only [PyData.canLayAll0, h1, h3, Bool.and_self]
        · simp only [PyData.depthAll]; omega
    cases p with
    | none => exact ⟨rfl, by simp [PyData.depth]⟩
    | int i => exact ⟨rfl, by simp [PyData.depth]⟩
    | str z => exact ⟨h, by simp [PyData.depth]⟩
    | list xs => obtain ⟨h1, h2⟩ := all xs h; exact ⟨h1, by simp only [PyData.depth]; omega⟩
    | tuple xs => obtain ⟨h1, h2⟩ := all xs h; exact ⟨h1, by simp only [PyData.depth]; omega⟩
    | _ => cases h
theorem pl_shaped {n : Nat} {p : PyData} (h : Pl n p = true) (hn : n ≤ 64 := by decide) : SeqAt.shaped p = true := by
  obtain ⟨h1, h2⟩ := pl_ok n p h
  unfold SeqAt.shaped
  rw [h1, decide_eq_true (by omega : PyData.depth p ≤ 64)]
  rfl
theorem pl_eqv : ∀ (n m : Nat) (p r : PyData), Pl n p = true → Pl m r = true → (PyData.eqv p r = true ↔ p = r)
  | 0, _, _, _, h, _ => by cases h
  | _, 0, _, _, _, h => by cases h
  | n + 1, m + 1, p, r, hp, hr => by
    have all : ∀ xs ys : List PyData, xs.all (Pl n) = true → ys.all (Pl m) = true → (PyData.eqvAll xs ys = true ↔ xs = ys) := by
      intro xs
      induction xs with
      | nil => intro ys _ _; cases ys <;> simp [PyData.eqvAll]
      | cons x t ih =>
        intro ys h1 h2
        cases ys with
        | nil => simp [PyData.eqvAll]
        | cons y u =>
          rw [List.all_cons, Bool.and_eq_true] at h1 h2
          simp only [PyData.eqvAll, Bool.and_eq_true, List.cons.injEq, pl_eqv n m x y h1.1 h2.1, ih u h1.2 h2.2]
    cases p <;> cases r <;> first | (cases hp; done) | (cases hr; done) | (simp [PyData.eqv]; done) | skip
    all_goals simp only [PyData.eqv, PyData.list.injEq, PyData.tuple.injEq]
    all_goals exact all _ _ hp hr
section
variable {S : Sto} {q : DK} {d e : D} {xs ys : List D}
/-- == of two tuples -/
theorem m_eqT {n m : Nat} {v w : PyData} (h1 : toPy (.tup xs) = some v) (h2 : toPy (.tup ys) = some w) (p1 : Pl n v = true) (p2 : Pl m w = true) (k1 : v = w → q (.bl true) S) (k2 : v ≠ w → q (.bl false) S) (hn : n ≤ 64 := by decide) (hm : m ≤ 64 := by decide) (e1 : pk S d = .tup xs := by rfl) (e2 : pk S e = .tup ys := by rfl) : fEq d e S q := by
  refine m_eqP h1 h2 (pl_shaped p1 hn) (pl_shaped p2 hm) ?_ e1 e2
  cases b : PyData.eqv v w with
  | true => exact k1 ((pl_eqv n m v w p1 p2).mp b)
  | false => exact k2 fun z => by rw [(pl_eqv n m v w p1 p2).mpr z] at b; cases b
theorem m_neT {n m : Nat} {v w : PyData} (h1 : toPy (.tup xs) = some v) (h2 : toPy (.tup ys) = some w) (p1 : Pl n v = true) (p2 : Pl m w = true) (k1 : v = w → q (.bl false) S) (k2 : v ≠ w → q (.bl true) S) (hn : n ≤ 64 := by decide) (hm : m ≤ 64 := by decide) (e1 : pk S d = .tup xs := by rfl) (e2 : pk S e = .tup ys := by rfl) : fNe d e S q := by
  refine m_neP h1 h2 (pl_shaped p1 hn) (pl_shaped p2 hm) ?_ e1 e2
  cases b : PyData.eqv v w with
  | true => exact k1 ((pl_eqv n m v w p1 p2).mp b)
  | false => exact k2 fun z => by rw [(pl_eqv n m v w p1 p2).mpr z] at b; cases b
theorem toPyL_strs : ∀ zs : List Str, toPyL (zs.map D.str) = some (zs.map PyData.str)
  | [] => rfl
  | z :: t => by rw [List.map_cons, toPyL, toPyL_strs t]; rfl
theorem toPy_tup {vs : List PyData} (h : toPyL xs = some vs) : toPy (.tup xs) = some (.tuple vs) := by rw [toPy, h]; rfl
theorem toPy_lst {vs : List PyData} (h : toPyL xs = some vs) : toPy (.lst xs) = some (.list vs) := by rw [toPy, h]; rfl
theorem pl_strs {zs : List Str} (h : ∀ z ∈ zs, PyData.strOk z = true) : Pl 2 (.tuple (zs.map PyData.str)) = true := by
  simp only [Pl, List.all_map, List.all_eq_true]
  exact h
theorem tup_strs_inj {zs ys : List Str} : PyData.tuple (zs.map PyData.str) = PyData.tuple (ys.map PyData.str) ↔ zs = ys := by
  rw [PyData.tuple.injEq]
  constructor
  · intro h
    exact (List.map_inj_right fun _ _ h => PyData.str.inj h).mp h
  · intro h; rw [h]
/-- == of two tuples of texts -/
theorem m_eqTS {zs ys : List Str} (h1 : ∀ z ∈ zs, PyData.strOk z = true) (h2 : ∀ z ∈ ys, PyData.strOk z = true) (h : q (.bl (decide (zs = ys))) S) (e1 : pk S d = .tup (zs.map D.str) := by rfl) (e2 : pk S e = .tup (ys.map D.str) := by rfl) : fEq d e S q :=
  m_eqT (toPy_tup (toPyL_strs zs)) (toPy_tup (toPyL_strs ys)) (pl_strs h1) (pl_strs h2) (fun z => by rw [decide_eq_true (tup_strs_inj.mp z)] at h; exact h) (fun z => by rw [decide_eq_false fun y => z (tup_strs_inj.mpr y)] at h; exact h) (by decide) (by decide) e1 e2
theorem m_neTS {zs ys : List Str} (h1 : ∀ z ∈ zs, PyData.strOk z = true) (h2 : ∀ z ∈ ys, PyData.strOk z = true) (h : q (.bl (!decide (zs = ys))) S) (e1 : pk S d = .tup (zs.map D.str) := by rfl) (e2 : pk S e = .tup (ys.map D.str) := by rfl) : fNe d e S q :=
  m_neT (toPy_tup (toPyL_strs zs)) (toPy_tup (toPyL_strs ys)) (pl_strs h1) (pl_strs h2) (fun z => by rw [decide_eq_true (tup_strs_inj.mp z)] at h; exact h) (fun z => by rw [decide_eq_false fun y => z (tup_strs_inj.mpr y)] at h; exact h) (by decide) (by decide) e1 e2
/-- == of two lists -/
theorem m_eqL {n m : Nat} {v w : PyData} (h1 : toPy (.lst xs) = some v) (h2 : toPy (.lst ys) = some w) (p1 : Pl n v = true) (p2 : Pl m w = true) (k1 : v = w → q (.bl true) S) (k2 : v ≠ w → q (.bl false) S) (hn : n ≤ 64 := by decide) (hm : m ≤ 64 := by decide) (e1 : pk S d = .lst xs := by rfl) (e2 : pk S e = .lst ys := by rfl) : fEq d e S q := by
  unfold fEq
  rw [e1, e2]
  refine ⟨v, w, h1, h2, pl_shaped p1 hn, pl_shaped p2 hm, ?_⟩
  cases b : PyData.eqv v w with
  | true => exact k1 ((pl_eqv n m v w p1 p2).mp b)
  | false => exact k2 fun z => by rw [(pl_eqv n m v w p1 p2).mpr z] at b; cases b
theorem m_neL {n m : Nat} {v w : PyData} (h1 : toPy (.lst xs) = some v) (h2 : toPy (.lst ys) = some w) (p1 : Pl n v = true) (p2 : Pl m w = true) (k1 : v = w → q (.bl false) S) (k2 : v ≠ w → q (.bl true) S) (hn : n ≤ 64 := by decide) (hm : m ≤ 64 := by decide) (e1 : pk S d = .lst xs := by rfl) (e2 : pk S e = .lst ys := by rfl) : fNe d e S q := by
  unfold fNe
  rw [e1, e2]
  refine ⟨v, w, h1, h2, pl_shaped p1 hn, pl_shaped p2 hm, ?_⟩
  cases b : PyData.eqv v w with
  | true => exact k1 ((pl_eqv n m v w p1 p2).mp b)
  | false => exact k2 fun z => by rw [(pl_eqv n m v w p1 p2).mpr z] at b; cases b
/-! runs: pairs of a text and a number -/
def runD (r : Str × Int) : D := .tup [.str r.1, .int r.2]
theorem toPyL_runs : ∀ rs : List (Str × Int), toPyL (rs.map runD) = some (rs.map pairD)
  | [] => rfl
  | r :: t => by rw [List.map_cons, toPyL, toPyL_runs t]; rfl
theorem pl_runs {rs : List (Str × Int)} (h : ∀ r ∈ rs, PyData.strOk r.1 = true) : (rs.map pairD).all (Pl 2) = true := by
  rw [List.all_map, List.all_eq_true]
  intro r hr
  show Pl 2 (pairD r) = true
  simp [pairD, Pl, h r hr]
theorem pairs_inj {rs ts : List (Str × Int)} : rs.map pairD = ts.map pairD ↔ rs = ts := by
  refine ⟨fun h => (List.map_inj_right fun a b h => ?_).mp h, fun h => by rw [h]⟩
  obtain ⟨a1, a2⟩ := a
  obtain ⟨b1, b2⟩ := b
  simp [pairD] at h
  rw [h.1, h.2]
theorem runs_vals (rs : List (Str × Int)) : allVal (rs.map runD) = true := by
  unfold allVal
  rw [List.all_map, List.all_eq_true]
  intro r _
  rfl
theorem runs_at {rs : List (Str × Int)} {i : Nat} {e : D} (h : (rs.map runD)[i]? = some e) : ∃ r, rs[i]? = some r ∧ e = runD r := by
  rw [List.getElem?_map] at h
  cases q : rs[i]? with
  | none => rw [q] at h; cases h
  | some z => rw [q] at h; cases h; exact ⟨z, rfl, rfl⟩
theorem atI_snoc {α : Type} (xs : List α) (x : α) : atI (xs ++ [x]) (-1) = some x := by
  unfold atI ixN
  have h : ¬ (0 : Int) ≤ -1 := by decide
  have h2 : -((xs ++ [x]).length : Int) ≤ -1 := by rw [List.length_append, List.length_singleton]; omega
  rw [if_neg h, if_pos h2]
  have e : (-1 + ((xs ++ [x]).length : Int)).toNat = xs.length := by rw [List.length_append, List.length_singleton]; omega
  rw [e, Option.bind_some]
  simp
theorem ixN_snoc (n : Nat) : ixN (n + 1) (-1) = some n := by
  unfold ixN
  have h : ¬ (0 : Int) ≤ -1 := by decide
  rw [if_neg h, if_pos (by omega)]
  have e : (-1 + ((n + 1 : Nat) : Int)).toNat = n := by omega
  rw [e]
end
section
variable {S : Sto} {q : DK} {x : XM} {η : Nv} {nx bk ct : Nv → Sto → Prop} {rt : D → Sto → Prop} {ex : Exn → Nv → Sto → Prop} {i : Nat} {m mk : ME}
def kSx (i : Nat) (t : Option Addr) (acc : List D) (d : D) (η : Nv) (nx : Nv → Sto → Prop) : DK := fun z S2 => match pk S2 z with
  | .int k => ∃ j, ixN acc.length k = some j ∧ nx (η.set i (some (.own t (.lst (acc.set j d))))) S2
  | _ => False
theorem m_setIx {t : Option Addr} {acc : List D} (e : η[i]? = some (some (.own t (.lst acc)))) (h : m η S (fun d S1 => d.val = true ∧ mk η S1 (kSx i t acc d η nx) (fun x S => ex x η S)) (fun x S => ex x η S)) : mSetIx i mk m η S ⟨nx, rt, bk, ct, ex⟩ := ⟨t, acc, e, h⟩
theorem m_kSx {t : Option Addr} {acc : List D} {d : D} {k : Int} {j : Nat} (e : ixN acc.length k = some j) (h : nx (η.set i (some (.own t (.lst (acc.set j d))))) S) : kSx i t acc d η nx (.int k) S := ⟨j, e, h⟩
theorem m_star {ma : MA} {q : List D → Sto → Prop} (h : m η S (fun d S1 => ∃ xs, (d = .lst xs ∨ d = .tup xs ∨ d = .ftp xs ∨ d = .bor (.lst xs)) ∧ ma η S1 (fun ds S2 => q (xs ++ ds) S2) x) x) (mono : ∀ {q q' : DK}, (∀ d S, q d S → q' d S) → m η S q x → m η S q' x) : mStar m ma η S q x := by
  refine mono (fun d S h => ?_) h
  obtain ⟨xs, rfl | rfl | rfl | rfl, h⟩ := h <;> exact h
theorem lcL2_ind {g : MG} {tt : MT} {mi1 : MI} {g1 : MG} {tt1 : MT} {te : ME} {vs1 : List Nat} {ds : List D} {q : List D → Sto → Prop} (Inv : Nat → List D → Sto → Prop) (h0 : Inv 0 [] S)
    (hs : ∀ i d acc S (nx : List D → Sto → Prop), ds[i]? = some d → Inv i acc S → (∀ acc' S', Inv (i + 1) acc' S' → nx acc' S') → g d η S fun η1 S1 => tt η1 S1 (fun b S2 => if b = true then mi1 η1 S2 (fun b1 es S3 => b1 = true ∧ lcL g1 tt1 te (wipeD η1 vs1) es acc S3 nx) (fun _ _ => False) else nx acc S2) (fun _ _ => False))
    (hq : ∀ acc S, Inv ds.length acc S → q acc S) : lcL2 g tt mi1 g1 tt1 te vs1 η ds [] S q := by
  have go : ∀ (r : List Mi.D) (i : Nat) (acc : List D) (S : Sto), ds.drop i = r → Inv i acc S → i ≤ ds.length → lcL2 g tt mi1 g1 tt1 te vs1 η r acc S q := by
    intro r
    induction r with
    | nil =>
      intro i acc S e h hi
      have hl := congrArg List.length e
      rw [List.length_drop, List.length_nil] at hl
      have : i = ds.length := by omega
      subst this
      exact hq acc S h
    | cons d r ih =>
      intro i acc S e h hi
      have hi2 : i < ds.length := by
        have hl := congrArg List.length e
        rw [List.length_drop, List.length_cons] at hl
        omega
      rw [List.drop_eq_getElem_cons hi2, List.cons.injEq] at e
      exact hs i d acc S (fun acc S => lcL2 g tt mi1 g1 tt1 te vs1 η r acc S q) (by rw [← e.1, List.getElem?_eq_getElem hi2]) h fun η' S' z => ih (i + 1) η' S' e.2 z hi2
  exact go ds 0 [] S rfl h0 (Nat.zero_le _)
def kLc2 (g : MG) (tt : MT) (mi1 : MI) (g1 : MG) (tt1 : MT) (te : ME) (vs vs1 : List Nat) (η : Nv) (q : DK) : Bool → List D → Sto → Prop := fun _ ds S1 => lcL2 g tt mi1 g1 tt1 te vs1 (wipeD η vs) ds [] S1 (fun acc S2 => q (.lst acc) S2)
theorem m_lc2 {mi mi1 : MI} {g g1 : MG} {tt tt1 : MT} {vs vs1 : List Nat} (h : mi η S (kLc2 g tt mi1 g1 tt1 m vs vs1 η q) x) : mLc2 mi g tt mi1 g1 tt1 m vs vs1 η S q x := h
theorem m_kLc2 {mi1 : MI} {g g1 : MG} {tt tt1 : MT} {vs vs1 : List Nat} {b : Bool} {ds : List D} (h : lcL2 g tt mi1 g1 tt1 m vs1 (wipeD η vs) ds [] S (fun acc S2 => q (.lst acc) S2)) : kLc2 g tt mi1 g1 tt1 m vs vs1 η q b ds S := h
theorem m_makeN {f : MF} {ma mb : MA} {n n0 m0 : Nat} (h : ma η S (fun ds S1 => mb η S1 (fun es S2 => ds.length = n0 ∧ es.length = m0 ∧ n0 + m0 + 1 = n ∧ f ((ds ++ es).map argD) S2 q x) x) x) : mMakeN n n0 m0 f ma mb η S q x := h
theorem m_makeN0 {f : MF} {ma mb : MA} {n n0 m0 : Nat} (h : ma η S (fun ds S1 => mb η S1 (fun es S2 => ds.length = n0 ∧ es.length = m0 ∧ n0 + m0 + 1 = n ∧ f ((ds ++ es).map argD) S2 q (fun _ _ => False)) x) x) : mMakeN0 n n0 m0 f ma mb η S q x := h
theorem m_makeNL {f : MF} {ma mb : MA} {n n0 m0 : Nat} {c : Str} (e : η[i]? = some (some (.cls c))) (h : mMakeN n n0 m0 f ma mb η S q x) : mMakeNL i c n n0 m0 f ma mb η S q x := ⟨e, h⟩
def kMe (c m : Str) (n : Nat) (f : MF) (ma : MA) (η : Nv) (q : DK) (x x' : XM) : DK := fun d S1 => match pk S1 d with
  | .obj c' fs => c' = c ∧ fs.lookup m = none ∧ ma η S1 (fun ds S2 => ds.length + 1 = n ∧ f (argD d :: ds.map argD) S2 (qv q) x') x
  | _ => False
theorem m_meth {c g : Str} {n : Nat} {f : MF} {ma : MA} (h : m η S (kMe c g n f ma η q x x) x) : mMeth c g n f m ma η S q x := h
theorem m_meth0 {c g : Str} {n : Nat} {f : MF} {ma : MA} (h : m η S (kMe c g n f ma η q x (fun _ _ => False)) x) : mMeth0 c g n f m ma η S q x := h
theorem m_kMe {c g : Str} {n : Nat} {f : MF} {ma : MA} {x' : XM} {fs : List (Str × D)} (e : fs.lookup g = none) (h : ma η S (fun ds S2 => ds.length + 1 = n ∧ f (D.obj c fs :: ds.map argD) S2 (qv q) x') x) : kMe c g n f ma η q x x' (.obj c fs) S := ⟨rfl, e, h⟩
def kPr (c : Str) (f : MF) (q : DK) : DK := fun d S1 => match pk S1 d with
  | .obj c' _ => c' = c ∧ f [argD d] S1 (qv q) (fun _ _ => False)
  | _ => False
theorem m_prop {c : Str} {f : MF} (h : m η S (kPr c f q) x) : mProp c f m η S q x := h
theorem m_kPr {c : Str} {f : MF} {fs : List (Str × D)} (h : f [.obj c fs] S (qv q) (fun _ _ => False)) : kPr c f q (.obj c fs) S := ⟨rfl, h⟩
theorem m_cm0 {c : Str} {n : Nat} {f : MF} {ma : MA} (h : ma η S (fun ds S1 => ds.length + 1 = n ∧ f (.cls c :: ds.map argD) S1 (qv q) (fun _ _ => False)) x) : mCm0 c n f ma η S q x := h
def kLi (me : ME) (η : Nv) (q : DK) (x : XM) : DK := fun d S1 => (match pk S1 d with
    | .lst _ => True
    | _ => False) ∧ me η S1 (fun e S2 => match pk S2 d, pk S2 e with
    | .lst xs, .str z => ∃ ys j, strsD xs = some ys ∧ ys[j]? = some z ∧ (∀ m, m < j → ys[m]? ≠ some z) ∧ q (.int (j : Nat)) S2
    | _, _ => False) x
theorem m_lstIx (h : m η S (kLi mk η q x) x) : mLstIx m mk η S q x := h
theorem m_kLi {zs : List Str} (h : m η S (fun e S2 => ∃ z, pk S2 e = .str z ∧ ∃ j : Nat, zs[j]? = some z ∧ (∀ m, m < j → zs[m]? ≠ some z) ∧ q (.int j) S2) x) (mono : ∀ {q q' : DK}, (∀ d S, q d S → q' d S) → m η S q x → m η S q' x) : kLi m η q x (.lst (zs.map .str)) S := by
  refine ⟨trivial, mono (fun d S h => ?_) h⟩
  obtain ⟨z, e, j, h1, h2, h3⟩ := h
  show match pk S (.lst (zs.map .str)), pk S d with
    | .lst xs, .str z => ∃ ys j, strsD xs = some ys ∧ ys[j]? = some z ∧ (∀ m, m < j → ys[m]? ≠ some z) ∧ q (.int (j : Nat)) S
    | _, _ => False
  rw [e]
  exact ⟨zs, j, strsD_of zs, h1, h2, h3⟩
theorem m_forC {mg : MG} {mb : MS} {d : D} {r : List D} (h : mg d η S fun η1 S1 => mb η1 S1 ⟨fun η S => forL mg mb r η S ⟨nx, rt, bk, ct, ex⟩, rt, nx, fun η S => forL mg mb r η S ⟨nx, rt, bk, ct, ex⟩, ex⟩) : forL mg mb (d :: r) η S ⟨nx, rt, bk, ct, ex⟩ := h
theorem m_forN {mg : MG} {mb : MS} (h : nx η S) : forL mg mb [] η S ⟨nx, rt, bk, ct, ex⟩ := h
theorem flat_unit : ∀ w : List Str, flatR (unitR w) = w
  | [] => rfl
  | z :: t => by
    show List.replicate 1 z ++ flatR (unitR t) = _
    rw [flat_unit t]; rfl
theorem flat_jw (w : List Str) : flatR (joinR (unitR w)) = w := (flat_join (unit_pos w)).trans (flat_unit w)
end
end Mi
/-! Mirrors: own + and classmethods that may raise, displays of dicts, while, try -/
namespace Mi
open PySem L2 Aq Evl ClX
section
variable {X : Cx} {k j : Nat} {C : Addr} {m : Str} {ps : List Str} {sp : Sp} {e o i : Expr} {es : List Expr} {pos apos : Pos} {ta tb : TE} {t : TA} {W : WX} {pins : List (Addr × Obj)} {σ : L2.St} {H : Hp} {s : Shared}
/-! ### o + e by an own __add__ -/
def W0 : WX := fun _ _ _ _ => False
def tAddW (K : PySem.W.Frag) (C : Addr) (sp : Sp) (W : WX) (ta tb : TE) : TE := fun σ H Q => ta σ H fun x H1 => tb σ H1 fun y H2 => ∃ p dx fs q, x = .ref p ∧ H2 p = some (.ins C dx fs) ∧ y = .ref q ∧
  ((∃ xs, SqL K H2 q xs ∧ AddC K C "list") ∨ (∃ xs, SqT K H2 q xs ∧ AddC K C "tuple")) ∧ sp [x, y] H2 (fun v H' => (∃ b, v = .ref b) ∧ Q v H') fun c d H' => W c d σ H'
theorem pe_addA (c : MthX X.prog X.w X.K X.mg X.base k C "__add__" ps sp) (hr : Room j X.A) (hx : ∀ σ, PassAt X σ fun c d H => W c d σ H) (ho : PE X o ta) (hi : PE X i tb) (hk : k ≤ j := by decide) : PE X (.BinOp o .Add i pos) (tAddW X.K C sp W ta tb) := by
  obtain ⟨f, fd, M, F, b⟩ := c.ex
  refine ⟨fun pins s σ H Q I h => wpAny_BinOp (binT ho hi I h fun v u s2 x y H2 I2 rx ry z => ?_)⟩
  obtain ⟨p, dx, fs, q, rfl, hp, rfl, hq, h⟩ := z
  cases rx
  cases ry
  obtain ⟨mA, J, _⟩ := ins_get I2.hok hp
  obtain ⟨od, J, _⟩ := J.look
  have r2 : Vals [V.ref p, V.ref q] [Value.ref p, Value.ref q] := .cons rfl (.cons rfl .nil)
  have run : wpAny (model X.prog X.w) X.A (call (.ref f) [Value.ref p, Value.ref q]) (PySem.W.CmpBack (EP X pins σ Q)) X.xe s2 := by
    refine wpAny_mono (runA F (hr.mono hk) b .nil (hx σ) I2 r2 (by rw [List.append_nil]; exact h)) (fun v s' z => ?_) fun _ _ e => e
    obtain ⟨z, H', I', rz, ⟨b', rfl⟩, q⟩ := z
    cases rz
    exact ⟨V.ref b', H', I', rfl, q⟩
  rcases hq with ⟨xs, hq, ac⟩ | ⟨xs, hq, ac⟩
  · obtain ⟨its, _, pl, _⟩ := I2.list hq
    exact add_seq I2.kIn J (looks_ty pl.isList.typeIs) ac M.at_ M.fn run
  · obtain ⟨its, _, pl, _⟩ := I2.tuple hq
    exact add_seq I2.kIn J (looks_ty pl.typeIs) ac M.at_ M.fn run
theorem pe_addX {K : PySem.W.Frag} (c : MthX X.prog X.w X.K X.mg X.base k C "__add__" ps sp) (hr : Room j X.A) (tk : Takes X W) (ho : PE X o ta) (hi : PE X i tb) (hk : k ≤ j := by decide) (hK : X.K = K := by rfl) : PE X (.BinOp o .Add i pos) (tAddW K C sp W ta tb) := hK ▸ pe_addA c hr (fun σ => passAt tk) ho hi hk
theorem pe_addX0 {K : PySem.W.Frag} (c : MthX X.prog X.w X.K X.mg X.base k C "__add__" ps sp) (hr : Room j X.A) (ho : PE X o ta) (hi : PE X i tb) (hk : k ≤ j := by decide) (hK : X.K = K := by rfl) : PE X (.BinOp o .Add i pos) (tAddW K C sp W0 ta tb) := hK ▸ pe_addA c hr (fun σ pins H s e s' I z => passX0 pins σ H s e s' I z) ho hi hk
/-! ### C.m(..) that may raise -/
theorem run_cmA {q g : Addr} {E : XK} {Q : VK} {us : List Value} {vs : List V} (F : FnR X.prog X.w X.K X.mg X.base (L2.CX X.prog X.w) k g sp) (hr : Room k X.A) (hx : PassAt X σ E) (I : Inv X ((q, PySem.W.methodObj (.ref g) (.ref C)) :: pins) σ H s)
    (r : Vals vs us) (h : sp (.ref C :: vs) H Q E) : wpAny (model X.prog X.w) X.A (call (.ref q) us) (EP X pins σ Q) X.xe s := by
  have z : wpAny (model X.prog X.w) X.A (call (.ref q) us) (EP X ((q, PySem.W.methodObj (.ref g) (.ref C)) :: pins) σ Q) X.xe s := by
    refine wpAny_call (PySem.W.method_call (pin_at I) (codeAny_mono (F X.A X.stack s H (.ref C :: us) (.ref C :: vs) Q E hr I.env0 (.cons rfl r) h) fun out s' hq => ?_))
    match out, hq with
    | .error e, hq => exact hx _ H s e s' I hq
    | .ok (.ret u), hq => exact I.after hq
    | .ok .next, hq => exact hq.elim
    | .ok .brk, hq => exact hq.elim
    | .ok .cont, hq => exact hq.elim
  exact thn z fun _ _ y => unpinE y
def tCmW (C : Addr) (sp : Sp) (W : WX) (ta : TE) (t : TA) : TE := fun σ H Q => ta σ H fun x H1 => x = .ref C ∧ t σ H1 fun vs H2 => sp (.ref C :: vs) H2 Q fun c d H' => W c d σ H'
theorem pe_cmX {pl : Sem Bool} (c : CmX X.prog X.w X.K X.mg X.base k C m sp) (hr : Room j X.A) (tk : Takes X W) (ho : PE X o ta) (ha : PA X (e :: es) t) (hk : k ≤ j := by decide)
    (hst : starEach (e :: es) X.env = (false, eval e X.env) :: starEach es X.env := by rfl) (hpl : (backTo pos (starEach es X.env)).any (·.1) = false := by rfl)
    (ht : eval (.Call (.Attribute o m apos) (e :: es) [] pos) X.env = (do
      let ov ← eval o X.env
      standAt apos.atName
      let (f, first) ← holding [ov] (getMethod ov m pl)
      callWith pos f first (backTo pos (starEach (e :: es) X.env)) (backToKw pos (keywordEach [] X.env))) := by rfl) : PE X (.Call (.Attribute o m apos) (e :: es) [] pos) (tCmW C sp W ta t) := by
  obtain ⟨mc, p, g, fd, ps, r, cm, F, b⟩ := c.ex
  refine ⟨fun pins s σ H Q I h => ?_⟩
  refine PySem.W.methodCall_KW (pl := pl) (thn (ho.run pins s σ H _ I h) fun u s1 ⟨x, H1, I1, rx, ex, q⟩ => ?_) ht
  subst ex
  obtain rfl : u = Value.ref C := rx
  refine getmethcm_ok I1 r cm fun s2 I2 => ?_
  refine callwith_cm I2 (base_none I1 (Nat.le_refl _)) cm.fi (thn (ha.run pos _ s2 σ H1 _ I2 q) fun us s3 ⟨vs, H2, I3, rv, q2⟩ => ⟨⟨pin_at I3, I3.kIn⟩, ?_⟩) hst hpl
  exact run_cmA (fnr_of F b) (hr.mono hk) (passAt tk) I3 rv q2
end
/-! ### their mirrors -/
section
variable {K : PySem.W.Frag} {κ : Str → Addr} {w w' w1 : Wd} {η : Nv} {σ : L2.St} {W : WX} {n : Nat} {f : MF} {t : TA} {ma : MA} {ta tb : TE} {mo mb : ME} {c : Str} {C : Addr}
def isO : D → Bool
  | .obj _ _ => true
  | _ => false
def fAddOwn (c : Str) (f : MF) (d e : D) (S : Sto) (q : DK) (x : XM) : Prop := match pk S d, pk S e with
  | .obj c1 _, .lst _ => c1 = c ∧ f [argD d, argD e] S (qv fun z S1 => isO z = true ∧ q z S1) x
  | .obj c1 _, .tup _ => c1 = c ∧ f [argD d, argD e] S (qv fun z S1 => isO z = true ∧ q z S1) x
  | _, _ => False
def mAddW (c : Str) (f : MF) (mo mb : ME) : ME := fun η S q x => mo η S (fun d S1 => mb η S1 (fun e S2 => fAddOwn c f d e S2 q x) x) x
def mAdd0 (c : Str) (f : MF) (mo mb : ME) : ME := fun η S q x => mo η S (fun d S1 => mb η S1 (fun e S2 => fAddOwn c f d e S2 q (fun _ _ => False)) x) x
theorem isO_ref {d : D} {v : V} (h : RX K κ w d v) (e : isO d = true) : ∃ b, v = .ref b := by
  cases d with
  | obj c fs => obtain ⟨a, _, _, rfl, _⟩ := h; exact ⟨a, rfl⟩
  | _ => cases e
theorem rf_addE {We : WX} (hC : κ c = C) (al : AddC K C "list") (at_ : AddC K C "tuple") {d d2 : D} {u v : V} {q : DK} {x : XM} {Q : VK} (g2 : Good K κ w) (rx2 : RX K κ w d u) (ry : RX K κ w d2 v) (h : fAddOwn c f d d2 w.S q x) (k : KX K κ w q Q) (hx : HX K κ We w σ x) :
    ∃ p dx fs q, u = .ref p ∧ w.H p = some (.ins C dx fs) ∧ v = .ref q ∧ ((∃ xs, SqL K w.H q xs ∧ AddC K C "list") ∨ (∃ xs, SqT K w.H q xs ∧ AddC K C "tuple")) ∧ spM K κ 2 f [u, v] w.H (fun v H' => (∃ b, v = .ref b) ∧ Q v H') fun c d H' => We c d σ H' := by
  have run : ∀ {a : V} {b : V}, u = a → v = b → f [argD d, argD d2] w.S (qv fun z S1 => isO z = true ∧ q z S1) x → spM K κ 2 f [a, b] w.H (fun v H' => (∃ b, v = .ref b) ∧ Q v H') fun c d H' => We c d σ H' := fun {a b} e1 e2 hf => by
    subst e1; subst e2
    exact sp_call (ds := [d, d2]) g2 (.cons rx2 (.cons ry .nil)) rfl hf (fun w' z v g' gr r hq => ⟨isO_ref r hq.1, k w' z v g' gr r hq.2⟩) (E := fun c d H => We c d σ H) hx
  unfold fAddOwn at h
  split at h
  · rename_i c1 f1 ds e1 e2
    obtain ⟨rfl, hf⟩ := h
    obtain ⟨a, dx, us, e3, h1, _⟩ := obj_of g2 rx2 e1
    obtain ⟨b, vs, e4, h2, _⟩ := lst_of g2 ry e2
    exact ⟨a, dx, us, b, e3, hC ▸ h1, e4, .inl ⟨vs, .inl (.inl h2), al⟩, run rfl rfl hf⟩
  · rename_i c1 f1 ds e1 e2
    obtain ⟨rfl, hf⟩ := h
    obtain ⟨a, dx, us, e3, h1, _⟩ := obj_of g2 rx2 e1
    obtain ⟨b, vs, e4, h2, _⟩ := tup_of g2 ry e2
    exact ⟨a, dx, us, b, e3, hC ▸ h1, e4, .inr ⟨vs, h2.sq, at_⟩, run rfl rfl hf⟩
  · exact h.elim
theorem rf_addW (hC : κ c = C) (al : AddC K C "list") (at_ : AddC K C "tuple") (ho : RfE K κ W ta mo) (h : RfE K κ W tb mb) : RfE K κ W (tAddW K C (spM K κ 2 f) W ta tb) (mAddW c f mo mb) :=
  ⟨fun w η σ q x Q g e hm hx k => ho.go w η σ _ x _ g e hm hx fun w1 d u g1 gr1 rx hm1 => h.go w1 η σ _ x _ g1 (e.gr g gr1) hm1 (hx.gr gr1) fun w2 d2 v g2 gr2 ry hm2 =>
    rf_addE hC al at_ g2 (rx.gr g1 gr2) ry hm2 (k.gr (gr1.trans gr2)) (hx.gr (gr1.trans gr2))⟩
theorem rf_add0 (hC : κ c = C) (al : AddC K C "list") (at_ : AddC K C "tuple") (ho : RfE K κ W ta mo) (h : RfE K κ W tb mb) : RfE K κ W (tAddW K C (spM K κ 2 f) W0 ta tb) (mAdd0 c f mo mb) :=
  ⟨fun w η σ q x Q g e hm hx k => ho.go w η σ _ x _ g e hm hx fun w1 d u g1 gr1 rx hm1 => h.go w1 η σ _ x _ g1 (e.gr g gr1) hm1 (hx.gr gr1) fun w2 d2 v g2 gr2 ry hm2 =>
    rf_addE (x := fun _ _ => False) hC al at_ g2 (rx.gr g1 gr2) ry hm2 (k.gr (gr1.trans gr2)) (fun _ _ _ _ _ _ _ z => z.elim)⟩
theorem fin_of {X : Cx} {sts : List Stmt} {N : List Str} {m : MS} {t : TS} {vs : List V} {H : Hp} {Q : VK} {E : XK} (d : PSs X sts t) (r : RfS K κ (fun c d _ H => E c d H) t m) (h : spM K κ n (runB N.length m) vs H Q E) :
    ∃ t, PSs X sts t ∧ t { nx := fun _ H' => Q .non H', rt := Q } (L2.start N vs) H := ⟨t, d, body_of r h⟩
/-- try in a def that lets nothing out -/
def mTry0 (es : List Str) (sub : Str → Str → Bool) (mb : MS) (cls : List Cl) : MS := fun η S D => mTry es sub mb cls η S { D with ex := fun _ _ _ => False }
theorem rf_try0 {es : List Str} {sub : Str → Str → Bool} {tb : WX → TS} {mb : MS} {l : List Clause} {cls : List Cl} (so : SubOk K κ es sub) (hc : ∀ cl ∈ cls, cl.c ∈ es) (hb : ∀ W, RfS K κ W (tb W) mb) (h : RfCl K κ l cls) :
    RfS K κ W (fun D σ H => tb (wAsM K (fun _ _ _ _ => False) D l) D σ H) (mTry0 es sub mb cls) :=
  ⟨fun w η σ D Dh g e hm k => (rf_try (W := fun _ _ _ _ => False) so hc hb h).go w η σ _ Dh g e hm ⟨k.nx, k.rt, k.bk, k.ct, fun _ _ _ _ _ _ _ _ _ _ z => z.elim⟩⟩
def mCm (c : Str) (n : Nat) (f : MF) (ma : MA) : ME := fun η S q x => ma η S (fun ds S1 => ds.length + 1 = n ∧ f (.cls c :: ds.map argD) S1 (qv q) x) x
theorem rf_cmW (hC : κ c = C) (h : RfA K κ W t ma) : RfE K κ W (tCmW C (spM K κ n f) W (tC (.ref C)) t) (mCm c n f ma) :=
  ⟨fun w η σ q x Q g e hm hx k => ⟨rfl, h.go w η σ _ x _ g e hm hx fun w1 ds vs g1 gr1 pr ⟨hl, hf⟩ => by
    have rc : RX K κ w1 (.cls c) (.ref C) := by show V.ref C = .ref (κ c); rw [hC]
    exact sp_call (ds := .cls c :: ds) g1 (.cons rc pr) (by simpa using hl) hf (k.gr gr1) (E := fun c d H => W c d σ H) (hx.gr gr1)⟩⟩
end
theorem cl_nil {es : List Str} : ∀ cl ∈ ([] : List Cl), cl.c ∈ es := nofun
theorem cl_cons {es : List Str} (c : Str) {i : Option Nat} {m : Addr → Option Addr → Str → MS} {r : List Cl} (h : c ∈ es) (t : ∀ cl ∈ r, cl.c ∈ es) : ∀ cl ∈ (⟨c, i, m⟩ :: r : List Cl), cl.c ∈ es := fun cl q => by
  rcases List.mem_cons.mp q with q | q
  · rw [q]; exact h
  · exact t cl q
/-! ### displays of dicts -/
def keyD : D → Option Key
  | .int i => some (.inl i)
  | .str z => some (.inr z)
  | _ => none
def putKD (kvs : List (Key × D)) (k : Key) (v : D) : List (Key × D) :=
  if (kvs.any fun kv => decide (kv.1 = k)) = true then kvs.map (fun kv => if kv.1 = k then (kv.1, v) else kv) else kvs ++ [(k, v)]
def mergeD (kvs more : List (Key × D)) : List (Key × D) := more.foldl (fun acc kv => putKD acc kv.1 kv.2) kvs
section
variable {K : PySem.W.Frag} {κ : Str → Addr} {w w' w1 : Wd} {η : Nv} {σ : L2.St} {W : WX}
theorem key_of {d : D} {v : V} {k : Key} (h : RX K κ w d v) (e : keyD d = some k) : v = kV k := by
  cases d with
  | int i => cases e; exact h
  | str z => cases e; exact h
  | _ => cases e
theorem RepK.any {k : Key} : ∀ {kvs : List (Key × D)} {us : List (Key × V)}, RepK K κ w kvs us → (us.any fun kv => decide (kv.1 = k)) = (kvs.any fun kv => decide (kv.1 = k))
  | [], _, h => by cases h; rfl
  | (a, d) :: r, us, ⟨v, t, e, _, l⟩ => by subst e; rw [List.any_cons, List.any_cons, RepK.any l]
theorem RepK.app : ∀ {kvs ls : List (Key × D)} {us vs : List (Key × V)}, RepK K κ w kvs us → RepK K κ w ls vs → RepK K κ w (kvs ++ ls) (us ++ vs)
  | [], _, _, _, h, l => by cases h; exact l
  | (a, d) :: r, ls, us, vs, ⟨v, t, e, h, l⟩, m => by subst e; exact ⟨v, t ++ vs, rfl, h, RepK.app l m⟩
theorem RepK.mapP {k : Key} {d : D} {v : V} (hd : Rep K κ w d v) : ∀ {kvs : List (Key × D)} {us : List (Key × V)}, RepK K κ w kvs us → RepK K κ w (kvs.map fun kv => if kv.1 = k then (kv.1, d) else kv) (us.map fun kv => if kv.1 = k then (kv.1, v) else kv)
  | [], _, h => by cases h; exact rfl
  | (a, x) :: r, us, ⟨u, t, e, h, l⟩ => by
    subst e
    rw [List.map_cons, List.map_cons]
    by_cases q : a = k
    · simp only [q, if_true]; exact ⟨v, _, rfl, hd, RepK.mapP hd l⟩
    · simp only [q, if_false]; exact ⟨u, _, rfl, h, RepK.mapP hd l⟩
theorem RepK.put {k : Key} {d : D} {v : V} (hd : Rep K κ w d v) {kvs : List (Key × D)} {us : List (Key × V)} (h : RepK K κ w kvs us) : RepK K κ w (putKD kvs k d) (putK us k v) := by
  unfold putKD putK
  rw [h.any]
  split
  · exact RepK.mapP hd h
  · exact RepK.app h ⟨v, [], rfl, hd, rfl⟩
theorem RepK.merge : ∀ {more : List (Key × D)} {ms : List (Key × V)} {kvs : List (Key × D)} {us : List (Key × V)}, RepK K κ w more ms → RepK K κ w kvs us → RepK K κ w (mergeD kvs more) (mergeK us ms)
  | [], _, _, _, h, l => by cases h; exact l
  | (a, d) :: r, ms, kvs, us, ⟨v, t, e, h, l⟩, m => by
    subst e
    have z := RepK.merge (more := r) (ms := t) l (RepK.put (k := a) h m)
    exact z
def mPairs : List (ME × ME) → Nv → Sto → (List (Key × D) → Sto → Prop) → Prop
  | [], _, S, q => q [] S
  | (mk, mv) :: r, η, S, q => mk η S (fun kd S1 => mv η S1 (fun v S2 => ∃ k, keyD kd = some k ∧ v.val = true ∧ mPairs r η S2 fun kvs S3 => q ((k, v) :: kvs) S3) (fun _ _ => False)) (fun _ _ => False)
inductive RfPs (K : PySem.W.Frag) (κ : Str → Addr) (W : WX) : List (TE × TE) → List (ME × ME) → Prop
  | nil : RfPs K κ W [] []
  | cons {tk tv : TE} {mk mv : ME} {r : List (TE × TE)} {s : List (ME × ME)} (h : RfE K κ W tk mk) (h2 : RfE K κ W tv mv) (t : RfPs K κ W r s) : RfPs K κ W ((tk, tv) :: r) ((mk, mv) :: s)
theorem ps_go {ts : List (TE × TE)} {ms : List (ME × ME)} (h : RfPs K κ W ts ms) : ∀ (w : Wd) (q : List (Key × D) → Sto → Prop) (Q : List (V × V) → Hp → Prop), Good K κ w → EnvR K κ w η σ → mPairs ms η w.S q →
    (∀ w' kvs us, Good K κ w' → Gr w w' → RepK K κ w' kvs us → q kvs w'.S → Q (us.map fun kv => (kV kv.1, kv.2)) w'.H) → tPairs ts σ w.H Q := by
  induction h with
  | nil => intro w q Q g e hm k; exact k w [] [] g (.refl w) rfl hm
  | cons h h2 t ih =>
    intro w q Q g e hm k
    refine h.go w η σ _ _ _ g e hm hx_no fun w1 kd kv g1 gr1 rk hm1 => ?_
    refine h2.go w1 η σ _ _ _ g1 (e.gr g gr1) hm1 hx_no fun w2 d v g2 gr2 rv ⟨ky, ek, hv, hm2⟩ => ?_
    rw [key_of rk ek]
    refine ih w2 _ _ g2 ((e.gr g gr1).gr g1 gr2) hm2 fun w3 kvs us g3 gr3 l hq => ?_
    exact k w3 ((ky, d) :: kvs) ((ky, v) :: us) g3 ((gr1.trans gr2).trans gr3) ⟨v, us, rfl, Rep.stay gr3.stay _ _ (RX.rep hv rv), l⟩ hq
def mDisp (ms : List (ME × ME)) : ME := fun η S q x => mPairs ms η S fun kvs S1 => kvs.length ≤ 15 ∧ q (.dic (mergeD [] kvs)) S1
theorem rf_disp {ts : List (TE × TE)} {ms : List (ME × ME)} (h : RfPs K κ W ts ms) : RfN K κ W (tDisp ts) (mDisp ms) :=
  ⟨fun w η σ q x Q g e hm hx k => fun p hp => by
    obtain ⟨g1, x1, _⟩ := new_own (o := .dK []) g hp
    refine ps_go h _ _ _ g1 (e.grN g x1) hm fun w2 kvs us g2 gr2 l hq => ?_
    have hF : p ∈ ({ w with H := upd w.H p (.dK []), F := p :: w.F } : Wd).F := List.mem_cons_self
    have x2 := x1.then gr2
    have hp2 : w2.H p = some (.dK []) := (gr2.hF g1 hF).trans upd_same
    have hF2 : p ∈ w2.F := by rw [x2.F]; exact List.mem_cons_self
    obtain ⟨g3, st⟩ := own_put (o := .dK (mergeK [] us)) g2 hF2
    refine ⟨hp2, us, rfl, by rw [l.len]; exact hq.1, ?_⟩
    exact k _ (.dic (mergeD [] kvs)) p g3 x2.put rfl ⟨_, upd_same, RepK.merge (RepK.stay st.st _ _ l) (show RepK K κ _ [] [] from rfl)⟩ hq.2⟩
end
/-! ### readings -/
section
variable {η : Nv} {S : Sto} {q : DK} {x : XM} {d e : D} {ds xs ys : List D} {m n c : ME} {a b : MS} {mc : MT} {ma mb : MA} {nx bk ct : Nv → Sto → Prop} {rt : D → Sto → Prop} {ex : Exn → Nv → Sto → Prop} {z y : Str} {f : MF} {k : Nat}
theorem m_addW (h : m η S (fun d S1 => n η S1 (fun e S2 => fAddOwn z f d e S2 q x) x) x) : mAddW z f m n η S q x := h
theorem m_add0 (h : m η S (fun d S1 => n η S1 (fun e S2 => fAddOwn z f d e S2 q (fun _ _ => False)) x) x) : mAdd0 z f m n η S q x := h
theorem m_adOL {fs : List (Str × D)} (h : f [argD d, argD e] S (qv fun z S1 => isO z = true ∧ q z S1) x) (e1 : pk S d = .obj z fs := by rfl) (e2 : pk S e = .lst xs := by rfl) : fAddOwn z f d e S q x := by
  unfold fAddOwn
  rw [e1, e2]
  exact ⟨rfl, h⟩
theorem m_adOT {fs : List (Str × D)} (h : f [argD d, argD e] S (qv fun z S1 => isO z = true ∧ q z S1) x) (e1 : pk S d = .obj z fs := by rfl) (e2 : pk S e = .tup xs := by rfl) : fAddOwn z f d e S q x := by
  unfold fAddOwn
  rw [e1, e2]
  exact ⟨rfl, h⟩
theorem m_cm (h : ma η S (fun ds S1 => ds.length + 1 = k ∧ f (.cls z :: ds.map argD) S1 (qv q) x) x) : mCm z k f ma η S q x := h
theorem m_disp {ms : List (ME × ME)} (h : mPairs ms η S fun kvs S1 => kvs.length ≤ 15 ∧ q (.dic (mergeD [] kvs)) S1) : mDisp ms η S q x := h
theorem m_psNil {q : List (Key × D) → Sto → Prop} (h : q [] S) : mPairs [] η S q := h
def kPs (mv : ME) (r : List (ME × ME)) (η : Nv) (q : List (Key × D) → Sto → Prop) : DK := fun kd S1 => mv η S1 (fun v S2 => ∃ k, keyD kd = some k ∧ v.val = true ∧ mPairs r η S2 fun kvs S3 => q ((k, v) :: kvs) S3) (fun _ _ => False)
theorem m_psCons {r : List (ME × ME)} {q : List (Key × D) → Sto → Prop} (h : m η S (kPs n r η q) (fun _ _ => False)) : mPairs ((m, n) :: r) η S q := h
theorem m_kPs {r : List (ME × ME)} {q : List (Key × D) → Sto → Prop} {ky : Key} (e : keyD d = some ky) (h : n η S (fun v S2 => v.val = true ∧ mPairs r η S2 fun kvs S3 => q ((ky, v) :: kvs) S3) (fun _ _ => False)) (mono : ∀ {q q' : DK}, (∀ d S, q d S → q' d S) → n η S q (fun _ _ => False) → n η S q' (fun _ _ => False)) : kPs n r η q d S := mono (fun v S2 h => ⟨ky, e, h⟩) h
/-- while: what stays, and what becomes less -/
theorem whL_ind {D : MEnds} (μ : Nv → Sto → Nat) (Inv : Nv → Sto → Prop) (h0 : Inv η S) (hs : ∀ η S nx, Inv η S → (∀ η' S', Inv η' S' → μ η' S' < μ η S → nx η' S') →
    mc η S (fun b S1 => if b = true then a η S1 ⟨nx, D.rt, D.nx, nx, D.ex⟩ else D.nx η S1) (fun x S => D.ex x η S)) : mWhile mc a η S D := by
  have go : ∀ (n : Nat) (η : Nv) (S : Sto), Inv η S → μ η S < n → whL mc a n η S D := by
    intro n
    induction n with
    | zero => intro η S _ h; exact absurd h (Nat.not_lt_zero _)
    | succ n ih =>
      intro η S h hl
      exact hs η S (fun η S => whL mc a n η S D) h fun η' S' h' hl' => ih η' S' h' (by omega)
  exact ⟨μ η S + 1, go _ η S h0 (Nat.lt_succ_self _)⟩
/-- try: what is raised is handed to the clauses -/
theorem m_try {es : List Str} {sub : Str → Str → Bool} {cls : List Cl} (h : a η S ⟨nx, rt, bk, ct, fun e η S => handM es sub cls e η S ⟨nx, rt, bk, ct, ex⟩⟩) : mTry es sub a cls η S ⟨nx, rt, bk, ct, ex⟩ := h
theorem m_try0 {es : List Str} {sub : Str → Str → Bool} {cls : List Cl} (h : a η S ⟨nx, rt, bk, ct, fun e η S => handM es sub cls e η S ⟨nx, rt, bk, ct, fun _ _ _ => False⟩⟩) : mTry0 es sub a cls η S ⟨nx, rt, bk, ct, ex⟩ := h
theorem m_hdNo {es : List Str} {sub : Str → Str → Bool} {cls : List Cl} {i : Option Nat} {mm : Addr → Option Addr → Str → MS} {D : MEnds} {o : Option (List (Str × Mi.D))} (h1 : z ∈ es) (h2 : sub z y = false) (h : handM es sub cls (z, o) η S D) : handM es sub (⟨y, i, mm⟩ :: cls) (z, o) η S D := ⟨h1, by rw [if_neg (by show ¬ sub z y = true; rw [h2]; exact Bool.false_ne_true)]; exact h⟩
theorem m_hd {es : List Str} {sub : Str → Str → Bool} {cls : List Cl} {D : MEnds} {o : Option (List (Str × Mi.D))} {mm : Addr → Option Addr → Str → MS} (h1 : z ∈ es) (h2 : sub z y = true) (h : ∀ a d, (o.isSome = true → d.isSome = true) → mm a d z η S D) : handM es sub (⟨y, none, mm⟩ :: cls) (z, o) η S D := ⟨h1, by rw [if_pos h2]; exact h⟩
theorem m_hdN {es : List Str} {sub : Str → Str → Bool} {cls : List Cl} {o : Option (List (Str × Mi.D))} {i : Nat} {mm : Addr → Option Addr → Str → MS} (h1 : z ∈ es) (h2 : sub z y = true)
    (h : ∀ a d, (o.isSome = true → d.isSome = true) → mm a d z (η.set i (some (.exc a d z (o.getD [])))) S ⟨fun η S => nx (η.set i none) S, rt, fun η S => bk (η.set i none) S, fun η S => ct (η.set i none) S, fun e η S => ex e (η.set i none) S⟩) : handM es sub (⟨y, some i, mm⟩ :: cls) (z, o) η S ⟨nx, rt, bk, ct, ex⟩ := ⟨h1, by rw [if_pos h2]; exact h⟩
theorem m_mulL {i : Int} (h1 : 0 ≤ i) (h2 : i ≤ 1000) (h3 : xs.length * i.toNat ≤ 100000) (h : q (.lst (List.replicate i.toNat xs).flatten) S) : fMul (.lst xs) (.int i) S q := ⟨by omega, by omega, h3, h⟩
def kIsT (Kp : Ty → Ty → Bool) (t u : Ty) (q : DK) : DK := fun d S1 => ∃ y, tyD (pk S1 d) = some y ∧ Kp y t = true ∧ Kp y u = true ∧ q (.bl (subT y t || subT y u)) S1
theorem m_isiT {Kp : Ty → Ty → Bool} {t u : Ty} (h : m η S (kIsT Kp t u q) x) : mIsiT Kp t u m η S q x := h
theorem m_kIsT {Kp : Ty → Ty → Bool} {t u v : Ty} (e : tyD (pk S d) = some v) (h1 : Kp v t = true) (h2 : Kp v u = true) (h : q (.bl (subT v t || subT v u)) S) : kIsT Kp t u q d S := ⟨v, e, h1, h2, h⟩
def kUp (q : DK) : DK := fun d S1 => match d with
  | .str a => a.length ≤ 100000 ∧ q (.str (Txt.upper a)) S1
  | _ => False
theorem m_upper (h : m η S (kUp q) x) : mUpper m η S q x := h
theorem m_kUp (h1 : z.length ≤ 100000) (h : q (.str (Txt.upper z)) S) : kUp q (.str z) S := ⟨h1, h⟩
def kXf (a : Addr) (dd : Option Addr) (cn c : Str) (g : Str) (q : DK) : DK := fun z S1 => match z with
  | .exc a' d' c' fs => a' = a ∧ d' = dd ∧ c' = c ∧ cn = c ∧ d'.isSome = true ∧ ∃ v, fs.lookup g = some v ∧ q v S1
  | _ => False
theorem m_xf {aa : Addr} {dd : Option Addr} {cn c g : Str} (h : m η S (kXf aa dd cn c g q) x) : mXf aa dd cn c g m η S q x := h
theorem m_kXf {aa : Addr} {dd : Option Addr} {c g : Str} {fs : List (Str × D)} {v : D} (hs : dd.isSome = true) (e : fs.lookup g = some v) (h : q v S) : kXf aa dd c c g q (.exc aa dd c fs) S := ⟨rfl, rfl, rfl, rfl, hs, v, e, h⟩
end
end Mi
/-! Mirror of sorted(set(texts)) -/
namespace Mi
open PySem L2 Aq Evl
section
variable {K : PySem.W.Frag} {κ : Str → Addr} {w w' w1 : Wd} {η : Nv} {σ : L2.St} {W : WX} {te : TE} {me : ME} {X : Cx} {P : Program} {pw : World}
theorem call_setXA (hc : X.calm = true := by rfl) (hK : X.K = K := by rfl) (hP : X.prog = P := by rfl) (hw : X.w = pw := by rfl) : CallR X (.type "set") (rSetX K P pw) := hK ▸ hP ▸ hw ▸ cr_setX hc
theorem call_sortXA (hc : X.calm = true := by rfl) (hP : X.prog = P := by rfl) (hw : X.w = pw := by rfl) : CallR X (.builtin "sorted") (rSortX P pw) := hP ▸ hw ▸ cr_sortX hc
/-- the members in order, each once -/
structure Srt (zs ys : List Str) : Prop where
  up : zs.Pairwise LtS
  mem : ∀ k, k ∈ zs ↔ k ∈ ys
def mSrt (me : ME) : ME := fun η S q x => me η S (fun d S1 => match pk S1 d with
  | .lst xs => ∃ ys, strsD xs = some ys ∧ ys.length < 64 ∧ ∀ zs, Srt zs ys → zs.length ≤ ys.length → q (.lst (zs.map D.str)) S1
  | _ => False) x
theorem foldL_small (ys : List Str) : (ys.foldl putL []).length ≤ ys.length := by have := foldL_len ys []; simpa using this
theorem rf_srt (h : RfE K κ W te me) : RfN K κ W (tCB (rSortX P pw) (tCons (tCB (rSetX K P pw) (tCons te tNil)) tNil)) (mSrt me) :=
  ⟨fun w η σ q x Q g e hm hx k => h.go w η σ _ x _ g e hm hx fun w1 d v g1 gr1 rx hq => by
    split at hq
    · rename_i xs e1
      obtain ⟨ys, h1, h2, h3⟩ := hq
      obtain ⟨p, us, rfl, h4, l⟩ := lst_of g1 rx e1
      have := strs_of l h1
      subst this
      have sm := foldL_small ys
      refine ⟨p, ys, rfl, .inl (.inl h4), h2, fun a ha => ?_⟩
      refine ⟨a, ys.foldl putL [], rfl, upd_same, foldL_nd ys [] List.nodup_nil, by omega, fun zs b up mem len hb => ?_⟩
      obtain ⟨g2, gr2, np⟩ := new_val (o := SXO P pw a (ys.foldl putL [])) g1 ha
      have mem2 : ∀ k, k ∈ zs ↔ k ∈ ys := fun k => by rw [mem k, foldL_mem]; simp
      exact (k.gr g2 (gr1.trans gr2)).lst g2 (RepL.strs _ zs) hb (h3 zs ⟨up, mem2⟩ (by omega))
    · exact hq.elim⟩
end
section
variable {η : Nv} {S : Sto} {q : DK} {x : XM} {d : D} {m : ME}
def kSrt (q : DK) : DK := fun d S1 => match pk S1 d with
  | .lst xs => ∃ ys, strsD xs = some ys ∧ ys.length < 64 ∧ ∀ zs, Srt zs ys → zs.length ≤ ys.length → q (.lst (zs.map D.str)) S1
  | _ => False
theorem m_srt (h : m η S (kSrt q) x) : mSrt m η S q x := h
theorem m_kSrt {ys : List Str} (h2 : ys.length < 64) (h : ∀ zs, Srt zs ys → zs.length ≤ ys.length → q (.lst (zs.map D.str)) S) (e : pk S d = .lst (ys.map D.str) := by rfl) : kSrt q d S := by
  unfold kSrt
  rw [e]
  exact ⟨ys, strsD_of ys, h2, h⟩
end
end Mi
namespace K09
open PySem L2 Aq Mi Evl
def top (i : Nat) : Stmt := PySem.Challenge.pw_asksmore_k09_limits_and_answers.main.body.getD i (.Pass ⟨0, 0, 0, 0⟩)
abbrev s_is_word : Stmt := top 13
abbrev N_is_word : List Str := ["value", "sign"]
theorem sc_is_word : FnScope N_is_word ["value"] (defScope s_is_word) := ⟨rfl, rfl, rfl, by decide +kernel, rfl, by decide +kernel, by decide +kernel⟩
abbrev s_is_beginning : Stmt := top 14
abbrev N_is_beginning : List Str := ["value"]
theorem sc_is_beginning : FnScope N_is_beginning ["value"] (defScope s_is_beginning) := ⟨rfl, rfl, rfl, by decide +kernel, rfl, by decide +kernel, by decide +kernel⟩
abbrev s_is_letter : Stmt := top 15
abbrev N_is_letter : List Str := ["value", "word"]
theorem sc_is_letter : FnScope N_is_letter ["value"] (defScope s_is_letter) := ⟨rfl, rfl, rfl, by decide +kernel, rfl, by decide +kernel, by decide +kernel⟩
abbrev s_Letters___init__ : Stmt := inClass (top 16) 0
abbrev N_Letters___init__ : List Str := ["self", "words", "index", "word"]
theorem sc_Letters___init__ : FnScope N_Letters___init__ ["self", "words"] (defScope s_Letters___init__) := ⟨rfl, rfl, rfl, by decide +kernel, rfl, by decide +kernel, by decide +kernel⟩
abbrev s_Letters___contains__ : Stmt := inClass (top 16) 2
abbrev N_Letters___contains__ : List Str := ["self", "x"]
theorem sc_Letters___contains__ : FnScope N_Letters___contains__ ["self", "x"] (defScope s_Letters___contains__) := ⟨rfl, rfl, rfl, by decide +kernel, rfl, by decide +kernel, by decide +kernel⟩
abbrev s_Letters___eq__ : Stmt := inClass (top 16) 5
abbrev N_Letters___eq__ : List Str := ["self", "other"]
theorem sc_Letters___eq__ : FnScope N_Letters___eq__ ["self", "other"] (defScope s_Letters___eq__) := ⟨rfl, rfl, rfl, by decide +kernel, rfl, by decide +kernel, by decide +kernel⟩
abbrev s_is_one_of : Stmt := top 20
abbrev N_is_one_of : List Str := ["value", "words"]
theorem sc_is_one_of : FnScope N_is_one_of ["value", "words"] (defScope s_is_one_of) := ⟨rfl, rfl, rfl, by decide +kernel, rfl, by decide +kernel, by decide +kernel⟩
abbrev s_answer_set : Stmt := top 21
abbrev N_answer_set : List Str := ["answers", "found", "index", "answer"]
theorem sc_answer_set : FnScope N_answer_set ["answers"] (defScope s_answer_set) := ⟨rfl, rfl, rfl, by decide +kernel, rfl, by decide +kernel, by decide +kernel⟩
abbrev s_Limit___init__ : Stmt := inClass (top 22) 0
abbrev N_Limit___init__ : List Str := ["self", "letters", "kind", "answers", "letter", "found"]
theorem sc_Limit___init__ : FnScope N_Limit___init__ ["self", "letters", "kind", "answers", "letter"] (defScope s_Limit___init__) := ⟨rfl, rfl, rfl, by decide +kernel, rfl, by decide +kernel, by decide +kernel⟩
abbrev s_Limit___eq__ : Stmt := inClass (top 22) 1
abbrev N_Limit___eq__ : List Str := ["self", "other"]
theorem sc_Limit___eq__ : FnScope N_Limit___eq__ ["self", "other"] (defScope s_Limit___eq__) := ⟨rfl, rfl, rfl, by decide +kernel, rfl, by decide +kernel, by decide +kernel⟩
abbrev s_Limit___str__ : Stmt := inClass (top 22) 2
abbrev N_Limit___str__ : List Str := ["self", "head", "part"]
theorem sc_Limit___str__ : FnScope N_Limit___str__ ["self"] (defScope s_Limit___str__) := ⟨rfl, rfl, rfl, by decide +kernel, rfl, by decide +kernel, by decide +kernel⟩
abbrev s__law_pen : Stmt := top 24
abbrev N__law_pen : List Str := ["_law_script"]
theorem sc__law_pen : FnScope N__law_pen ["_law_script"] (defScope s__law_pen) := ⟨rfl, rfl, rfl, by decide +kernel, rfl, by decide +kernel, by decide +kernel⟩
abbrev s__law_draw : Stmt := top 25
abbrev N__law_draw : List Str := ["_law_pen_here", "_law_many", "_law_told_here", "_law_blend", "_law_digit", "_law_place", "_law_size"]
theorem sc__law_draw : FnScope N__law_draw ["_law_pen_here", "_law_many"] (defScope s__law_draw) := ⟨rfl, rfl, rfl, by decide +kernel, rfl, by decide +kernel, by decide +kernel⟩
abbrev s__law_pick : Stmt := top 26
abbrev N__law_pick : List Str := ["_law_pen_here", "_law_options"]
theorem sc__law_pick : FnScope N__law_pick ["_law_pen_here", "_law_options"] (defScope s__law_pick) := ⟨rfl, rfl, rfl, by decide +kernel, rfl, by decide +kernel, by decide +kernel⟩
abbrev s__law_letters : Stmt := top 27
abbrev N__law_letters : List Str := ["_law_pen_here", "_law_many", "_law_stem", "_law_choice", "_law_k", "_law_small", "_law_signs", "_law_at", "_law_front", "_law_step", "_law_tail", "_law_found", "_law_sign", "_law_word"]
theorem sc__law_letters : FnScope N__law_letters ["_law_pen_here", "_law_many"] (defScope s__law_letters) := ⟨rfl, rfl, rfl, by decide +kernel, rfl, by decide +kernel, by decide +kernel⟩
abbrev s__law_odd : Stmt := top 28
abbrev N__law_odd : List Str := ["_law_pen_here", "_law_letters_here", "_law_one", "_law_longer", "_law_odd_here", "_law_some", "_law_value"]
theorem sc__law_odd : FnScope N__law_odd ["_law_pen_here", "_law_letters_here"] (defScope s__law_odd) := ⟨rfl, rfl, rfl, by decide +kernel, rfl, by decide +kernel, by decide +kernel⟩
abbrev s__law_free : Stmt := top 29
abbrev N__law_free : List Str := ["_law_letters_here", "_law_word", "_law_k"]
theorem sc__law_free : FnScope N__law_free ["_law_letters_here"] (defScope s__law_free) := ⟨rfl, rfl, rfl, by decide +kernel, rfl, by decide +kernel, by decide +kernel⟩
abbrev s__law_answer : Stmt := top 30
abbrev N__law_answer : List Str := ["_law_pen_here", "_law_many", "_law_small", "_law_signs", "_law_k"]
theorem sc__law_answer : FnScope N__law_answer ["_law_pen_here"] (defScope s__law_answer) := ⟨rfl, rfl, rfl, by decide +kernel, rfl, by decide +kernel, by decide +kernel⟩
abbrev s__law_is_answer : Stmt := top 31
abbrev N__law_is_answer : List Str := ["_law_value", "_law_small", "_law_signs", "_law_sign"]
theorem sc__law_is_answer : FnScope N__law_is_answer ["_law_value"] (defScope s__law_is_answer) := ⟨rfl, rfl, rfl, by decide +kernel, rfl, by decide +kernel, by decide +kernel⟩
abbrev s__law_set : Stmt := top 32
abbrev N__law_set : List Str := ["_law_answers", "_law_found", "_law_answer_here", "_law_less", "_law_one"]
theorem sc__law_set : FnScope N__law_set ["_law_answers"] (defScope s__law_set) := ⟨rfl, rfl, rfl, by decide +kernel, rfl, by decide +kernel, by decide +kernel⟩
abbrev s__law_due : Stmt := top 33
abbrev N__law_due : List Str := ["_law_answers", "_law_wrong", "_law_many", "_law_k"]
theorem sc__law_due : FnScope N__law_due ["_law_answers"] (defScope s__law_due) := ⟨rfl, rfl, rfl, by decide +kernel, rfl, by decide +kernel, by decide +kernel⟩
abbrev s__law_told : Stmt := top 34
abbrev N__law_told : List Str := ["_law_answers", "e"]
theorem sc__law_told : FnScope N__law_told ["_law_answers"] (defScope s__law_told) := ⟨rfl, rfl, rfl, by decide +kernel, rfl, by decide +kernel, by decide +kernel⟩
abbrev s__law_limit : Stmt := top 35
abbrev N__law_limit : List Str := ["_law_letters_here", "_law_kind", "_law_answers", "_law_letter", "e"]
theorem sc__law_limit : FnScope N__law_limit ["_law_letters_here", "_law_kind", "_law_answers", "_law_letter"] (defScope s__law_limit) := ⟨rfl, rfl, rfl, by decide +kernel, rfl, by decide +kernel, by decide +kernel⟩
abbrev s__law_limit_due : Stmt := top 36
abbrev N__law_limit_due : List Str := ["_law_letters_here", "_law_kind", "_law_answers", "_law_letter", "_law_is_right_here"]
theorem sc__law_limit_due : FnScope N__law_limit_due ["_law_letters_here", "_law_kind", "_law_answers", "_law_letter"] (defScope s__law_limit_due) := ⟨rfl, rfl, rfl, by decide +kernel, rfl, by decide +kernel, by decide +kernel⟩
abbrev s__law_is_right : Stmt := top 37
abbrev N__law_is_right : List Str := ["_law_made", "_law_letters_here", "_law_kind", "_law_answers", "_law_letter", "_law_due_here", "_law_parts", "_law_is_kept", "_law_twin", "_law_other", "_law_part"]
theorem sc__law_is_right : FnScope N__law_is_right ["_law_made", "_law_letters_here", "_law_kind", "_law_answers", "_law_letter"] (defScope s__law_is_right) := ⟨rfl, rfl, rfl, by decide +kernel, rfl, by decide +kernel, by decide +kernel⟩
abbrev s_law : Stmt := top 38
abbrev N_law : List Str := ["_law_script", "_law_pen_here", "_law_turn", "_law_letters_here", "_law_pool", "_law_answers", "_law_kind", "_law_letter", "_law_at", "_law_odd_here", "_law_given", "_law_due_here", "_law_made", "_law_more", "_law_k"]
theorem sc_law : FnScope N_law ["_law_script"] (defScope s_law) := ⟨rfl, rfl, rfl, by decide +kernel, rfl, by decide +kernel, by decide +kernel⟩
abbrev s_BadLetters___init__ : Stmt := inClass (top 3) 0
abbrev N_BadLetters___init__ : List Str := ["self", "index", "__class__"]
theorem sc_BadLetters___init__ : NdefX.NScope N_BadLetters___init__ ["self", "index"] ["__class__"] (defScope s_BadLetters___init__) := NdefX.nscope_by (by decide +kernel)
abbrev F_BadLetters (cc c : Addr) : NdefX.NF := ⟨"__init__", "BadLetters.__init__", defArgs s_BadLetters___init__, defBody s_BadLetters___init__, defScope s_BadLetters___init__, [("__class__", cc)], c⟩
abbrev s_BadLetter___init__ : Stmt := inClass (top 4) 0
abbrev N_BadLetter___init__ : List Str := ["self", "index", "__class__"]
theorem sc_BadLetter___init__ : NdefX.NScope N_BadLetter___init__ ["self", "index"] ["__class__"] (defScope s_BadLetter___init__) := NdefX.nscope_by (by decide +kernel)
abbrev F_BadLetter (cc c : Addr) : NdefX.NF := ⟨"__init__", "BadLetter.__init__", defArgs s_BadLetter___init__, defBody s_BadLetter___init__, defScope s_BadLetter___init__, [("__class__", cc)], c⟩
abbrev s_BadAnswers___init__ : Stmt := inClass (top 6) 0
abbrev N_BadAnswers___init__ : List Str := ["self", "index", "__class__"]
theorem sc_BadAnswers___init__ : NdefX.NScope N_BadAnswers___init__ ["self", "index"] ["__class__"] (defScope s_BadAnswers___init__) := NdefX.nscope_by (by decide +kernel)
abbrev F_BadAnswers (cc c : Addr) : NdefX.NF := ⟨"__init__", "BadAnswers.__init__", defArgs s_BadAnswers___init__, defBody s_BadAnswers___init__, defScope s_BadAnswers___init__, [("__class__", cc)], c⟩
abbrev s_TooMany___init__ : Stmt := inClass (top 7) 0
abbrev N_TooMany___init__ : List Str := ["self", "what", "many", "most", "__class__"]
theorem sc_TooMany___init__ : NdefX.NScope N_TooMany___init__ ["self", "what", "many", "most"] ["__class__"] (defScope s_TooMany___init__) := NdefX.nscope_by (by decide +kernel)
abbrev F_TooMany (cc c : Addr) : NdefX.NF := ⟨"__init__", "TooMany.__init__", defArgs s_TooMany___init__, defBody s_TooMany___init__, defScope s_TooMany___init__, [("__class__", cc)], c⟩
structure Ad where
  Letters : Addr
  Limit : Addr
  BadLetters : Addr
  f_BadLetters___init__ : Addr
  BadLetter : Addr
  f_BadLetter___init__ : Addr
  BadKind : Addr
  BadAnswers : Addr
  f_BadAnswers___init__ : Addr
  TooMany : Addr
  f_TooMany___init__ : Addr
  MOST_LETTERS : Tok
  BEGINNINGS : Addr
  SMALL : Tok
  SIGNS : Tok
  LIMIT_KINDS : Addr
  MOST_ANSWERS : Tok
  f_is_word : Addr
  f_is_beginning : Addr
  f_is_letter : Addr
  f_Letters___init__ : Addr
  f_Letters___contains__ : Addr
  f_Letters___eq__ : Addr
  f_is_one_of : Addr
  f_answer_set : Addr
  f_Limit___init__ : Addr
  f_Limit___eq__ : Addr
  f_Limit___str__ : Addr
  f__law_pen : Addr
  f__law_draw : Addr
  f__law_pick : Addr
  f__law_letters : Addr
  f__law_odd : Addr
  f__law_free : Addr
  f__law_answer : Addr
  f__law_is_answer : Addr
  f__law_set : Addr
  f__law_due : Addr
  f__law_told : Addr
  f__law_limit : Addr
  f__law_limit_due : Addr
  f__law_is_right : Addr
  f_law : Addr
structure Txt (P : Program) (K : PySem.W.Frag) (mg : Str → Option Value) (a : Ad) : Prop where
  n_abs : mg "abs" = none
  n_all : mg "all" = none
  n_enumerate : mg "enumerate" = none
  n_int : mg "int" = none
  n_isinstance : mg "isinstance" = none
  n_len : mg "len" = none
  n_list : mg "list" = none
  n_min : mg "min" = none
  n_range : mg "range" = none
  n_repr : mg "repr" = none
  n_set : mg "set" = none
  n_sorted : mg "sorted" = none
  n_str : mg "str" = none
  n_tuple : mg "tuple" = none
  g_MOST_LETTERS : mg "MOST_LETTERS" = some (.int 12 a.MOST_LETTERS)
  g_BEGINNINGS : mg "BEGINNINGS" = some (.ref a.BEGINNINGS)
  k_BEGINNINGS : ∀ H, SqT K H a.BEGINNINGS [.str "new", .str "found"]
  g_SMALL : mg "SMALL" = some (.str "abcdefghijklmnopqrstuvwxyz" a.SMALL)
  g_SIGNS : mg "SIGNS" = some (.str "abcdefghijklmnopqrstuvwxyz0123456789" a.SIGNS)
  g_LIMIT_KINDS : mg "LIMIT_KINDS" = some (.ref a.LIMIT_KINDS)
  k_LIMIT_KINDS : ∀ H, SqT K H a.LIMIT_KINDS [.str "always", .str "fresh", .str "behind"]
  g_MOST_ANSWERS : mg "MOST_ANSWERS" = some (.int 6 a.MOST_ANSWERS)
  g_Letters : mg "Letters" = some (.ref a.Letters)
  cl_Letters : Cls K a.Letters
  na_Letters_words : NoAttr K a.Letters "words"
  ne_Letters : NeC K a.Letters
  isi_Letters : IsiC K a.Letters
  mk_Letters : Mk K a.Letters a.f_Letters___init__
  g_Limit : mg "Limit" = some (.ref a.Limit)
  cl_Limit : Cls K a.Limit
  na_Limit_letters : NoAttr K a.Limit "letters"
  na_Limit_kind : NoAttr K a.Limit "kind"
  na_Limit_answers : NoAttr K a.Limit "answers"
  na_Limit_letter : NoAttr K a.Limit "letter"
  ne_Limit : NeC K a.Limit
  isi_Limit : IsiC K a.Limit
  mk_Limit : Mk K a.Limit a.f_Limit___init__
  g_BadLetters : mg "BadLetters" = some (.ref a.BadLetters)
  ex_BadLetters : ExmC K a.BadLetters
  em_BadLetters_BadLetters : PySem.W.exmOne K (.ref a.BadLetters) (.ref a.BadLetters) = some true
  em_BadLetter_BadLetters : PySem.W.exmOne K (.ref a.BadLetter) (.ref a.BadLetters) = some false
  em_BadKind_BadLetters : PySem.W.exmOne K (.ref a.BadKind) (.ref a.BadLetters) = some false
  em_BadAnswers_BadLetters : PySem.W.exmOne K (.ref a.BadAnswers) (.ref a.BadLetters) = some false
  em_TooMany_BadLetters : PySem.W.exmOne K (.ref a.TooMany) (.ref a.BadLetters) = some false
  xf_BadLetters : XfC K a.BadLetters
  xe_BadLetters : ExcC K a.BadLetters
  na_BadLetters_index : NoAttr K a.BadLetters "index"
  xi_BadLetters : ∃ cc c doc pm ctv, XI P K mg (F_BadLetters cc c) a.f_BadLetters___init__ a.BadLetters "self" doc pm ctv ∧ Binds K ((F_BadLetters cc c).fd doc pm ctv) ["self", "index"] []
  kv_BadLetters : PySem.W.kitOne K (.ref a.BadLetters) (.type "ValueError") = some true
  in_BadLetters : PySem.W.findIn K (.ref a.BadLetters) "__init__" = some (some (.ref a.f_BadLetters___init__))
  ty_BadLetters : PySem.W.typeIn K (.ref a.f_BadLetters___init__) = some (.type "function")
  g_BadLetter : mg "BadLetter" = some (.ref a.BadLetter)
  ex_BadLetter : ExmC K a.BadLetter
  em_BadLetters_BadLetter : PySem.W.exmOne K (.ref a.BadLetters) (.ref a.BadLetter) = some false
  em_BadLetter_BadLetter : PySem.W.exmOne K (.ref a.BadLetter) (.ref a.BadLetter) = some true
  em_BadKind_BadLetter : PySem.W.exmOne K (.ref a.BadKind) (.ref a.BadLetter) = some false
  em_BadAnswers_BadLetter : PySem.W.exmOne K (.ref a.BadAnswers) (.ref a.BadLetter) = some false
  em_TooMany_BadLetter : PySem.W.exmOne K (.ref a.TooMany) (.ref a.BadLetter) = some false
  xf_BadLetter : XfC K a.BadLetter
  xe_BadLetter : ExcC K a.BadLetter
  na_BadLetter_index : NoAttr K a.BadLetter "index"
  xi_BadLetter : ∃ cc c doc pm ctv, XI P K mg (F_BadLetter cc c) a.f_BadLetter___init__ a.BadLetter "self" doc pm ctv ∧ Binds K ((F_BadLetter cc c).fd doc pm ctv) ["self", "index"] []
  kv_BadLetter : PySem.W.kitOne K (.ref a.BadLetter) (.type "ValueError") = some true
  in_BadLetter : PySem.W.findIn K (.ref a.BadLetter) "__init__" = some (some (.ref a.f_BadLetter___init__))
  ty_BadLetter : PySem.W.typeIn K (.ref a.f_BadLetter___init__) = some (.type "function")
  g_BadKind : mg "BadKind" = some (.ref a.BadKind)
  ex_BadKind : ExmC K a.BadKind
  em_BadLetters_BadKind : PySem.W.exmOne K (.ref a.BadLetters) (.ref a.BadKind) = some false
  em_BadLetter_BadKind : PySem.W.exmOne K (.ref a.BadLetter) (.ref a.BadKind) = some false
  em_BadKind_BadKind : PySem.W.exmOne K (.ref a.BadKind) (.ref a.BadKind) = some true
  em_BadAnswers_BadKind : PySem.W.exmOne K (.ref a.BadAnswers) (.ref a.BadKind) = some false
  em_TooMany_BadKind : PySem.W.exmOne K (.ref a.TooMany) (.ref a.BadKind) = some false
  x0_BadKind : Xc0 K mg "BadKind" a.BadKind
  g_BadAnswers : mg "BadAnswers" = some (.ref a.BadAnswers)
  ex_BadAnswers : ExmC K a.BadAnswers
  em_BadLetters_BadAnswers : PySem.W.exmOne K (.ref a.BadLetters) (.ref a.BadAnswers) = some false
  em_BadLetter_BadAnswers : PySem.W.exmOne K (.ref a.BadLetter) (.ref a.BadAnswers) = some false
  em_BadKind_BadAnswers : PySem.W.exmOne K (.ref a.BadKind) (.ref a.BadAnswers) = some false
  em_BadAnswers_BadAnswers : PySem.W.exmOne K (.ref a.BadAnswers) (.ref a.BadAnswers) = some true
  em_TooMany_BadAnswers : PySem.W.exmOne K (.ref a.TooMany) (.ref a.BadAnswers) = some false
  xf_BadAnswers : XfC K a.BadAnswers
  xe_BadAnswers : ExcC K a.BadAnswers
  na_BadAnswers_index : NoAttr K a.BadAnswers "index"
  xi_BadAnswers : ∃ cc c doc pm ctv, XI P K mg (F_BadAnswers cc c) a.f_BadAnswers___init__ a.BadAnswers "self" doc pm ctv ∧ Binds K ((F_BadAnswers cc c).fd doc pm ctv) ["self", "index"] []
  kv_BadAnswers : PySem.W.kitOne K (.ref a.BadAnswers) (.type "ValueError") = some true
  in_BadAnswers : PySem.W.findIn K (.ref a.BadAnswers) "__init__" = some (some (.ref a.f_BadAnswers___init__))
  ty_BadAnswers : PySem.W.typeIn K (.ref a.f_BadAnswers___init__) = some (.type "function")
  g_TooMany : mg "TooMany" = some (.ref a.TooMany)
  ex_TooMany : ExmC K a.TooMany
  em_BadLetters_TooMany : PySem.W.exmOne K (.ref a.BadLetters) (.ref a.TooMany) = some false
  em_BadLetter_TooMany : PySem.W.exmOne K (.ref a.BadLetter) (.ref a.TooMany) = some false
  em_BadKind_TooMany : PySem.W.exmOne K (.ref a.BadKind) (.ref a.TooMany) = some false
  em_BadAnswers_TooMany : PySem.W.exmOne K (.ref a.BadAnswers) (.ref a.TooMany) = some false
  em_TooMany_TooMany : PySem.W.exmOne K (.ref a.TooMany) (.ref a.TooMany) = some true
  xf_TooMany : XfC K a.TooMany
  xe_TooMany : ExcC K a.TooMany
  na_TooMany_what : NoAttr K a.TooMany "what"
  na_TooMany_many : NoAttr K a.TooMany "many"
  na_TooMany_most : NoAttr K a.TooMany "most"
  xi_TooMany : ∃ cc c doc pm ctv, XI P K mg (F_TooMany cc c) a.f_TooMany___init__ a.TooMany "self" doc pm ctv ∧ Binds K ((F_TooMany cc c).fd doc pm ctv) ["self", "what", "many", "most"] []
  kv_TooMany : PySem.W.kitOne K (.ref a.TooMany) (.type "ValueError") = some true
  in_TooMany : PySem.W.findIn K (.ref a.TooMany) "__init__" = some (some (.ref a.f_TooMany___init__))
  ty_TooMany : PySem.W.typeIn K (.ref a.f_TooMany___init__) = some (.type "function")
  kt_0 : PySem.W.kitOne K (.ref a.Letters) (.ref a.Letters) = some true
  kt_1 : PySem.W.kitOne K (.ref a.Limit) (.ref a.Limit) = some true
  kt_2 : PySem.W.kitOne K (.type "tuple") (.ref a.Limit) = some false
  F_is_word : ∃ fd, Fun K "is_word" "is_word" s_is_word a.f_is_word fd ∧ Binds K fd ["value"] []
  g_is_word : mg "is_word" = some (.ref a.f_is_word)
  F_is_beginning : ∃ fd, Fun K "is_beginning" "is_beginning" s_is_beginning a.f_is_beginning fd ∧ Binds K fd ["value"] []
  g_is_beginning : mg "is_beginning" = some (.ref a.f_is_beginning)
  F_is_letter : ∃ fd, Fun K "is_letter" "is_letter" s_is_letter a.f_is_letter fd ∧ Binds K fd ["value"] []
  g_is_letter : mg "is_letter" = some (.ref a.f_is_letter)
  F_Letters___init__ : ∃ fd, Fun K "__init__" "Letters.__init__" s_Letters___init__ a.f_Letters___init__ fd ∧ Binds K fd ["self", "words"] []
  F_Letters___contains__ : ∃ fd, Fun K "__contains__" "Letters.__contains__" s_Letters___contains__ a.f_Letters___contains__ fd ∧ Binds K fd ["self", "x"] []
  m_Letters___contains__ : Meth K a.Letters "__contains__" a.f_Letters___contains__
  F_Letters___eq__ : ∃ fd, Fun K "__eq__" "Letters.__eq__" s_Letters___eq__ a.f_Letters___eq__ fd ∧ Binds K fd ["self", "other"] []
  m_Letters___eq__ : Meth K a.Letters "__eq__" a.f_Letters___eq__
  F_is_one_of : ∃ fd, Fun K "is_one_of" "is_one_of" s_is_one_of a.f_is_one_of fd ∧ Binds K fd ["value", "words"] []
  g_is_one_of : mg "is_one_of" = some (.ref a.f_is_one_of)
  F_answer_set : ∃ fd, Fun K "answer_set" "answer_set" s_answer_set a.f_answer_set fd ∧ Binds K fd ["answers"] []
  g_answer_set : mg "answer_set" = some (.ref a.f_answer_set)
  F_Limit___init__ : ∃ fd, FunD K "__init__" "Limit.__init__" (defArgs s_Limit___init__) (defBody s_Limit___init__) (defScope s_Limit___init__) [.non] [] a.f_Limit___init__ fd
  F_Limit___eq__ : ∃ fd, Fun K "__eq__" "Limit.__eq__" s_Limit___eq__ a.f_Limit___eq__ fd ∧ Binds K fd ["self", "other"] []
  m_Limit___eq__ : Meth K a.Limit "__eq__" a.f_Limit___eq__
  F_Limit___str__ : ∃ fd, Fun K "__str__" "Limit.__str__" s_Limit___str__ a.f_Limit___str__ fd ∧ Binds K fd ["self"] []
  m_Limit___str__ : Meth K a.Limit "__str__" a.f_Limit___str__
  F__law_pen : ∃ fd, Fun K "_law_pen" "_law_pen" s__law_pen a.f__law_pen fd ∧ Binds K fd ["_law_script"] []
  g__law_pen : mg "_law_pen" = some (.ref a.f__law_pen)
  F__law_draw : ∃ fd, Fun K "_law_draw" "_law_draw" s__law_draw a.f__law_draw fd ∧ Binds K fd ["_law_pen_here", "_law_many"] []
  g__law_draw : mg "_law_draw" = some (.ref a.f__law_draw)
  F__law_pick : ∃ fd, Fun K "_law_pick" "_law_pick" s__law_pick a.f__law_pick fd ∧ Binds K fd ["_law_pen_here", "_law_options"] []
  g__law_pick : mg "_law_pick" = some (.ref a.f__law_pick)
  F__law_letters : ∃ fd, Fun K "_law_letters" "_law_letters" s__law_letters a.f__law_letters fd ∧ Binds K fd ["_law_pen_here", "_law_many"] []
  g__law_letters : mg "_law_letters" = some (.ref a.f__law_letters)
  F__law_odd : ∃ fd, Fun K "_law_odd" "_law_odd" s__law_odd a.f__law_odd fd ∧ Binds K fd ["_law_pen_here", "_law_letters_here"] []
  g__law_odd : mg "_law_odd" = some (.ref a.f__law_odd)
  F__law_free : ∃ fd, Fun K "_law_free" "_law_free" s__law_free a.f__law_free fd ∧ Binds K fd ["_law_letters_here"] []
  g__law_free : mg "_law_free" = some (.ref a.f__law_free)
  F__law_answer : ∃ fd, Fun K "_law_answer" "_law_answer" s__law_answer a.f__law_answer fd ∧ Binds K fd ["_law_pen_here"] []
  g__law_answer : mg "_law_answer" = some (.ref a.f__law_answer)
  F__law_is_answer : ∃ fd, Fun K "_law_is_answer" "_law_is_answer" s__law_is_answer a.f__law_is_answer fd ∧ Binds K fd ["_law_value"] []
  g__law_is_answer : mg "_law_is_answer" = some (.ref a.f__law_is_answer)
  F__law_set : ∃ fd, Fun K "_law_set" "_law_set" s__law_set a.f__law_set fd ∧ Binds K fd ["_law_answers"] []
  g__law_set : mg "_law_set" = some (.ref a.f__law_set)
  F__law_due : ∃ fd, Fun K "_law_due" "_law_due" s__law_due a.f__law_due fd ∧ Binds K fd ["_law_answers"] []
  g__law_due : mg "_law_due" = some (.ref a.f__law_due)
  F__law_told : ∃ fd, Fun K "_law_told" "_law_told" s__law_told a.f__law_told fd ∧ Binds K fd ["_law_answers"] []
  g__law_told : mg "_law_told" = some (.ref a.f__law_told)
  F__law_limit : ∃ fd, Fun K "_law_limit" "_law_limit" s__law_limit a.f__law_limit fd ∧ Binds K fd ["_law_letters_here", "_law_kind", "_law_answers", "_law_letter"] []
  g__law_limit : mg "_law_limit" = some (.ref a.f__law_limit)
  F__law_limit_due : ∃ fd, Fun K "_law_limit_due" "_law_limit_due" s__law_limit_due a.f__law_limit_due fd ∧ Binds K fd ["_law_letters_here", "_law_kind", "_law_answers", "_law_letter"] []
  g__law_limit_due : mg "_law_limit_due" = some (.ref a.f__law_limit_due)
  F__law_is_right : ∃ fd, Fun K "_law_is_right" "_law_is_right" s__law_is_right a.f__law_is_right fd ∧ Binds K fd ["_law_made", "_law_letters_here", "_law_kind", "_law_answers", "_law_letter"] []
  g__law_is_right : mg "_law_is_right" = some (.ref a.f__law_is_right)
  F_law : ∃ fd, Fun K "law" "law" s_law a.f_law fd ∧ Binds K fd ["_law_script"] []
  g_law : mg "law" = some (.ref a.f_law)
section
variable {P : Program} {w : World} {K : PySem.W.Frag} {mg : Str → Option Value} {base : Heap} {a : Ad}
def sp_BadLetters (C : Addr) : Sp := fun vs H Q _ => ∃ (x : Addr) (y0 : V), vs = [.ref x, y0] ∧ Fmt y0 ∧ H x = some (exo x C none) ∧ ∀ (d : Addr) (H' : Hp), H d = none → d ≠ x → H' x = some (exo x C (some d)) → H' d = some (exd d [("index", y0)]) → (∀ b, b ≠ x → b ≠ d → H' b = H b) → Q .non H'
theorem x_BadLetters (T : Txt P K mg a) : Xcl P w K mg base 1 "BadLetters" a.BadLetters ["self", "index"] (sp_BadLetters a.BadLetters) := by
  obtain ⟨cc, c, doc, pm, ctv, xi, b⟩ := T.xi_BadLetters
  refine ⟨xi.ox, T.xf_BadLetters, _, _, T.in_BadLetters, T.ty_BadLetters, fn_exc xi sc_BadLetters___init__ rfl (fun vs H Q E h => ?_) (fun A outer s H vs Q E hr h => ?_), T.g_BadLetters, b⟩
  · obtain ⟨x, y0, rfl, _⟩ := h; rfl
  · obtain ⟨x, y0, rfl, f0, hx, q⟩ := h
    refine ⟨_, _, x, pa_cons (pe_joined (PJ.cons pe_str (PJ.cons (pe_fmt (pv 1)) PJ.nil))) pa_nil, (pss_one (ps_ost (pv 0) (pv 1))), rfl, hx, ?_⟩
    refine js_c (n := 0) ?_ (by decide) (by decide +kernel) fun a0 h0 => ?_
    · exact Nat.zero_le _
    refine js_f (n := 1000) rfl ?_ (by decide) f0 fun a1 h1 => ?_
    · exact h0
    refine js_0 ?_
    refine ⟨by show 1 ≤ 1000; decide, hx, ?_⟩
    refine rd_ost1 xi.ox T.na_BadLetters_index rfl rfl hx fun d hd ne => ?_
    refine q d _ hd ne ?_ ?_ fun b h1 h2 => ?_
    · simp only [upd_same, upd_ne ne, upd_ne ne.symm]
    · simp only [upd_same, upd_ne ne, upd_ne ne.symm]
    · simp only [upd_ne h1, upd_ne h2]
/-- raise BadLetters(..) -/
theorem rz_BadLetters {H : Hp} {y0 : V} {R : Value → Option Addr → Hp → Prop} (f0 : Fmt y0) (q : ∀ d H', H d = none → Ex H H' → H' d = some (.xd [("index", y0)]) → R (.ref a.BadLetters) (some d) H') :
    [y0].length ≤ 1000 ∧ ∀ x, H x = none → sp_BadLetters a.BadLetters (.ref x :: ([y0] ++ [])) (upd H x (exo x a.BadLetters none)) (fun v H2 => v = .non ∧ ∃ (d : Addr) (fs : List (Str × V)), H2 x = some (exo x a.BadLetters (some d)) ∧ H2 d = some (exd d fs) ∧ H d = none ∧ R (.ref a.BadLetters) (some d) (upd (del H2 x) d (.xd fs))) (fun _ _ _ => False) := by
  refine ⟨by show 1 ≤ 1000; decide, fun x hx => ⟨x, y0, rfl, f0, upd_same, fun d H' hd ne h1 h2 st => ⟨rfl, d, _, h1, h2, ?_, ?_⟩⟩⟩
  · rw [upd_ne ne] at hd; exact hd
  · rw [upd_ne ne] at hd
    obtain ⟨e1, e2⟩ := raised (C := a.BadLetters) (fs := [("index", y0)]) hx hd ne st
    exact q d _ hd e1 e2
def sp_BadLetter (C : Addr) : Sp := fun vs H Q _ => ∃ (x : Addr) (y0 : V), vs = [.ref x, y0] ∧ Fmt y0 ∧ H x = some (exo x C none) ∧ ∀ (d : Addr) (H' : Hp), H d = none → d ≠ x → H' x = some (exo x C (some d)) → H' d = some (exd d [("index", y0)]) → (∀ b, b ≠ x → b ≠ d → H' b = H b) → Q .non H'
theorem x_BadLetter (T : Txt P K mg a) : Xcl P w K mg base 1 "BadLetter" a.BadLetter ["self", "index"] (sp_BadLetter a.BadLetter) := by
  obtain ⟨cc, c, doc, pm, ctv, xi, b⟩ := T.xi_BadLetter
  refine ⟨xi.ox, T.xf_BadLetter, _, _, T.in_BadLetter, T.ty_BadLetter, fn_exc xi sc_BadLetter___init__ rfl (fun vs H Q E h => ?_) (fun A outer s H vs Q E hr h => ?_), T.g_BadLetter, b⟩
  · obtain ⟨x, y0, rfl, _⟩ := h; rfl
  · obtain ⟨x, y0, rfl, f0, hx, q⟩ := h
    refine ⟨_, _, x, pa_cons (pe_joined (PJ.cons pe_str (PJ.cons (pe_fmt (pv 1)) PJ.nil))) pa_nil, (pss_one (ps_ost (pv 0) (pv 1))), rfl, hx, ?_⟩
    refine js_c (n := 0) ?_ (by decide) (by decide +kernel) fun a0 h0 => ?_
    · exact Nat.zero_le _
    refine js_f (n := 1000) rfl ?_ (by decide) f0 fun a1 h1 => ?_
    · exact h0
    refine js_0 ?_
    refine ⟨by show 1 ≤ 1000; decide, hx, ?_⟩
    refine rd_ost1 xi.ox T.na_BadLetter_index rfl rfl hx fun d hd ne => ?_
    refine q d _ hd ne ?_ ?_ fun b h1 h2 => ?_
    · simp only [upd_same, upd_ne ne, upd_ne ne.symm]
    · simp only [upd_same, upd_ne ne, upd_ne ne.symm]
    · simp only [upd_ne h1, upd_ne h2]
/-- raise BadLetter(..) -/
theorem rz_BadLetter {H : Hp} {y0 : V} {R : Value → Option Addr → Hp → Prop} (f0 : Fmt y0) (q : ∀ d H', H d = none → Ex H H' → H' d = some (.xd [("index", y0)]) → R (.ref a.BadLetter) (some d) H') :
    [y0].length ≤ 1000 ∧ ∀ x, H x = none → sp_BadLetter a.BadLetter (.ref x :: ([y0] ++ [])) (upd H x (exo x a.BadLetter none)) (fun v H2 => v = .non ∧ ∃ (d : Addr) (fs : List (Str × V)), H2 x = some (exo x a.BadLetter (some d)) ∧ H2 d = some (exd d fs) ∧ H d = none ∧ R (.ref a.BadLetter) (some d) (upd (del H2 x) d (.xd fs))) (fun _ _ _ => False) := by
  refine ⟨by show 1 ≤ 1000; decide, fun x hx => ⟨x, y0, rfl, f0, upd_same, fun d H' hd ne h1 h2 st => ⟨rfl, d, _, h1, h2, ?_, ?_⟩⟩⟩
  · rw [upd_ne ne] at hd; exact hd
  · rw [upd_ne ne] at hd
    obtain ⟨e1, e2⟩ := raised (C := a.BadLetter) (fs := [("index", y0)]) hx hd ne st
    exact q d _ hd e1 e2
def sp_BadAnswers (C : Addr) : Sp := fun vs H Q _ => ∃ (x : Addr) (y0 : V), vs = [.ref x, y0] ∧ Fmt y0 ∧ H x = some (exo x C none) ∧ ∀ (d : Addr) (H' : Hp), H d = none → d ≠ x → H' x = some (exo x C (some d)) → H' d = some (exd d [("index", y0)]) → (∀ b, b ≠ x → b ≠ d → H' b = H b) → Q .non H'
theorem x_BadAnswers (T : Txt P K mg a) : Xcl P w K mg base 1 "BadAnswers" a.BadAnswers ["self", "index"] (sp_BadAnswers a.BadAnswers) := by
  obtain ⟨cc, c, doc, pm, ctv, xi, b⟩ := T.xi_BadAnswers
  refine ⟨xi.ox, T.xf_BadAnswers, _, _, T.in_BadAnswers, T.ty_BadAnswers, fn_exc xi sc_BadAnswers___init__ rfl (fun vs H Q E h => ?_) (fun A outer s H vs Q E hr h => ?_), T.g_BadAnswers, b⟩
  · obtain ⟨x, y0, rfl, _⟩ := h; rfl
  · obtain ⟨x, y0, rfl, f0, hx, q⟩ := h
    refine ⟨_, _, x, pa_cons (pe_joined (PJ.cons pe_str (PJ.cons (pe_fmt (pv 1)) PJ.nil))) pa_nil, (pss_one (ps_ost (pv 0) (pv 1))), rfl, hx, ?_⟩
    refine js_c (n := 0) ?_ (by decide) (by decide +kernel) fun a0 h0 => ?_
    · exact Nat.zero_le _
    refine js_f (n := 1000) rfl ?_ (by decide) f0 fun a1 h1 => ?_
    · exact h0
    refine js_0 ?_
    refine ⟨by show 1 ≤ 1000; decide, hx, ?_⟩
    refine rd_ost1 xi.ox T.na_BadAnswers_index rfl rfl hx fun d hd ne => ?_
    refine q d _ hd ne ?_ ?_ fun b h1 h2 => ?_
    · simp only [upd_same, upd_ne ne, upd_ne ne.symm]
    · simp only [upd_same, upd_ne ne, upd_ne ne.symm]
    · simp only [upd_ne h1, upd_ne h2]
/-- raise BadAnswers(..) -/
theorem rz_BadAnswers {H : Hp} {y0 : V} {R : Value → Option Addr → Hp → Prop} (f0 : Fmt y0) (q : ∀ d H', H d = none → Ex H H' → H' d = some (.xd [("index", y0)]) → R (.ref a.BadAnswers) (some d) H') :
    [y0].length ≤ 1000 ∧ ∀ x, H x = none → sp_BadAnswers a.BadAnswers (.ref x :: ([y0] ++ [])) (upd H x (exo x a.BadAnswers none)) (fun v H2 => v = .non ∧ ∃ (d : Addr) (fs : List (Str × V)), H2 x = some (exo x a.BadAnswers (some d)) ∧ H2 d = some (exd d fs) ∧ H d = none ∧ R (.ref a.BadAnswers) (some d) (upd (del H2 x) d (.xd fs))) (fun _ _ _ => False) := by
  refine ⟨by show 1 ≤ 1000; decide, fun x hx => ⟨x, y0, rfl, f0, upd_same, fun d H' hd ne h1 h2 st => ⟨rfl, d, _, h1, h2, ?_, ?_⟩⟩⟩
  · rw [upd_ne ne] at hd; exact hd
  · rw [upd_ne ne] at hd
    obtain ⟨e1, e2⟩ := raised (C := a.BadAnswers) (fs := [("index", y0)]) hx hd ne st
    exact q d _ hd e1 e2
def sp_TooMany (C : Addr) : Sp := fun vs H Q _ => ∃ (x : Addr) (y0 y1 y2 : V), vs = [.ref x, y0, y1, y2] ∧ Fmt y0 ∧ Fmt y2 ∧ H x = some (exo x C none) ∧ ∀ (d : Addr) (H' : Hp), H d = none → d ≠ x → H' x = some (exo x C (some d)) → H' d = some (exd d [("most", y2), ("many", y1), ("what", y0)]) → (∀ b, b ≠ x → b ≠ d → H' b = H b) → Q .non H'
theorem x_TooMany (T : Txt P K mg a) : Xcl P w K mg base 1 "TooMany" a.TooMany ["self", "what", "many", "most"] (sp_TooMany a.TooMany) := by
  obtain ⟨cc, c, doc, pm, ctv, xi, b⟩ := T.xi_TooMany
  refine ⟨xi.ox, T.xf_TooMany, _, _, T.in_TooMany, T.ty_TooMany, fn_exc xi sc_TooMany___init__ rfl (fun vs H Q E h => ?_) (fun A outer s H vs Q E hr h => ?_), T.g_TooMany, b⟩
  · obtain ⟨x, y0, y1, y2, rfl, _⟩ := h; rfl
  · obtain ⟨x, y0, y1, y2, rfl, f0, f2, hx, q⟩ := h
    refine ⟨_, _, x, pa_cons (pe_joined (PJ.cons pe_str (PJ.cons (pe_fmt (pv 1)) (PJ.cons pe_str (PJ.cons (pe_fmt (pv 3)) PJ.nil))))) pa_nil, (pss_cons (ps_ost (pv 0) (pv 1)) (pss_cons (ps_ost (pv 0) (pv 2)) (pss_one (ps_ost (pv 0) (pv 3))))), rfl, hx, ?_⟩
    refine js_c (n := 0) ?_ (by decide) (by decide +kernel) fun a0 h0 => ?_
    · exact Nat.zero_le _
    refine js_f (n := 1000) rfl ?_ (by decide) f0 fun a1 h1 => ?_
    · exact h0
    refine js_c (n := 2001) ?_ (by decide) (by decide +kernel) fun a2 h2 => ?_
    · exact h1
    refine js_f (n := 3001) rfl ?_ (by decide) f2 fun a3 h3 => ?_
    · exact h2
    refine js_0 ?_
    refine ⟨by show 1 ≤ 1000; decide, hx, ?_⟩
    refine rd_ost1 xi.ox T.na_TooMany_what rfl rfl hx fun d hd ne => ?_
    refine rd_ostN (dx := d) (fs := [("what", y0)]) xi.ox T.na_TooMany_many rfl rfl (by simp only [upd_same, upd_ne ne, upd_ne ne.symm]) (by simp only [upd_same, upd_ne ne, upd_ne ne.symm]) (by show _ ≤ 900; simp) ?_
    refine rd_ostN (dx := d) (fs := [("many", y1), ("what", y0)]) xi.ox T.na_TooMany_most rfl rfl (by simp only [upd_same, upd_ne ne, upd_ne ne.symm]) (by simp only [upd_same, upd_ne ne, upd_ne ne.symm]) (by show _ ≤ 900; simp) ?_
    refine q d _ hd ne ?_ ?_ fun b h1 h2 => ?_
    · simp only [upd_same, upd_ne ne, upd_ne ne.symm]
    · simp only [upd_same, upd_ne ne, upd_ne ne.symm]
    · simp only [upd_ne h1, upd_ne h2]
/-- raise TooMany(..) -/
theorem rz_TooMany {H : Hp} {y0 y1 y2 : V} {R : Value → Option Addr → Hp → Prop} (f0 : Fmt y0) (f2 : Fmt y2) (q : ∀ d H', H d = none → Ex H H' → H' d = some (.xd [("most", y2), ("many", y1), ("what", y0)]) → R (.ref a.TooMany) (some d) H') :
    [y0, y1, y2].length ≤ 1000 ∧ ∀ x, H x = none → sp_TooMany a.TooMany (.ref x :: ([y0, y1, y2] ++ [])) (upd H x (exo x a.TooMany none)) (fun v H2 => v = .non ∧ ∃ (d : Addr) (fs : List (Str × V)), H2 x = some (exo x a.TooMany (some d)) ∧ H2 d = some (exd d fs) ∧ H d = none ∧ R (.ref a.TooMany) (some d) (upd (del H2 x) d (.xd fs))) (fun _ _ _ => False) := by
  refine ⟨by show 3 ≤ 1000; decide, fun x hx => ⟨x, y0, y1, y2, rfl, f0, f2, upd_same, fun d H' hd ne h1 h2 st => ⟨rfl, d, _, h1, h2, ?_, ?_⟩⟩⟩
  · rw [upd_ne ne] at hd; exact hd
  · rw [upd_ne ne] at hd
    obtain ⟨e1, e2⟩ := raised (C := a.TooMany) (fs := [("most", y2), ("many", y1), ("what", y0)]) hx hd ne st
    exact q d _ hd e1 e2
end
def fcs_answers : List Str := ["Limit"]
def fcs_kind : List Str := ["Limit"]
def fcs_letter : List Str := ["Limit"]
def fcs_letters : List Str := ["Limit"]
def fcs_words : List Str := ["Letters"]
def kprs : List (Ty × Ty) := [((.o "Letters"), (.o "Letters")), ((.o "Limit"), (.o "Limit")), ((.b "tuple"), (.o "Limit"))]
def kpr (t u : Ty) : Bool := kbb t u || decide ((t, u) ∈ kprs)
def xes : List Str := ["BadLetters", "BadLetter", "BadKind", "BadAnswers", "TooMany"]
def xsub (r c : Str) : Bool := decide ((r, c) ∈ ([("BadLetters", "BadLetters"), ("BadLetter", "BadLetter"), ("BadKind", "BadKind"), ("BadAnswers", "BadAnswers"), ("TooMany", "TooMany")] : List (Str × Str)))
abbrev b_is_word : MS :=
  (mSeq (mIfS (mOrT (mNotT (mTest (mCB (fIsi kpr) (mCons (mVar 0) (mCons (mC (.ty "str")) mNil))))) (mNotT (mTest (mChain fLe fLe (mC (.int 1)) (mCB fLen (mCons (mVar 0) mNil)) (mC (.int 12)))))) (mRet (mC (.bl false))) mNext)
      (mRet (mAndV (mOp (fIn id) (mOp fIx (mVar 0) (mC (.int 0))) (mC (.str ("abcdefghijklmnopqrstuvwxyz" : Str)))) (mCB fAll (mCons (mLc (mISeq (mVar 0)) (mGName 1) mYes (mOp (fIn id) (mVar 1) (mC (.str ("abcdefghijklmnopqrstuvwxyz0123456789" : Str)))) [1]) mNil)))))
@[irreducible] def f_is_word : MF := runB 2 b_is_word
abbrev b_is_beginning : MS :=
  (mRet (mAndV (mCB (fIsi kpr) (mCons (mVar 0) (mCons (mC (.ty "str")) mNil))) (mOp (fIn id) (mVar 0) (mC (.tup (([("new" : Str), ("found" : Str)] : List Str).map D.str))))))
@[irreducible] def f_is_beginning : MF := runB 1 b_is_beginning
abbrev b_is_letter : MS :=
  (mSeq (mIfS (mNotT (mTest (mCB (fIsi kpr) (mCons (mVar 0) (mCons (mC (.ty "str")) mNil))))) (mRet (mC (.bl false))) mNext)
      (mSeq (mAsg (mIf (mTest (mOp fEq (mSl (mVar 0) mNoP (mPart (mC (.int 1)))) (mC (.str ("~" : Str))))) (mSl (mVar 0) (mPart (mC (.int 1))) mNoP) (mVar 0)) (mGName 1))
      (mRet (mAndV (mCall0 1 f_is_word (mCons (mVar 1) mNil)) (mNotV (mCall0 1 f_is_beginning (mCons (mVar 1) mNil)))))))
@[irreducible] def f_is_letter : MF := runB 2 b_is_letter
abbrev b_Letters___init__ : MS :=
  (mSeq (mIfS (mTest (mOp fGt (mCB fLen (mCons (mVar 1) mNil)) (mC (.int 12)))) (mRaise "TooMany" 3 [("most", 2), ("many", 1), ("what", 0)] [0, 2] (mCons (mC (.str ("letters" : Str))) (mCons (mCB fLen (mCons (mVar 1) mNil)) (mCons (mC (.int 12)) mNil)))) mNext)
      (mSeq (mIfS (mTest (mOp fEq (mCB fLen (mCons (mVar 1) mNil)) (mC (.int 0)))) (mRaise "BadLetters" 1 [("index", 0)] [0] (mCons (mC (.int 0)) mNil)) mNext)
      (mSeq (mFor (mIEnum (mCons (mVar 1) mNil)) (mGTup 2 (mGCons (mGName 2) (mGCons (mGName 3) mGNil)))
        (mIfS (mOrT (mNotT (mTest (mCall0 1 f_is_letter (mCons (mVar 3) mNil)))) (mTest (mOp (fIn id) (mVar 3) (mSl (mVar 1) mNoP (mPart (mVar 2)))))) (mRaise "BadLetters" 1 [("index", 0)] [0] (mCons (mVar 2) mNil)) mNext))
      (mSetF fcs_words 0 "words" (mCB fTuple (mCons (mVar 1) mNil))))))
@[irreducible] def f_Letters___init__ : MF := runI 4 "Letters" b_Letters___init__
abbrev b_Letters___contains__ : MS :=
  (mRet (mAndV (mCB (fIsi kpr) (mCons (mVar 1) (mCons (mC (.ty "str")) mNil))) (mOp (fIn id) (mVar 1) (mFld fcs_words "words" (mVar 0)))))
@[irreducible] def f_Letters___contains__ : MF := runB 2 b_Letters___contains__
abbrev b_Letters___eq__ : MS :=
  (mRet (mAndV (mCB (fIsi kpr) (mCons (mVar 1) (mCons (mC (.cls "Letters")) mNil))) (mOp fEq (mFld fcs_words "words" (mVar 0)) (mFld fcs_words "words" (mVar 1)))))
@[irreducible] def f_Letters___eq__ : MF := runB 2 b_Letters___eq__
abbrev b_is_one_of : MS :=
  (mRet (mAndV (mCB (fIsi kpr) (mCons (mVar 0) (mCons (mC (.ty "str")) mNil))) (mOp (fIn id) (mVar 0) (mVar 1))))
@[irreducible] def f_is_one_of : MF := runB 2 b_is_one_of
abbrev b_answer_set : MS :=
  (mSeq (mIfS (mTest (mOp fEq (mCB fLen (mCons (mVar 0) mNil)) (mC (.int 0)))) (mRaise "BadAnswers" 1 [("index", 0)] [0] (mCons (mC (.int 0)) mNil)) mNext)
      (mSeq (mFor (mIEnum (mCons (mVar 0) mNil)) (mGTup 2 (mGCons (mGName 2) (mGCons (mGName 3) mGNil)))
        (mIfS (mNotT (mTest (mCall0 1 f_is_word (mCons (mVar 3) mNil)))) (mRaise "BadAnswers" 1 [("index", 0)] [0] (mCons (mVar 2) mNil)) mNext))
      (mSeq (mAsg (mSrt (mVar 0)) (mGName 1))
      (mSeq (mIfS (mTest (mOp fGt (mCB fLen (mCons (mVar 1) mNil)) (mC (.int 6)))) (mRaise "TooMany" 3 [("most", 2), ("many", 1), ("what", 0)] [0, 2] (mCons (mC (.str ("answers" : Str))) (mCons (mCB fLen (mCons (mVar 1) mNil)) (mCons (mC (.int 6)) mNil)))) mNext)
      (mRet (mCB fTuple (mCons (mVar 1) mNil)))))))
@[irreducible] def f_answer_set : MF := runB 4 b_answer_set
abbrev b_Limit___init__ : MS :=
  (mSeq (mIfS (mNotT (mTest (mCall0 2 f_is_one_of (mCons (mVar 2) (mCons (mC (.tup (([("always" : Str), ("fresh" : Str), ("behind" : Str)] : List Str).map D.str))) mNil))))) (mRaise0 "BadKind") mNext)
      (mSeq (mAsg (mCall 1 f_answer_set (mCons (mVar 3) mNil)) (mGName 5))
      (mSeq (mIfS (mIfT (mTest (mOp fEq (mVar 2) (mC (.str ("behind" : Str))))) (mTest (mOp (fInOwn "Letters" f_Letters___contains__ not) (mVar 4) (mVar 1))) (mTest (mOp (fIs not) (mVar 4) (mC .non)))) (mRaise "BadLetter" 1 [("index", 0)] [0] (mCons (mC (.int 0)) mNil)) mNext)
      (mSeq (mSetF fcs_letters 0 "letters" (mVar 1))
      (mSeq (mSetF fcs_kind 0 "kind" (mVar 2))
      (mSeq (mSetF fcs_answers 0 "answers" (mVar 5))
      (mSetF fcs_letter 0 "letter" (mVar 4))))))))
@[irreducible] def f_Limit___init__ : MF := runI 6 "Limit" b_Limit___init__
abbrev b_Limit___eq__ : MS :=
  (mSeq (mIfS (mOrT (mNotT (mTest (mCB (fIsi kpr) (mCons (mVar 1) (mCons (mC (.cls "Limit")) mNil))))) (mOrT (mTest (mOp (fEqOwn "Letters" f_Letters___eq__ not) (mFld fcs_letters "letters" (mVar 0)) (mFld fcs_letters "letters" (mVar 1)))) (mTest (mOp fNe (mFld fcs_kind "kind" (mVar 0)) (mFld fcs_kind "kind" (mVar 1)))))) (mRet (mC (.bl false))) mNext)
      (mRet (mAndV (mOp fEq (mFld fcs_answers "answers" (mVar 0)) (mFld fcs_answers "answers" (mVar 1))) (mOp fEq (mFld fcs_letter "letter" (mVar 0)) (mFld fcs_letter "letter" (mVar 1))))))
@[irreducible] def f_Limit___eq__ : MF := runB 2 b_Limit___eq__
abbrev b_Limit___str__ : MS :=
  (mSeq (mAsg (mLc (mISeq (mTup (mCons (mFld fcs_kind "kind" (mVar 0)) (mCons (mFld fcs_letter "letter" (mVar 0)) mNil)))) (mGName 2) (mTest (mOp (fIs not) (mVar 2) (mC .non))) (mVar 2) [2]) (mGName 1))
      (mRet (mJoin (mC (.str (" " : Str))) (mLst (mStar (mVar 1) (mStar (mFld fcs_answers "answers" (mVar 0)) mNil))))))
@[irreducible] def f_Limit___str__ : MF := runB 3 b_Limit___str__
abbrev f__law_pen : MF := fPen
abbrev f__law_draw : MF := fDraw
abbrev b__law_pick : MS :=
  (mRet (mOp fIx (mVar 1) (mCall0 2 f__law_draw (mCons (mVar 0) (mCons (mCB fLen (mCons (mVar 1) mNil)) mNil)))))
@[irreducible] def f__law_pick : MF := runB 2 b__law_pick
abbrev f__law_letters : MF := (fLet Mk1)
abbrev b__law_odd : MS :=
  (mSeq (mAsg (mCall0 2 f__law_pick (mCons (mVar 0) (mCons (mVar 1) mNil))) (mGName 2))
      (mSeq (mAsg (mOp fAdd (mVar 2) (mCall0 2 f__law_pick (mCons (mVar 0) (mCons (mC (.str ("abcdefghijklmnopqrstuvwxyz0123456789~_ A" : Str))) mNil)))) (mGName 3))
      (mSeq (mAsg (mLst (mCons (mC .non) (mCons (mC (.bl true)) (mCons (mC (.int 0)) (mCons (mC (.int 1)) (mCons (mLst (mCons (mVar 2) mNil)) (mCons (mTup (mCons (mVar 2) mNil)) (mCons (mDisp [((mVar 2), (mVar 2))]) (mCons (mC (.str ("" : Str))) (mCons (mC (.str ("new" : Str))) (mCons (mC (.str ("found" : Str))) (mCons (mVar 3) (mCons (mSl (mVar 2) (mPart (mC (.int 1))) mNoP) (mCons (mUpper (mVar 2)) (mCons (mOp fAdd (mC (.str ("~" : Str))) (mVar 2)) mNil))))))))))))))) (mGName 4))
      (mSeq (mAsg (mLc (mISeq (mVar 4)) (mGName 6) (mNotT (mAndT (mTest (mCB (fIsi kpr) (mCons (mVar 6) (mCons (mC (.ty "str")) mNil)))) (mTest (mOp (fIn id) (mVar 6) (mVar 1))))) (mVar 6) [6]) (mGName 5))
      (mRet (mCall0 2 f__law_pick (mCons (mVar 0) (mCons (mVar 5) mNil))))))))
@[irreducible] def f__law_odd : MF := runB 7 b__law_odd
abbrev b__law_free : MS :=
  (mRet (mOp fIx (mLc (mISeq (mLc (mIRng1 (mCons (mC (.int 13)) mNil)) (mGName 2) mYes (mOp fAdd (mC (.str ("~q" : Str))) (mCB fStr (mCons (mVar 2) mNil))) [2])) (mGName 1) (mTest (mOp (fIn not) (mVar 1) (mVar 0))) (mVar 1) [1]) (mC (.int 0))))
@[irreducible] def f__law_free : MF := runB 3 b__law_free
abbrev b__law_answer : MS :=
  (mSeq (mAsg (mTup (mCons (mC (.str ("abcdefghijklmnopqrstuvwxyz" : Str))) (mCons (mC (.str ("abcdefghijklmnopqrstuvwxyz0123456789" : Str))) mNil))) (mGTup 2 (mGCons (mGName 2) (mGCons (mGName 3) mGNil))))
      (mSeq (mAsg (mCall0 2 f__law_pick (mCons (mVar 0) (mCons (mLst (mCons (mC (.int 0)) (mCons (mC (.int 0)) (mCons (mC (.int 0)) (mCons (mC (.int 1)) (mCons (mC (.int 2)) (mCons (mC (.int 11)) mNil))))))) mNil))) (mGName 1))
      (mRet (mOp fAdd (mCall0 2 f__law_pick (mCons (mVar 0) (mCons (mVar 2) mNil))) (mJoin (mC (.str ("" : Str))) (mLc (mIRng1 (mCons (mVar 1) mNil)) (mGName 4) mYes (mCall0 2 f__law_pick (mCons (mVar 0) (mCons (mVar 3) mNil))) [4]))))))
@[irreducible] def f__law_answer : MF := runB 5 b__law_answer
abbrev b__law_is_answer : MS :=
  (mSeq (mIfS (mOrT (mNotT (mTest (mCB (fIsi kpr) (mCons (mVar 0) (mCons (mC (.ty "str")) mNil))))) (mNotT (mTest (mChain fLe fLe (mC (.int 1)) (mCB fLen (mCons (mVar 0) mNil)) (mC (.int 12)))))) (mRet (mC (.bl false))) mNext)
      (mSeq (mAsg (mTup (mCons (mC (.str ("abcdefghijklmnopqrstuvwxyz" : Str))) (mCons (mC (.str ("abcdefghijklmnopqrstuvwxyz0123456789" : Str))) mNil))) (mGTup 2 (mGCons (mGName 1) (mGCons (mGName 2) mGNil))))
      (mRet (mAndV (mOp (fIn id) (mOp fIx (mVar 0) (mC (.int 0))) (mVar 1)) (mOp fEq (mLc (mISeq (mVar 0)) (mGName 3) (mTest (mOp (fIn not) (mVar 3) (mVar 2))) (mVar 3) [3]) (mLst mNil))))))
@[irreducible] def f__law_is_answer : MF := runB 4 b__law_is_answer
abbrev b__law_set : MS :=
  (mSeq (mAsg (mLst mNil) (mGName 1))
      (mSeq (mFor (mISeq (mVar 0)) (mGName 2)
        (mIfS (mTest (mOp (fIn not) (mVar 2) (mVar 1))) (mSeq (mAsg (mLc (mISeq (mVar 1)) (mGName 4) (mTest (mOp fLt (mVar 4) (mVar 2))) (mVar 4) [4]) (mGName 3))
          (mAsg (mOp fAdd (mOp fAdd (mVar 3) (mLst (mCons (mVar 2) mNil))) (mSl (mVar 1) (mPart (mCB fLen (mCons (mVar 3) mNil))) mNoP)) (mGName 1))) mNext))
      (mRet (mCB fTuple (mCons (mVar 1) mNil)))))
@[irreducible] def f__law_set : MF := runB 5 b__law_set
abbrev b__law_due : MS :=
  (mSeq (mAsg (mLc (mIRng1 (mCons (mCB fLen (mCons (mVar 0) mNil)) mNil)) (mGName 3) (mNotT (mTest (mCall0 1 f__law_is_answer (mCons (mOp fIx (mVar 0) (mVar 3)) mNil)))) (mVar 3) [3]) (mGName 1))
      (mSeq (mIfS (mOrT (mTest (mOp fEq (mVar 0) (mLst mNil))) (mTest (mOp fNe (mVar 1) (mLst mNil)))) (mRet (mTup (mCons (mC (.str ("answers" : Str))) (mCons (mOp fIx (mOp fAdd (mVar 1) (mLst (mCons (mC (.int 0)) mNil))) (mC (.int 0))) mNil)))) mNext)
      (mSeq (mAsg (mCB fLen (mCons (mCall0 1 f__law_set (mCons (mVar 0) mNil)) mNil)) (mGName 2))
      (mRet (mIf (mTest (mOp fGt (mVar 2) (mC (.int 6)))) (mTup (mCons (mC (.str ("many" : Str))) (mCons (mC (.str ("answers" : Str))) (mCons (mVar 2) (mCons (mC (.int 6)) mNil))))) (mC .non))))))
@[irreducible] def f__law_due : MF := runB 4 b__law_due
abbrev b__law_told : MS :=
  (mTry0 xes xsub (mRet (mTup (mCons (mC (.str ("set" : Str))) (mCons (mCall 1 f_answer_set (mCons (mVar 0) mNil)) mNil)))) [⟨"BadAnswers", (some 1), fun xa d cn => (mRet (mTup (mCons (mC (.str ("answers" : Str))) (mCons (mXf xa d cn "BadAnswers" "index" (mVar 1)) mNil))))⟩, ⟨"TooMany", (some 1), fun xa d cn => (mRet (mTup (mCons (mC (.str ("many" : Str))) (mCons (mXf xa d cn "TooMany" "what" (mVar 1)) (mCons (mXf xa d cn "TooMany" "many" (mVar 1)) (mCons (mXf xa d cn "TooMany" "most" (mVar 1)) mNil))))))⟩])
@[irreducible] def f__law_told : MF := runB 2 b__law_told
abbrev b__law_limit : MS :=
  (mTry0 xes xsub (mRet (mMake 5 f_Limit___init__ [] (mCons (mMake 2 f_Letters___init__ [] (mCons (mVar 0) mNil)) (mCons (mVar 1) (mCons (mVar 2) (mCons (mVar 3) mNil)))))) [⟨"BadKind", none, fun xa d cn => (mRet (mTup (mCons (mC (.str ("kind" : Str))) mNil)))⟩, ⟨"BadAnswers", (some 4), fun xa d cn => (mRet (mTup (mCons (mC (.str ("answers" : Str))) (mCons (mXf xa d cn "BadAnswers" "index" (mVar 4)) mNil))))⟩, ⟨"TooMany", (some 4), fun xa d cn => (mRet (mTup (mCons (mC (.str ("many" : Str))) (mCons (mXf xa d cn "TooMany" "what" (mVar 4)) (mCons (mXf xa d cn "TooMany" "many" (mVar 4)) (mCons (mXf xa d cn "TooMany" "most" (mVar 4)) mNil))))))⟩, ⟨"BadLetter", (some 4), fun xa d cn => (mRet (mTup (mCons (mC (.str ("letter" : Str))) (mCons (mXf xa d cn "BadLetter" "index" (mVar 4)) mNil))))⟩])
@[irreducible] def f__law_limit : MF := runB 5 b__law_limit
abbrev b__law_limit_due : MS :=
  (mSeq (mIfS (mOrT (mNotT (mTest (mCB (fIsi kpr) (mCons (mVar 1) (mCons (mC (.ty "str")) mNil))))) (mTest (mOp (fIn not) (mVar 1) (mTup (mCons (mC (.str ("always" : Str))) (mCons (mC (.str ("fresh" : Str))) (mCons (mC (.str ("behind" : Str))) mNil))))))) (mRet (mTup (mCons (mC (.str ("kind" : Str))) mNil))) mNext)
      (mSeq (mIfS (mTest (mOp (fIs not) (mCall0 1 f__law_due (mCons (mVar 2) mNil)) (mC .non))) (mRet (mCall0 1 f__law_due (mCons (mVar 2) mNil))) mNext)
      (mSeq (mAsg (mIf (mTest (mOp fEq (mVar 1) (mC (.str ("behind" : Str))))) (mAndV (mCB (fIsi kpr) (mCons (mVar 3) (mCons (mC (.ty "str")) mNil))) (mOp (fIn id) (mVar 3) (mVar 0))) (mOp (fIs id) (mVar 3) (mC .non))) (mGName 4))
      (mRet (mIf (mTest (mVar 4)) (mC .non) (mTup (mCons (mC (.str ("letter" : Str))) (mCons (mC (.int 0)) mNil))))))))
@[irreducible] def f__law_limit_due : MF := runB 5 b__law_limit_due
abbrev b__law_is_right : MS :=
  (mSeq (mAsg (mLst (mCons (mVar 2) (mCons (mCall0 1 f__law_set (mCons (mVar 3) mNil)) (mCons (mVar 4) mNil)))) (mGName 5))
      (mSeq (mAsg (mOp fAdd (mLc (mISeq (mLst (mCons (mVar 2) (mCons (mVar 4) mNil)))) (mGName 10) (mTest (mOp (fIs not) (mVar 10) (mC .non))) (mVar 10) [10]) (mCB fList (mCons (mCall0 1 f__law_set (mCons (mVar 3) mNil)) mNil))) (mGName 6))
      (mSeq (mAsg (mAndV (mOp fEq (mCB fRepr (mCons (mLst (mCons (mFld fcs_kind "kind" (mVar 0)) (mCons (mFld fcs_answers "answers" (mVar 0)) (mCons (mFld fcs_letter "letter" (mVar 0)) mNil)))) mNil)) (mCB fRepr (mCons (mVar 5) mNil))) (mOp (fEqOwn "Letters" f_Letters___eq__ id) (mFld fcs_letters "letters" (mVar 0)) (mMake0 2 f_Letters___init__ [] (mCons (mVar 1) mNil)))) (mGName 7))
      (mSeq (mAsg (mMake0 5 f_Limit___init__ [] (mCons (mMake0 2 f_Letters___init__ [] (mCons (mVar 1) mNil)) (mCons (mVar 2) (mCons (mOp fAdd (mRev (mVar 3)) (mVar 3)) (mCons (mVar 4) mNil))))) (mGName 8))
      (mSeq (mAsg (mMake0 5 f_Limit___init__ [] (mCons (mMake0 2 f_Letters___init__ [] (mCons (mOp fAdd (mVar 1) (mLst (mCons (mCall0 1 f__law_free (mCons (mVar 1) mNil)) mNil))) mNil)) (mCons (mVar 2) (mCons (mVar 3) (mCons (mVar 4) mNil))))) (mGName 9))
      (mRet (mAndV (mVar 7) (mAndV (mOp fEq (mCB (fStrOwn "Limit" f_Limit___str__) (mCons (mVar 0) mNil)) (mJoin (mC (.str (" " : Str))) (mVar 6))) (mAndV (mOp (fEqOwn "Limit" f_Limit___eq__ id) (mVar 0) (mVar 8)) (mAndV (mNotV (mOp (fEqOwn "Limit" f_Limit___eq__ not) (mVar 0) (mVar 8))) (mOp (fEqOwn "Limit" f_Limit___eq__ not) (mVar 0) (mVar 9))))))))))))
@[irreducible] def f__law_is_right : MF := runB 11 b__law_is_right
abbrev b_law_0 : MS :=
  (mAsg (mCall0 2 f__law_letters (mCons (mVar 1) (mCons (mOp fAdd (mC (.int 1)) (mCall0 2 f__law_draw (mCons (mVar 1) (mCons (mC (.int 4)) mNil)))) mNil))) (mGName 3))
abbrev b_law_1 : MS :=
  (mAsg (mLc (mIRng1 (mCons (mOp fAdd (mC (.int 1)) (mCall0 2 f__law_draw (mCons (mVar 1) (mCons (mC (.int 9)) mNil)))) mNil)) (mGName 14) mYes (mCall0 1 f__law_answer (mCons (mVar 1) mNil)) [14]) (mGName 4))
abbrev b_law_2 : MS :=
  (mAsg (mLc (mIRng1 (mCons (mCall0 2 f__law_draw (mCons (mVar 1) (mCons (mC (.int 11)) mNil))) mNil)) (mGName 14) mYes (mCall0 2 f__law_pick (mCons (mVar 1) (mCons (mVar 4) mNil))) [14]) (mGName 5))
abbrev b_law_3 : MS :=
  (mIfS (mTest (mOp fEq (mCall0 2 f__law_draw (mCons (mVar 1) (mCons (mC (.int 4)) mNil))) (mC (.int 0)))) (mSeq (mAsg (mCall0 2 f__law_draw (mCons (mVar 1) (mCons (mOp fAdd (mCB fLen (mCons (mVar 5) mNil)) (mC (.int 1))) mNil))) (mGName 8))
          (mSeq (mAsg (mLst (mCons (mC .non) (mCons (mC (.bl true)) (mCons (mC (.int 3)) (mCons (mC (.str ("" : Str))) (mCons (mC (.str ("1a" : Str))) (mCons (mC (.str ("A" : Str))) (mCons (mOp fMul (mC (.str ("a" : Str))) (mC (.int 13))) (mCons (mC (.str ("a b" : Str))) (mCons (mC (.str ("~a" : Str))) (mCons (mTup (mCons (mC (.str ("a" : Str))) mNil)) (mCons (mC (.str ("a_" : Str))) (mCons (mC (.str ("Yes" : Str))) (mCons (mLst (mCons (mC (.str ("a" : Str))) mNil)) (mCons (mC (.str (" a" : Str))) (mCons (mC (.str ("a\n" : Str))) mNil)))))))))))))))) (mGName 9))
          (mAsg (mOp fAdd (mOp fAdd (mSl (mVar 5) mNoP (mPart (mVar 8))) (mLst (mCons (mCall0 2 f__law_pick (mCons (mVar 1) (mCons (mVar 9) mNil))) mNil))) (mSl (mVar 5) (mPart (mVar 8)) mNoP)) (mGName 5)))) mNext)
abbrev b_law_4 : MS :=
  (mPar 10 11 (mCons (mCB fList (mCons (mVar 5) mNil)) (mCons (mCall0 1 f__law_due (mCons (mVar 5) mNil)) mNil)))
abbrev b_law_5 : MS :=
  (mIfS (mTest (mOp (fIs id) (mVar 11) (mC .non))) (mAsg (mTup (mCons (mC (.str ("set" : Str))) (mCons (mCall0 1 f__law_set (mCons (mVar 5) mNil)) mNil))) (mGName 11)) mNext)
abbrev b_law_6 : MS :=
  (mIfS (mOrT (mTest (mOp fNe (mCall0 1 f__law_told (mCons (mVar 10) mNil)) (mVar 11))) (mTest (mOp fNe (mCB fRepr (mCons (mVar 10) mNil)) (mCB fRepr (mCons (mVar 5) mNil))))) (mRet (mC (.bl false))) mNext)
abbrev b_law_7 : MS :=
  (mAsg (mCall0 2 f__law_pick (mCons (mVar 1) (mCons (mLst (mCons (mC (.str ("always" : Str))) (mCons (mC (.str ("fresh" : Str))) (mCons (mC (.str ("behind" : Str))) (mCons (mC (.str ("behind" : Str))) mNil))))) mNil))) (mGName 6))
abbrev b_law_8 : MS :=
  (mAsg (mIf (mTest (mOp fEq (mVar 6) (mC (.str ("behind" : Str))))) (mCall0 2 f__law_pick (mCons (mVar 1) (mCons (mVar 3) mNil))) (mC .non)) (mGName 7))
abbrev b_law_9 : MS :=
  (mIfS (mTest (mOp fEq (mCall0 2 f__law_draw (mCons (mVar 1) (mCons (mC (.int 4)) mNil))) (mC (.int 0)))) (mAsg (mCall0 2 f__law_pick (mCons (mVar 1) (mCons (mLst (mCons (mC (.str ("" : Str))) (mCons (mC (.str ("Always" : Str))) (mCons (mC (.str ("before" : Str))) (mCons (mC .non) (mCons (mC (.int 1)) (mCons (mC (.str ("kept" : Str))) (mCons (mTup (mCons (mC (.str ("fresh" : Str))) mNil)) (mCons (mC (.str ("always" : Str))) (mCons (mC (.str ("fresh" : Str))) (mCons (mC (.str ("behind" : Str))) mNil))))))))))) mNil))) (mGName 6)) mNext)
abbrev b_law_10 : MS :=
  (mIfS (mTest (mOp fEq (mCall0 2 f__law_draw (mCons (mVar 1) (mCons (mC (.int 4)) mNil))) (mC (.int 0)))) (mAsg (mCall0 2 f__law_pick (mCons (mVar 1) (mCons (mLst (mCons (mC .non) (mCons (mOp fIx (mVar 3) (mUn fNeg (mC (.int 1)))) (mCons (mCall0 2 f__law_odd (mCons (mVar 1) (mCons (mVar 3) mNil))) mNil)))) mNil))) (mGName 7)) mNext)
abbrev b_law_11 : MS :=
  (mPar 12 11 (mCons (mCall0 4 f__law_limit (mCons (mVar 3) (mCons (mVar 6) (mCons (mVar 5) (mCons (mVar 7) mNil))))) (mCons (mCall0 4 f__law_limit_due (mCons (mVar 3) (mCons (mVar 6) (mCons (mVar 5) (mCons (mVar 7) mNil))))) mNil)))
abbrev b_law_12 : MS :=
  (mIfS (mTest (mOp fNe (mCB (fIsi kpr) (mCons (mVar 12) (mCons (mC (.cls "Limit")) mNil))) (mOp (fIs id) (mVar 11) (mC .non)))) (mRet (mC (.bl false))) mNext)
abbrev b_law_13 : MS :=
  (mIfS (mAndT (mTest (mOp (fIs not) (mVar 11) (mC .non))) (mTest (mOp fNe (mVar 12) (mVar 11)))) (mRet (mC (.bl false))) mNext)
abbrev b_law_14 : MS :=
  (mIfS (mAndT (mTest (mOp (fIs id) (mVar 11) (mC .non))) (mNotT (mTest (mCall0 5 f__law_is_right (mCons (mVar 12) (mCons (mVar 3) (mCons (mVar 6) (mCons (mVar 5) (mCons (mVar 7) mNil))))))))) (mRet (mC (.bl false))) mNext)
abbrev b_law_15 : MS :=
  (mIfS (mTest (mOp (fIs id) (mVar 11) (mC .non))) (mSeq (mAsg (mOp fAdd (mLst (mCons (mC (.str ("zz0zz0zz0zz" : Str))) mNil)) (mSl (mCB fList (mCons (mFld fcs_answers "answers" (mVar 12)) mNil)) mNoP (mPart (mC (.int 5))))) (mGName 13))
          (mIfS (mTest (mOp (fEqOwn "Limit" f_Limit___eq__ id) (mVar 12) (mMake0 5 f_Limit___init__ [.non] (mCons (mMake0 2 f_Letters___init__ [] (mCons (mVar 3) mNil)) (mCons (mC (.str ("always" : Str))) (mCons (mVar 13) mNil)))))) (mRet (mC (.bl false))) mNext)) mNext)
abbrev b_law : MS :=
  (mSeq (mAsg (mCall0 1 f__law_pen (mCons (mVar 0) mNil)) (mGName 1))
      (mSeq (mFor (mIRng1 (mCons (mC (.int 6)) mNil)) (mGName 2)
        (mSeq b_law_0
        (mSeq b_law_1
        (mSeq b_law_2
        (mSeq b_law_3
        (mSeq b_law_4
        (mSeq b_law_5
        (mSeq b_law_6
        (mSeq b_law_7
        (mSeq b_law_8
        (mSeq b_law_9
        (mSeq b_law_10
        (mSeq b_law_11
        (mSeq b_law_12
        (mSeq b_law_13
        (mSeq b_law_14
        b_law_15))))))))))))))))
      (mRet (mC (.bl true)))))
@[irreducible] def f_law : MF := runB 15 b_law
def kap (a : Ad) : Str → Addr := fun c => if c = "Letters" then a.Letters else if c = "Limit" then a.Limit else if c = "BadLetters" then a.BadLetters else if c = "BadLetter" then a.BadLetter else if c = "BadKind" then a.BadKind else if c = "BadAnswers" then a.BadAnswers else if c = "TooMany" then a.TooMany else 0
theorem kap_Letters (a : Ad) : kap a "Letters" = a.Letters := rfl
theorem kap_Limit (a : Ad) : kap a "Limit" = a.Limit := rfl
theorem kap_BadLetters (a : Ad) : kap a "BadLetters" = a.BadLetters := rfl
theorem kap_BadLetter (a : Ad) : kap a "BadLetter" = a.BadLetter := rfl
theorem kap_BadKind (a : Ad) : kap a "BadKind" = a.BadKind := rfl
theorem kap_BadAnswers (a : Ad) : kap a "BadAnswers" = a.BadAnswers := rfl
theorem kap_TooMany (a : Ad) : kap a "TooMany" = a.TooMany := rfl
section
variable {P : Program} {w : World} {K : PySem.W.Frag} {mg : Str → Option Value} {base : Heap} {a : Ad}
theorem fl_answers (T : Txt P K mg a) : ∀ c ∈ fcs_answers, Cls K (kap a c) ∧ NoAttr K (kap a c) "answers" := mem_cons_all ⟨T.cl_Limit, T.na_Limit_answers⟩ (nofun)
theorem fl_kind (T : Txt P K mg a) : ∀ c ∈ fcs_kind, Cls K (kap a c) ∧ NoAttr K (kap a c) "kind" := mem_cons_all ⟨T.cl_Limit, T.na_Limit_kind⟩ (nofun)
theorem fl_letter (T : Txt P K mg a) : ∀ c ∈ fcs_letter, Cls K (kap a c) ∧ NoAttr K (kap a c) "letter" := mem_cons_all ⟨T.cl_Limit, T.na_Limit_letter⟩ (nofun)
theorem fl_letters (T : Txt P K mg a) : ∀ c ∈ fcs_letters, Cls K (kap a c) ∧ NoAttr K (kap a c) "letters" := mem_cons_all ⟨T.cl_Limit, T.na_Limit_letters⟩ (nofun)
theorem fl_words (T : Txt P K mg a) : ∀ c ∈ fcs_words, Cls K (kap a c) ∧ NoAttr K (kap a c) "words" := mem_cons_all ⟨T.cl_Letters, T.na_Letters_words⟩ (nofun)
theorem kt1 (T : Txt P K mg a) : ∀ p ∈ kprs, PySem.W.kitOne K (p.1.v (kap a)) (p.2.v (kap a)) = some (subT p.1 p.2) := mem_cons_all T.kt_0 (mem_cons_all T.kt_1 (mem_cons_all T.kt_2 (nofun)))
theorem kt2 (T : Txt P K mg a) : ∀ p ∈ kprs, ∀ c, p.1 = .o c → IsiF K (kap a c) := mem_cons_all (fun c e => by cases e; exact ⟨T.cl_Letters, T.isi_Letters.ha, T.isi_Letters.hn, T.isi_Letters.htk, T.isi_Letters.hm⟩) (mem_cons_all (fun c e => by cases e; exact ⟨T.cl_Limit, T.isi_Limit.ha, T.isi_Limit.hn, T.isi_Limit.htk, T.isi_Limit.hm⟩) (mem_cons_all (fun c e => by cases e) (nofun)))
theorem kt (T : Txt P K mg a) : Kit K (kap a) kpr := kit_mk (kt1 T) (kt2 T)
theorem so (T : Txt P K mg a) : SubOk K (kap a) xes xsub := mem_cons_all (mem_cons_all T.em_BadLetters_BadLetters (mem_cons_all T.em_BadLetters_BadLetter (mem_cons_all T.em_BadLetters_BadKind (mem_cons_all T.em_BadLetters_BadAnswers (mem_cons_all T.em_BadLetters_TooMany (nofun)))))) (mem_cons_all (mem_cons_all T.em_BadLetter_BadLetters (mem_cons_all T.em_BadLetter_BadLetter (mem_cons_all T.em_BadLetter_BadKind (mem_cons_all T.em_BadLetter_BadAnswers (mem_cons_all T.em_BadLetter_TooMany (nofun)))))) (mem_cons_all (mem_cons_all T.em_BadKind_BadLetters (mem_cons_all T.em_BadKind_BadLetter (mem_cons_all T.em_BadKind_BadKind (mem_cons_all T.em_BadKind_BadAnswers (mem_cons_all T.em_BadKind_TooMany (nofun)))))) (mem_cons_all (mem_cons_all T.em_BadAnswers_BadLetters (mem_cons_all T.em_BadAnswers_BadLetter (mem_cons_all T.em_BadAnswers_BadKind (mem_cons_all T.em_BadAnswers_BadAnswers (mem_cons_all T.em_BadAnswers_TooMany (nofun)))))) (mem_cons_all (mem_cons_all T.em_TooMany_BadLetters (mem_cons_all T.em_TooMany_BadLetter (mem_cons_all T.em_TooMany_BadKind (mem_cons_all T.em_TooMany_BadAnswers (mem_cons_all T.em_TooMany_TooMany (nofun)))))) (nofun)))))
theorem rzk_BadLetters : RzOk a.BadLetters (sp_BadLetters a.BadLetters) 1 [("index", 0)] [0] := fun H ys R hl hf q => match ys, hl with | [y0], _ => rz_BadLetters (hf 0 (by simp)) q
theorem rzk_BadLetter : RzOk a.BadLetter (sp_BadLetter a.BadLetter) 1 [("index", 0)] [0] := fun H ys R hl hf q => match ys, hl with | [y0], _ => rz_BadLetter (hf 0 (by simp)) q
theorem rzk_BadAnswers : RzOk a.BadAnswers (sp_BadAnswers a.BadAnswers) 1 [("index", 0)] [0] := fun H ys R hl hf q => match ys, hl with | [y0], _ => rz_BadAnswers (hf 0 (by simp)) q
theorem rzk_TooMany : RzOk a.TooMany (sp_TooMany a.TooMany) 3 [("most", 2), ("many", 1), ("what", 0)] [0, 2] := fun H ys R hl hf q => match ys, hl with | [y0, y1, y2], _ => rz_TooMany (hf 0 (by simp)) (hf 2 (by simp)) q
end
local macro_rules | `(tactic| walk_at "st1") => `(tactic| with_reducible (first
  | refine rd_seq ?_ | refine rd_op ?_ | refine rd_c ?_ | refine rd_cb ?_ | refine rd_cons ?_ | refine rd_nil ?_ | refine rd_B ?_ | refine rd_test ?_ | refine rd_bl ?_ | refine rd_I0 ?_
  | refine rd_not ?_ | refine rd_and ?_ | refine rd_or ?_ | refine rd_andV ?_ | refine rd_orV ?_ | refine rd_notV ?_ | refine rd_if ?_ | refine rd_chain ?_ | refine rd_un ?_ | refine rd_call ?_
  | refine rd_ifS ?_ | refine rd_asg ?_ | refine rd_drop ?_ | refine rd_ret ?_ | refine rd_next ?_ | refine rd_par ?_ | refine rd_two ?_ | refine rd_tup ?_ | refine rd_lst ?_ | refine rd_fld ?_ | refine rd_dget ?_ | refine rd_dput ?_ | refine rd_sfld ?_
  | refine rd_isiStr ?_ | refine rd_sign ?_ | refine rd_intI ?_ | refine rd_intB ?_ | refine rd_abs ?_ | refine rd_isN' ?_ | refine rd_gname ?_ | refine iteT ?_ | refine iteF ?_ | refine rd_nt ?_ | refine rd_nf ?_  | refine rd_yes ?_ | refine rd_sl ?_ | refine rd_noPart ?_ | refine rd_part ?_ | refine rd_partAt ?_ | refine rd_make ?_ | refine rd_meth ?_ | refine rd_bm ?_ | refine rd_m1 ?_ | refine rd_isS ?_ | refine rd_ifT ?_ | refine rd_tupm ?_ | refine rd_iStr ?_ | refine rd_iStrAt ?_ | refine rd_iList ?_ | refine rd_iTup ?_ | refine rd_iRng1 ?_ | refine rd_iEnum ?_ | refine rd_iEnT ?_ | refine rd_mkO ?_ | refine rd_makeW ?_ | refine rd_callW ?_ | refine rd_methW ?_ | refine rd_bm0 ?_ | refine rd_revL ?_ | refine rd_makeN ?_ | refine rd_ixW ?_))
local macro_rules | `(tactic| walk_at "st") => `(tactic| ((repeat (first
  | walk_at "st1"
  | ((with_reducible show L2.tVar _ _ _ _); refine rd_var rfl ?_)
  | ((with_reducible show L2.tAug _ _ _ _ _ _); refine rd_aug rfl ?_)
  | ((with_reducible refine rd_eq ?_ ?_); exact rfl)
  | ((with_reducible refine rd_ne ?_ ?_); exact rfl)))))

abbrev PenK (H : Hp) (pd c : Addr) (B : Nat) : Prop := Pen "cells" "begun" "left" H pd c B
theorem d3 : D3 "cells" "begun" "left" := ⟨by decide +kernel, by decide +kernel, by decide +kernel⟩
section
variable {P : Program} {w : World} {K : PySem.W.Frag} {mg : Str → Option Value} {base : Heap} {a : Ad}
def spPen (K : PySem.W.Frag) : Sp := fun vs H Q _ => ∃ (s : Addr) (ns : List Int), vs = [.ref s] ∧ SqL K H s (ns.map V.int) ∧ ∀ pd c H', H pd = none → H c = none → PenK H' pd c 0 → Ex H H' → Q (.ref pd) H'
theorem cutV_ints (ns : List Int) (lo hi : Option Int) : ∃ ms : List Int, cutV (ns.map V.int) lo hi = ms.map V.int := by
  unfold cutV
  rw [← List.map_drop, ← List.map_take]
  exact ⟨_, rfl⟩
theorem o__law_pen (T : Txt P K mg a) : Cal P w K mg base 1 "_law_pen" ["_law_script"] (spPen K) := by
  obtain ⟨fd, F, b⟩ := T.F__law_pen
  refine ⟨_, _, F.ok sc__law_pen (fun vs H Q E h => ?_) (fun cdv A outer s H vs Q E hr h => ?_), T.g__law_pen, F.kp, b⟩
  · obtain ⟨z, ns, rfl, _⟩ := h
    rfl
  · obtain ⟨z, ns, rfl, hz, k⟩ := h
    refine ⟨_, (pss_one (ps_ret (pe_disp (pps_cons pe_str (pe_callTy call_list_of (by rfl) T.n_list (by decide +kernel) (pa_cons (pe_slice sl_list (pv 0) po_none (po_some pe_int)) pa_nil)) (pps_cons pe_str pe_int (pps_cons pe_str pe_int pps_nil))) (by rfl) (by rfl) (fun z => by cases z) (by decide)))), ?_⟩
    walk_at "st"
    intro pd hpd
    have e0 : Ex H (upd H pd (.dK [])) := Ex.new hpd
    obtain ⟨ms, em⟩ := cutV_ints ns none (some 63)
    show tC (V.str "cells") _ _ _
    walk_at "st"
    refine rd_slL (ex_l e0 hz) (fun m H1 hm e1 h1 => ?_)
    rw [em] at h1
    walk_at "st"
    refine ⟨_, _, rfl, .inl (sq_of h1), fun c hc => ?_⟩
    have e2 := Ex.new (o := .lst (ms.map V.int)) hc
    have h2 : upd H1 c (.lst (ms.map V.int)) c = _ := upd_same
    generalize upd H1 c (.lst (ms.map V.int)) = H2 at e2 h2 ⊢
    show tC (V.str "begun") _ _ _
    walk_at "st"
    show tC (V.str "left") _ _ _
    walk_at "st"
    have hp2 : H2 pd = some (.dK []) := e2 _ _ (e1 _ _ upd_same)
    refine ⟨hp2, pd3 "cells" "begun" "left" (.ref c) (.int 0) (.int 0), rfl, by show 3 ≤ 15; decide, ?_⟩
    rw [d3.m]
    have ncp : c ≠ pd := fun e => by rw [e, e1 _ _ upd_same] at hc; cases hc
    refine k pd c _ hpd (fresh_back e0 (fresh_back e1 hc)) ⟨ms, 0, 0, upd_same, by rw [upd_ne ncp]; exact h2, Int.le_refl _, Int.le_refl _, Int.le_refl _⟩ (Ex.mut ((e0.trans e1).trans e2) hpd)
theorem o__law_draw (T : Txt P K mg a) : Cal P w K mg base 1 "_law_draw" ["_law_pen_here", "_law_many"] (spDraw "cells" "begun" "left") := by
  obtain ⟨fd, F, b⟩ := T.F__law_draw
  refine ⟨_, _, F.ok sc__law_draw (fun vs H Q E h => ?_) (fun cdv A outer s H vs Q E hr h => ?_), T.g__law_draw, F.kp, b⟩
  · obtain ⟨z, c, B, m, rfl, _⟩ := h
    rfl
  · obtain ⟨pd, c, B, m, rfl, ⟨ns, i, r, hp, hc, i0, iB, r0⟩, hB, m0, m1, k⟩ := h
    have hu := hu_of hr
    have ncp : c ≠ pd := ne_of hc hp (by intro z; cases z)
    have dw : ∀ {x : Int}, CDivW x m := fun {x} => wide_div (b := 30) m0 (by omega) (by omega) (by omega)
    refine ⟨_, (pss_cons (ps_if (pt_cmpR op_gt (pe_dget hu (pv 0) pe_str (fun _ _ => rfl)) pe_int (by rfl)) (pss_cons (ps_set (i := 4) sc__law_draw.nd rfl (by first | exact Or.inl rfl | exact Or.inr rfl) (pe_op op_mod (pe_callTy call_int1 (by rfl) T.n_int (by decide +kernel) (pa_cons (pe_dget hu (pv 0) pe_str (fun _ _ => rfl)) pa_nil)) (pv 1)))
    (pss_cons (ps_dput hu (pv 0) pe_str (pe_op op_fdivW (pe_dget hu (pv 0) pe_str (fun _ _ => rfl)) (pv 1)) rfl)
    (pss_one (ps_ret (pv 4))))) pss_nil)
  (pss_cons (ps_par (i := 5) (j := 6) (by rfl) sc__law_draw.nd rfl rfl (by decide) rfl rfl (pa_cons (pe_dget hu (pv 0) pe_str (fun _ _ => rfl)) (pa_cons (pe_callB call_len_seq (by rfl) T.n_len (by decide +kernel) (pa_cons (pe_dget hu (pv 0) pe_str (fun _ _ => rfl)) pa_nil)) pa_nil)) (by rfl))
  (pss_cons (ps_dput hu (pv 0) pe_str (pe_op op_add (pv 5) pe_int) rfl)
  (Evl.pss_cut (ps_set (i := 2) sc__law_draw.nd rfl (by first | exact Or.inl rfl | exact Or.inr rfl) (pe_ifExp (pt_cmpR op_gt (pv 6) pe_int (by rfl)) (pe_ix ix_list (pe_dget hu (pv 0) pe_str (fun _ _ => rfl)) (pe_op op_mod (pe_callTy call_int1 (by rfl) T.n_int (by decide +kernel) (pa_cons (pv 5) pa_nil)) (pv 6)) (fun _ _ => rfl)) (pe_op op_add (pe_op op_mul pe_int (pv 5)) pe_int)))
  (Evl.pss_cut (ps_if (PW.pt (pw_and (pt_cmpR op_lt (pv 5) (pv 6) (by rfl)) (pw_and1 (pt_cmpR op_ge (pe_callB call_abs (by rfl) T.n_abs (by decide +kernel) (pa_cons (pv 2) pa_nil)) (pe_op op_pow pe_int pe_int) (by rfl))))) (pss_cons (ps_dput hu (pv 0) pe_str (pe_op op_fdivW (pe_op op_sub (pe_callB call_abs (by rfl) T.n_abs (by decide +kernel) (pa_cons (pv 2) pa_nil)) (pe_op op_pow pe_int pe_int)) (pv 1)) rfl)
    (pss_one (ps_ret (pe_op op_mod (pe_callTy call_int1 (by rfl) T.n_int (by decide +kernel) (pa_cons (pe_op op_sub (pe_callB call_abs (by rfl) T.n_abs (by decide +kernel) (pa_cons (pv 2) pa_nil)) (pe_op op_pow pe_int pe_int)) pa_nil)) (pv 1))))) pss_nil)
  (pss_cons (ps_set (i := 3) sc__law_draw.nd rfl (by first | exact Or.inl rfl | exact Or.inr rfl) (pe_op op_mod (pe_callTy call_int1 (by rfl) T.n_int (by decide +kernel) (pa_cons (pe_op op_add (pe_op op_add (pe_op op_mul (pe_op op_mod (pe_callTy call_int1 (by rfl) T.n_int (by decide +kernel) (pa_cons (pv 2) pa_nil)) pe_int) pe_int) (pe_op op_mul (pe_op op_mul pe_int (pv 5)) (pv 5))) pe_int) pa_nil)) pe_int))
  (pss_cons (ps_set (i := 3) sc__law_draw.nd rfl (by first | exact Or.inl rfl | exact Or.inr rfl) (pe_op op_mod (pe_callTy call_int1 (by rfl) T.n_int (by decide +kernel) (pa_cons (pe_op op_add (pe_op op_add (pe_op op_add (pe_op op_mul (pv 3) (pv 3)) (pe_op op_mul pe_int (pv 3))) (pe_op op_mul pe_int (pv 5))) pe_int) pa_nil)) pe_int))
  (pss_one (ps_ret (pe_op op_mod (pe_callTy call_int1 (by rfl) T.n_int (by decide +kernel) (pa_cons (pe_op op_fdivW (pe_op op_mod (pe_callTy call_int1 (by rfl) T.n_int (by decide +kernel) (pa_cons (pe_op op_mul (pv 3) (pe_op op_add (pv 3) pe_int)) pa_nil)) pe_int) pe_int) pa_nil)) (pv 1))))))))))), ?_⟩
    walk_at "st"
    refine rd_dgetS hp d3.v3 ?_
    walk_at "st"
    refine ite2 (fun h => ?_) (fun h => ?_)
    · walk_at "st"
      refine rd_dgetS hp d3.v3 ?_
      walk_at "st"
      refine rd_I m0 ?_
      walk_at "st"
      refine rd_dgetS hp d3.v3 ?_
      walk_at "st"
      refine rd_I dw ?_
      walk_at "st"
      refine rd_dputS hp (by show 3 < sizeLine; decide) ?_
      walk_at "st"
      rw [d3.p3]
      refine k _ _ (Int.emod_nonneg _ (by omega)) (Int.emod_lt_of_pos _ m0) ⟨ns, i, r / m, upd_same, by rw [upd_ne ncp]; exact hc, i0, by omega, Int.ediv_nonneg r0 (by omega)⟩ Kx.put
    · walk_at "st"
      refine rd_dgetS hp d3.v2 ?_
      walk_at "st"
      refine rd_dgetS hp d3.v1 ?_
      walk_at "st"
      refine rd_lenL (sq_of hc) ?_
      rw [List.length_map]
      walk_at "st"
      refine rd_dputS hp (by show 3 < sizeLine; decide) ?_
      rw [d3.p2]
      have hp1 : (upd H pd (.dK (pd3 "cells" "begun" "left" (.ref c) (.int (i + 1)) (.int r)))) pd = some (.dK (pd3 "cells" "begun" "left" (.ref c) (.int (i + 1)) (.int r))) := upd_same
      have hc1 : (upd H pd (.dK (pd3 "cells" "begun" "left" (.ref c) (.int (i + 1)) (.int r)))) c = some (.lst (ns.map V.int)) := by rw [upd_ne ncp]; exact hc
      have kx1 : Kx pd H (upd H pd (.dK (pd3 "cells" "begun" "left" (.ref c) (.int (i + 1)) (.int r)))) := Kx.put
      generalize upd H pd (.dK (pd3 "cells" "begun" "left" (.ref c) (.int (i + 1)) (.int r))) = H1 at hp1 hc1 kx1 ⊢
      walk_at "st"
      have pw : CPow 10 18 := ⟨by decide, by decide, by decide⟩
      have lt64 : ∀ (x y : Int), 0 < y → y < 2 ^ 40 → -(2 ^ 64) < x % y ∧ x % y < 2 ^ 64 := fun x y h1 h2 => by
        have := Int.emod_nonneg x (show y ≠ 0 by omega)
        have := Int.emod_lt_of_pos x h1
        omega
      refine ⟨fun σ' H' => ∃ told, σ' = [some (.ref pd), some (.int m), some (.int told), none, none, some (.int i), some (.int (ns.length : Nat))] ∧ H' = H1, ?_, ?_⟩
      · walk_at "st"
        refine ite2 (fun hn => ?_) (fun hn => ?_)
        · have hl : (0 : Int) < (ns.length : Nat) := of_decide_eq_true hn
          walk_at "st"
          refine rd_dgetS hp1 d3.v1 ?_
          walk_at "st"
          refine rd_I hl ?_
          have hb := Int.emod_lt_of_pos i hl
          have ha := Int.emod_nonneg i (show (ns.length : Int) ≠ 0 by omega)
          obtain ⟨v, hv, _, hat⟩ := atI_int (xs := ns.map V.int) (i := i % (ns.length : Int)) ha (by rw [List.length_map]; exact hb)
          obtain ⟨x, _, rfl⟩ := List.mem_map.mp hv
          exact ⟨_, _, _, V.int x, rfl, rfl, sq_of hc1, hat, _, rfl, rfl⟩
        · walk_at "st"
          refine rd_I (.inl ⟨by decide, by decide⟩) ?_
          walk_at "st"
          exact ⟨_, rfl, rfl⟩
      · rintro σ' H' ⟨told, rfl, rfl⟩
        walk_at "st"
        refine ⟨fun σ' H'' => σ' = [some (.ref pd), some (.int m), some (.int told), none, none, some (.int i), some (.int (ns.length : Nat))] ∧ H'' = H', ?_, ?_⟩
        · walk_at "st"
          refine ite2 (fun h1 => ?_) (fun h1 => ?_)
          · walk_at "st"
            refine rd_I pw ?_
            walk_at "st"
            refine ite2 (fun h2 => ?_) (fun h2 => ?_)
            · walk_at "st"
              refine rd_I pw ?_
              walk_at "st"
              refine rd_I dw ?_
              walk_at "st"
              refine rd_dputS hp1 (by show 3 < sizeLine; decide) ?_
              rw [d3.p3]
              walk_at "st"
              refine rd_I pw ?_
              walk_at "st"
              refine rd_I m0 ?_
              refine k _ _ (Int.emod_nonneg _ (by omega)) (Int.emod_lt_of_pos _ m0) ⟨ns, i + 1, _, upd_same, by rw [upd_ne ncp]; exact hc1, by omega, by omega, Int.ediv_nonneg ?_ (by omega)⟩ (kx1.trans Kx.put)
              have := of_decide_eq_true h2
              omega
            · walk_at "st"
              exact ⟨rfl, rfl⟩
          · walk_at "st"
            exact ⟨rfl, rfl⟩
        · rintro σ' H'' ⟨rfl, rfl⟩
          walk_at "st"
          refine rd_I (by show (0 : Int) < 4294967279; decide) ?_
          walk_at "st"
          refine rd_I (.inr ⟨by decide, by decide⟩) ?_
          walk_at "st"
          refine rd_I (.inl ⟨by decide, by decide⟩) ?_
          walk_at "st"
          refine rd_I (.inr ⟨by omega, by omega⟩) ?_
          walk_at "st"
          refine rd_I (by show (0 : Int) < 4294967291; decide) ?_
          walk_at "st"
          refine rd_I (.inl (lt64 _ _ (by decide) (by decide))) ?_
          walk_at "st"
          refine rd_I (.inl ⟨by decide, by decide⟩) ?_
          walk_at "st"
          refine rd_I (.inl ⟨by decide, by decide⟩) ?_
          walk_at "st"
          refine rd_I (by show (0 : Int) < 4294967231; decide) ?_
          walk_at "st"
          refine rd_I (.inl (lt64 _ _ (by decide) (by decide))) ?_
          walk_at "st"
          refine rd_I (by show (0 : Int) < 4294967189; decide) ?_
          walk_at "st"
          refine rd_I (wide_div (b := 30) (by decide) (by decide) (by omega) (by omega)) ?_
          walk_at "st"
          refine rd_I m0 ?_
          exact k _ _ (Int.emod_nonneg _ (by omega)) (Int.emod_lt_of_pos _ m0) ⟨ns, i + 1, r, hp1, hc1, by omega, by omega, r0⟩ kx1
def spPick : Sp := fun vs H Q _ => ∃ (pd c : Addr) (B : Nat), PenK H pd c B ∧ B < 900000000 ∧
  ((∃ (l : Addr) (xs : List V), vs = [.ref pd, .ref l] ∧ H l = some (.lst xs) ∧ 0 < xs.length ∧ xs.length ≤ 1000 ∧ ∀ x H', x ∈ xs → PenK H' pd c (B + 1) → Kx pd H H' → Q x H') ∨
   (∃ z : Str, vs = [.ref pd, .str z] ∧ 0 < z.length ∧ z.length ≤ 1000 ∧ ∀ d H', d ∈ z.cps.toList → PenK H' pd c (B + 1) → Kx pd H H' → Q (.str ⟨#[d]⟩) H'))
theorem o__law_pick (T : Txt P K mg a) : Cal P w K mg base 2 "_law_pick" ["_law_pen_here", "_law_options"] spPick := by
  obtain ⟨fd, F, b⟩ := T.F__law_pick
  refine ⟨_, _, F.ok sc__law_pick (fun vs H Q E h => ?_) (fun cdv A outer s H vs Q E hr h => ?_), T.g__law_pick, F.kp, b⟩
  · obtain ⟨pd, c, B, _, _, ⟨l, xs, rfl, _⟩ | ⟨z, rfl, _⟩⟩ := h <;> rfl
  · obtain ⟨pd, c, B, hp, hB, h⟩ := h
    rcases h with ⟨l, xs, rfl, hl, x0, x1, k⟩ | ⟨z, rfl, x0, x1, k⟩
    all_goals refine ⟨_, (pss_one (ps_ret (pe_ix ix_seq (pv 1) (pe_callC (o__law_draw T) hr (pa_cons (pv 0) (pa_cons (pe_callB (CallR.or call_len_seq call_len_str) (by rfl) T.n_len (by decide +kernel) (pa_cons (pv 1) pa_nil)) pa_nil))) (fun _ _ => rfl)))), ?_⟩
    · walk_at "st"
      refine .inl (rd_lenL (sq_of hl) ?_)
      walk_at "st"
      refine ⟨pd, c, B, _, rfl, hp, by omega, by omega, by omega, fun r H' r0 r1 p' kx => ?_⟩
      obtain ⟨kvs, hd⟩ := hp.dK
      obtain ⟨v, hv, _, hat⟩ := atI_int (xs := xs) r0 r1
      exact .inl ⟨_, _, _, v, rfl, rfl, sq_of (kx.lst hd hl), hat, k v H' hv p' kx⟩
    · walk_at "st"
      refine .inr (rd_lenS (z := z) (by omega) ?_)
      walk_at "st"
      refine ⟨pd, c, B, _, rfl, hp, by omega, by omega, by omega, fun r H' r0 r1 p' kx => ?_⟩
      obtain ⟨v, hv, _, hat⟩ := atI_int (xs := z.cps.toList) r0 (by rw [len_cps]; exact r1)
      exact .inr (.inr ⟨_, _, v, rfl, rfl, sz_of (by omega), hat, k v H' hv p' kx⟩)
theorem c__law_pen (T : Txt P K mg a) : Cal P w K mg base 1 "_law_pen" ["_law_script"] (spM K (kap a) 1 fPen) := by
  obtain ⟨f, fd, F, h⟩ := (o__law_pen (P := P) (w := w) (base := base) T).ex
  exact ⟨f, fd, F.imp fun _ _ _ _ z => imp_pen z, h⟩
theorem c__law_draw (T : Txt P K mg a) : Cal P w K mg base 1 "_law_draw" ["_law_pen_here", "_law_many"] (spM K (kap a) 2 fDraw) := by
  obtain ⟨f, fd, F, h⟩ := (o__law_draw (P := P) (w := w) (base := base) T).ex
  exact ⟨f, fd, F.imp fun _ _ _ _ z => imp_draw z, h⟩
end


section
variable {P : Program} {w : World} {K : PySem.W.Frag} {mg : Str → Option Value} {base : Heap} {a : Ad}
theorem rd_gTup2 {n i j : Nat} {p : Addr} {x y : V} {σ : L2.St} {H : Hp} {R : L2.St → Hp → Prop} (hn : 2 = n) (h : SqT K H p [x, y]) (q : R ((σ.set i (some x)).set j (some y)) H) : gTup K n (gCons (gName i) (gCons (gName j) gNil)) (.ref p) σ H R :=
  ⟨p, [x, y], rfl, h, hn, x, [y], rfl, y, [], rfl, rfl, q⟩
theorem rd_iteVar {b : Bool} {i j : Nat} {u v : V} {σ : L2.St} {H : Hp} {R : V → Hp → Prop} (hi : σ[i]? = some (some u)) (hj : σ[j]? = some (some v)) (r : R (if b = true then u else v) H) : if b = true then tVar i σ H R else tVar j σ H R := by
  cases b with
  | true => exact ⟨u, hi, r⟩
  | false => exact ⟨v, hj, r⟩
theorem rd_par3 {i j l : Nat} {ts : TA} {nx bk ct : L2.St → Hp → Prop} {rt : VK} {σ : L2.St} {H : Hp} (h : ts σ H fun vs H1 => ∃ u v w, vs = [u, v, w] ∧ nx (((σ.set i (some u)).set j (some v)).set l (some w)) H1) : tPar3 i j l ts ⟨nx, rt, bk, ct⟩ σ H := h
theorem rd_three {a b c : V} {R : V → V → V → Prop} (q : R a b c) : ∃ u v w, [a, b, c] = [u, v, w] ∧ R u v w := ⟨a, b, c, rfl, q⟩
theorem fix0_of (w : Str) : fix0 w = if isBegB w = true then w ++ "0" else w := by
  apply str_ext
  rw [fix0_cps]
  by_cases h : isBegB w = true
  · rw [if_pos h, if_pos h, app_cps]; rfl
  · rw [if_neg h, if_neg h, List.append_nil]
/-- [pick(pen, z) for k in range(m)] -/
theorem lc_pick {z0 : Str} {m B0 j : Nat} {H6 : Hp} {σ : L2.St} {pd c : Addr} {Qd : Addr → Hp → Prop} (h0 : 0 < z0.length) (hz : z0.length ≤ 1000) (hm : m ≤ 100) (hB : B0 < 800000000) (p6 : PenK H6 pd c B0)
    (s0 : ∀ x, ((wipe σ [4]).set 4 (some x))[0]? = some (some (.ref pd))) (sj : ∀ x, ((wipe σ [4]).set 4 (some x))[j]? = some (some (.str z0)))
    (q : ∀ D (cs : List Nat) H7, cs.length = m → (∀ x ∈ cs, x ∈ z0.cps.toList) → H6 D = none → H7 D = some (.lst ((cs.map fun x => (⟨#[x]⟩ : Str)).map V.str)) → PenK H7 pd c (B0 + m) → Kx pd H6 H7 → Qd D H7) :
    ∀ D, H6 D = none → ∃ W : Nat → Nat → Hp → Prop, (∃ m, W 0 m (upd H6 D (.lst []))) ∧ ∀ i mm H, W i mm H →
      ((Itr 0 m).stop i H ∧ Qd D H) ∨ ((Itr 0 m).go i H ∧ ∃ Nx : Hp → Prop, (∀ H', Nx H' → ∃ m', m' < mm ∧ W (i + 1) m' H') ∧ ∀ x H', (Itr 0 m).yld i H x H' → gName 4 x (wipe σ [4]) H' fun σ2 H2 => wipe σ2 [4] = wipe σ [4] ∧ tYes σ2 H2 fun b H3 =>
        if b = true then tCall spPick [] E0 (tCons (tVar 0) (tCons (tVar j) tNil)) σ2 H3 fun y H4 => ∃ acc, H4 D = some (.lst acc) ∧ acc.length < sizeLine ∧ Nx (upd H4 D (.lst (acc ++ [y]))) else Nx H3) := by
  intro D hD
  refine lc_yl (yl_range 0 m) (fun i H' => ∃ cs : List Nat, cs.length = i ∧ (∀ x ∈ cs, x ∈ z0.cps.toList) ∧ H' D = some (.lst ((cs.map fun x => (⟨#[x]⟩ : Str)).map V.str)) ∧ PenK H' pd c (B0 + i) ∧ Kx pd H6 H') (fun _ _ _ _ => trivial) ⟨[], rfl, (fun x hx => by cases hx), upd_same, p6.ex (Ex.new hD), Kx.of (Ex.new hD)⟩ (fun i x H7 H8 hi hv e8 yy => ?_) (fun H7 hv => ?_)
  · obtain ⟨cs, lc, hcs, hD7, p7, kx7⟩ := hv
    show wipe ((wipe σ [4]).set 4 (some x)) [4] = wipe σ [4] ∧ _
    refine ⟨wipe1 _, rd_yes (iteT ?_)⟩
    refine rd_call (rd_cons (rd_var (s0 x) (rd_cons (rd_var (sj x) (rd_nil ?_)))))
    have p8 := p7.ex e8
    refine ⟨pd, c, B0 + i, p8, by omega, .inr ⟨_, rfl, h0, hz, fun x H9 hx p9 kx9 => ?_⟩⟩
    obtain ⟨kvs, hk8⟩ := p8.dK
    have hD9 := kx9.lst hk8 (e8 _ _ hD7)
    refine ⟨_, hD9, Nat.lt_of_le_of_lt (show _ ≤ 100 by simp; omega) (by decide), cs ++ [x], by simp [lc], ?_, ?_, ?_, ?_⟩
    · intro y hy
      rcases List.mem_append.mp hy with h | h
      · exact hcs y h
      · rw [List.mem_singleton] at h; subst h; exact hx
    · rw [upd_same, List.map_append, List.map_append]; rfl
    · exact p9.wr (p6.np hD) (p6.nc hD)
    · exact ((kx7.trans (Kx.of e8)).trans kx9).mut hD
  · obtain ⟨cs, lc, hcs, hD7, p7, kx7⟩ := hv
    exact q D cs H7 lc hcs hD hD7 p7 kx7
def spLetters : Sp := fun vs H Q _ => ∃ (pd c : Addr) (B n : Nat), vs = [.ref pd, .int n] ∧ PenK H pd c B ∧ B < 700000000 ∧ n ≤ 14 ∧
  ∀ (zs : List Str) (p : Addr) (H' : Hp), (zs.length = n ∧ zs.Nodup ∧ ∀ z ∈ zs, Mk1 z) → H p = none → H' p = some (.lst (zs.map V.str)) → PenK H' pd c (B + 100) → Kx pd H H' → Q (.ref p) H'
theorem o__law_letters (T : Txt P K mg a) : Cal P w K mg base 3 "_law_letters" ["_law_pen_here", "_law_many"] spLetters := by
  obtain ⟨fd, F, b⟩ := T.F__law_letters
  refine ⟨_, _, F.ok sc__law_letters (fun vs H Q E h => ?_) (fun cdv A outer s H vs Q E hr h => ?_), T.g__law_letters, F.kp, b⟩
  · obtain ⟨pd, c, B, n, rfl, _⟩ := h; rfl
  · obtain ⟨pd, c, B, n, rfl, hp, hB, n2, k⟩ := h
    refine ⟨_, (pss_cons (ps_asg (pe_tup (pa_cons pe_str (pa_cons pe_str pa_nil))) (pg_tup rfl (pgs_cons (pg_name (i := 5) sc__law_letters.nd rfl (by first | exact Or.inl rfl | exact Or.inr rfl)) (pgs_cons (pg_name (i := 6) sc__law_letters.nd rfl (by first | exact Or.inl rfl | exact Or.inr rfl)) pgs_nil))))
  (pss_cons (ps_set (i := 2) sc__law_letters.nd rfl (by first | exact Or.inl rfl | exact Or.inr rfl) (pe_join pe_str (pe_lc (own := [("_law_k", 4)]) (by rfl) sc__law_letters.nd (pi_range1 (by rfl) T.n_range (pa_cons (pe_callB (call_min2 rfl) (by rfl) T.n_min (by decide +kernel) (pa_cons pe_int (pa_cons (pe_callC (o__law_draw T) hr (pa_cons (pv 0) (pa_cons pe_int pa_nil))) pa_nil))) pa_nil)) (blkOk_by (own := [("_law_k", 4)]) (N := N__law_letters) (sc := defScope s__law_letters) (by decide +kernel)) (fun _ _ _ _ _ => (pg_name (i := 4) sc__law_letters.nd rfl (by first | exact Or.inl rfl | exact Or.inr rfl))) (fun _ _ _ _ _ => pts_nil) (fun _ _ _ _ _ => (pe_callC (o__law_pick T) hr (pa_cons (pv 0) (pa_cons (pv 5) pa_nil)))))))
  (pss_cons (ps_set (i := 2) sc__law_letters.nd rfl (by first | exact Or.inl rfl | exact Or.inr rfl) (pe_op op_add_str (pv 2) (pe_join pe_str (pe_lc (own := [("_law_k", 4)]) (by rfl) sc__law_letters.nd (pi_range1 (by rfl) T.n_range (pa_cons (pe_op op_mul (pe_callC (o__law_draw T) hr (pa_cons (pv 0) (pa_cons pe_int pa_nil))) (pe_callB call_len_str (by rfl) T.n_len (by decide +kernel) (pa_cons (pv 2) pa_nil))) pa_nil)) (blkOk_by (own := [("_law_k", 4)]) (N := N__law_letters) (sc := defScope s__law_letters) (by decide +kernel)) (fun _ _ _ _ _ => (pg_name (i := 4) sc__law_letters.nd rfl (by first | exact Or.inl rfl | exact Or.inr rfl))) (fun _ _ _ _ _ => pts_nil) (fun _ _ _ _ _ => (pe_callC (o__law_pick T) hr (pa_cons (pv 0) (pa_cons (pv 6) pa_nil))))))))
  (pss_cons (ps_par (i := 7) (j := 8) (by rfl) sc__law_letters.nd rfl rfl (by decide) rfl rfl (pa_cons (pe_callC (o__law_draw T) hr (pa_cons (pv 0) (pa_cons (pe_op op_add (pe_callB call_len_str (by rfl) T.n_len (by decide +kernel) (pa_cons (pv 2) pa_nil)) pe_int) pa_nil))) (pa_cons (pe_callC (o__law_draw T) hr (pa_cons (pv 0) (pa_cons pe_int pa_nil))) pa_nil)) (by rfl))
  (pss_cons (ps_set (i := 3) sc__law_letters.nd rfl (by first | exact Or.inl rfl | exact Or.inr rfl) (pe_ifExp (pt_cmpR op_gt (pv 7) pe_int (by rfl)) (pv 6) (pv 5)))
  (pss_cons (ps_par3 (i := 9) (j := 10) (l := 11) (by rfl) sc__law_letters.nd rfl rfl rfl (by decide) (by decide) (by decide) rfl rfl rfl (pa_cons (pe_callC (o__law_pick T) hr (pa_cons (pv 0) (pa_cons (pe_lst (pa_cons pe_int (pa_cons pe_int (pa_cons pe_int (pa_cons pe_int (pa_cons pe_int (pa_cons pe_int (pa_cons pe_int (pa_cons pe_int pa_nil))))))))) pa_nil))) (pa_cons (pe_slice sl_str (pv 2) (po_some (pv 7)) po_none) (pa_cons (pe_lst pa_nil) pa_nil))) (by rfl))
  (pss_cons (ps_for PassesOwn.never (by rfl) (pi_range1 (by rfl) T.n_range (pa_cons (pv 1) pa_nil)) (pg_name (i := 4) sc__law_letters.nd rfl (by first | exact Or.inl rfl | exact Or.inr rfl))
    (pss_cons (ps_set (i := 12) sc__law_letters.nd rfl (by first | exact Or.inl rfl | exact Or.inr rfl) (pe_ix ix_str (pv 3) (pe_op op_mod (pe_callTy call_int1 (by rfl) T.n_int (by decide +kernel) (pa_cons (pe_op op_add (pv 8) (pe_op op_mul (pv 9) (pv 4))) pa_nil)) (pe_callB call_len_str (by rfl) T.n_len (by decide +kernel) (pa_cons (pv 3) pa_nil))) (fun _ _ => rfl)))
      (pss_cons (ps_set (i := 13) sc__law_letters.nd rfl (by first | exact Or.inl rfl | exact Or.inr rfl) (pe_op op_add_str (pe_op op_add_str (pe_slice sl_str (pv 2) po_none (po_some (pv 7))) (pv 12)) (pe_slice sl_str (pv 10) po_none (po_some (pe_op op_sub (pe_callB call_len_str (by rfl) T.n_len (by decide +kernel) (pa_cons (pv 10) pa_nil)) (pe_op op_mul (pv 4) (pe_callTy call_int1 (by rfl) T.n_int (by decide +kernel) (pa_cons (pe_cmpR op_lt (pv 4) pe_int (by rfl)) pa_nil))))))))
      (Evl.pss_cut (ps_if (pt_cmpR op_in_seq (pv 13) (pe_tup (pa_cons pe_str (pa_cons pe_str pa_nil))) (by rfl)) (pss_one (ps_set (i := 13) sc__law_letters.nd rfl (by first | exact Or.inl rfl | exact Or.inr rfl) (pe_op op_add_str (pv 13) pe_str))) pss_nil)
      (Evl.pss_cut (ps_if (PW.pt (pw_and (pt_cmpR op_gt (pv 4) pe_int (by rfl)) (pw_and (pt_cmpR op_ne (pe_slice sl_str (pe_ix ix_list (pv 11) (pe_un un_neg pe_int) (fun _ _ => rfl)) po_none (po_some pe_int)) pe_str (by rfl)) (pw_and1 (pt_cmpR op_eq (pe_callC (o__law_draw T) hr (pa_cons (pv 0) (pa_cons pe_int pa_nil))) pe_int (by rfl)))))) (pss_one (ps_set (i := 13) sc__law_letters.nd rfl (by first | exact Or.inl rfl | exact Or.inr rfl) (pe_ix ix_list (pv 11) (pe_un un_neg pe_int) (fun _ _ => rfl)))) pss_nil)
      (pss_one (ps_expr (pe_bm PySem.F.plainAttrs_list PySem.F.slot_list_append PySem.F.type_list_append mt_append (pv 11) (pa_cons (pe_ifExp (PW.pt (pw_and (pt_cmpR op_notIn_seq (pv 13) (pv 11) (by rfl)) (pw_and1 (pt_cmpR op_gt (pe_callC (o__law_draw T) hr (pa_cons (pv 0) (pa_cons pe_int pa_nil))) pe_int (by rfl))))) (pv 13) (pe_op op_add_str pe_str (pv 13))) pa_nil)))))))))
  (pss_one (ps_ret (pv 11)))))))))), ?_⟩
    refine rd_seq (rd_asgG ?_)
    walk_at "st"
    refine ⟨by show 2 ≤ sizeLine; decide, ?_⟩
    intro t ht
    have e1 := Ex.new (o := HO.tup [V.str "abcdefghijklmnopqrstuvwxyz", V.str "abcdefghijklmnopqrstuvwxyz0123456789"]) ht
    have h1 : upd H t (HO.tup [V.str "abcdefghijklmnopqrstuvwxyz", V.str "abcdefghijklmnopqrstuvwxyz0123456789"]) t = some (HO.tup [V.str "abcdefghijklmnopqrstuvwxyz", V.str "abcdefghijklmnopqrstuvwxyz0123456789"]) := upd_same
    generalize upd H t (HO.tup [V.str "abcdefghijklmnopqrstuvwxyz", V.str "abcdefghijklmnopqrstuvwxyz0123456789"]) = H1 at e1 h1 ⊢
    refine rd_gTup2 rfl (st_of h1) ?_
    have p1 := hp.ex e1
    have kx1 : Kx pd H H1 := Kx.of e1
    -- stem, first sign
    walk_at "st"
    refine rd_lc ?_
    walk_at "st"
    refine ⟨pd, c, B, _, rfl, p1, by omega, by decide, by decide, fun q H2 q0 q1 p2 kx2 => ?_⟩
    have kx2' := kx1.trans kx2
    walk_at "st"
    refine ⟨1, q, rfl, ?_⟩
    dsimp only
    walk_at "st"
    obtain ⟨m, em, hm⟩ : ∃ m : Nat, (if q < 1 then q else 1 : Int) = (m : Int) ∧ m ≤ 1 := by
      by_cases h : q < 1
      · exact ⟨0, by rw [if_pos h]; omega, by omega⟩
      · exact ⟨1, by rw [if_neg h]; rfl, Nat.le_refl _⟩
    rw [em]
    refine ⟨by omega, by omega, ?_⟩
    rw [Int.toNat_natCast]
    refine lc_pick (j := 5) (by decide +kernel) (by decide +kernel) (by omega) (by omega) p2 (fun _ => rfl) (fun _ => rfl) (fun D cs H3 lc hcs hD h3 p3 kx3 => ?_)
    have e1j := join_ones cs
    refine ⟨_, _, cs.map (fun x => (⟨#[x]⟩ : Str)), rfl, rfl, .inl (sq_of h3), by rw [ones_len, show ("" : Str).length = 0 by decide +kernel, Nat.mul_zero]; omega, ?_⟩
    generalize Txt.join "" (cs.map fun x => (⟨#[x]⟩ : Str)) = stem1 at e1j ⊢
    have ls1 : stem1.length = m := by rw [← len_cps, e1j, lc]
    have kx3' := kx2'.trans kx3
    -- the further signs
    walk_at "st"
    refine rd_lc ?_
    walk_at "st"
    refine ⟨pd, c, _, _, rfl, p3, by omega, by decide, by decide, fun q2 H4 q20 q21 p4 kx4 => ?_⟩
    have kx4' := kx3'.trans kx4
    walk_at "st"
    refine rd_lenS (z := stem1) (by omega) ?_
    refine rd_I (.inl ⟨by omega, by omega⟩) ?_
    walk_at "st"
    obtain ⟨m2, em2, hm2⟩ : ∃ m2 : Nat, q2 * (stem1.length : Int) = (m2 : Int) ∧ m2 ≤ 10 ∧ (m = 0 → m2 = 0) := by
      rw [ls1]
      rcases Nat.le_one_iff_eq_zero_or_eq_one.mp hm with h | h
      · exact ⟨0, by rw [h]; simp, by omega, fun _ => rfl⟩
      · exact ⟨q2.toNat, by rw [h]; simp; omega, by omega, fun h' => by omega⟩
    rw [em2]
    refine ⟨by omega, by omega, ?_⟩
    rw [Int.toNat_natCast]
    refine lc_pick (j := 6) (by decide +kernel) (by decide +kernel) (by omega) (by omega) p4 (fun _ => rfl) (fun _ => rfl) (fun D2 cs2 H5 lc2 hcs2 hD2 h5 p5 kx5 => ?_)
    have e2j := join_ones cs2
    refine ⟨_, _, cs2.map (fun x => (⟨#[x]⟩ : Str)), rfl, rfl, .inl (sq_of h5), by rw [ones_len, show ("" : Str).length = 0 by decide +kernel, Nat.mul_zero]; omega, ?_⟩
    generalize Txt.join "" (cs2.map fun x => (⟨#[x]⟩ : Str)) = stem2 at e2j ⊢
    have ls2 : stem2.length = m2 := by rw [← len_cps, e2j, lc2]
    have kx5' := kx4'.trans kx5
    refine rd_strs (by omega) ?_
    have esc : (stem1 ++ stem2 : Str).cps.toList = cs ++ cs2 := by rw [app_cps, e1j, e2j]
    have lst : (stem1 ++ stem2 : Str).length = m + m2 := by rw [app_len, ls1, ls2]
    generalize (stem1 ++ stem2 : Str) = stem at esc lst ⊢
    -- at, front
    walk_at "st"
    refine rd_lenS (z := stem) (by omega) ?_
    walk_at "st"
    refine ⟨pd, c, _, _, rfl, p5, by omega, by omega, by omega, fun at_ H6 a0 a1 p6 kx6 => ?_⟩
    walk_at "st"
    refine ⟨pd, c, _, _, rfl, p6, by omega, by decide, by decide, fun f H7 f0 f1 p7 kx7 => ?_⟩
    have kx7' := (kx5'.trans kx6).trans kx7
    obtain ⟨at', rfl⟩ : ∃ n : Nat, at_ = (n : Int) := ⟨at_.toNat, by omega⟩
    walk_at "st"
    refine rd_iteVar rfl rfl ?_
    obtain ⟨ch, ech, cch⟩ : ∃ ch : Str, (if decide ((0 : Int) < (at' : Int)) = true then V.str "abcdefghijklmnopqrstuvwxyz0123456789" else V.str "abcdefghijklmnopqrstuvwxyz") = V.str ch ∧ ch.cps.toList = (if 0 < at' then signsL else smallL) := by
      by_cases h : 0 < at'
      · exact ⟨signsS, by rw [if_pos (decide_eq_true (by omega))], by rw [if_pos h]; exact signsS_cps⟩
      · exact ⟨smallS, by rw [if_neg (by simp; omega)], by rw [if_neg h]; exact smallS_cps⟩
    rw [ech]
    have lch : ch.length = if 0 < at' then 36 else 26 := by rw [← len_cps, cch]; split <;> rfl
    walk_at "st"
    refine rd_par3 ?_
    walk_at "st"
    refine ⟨by show 8 ≤ sizeLine; decide, ?_⟩
    intro l hl
    have e8 := Ex.new (o := HO.lst [V.int 1, V.int 5, V.int 7, V.int 11, V.int 17, V.int 19, V.int 23, V.int 25]) hl
    have h8 : upd H7 l (HO.lst [V.int 1, V.int 5, V.int 7, V.int 11, V.int 17, V.int 19, V.int 23, V.int 25]) l = some (HO.lst [V.int 1, V.int 5, V.int 7, V.int 11, V.int 17, V.int 19, V.int 23, V.int 25]) := upd_same
    generalize upd H7 l (HO.lst [V.int 1, V.int 5, V.int 7, V.int 11, V.int 17, V.int 19, V.int 23, V.int 25]) = H8 at e8 h8 ⊢
    walk_at "st"
    refine ⟨pd, c, _, p7.ex e8, by omega, .inl ⟨l, _, rfl, h8, by decide, by decide, fun sv H9 hsv p9 kx9 => ?_⟩⟩
    obtain ⟨st, rfl, hst⟩ : ∃ st : Int, sv = V.int st ∧ (st = 1 ∨ st = 5 ∨ st = 7 ∨ st = 11 ∨ st = 17 ∨ st = 19 ∨ st = 23 ∨ st = 25) := by
      simp only [List.mem_cons, List.not_mem_nil, or_false] at hsv
      rcases hsv with rfl | rfl | rfl | rfl | rfl | rfl | rfl | rfl
      all_goals exact ⟨_, rfl, by simp⟩
    have kx9' := (kx7'.trans (Kx.of e8)).trans kx9
    walk_at "st"
    refine rd_slS (by omega) ?_
    walk_at "st"
    refine ⟨by show 0 ≤ sizeLine; decide, ?_⟩
    intro G hG
    have e10 := Ex.new (o := HO.lst []) hG
    have h10 : upd H9 G (HO.lst []) G = some (HO.lst []) := upd_same
    generalize upd H9 G (HO.lst []) = H10 at e10 h10 ⊢
    walk_at "st"
    refine rd_three ?_
    have LO : LOk at' f st stem := by
      refine ⟨f0, f1, hst, fun x r es => ?_, fun x hx => ?_, by omega, by omega⟩
      · rw [esc] at es
        have : m = 1 := by
          rcases Nat.le_one_iff_eq_zero_or_eq_one.mp hm with h | h
          · have := hm2.2 h
            have : (cs ++ cs2).length = 0 := by rw [List.length_append, lc, lc2, h, this]
            rw [es] at this; simp at this
          · exact h
        rw [this] at lc
        obtain ⟨y, ey⟩ := List.length_eq_one_iff.mp lc
        rw [ey] at es
        have : x = y := by simp at es; exact es.1.symm
        rw [this]
        exact smallS_cps ▸ hcs y (by rw [ey]; simp)
      · rw [esc] at hx
        rcases List.mem_append.mp hx with h | h
        · exact small_sub (smallS_cps ▸ hcs x h)
        · exact signsS_cps ▸ hcs2 x h
    have SK := rawL_stock LO
    have p10 := p9.ex e10
    have kx10' := kx9'.trans (Kx.of e10)
    have nGd : pd ≠ G := p9.np hG
    have nGc : c ≠ G := p9.nc hG
    obtain ⟨kv9, hd9⟩ := p9.dK
    walk_at "st"
    refine rd_forYl (J := Itr 0 n) (H1 := H10) (fun R r => ⟨_, rfl, _, rfl, by omega, by omega, r⟩) (yl_range 0 n) (fun i σ H' => (∃ v4 v12 v13, σ = [some (.ref pd), some (.int n), some (.str stem), some (.str ch), v4, some (.str "abcdefghijklmnopqrstuvwxyz"), some (.str "abcdefghijklmnopqrstuvwxyz0123456789"), some (.int (at' : Int)), some (.int f), some (.int st), some (.str (cutS stem (some (at' : Int)) none)), some (.ref G), v12, v13]) ∧ ∃ zs : List Str, zs.length = i ∧ Row (fun k => fix0 (rawL at' f st stem k)) zs ∧ H' G = some (.lst (zs.map V.str)) ∧ PenK H' pd c (B + 30 + 2 * i) ∧ Kx pd H9 H') (fun _ _ _ _ _ => trivial) ⟨⟨_, _, _, rfl⟩, [], rfl, .nil, h10, p10.mono (by omega), Kx.of e10⟩ (fun i x σ H11 H12 hi hv e yy => ?_) (fun σ H11 hv => ?_)
    · obtain ⟨⟨v4, v12, v13, rfl⟩, zs, lz, R, g11, p11, kx11⟩ := hv
      subst yy
      rw [Int.zero_add]
      refine rd_gname ?_
      have g12 := e _ _ g11
      have p12 := p11.ex e
      have kx12 := kx11.trans (Kx.of e)
      have st64 : CMul st (i : Int) := .inl (by rcases hst with s | s | s | s | s | s | s | s <;> subst s <;> decide)
      have l0 : (0 : Int) < (ch.length : Nat) := by rw [lch]; split <;> omega
      have ml := Int.emod_lt_of_pos (f + st * (i : Int)) l0
      have mn := Int.emod_nonneg (f + st * (i : Int)) (show ((ch.length : Nat) : Int) ≠ 0 by omega)
      walk_at "st"
      refine rd_I st64 ?_
      walk_at "st"
      refine rd_lenS (z := ch) (by rw [lch]; split <;> omega) ?_
      refine rd_I l0 ?_
      obtain ⟨y, hy, gy, hat⟩ := atI_int (xs := ch.cps.toList) mn (by rw [len_cps]; exact ml)
      refine rd_ixS (by rw [lch]; split <;> omega) hat ?_
      have ey : y = if 0 < at' then signsL.getD ((f + st * (i : Int)) % 36).toNat 0 else smallL.getD ((f + st * (i : Int)) % 26).toNat 0 := by
        rw [cch, lch] at gy
        by_cases h : 0 < at'
        · simp only [if_pos h] at gy ⊢
          have g2 : signsL[((f + st * (i : Int)) % 36).toNat]? = some y := gy
          rw [List.getD, g2]; rfl
        · simp only [if_neg h] at gy ⊢
          have g2 : smallL[((f + st * (i : Int)) % 26).toNat]? = some y := gy
          rw [List.getD, g2]; rfl
      have c1 := cutS_length stem none (some (at' : Int))
      have c2 := cutS_length stem (some (at' : Int)) none
      walk_at "st"
      refine rd_slS (by omega) ?_
      walk_at "st"
      refine rd_strs (by rw [one_len]; omega) ?_
      walk_at "st"
      refine rd_lenS (z := cutS stem (some (at' : Int)) none) (by omega) ?_
      walk_at "st"
      refine rd_I (.inl ⟨by omega, by omega⟩) ?_
      walk_at "st"
      refine rd_slS (by omega) ?_
      have c3 := cutS_length (cutS stem (some (at' : Int)) none) none (some (((cutS stem (some (at' : Int)) none).length : Int) - (i : Int) * (if decide ((i : Int) < 2) = true then 1 else 0)))
      refine rd_strs (by rw [app_len, one_len]; omega) ?_
      have er : (cutS stem none (some (at' : Int)) ++ ⟨#[y]⟩) ++ cutS (cutS stem (some (at' : Int)) none) none (some (((cutS stem (some (at' : Int)) none).length : Int) - (i : Int) * (if decide ((i : Int) < 2) = true then 1 else 0))) = rawL at' f st stem i := by rw [ey]; rfl
      rw [er]
      obtain ⟨rc, rr, erc, _, _, rl, _⟩ := rawL_cps LO i
      have lraw : (rawL at' f st stem i).length ≤ 12 := by rw [← len_cps, erc, List.length_cons]; omega
      dsimp only
      generalize hraw : rawL at' f st stem i = raw at lraw ⊢
      refine ⟨fun σ' H' => σ' = [some (.ref pd), some (.int n), some (.str stem), some (.str ch), some (.int i), some (.str "abcdefghijklmnopqrstuvwxyz"), some (.str "abcdefghijklmnopqrstuvwxyz0123456789"), some (.int (at' : Int)), some (.int f), some (.int st), some (.str (cutS stem (some (at' : Int)) none)), some (.ref G), some (.str ⟨#[y]⟩), some (.str (fix0 raw))] ∧ Ex H12 H', ?_, ?_⟩
      · walk_at "st"
        refine ⟨by show 2 ≤ sizeLine; decide, ?_⟩
        intro t2 ht2
        have e13 := Ex.new (o := HO.tup [V.str "new", V.str "found"]) ht2
        have h13 : upd H12 t2 (HO.tup [V.str "new", V.str "found"]) t2 = some (HO.tup [V.str "new", V.str "found"]) := upd_same
        generalize upd H12 t2 (HO.tup [V.str "new", V.str "found"]) = H13 at e13 h13 ⊢
        refine ⟨_, _, rfl, .inr (st_of h13), rfl, rfl, ?_⟩
        rw [if_neg Bool.false_ne_true, inV_two]
        walk_at "st"
        refine ite2 (fun h => ?_) (fun h => ?_)
        · walk_at "st"
          refine rd_strs (by rw [show ("0" : Str).length = 1 by decide +kernel]; omega) ?_
          refine ⟨?_, e13⟩
          rw [fix0_of, if_pos (show isBegB raw = true from h)]
          rfl
        · walk_at "st"
          refine ⟨?_, e13⟩
          rw [fix0_of, if_neg (show ¬ isBegB raw = true from h)]
          rfl
      · rintro σ' H13 ⟨rfl, e13⟩
        have g13 := e13 _ _ g12
        have p13 := p12.ex e13
        have kx13 := kx12.trans (Kx.of e13)
        walk_at "st"
        refine ⟨fun σ' H' => ∃ W : Str, σ' = [some (.ref pd), some (.int n), some (.str stem), some (.str ch), some (.int i), some (.str "abcdefghijklmnopqrstuvwxyz"), some (.str "abcdefghijklmnopqrstuvwxyz0123456789"), some (.int (at' : Int)), some (.int f), some (.int st), some (.str (cutS stem (some (at' : Int)) none)), some (.ref G), some (.str ⟨#[y]⟩), some (.str W)] ∧ (W = fix0 raw ∨ (zs.getLast? = some W ∧ cutS W none (some 1) ≠ "~")) ∧ H' G = some (.lst (zs.map V.str)) ∧ PenK H' pd c (B + 30 + 2 * i + 1) ∧ Kx pd H9 H', ?_, ?_⟩
        · have stay : ∀ H14, PenK H14 pd c (B + 30 + 2 * i + 1) → Kx pd H13 H14 → ∃ W : Str, ([some (.ref pd), some (.int n), some (.str stem), some (.str ch), some (.int i), some (.str "abcdefghijklmnopqrstuvwxyz"), some (.str "abcdefghijklmnopqrstuvwxyz0123456789"), some (.int (at' : Int)), some (.int f), some (.int st), some (.str (cutS stem (some (at' : Int)) none)), some (.ref G), some (.str ⟨#[y]⟩), some (.str (fix0 raw))] : L2.St) = [some (.ref pd), some (.int n), some (.str stem), some (.str ch), some (.int i), some (.str "abcdefghijklmnopqrstuvwxyz"), some (.str "abcdefghijklmnopqrstuvwxyz0123456789"), some (.int (at' : Int)), some (.int f), some (.int st), some (.str (cutS stem (some (at' : Int)) none)), some (.ref G), some (.str ⟨#[y]⟩), some (.str W)] ∧ (W = fix0 raw ∨ (zs.getLast? = some W ∧ cutS W none (some 1) ≠ "~")) ∧ H14 G = some (.lst (zs.map V.str)) ∧ PenK H14 pd c (B + 30 + 2 * i + 1) ∧ Kx pd H9 H14 := fun H14 p14 kx14 => by
            obtain ⟨kvs, hk⟩ := p13.dK
            exact ⟨_, rfl, .inl rfl, kx14.lst hk g13, p14, kx13.trans kx14⟩
          walk_at "st"
          refine ite2 (fun h1 => ?_) (fun h1 => ?_)
          · obtain ⟨z, hz⟩ : ∃ z, zs.getLast? = some z := by
              have h1' : (0 : Int) < (i : Int) := of_decide_eq_true h1
              cases e : zs.getLast? with
              | none => rw [List.getLast?_eq_none_iff] at e; rw [e] at lz; simp at lz; omega
              | some z => exact ⟨z, rfl⟩
            have hzm := List.mem_of_getLast? hz
            have lz13 := (R.mk1 SK (by omega) z hzm).len
            have hat2 : atI (zs.map V.str) (-1) = some (V.str z) := by
              obtain ⟨ys, rfl⟩ := List.getLast?_eq_some_iff.mp hz
              rw [List.map_append]
              exact atI_last _ _
            walk_at "st"
            refine ⟨1, rfl, _, _, _, _, rfl, rfl, sq_of g13, hat2, ?_⟩
            walk_at "st"
            refine rd_slS (by omega) ?_
            walk_at "st"
            refine ite2 (fun h2 => ?_) (fun h2 => ?_)
            · walk_at "st"
              refine ⟨pd, c, _, _, rfl, p13, by omega, by decide, by decide, fun r H14 r0 r1 p14 kx14 => ?_⟩
              obtain ⟨kvs, hk⟩ := p13.dK
              have g14 := kx14.lst hk g13
              walk_at "st"
              refine ite2 (fun h3 => ?_) (fun h3 => ?_)
              · walk_at "st"
                refine ⟨1, rfl, _, _, _, _, rfl, rfl, sq_of g14, hat2, ?_⟩
                refine ⟨z, rfl, .inr ⟨hz, fun q => ?_⟩, g14, p14, kx13.trans kx14⟩
                rw [q] at h2
                exact absurd h2 (by decide +kernel)
              · walk_at "st"
                exact stay _ p14 kx14
            · walk_at "st"
              exact stay _ (p13.mono (by omega)) (Kx.refl _ _)
          · walk_at "st"
            exact stay _ (p13.mono (by omega)) (Kx.refl _ _)
        · rintro σ' H14 ⟨W, rfl, hW, g14, p14, kx14⟩
          have S14 : Row (fun k => fix0 (rawL at' f st stem k)) zs := R
          have hk26 : zs.length < 26 := by omega
          have ebw : fix0 (rawL at' f st stem zs.length) = fix0 raw := by rw [lz, hraw]
          have fr : fix0 (rawL at' f st stem zs.length) ∉ zs ∧ ("~" ++ fix0 (rawL at' f st stem zs.length) : Str) ∉ zs := R.fresh SK hk26
          rw [ebw] at fr
          have WL : W.length ≤ 13 := by
            rcases hW with h | ⟨h, _⟩
            · have g := SK.good i (by omega)
              have := g.cps.2.1
              rw [h, ← hraw]; omega
            · have := (R.mk1 SK (by omega) W (List.mem_of_getLast? h)).len
              omega
          have lzs : (zs.map V.str).length < sizeLine := Nat.lt_of_le_of_lt (show _ ≤ 100 by rw [List.length_map]; omega) (by decide)
          have done : ∀ (H15 : Hp) (z : Str), H15 G = some (.lst (zs.map V.str)) → PenK H15 pd c (B + 30 + 2 * i + 2) → Kx pd H9 H15 → Row (fun k => fix0 (rawL at' f st stem k)) (zs ++ [z]) →
              ∃ zs' : List Str, zs'.length = i + 1 ∧ Row (fun k => fix0 (rawL at' f st stem k)) zs' ∧ upd H15 G (.lst (zs.map V.str ++ [V.str z])) G = some (.lst (zs'.map V.str)) ∧ PenK (upd H15 G (.lst (zs.map V.str ++ [V.str z]))) pd c (B + 30 + 2 * (i + 1)) ∧ Kx pd H9 (upd H15 G (.lst (zs.map V.str ++ [V.str z]))) := fun H15 z g15 p15 kx15 R15 =>
            ⟨zs ++ [z], by simp [lz], R15, by rw [upd_same, List.map_append]; rfl, (p15.wr nGd nGc).mono (by omega), kx15.mut hG⟩
          have tl : ("~" : Str).length + W.length ≤ 100000 := by rw [tilde_len]; omega
          walk_at "st"
          refine rd_tyL (sq_of g14) ?_
          walk_at "st"
          refine ⟨_, _, rfl, .inl (sq_of g14), rfl, Aq.flat_strs _, ?_⟩
          rw [inV_strs, if_pos rfl]
          walk_at "st"
          by_cases hin : W ∈ zs
          · rw [decide_eq_true hin]
            walk_at "st"
            refine rd_strs tl ?_
            dsimp only
            walk_at "st"
            refine rd_append g14 lzs ?_
            refine ⟨⟨_, _, _, rfl⟩, done _ _ g14 (p14.mono (by omega)) kx14 ?_⟩
            rcases hW with h | ⟨h, h2⟩
            · exact absurd (h ▸ hin) fr.1
            · exact R.again SK hk26 h h2
          · have hWf : W = fix0 raw := by
              rcases hW with h | ⟨h, _⟩
              · exact h
              · exact absurd (List.mem_of_getLast? h) hin
            rw [decide_eq_false hin]
            walk_at "st"
            refine ⟨pd, c, _, _, rfl, p14, by omega, by decide, by decide, fun r H15 r0 r1 p15 kx15 => ?_⟩
            obtain ⟨kvs, hk⟩ := p14.dK
            have g15 := kx15.lst hk g14
            walk_at "st"
            refine ite2 (fun h3 => ?_) (fun h3 => ?_)
            · walk_at "st"
              refine rd_append g15 lzs ?_
              refine ⟨⟨_, _, _, rfl⟩, done _ _ g15 p15 (kx14.trans kx15) ?_⟩
              rw [hWf, ← ebw]
              exact R.plain SK hk26
            · walk_at "st"
              refine rd_strs tl ?_
              dsimp only
              walk_at "st"
              refine rd_append g15 lzs ?_
              refine ⟨⟨_, _, _, rfl⟩, done _ _ g15 p15 (kx14.trans kx15) ?_⟩
              rw [hWf, ← ebw]
              exact R.back SK hk26
    · obtain ⟨⟨v4, v12, v13, rfl⟩, zs, lz, R, g11, p11, kx11⟩ := hv
      walk_at "st"
      have hG0 : H G = none := by
        refine kx9'.free ?_ hG
        intro e; exact nGd e.symm
      refine k zs G H11 ⟨lz, R.nd, R.mk1 SK (by omega)⟩ hG0 g11 (p11.mono (by omega)) (kx9'.trans kx11)
theorem c__law_letters (T : Txt P K mg a) : Cal P w K mg base 3 "_law_letters" ["_law_pen_here", "_law_many"] (spM K (kap a) 2 (fLet Mk1)) := by
  obtain ⟨f, fd, F, h⟩ := (o__law_letters (P := P) (w := w) (base := base) T).ex
  exact ⟨f, fd, F.imp fun _ _ _ _ z => imp_let z, h⟩
end
section
variable {P : Program} {w : World} {K : PySem.W.Frag} {mg : Str → Option Value} {base : Heap} {a : Ad}
theorem c_is_word (T : Txt P K mg a) : Cal P w K mg base 1 "is_word" ["value"] (spM K (kap a) 1 f_is_word) := by
  obtain ⟨fd, F, b⟩ := T.F_is_word
  refine ⟨_, _, F.ok sc_is_word (spM_len rfl) (fun cdv A outer s H us Q E hr h => ?_), T.g_is_word, F.kp, b⟩
  refine ⟨_, (pss_cons (ps_if (PW.pt (pw_or (pt_not (pt_val (pe_callB (call_isiA (K := K)) (by rfl) T.n_isinstance (by decide +kernel) (pa_cons (pv 0) (pa_cons (pe_bty "str" T.n_str (by decide +kernel)) pa_nil))))) (pw_or1 (pt_not (pt_chain op_leA op_leA pe_int (pe_callB (call_lenA (K := K)) (by rfl) T.n_len (by decide +kernel) (pa_cons (pv 0) pa_nil)) pe_int))))) (pss_one (ps_ret pe_bl)) pss_nil)
      (pss_one (ps_ret (pe_and (pe_cmpR (op_inA (K := K) (units65 hr)) (pe_ix (ix_A (K := K)) (pv 0) pe_int (fun _ _ => rfl)) (pe_gstr T.g_SMALL) (by rfl)) (pe_one (pe_callB (call_allA (K := K)) (by rfl) T.n_all (by decide +kernel) (pa_cons (pe_lc (own := [("sign", 1)]) (by rfl) sc_is_word.nd (pi_seqA (K := K) (pv 0)) (blkOk_by (own := [("sign", 1)]) (N := N_is_word) (sc := defScope s_is_word) (by decide +kernel)) (fun _ _ _ _ _ => (pg_name (i := 1) sc_is_word.nd rfl (by first | exact Or.inl rfl | exact Or.inr rfl))) (fun _ _ _ _ _ => pts_nil) (fun _ _ _ _ _ => (pe_cmpR (op_inA (K := K) (units65 hr)) (pv 1) (pe_gstr T.g_SIGNS) (by rfl)))) pa_nil))))))), body_of (N := N_is_word) (m := b_is_word) ?_ (by unfold f_is_word at h; exact h)⟩
  exact (rf_seq (rf_ifS (rf_orT (rf_notT (rf_tB (rf_cb (rfc_isi (kt T)) (rf_cons rf_var (rf_cons (rf_c (d := .ty "str") fun _ => rfl) rf_nil))))) (rf_notT (rf_test (rf_chain rfo_cmp rfo_cmp rf_int (rf_cb rfc_len (rf_cons rf_var rf_nil)) rf_int)))) (rf_ret rf_bl) rf_next)
      (rf_ret (rf_andV (rf_op rfo_in (rf_op rfo_ix rf_var rf_int) rf_str) (rf_cb rfc_all (rf_cons (rf_val (rf_lc (vs := [1]) (rf_iSeq rf_var) (rfg_name (vs := [1]) (by decide)) rf_yes (rf_op rfo_in rf_var rf_str))) rf_nil)))))
theorem c_is_beginning (T : Txt P K mg a) : Cal P w K mg base 1 "is_beginning" ["value"] (spM K (kap a) 1 f_is_beginning) := by
  obtain ⟨fd, F, b⟩ := T.F_is_beginning
  refine ⟨_, _, F.ok sc_is_beginning (spM_len rfl) (fun cdv A outer s H us Q E hr h => ?_), T.g_is_beginning, F.kp, b⟩
  refine ⟨_, (pss_one (ps_ret (pe_and (pe_callB (call_isiA (K := K)) (by rfl) T.n_isinstance (by decide +kernel) (pa_cons (pv 0) (pa_cons (pe_bty "str" T.n_str (by decide +kernel)) pa_nil))) (pe_one (pe_cmpR (op_inA (K := K) (units65 hr)) (pv 0) (pe_gref T.g_BEGINNINGS) (by rfl)))))), body_of (N := N_is_beginning) (m := b_is_beginning) ?_ (by unfold f_is_beginning at h; exact h)⟩
  exact (rf_ret (rf_andV (rf_cb (rfc_isi (kt T)) (rf_cons rf_var (rf_cons (rf_c (d := .ty "str") fun _ => rfl) rf_nil))) (rf_op rfo_in rf_var (rf_tupK (zs := [("new" : Str), ("found" : Str)]) (T.k_BEGINNINGS)))))
theorem c_is_letter (T : Txt P K mg a) : Cal P w K mg base 2 "is_letter" ["value"] (spM K (kap a) 1 f_is_letter) := by
  obtain ⟨fd, F, b⟩ := T.F_is_letter
  refine ⟨_, _, F.ok sc_is_letter (spM_len rfl) (fun cdv A outer s H us Q E hr h => ?_), T.g_is_letter, F.kp, b⟩
  refine ⟨_, (pss_cons (ps_if (pt_not (pt_val (pe_callB (call_isiA (K := K)) (by rfl) T.n_isinstance (by decide +kernel) (pa_cons (pv 0) (pa_cons (pe_bty "str" T.n_str (by decide +kernel)) pa_nil))))) (pss_one (ps_ret pe_bl)) pss_nil)
      (pss_cons (ps_set (i := 1) sc_is_letter.nd rfl (by first | exact Or.inl rfl | exact Or.inr rfl) (pe_ifExp (pt_cmpR (op_eqA (K := K) hr.units) (pe_slice (sl_A (K := K)) (pv 0) po_none (po_some pe_int)) pe_str (by rfl)) (pe_slice (sl_A (K := K)) (pv 0) (po_some pe_int) po_none) (pv 0)))
      (pss_one (ps_ret (pe_and (pe_callC (c_is_word T) hr (pa_cons (pv 1) pa_nil)) (pe_one (pe_not (pe_callC (c_is_beginning T) hr (pa_cons (pv 1) pa_nil))))))))), body_of (N := N_is_letter) (m := b_is_letter) ?_ (by unfold f_is_letter at h; exact h)⟩
  exact (rf_seq (rf_ifS (rf_notT (rf_tB (rf_cb (rfc_isi (kt T)) (rf_cons rf_var (rf_cons (rf_c (d := .ty "str") fun _ => rfl) rf_nil))))) (rf_ret rf_bl) rf_next)
      (rf_seq (rf_asg (rf_if (rf_test (rf_op rfo_eq (rf_sl rf_var rf_noP (rf_part rf_int)) rf_str)) (rf_sl rf_var (rf_part rf_int) rf_noP) rf_var) (rfg_name (vs := [1]) (by decide)))
      (rf_ret (rf_andV (rf_call0 (rf_cons rf_var rf_nil)) (rf_notV (rf_call0 (rf_cons rf_var rf_nil)))))))
theorem ok_Letters___init__ (T : Txt P K mg a) {fd : FuncData} (F : Fun K "__init__" "Letters.__init__" s_Letters___init__ a.f_Letters___init__ fd) : FnOk P w K mg base (L2.CX P w) 3 a.f_Letters___init__ fd ["self", "words"] (spI K (kap a) 2 "Letters" f_Letters___init__) := by
  refine F.okX sc_Letters___init__ (spI_len rfl) (fun cdv A outer s H us Q E hr h => ?_)
  refine ⟨_, (pss_cons (ps_if (pt_cmpR op_gtA (pe_callB (call_lenA (K := K)) (by rfl) T.n_len (by decide +kernel) (pa_cons (pv 1) pa_nil)) (pe_gint T.g_MOST_LETTERS) (by rfl)) (pss_one (ps_raiseX (x_TooMany T) hr (takes_of rfl rfl rfl rfl) (pa_cons pe_str (pa_cons (pe_callB (call_lenA (K := K)) (by rfl) T.n_len (by decide +kernel) (pa_cons (pv 1) pa_nil)) (pa_cons (pe_gint T.g_MOST_LETTERS) pa_nil))))) pss_nil)
      (pss_cons (ps_if (pt_cmpR (op_eqA (K := K) hr.units) (pe_callB (call_lenA (K := K)) (by rfl) T.n_len (by decide +kernel) (pa_cons (pv 1) pa_nil)) pe_int (by rfl)) (pss_one (ps_raiseX (x_BadLetters T) hr (takes_of rfl rfl rfl rfl) (pa_cons pe_int pa_nil))) pss_nil)
      (pss_cons (ps_for (passes_of rfl) (by rfl) (pi_enumA (by rfl) T.n_enumerate (pa_cons (pv 1) pa_nil)) (pg_sqK (K := K) (n := 2) rfl (pgs_cons (pg_name (i := 2) sc_Letters___init__.nd rfl (by first | exact Or.inl rfl | exact Or.inr rfl)) (pgs_cons (pg_name (i := 3) sc_Letters___init__.nd rfl (by first | exact Or.inl rfl | exact Or.inr rfl)) pgs_nil)))
        (pss_one (ps_if (PW.pt (pw_or (pt_not (pt_val (pe_callC (c_is_letter T) hr (pa_cons (pv 3) pa_nil)))) (pw_or1 (pt_cmpR (op_inA (K := K) (units65 hr)) (pv 3) (pe_slice (sl_A (K := K)) (pv 1) po_none (po_some (pv 2))) (by rfl))))) (pss_one (ps_raiseX (x_BadLetters T) hr (takes_of rfl rfl rfl rfl) (pa_cons (pv 2) pa_nil))) pss_nil)))
      (pss_one (ps_fld (pv 0) (pe_callTy (call_tupleA (K := K)) (by rfl) T.n_tuple (by decide +kernel) (pa_cons (pv 1) pa_nil)) rfl))))), bodyI_of (N := N_Letters___init__) (m := b_Letters___init__) ?_ (by unfold f_Letters___init__ at h; exact h)⟩
  exact (rf_seq (rf_ifS (rf_test (rf_op rfo_cmp (rf_cb rfc_len (rf_cons rf_var rf_nil)) rf_int)) (rf_raise rfl rzk_TooMany (rf_cons rf_str (rf_cons (rf_cb rfc_len (rf_cons rf_var rf_nil)) (rf_cons rf_int rf_nil)))) rf_next)
      (rf_seq (rf_ifS (rf_test (rf_op rfo_eq (rf_cb rfc_len (rf_cons rf_var rf_nil)) rf_int)) (rf_raise rfl rzk_BadLetters (rf_cons rf_int rf_nil)) rf_next)
      (rf_seq (rf_for (rf_iEnum (rf_cons rf_var rf_nil)) (rfg_tup (rfg_cons (rfg_name (vs := [2, 3]) (by decide)) (rfg_cons (rfg_name (vs := [2, 3]) (by decide)) rfg_nil)))
        (rf_ifS (rf_orT (rf_notT (rf_tB (rf_call0 (rf_cons rf_var rf_nil)))) (rf_test (rf_op rfo_in rf_var (rf_sl rf_var rf_noP (rf_part rf_var))))) (rf_raise rfl rzk_BadLetters (rf_cons rf_var rf_nil)) rf_next))
      (rf_setF (fl_words T) (rf_cb rfc_tuple (rf_cons rf_var rf_nil))))))
theorem c_Letters (T : Txt P K mg a) : CtrX P w K mg base 3 "Letters" a.Letters ["self", "words"] [] (spI K (kap a) 2 "Letters" f_Letters___init__) := by
  obtain ⟨fd, F, b⟩ := T.F_Letters___init__
  exact ⟨_, _, _, T.mk_Letters, ok_Letters___init__ T F, T.g_Letters, b, .nil⟩
theorem c_Letters___contains__ (T : Txt P K mg a) : Mth P w K mg base 1 a.Letters "__contains__" ["self", "x"] (spM K (kap a) 2 f_Letters___contains__) := by
  obtain ⟨fd, F, b⟩ := T.F_Letters___contains__
  refine ⟨T.cl_Letters, _, _, T.m_Letters___contains__, F.ok sc_Letters___contains__ (spM_len rfl) (fun cdv A outer s H us Q E hr h => ?_), b⟩
  refine ⟨_, (pss_one (ps_ret (pe_and (pe_callB (call_isiA (K := K)) (by rfl) T.n_isinstance (by decide +kernel) (pa_cons (pv 1) (pa_cons (pe_bty "str" T.n_str (by decide +kernel)) pa_nil))) (pe_one (pe_cmpR (op_inA (K := K) (units65 hr)) (pv 1) (pe_fldK (K := K) (pv 0) rfl) (by rfl)))))), body_of (N := N_Letters___contains__) (m := b_Letters___contains__) ?_ (by unfold f_Letters___contains__ at h; exact h)⟩
  exact (rf_ret (rf_andV (rf_cb (rfc_isi (kt T)) (rf_cons rf_var (rf_cons (rf_c (d := .ty "str") fun _ => rfl) rf_nil))) (rf_op rfo_in rf_var (rf_fld (fl_words T) rf_var))))
theorem c_Letters___eq__ (T : Txt P K mg a) : Mth P w K mg base 1 a.Letters "__eq__" ["self", "other"] (spM K (kap a) 2 f_Letters___eq__) := by
  obtain ⟨fd, F, b⟩ := T.F_Letters___eq__
  refine ⟨T.cl_Letters, _, _, T.m_Letters___eq__, F.ok sc_Letters___eq__ (spM_len rfl) (fun cdv A outer s H us Q E hr h => ?_), b⟩
  refine ⟨_, (pss_one (ps_ret (pe_and (pe_callB (call_isiA (K := K)) (by rfl) T.n_isinstance (by decide +kernel) (pa_cons (pv 1) (pa_cons (pe_gref T.g_Letters) pa_nil))) (pe_one (pe_cmpR (op_eqA (K := K) hr.units) (pe_fldK (K := K) (pv 0) rfl) (pe_fldK (K := K) (pv 1) rfl) (by rfl)))))), body_of (N := N_Letters___eq__) (m := b_Letters___eq__) ?_ (by unfold f_Letters___eq__ at h; exact h)⟩
  exact (rf_ret (rf_andV (rf_cb (rfc_isi (kt T)) (rf_cons rf_var (rf_cons (rf_c (d := .cls "Letters") fun _ => rfl) rf_nil))) (rf_op rfo_eq (rf_fld (fl_words T) rf_var) (rf_fld (fl_words T) rf_var))))
theorem c_is_one_of (T : Txt P K mg a) : Cal P w K mg base 1 "is_one_of" ["value", "words"] (spM K (kap a) 2 f_is_one_of) := by
  obtain ⟨fd, F, b⟩ := T.F_is_one_of
  refine ⟨_, _, F.ok sc_is_one_of (spM_len rfl) (fun cdv A outer s H us Q E hr h => ?_), T.g_is_one_of, F.kp, b⟩
  refine ⟨_, (pss_one (ps_ret (pe_and (pe_callB (call_isiA (K := K)) (by rfl) T.n_isinstance (by decide +kernel) (pa_cons (pv 0) (pa_cons (pe_bty "str" T.n_str (by decide +kernel)) pa_nil))) (pe_one (pe_cmpR (op_inA (K := K) (units65 hr)) (pv 0) (pv 1) (by rfl)))))), body_of (N := N_is_one_of) (m := b_is_one_of) ?_ (by unfold f_is_one_of at h; exact h)⟩
  exact (rf_ret (rf_andV (rf_cb (rfc_isi (kt T)) (rf_cons rf_var (rf_cons (rf_c (d := .ty "str") fun _ => rfl) rf_nil))) (rf_op rfo_in rf_var rf_var)))
theorem c_answer_set (T : Txt P K mg a) : CalX P w K mg base 3 "answer_set" ["answers"] (spM K (kap a) 1 f_answer_set) := by
  obtain ⟨fd, F, b⟩ := T.F_answer_set
  refine ⟨_, _, F.okX sc_answer_set (spM_len rfl) (fun cdv A outer s H us Q E hr h => ?_), T.g_answer_set, F.kp, b⟩
  refine ⟨_, (pss_cons (ps_if (pt_cmpR (op_eqA (K := K) hr.units) (pe_callB (call_lenA (K := K)) (by rfl) T.n_len (by decide +kernel) (pa_cons (pv 0) pa_nil)) pe_int (by rfl)) (pss_one (ps_raiseX (x_BadAnswers T) hr (takes_of rfl rfl rfl rfl) (pa_cons pe_int pa_nil))) pss_nil)
      (pss_cons (ps_for (passes_of rfl) (by rfl) (pi_enumA (by rfl) T.n_enumerate (pa_cons (pv 0) pa_nil)) (pg_sqK (K := K) (n := 2) rfl (pgs_cons (pg_name (i := 2) sc_answer_set.nd rfl (by first | exact Or.inl rfl | exact Or.inr rfl)) (pgs_cons (pg_name (i := 3) sc_answer_set.nd rfl (by first | exact Or.inl rfl | exact Or.inr rfl)) pgs_nil)))
        (pss_one (ps_if (pt_not (pt_val (pe_callC (c_is_word T) hr (pa_cons (pv 3) pa_nil)))) (pss_one (ps_raiseX (x_BadAnswers T) hr (takes_of rfl rfl rfl rfl) (pa_cons (pv 2) pa_nil))) pss_nil)))
      (pss_cons (ps_set (i := 1) sc_answer_set.nd rfl (by first | exact Or.inl rfl | exact Or.inr rfl) (pe_callB (call_sortXA (P := P) (pw := w)) (by rfl) T.n_sorted (by decide +kernel) (pa_cons (pe_callTy (call_setXA (K := K) (P := P) (pw := w)) (by rfl) T.n_set (by decide +kernel) (pa_cons (pv 0) pa_nil)) pa_nil)))
      (pss_cons (ps_if (pt_cmpR op_gtA (pe_callB (call_lenA (K := K)) (by rfl) T.n_len (by decide +kernel) (pa_cons (pv 1) pa_nil)) (pe_gint T.g_MOST_ANSWERS) (by rfl)) (pss_one (ps_raiseX (x_TooMany T) hr (takes_of rfl rfl rfl rfl) (pa_cons pe_str (pa_cons (pe_callB (call_lenA (K := K)) (by rfl) T.n_len (by decide +kernel) (pa_cons (pv 1) pa_nil)) (pa_cons (pe_gint T.g_MOST_ANSWERS) pa_nil))))) pss_nil)
      (pss_one (ps_ret (pe_callTy (call_tupleA (K := K)) (by rfl) T.n_tuple (by decide +kernel) (pa_cons (pv 1) pa_nil)))))))), body_of (N := N_answer_set) (m := b_answer_set) ?_ (by unfold f_answer_set at h; exact h)⟩
  exact (rf_seq (rf_ifS (rf_test (rf_op rfo_eq (rf_cb rfc_len (rf_cons rf_var rf_nil)) rf_int)) (rf_raise rfl rzk_BadAnswers (rf_cons rf_int rf_nil)) rf_next)
      (rf_seq (rf_for (rf_iEnum (rf_cons rf_var rf_nil)) (rfg_tup (rfg_cons (rfg_name (vs := [2, 3]) (by decide)) (rfg_cons (rfg_name (vs := [2, 3]) (by decide)) rfg_nil)))
        (rf_ifS (rf_notT (rf_tB (rf_call0 (rf_cons rf_var rf_nil)))) (rf_raise rfl rzk_BadAnswers (rf_cons rf_var rf_nil)) rf_next))
      (rf_seq (rf_asg (rf_val (rf_srt rf_var)) (rfg_name (vs := [1]) (by decide)))
      (rf_seq (rf_ifS (rf_test (rf_op rfo_cmp (rf_cb rfc_len (rf_cons rf_var rf_nil)) rf_int)) (rf_raise rfl rzk_TooMany (rf_cons rf_str (rf_cons (rf_cb rfc_len (rf_cons rf_var rf_nil)) (rf_cons rf_int rf_nil)))) rf_next)
      (rf_ret (rf_cb rfc_tuple (rf_cons rf_var rf_nil)))))))
theorem ok_Limit___init__ (T : Txt P K mg a) {fd : FuncData} (F : FunD K "__init__" "Limit.__init__" (defArgs s_Limit___init__) (defBody s_Limit___init__) (defScope s_Limit___init__) [.non] [] a.f_Limit___init__ fd) : FnOk P w K mg base (L2.CX P w) 4 a.f_Limit___init__ fd ["self", "letters", "kind", "answers", "letter"] (spI K (kap a) 5 "Limit" f_Limit___init__) := by
  refine F.ok sc_Limit___init__ (spI_len rfl) (fun cdv A outer s H us Q E hr h => ?_)
  refine ⟨_, (pss_cons (ps_if (pt_not (pt_val (pe_callC (c_is_one_of T) hr (pa_cons (pv 2) (pa_cons (pe_gref T.g_LIMIT_KINDS) pa_nil))))) (pss_one (ps_raise0 T.x0_BadKind (takes_of rfl rfl rfl rfl))) pss_nil)
      (pss_cons (ps_set (i := 5) sc_Limit___init__.nd rfl (by first | exact Or.inl rfl | exact Or.inr rfl) (pe_callX (c_answer_set T) hr (takes_of rfl rfl rfl rfl) (pa_cons (pv 3) pa_nil)))
      (pss_cons (ps_if (pt_ifExp (pt_cmpR (op_eqA (K := K) hr.units) (pv 2) pe_str (by rfl)) (pt_cmpR (op_notInOwn (c_Letters___contains__ T) hr) (pv 4) (pv 1) (by rfl)) (pt_cmpR op_isNotA (pv 4) pe_non (by rfl))) (pss_one (ps_raiseX (x_BadLetter T) hr (takes_of rfl rfl rfl rfl) (pa_cons pe_int pa_nil))) pss_nil)
      (pss_cons (ps_fld (pv 0) (pv 1) rfl)
      (pss_cons (ps_fld (pv 0) (pv 2) rfl)
      (pss_cons (ps_fld (pv 0) (pv 5) rfl)
      (pss_one (ps_fld (pv 0) (pv 4) rfl)))))))), bodyI_of (N := N_Limit___init__) (m := b_Limit___init__) ?_ (by unfold f_Limit___init__ at h; exact h)⟩
  exact (rf_seq (rf_ifS (rf_notT (rf_tB (rf_call0 (rf_cons rf_var (rf_cons (rf_tupK (zs := [("always" : Str), ("fresh" : Str), ("behind" : Str)]) (T.k_LIMIT_KINDS)) rf_nil))))) (rf_raise0 rfl) rf_next)
      (rf_seq (rf_asg (rf_callW (rf_cons rf_var rf_nil)) (rfg_name (vs := [5]) (by decide)))
      (rf_seq (rf_ifS (rf_ifT (rf_test (rf_op rfo_eq rf_var rf_str)) (rf_test (rf_op (rfo_inOwn rfl) rf_var rf_var)) (rf_test (rf_op rfo_is rf_var rf_non))) (rf_raise rfl rzk_BadLetter (rf_cons rf_int rf_nil)) rf_next)
      (rf_seq (rf_setF (fl_letters T) rf_var)
      (rf_seq (rf_setF (fl_kind T) rf_var)
      (rf_seq (rf_setF (fl_answers T) rf_var)
      (rf_setF (fl_letter T) rf_var)))))))
theorem c_Limit (T : Txt P K mg a) : CtrX P w K mg base 4 "Limit" a.Limit ["self", "letters", "kind", "answers", "letter"] [] (spI K (kap a) 5 "Limit" f_Limit___init__) := by
  obtain ⟨fd, F⟩ := T.F_Limit___init__
  obtain ⟨ds, hv, hb⟩ := F.binds1 (ps := ["self", "letters", "kind", "answers", "letter"]) 5 1 (by intro z; cases z) rfl (fun _ _ _ _ _ _ _ us its hl hi => match us, hl with | [_, _, _, _, _], _ => match its, hi with | [_], _ => ⟨_, rfl, rfl⟩)
  cases hv
  exact ⟨_, _, _, T.mk_Limit, ok_Limit___init__ T F, T.g_Limit, hb, .nil⟩
theorem c_Limit1 (T : Txt P K mg a) : CtrX P w K mg base 4 "Limit" a.Limit ["self", "letters", "kind", "answers", "letter"] [.non] (spI K (kap a) 5 "Limit" f_Limit___init__) := by
  obtain ⟨fd, F⟩ := T.F_Limit___init__
  obtain ⟨ds, hv, hb⟩ := F.binds1 (ps := ["self", "letters", "kind", "answers", "letter"]) 4 0 (by intro z; cases z) rfl (fun _ _ _ _ _ _ _ us its hl hi => match us, hl with | [_, _, _, _], _ => match its, hi with | [_], _ => ⟨_, rfl, rfl⟩)
  exact ⟨_, _, _, T.mk_Limit, ok_Limit___init__ T F, T.g_Limit, hb, hv⟩
theorem c_Limit___eq__ (T : Txt P K mg a) : Mth P w K mg base 3 a.Limit "__eq__" ["self", "other"] (spM K (kap a) 2 f_Limit___eq__) := by
  obtain ⟨fd, F, b⟩ := T.F_Limit___eq__
  refine ⟨T.cl_Limit, _, _, T.m_Limit___eq__, F.ok sc_Limit___eq__ (spM_len rfl) (fun cdv A outer s H us Q E hr h => ?_), b⟩
  refine ⟨_, (pss_cons (ps_if (PW.pt (pw_or (pt_not (pt_val (pe_callB (call_isiA (K := K)) (by rfl) T.n_isinstance (by decide +kernel) (pa_cons (pv 1) (pa_cons (pe_gref T.g_Limit) pa_nil))))) (pw_or (pt_cmpR (op_neOwn T.ne_Letters (c_Letters___eq__ T) hr) (pe_fldK (K := K) (pv 0) rfl) (pe_fldK (K := K) (pv 1) rfl) (by rfl)) (pw_or1 (pt_cmpR (op_neA (K := K) hr.units) (pe_fldK (K := K) (pv 0) rfl) (pe_fldK (K := K) (pv 1) rfl) (by rfl)))))) (pss_one (ps_ret pe_bl)) pss_nil)
      (pss_one (ps_ret (pe_and (pe_cmpR (op_eqA (K := K) hr.units) (pe_fldK (K := K) (pv 0) rfl) (pe_fldK (K := K) (pv 1) rfl) (by rfl)) (pe_one (pe_cmpR (op_eqA (K := K) hr.units) (pe_fldK (K := K) (pv 0) rfl) (pe_fldK (K := K) (pv 1) rfl) (by rfl))))))), body_of (N := N_Limit___eq__) (m := b_Limit___eq__) ?_ (by unfold f_Limit___eq__ at h; exact h)⟩
  exact (rf_seq (rf_ifS (rf_orT (rf_notT (rf_tB (rf_cb (rfc_isi (kt T)) (rf_cons rf_var (rf_cons (rf_c (d := .cls "Limit") fun _ => rfl) rf_nil))))) (rf_orT (rf_test (rf_op (rfo_eqOwn rfl) (rf_fld (fl_letters T) rf_var) (rf_fld (fl_letters T) rf_var))) (rf_test (rf_op rfo_ne (rf_fld (fl_kind T) rf_var) (rf_fld (fl_kind T) rf_var))))) (rf_ret rf_bl) rf_next)
      (rf_ret (rf_andV (rf_op rfo_eq (rf_fld (fl_answers T) rf_var) (rf_fld (fl_answers T) rf_var)) (rf_op rfo_eq (rf_fld (fl_letter T) rf_var) (rf_fld (fl_letter T) rf_var)))))
theorem c_Limit___str__ (T : Txt P K mg a) : Mth P w K mg base 1 a.Limit "__str__" ["self"] (spM K (kap a) 1 f_Limit___str__) := by
  obtain ⟨fd, F, b⟩ := T.F_Limit___str__
  refine ⟨T.cl_Limit, _, _, T.m_Limit___str__, F.ok sc_Limit___str__ (spM_len rfl) (fun cdv A outer s H us Q E hr h => ?_), b⟩
  refine ⟨_, (pss_cons (ps_setLc (own := [("part", 2)]) (i := 1) (by rfl) sc_Limit___str__.nd rfl rfl (sw_true rfl rfl rfl (by decide +kernel)) (pi_seqA (K := K) (pe_tup (pa_cons (pe_fldK (K := K) (pv 0) rfl) (pa_cons (pe_fldK (K := K) (pv 0) rfl) pa_nil)))) (blkOk_by (own := [("part", 2)]) (N := N_Limit___str__) (sc := defScope s_Limit___str__) (by decide +kernel)) (fun _ _ _ _ _ => (pg_name (i := 2) sc_Limit___str__.nd rfl (by first | exact Or.inl rfl | exact Or.inr rfl))) (fun _ _ _ _ _ => pts_one (pt_cmpR op_isNotA (pv 2) pe_non (by rfl))) (fun _ _ _ _ _ => (pv 2)))
      (pss_one (ps_ret (pe_join pe_str (pe_lst (StX.pa_star (pv 1) (StX.pa_star (pe_fldK (K := K) (pv 0) rfl) pa_nil))))))), body_of (N := N_Limit___str__) (m := b_Limit___str__) ?_ (by unfold f_Limit___str__ at h; exact h)⟩
  exact (rf_seq (rf_asg (rf_val (rf_lc (vs := [2]) (rf_iSeq (rf_tup (rf_cons (rf_fld (fl_kind T) rf_var) (rf_cons (rf_fld (fl_letter T) rf_var) rf_nil)))) (rfg_name (vs := [2]) (by decide)) (rf_test (rf_op rfo_is rf_var rf_non)) rf_var)) (rfg_name (vs := [1]) (by decide)))
      (rf_ret (rf_join rf_str (rf_val (rf_lst (rf_star rf_var (rf_star (rf_fld (fl_answers T) rf_var) rf_nil)))))))
theorem c__law_pick (T : Txt P K mg a) : Cal P w K mg base 2 "_law_pick" ["_law_pen_here", "_law_options"] (spM K (kap a) 2 f__law_pick) := by
  obtain ⟨fd, F, b⟩ := T.F__law_pick
  refine ⟨_, _, F.ok sc__law_pick (spM_len rfl) (fun cdv A outer s H us Q E hr h => ?_), T.g__law_pick, F.kp, b⟩
  refine ⟨_, (pss_one (ps_ret (pe_ix (ix_A (K := K)) (pv 1) (pe_callC (c__law_draw T) hr (pa_cons (pv 0) (pa_cons (pe_callB (call_lenA (K := K)) (by rfl) T.n_len (by decide +kernel) (pa_cons (pv 1) pa_nil)) pa_nil))) (fun _ _ => rfl)))), body_of (N := N__law_pick) (m := b__law_pick) ?_ (by unfold f__law_pick at h; exact h)⟩
  exact (rf_ret (rf_op rfo_ix rf_var (rf_call0 (rf_cons rf_var (rf_cons (rf_cb rfc_len (rf_cons rf_var rf_nil)) rf_nil)))))
theorem c__law_odd (T : Txt P K mg a) : Cal P w K mg base 3 "_law_odd" ["_law_pen_here", "_law_letters_here"] (spM K (kap a) 2 f__law_odd) := by
  obtain ⟨fd, F, b⟩ := T.F__law_odd
  refine ⟨_, _, F.ok sc__law_odd (spM_len rfl) (fun cdv A outer s H us Q E hr h => ?_), T.g__law_odd, F.kp, b⟩
  refine ⟨_, (pss_cons (ps_set (i := 2) sc__law_odd.nd rfl (by first | exact Or.inl rfl | exact Or.inr rfl) (pe_callC (c__law_pick T) hr (pa_cons (pv 0) (pa_cons (pv 1) pa_nil))))
      (pss_cons (ps_set (i := 3) sc__law_odd.nd rfl (by first | exact Or.inl rfl | exact Or.inr rfl) (pe_op (op_addA (K := K)) (pv 2) (pe_callC (c__law_pick T) hr (pa_cons (pv 0) (pa_cons pe_str pa_nil)))))
      (pss_cons (ps_set (i := 4) sc__law_odd.nd rfl (by first | exact Or.inl rfl | exact Or.inr rfl) (pe_lst (pa_cons pe_non (pa_cons pe_bl (pa_cons pe_int (pa_cons pe_int (pa_cons (pe_lst (pa_cons (pv 2) pa_nil)) (pa_cons (pe_tup (pa_cons (pv 2) pa_nil)) (pa_cons (pe_disp (pps_cons (pv 2) (pv 2) pps_nil) (by rfl) (by rfl) (fun z => by cases z) (by decide)) (pa_cons pe_str (pa_cons pe_str (pa_cons pe_str (pa_cons (pv 3) (pa_cons (pe_slice (sl_A (K := K)) (pv 2) (po_some pe_int) po_none) (pa_cons (pe_upper (pv 2)) (pa_cons (pe_op (op_addA (K := K)) pe_str (pv 2)) pa_nil))))))))))))))))
      (pss_cons (ps_setLc (own := [("_law_value", 6)]) (i := 5) (by rfl) sc__law_odd.nd rfl rfl (sw_true rfl rfl rfl (by decide +kernel)) (pi_seqA (K := K) (pv 4)) (blkOk_by (own := [("_law_value", 6)]) (N := N__law_odd) (sc := defScope s__law_odd) (by decide +kernel)) (fun _ _ _ _ _ => (pg_name (i := 6) sc__law_odd.nd rfl (by first | exact Or.inl rfl | exact Or.inr rfl))) (fun _ _ _ _ _ => pts_one (pt_not (PW.pt (pw_and (pt_val (pe_callB (call_isiA (K := K)) (by rfl) T.n_isinstance (by decide +kernel) (pa_cons (pv 6) (pa_cons (pe_bty "str" T.n_str (by decide +kernel)) pa_nil)))) (pw_and1 (pt_cmpR (op_inA (K := K) (units65 hr)) (pv 6) (pv 1) (by rfl))))))) (fun _ _ _ _ _ => (pv 6)))
      (pss_one (ps_ret (pe_callC (c__law_pick T) hr (pa_cons (pv 0) (pa_cons (pv 5) pa_nil))))))))), body_of (N := N__law_odd) (m := b__law_odd) ?_ (by unfold f__law_odd at h; exact h)⟩
  exact (rf_seq (rf_asg (rf_call0 (rf_cons rf_var (rf_cons rf_var rf_nil))) (rfg_name (vs := [2]) (by decide)))
      (rf_seq (rf_asg (rf_op rfo_add rf_var (rf_call0 (rf_cons rf_var (rf_cons rf_str rf_nil)))) (rfg_name (vs := [3]) (by decide)))
      (rf_seq (rf_asg (rf_val (rf_lst (rf_cons rf_non (rf_cons rf_bl (rf_cons rf_int (rf_cons rf_int (rf_cons (rf_val (rf_lst (rf_cons rf_var rf_nil))) (rf_cons (rf_tup (rf_cons rf_var rf_nil)) (rf_cons (rf_val (rf_disp (.cons rf_var rf_var .nil))) (rf_cons rf_str (rf_cons rf_str (rf_cons rf_str (rf_cons rf_var (rf_cons (rf_sl rf_var (rf_part rf_int) rf_noP) (rf_cons (rf_upper rf_var) (rf_cons (rf_op rfo_add rf_str rf_var) rf_nil)))))))))))))))) (rfg_name (vs := [4]) (by decide)))
      (rf_seq (rf_asg (rf_val (rf_lc (vs := [6]) (rf_iSeq rf_var) (rfg_name (vs := [6]) (by decide)) (rf_notT (rf_andT (rf_tB (rf_cb (rfc_isi (kt T)) (rf_cons rf_var (rf_cons (rf_c (d := .ty "str") fun _ => rfl) rf_nil)))) (rf_test (rf_op rfo_in rf_var rf_var)))) rf_var)) (rfg_name (vs := [5]) (by decide)))
      (rf_ret (rf_call0 (rf_cons rf_var (rf_cons rf_var rf_nil))))))))
theorem c__law_free (T : Txt P K mg a) : Cal P w K mg base 1 "_law_free" ["_law_letters_here"] (spM K (kap a) 1 f__law_free) := by
  obtain ⟨fd, F, b⟩ := T.F__law_free
  refine ⟨_, _, F.ok sc__law_free (spM_len rfl) (fun cdv A outer s H us Q E hr h => ?_), T.g__law_free, F.kp, b⟩
  refine ⟨_, (pss_one (ps_ret (pe_ix (ix_A (K := K)) (pe_lc (own := [("_law_word", 1)]) (by rfl) sc__law_free.nd (pi_seqA (K := K) (pe_lc (own := [("_law_k", 2)]) (by rfl) sc__law_free.nd (pi_range1 (by rfl) T.n_range (pa_cons pe_int pa_nil)) (blkOk_by (own := [("_law_k", 2)]) (N := N__law_free) (sc := defScope s__law_free) (by decide +kernel)) (fun _ _ _ _ _ => (pg_name (i := 2) sc__law_free.nd rfl (by first | exact Or.inl rfl | exact Or.inr rfl))) (fun _ _ _ _ _ => pts_nil) (fun _ _ _ _ _ => (pe_op (op_addA (K := K)) pe_str (pe_callTy call_str_int (by rfl) T.n_str (by decide +kernel) (pa_cons (pv 2) pa_nil)))))) (blkOk_by (own := [("_law_word", 1)]) (N := N__law_free) (sc := defScope s__law_free) (by decide +kernel)) (fun _ _ _ _ _ => (pg_name (i := 1) sc__law_free.nd rfl (by first | exact Or.inl rfl | exact Or.inr rfl))) (fun _ _ _ _ _ => pts_one (pt_cmpR (op_notInA (K := K) (units65 hr)) (pv 1) (pv 0) (by rfl))) (fun _ _ _ _ _ => (pv 1))) pe_int (fun _ _ => rfl)))), body_of (N := N__law_free) (m := b__law_free) ?_ (by unfold f__law_free at h; exact h)⟩
  exact (rf_ret (rf_op rfo_ix (rf_val (rf_lc (vs := [1]) (rf_iSeq (rf_val (rf_lc (vs := [2]) (rf_iRng1 (rf_cons rf_int rf_nil)) (rfg_name (vs := [2]) (by decide)) rf_yes (rf_op rfo_add rf_str (rf_cb rfc_str (rf_cons rf_var rf_nil)))))) (rfg_name (vs := [1]) (by decide)) (rf_test (rf_op rfo_notIn rf_var rf_var)) rf_var)) rf_int))
theorem c__law_answer (T : Txt P K mg a) : Cal P w K mg base 3 "_law_answer" ["_law_pen_here"] (spM K (kap a) 1 f__law_answer) := by
  obtain ⟨fd, F, b⟩ := T.F__law_answer
  refine ⟨_, _, F.ok sc__law_answer (spM_len rfl) (fun cdv A outer s H us Q E hr h => ?_), T.g__law_answer, F.kp, b⟩
  refine ⟨_, (pss_cons (ps_asg (pe_tup (pa_cons pe_str (pa_cons pe_str pa_nil))) (pg_sqK (K := K) (n := 2) rfl (pgs_cons (pg_name (i := 2) sc__law_answer.nd rfl (by first | exact Or.inl rfl | exact Or.inr rfl)) (pgs_cons (pg_name (i := 3) sc__law_answer.nd rfl (by first | exact Or.inl rfl | exact Or.inr rfl)) pgs_nil))))
      (pss_cons (ps_set (i := 1) sc__law_answer.nd rfl (by first | exact Or.inl rfl | exact Or.inr rfl) (pe_callC (c__law_pick T) hr (pa_cons (pv 0) (pa_cons (pe_lst (pa_cons pe_int (pa_cons pe_int (pa_cons pe_int (pa_cons pe_int (pa_cons pe_int (pa_cons pe_int pa_nil))))))) pa_nil))))
      (pss_one (ps_ret (pe_op (op_addA (K := K)) (pe_callC (c__law_pick T) hr (pa_cons (pv 0) (pa_cons (pv 2) pa_nil))) (pe_join pe_str (pe_lc (own := [("_law_k", 4)]) (by rfl) sc__law_answer.nd (pi_range1 (by rfl) T.n_range (pa_cons (pv 1) pa_nil)) (blkOk_by (own := [("_law_k", 4)]) (N := N__law_answer) (sc := defScope s__law_answer) (by decide +kernel)) (fun _ _ _ _ _ => (pg_name (i := 4) sc__law_answer.nd rfl (by first | exact Or.inl rfl | exact Or.inr rfl))) (fun _ _ _ _ _ => pts_nil) (fun _ _ _ _ _ => (pe_callC (c__law_pick T) hr (pa_cons (pv 0) (pa_cons (pv 3) pa_nil))))))))))), body_of (N := N__law_answer) (m := b__law_answer) ?_ (by unfold f__law_answer at h; exact h)⟩
  exact (rf_seq (rf_asg (rf_tup (rf_cons rf_str (rf_cons rf_str rf_nil))) (rfg_tup (rfg_cons (rfg_name (vs := [2, 3]) (by decide)) (rfg_cons (rfg_name (vs := [2, 3]) (by decide)) rfg_nil))))
      (rf_seq (rf_asg (rf_call0 (rf_cons rf_var (rf_cons (rf_val (rf_lst (rf_cons rf_int (rf_cons rf_int (rf_cons rf_int (rf_cons rf_int (rf_cons rf_int (rf_cons rf_int rf_nil)))))))) rf_nil))) (rfg_name (vs := [1]) (by decide)))
      (rf_ret (rf_op rfo_add (rf_call0 (rf_cons rf_var (rf_cons rf_var rf_nil))) (rf_join rf_str (rf_val (rf_lc (vs := [4]) (rf_iRng1 (rf_cons rf_var rf_nil)) (rfg_name (vs := [4]) (by decide)) rf_yes (rf_call0 (rf_cons rf_var (rf_cons rf_var rf_nil))))))))))
theorem c__law_is_answer (T : Txt P K mg a) : Cal P w K mg base 1 "_law_is_answer" ["_law_value"] (spM K (kap a) 1 f__law_is_answer) := by
  obtain ⟨fd, F, b⟩ := T.F__law_is_answer
  refine ⟨_, _, F.ok sc__law_is_answer (spM_len rfl) (fun cdv A outer s H us Q E hr h => ?_), T.g__law_is_answer, F.kp, b⟩
  refine ⟨_, (pss_cons (ps_if (PW.pt (pw_or (pt_not (pt_val (pe_callB (call_isiA (K := K)) (by rfl) T.n_isinstance (by decide +kernel) (pa_cons (pv 0) (pa_cons (pe_bty "str" T.n_str (by decide +kernel)) pa_nil))))) (pw_or1 (pt_not (pt_chain op_leA op_leA pe_int (pe_callB (call_lenA (K := K)) (by rfl) T.n_len (by decide +kernel) (pa_cons (pv 0) pa_nil)) pe_int))))) (pss_one (ps_ret pe_bl)) pss_nil)
      (pss_cons (ps_asg (pe_tup (pa_cons pe_str (pa_cons pe_str pa_nil))) (pg_sqK (K := K) (n := 2) rfl (pgs_cons (pg_name (i := 1) sc__law_is_answer.nd rfl (by first | exact Or.inl rfl | exact Or.inr rfl)) (pgs_cons (pg_name (i := 2) sc__law_is_answer.nd rfl (by first | exact Or.inl rfl | exact Or.inr rfl)) pgs_nil))))
      (pss_one (ps_ret (pe_and (pe_cmpR (op_inA (K := K) (units65 hr)) (pe_ix (ix_A (K := K)) (pv 0) pe_int (fun _ _ => rfl)) (pv 1) (by rfl)) (pe_one (pe_cmpR (op_eqA (K := K) hr.units) (pe_lc (own := [("_law_sign", 3)]) (by rfl) sc__law_is_answer.nd (pi_seqA (K := K) (pv 0)) (blkOk_by (own := [("_law_sign", 3)]) (N := N__law_is_answer) (sc := defScope s__law_is_answer) (by decide +kernel)) (fun _ _ _ _ _ => (pg_name (i := 3) sc__law_is_answer.nd rfl (by first | exact Or.inl rfl | exact Or.inr rfl))) (fun _ _ _ _ _ => pts_one (pt_cmpR (op_notInA (K := K) (units65 hr)) (pv 3) (pv 2) (by rfl))) (fun _ _ _ _ _ => (pv 3))) (pe_lst pa_nil) (by rfl)))))))), body_of (N := N__law_is_answer) (m := b__law_is_answer) ?_ (by unfold f__law_is_answer at h; exact h)⟩
  exact (rf_seq (rf_ifS (rf_orT (rf_notT (rf_tB (rf_cb (rfc_isi (kt T)) (rf_cons rf_var (rf_cons (rf_c (d := .ty "str") fun _ => rfl) rf_nil))))) (rf_notT (rf_test (rf_chain rfo_cmp rfo_cmp rf_int (rf_cb rfc_len (rf_cons rf_var rf_nil)) rf_int)))) (rf_ret rf_bl) rf_next)
      (rf_seq (rf_asg (rf_tup (rf_cons rf_str (rf_cons rf_str rf_nil))) (rfg_tup (rfg_cons (rfg_name (vs := [1, 2]) (by decide)) (rfg_cons (rfg_name (vs := [1, 2]) (by decide)) rfg_nil))))
      (rf_ret (rf_andV (rf_op rfo_in (rf_op rfo_ix rf_var rf_int) rf_var) (rf_op rfo_eq (rf_val (rf_lc (vs := [3]) (rf_iSeq rf_var) (rfg_name (vs := [3]) (by decide)) (rf_test (rf_op rfo_notIn rf_var rf_var)) rf_var)) (rf_val (rf_lst rf_nil)))))))
theorem c__law_set (T : Txt P K mg a) : Cal P w K mg base 1 "_law_set" ["_law_answers"] (spM K (kap a) 1 f__law_set) := by
  obtain ⟨fd, F, b⟩ := T.F__law_set
  refine ⟨_, _, F.ok sc__law_set (spM_len rfl) (fun cdv A outer s H us Q E hr h => ?_), T.g__law_set, F.kp, b⟩
  refine ⟨_, (pss_cons (ps_set (i := 1) sc__law_set.nd rfl (by first | exact Or.inl rfl | exact Or.inr rfl) (pe_lst pa_nil))
      (pss_cons (ps_for PassesOwn.never (by rfl) (pi_seqA (K := K) (pv 0)) (pg_name (i := 2) sc__law_set.nd rfl (by first | exact Or.inl rfl | exact Or.inr rfl))
        (pss_one (ps_if (pt_cmpR (op_notInA (K := K) (units65 hr)) (pv 2) (pv 1) (by rfl)) (pss_cons (ps_setLc (own := [("_law_one", 4)]) (i := 3) (by rfl) sc__law_set.nd rfl rfl (sw_true rfl rfl rfl (by decide +kernel)) (pi_seqA (K := K) (pv 1)) (blkOk_by (own := [("_law_one", 4)]) (N := N__law_set) (sc := defScope s__law_set) (by decide +kernel)) (fun _ _ _ _ _ => (pg_name (i := 4) sc__law_set.nd rfl (by first | exact Or.inl rfl | exact Or.inr rfl))) (fun _ _ _ _ _ => pts_one (pt_cmpR op_ltA (pv 4) (pv 2) (by rfl))) (fun _ _ _ _ _ => (pv 4)))
          (pss_one (ps_set (i := 1) sc__law_set.nd rfl (by first | exact Or.inl rfl | exact Or.inr rfl) (pe_op (op_addA (K := K)) (pe_op (op_addA (K := K)) (pv 3) (pe_lst (pa_cons (pv 2) pa_nil))) (pe_slice (sl_A (K := K)) (pv 1) (po_some (pe_callB (call_lenA (K := K)) (by rfl) T.n_len (by decide +kernel) (pa_cons (pv 3) pa_nil))) po_none))))) pss_nil)))
      (pss_one (ps_ret (pe_callTy (call_tupleA (K := K)) (by rfl) T.n_tuple (by decide +kernel) (pa_cons (pv 1) pa_nil)))))), body_of (N := N__law_set) (m := b__law_set) ?_ (by unfold f__law_set at h; exact h)⟩
  exact (rf_seq (rf_asg (rf_val (rf_lst rf_nil)) (rfg_name (vs := [1]) (by decide)))
      (rf_seq (rf_for (rf_iSeq rf_var) (rfg_name (vs := [2]) (by decide))
        (rf_ifS (rf_test (rf_op rfo_notIn rf_var rf_var)) (rf_seq (rf_asg (rf_val (rf_lc (vs := [4]) (rf_iSeq rf_var) (rfg_name (vs := [4]) (by decide)) (rf_test (rf_op rfo_cmp rf_var rf_var)) rf_var)) (rfg_name (vs := [3]) (by decide)))
          (rf_asg (rf_op rfo_add (rf_op rfo_add rf_var (rf_val (rf_lst (rf_cons rf_var rf_nil)))) (rf_sl rf_var (rf_part (rf_cb rfc_len (rf_cons rf_var rf_nil))) rf_noP)) (rfg_name (vs := [1]) (by decide)))) rf_next))
      (rf_ret (rf_cb rfc_tuple (rf_cons rf_var rf_nil)))))
theorem c__law_due (T : Txt P K mg a) : Cal P w K mg base 2 "_law_due" ["_law_answers"] (spM K (kap a) 1 f__law_due) := by
  obtain ⟨fd, F, b⟩ := T.F__law_due
  refine ⟨_, _, F.ok sc__law_due (spM_len rfl) (fun cdv A outer s H us Q E hr h => ?_), T.g__law_due, F.kp, b⟩
  refine ⟨_, (pss_cons (ps_setLc (own := [("_law_k", 3)]) (i := 1) (by rfl) sc__law_due.nd rfl rfl (sw_true rfl rfl rfl (by decide +kernel)) (pi_range1 (by rfl) T.n_range (pa_cons (pe_callB (call_lenA (K := K)) (by rfl) T.n_len (by decide +kernel) (pa_cons (pv 0) pa_nil)) pa_nil)) (blkOk_by (own := [("_law_k", 3)]) (N := N__law_due) (sc := defScope s__law_due) (by decide +kernel)) (fun _ _ _ _ _ => (pg_name (i := 3) sc__law_due.nd rfl (by first | exact Or.inl rfl | exact Or.inr rfl))) (fun _ _ _ _ _ => pts_one (pt_not (pt_val (pe_callC (c__law_is_answer T) hr (pa_cons (pe_ix (ix_A (K := K)) (pv 0) (pv 3) (fun _ _ => rfl)) pa_nil))))) (fun _ _ _ _ _ => (pv 3)))
      (pss_cons (ps_if (PW.pt (pw_or (pt_cmpR (op_eqA (K := K) hr.units) (pv 0) (pe_lst pa_nil) (by rfl)) (pw_or1 (pt_cmpR (op_neA (K := K) hr.units) (pv 1) (pe_lst pa_nil) (by rfl))))) (pss_one (ps_ret (pe_tup (pa_cons pe_str (pa_cons (pe_ix (ix_A (K := K)) (pe_op (op_addA (K := K)) (pv 1) (pe_lst (pa_cons pe_int pa_nil))) pe_int (fun _ _ => rfl)) pa_nil))))) pss_nil)
      (pss_cons (ps_set (i := 2) sc__law_due.nd rfl (by first | exact Or.inl rfl | exact Or.inr rfl) (pe_callB (call_lenA (K := K)) (by rfl) T.n_len (by decide +kernel) (pa_cons (pe_callC (c__law_set T) hr (pa_cons (pv 0) pa_nil)) pa_nil)))
      (pss_one (ps_ret (pe_ifExp (pt_cmpR op_gtA (pv 2) pe_int (by rfl)) (pe_tup (pa_cons pe_str (pa_cons pe_str (pa_cons (pv 2) (pa_cons pe_int pa_nil))))) pe_non)))))), body_of (N := N__law_due) (m := b__law_due) ?_ (by unfold f__law_due at h; exact h)⟩
  exact (rf_seq (rf_asg (rf_val (rf_lc (vs := [3]) (rf_iRng1 (rf_cons (rf_cb rfc_len (rf_cons rf_var rf_nil)) rf_nil)) (rfg_name (vs := [3]) (by decide)) (rf_notT (rf_tB (rf_call0 (rf_cons (rf_op rfo_ix rf_var rf_var) rf_nil)))) rf_var)) (rfg_name (vs := [1]) (by decide)))
      (rf_seq (rf_ifS (rf_orT (rf_test (rf_op rfo_eq rf_var (rf_val (rf_lst rf_nil)))) (rf_test (rf_op rfo_ne rf_var (rf_val (rf_lst rf_nil))))) (rf_ret (rf_tup (rf_cons rf_str (rf_cons (rf_op rfo_ix (rf_op rfo_add rf_var (rf_val (rf_lst (rf_cons rf_int rf_nil)))) rf_int) rf_nil)))) rf_next)
      (rf_seq (rf_asg (rf_cb rfc_len (rf_cons (rf_call0 (rf_cons rf_var rf_nil)) rf_nil)) (rfg_name (vs := [2]) (by decide)))
      (rf_ret (rf_if (rf_test (rf_op rfo_cmp rf_var rf_int)) (rf_tup (rf_cons rf_str (rf_cons rf_str (rf_cons rf_var (rf_cons rf_int rf_nil))))) rf_non)))))
theorem c__law_told (T : Txt P K mg a) : Cal P w K mg base 4 "_law_told" ["_law_answers"] (spM K (kap a) 1 f__law_told) := by
  obtain ⟨fd, F, b⟩ := T.F__law_told
  refine ⟨_, _, F.ok sc__law_told (spM_len rfl) (fun cdv A outer s H us Q E hr h => ?_), T.g__law_told, F.kp, b⟩
  exact fin_of (E := E) (N := N__law_told) (m := b__law_told) (pss_one (ps_try_asM rfl rfl sc__law_told.nd takes_none5 (fun W pn xe tk pw => (pss_one (ps_ret (pe_tup (pa_cons pe_str (pa_cons (pe_callX (c_answer_set T) hr tk (pa_cons (pv 0) pa_nil)) pa_nil))))))
      (HdsA.cons (i := 1) ⟨by rfl, by decide, .inl T.g_BadAnswers⟩ rfl rfl (fun xa oe cls d pn hz hd => (pss_one (ps_ret (pe_tup (pa_cons pe_str (pa_cons (pe_xf T.xf_BadAnswers T.na_BadAnswers_index hz hd (pv 1)) pa_nil)))))) (HdsA.cons (i := 1) ⟨by rfl, by decide, .inl T.g_TooMany⟩ rfl rfl (fun xa oe cls d pn hz hd => (pss_one (ps_ret (pe_tup (pa_cons pe_str (pa_cons (pe_xf T.xf_TooMany T.na_TooMany_what hz hd (pv 1)) (pa_cons (pe_xf T.xf_TooMany T.na_TooMany_many hz hd (pv 1)) (pa_cons (pe_xf T.xf_TooMany T.na_TooMany_most hz hd (pv 1)) pa_nil)))))))) HdsA.nil))))
    (rf_try0 (mb := (mRet (mTup (mCons (mC (.str ("set" : Str))) (mCons (mCall 1 f_answer_set (mCons (mVar 0) mNil)) mNil))))) (cls := [⟨"BadAnswers", (some 1), fun xa d cn => (mRet (mTup (mCons (mC (.str ("answers" : Str))) (mCons (mXf xa d cn "BadAnswers" "index" (mVar 1)) mNil))))⟩, ⟨"TooMany", (some 1), fun xa d cn => (mRet (mTup (mCons (mC (.str ("many" : Str))) (mCons (mXf xa d cn "TooMany" "what" (mVar 1)) (mCons (mXf xa d cn "TooMany" "many" (mVar 1)) (mCons (mXf xa d cn "TooMany" "most" (mVar 1)) mNil))))))⟩]) (so T) (cl_cons "BadAnswers" (by decide) (cl_cons "TooMany" (by decide) cl_nil)) (fun _ => (rf_ret (rf_tup (rf_cons rf_str (rf_cons (rf_callW (rf_cons rf_var rf_nil)) rf_nil))))) (RfCl.cons (c := "BadAnswers") (i := (some 1)) (fun xa cls d cn hcl => (rf_ret (rf_tup (rf_cons rf_str (rf_cons (rf_xf rfl hcl rf_var) rf_nil))))) (RfCl.cons (c := "TooMany") (i := (some 1)) (fun xa cls d cn hcl => (rf_ret (rf_tup (rf_cons rf_str (rf_cons (rf_xf rfl hcl rf_var) (rf_cons (rf_xf rfl hcl rf_var) (rf_cons (rf_xf rfl hcl rf_var) rf_nil))))))) RfCl.nil)))
    (by unfold f__law_told at h; exact h)
theorem c__law_limit (T : Txt P K mg a) : Cal P w K mg base 6 "_law_limit" ["_law_letters_here", "_law_kind", "_law_answers", "_law_letter"] (spM K (kap a) 4 f__law_limit) := by
  obtain ⟨fd, F, b⟩ := T.F__law_limit
  refine ⟨_, _, F.ok sc__law_limit (spM_len rfl) (fun cdv A outer s H us Q E hr h => ?_), T.g__law_limit, F.kp, b⟩
  exact fin_of (E := E) (N := N__law_limit) (m := b__law_limit) (pss_one (ps_try_asM rfl rfl sc__law_limit.nd takes_none5 (fun W pn xe tk pw => (pss_one (ps_ret (pe_makeX (c_Limit T) hr tk (pa_cons (pe_makeX (c_Letters T) hr tk (pa_cons (pv 0) pa_nil)) (pa_cons (pv 1) (pa_cons (pv 2) (pa_cons (pv 3) pa_nil))))))))
      (HdsA.consN ⟨by rfl, by decide, .inl T.g_BadKind⟩ (fun xa oe cls d pn hz hd => (pss_one (ps_ret (pe_tup (pa_cons pe_str pa_nil))))) (HdsA.cons (i := 4) ⟨by rfl, by decide, .inl T.g_BadAnswers⟩ rfl rfl (fun xa oe cls d pn hz hd => (pss_one (ps_ret (pe_tup (pa_cons pe_str (pa_cons (pe_xf T.xf_BadAnswers T.na_BadAnswers_index hz hd (pv 4)) pa_nil)))))) (HdsA.cons (i := 4) ⟨by rfl, by decide, .inl T.g_TooMany⟩ rfl rfl (fun xa oe cls d pn hz hd => (pss_one (ps_ret (pe_tup (pa_cons pe_str (pa_cons (pe_xf T.xf_TooMany T.na_TooMany_what hz hd (pv 4)) (pa_cons (pe_xf T.xf_TooMany T.na_TooMany_many hz hd (pv 4)) (pa_cons (pe_xf T.xf_TooMany T.na_TooMany_most hz hd (pv 4)) pa_nil)))))))) (HdsA.cons (i := 4) ⟨by rfl, by decide, .inl T.g_BadLetter⟩ rfl rfl (fun xa oe cls d pn hz hd => (pss_one (ps_ret (pe_tup (pa_cons pe_str (pa_cons (pe_xf T.xf_BadLetter T.na_BadLetter_index hz hd (pv 4)) pa_nil)))))) HdsA.nil))))))
    (rf_try0 (mb := (mRet (mMake 5 f_Limit___init__ [] (mCons (mMake 2 f_Letters___init__ [] (mCons (mVar 0) mNil)) (mCons (mVar 1) (mCons (mVar 2) (mCons (mVar 3) mNil))))))) (cls := [⟨"BadKind", none, fun xa d cn => (mRet (mTup (mCons (mC (.str ("kind" : Str))) mNil)))⟩, ⟨"BadAnswers", (some 4), fun xa d cn => (mRet (mTup (mCons (mC (.str ("answers" : Str))) (mCons (mXf xa d cn "BadAnswers" "index" (mVar 4)) mNil))))⟩, ⟨"TooMany", (some 4), fun xa d cn => (mRet (mTup (mCons (mC (.str ("many" : Str))) (mCons (mXf xa d cn "TooMany" "what" (mVar 4)) (mCons (mXf xa d cn "TooMany" "many" (mVar 4)) (mCons (mXf xa d cn "TooMany" "most" (mVar 4)) mNil))))))⟩, ⟨"BadLetter", (some 4), fun xa d cn => (mRet (mTup (mCons (mC (.str ("letter" : Str))) (mCons (mXf xa d cn "BadLetter" "index" (mVar 4)) mNil))))⟩]) (so T) (cl_cons "BadKind" (by decide) (cl_cons "BadAnswers" (by decide) (cl_cons "TooMany" (by decide) (cl_cons "BadLetter" (by decide) cl_nil)))) (fun _ => (rf_ret (rf_makeW (c := "Limit") rfl Dft.nil (rf_cons (rf_makeW (c := "Letters") rfl Dft.nil (rf_cons rf_var rf_nil)) (rf_cons rf_var (rf_cons rf_var (rf_cons rf_var rf_nil))))))) (RfCl.cons (c := "BadKind") (i := none) (fun xa cls d cn hcl => (rf_ret (rf_tup (rf_cons rf_str rf_nil)))) (RfCl.cons (c := "BadAnswers") (i := (some 4)) (fun xa cls d cn hcl => (rf_ret (rf_tup (rf_cons rf_str (rf_cons (rf_xf rfl hcl rf_var) rf_nil))))) (RfCl.cons (c := "TooMany") (i := (some 4)) (fun xa cls d cn hcl => (rf_ret (rf_tup (rf_cons rf_str (rf_cons (rf_xf rfl hcl rf_var) (rf_cons (rf_xf rfl hcl rf_var) (rf_cons (rf_xf rfl hcl rf_var) rf_nil))))))) (RfCl.cons (c := "BadLetter") (i := (some 4)) (fun xa cls d cn hcl => (rf_ret (rf_tup (rf_cons rf_str (rf_cons (rf_xf rfl hcl rf_var) rf_nil))))) RfCl.nil)))))
    (by unfold f__law_limit at h; exact h)
theorem c__law_limit_due (T : Txt P K mg a) : Cal P w K mg base 3 "_law_limit_due" ["_law_letters_here", "_law_kind", "_law_answers", "_law_letter"] (spM K (kap a) 4 f__law_limit_due) := by
  obtain ⟨fd, F, b⟩ := T.F__law_limit_due
  refine ⟨_, _, F.ok sc__law_limit_due (spM_len rfl) (fun cdv A outer s H us Q E hr h => ?_), T.g__law_limit_due, F.kp, b⟩
  refine ⟨_, (pss_cons (ps_if (PW.pt (pw_or (pt_not (pt_val (pe_callB (call_isiA (K := K)) (by rfl) T.n_isinstance (by decide +kernel) (pa_cons (pv 1) (pa_cons (pe_bty "str" T.n_str (by decide +kernel)) pa_nil))))) (pw_or1 (pt_cmpR (op_notInA (K := K) (units65 hr)) (pv 1) (pe_tup (pa_cons pe_str (pa_cons pe_str (pa_cons pe_str pa_nil)))) (by rfl))))) (pss_one (ps_ret (pe_tup (pa_cons pe_str pa_nil)))) pss_nil)
      (pss_cons (ps_if (pt_cmpR op_isNotA (pe_callC (c__law_due T) hr (pa_cons (pv 2) pa_nil)) pe_non (by rfl)) (pss_one (ps_ret (pe_callC (c__law_due T) hr (pa_cons (pv 2) pa_nil)))) pss_nil)
      (pss_cons (ps_set (i := 4) sc__law_limit_due.nd rfl (by first | exact Or.inl rfl | exact Or.inr rfl) (pe_ifExp (pt_cmpR (op_eqA (K := K) hr.units) (pv 1) pe_str (by rfl)) (pe_and (pe_callB (call_isiA (K := K)) (by rfl) T.n_isinstance (by decide +kernel) (pa_cons (pv 3) (pa_cons (pe_bty "str" T.n_str (by decide +kernel)) pa_nil))) (pe_one (pe_cmpR (op_inA (K := K) (units65 hr)) (pv 3) (pv 0) (by rfl)))) (pe_cmpR op_isA (pv 3) pe_non (by rfl))))
      (pss_one (ps_ret (pe_ifExp (pt_val (pv 4)) pe_non (pe_tup (pa_cons pe_str (pa_cons pe_int pa_nil))))))))), body_of (N := N__law_limit_due) (m := b__law_limit_due) ?_ (by unfold f__law_limit_due at h; exact h)⟩
  exact (rf_seq (rf_ifS (rf_orT (rf_notT (rf_tB (rf_cb (rfc_isi (kt T)) (rf_cons rf_var (rf_cons (rf_c (d := .ty "str") fun _ => rfl) rf_nil))))) (rf_test (rf_op rfo_notIn rf_var (rf_tup (rf_cons rf_str (rf_cons rf_str (rf_cons rf_str rf_nil))))))) (rf_ret (rf_tup (rf_cons rf_str rf_nil))) rf_next)
      (rf_seq (rf_ifS (rf_test (rf_op rfo_is (rf_call0 (rf_cons rf_var rf_nil)) rf_non)) (rf_ret (rf_call0 (rf_cons rf_var rf_nil))) rf_next)
      (rf_seq (rf_asg (rf_if (rf_test (rf_op rfo_eq rf_var rf_str)) (rf_andV (rf_cb (rfc_isi (kt T)) (rf_cons rf_var (rf_cons (rf_c (d := .ty "str") fun _ => rfl) rf_nil))) (rf_op rfo_in rf_var rf_var)) (rf_op rfo_is rf_var rf_non)) (rfg_name (vs := [4]) (by decide)))
      (rf_ret (rf_if (rf_tB rf_var) rf_non (rf_tup (rf_cons rf_str (rf_cons rf_int rf_nil))))))))
theorem c__law_is_right (T : Txt P K mg a) : CalG P w K mg base 6 "_law_is_right" ["_law_made", "_law_letters_here", "_law_kind", "_law_answers", "_law_letter"] (spM K (kap a) 5 f__law_is_right) := by
  obtain ⟨fd, F, b⟩ := T.F__law_is_right
  refine ⟨_, _, okG0 F sc__law_is_right (spM_len rfl) (fun cdv A outer s H us Q E gd hr h => ?_), T.g__law_is_right, F.kp, b⟩
  refine ⟨_, (pss_cons (ps_set (i := 5) sc__law_is_right.nd rfl (by first | exact Or.inl rfl | exact Or.inr rfl) (pe_lst (pa_cons (pv 2) (pa_cons (pe_callC (c__law_set T) hr (pa_cons (pv 3) pa_nil)) (pa_cons (pv 4) pa_nil)))))
      (pss_cons (ps_set (i := 6) sc__law_is_right.nd rfl (by first | exact Or.inl rfl | exact Or.inr rfl) (pe_op (op_addA (K := K)) (pe_lc (own := [("_law_part", 10)]) (by rfl) sc__law_is_right.nd (pi_seqA (K := K) (pe_lst (pa_cons (pv 2) (pa_cons (pv 4) pa_nil)))) (blkOk_by (own := [("_law_part", 10)]) (N := N__law_is_right) (sc := defScope s__law_is_right) (by decide +kernel)) (fun _ _ _ _ _ => (pg_name (i := 10) sc__law_is_right.nd rfl (by first | exact Or.inl rfl | exact Or.inr rfl))) (fun _ _ _ _ _ => pts_one (pt_cmpR op_isNotA (pv 10) pe_non (by rfl))) (fun _ _ _ _ _ => (pv 10))) (pe_callTy (call_listA (K := K)) (by rfl) T.n_list (by decide +kernel) (pa_cons (pe_callC (c__law_set T) hr (pa_cons (pv 3) pa_nil)) pa_nil))))
      (pss_cons (ps_set (i := 7) sc__law_is_right.nd rfl (by first | exact Or.inl rfl | exact Or.inr rfl) (pe_and (pe_cmpR (op_eqA (K := K) hr.units) (pe_callB (call_reprDK (K := K) gd hr.units) (by rfl) T.n_repr (by decide +kernel) (pa_cons (pe_lst (pa_cons (pe_fldK (K := K) (pv 0) rfl) (pa_cons (pe_fldK (K := K) (pv 0) rfl) (pa_cons (pe_fldK (K := K) (pv 0) rfl) pa_nil)))) pa_nil)) (pe_callB (call_reprDK (K := K) gd hr.units) (by rfl) T.n_repr (by decide +kernel) (pa_cons (pv 5) pa_nil)) (by rfl)) (pe_one (pe_cmpR (op_eqOwn (c_Letters___eq__ T) hr) (pe_fldK (K := K) (pv 0) rfl) (pe_makeX0 (c_Letters T) hr (pa_cons (pv 1) pa_nil)) (by rfl)))))
      (pss_cons (ps_set (i := 8) sc__law_is_right.nd rfl (by first | exact Or.inl rfl | exact Or.inr rfl) (pe_makeX0 (c_Limit T) hr (pa_cons (pe_makeX0 (c_Letters T) hr (pa_cons (pv 1) pa_nil)) (pa_cons (pv 2) (pa_cons (pe_op (op_addA (K := K)) (pe_revL (pv 3)) (pv 3)) (pa_cons (pv 4) pa_nil))))))
      (pss_cons (ps_set (i := 9) sc__law_is_right.nd rfl (by first | exact Or.inl rfl | exact Or.inr rfl) (pe_makeX0 (c_Limit T) hr (pa_cons (pe_makeX0 (c_Letters T) hr (pa_cons (pe_op (op_addA (K := K)) (pv 1) (pe_lst (pa_cons (pe_callC (c__law_free T) hr (pa_cons (pv 1) pa_nil)) pa_nil))) pa_nil)) (pa_cons (pv 2) (pa_cons (pv 3) (pa_cons (pv 4) pa_nil))))))
      (pss_one (ps_ret (pe_and (pv 7) (pe_and (pe_cmpR (op_eqA (K := K) hr.units) (pe_callTy (call_strOwn (c_Limit___str__ T) hr) (by rfl) T.n_str (by decide +kernel) (pa_cons (pv 0) pa_nil)) (pe_join pe_str (pv 6)) (by rfl)) (pe_and (pe_cmpR (op_eqOwn (c_Limit___eq__ T) hr) (pv 0) (pv 8) (by rfl)) (pe_and (pe_not (pe_cmpR (op_neOwn T.ne_Limit (c_Limit___eq__ T) hr) (pv 0) (pv 8) (by rfl))) (pe_one (pe_cmpR (op_neOwn T.ne_Limit (c_Limit___eq__ T) hr) (pv 0) (pv 9) (by rfl)))))))))))))), body_of (N := N__law_is_right) (m := b__law_is_right) ?_ (by unfold f__law_is_right at h; exact h)⟩
  exact (rf_seq (rf_asg (rf_val (rf_lst (rf_cons rf_var (rf_cons (rf_call0 (rf_cons rf_var rf_nil)) (rf_cons rf_var rf_nil))))) (rfg_name (vs := [5]) (by decide)))
      (rf_seq (rf_asg (rf_op rfo_add (rf_val (rf_lc (vs := [10]) (rf_iSeq (rf_val (rf_lst (rf_cons rf_var (rf_cons rf_var rf_nil))))) (rfg_name (vs := [10]) (by decide)) (rf_test (rf_op rfo_is rf_var rf_non)) rf_var)) (rf_val (rf_cbN rfcn_list (rf_cons (rf_call0 (rf_cons rf_var rf_nil)) rf_nil)))) (rfg_name (vs := [6]) (by decide)))
      (rf_seq (rf_asg (rf_andV (rf_op rfo_eq (rf_cb rfc_repr (rf_cons (rf_val (rf_lst (rf_cons (rf_fld (fl_kind T) rf_var) (rf_cons (rf_fld (fl_answers T) rf_var) (rf_cons (rf_fld (fl_letter T) rf_var) rf_nil))))) rf_nil)) (rf_cb rfc_repr (rf_cons rf_var rf_nil))) (rf_op (rfo_eqOwn rfl) (rf_fld (fl_letters T) rf_var) (rf_make0 rfl Dft.nil (rf_cons rf_var rf_nil)))) (rfg_name (vs := [7]) (by decide)))
      (rf_seq (rf_asg (rf_make0 rfl Dft.nil (rf_cons (rf_make0 rfl Dft.nil (rf_cons rf_var rf_nil)) (rf_cons rf_var (rf_cons (rf_op rfo_add (rf_val (rf_rev rf_var)) rf_var) (rf_cons rf_var rf_nil))))) (rfg_name (vs := [8]) (by decide)))
      (rf_seq (rf_asg (rf_make0 rfl Dft.nil (rf_cons (rf_make0 rfl Dft.nil (rf_cons (rf_op rfo_add rf_var (rf_val (rf_lst (rf_cons (rf_call0 (rf_cons rf_var rf_nil)) rf_nil)))) rf_nil)) (rf_cons rf_var (rf_cons rf_var (rf_cons rf_var rf_nil))))) (rfg_name (vs := [9]) (by decide)))
      (rf_ret (rf_andV rf_var (rf_andV (rf_op rfo_eq (rf_cb (rfc_strOwn rfl) (rf_cons rf_var rf_nil)) (rf_join rf_str rf_var)) (rf_andV (rf_op (rfo_eqOwn rfl) rf_var rf_var) (rf_andV (rf_notV (rf_op (rfo_eqOwn rfl) rf_var rf_var)) (rf_op (rfo_eqOwn rfl) rf_var rf_var)))))))))))

end
local macro_rules | `(tactic| walk_at "mi1") => `(tactic| with_reducible (first
  | refine m_seq ?_ | refine m_next ?_ | refine m_ifS ?_ | refine m_drop ?_ | refine m_asg ?_ | refine m_asgN ?_ | refine m_ret ?_ | refine m_retN ?_ | refine m_for ?_ | refine m_kFor ?_ | refine m_par ?_ | refine m_par3 ?_
  | refine m_setF ?_ | refine m_raise ?_ | refine m_raise0 ?_ | refine m_c ?_ | refine m_nil ?_ | refine m_cons ?_ | refine m_op ?_ | refine m_un ?_ | refine m_cb ?_ | refine m_tup ?_ | refine m_lst ?_ | refine m_fld ?_
  | refine m_test ?_ | refine m_kTest ?_ | refine m_notT ?_ | refine m_andT ?_ | refine m_orT ?_ | refine m_ifT ?_ | refine m_if ?_ | refine m_andV ?_ | refine m_kAndV ?_ | refine m_orV ?_ | refine m_kOrV ?_ | refine m_notV ?_ | refine m_kNotV ?_
  | refine m_chain ?_ | refine m_kCh ?_ | refine m_true ?_ | refine m_false ?_ | refine m_addI ?_ | refine m_subI ?_ | refine m_neg ?_ | refine m_cmp ?_ | refine m_eqI ?_ | refine m_eqS ?_ | refine m_neI ?_ | refine m_neS ?_ | refine m_eqNS ?_ | refine m_eqSN ?_ | refine m_eqNN ?_
  | refine m_isN ?_ | refine m_isS ?_ | refine m_isT ?_ | refine m_noP ?_ | refine m_part ?_ | refine m_kPart ?_ | refine m_sl ?_ | refine m_int ?_ | refine m_intB ?_ | refine m_abs ?_ | refine m_twoI ?_ | refine m_tupleF ?_ | refine m_tupleT ?_ | refine m_join ?_ | refine m_kJoin ?_ | refine m_tupIx ?_
  | refine m_call ?_ | refine m_call0 ?_ | refine m_make ?_ | refine m_make0 ?_ | refine m_run ?_ | refine m_iSeq ?_ | refine m_kSeqL ?_ | refine m_kSeqT ?_ | refine m_kSeqF ?_ | refine m_kSeqB ?_ | refine m_kSeqO ?_ | refine m_kSeqS ?_ | refine m_rng1 ?_ | refine m_enum ?_ | refine m_kEnL ?_ | refine m_kEnB ?_ | refine m_kEnT ?_ | refine m_kEnF ?_ | refine m_yes ?_ | refine m_makeN ?_ | refine m_makeN0 ?_ | refine m_meth ?_ | refine m_meth0 ?_ | refine m_prop ?_ | refine m_kPr ?_ | refine m_cm0 ?_ | refine m_lstIx ?_ | refine m_lc2 ?_ | refine m_kLc2 ?_ | refine m_lc ?_ | refine m_kLc ?_
  | refine m_gNil ?_ | refine m_gCons ?_))
local macro_rules | `(tactic| walk_at "mi2") => `(tactic| first
  | ((with_reducible show Mi.mVar _ _ _ _ _); first | refine m_var rfl ?_ | refine m_var (by assumption) ?_)
  | ((with_reducible show Mi.mGName _ _ _ _ _); refine m_gName ?_ rfl)
  | ((with_reducible show Mi.mGTup _ _ _ _ _ _); first | refine m_gTup ?_ rfl | refine m_gFtp ?_ rfl | refine m_gLst ?_ rfl)
  | ((with_reducible show Mi.kRet _ _ _); refine m_kRet rfl ?_)
  | ((with_reducible show Mi.qv _ _ _); refine m_qv ?_ rfl)
  | ((with_reducible show Mi.kBox _ _ _ _); refine m_kBox ?_ rfl (by first | (show _ ≤ 100000; decide) | (simp; done)))
  | ((with_reducible show Mi.kFld _ _ _ _ _); first | refine m_kFld rfl ?_ (by decide) | refine m_kFldB rfl ?_ (by decide))
  | ((with_reducible show Mi.kSetF _ _ _ _ _ _ _); refine m_kSetF rfl ?_ (by decide) (Nat.le_of_ble_eq_true rfl) rfl)
  | ((with_reducible show Mi.mMakeNL _ _ _ _ _ _ _ _ _ _ _ _); refine m_makeNL rfl ?_)
  | ((with_reducible show Mi.kMe _ _ _ _ _ _ _ _ _ _ _); refine m_kMe rfl ?_)
  | ((with_reducible show Mi.kPar _ _ _ _ _ _); refine m_kPar ?_ rfl rfl)
  | ((with_reducible show Mi.kPar3 _ _ _ _ _ _ _); refine m_kPar3 ?_ rfl rfl rfl)
  | ((with_reducible show Mi.fLen _ _ _); first | refine m_lenL ?_ rfl | refine m_lenT ?_ rfl)
  | ((with_reducible show Mi.fIsi _ _ _ _); refine m_isi rfl rfl (by decide) ?_)
  | ((with_reducible show ite _ _ _); first | refine m_tr (by decide +kernel) ?_ | refine m_fa (by decide +kernel) ?_)
  | ((with_reducible show _ = _ ∧ _); refine m_len ?_ rfl))
local macro_rules | `(tactic| walk_at "mi") => `(tactic| ((repeat (first | walk_at "mi1" | walk_at "mi2"))))

local macro_rules | `(tactic| walk_at "mz1") => `(tactic| with_reducible (first
  | refine m_addW ?_ | refine m_add0 ?_ | refine m_cm ?_ | refine m_disp ?_ | refine m_psNil ?_ | refine m_psCons ?_ | refine m_try ?_ | refine m_try0 ?_ | refine m_xf ?_ | refine m_isiT ?_ | refine m_upper ?_))
local macro_rules | `(tactic| walk_at "mz2") => `(tactic| first
  | ((with_reducible show Mi.kIsT _ _ _ _ _ _); refine m_kIsT rfl (by decide) (by decide) ?_)
  | ((with_reducible show Mi.kXf _ _ _ _ _ _ _ _); refine m_kXf (by first | assumption | (rename_i hds; exact hds rfl)) rfl ?_))
local macro_rules | `(tactic| walk_at "mz") => `(tactic| ((repeat (first | walk_at "mi1" | walk_at "mz1" | walk_at "mi2" | walk_at "mz2"))))

section
variable {S : Sto} {q : DK} {x : XM} {z : Str} {zs ys : List Str}
theorem blsD_of : ∀ bs : List Bool, blsD (bs.map D.bl) = some bs
  | [] => rfl
  | b :: t => by rw [List.map_cons]; show (blsD (t.map D.bl)).map (b :: ·) = _; rw [blsD_of t]; rfl
theorem signs_all (z : Str) (L : List Nat) : ((signsD z).map fun d => match d with
    | .str y => D.bl (decide (y.cps.toList.getD 0 0 ∈ L))
    | d => d) = (z.cps.toList.map fun c => decide (c ∈ L)).map D.bl := by
  unfold signsD
  rw [List.map_map, List.map_map]
  rfl
theorem v_is_word (hl : z.length ≤ 1000) (h : q (.bl (isWordB z)) S) : f_is_word [.str z] S q x := by
  unfold f_is_word
  refine m_run ?_
  walk_at "mi"
  refine m_lenS (by omega) ?_
  walk_at "mi"
  have bad : isWordB z = false → mRet (mC (.bl false)) (List.map some [D.str z] ++ nones (2 - [D.str z].length)) S ⟨fun η S => mNext η S ⟨fun _ _ => False, fun _ _ => False, fun _ _ => False, fun _ _ => False, fun _ _ _ => False⟩, q, fun _ _ => False, fun _ _ => False, fun e _ S => x e S⟩ := fun e => by
    refine m_ret (m_c (m_kRet rfl ?_))
    rw [← e]; exact h
  refine m_two (fun h1 => ?_) (fun h1 => ?_)
  · walk_at "mi"
    refine m_two (fun h2 => ?_) (fun h2 => ?_)
    · have e : isWordB z = false := by
        unfold isWordB
        have h2' : (12 : Int) < z.length := by simpa using h2
        have : ¬ z.length ≤ 12 := by omega
        simp [this]
      rw [e] at h
      walk_at "mi"
      exact h
    · have l1 : 1 ≤ z.length := by have := of_decide_eq_true h1; omega
      have l2 : z.length ≤ 12 := by
        have : decide ((z.length : Int) ≤ 12) = true := by simpa using h2
        have := of_decide_eq_true this; omega
      have hl := len_cps z
      obtain ⟨c, r, ec⟩ : ∃ c r, z.cps.toList = c :: r := by
        cases e : z.cps.toList with
        | nil => rw [e] at hl; simp at hl; omega
        | cons c r => exact ⟨c, r, rfl⟩
      have e : isWordB z = (decide (c ∈ smallS.cps.toList) && z.cps.toList.all fun c => decide (c ∈ signsS.cps.toList)) := by
        unfold isWordB
        rw [decide_eq_true l1, decide_eq_true l2, ec]
        simp
      rw [e] at h
      walk_at "mi"
      refine m_ixS (by omega) (n := c) (atI_zero ec) ?_
      walk_at "mi"
      refine m_inC ?_
      walk_at "mi"
      refine m_two (fun h3 => ?_) (fun h3 => ?_)
      · have h3 : decide (c ∈ smallS.cps.toList) = true := h3
        rw [h3, Bool.true_and] at h
        walk_at "mi"
        refine lcL_map (fun d => match d with
          | .str y => D.bl (decide (y.cps.toList.getD 0 0 ∈ signsS.cps.toList))
          | d => d) ?_ ?_ ?_ ?_
        · unfold signsD; rw [List.length_map, hl]; omega
        · intro d hd
          unfold signsD at hd
          obtain ⟨n, _, rfl⟩ := List.mem_map.mp hd
          rfl
        · intro d hd nx el hn
          unfold signsD at hd
          obtain ⟨n, _, rfl⟩ := List.mem_map.mp hd
          walk_at "mi"
          refine m_inC ?_
          exact hn
        · rw [signs_all]
          walk_at "mi"
          refine m_bls (blsD_of _) ?_
          walk_at "mi"
          rw [List.all_map] at *
          exact h
      · have h3 : decide (c ∈ smallS.cps.toList) = false := h3
        rw [h3, Bool.false_and] at h
        walk_at "mi"
        exact h
  · have e : isWordB z = false := by
      unfold isWordB
      have : ¬ 1 ≤ z.length := by have := of_decide_eq_false h1; omega
      rw [decide_eq_false this]; simp
    rw [e] at h
    walk_at "mi"
    exact h
theorem v_is_beginning (h : q (.bl (isBegB z)) S) : f_is_beginning [.str z] S q x := by
  unfold f_is_beginning
  refine m_run ?_
  walk_at "mi"
  refine m_inS (zs := ["new", "found"]) ?_
  walk_at "mi"
  have e : (decide (z ∈ [("new" : Str), "found"])) = isBegB z := by
    unfold isBegB
    rw [Bool.eq_iff_iff]
    simp
  rw [e]
  exact h
theorem v_is_letter (hl : z.length ≤ 1000) (h : q (.bl (isLetterB z)) S)  : f_is_letter [.str z] S q x := by
  unfold f_is_letter
  refine m_run ?_
  walk_at "mi"
  refine m_slS (by omega) ?_
  walk_at "mi"
  have c1 := cutS_length z (some 1) none
  have fin : ∀ (y : Str), bareS z = y → y.length ≤ 1000 → f_is_word [.str y] S (qv (kAndV (mNotV (mCall0 1 f_is_beginning (mCons (mVar 1) mNil))) [some (.str z), some (.str y)] (kRet q) (fun e S => x e S))) (fun _ _ => False) := fun y e l => by
    have e2 : isLetterB z = (isWordB y && !isBegB y) := by unfold isLetterB; rw [e]
    rw [e2] at h
    refine v_is_word l ?_
    walk_at "mi"
    refine m_two (fun h3 => ?_) (fun h3 => ?_)
    · rw [h3, Bool.true_and] at h
      walk_at "mi"
      refine v_is_beginning ?_
      walk_at "mi"
      exact h
    · rw [h3, Bool.false_and] at h
      walk_at "mi"
      exact h
  refine m_two (fun h3 => ?_) (fun h3 => ?_)
  · walk_at "mi"
    refine m_slS (by omega) ?_
    walk_at "mi"
    refine fin _ ?_ (by omega)
    have := of_decide_eq_true h3
    unfold bareS
    rw [this]
    exact if_pos (decide_eq_true rfl)
  · walk_at "mi"
    refine fin _ ?_ (by omega)
    have := of_decide_eq_false h3
    unfold bareS
    exact if_neg fun q => this (V.str.inj (of_decide_eq_true q))
abbrev letD (zs : List Str) : D := .obj "Letters" [("words", .ftp (zs.map D.str))]
theorem v_Letters___contains__ (h : q (.bl (decide (z ∈ zs))) S) : f_Letters___contains__ [letD zs, .str z] S q x := by
  unfold f_Letters___contains__
  refine m_run ?_
  walk_at "mi"
  refine m_inS ?_
  walk_at "mi"
  exact h
/-- a value that is none of the letters -/
inductive NoL (zs : List Str) : D → Prop
  | non : NoL zs .non
  | bl (b : Bool) : NoL zs (.bl b)
  | int (i : Int) : NoL zs (.int i)
  | lst (ds : List D) : NoL zs (.lst ds)
  | tup (ds : List D) : NoL zs (.tup ds)
  | dic (ks : List (Key × D)) : NoL zs (.dic ks)
  | str (z : Str) (h : z ∉ zs) : NoL zs (.str z)
theorem NoL.val {d : D} (h : NoL zs d) : d.val = true := by cases h <;> rfl
theorem NoL.arg {d : D} (h : NoL zs d) : argD d = d := by cases h <;> rfl
theorem v_Letters___contains__X {d : D} (hd : NoL zs d) (h : q (.bl false) S) : f_Letters___contains__ [letD zs, d] S q x := by
  unfold f_Letters___contains__
  refine m_run ?_
  cases hd with
  | str z hz =>
    walk_at "mi"
    refine m_inS (zs := zs) ?_
    rw [decide_eq_false hz]
    walk_at "mi"
    exact h
  | _ =>
    walk_at "mi"
    exact h
/-- a row of letters that Letters takes -/
structure LetOk (ws : List Str) : Prop where
  one : 1 ≤ ws.length
  most : ws.length ≤ 12
  ok : ∀ x ∈ ws, isLetterB x = true
  short : ∀ x ∈ ws, x.length ≤ 1000
  nd : ws.Nodup
  so : ∀ x ∈ ws, PyData.strOk x = true
theorem enum_at {ds : List D} {i : Nat} {d : D} (h : (enumD ds)[i]? = some d) : ∃ e, ds[i]? = some e ∧ d = .tup [.int (i : Nat), e] := by
  have hi := (List.getElem?_eq_some_iff.mp h).1
  rw [enum_len] at hi
  have e := enum_get (ds := ds) (i := i) (d := ds[i]) (by simp [hi])
  rw [e] at h
  cases h
  exact ⟨ds[i], by simp [hi], rfl⟩
theorem cutD_to {ds : List D} {i : Nat} (h : i ≤ ds.length) : cutD ds none (some (i : Int)) = ds.take i := by
  unfold cutD
  rw [HT.sIx_none, HT.sIx_nat, Nat.min_eq_left h]
  simp
theorem strs_at {zs : List Str} {i : Nat} {e : D} (h : (zs.map D.str)[i]? = some e) : ∃ z, zs[i]? = some z ∧ e = .str z := by
  rw [List.getElem?_map] at h
  cases q : zs[i]? with
  | none => rw [q] at h; cases h
  | some z => rw [q] at h; cases h; exact ⟨z, rfl, rfl⟩
def TupLst (d : D) (ds : List D) : Prop := d = .lst ds ∨ d = .ftp ds
theorem v_Letters___init__ {d : D} (O : LetOk zs) (hd : TupLst d (zs.map D.str)) (h : q (letD zs) S) : f_Letters___init__ [d] S q x := by
  unfold f_Letters___init__
  intro a0
  have h1 := O.one
  have h2 := O.most
  have loop : ∀ (nx : Nv → Sto → Prop) (u v : Option D) (rt : D → Sto → Prop) (ex : Exn → Nv → Sto → Prop), (∀ u v, nx [some (.own (some a0) (.obj "Letters" [])), some d, u, v] S) →
      forL (mGTup 2 (mGCons (mGName 2) (mGCons (mGName 3) mGNil))) (mIfS (mOrT (mNotT (mTest (mCall0 1 f_is_letter (mCons (mVar 3) mNil)))) (mTest (mOp (fIn id) (mVar 3) (mSl (mVar 1) mNoP (mPart (mVar 2)))))) (mRaise "BadLetters" 1 [("index", 0)] [0] (mCons (mVar 2) mNil)) mNext)
        (enumD (zs.map D.str)) [some (.own (some a0) (.obj "Letters" [])), some d, u, v] S ⟨nx, rt, fun _ _ => False, fun _ _ => False, ex⟩ := by
    intro nx u v rt ex hn
    refine forL_ind (fun i η S' => (∃ u v, η = [some (.own (some a0) (.obj "Letters" [])), some d, u, v]) ∧ S' = S) ⟨⟨u, v, rfl⟩, rfl⟩ (fun i e η S' nx' hi hv hnx => ?_) (fun η S' hv => ?_)
    · obtain ⟨⟨u, v, rfl⟩, rfl⟩ := hv
      obtain ⟨e1, he, rfl⟩ := enum_at hi
      obtain ⟨y, hy, rfl⟩ := strs_at he
      have hil : i < zs.length := (List.getElem?_eq_some_iff.mp hy).1
      have hm := List.mem_of_getElem? hy
      walk_at "mi"
      refine v_is_letter (O.short y hm) ?_
      rw [O.ok y hm]
      walk_at "mi"
      have fin : id (decide (y ∈ zs.take i)) = false := by
        refine decide_eq_false fun hin => ?_
        obtain ⟨j, hj, e⟩ := List.getElem_of_mem hin
        rw [List.length_take] at hj
        rw [List.getElem_take] at e
        obtain ⟨hi2, e2⟩ := List.getElem?_eq_some_iff.mp hy
        exact absurd (e.trans e2.symm) (List.pairwise_iff_getElem.mp O.nd j i (by omega) hi2 (by omega))
      have nxt : nx' [some (.own (some a0) (.obj "Letters" [])), some d, some (.int i), some (.str y)] S' := hnx _ _ ⟨⟨_, _, rfl⟩, rfl⟩
      rcases hd with rfl | rfl
      · refine m_slL (xs := zs.map D.str) ?_ rfl
        rw [cutD_to (by simp; omega), ← List.map_take]
        refine m_inS ?_ rfl (.inr rfl)
        rw [fin]
        walk_at "mi"
        exact nxt
      · refine m_slT (xs := zs.map D.str) ?_ rfl
        rw [cutD_to (by simp; omega), ← List.map_take]
        refine m_inS ?_ rfl (.inl rfl)
        rw [fin]
        walk_at "mi"
        exact nxt
    · obtain ⟨⟨u, v, rfl⟩, rfl⟩ := hv
      exact hn u v
  have hl : ∀ (k : DK), k (.int (zs.length : Nat)) S → fLen [d] S k := fun k hk => by
    rcases hd with rfl | rfl
    · refine m_lenL (xs := zs.map D.str) ?_ rfl; rw [List.length_map]; exact hk
    · refine m_lenT (xs := zs.map D.str) ?_ rfl; rw [List.length_map]; exact hk
  have he : ∀ (k : Bool → List D → Sto → Prop), k true (enumD (zs.map D.str)) S → kEn k [d] S := fun k hk => by
    rcases hd with rfl | rfl
    · exact m_kEnL hk
    · exact m_kEnF hk
  have ht : ∀ (k : DK), k (.ftp (zs.map D.str)) S → fTuple [d] S k := fun k hk => by
    rcases hd with rfl | rfl
    · exact m_tupleL hk rfl
    · exact m_tupleF hk
  have hno : d.nown = true := by rcases hd with rfl | rfl <;> rfl
  clear hd
  refine m_seq ?_
  walk_at "mi"
  refine hl _ ?_
  walk_at "mi"
  refine m_fa (decide_eq_false (by omega)) ?_
  walk_at "mi"
  refine hl _ ?_
  walk_at "mi"
  refine m_fa (decide_eq_false (by omega)) ?_
  walk_at "mi"
  refine he _ ?_
  walk_at "mi"
  refine loop _ none none _ _ fun u v => ?_
  walk_at "mi"
  refine ht _ ?_
  walk_at "mi"
  refine ⟨_, rfl, rfl, ?_⟩
  exact h
theorem v_Letters___eq__ (O : ∀ z ∈ zs, PyData.strOk z = true) (O2 : ∀ z ∈ ys, PyData.strOk z = true) (h : q (.bl (decide (zs = ys))) S) : f_Letters___eq__ [letD zs, letD ys] S q x := by
  unfold f_Letters___eq__
  refine m_run ?_
  walk_at "mi"
  refine m_eqTS O O2 ?_
  walk_at "mi"
  exact h
end
section
variable {S : Sto} {q : DK} {x : XM} {z b : Str} {zs ys w : List Str} {B : Nat}
theorem v_draw {m : Int} (hB : B < 1000000000) (m0 : 0 < m) (m1 : m ≤ 1000000000) (h : ∀ r, 0 ≤ r → r < m → q (.int r) [.pen (B + 1)]) : fDraw [.cel 0, .int m] [.pen B] q x := ⟨0, m, B, rfl, rfl, hB, m0, m1, h⟩
theorem v_pick {ds : List D} (hB : B < 900000000) (h0 : 0 < ds.length) (h1 : ds.length ≤ 1000) (h : ∀ d ∈ ds, q d [.pen (B + 1)]) (hv : ∀ d ∈ ds, unown d = some d) : f__law_pick [.cel 0, .lst ds] [.pen B] q x := by
  unfold f__law_pick
  refine m_run ?_
  walk_at "mi"
  refine v_draw (by omega) (by omega) (by omega) fun r r0 r1 => ?_
  walk_at "mi"
  obtain ⟨v, hm, _, ha⟩ := atI_int (xs := ds) r0 r1
  refine m_ixL ha ?_ rfl
  refine m_kRet (hv v hm) ?_
  exact h v hm
theorem v_pickS (hB : B < 900000000) (h0 : 0 < zs.length) (h1 : zs.length ≤ 1000) (h : ∀ z ∈ zs, q (.str z) [.pen (B + 1)]) : f__law_pick [.cel 0, .lst (zs.map D.str)] [.pen B] q x := by
  refine v_pick hB (by simpa using h0) (by simpa using h1) (fun d hd => ?_) (fun d hd => ?_)
  · obtain ⟨z, hz, rfl⟩ := List.mem_map.mp hd
    exact h z hz
  · obtain ⟨z, hz, rfl⟩ := List.mem_map.mp hd
    rfl
theorem v_pickC (hB : B < 900000000) (h0 : 0 < z.length) (h1 : z.length ≤ 1000) (h : ∀ c ∈ z.cps.toList, q (.str ⟨#[c]⟩) [.pen (B + 1)]) : f__law_pick [.cel 0, .str z] [.pen B] q x := by
  unfold f__law_pick
  refine m_run ?_
  walk_at "mi"
  refine m_lenS (by omega) ?_
  walk_at "mi"
  refine v_draw (by omega) (by omega) (by omega) fun r r0 r1 => ?_
  walk_at "mi"
  have hl := len_cps z
  obtain ⟨v, hm, _, ha⟩ := atI_int (xs := z.cps.toList) r0 (by rw [hl]; exact r1)
  refine m_ixS (by omega) ha ?_
  walk_at "mi"
  exact h v hm
theorem rng_nown {n i : Nat} {d : D} (h : (rngD 0 n)[i]? = some d) : d.nown = true := by
  unfold rngD at h
  rw [List.getElem?_map] at h
  cases q : (List.range n)[i]? with
  | none => rw [q] at h; cases h
  | some y => rw [q] at h; cases h; rfl
theorem rng_len (n : Nat) : (rngD 0 n).length = n := by simp [rngD]
/-! ### values of all sorts that are no letter -/
def oddF (zs : List Str) : D → Option D
  | .str z => if z ∈ zs then none else some (.str z)
  | d => some d
/-- what is filtered: nothing that a def alone holds -/
inductive Kin : D → Prop
  | non : Kin .non
  | bl (b : Bool) : Kin (.bl b)
  | int (i : Int) : Kin (.int i)
  | lst (ds : List D) : Kin (.lst ds)
  | tup (ds : List D) : Kin (.tup ds)
  | dic (ks : List (Key × D)) : Kin (.dic ks)
  | str (z : Str) : Kin (.str z)
theorem odd_no {d z : D} (k : Kin d) (h : oddF zs d = some z) : NoL zs z := by
  cases k with
  | non => cases h; exact .non
  | bl b => cases h; exact .bl b
  | int b => cases h; exact .int b
  | lst b => cases h; exact .lst b
  | tup b => cases h; exact .tup b
  | dic b => cases h; exact .dic b
  | str y =>
    unfold oddF at h
    split at h
    · rename_i u e
      cases e
      by_cases c : y ∈ zs
      · rw [if_pos c] at h; cases h
      · rw [if_neg c] at h; cases h; exact .str y c
    · rename_i e; exact absurd rfl (e y)
theorem NoL.un {d : D} (h : NoL zs d) : unown d = some d := by cases h <;> rfl
theorem odd_lc {η : Nv} {ds : List D} {q : List D → Sto → Prop} (h1 : η[1]? = some (some (.lst (zs.map D.str)))) (h6 : 6 < η.length) (hk : ∀ d ∈ ds, Kin d) (hl : ds.length ≤ 100) (h : q (ds.filterMap (oddF zs)) S) :
    lcL (mGName 6) (mNotT (mAndT (mTest (mCB (fIsi kpr) (mCons (mVar 6) (mCons (mC (.ty "str")) mNil)))) (mTest (mOp (fIn id) (mVar 6) (mVar 1))))) (mVar 6) η ds [] S q := by
  refine lcL_fm (oddF zs) (by omega) (fun d hd z e => (odd_no (hk d hd) e).val) (fun d hd nx el n1 n2 => ?_) h
  have v6 : (η.set 6 (some d))[6]? = some (some d) := List.getElem?_set_self h6
  have v1 : (η.set 6 (some d))[1]? = some (some (.lst (zs.map D.str))) := by rw [List.getElem?_set_ne (by decide)]; exact h1
  have k := hk d hd
  refine m_gName ?_ (by cases k <;> rfl)
  cases k with
  | str y =>
    walk_at "mz"
    refine m_inS (zs := zs) ?_
    walk_at "mz"
    refine m_two (fun c => ?_) (fun c => ?_)
    · have c : ¬ y ∈ zs := fun e => by rw [show id (decide (y ∈ zs)) = true from decide_eq_true e] at c; cases c
      walk_at "mz"
      exact n1 _ (by show (if y ∈ zs then none else some (D.str y)) = _; rw [if_neg c])
    · have c : y ∈ zs := by
        cases e : decide (y ∈ zs) with
        | true => exact of_decide_eq_true e
        | false => rw [show id (decide (y ∈ zs)) = false from e] at c; cases c
      exact n2 (by show (if y ∈ zs then none else some (D.str y)) = _; rw [if_pos c])
  | _ =>
    walk_at "mz"
    exact n1 _ rfl
abbrev oddS : Str := "abcdefghijklmnopqrstuvwxyz0123456789~_ A"
theorem odd_len : oddS.length = 40 := by decide +kernel
theorem v__law_odd (O : LetOk zs) (hB : B < 800000000) (h : ∀ d B', NoL zs d → B' ≤ B + 3 → q d [.pen B']) : f__law_odd [.cel 0, .lst (zs.map D.str)] [.pen B] q x := by
  have z0 := O.one
  have z1 := O.most
  unfold f__law_odd
  refine m_run ?_
  walk_at "mz"
  refine v_pickS (by omega) (by omega) (by omega) fun one ho => ?_
  have lo := O.short one ho
  walk_at "mz"
  refine v_pickC (by omega) (by rw [odd_len]; decide) (by rw [odd_len]; decide) fun c hc => ?_
  walk_at "mz"
  have l1 : (⟨#[c]⟩ : Str).length = 1 := rfl
  refine m_addS (by rw [l1]; omega) ?_
  walk_at "mz"
  refine m_kPs rfl ?_ mono_var
  walk_at "mz"
  refine ⟨rfl, ?_⟩
  walk_at "mz"
  refine ⟨by show 1 ≤ 15; decide, ?_⟩
  walk_at "mz"
  refine m_slS (by omega) ?_
  walk_at "mz"
  refine m_kUp (by omega) ?_
  walk_at "mz"
  refine m_addS (by rw [tilde_len]; omega) ?_
  walk_at "mz"
  generalize hI : [D.non, .bl true, .int 0, .int 1, .lst [.str one], .tup [.str one], .dic (mergeD [] [(Sum.inr one, .str one)]), .str "", .str "new", .str "found", .str (one ++ ⟨#[c]⟩), .str (cutS one (some 1) none), .str (Txt.upper one), .str ("~" ++ one)] = its
  have kin : ∀ d ∈ its, Kin d := fun d hd => by
    rw [← hI] at hd
    simp only [List.mem_cons, List.not_mem_nil, or_false] at hd
    rcases hd with rfl | rfl | rfl | rfl | rfl | rfl | rfl | rfl | rfl | rfl | rfl | rfl | rfl | rfl
    · exact .non
    · exact .bl _
    · exact .int _
    · exact .int _
    · exact .lst _
    · exact .tup _
    · exact .dic _
    all_goals exact .str _
  have il : its.length = 14 := by rw [← hI]; rfl
  have i0 : D.non ∈ its.filterMap (oddF zs) := List.mem_filterMap.mpr ⟨.non, by rw [← hI]; exact List.mem_cons_self, rfl⟩
  walk_at "mz"
  refine odd_lc rfl (by show 6 < 7; decide) kin (by omega) ?_
  walk_at "mz"
  have fl : (its.filterMap (oddF zs)).length ≤ 14 := by have := List.length_filterMap_le (oddF zs) its; omega
  have no : ∀ d ∈ its.filterMap (oddF zs), NoL zs d := fun d hd => by
    obtain ⟨a, ha, e⟩ := List.mem_filterMap.mp hd
    exact odd_no (kin a ha) e
  refine v_pick (by omega) (List.length_pos_of_mem i0) (by omega) (fun d hd => ?_) (fun d hd => (no d hd).un)
  have N := no d hd
  refine m_qv ?_ N.val
  refine m_kRet N.un ?_
  exact h d _ N (by omega)
end




section
variable {S : Sto} {q : DK} {x : XM} {z b : Str} {zs ys w ws : List Str} {tl : List D} {B : Nat}
/-! ### the ascending row without doubles -/
def insS (found : List Str) (a : Str) : List Str := if a ∈ found then found else found.filter (fun o => decide (o.cps.toList < a.cps.toList)) ++ [a] ++ found.drop (found.filter fun o => decide (o.cps.toList < a.cps.toList)).length
def setS (ws : List Str) : List Str := ws.foldl insS []
theorem split_lt {a : Str} : ∀ {l : List Str}, l.Pairwise LtS → l.drop (l.filter fun o => decide (o.cps.toList < a.cps.toList)).length = l.filter fun o => !decide (o.cps.toList < a.cps.toList)
  | [], _ => rfl
  | y :: t, h => by
    obtain ⟨h1, h2⟩ := List.pairwise_cons.mp h
    by_cases c : y.cps.toList < a.cps.toList
    · rw [List.filter_cons_of_pos (by simpa using c), List.length_cons, List.drop_succ_cons, split_lt h2, List.filter_cons_of_neg (by simpa using c)]
    · have all : ∀ u ∈ t, ¬ u.cps.toList < a.cps.toList := fun u hu k => c (List.lt_trans (h1 u hu) k)
      have e1 : (y :: t).filter (fun o => decide (o.cps.toList < a.cps.toList)) = [] := by
        rw [List.filter_eq_nil_iff]
        intro u hu
        rcases List.mem_cons.mp hu with e | e
        · rw [e]; simpa using c
        · simpa using all u e
      have e2 : (y :: t).filter (fun o => !decide (o.cps.toList < a.cps.toList)) = y :: t := by
        rw [List.filter_eq_self]
        intro u hu
        rcases List.mem_cons.mp hu with e | e
        · rw [e]; simpa using c
        · simpa using all u e
      rw [e1, e2]; rfl
theorem insS_mem {l : List Str} {a k : Str} (h : l.Pairwise LtS) : k ∈ insS l a ↔ k ∈ l ∨ k = a := by
  unfold insS
  split
  · rename_i c
    exact ⟨.inl, fun k => k.elim id fun e => e ▸ c⟩
  · rw [split_lt h]
    simp only [List.mem_append, List.mem_filter, List.mem_singleton, Bool.not_eq_true', decide_eq_false_iff_not, decide_eq_true_eq]
    constructor
    · rintro ((⟨h, _⟩ | h) | ⟨h, _⟩)
      · exact .inl h
      · exact .inr h
      · exact .inl h
    · rintro (h | h)
      · by_cases c : k.cps.toList < a.cps.toList
        · exact .inl (.inl ⟨h, c⟩)
        · exact .inr ⟨h, c⟩
      · exact .inl (.inr h)
theorem insS_up {l : List Str} {a : Str} (h : l.Pairwise LtS) : (insS l a).Pairwise LtS := by
  unfold insS
  split
  · exact h
  · rename_i c
    rw [split_lt h, List.pairwise_append, List.pairwise_append]
    refine ⟨⟨h.filter _, List.pairwise_singleton _ _, fun u hu v hv => ?_⟩, h.filter _, fun u hu v hv => ?_⟩
    · rw [List.mem_singleton] at hv
      rw [hv]
      exact of_decide_eq_true (List.mem_filter.mp hu).2
    · obtain ⟨v1, v2⟩ := List.mem_filter.mp hv
      have v2 : ¬ LtS v a := by simpa using v2
      have av : LtS a v := not_ltS v2 fun e => c (e ▸ v1)
      rcases List.mem_append.mp hu with k | k
      · exact List.lt_trans (of_decide_eq_true (List.mem_filter.mp k).2 : LtS u a) av
      · rw [List.mem_singleton] at k; rw [k]; exact av
theorem set_srt_ : ∀ (ws l : List Str), l.Pairwise LtS → (ws.foldl insS l).Pairwise LtS ∧ ∀ k, k ∈ ws.foldl insS l ↔ k ∈ l ∨ k ∈ ws
  | [], l, h => ⟨h, fun k => by simp⟩
  | y :: t, l, h => by
    obtain ⟨h1, h2⟩ := set_srt_ t (insS l y) (insS_up h)
    refine ⟨h1, fun k => ?_⟩
    rw [List.foldl_cons, h2, insS_mem h, List.mem_cons, or_assoc]
theorem set_srt (ws : List Str) : Srt (setS ws) ws := ⟨(set_srt_ ws [] List.Pairwise.nil).1, fun k => by rw [setS, (set_srt_ ws [] List.Pairwise.nil).2]; simp⟩
theorem srt_one {zs : List Str} (h : Srt zs ws) : zs = setS ws := rise_one h.up (set_srt ws).up fun k => (h.mem k).trans ((set_srt ws).mem k).symm
theorem set_same (h : ∀ k, k ∈ ws ↔ k ∈ ys) : setS ws = setS ys := rise_one (set_srt ws).up (set_srt ys).up fun k => ((set_srt ws).mem k).trans ((h k).trans ((set_srt ys).mem k).symm)
theorem insS_len (l : List Str) (a : Str) : (insS l a).length ≤ l.length + 1 := by
  unfold insS
  split
  · omega
  · have := List.length_filter_le (fun o : Str => decide (o.cps.toList < a.cps.toList)) l
    simp only [List.length_append, List.length_singleton, List.length_drop]
    omega
theorem set_len (ws : List Str) : (setS ws).length ≤ ws.length := by
  have : ∀ (ws l : List Str), (ws.foldl insS l).length ≤ l.length + ws.length := by
    intro ws
    induction ws with
    | nil => intro l; exact Nat.le_refl _
    | cons y t ih =>
      intro l
      have h1 := ih (insS l y)
      have h2 := insS_len l y
      rw [List.foldl_cons, List.length_cons]
      omega
  simpa [setS] using this ws []
theorem m_cmpS {fi : Int → Int → Bool} {fs : List Nat → List Nat → Bool} {y : Str} (h : q (.bl (fs z.cps.toList y.cps.toList)) S) : fCmp fi fs (.str z) (.str y) S q := h
theorem cutD_from (ds : List D) (n : Nat) : cutD ds (some (n : Int)) none = ds.drop n := by
  unfold cutD
  rw [HT.sIx_none, HT.sIx_nat]
  by_cases h : n ≤ ds.length
  · rw [Nat.min_eq_left h]
    exact List.take_of_length_le (by rw [List.length_drop]; exact Nat.le_refl _)
  · rw [Nat.min_eq_right (by omega), List.drop_of_length_le (Nat.le_refl _), List.drop_of_length_le (by omega)]; simp
theorem cutD_first (ds : List D) (n : Nat) : cutD ds none (some (n : Int)) = ds.take n := by
  unfold cutD
  rw [HT.sIx_none, HT.sIx_nat]
  by_cases h : n ≤ ds.length
  · rw [Nat.min_eq_left h]; simp
  · rw [Nat.min_eq_right (by omega), List.take_of_length_le (by omega : ds.length ≤ n)]; simp
def ltF (y : Str) : D → Option D
  | .str u => if u.cps.toList < y.cps.toList then some (.str u) else none
  | d => some d
theorem ltF_str (y u : Str) : ltF y (.str u) = if u.cps.toList < y.cps.toList then some (.str u) else none := rfl
theorem ltF_all (y : Str) : ∀ found : List Str, (found.map D.str).filterMap (ltF y) = (found.filter fun o => decide (o.cps.toList < y.cps.toList)).map D.str
  | [] => rfl
  | o :: t => by
    rw [List.map_cons, List.filterMap_cons, ltF_str, List.filter_cons, ltF_all y t]
    by_cases k : o.cps.toList < y.cps.toList
    · rw [if_pos k, if_pos (by simpa using k)]; rfl
    · rw [if_neg k, if_neg (by simpa using k)]
theorem v__law_set (hl : ws.length ≤ 1000) (h : q (.ftp ((setS ws).map D.str)) S) : f__law_set [.lst (ws.map D.str)] S q x := by
  unfold f__law_set
  refine m_run ?_
  walk_at "mz"
  refine forL_ind (fun i η S' => (∃ u v w, η = [some (.lst (ws.map D.str)), some (.lst ((setS (ws.take i)).map D.str)), u, v, w]) ∧ S' = S) ⟨⟨none, none, none, rfl⟩, rfl⟩ (fun i e η S' nx' hi hv hnx => ?_) (fun η S' hv => ?_)
  · obtain ⟨⟨u, v, w, rfl⟩, rfl⟩ := hv
    obtain ⟨y, hy, rfl⟩ := strs_at hi
    have st : setS (ws.take (i + 1)) = insS (setS (ws.take i)) y := by unfold setS; rw [take_snoc hy, List.foldl_append]; rfl
    have sl := set_len (ws.take i)
    rw [List.length_take] at sl
    generalize setS (ws.take i) = found at st sl ⊢
    walk_at "mz"
    refine m_inS (zs := found) ?_ rfl (.inr rfl)
    walk_at "mz"
    refine m_two (fun c => ?_) (fun c => ?_)
    · have c : y ∉ found := fun k => by rw [show (!decide (y ∈ found)) = false by simp [k]] at c; cases c
      walk_at "mz"
      refine lcL_fm (ltF y) ?_ ?_ ?_ ?_
      · rw [List.length_map]; omega
      · intro d hd r e
        obtain ⟨u, _, rfl⟩ := List.mem_map.mp hd
        rw [ltF_str] at e
        split at e
        · cases e; rfl
        · cases e
      · intro d hd nx el n1 n2
        obtain ⟨u, _, rfl⟩ := List.mem_map.mp hd
        walk_at "mz"
        refine m_cmpS ?_
        walk_at "mz"
        refine m_two (fun k => ?_) (fun k => ?_)
        · walk_at "mz"
          exact n1 _ (if_pos (of_decide_eq_true k))
        · exact n2 (if_neg (of_decide_eq_false k))
      rw [ltF_all]
      have fl := List.length_filter_le (fun o : Str => decide (o.cps.toList < y.cps.toList)) found
      generalize eL : (found.filter fun o => decide (o.cps.toList < y.cps.toList)) = less at fl
      walk_at "mz"
      refine m_addL (by rw [List.length_map, List.length_singleton]; omega) ?_
      walk_at "mz"
      rw [List.length_map]
      refine m_slL (xs := found.map D.str) ?_ rfl
      rw [cutD_from, ← List.map_drop]
      refine m_addL (by rw [List.length_append, List.length_map, List.length_singleton, List.length_map, List.length_drop]; omega) ?_
      walk_at "mz"
      refine hnx _ _ ⟨⟨some (.str y), some (.lst (less.map D.str)), w, ?_⟩, rfl⟩
      have e2 : less.map D.str ++ [D.str y] ++ (found.drop less.length).map D.str = (insS found y).map D.str := by
        unfold insS
        rw [if_neg c, eL]
        simp
      rw [st, ← e2]; rfl
    · have c : y ∈ found := by
        cases k : decide (y ∈ found) with
        | true => exact of_decide_eq_true k
        | false => rw [k] at c; cases c
      walk_at "mz"
      refine hnx _ _ ⟨⟨some (.str y), v, w, ?_⟩, rfl⟩
      rw [st, show insS found y = found from if_pos c]; rfl
  · obtain ⟨⟨u, v, w, rfl⟩, rfl⟩ := hv
    rw [List.length_map, List.take_length]
    walk_at "mz"
    refine m_tupleL (xs := (setS ws).map D.str) ?_ rfl
    walk_at "mz"
    exact h
/-! ### answers -/
inductive OddA : D → Prop
  | non : OddA .non
  | bl (b : Bool) : OddA (.bl b)
  | int (i : Int) (h : i.natAbs.log2 < 1000) : OddA (.int i)
  | tup (z : Str) (so : PyData.strOk z = true) (l : z.length ≤ 100) : OddA (.tup [.str z])
  | lst (z : Str) (so : PyData.strOk z = true) (l : z.length ≤ 100) : OddA (.lst [.str z])
  | str (z : Str) (w : isWordB z = false) (so : PyData.strOk z = true) (l : z.length ≤ 100) : OddA (.str z)
theorem OddA.val {d : D} (h : OddA d) : d.val = true := by cases h <;> rfl
theorem OddA.nown {d : D} (h : OddA d) : d.nown = true := by cases h <;> rfl
theorem OddA.arg {d : D} (h : OddA d) : argD d = d := by cases h <;> rfl
structure AWd (z : Str) : Prop where
  w : isWordB z = true
  so : PyData.strOk z = true
  l : z.length ≤ 12
structure AnsOk (ws : List Str) (tl : List D) : Prop where
  wd : ∀ w ∈ ws, AWd w
  tail : tl = [] ∨ ∃ (o : D) (ws2 : List Str), tl = o :: ws2.map D.str ∧ OddA o ∧ ∀ w ∈ ws2, AWd w
  len : ws.length + tl.length ≤ 30
theorem v_is_wordX {d : D} (hd : OddA d) (h : q (.bl false) S) : f_is_word [d] S q x := by
  cases hd with
  | str z hw so l =>
    refine v_is_word (by omega) ?_
    rw [hw]; exact h
  | _ =>
    unfold f_is_word
    refine m_run ?_
    walk_at "mz"
    exact h
abbrev xi (c : Str) (i : Int) : Exn := (c, some [("index", .int i)])
abbrev tooAns (n : Nat) : Exn := ("TooMany", some [("most", .int 6), ("many", .int n), ("what", .str "answers")])
theorem fmt_len {n : Nat} (h : n ≤ 10000) : ([0].all fun i => fmtD ([D.int (n : Int)].getD i D.non)) = true := by
  have e : (([0] : List Nat).all fun i => fmtD ([D.int (n : Int)].getD i D.non)) = fmtD (.int n) := by simp
  rw [e]
  show decide ((n : Int).natAbs.log2 < 1000) = true
  refine decide_eq_true ?_
  have h2 : (n : Int).natAbs < 2 ^ 1000 := Nat.lt_of_le_of_lt (show (n : Int).natAbs ≤ 10000 by omega) (by decide +kernel)
  by_cases h0 : (n : Int).natAbs = 0
  · rw [h0]; decide +kernel
  · exact (Nat.log2_lt h0).mpr h2
/-- good answers: their set; else the first that is wrong -/
theorem v_answer_set {d : D} (hd : d = .lst (ws.map D.str ++ tl)) (A : AnsOk ws tl) (h : tl = [] → ws ≠ [] → (setS ws).length ≤ 6 → q (.ftp ((setS ws).map D.str)) S) (hx : tl = [] → ws ≠ [] → 6 < (setS ws).length → x (tooAns (setS ws).length) S)
    (hx2 : (tl ≠ [] ∨ ws = []) → x (xi "BadAnswers" (ws.length : Nat)) S) : f_answer_set [d] S q x := by
  subst hd
  have al := A.len
  unfold f_answer_set
  refine m_run ?_
  walk_at "mz"
  refine m_two (fun c => ?_) (fun c => ?_)
  · have c := of_decide_eq_true c
    rw [List.length_append, List.length_map] at c
    have e1 : ws = [] := List.length_eq_zero_iff.mp (by omega)
    subst e1
    walk_at "mz"
    exact ⟨rfl, rfl, fmt_len (n := 0) (by decide), hx2 (.inr rfl)⟩
  have c := of_decide_eq_false c
  rw [List.length_append, List.length_map] at c
  walk_at "mz"
  refine forL_ind (fun i η S' => (∃ u v, η = [some (.lst (ws.map D.str ++ tl)), none, u, v]) ∧ i ≤ ws.length ∧ S' = S) ⟨⟨none, none, rfl⟩, Nat.zero_le _, rfl⟩ (fun i e η S' nx' hi hv hnx => ?_) (fun η S' hv => ?_)
  · obtain ⟨⟨u, v, rfl⟩, hle, rfl⟩ := hv
    obtain ⟨e1, he, rfl⟩ := enum_at hi
    rcases Nat.lt_or_ge i ws.length with hlt | hge
    · rw [List.getElem?_append_left (by rw [List.length_map]; exact hlt)] at he
      obtain ⟨y, hy, rfl⟩ := strs_at he
      have W := A.wd y (List.mem_of_getElem? hy)
      walk_at "mz"
      refine v_is_word (by have := W.l; omega) ?_
      rw [W.w]
      walk_at "mz"
      exact hnx _ _ ⟨⟨_, _, rfl⟩, by omega, rfl⟩
    · have ei : i = ws.length := by omega
      subst ei
      rw [List.getElem?_append_right (by rw [List.length_map]; exact Nat.le_refl _), List.length_map, Nat.sub_self] at he
      rcases A.tail with e0 | ⟨o, ws2, e0, ho, _⟩
      · rw [e0] at he; simp at he
      · have ne : tl ≠ [] := by rw [e0]; simp
        rw [e0] at he
        simp at he
        subst he
        refine m_gTup ?_ rfl
        refine m_gCons (m_gName (m_gCons (m_gName (m_gNil ?_) ho.nown)) rfl)
        walk_at "mz"
        show f_is_word [argD o] S' _ _
        rw [ho.arg]
        refine v_is_wordX ho ?_
        walk_at "mz"
        exact ⟨rfl, rfl, fmt_len (by omega), hx2 (.inl ne)⟩
  · obtain ⟨⟨u, v, rfl⟩, hle, rfl⟩ := hv
    rw [enum_len, List.length_append, List.length_map] at hle
    have e0 : tl = [] := List.length_eq_zero_iff.mp (by omega)
    subst e0
    have nw : ws ≠ [] := fun e => by rw [e] at c; simp at c
    walk_at "mz"
    refine m_srt ?_
    refine m_var rfl ?_
    rw [List.append_nil]
    refine m_kSrt (ys := ws) (by omega) (fun zs hs zl => ?_) rfl
    rw [srt_one hs] at zl ⊢
    walk_at "mz"
    rw [List.length_map]
    refine m_two (fun k => ?_) (fun k => ?_)
    · have k := of_decide_eq_true k
      walk_at "mz"
      rw [List.length_map]
      walk_at "mz"
      exact ⟨rfl, rfl, (by show (fmtD (.str "answers") && (fmtD (.int 6) && true)) = true; decide +kernel), hx rfl nw (by omega)⟩
    · have k := of_decide_eq_false k
      walk_at "mz"
      refine m_tupleL (xs := (setS ws).map D.str) ?_ rfl
      walk_at "mz"
      exact h rfl nw (by omega)
end




section
variable {S : Sto} {q : DK} {x : XM} {z b : Str} {zs ys w ws : List Str} {tl : List D} {B : Nat}
theorem so_sing {c : Nat} (so : PyData.strOk z = true) (h : c ∈ z.cps.toList) : PyData.strOk ⟨#[c]⟩ = true := by
  unfold PyData.strOk at so ⊢
  rw [Array.all_eq_true_iff_forall_mem] at so
  have := so c (by simpa using h)
  rw [Array.all_eq_true_iff_forall_mem]
  intro d hd
  simp at hd
  rw [hd]; exact this
def notF : D → Option D
  | .str u => if (!decide (u.cps.toList.getD 0 0 ∈ signsS.cps.toList)) = true then some (.str u) else none
  | d => some d
theorem notF_sing (c : Nat) : notF (.str ⟨#[c]⟩) = if (!decide (c ∈ signsS.cps.toList)) = true then some (.str ⟨#[c]⟩) else none := rfl
theorem notF_all : ∀ cs : List Nat, (cs.map fun c => D.str ⟨#[c]⟩).filterMap notF = ((cs.filter fun c => !decide (c ∈ signsS.cps.toList)).map fun c => (⟨#[c]⟩ : Str)).map D.str
  | [] => rfl
  | c :: t => by
    rw [List.map_cons, List.filterMap_cons, notF_sing, List.filter_cons, notF_all t]
    by_cases k : (!decide (c ∈ signsS.cps.toList)) = true
    · rw [if_pos k, if_pos k]; rfl
    · rw [if_neg k, if_neg k]
theorem v__law_is_answer (so : PyData.strOk z = true) (hl : z.length ≤ 100) (h : q (.bl (isWordB z)) S) : f__law_is_answer [.str z] S q x := by
  unfold f__law_is_answer
  refine m_run ?_
  walk_at "mz"
  refine m_lenS (by omega) ?_
  walk_at "mz"
  have hc := len_cps z
  refine m_two (fun h1 => ?_) (fun h1 => ?_)
  · have h1 : (1 : Int) ≤ z.length := of_decide_eq_true h1
    walk_at "mz"
    refine m_two (fun h2 => ?_) (fun h2 => ?_)
    · have h2' : ¬ (z.length : Int) ≤ 12 := by simpa using h2
      have e : isWordB z = false := by
        unfold isWordB
        rw [decide_eq_false (show ¬ z.length ≤ 12 by omega)]; simp
      rw [e] at h
      walk_at "mz"
      exact h
    · have h2' : (z.length : Int) ≤ 12 := by simpa using h2
      obtain ⟨c, r, ec⟩ : ∃ c r, z.cps.toList = c :: r := by
        cases e : z.cps.toList with
        | nil => rw [e] at hc; simp at hc; omega
        | cons c r => exact ⟨c, r, rfl⟩
      have e : isWordB z = (decide (c ∈ smallS.cps.toList) && z.cps.toList.all fun c => decide (c ∈ signsS.cps.toList)) := by
        unfold isWordB
        rw [decide_eq_true (show 1 ≤ z.length by omega), decide_eq_true (show z.length ≤ 12 by omega), ec]
        simp
      rw [e] at h
      walk_at "mz"
      refine m_ixS (by omega) (n := c) (atI_zero ec) ?_
      walk_at "mz"
      refine m_inC ?_
      walk_at "mz"
      refine m_two (fun h3 => ?_) (fun h3 => ?_)
      · have h3 : decide (c ∈ smallS.cps.toList) = true := h3
        rw [h3, Bool.true_and] at h
        walk_at "mz"
        refine lcL_fm notF ?_ ?_ ?_ ?_
        · unfold signsD; rw [List.length_map, hc]; omega
        · intro d hd r e
          unfold signsD at hd
          obtain ⟨n, _, rfl⟩ := List.mem_map.mp hd
          have e : (if (!decide (n ∈ signsS.cps.toList)) = true then some (D.str ⟨#[n]⟩) else none) = some r := e
          split at e
          · cases e; rfl
          · cases e
        · intro d hd nx el n1 n2
          unfold signsD at hd
          obtain ⟨n, _, rfl⟩ := List.mem_map.mp hd
          walk_at "mz"
          refine m_inC ?_
          walk_at "mz"
          refine m_two (fun k => ?_) (fun k => ?_)
          · walk_at "mz"
            exact n1 _ (if_pos k)
          · have k : (!decide (n ∈ signsS.cps.toList)) = false := k
            rw [notF_sing, k] at n2
            exact n2 rfl
        have eS : signsD z = z.cps.toList.map fun c => D.str ⟨#[c]⟩ := rfl
        rw [eS, notF_all]
        generalize eB : (z.cps.toList.filter fun c => !decide (c ∈ signsS.cps.toList)) = bs
        have bso : ∀ y ∈ bs.map fun c => (⟨#[c]⟩ : Str), PyData.strOk y = true := fun y hy => by
          obtain ⟨c, hc, rfl⟩ := List.mem_map.mp hy
          rw [← eB] at hc
          exact so_sing so (List.mem_filter.mp hc).1
        have pl : Pl 2 (.list ((bs.map fun c => (⟨#[c]⟩ : Str)).map PyData.str)) = true := by
          simp only [Pl, List.all_map, List.all_eq_true]
          intro c hc
          exact bso _ (List.mem_map.mpr ⟨c, hc, rfl⟩)
        have eall : (z.cps.toList.all fun c => decide (c ∈ signsS.cps.toList)) = decide (bs = []) := by
          rw [← eB, Bool.eq_iff_iff, decide_eq_true_eq, List.filter_eq_nil_iff]
          simp only [List.all_eq_true, Bool.not_eq_true', decide_eq_true_eq, decide_eq_false_iff_not, Decidable.not_not]
        rw [eall] at h
        walk_at "mz"
        refine m_eqL (toPy_lst (toPyL_strs _)) (toPy_lst (xs := []) rfl) (n := 2) (m := 1) pl rfl (fun k => ?_) (fun k => ?_)
        · have k : bs = [] := by simpa using k
          rw [decide_eq_true k] at h
          walk_at "mz"
          exact h
        · have k : ¬ bs = [] := fun c => k (by rw [c]; rfl)
          rw [decide_eq_false k] at h
          walk_at "mz"
          exact h
      · have h3 : decide (c ∈ smallS.cps.toList) = false := h3
        rw [h3, Bool.false_and] at h
        walk_at "mz"
        exact h
  · have h1 : ¬ (1 : Int) ≤ z.length := of_decide_eq_false h1
    have e : isWordB z = false := by
      unfold isWordB
      rw [decide_eq_false (show ¬ 1 ≤ z.length by omega)]; simp
    rw [e] at h
    walk_at "mz"
    exact h
theorem v__law_is_answerX {d : D} (hd : OddA d) (h : q (.bl false) S) : f__law_is_answer [d] S q x := by
  cases hd with
  | str z hw so l =>
    refine v__law_is_answer so l ?_
    rw [hw]; exact h
  | _ =>
    unfold f__law_is_answer
    refine m_run ?_
    walk_at "mz"
    exact h
/-! data of answers -/
theorem lay_all : ∀ (ps : List PyData) (n : Nat), (∀ p ∈ ps, PyData.canLay0 p = true ∧ PyData.depth p ≤ n) → PyData.canLayAll0 ps = true ∧ PyData.depthAll ps ≤ n
  | [], n, _ => ⟨rfl, Nat.zero_le _⟩
  | p :: t, n, h => by
    obtain ⟨h1, h2⟩ := h p List.mem_cons_self
    obtain ⟨h3, h4⟩ := lay_all t n fun u hu => h u (List.mem_cons_of_mem _ hu)
    refine ⟨?_, ?_⟩
    · simp only [PyData.canLayAll0, h1, h3, Bool.and_self]
    · simp only [PyData.depthAll]; omega
structure ItP (d : D) (p : PyData) : Prop where
  py : toPy d = some p
  sh : ShN p 3 5000
  lay : PyData.canLay0 p = true ∧ PyData.depth p ≤ 3
theorem itp_str (so : PyData.strOk z = true) (hl : z.length ≤ 100) : ItP (.str z) (.str z) := ⟨rfl, (sh_str so).mono (by decide) (by omega), so, by simp [PyData.depth]⟩
theorem OddA.itp {d : D} (h : OddA d) : ∃ p, ItP d p := by
  cases h with
  | non => exact ⟨_, rfl, sh_none.mono (by decide) (by decide), rfl, by simp [PyData.depth]⟩
  | bl b => exact ⟨_, rfl, (sh_bool b).mono (by decide) (by decide), rfl, by simp [PyData.depth]⟩
  | int i hi => exact ⟨_, rfl, (sh_int hi).mono (by decide) (by decide), rfl, by simp [PyData.depth]⟩
  | tup z so l =>
    refine ⟨.tuple [.str z], rfl, (sh_tuple (m := 1) (.cons ((sh_str so).mono (Nat.le_refl _) (show _ ≤ 2000 by omega)) .nil) (by show 1 ≤ 1; decide)).mono (by decide) (by decide), ?_⟩
    obtain ⟨h1, h2⟩ := lay_all [.str z] 1 fun p hp => by rw [List.mem_singleton] at hp; rw [hp]; exact ⟨so, by simp [PyData.depth]⟩
    exact ⟨h1, by simp only [PyData.depth]; omega⟩
  | lst z so l =>
    refine ⟨.list [.str z], rfl, (sh_list (m := 1) (.cons ((sh_str so).mono (Nat.le_refl _) (show _ ≤ 2000 by omega)) .nil) (by show 1 ≤ 1; decide)).mono (by decide) (by decide), ?_⟩
    obtain ⟨h1, h2⟩ := lay_all [.str z] 1 fun p hp => by rw [List.mem_singleton] at hp; rw [hp]; exact ⟨so, by simp [PyData.depth]⟩
    exact ⟨h1, by simp only [PyData.depth]; omega⟩
  | str z hw so l => exact ⟨_, itp_str so l⟩
theorem itp_list : ∀ {ds : List D}, (∀ d ∈ ds, ∃ p, ItP d p) → ∃ ps, toPyL ds = some ps ∧ ps.length = ds.length ∧ ShAll 3 5000 ps ∧ ∀ p ∈ ps, PyData.canLay0 p = true ∧ PyData.depth p ≤ 3
  | [], _ => ⟨[], rfl, rfl, .nil, nofun⟩
  | d :: t, h => by
    obtain ⟨p, I⟩ := h d List.mem_cons_self
    obtain ⟨ps, h1, h2, h3, h4⟩ := itp_list fun u hu => h u (List.mem_cons_of_mem _ hu)
    refine ⟨p :: ps, by rw [toPyL, I.py, h1], by rw [List.length_cons, List.length_cons, h2], .cons I.sh h3, fun u hu => ?_⟩
    rcases List.mem_cons.mp hu with e | e
    · rw [e]; exact I.lay
    · exact h4 u e
theorem AnsOk.items (A : AnsOk ws tl) : ∀ d ∈ ws.map D.str ++ tl, ∃ p, ItP d p := by
  intro d hd
  have wp : ∀ w, AWd w → ∃ p, ItP (.str w) p := fun w W => ⟨_, itp_str W.so (by have := W.l; omega)⟩
  rcases List.mem_append.mp hd with k | k
  · obtain ⟨w, hw, rfl⟩ := List.mem_map.mp k
    exact wp w (A.wd w hw)
  · rcases A.tail with e | ⟨o, ws2, e, ho, h2⟩
    · rw [e] at k; cases k
    · rw [e] at k
      rcases List.mem_cons.mp k with k | k
      · rw [k]; exact ho.itp
      · obtain ⟨w, hw, rfl⟩ := List.mem_map.mp k
        exact wp w (h2 w hw)
theorem AnsOk.py (A : AnsOk ws tl) : ∃ ps, toPy (.lst (ws.map D.str ++ tl)) = some (.list ps) ∧ ps.length = ws.length + tl.length ∧ ShN (.list ps) 40 1000000 ∧ SeqAt.shaped (.list ps) = true := by
  obtain ⟨ps, h1, h2, h3, h4⟩ := itp_list A.items
  have al := A.len
  rw [List.length_append, List.length_map] at h2
  refine ⟨ps, toPy_lst h1, h2, (sh_list (m := 30) h3 (by omega)).mono (by decide) (by decide), ?_⟩
  obtain ⟨h5, h6⟩ := lay_all ps 3 h4
  unfold SeqAt.shaped
  rw [show PyData.canLay0 (.list ps) = true from h5, decide_eq_true (show PyData.depth (.list ps) ≤ 64 by simp only [PyData.depth]; omega)]
  rfl
/-- answers == [] -/
theorem eq_nil (A : AnsOk ws tl) (h : q (.bl (decide (ws = [] ∧ tl = []))) S) : fEq (.lst (ws.map D.str ++ tl)) (.lst []) S q := by
  obtain ⟨ps, h1, h2, _, h4⟩ := A.py
  unfold fEq
  refine ⟨.list ps, .list [], h1, rfl, h4, by decide, ?_⟩
  cases ps with
  | nil =>
    have e1 : ws = [] := List.length_eq_zero_iff.mp (by simp at h2; omega)
    have e2 : tl = [] := List.length_eq_zero_iff.mp (by simp at h2; omega)
    rw [decide_eq_true ⟨e1, e2⟩] at h
    exact h
  | cons p t =>
    have ne : ¬ (ws = [] ∧ tl = []) := fun ⟨e1, e2⟩ => by rw [e1, e2] at h2; simp at h2
    rw [decide_eq_false ne] at h
    exact h
/-! ### what is due of answers -/
def dueO (ws : List Str) (tl : List D) : Option D := if tl.isEmpty = true ∧ ws.isEmpty = false then (if 6 < (setS ws).length then some (.tup [.str "many", .str "answers", .int ((setS ws).length : Nat), .int 6]) else none) else some (.tup [.str "answers", .int (ws.length : Nat)])
theorem dueO_good (h : tl = []) (h2 : ws ≠ []) : dueO ws tl = if 6 < (setS ws).length then some (.tup [.str "many", .str "answers", .int ((setS ws).length : Nat), .int 6]) else none := by
  unfold dueO
  rw [if_pos ⟨by rw [h]; rfl, by cases ws with | nil => exact absurd rfl h2 | cons _ _ => rfl⟩]
theorem dueO_bad (h : tl ≠ [] ∨ ws = []) : dueO ws tl = some (.tup [.str "answers", .int (ws.length : Nat)]) := by
  unfold dueO
  rw [if_neg]
  rintro ⟨h1, h2⟩
  rcases h with h | h
  · exact h (List.isEmpty_iff.mp h1)
  · rw [h] at h2; cases h2
theorem pl_ai {n : Int} : Pl 2 (.tuple [.str "answers", .int n]) = true := by
  show (PyData.strOk "answers" && (true && true)) = true; decide +kernel
theorem pl_many {n : Int} : Pl 2 (.tuple [.str "many", .str "answers", .int n, .int 6]) = true := by
  show (PyData.strOk "many" && (PyData.strOk "answers" && (true && (true && true)))) = true; decide +kernel
/-- a code: a tuple of plain data -/
def Code (d : D) : Prop := ∃ ds p, d = .tup ds ∧ toPy (.tup ds) = some p ∧ Pl 2 p = true
theorem dueO_code {d : D} (h : dueO ws tl = some d) : Code d := by
  unfold dueO at h
  split at h
  · split at h
    · cases h; exact ⟨_, _, rfl, rfl, pl_many⟩
    · cases h
  · cases h; exact ⟨_, _, rfl, rfl, pl_ai⟩
theorem ne_code {d : D} (h : Code d) (k : q (.bl false) S) : fNe d d S q := by
  obtain ⟨ds, p, rfl, h1, h2⟩ := h
  exact m_neT h1 h1 h2 h2 (fun _ => k) (fun c => absurd rfl c) (by decide) (by decide) rfl rfl
theorem v__law_due (A : AnsOk ws tl) (h : q ((dueO ws tl).getD .non) S) : f__law_due [.lst (ws.map D.str ++ tl)] S q x := by
  have al := A.len
  unfold f__law_due
  refine m_run ?_
  walk_at "mz"
  refine m_kR1 (by omega) (by rw [List.length_append, List.length_map]; omega) ?_
  walk_at "mz"
  rw [show (((ws.map D.str ++ tl).length : Nat) : Int).toNat = ws.length + tl.length by rw [List.length_append, List.length_map]; omega]
  refine lcL_ind (fun i acc S' => acc = (if i ≤ ws.length then [] else [D.int (ws.length : Nat)]) ∧ S' = S) ⟨by rw [if_pos (Nat.zero_le _)], rfl⟩ (fun i d acc S' nx hi hv hnx => ?_) (fun acc S' hv => ?_)
  · obtain ⟨rfl, rfl⟩ := hv
    have hil := (List.getElem?_eq_some_iff.mp hi).1
    rw [rng_len] at hil
    have ed : d = .int (i : Nat) := by
      unfold rngD at hi
      rw [List.getElem?_map, List.getElem?_range (by omega)] at hi
      simpa using hi.symm
    subst ed
    obtain ⟨v, hv1, hv2, hv3⟩ := atI_int (xs := ws.map D.str ++ tl) (i := (i : Int)) (by omega) (by rw [List.length_append, List.length_map]; omega)
    rw [show ((i : Nat) : Int).toNat = i by omega] at hv2
    have good : ∀ y, AWd y → v = .str y → i ≠ ws.length → f__law_is_answer [.str y] S' (qv (kTest fun b S2 => if (!b) = true then mVar 3 ([some (D.lst (ws.map D.str ++ tl)), none, none, some (.int (i : Nat))]) S2 (fun e S3 => e.val = true ∧ (if i ≤ ws.length then ([] : List D) else [D.int (ws.length : Nat)]).length < 100000 ∧ nx ((if i ≤ ws.length then [] else [D.int (ws.length : Nat)]) ++ [e]) S3) (fun _ _ => False) else nx (if i ≤ ws.length then [] else [D.int (ws.length : Nat)]) S2)) (fun _ _ => False) := fun y W e ne => by
      refine v__law_is_answer W.so (by have := W.l; omega) ?_
      rw [W.w]
      refine m_qv ?_ rfl
      refine m_kTest (m_fa rfl ?_)
      refine hnx _ _ ⟨?_, rfl⟩
      by_cases c : i ≤ ws.length
      · rw [if_pos c, if_pos (by omega)]
      · rw [if_neg c, if_neg (by omega)]
    walk_at "mz"
    refine m_ixL hv3 ?_ rfl
    rcases Nat.lt_trichotomy i ws.length with hlt | heq | hgt
    · rw [List.getElem?_append_left (by rw [List.length_map]; exact hlt)] at hv2
      obtain ⟨y, hy, rfl⟩ := strs_at hv2
      refine m_nil ⟨rfl, ?_⟩
      exact good y (A.wd y (List.mem_of_getElem? hy)) rfl (by omega)
    · subst heq
      rw [List.getElem?_append_right (by rw [List.length_map]; exact Nat.le_refl _), List.length_map, Nat.sub_self] at hv2
      rcases A.tail with e0 | ⟨o, ws2, e0, ho, _⟩
      · rw [e0] at hv2; simp at hv2
      · rw [e0] at hv2
        simp at hv2
        subst hv2
        refine m_nil ⟨rfl, ?_⟩
        show f__law_is_answer [argD o] S' _ _
        rw [ho.arg]
        refine v__law_is_answerX ho ?_
        walk_at "mz"
        refine ⟨rfl, ?_, hnx _ _ ⟨?_, rfl⟩⟩
        · rw [if_pos (Nat.le_refl _)]; decide
        · rw [if_pos (Nat.le_refl _), if_neg (by omega)]; rfl
    · rw [List.getElem?_append_right (by rw [List.length_map]; omega), List.length_map] at hv2
      rcases A.tail with e0 | ⟨o, ws2, e0, ho, h2⟩
      · rw [e0] at hv2; simp at hv2
      · rw [e0, show i - ws.length = (i - ws.length - 1) + 1 by omega, List.getElem?_cons_succ] at hv2
        obtain ⟨y, hy, rfl⟩ := strs_at hv2
        refine m_nil ⟨rfl, ?_⟩
        exact good y (h2 y (List.mem_of_getElem? hy)) rfl (by omega)
  · obtain ⟨rfl, rfl⟩ := hv
    rw [rng_len]
    walk_at "mz"
    refine eq_nil A ?_
    walk_at "mz"
    have pw : ∀ l : List Int, Pl 2 (.list (l.map PyData.int)) = true := fun l => by simp [Pl, List.all_map]
    refine m_two (fun c => ?_) (fun c => ?_)
    · obtain ⟨rfl, rfl⟩ : ws = [] ∧ tl = [] := of_decide_eq_true c
      rw [dueO_bad (.inr rfl)] at h
      walk_at "mz"
      refine m_addL (by decide) ?_
      walk_at "mz"
      refine m_ixL (v := .int 0) (by rfl) ?_ rfl
      walk_at "mz"
      exact h
    · have c : ¬ (ws = [] ∧ tl = []) := of_decide_eq_false c
      by_cases ht : tl = []
      · subst ht
        have nw : ws ≠ [] := fun e => c ⟨e, rfl⟩
        rw [List.length_nil, Nat.add_zero, if_pos (Nat.le_refl _)]
        walk_at "mz"
        refine m_neL (toPy_lst (xs := []) rfl) (toPy_lst (xs := []) rfl) (n := 1) (m := 1) rfl rfl (fun _ => ?_) (fun k => absurd rfl k)
        walk_at "mz"
        rw [dueO_good rfl nw] at h
        have sl := set_len ws
        rw [List.append_nil]
        refine v__law_set (by omega) ?_
        walk_at "mz"
        rw [List.length_map]
        refine m_two (fun k => ?_) (fun k => ?_)
        · have k := of_decide_eq_true k
          rw [if_pos (by omega)] at h
          walk_at "mz"
          exact h
        · have k := of_decide_eq_false k
          rw [if_neg (by omega)] at h
          walk_at "mz"
          exact h
      · have tp : 0 < tl.length := List.length_pos_iff.mpr ht
        rw [if_neg (by omega)]
        rw [dueO_bad (.inl ht)] at h
        walk_at "mz"
        refine m_neL (toPy_lst (vs := [.int (ws.length : Nat)]) rfl) (toPy_lst (xs := []) rfl) (n := 2) (m := 1) (by simp [Pl]) rfl (fun k => absurd k (by simp)) (fun _ => ?_)
        walk_at "mz"
        refine m_addL (by show 1 + 1 ≤ 100000; decide) ?_
        walk_at "mz"
        refine m_ixL (v := .int (ws.length : Nat)) (by rfl) ?_ rfl
        walk_at "mz"
        exact h
theorem v__law_told (A : AnsOk ws tl) (h : dueO ws tl = none → q (.tup [.str "set", .ftp ((setS ws).map D.str)]) S) (h2 : ∀ d, dueO ws tl = some d → q d S) : f__law_told [.lst (ws.map D.str ++ tl)] S q x := by
  have al := A.len
  unfold f__law_told
  refine m_run ?_
  walk_at "mz"
  refine v_answer_set rfl A (fun e1 e2 e3 => ?_) (fun e1 e2 e3 => ?_) (fun e => ?_)
  · walk_at "mz"
    exact h (by rw [dueO_good e1 e2, if_neg (by omega)])
  · refine m_hdNo (by decide) (by decide) (m_hdN (by decide) (by decide) fun a dd hds => ?_)
    have hds := hds rfl
    walk_at "mz"
    exact h2 _ (by rw [dueO_good e1 e2, if_pos e3])
  · refine m_hdN (by decide) (by decide) fun a dd hds => ?_
    have hds := hds rfl
    walk_at "mz"
    exact h2 _ (dueO_bad e)
theorem nd_le : ∀ (xs ws : List Str), xs.Nodup → (∀ x ∈ xs, x ∈ ws) → xs.length ≤ ws.length
  | [], _, _, _ => Nat.zero_le _
  | x :: xs, ws, h, m => by
    obtain ⟨h1, h2⟩ := List.nodup_cons.mp h
    have ih := nd_le xs (ws.erase x) h2 fun y hy => (List.mem_erase_of_ne (fun q : y = x => h1 (by rw [← q]; exact hy))).mpr (m y (List.mem_cons_of_mem _ hy))
    have mx := m x (List.mem_cons_self ..)
    rw [List.length_erase_of_mem mx] at ih
    have : 0 < ws.length := List.length_pos_of_mem mx
    simp only [List.length_cons]
    omega
def qz (i : Nat) : Str := "~q" ++ Str.ofString (toString (0 + (i : Int)))
def qzs : List Str := (List.range 13).map qz
theorem qz_ok : (qzs.all fun z => isLetterB z && PyData.strOk z && decide (z.length ≤ 100)) = true ∧ qzs.Nodup := by decide +kernel
theorem v__law_free (big : zs.length ≤ 12) (h : ∀ z, z ∉ zs → isLetterB z = true → PyData.strOk z = true → z.length ≤ 100 → q (.str z) S) : f__law_free [.lst (zs.map D.str)] S q x := by
  unfold f__law_free
  refine m_run ?_
  walk_at "mi"
  refine m_kR1 (by decide) (by decide) ?_
  walk_at "mi"
  refine lcL_map (fun d => match d with
    | .int n => .str ("~q" ++ Str.ofString (toString n))
    | d => d) ?_ ?_ ?_ ?_
  · show 13 ≤ 100000; decide
  · intro d hd
    obtain ⟨i, _, rfl⟩ := List.mem_map.mp hd
    rfl
  · intro d hd nx el hn
    obtain ⟨i, hi, rfl⟩ := List.mem_map.mp hd
    have hi : i < 13 := List.mem_range.mp hi
    have l1 : ((0 : Int) + (i : Nat)).natAbs.log2 < 1000 := log2_lt (by omega)
    have l2 := int_text_length_le (k := 1000) (by decide) l1
    walk_at "mi"
    refine m_strI (by omega) ?_
    refine m_addS ?_ ?_
    · rw [show (Str.ofString (toString ((0 : Int) + (i : Nat)))).length = (toString ((0 : Int) + (i : Nat))).length from PySem.ofString_length _]
      exact Nat.le_trans (show _ ≤ 2000 by show 2 + _ ≤ 2000; omega) (by decide)
    · exact hn
  have e1 : (rngD 0 13).map (fun d => match d with
    | .int n => D.str ("~q" ++ Str.ofString (toString n))
    | d => d) = qzs.map D.str := by
    unfold rngD qzs
    rw [List.map_map, List.map_map]; rfl
  show kSeq _ (.lst ((rngD 0 13).map _)) S
  rw [e1]
  walk_at "mi"
  refine lcL_fm (fun d => match d with
    | .str y => if y ∈ zs then none else some (.str y)
    | d => none) ?_ ?_ ?_ ?_
  · show 13 ≤ 100000; decide
  · intro d hd z e
    obtain ⟨y, _, rfl⟩ := List.mem_map.mp hd
    have e : (if y ∈ zs then none else some (D.str y)) = some z := e
    split at e
    · cases e
    · cases e; rfl
  · intro d hd nx el h1 h2
    obtain ⟨y, _, rfl⟩ := List.mem_map.mp hd
    walk_at "mi"
    refine m_inS ?_
    walk_at "mi"
    by_cases hm : y ∈ zs
    · rw [decide_eq_true hm]
      walk_at "mi"
      exact h2 (if_pos hm)
    · rw [decide_eq_false hm]
      walk_at "mi"
      exact h1 _ (if_neg hm)
  have e2 : (qzs.map D.str).filterMap (fun d => match d with
    | .str y => if y ∈ zs then none else some (.str y)
    | d => none) = (qzs.filter fun z => !decide (z ∈ zs)).map D.str := by
    generalize qzs = l
    induction l with
    | nil => rfl
    | cons y t ih =>
      rw [List.map_cons, List.filterMap_cons, List.filter_cons, ih]
      by_cases hm : y ∈ zs
      · simp [hm]
      · simp [hm]
  rw [e2]
  cases hf : qzs.filter (fun z => !decide (z ∈ zs)) with
  | nil =>
    exfalso
    have : qzs.length ≤ zs.length := nd_le qzs zs qz_ok.2 fun x hx => by
      rcases Decidable.em (x ∈ zs) with h | h
      · exact h
      · have : x ∈ qzs.filter (fun z => !decide (z ∈ zs)) := List.mem_filter.mpr ⟨hx, by simp [h]⟩
        rw [hf] at this; cases this
    have l13 : qzs.length = 13 := by unfold qzs; simp
    omega
  | cons z t =>
    have hz : z ∈ qzs.filter (fun z => !decide (z ∈ zs)) := by rw [hf]; exact List.mem_cons_self ..
    obtain ⟨hz1, hz2⟩ := List.mem_filter.mp hz
    have ok := List.all_eq_true.mp qz_ok.1 z hz1
    rw [Bool.and_eq_true, Bool.and_eq_true] at ok
    walk_at "mi"
    refine m_ixL (v := .str z) (atI_zero rfl) ?_ rfl
    walk_at "mi"
    exact h z (by simpa using hz2) ok.1.1 ok.1.2 (of_decide_eq_true ok.2)
end




section
variable {S : Sto} {q : DK} {x : XM} {z b k k2 : Str} {zs ys w ws us : List Str} {tl : List D} {kd ld : D} {s s2 : Option Str} {B : Nat}
def secD : Option Str → D
  | none => .non
  | some z => .str z
theorem secD_un (s : Option Str) : (secD s).val = true ∧ (secD s).nown = true ∧ argD (secD s) = secD s ∧ unown (secD s) = some (secD s) := by cases s <;> exact ⟨rfl, rfl, rfl, rfl⟩
abbrev kinds3 : List Str := ["always", "fresh", "behind"]
inductive KV : D → Prop
  | str (z : Str) : KV (.str z)
  | non : KV .non
  | int (i : Int) : KV (.int i)
  | tup (ds : List D) : KV (.tup ds)
theorem KV.un {d : D} (h : KV d) : d.val = true ∧ d.nown = true ∧ argD d = d ∧ unown d = some d := by cases h <;> exact ⟨rfl, rfl, rfl, rfl⟩
inductive LV (zs : List Str) : D → Prop
  | let (z : Str) (h : z ∈ zs) : LV zs (.str z)
  | no (d : D) (h : NoL zs d) : LV zs d
theorem NoL.un2 {d : D} (h : NoL zs d) : d.val = true ∧ d.nown = true ∧ argD d = d ∧ unown d = some d := by cases h <;> exact ⟨rfl, rfl, rfl, rfl⟩
theorem LV.un {d : D} (h : LV zs d) : d.val = true ∧ d.nown = true ∧ argD d = d ∧ unown d = some d := by
  cases h with
  | «let» z h => exact ⟨rfl, rfl, rfl, rfl⟩
  | no d h => exact h.un2
def kindB : D → Bool
  | .str z => decide (z ∈ kinds3)
  | _ => false
def memB (zs : List Str) : D → Bool
  | .str z => decide (z ∈ zs)
  | _ => false
def nonB : D → Bool
  | .non => true
  | _ => false
def okL (zs : List Str) (kd ld : D) : Bool := match kd with
  | .str k => if k = "behind" then memB zs ld else nonB ld
  | _ => false
def codO (zs : List Str) (kd : D) (ws : List Str) (tl : List D) (ld : D) : Option D := if kindB kd = true then (match dueO ws tl with
  | some d => some d
  | none => if okL zs kd ld = true then none else some (.tup [.str "letter", .int 0])) else some (.tup [.str "kind"])
theorem codO_code {d : D} (h : codO zs kd ws tl ld = some d) : Code d := by
  unfold codO at h
  split at h
  · split at h
    · rename_i e he; cases h; exact dueO_code he
    · split at h
      · cases h
      · cases h; exact ⟨_, _, rfl, rfl, (by show (PyData.strOk "letter" && (true && true)) = true; decide +kernel : Pl 2 (.tuple [.str "letter", .int 0]) = true)⟩
  · cases h; exact ⟨_, _, rfl, rfl, (by decide +kernel : Pl 2 (.tuple [.str "kind"]) = true)⟩
structure LimOk (zs : List Str) (k : Str) (s : Option Str) : Prop where
  hk : k ∈ kinds3
  hs : (k = "behind" ∧ ∃ z, s = some z ∧ z ∈ zs) ∨ (k ≠ "behind" ∧ s = none)
theorem ok_lim (h1 : kindB kd = true) (h2 : okL zs kd ld = true) : ∃ k s, kd = .str k ∧ ld = secD s ∧ LimOk zs k s := by
  cases kd with
  | str k =>
    have hk : k ∈ kinds3 := of_decide_eq_true h1
    have h2 : (if k = "behind" then memB zs ld else nonB ld) = true := h2
    by_cases e : k = "behind"
    · rw [if_pos e] at h2
      cases ld with
      | str z => exact ⟨k, some z, rfl, rfl, hk, .inl ⟨e, z, rfl, of_decide_eq_true h2⟩⟩
      | _ => cases h2
    · rw [if_neg e] at h2
      cases ld with
      | non => exact ⟨k, none, rfl, rfl, hk, .inr ⟨e, rfl⟩⟩
      | _ => cases h2
  | _ => cases h1
theorem lim_ok (L : LimOk zs k s) : kindB (.str k) = true ∧ okL zs (.str k) (secD s) = true := by
  refine ⟨decide_eq_true L.hk, ?_⟩
  show (if k = "behind" then memB zs (secD s) else nonB (secD s)) = true
  rcases L.hs with ⟨e, z, rfl, hz⟩ | ⟨e, rfl⟩
  · rw [if_pos e]; exact decide_eq_true hz
  · rw [if_neg e]; rfl
abbrev limD (zs : List Str) (k : Str) (ws : List Str) (s : Option Str) : D := .obj "Limit" [("letters", letD zs), ("kind", .str k), ("answers", .ftp ((setS ws).map D.str)), ("letter", secD s)]
theorem v_is_one_of (hk : KV kd) (h : q (.bl (kindB kd)) S) : f_is_one_of [kd, .tup (kinds3.map D.str)] S q x := by
  unfold f_is_one_of
  refine m_run ?_
  cases hk with
  | str z =>
    walk_at "mz"
    refine m_inS (zs := kinds3) ?_
    walk_at "mz"
    exact h
  | _ =>
    walk_at "mz"
    exact h
theorem nonB_is {g : Bool → Bool} (h : LV zs ld) (k : q (.bl (g (nonB ld))) S) : fIs g ld .non S q := by
  cases h with
  | «let» z h => exact k
  | no d h => cases h <;> exact k
theorem v_let_in (hl : LV zs ld) (h : q (.bl (memB zs ld)) S) : f_Letters___contains__ [letD zs, ld] S q x := by
  cases hl with
  | «let» z hz => exact v_Letters___contains__ h
  | no d hn =>
    refine v_Letters___contains__X hn ?_
    have e : memB zs ld = false := by
      cases hn with
      | str z hz => exact decide_eq_false hz
      | _ => rfl
    rw [e] at h
    exact h
theorem v_Limit___init__ (A : AnsOk ws tl) (hk : KV kd) (hl : LV zs ld) (h : ∀ k s, kd = .str k → ld = secD s → LimOk zs k s → dueO ws tl = none → q (limD zs k ws s) S) (hx : kindB kd = false → x ("BadKind", none) S)
    (hA : kindB kd = true → (tl ≠ [] ∨ ws = []) → x (xi "BadAnswers" (ws.length : Nat)) S) (hM : kindB kd = true → tl = [] → ws ≠ [] → 6 < (setS ws).length → x (tooAns (setS ws).length) S)
    (hL : kindB kd = true → dueO ws tl = none → okL zs kd ld = false → x (xi "BadLetter" 0) S) : f_Limit___init__ [letD zs, kd, .lst (ws.map D.str ++ tl), ld] S q x := by
  obtain ⟨_, kn, ka, _⟩ := hk.un
  obtain ⟨_, ln, la, _⟩ := hl.un
  unfold f_Limit___init__
  intro a0
  refine m_seq ?_
  walk_at "mz"
  show f_is_one_of [argD kd, .tup (kinds3.map D.str)] S _ _
  rw [ka]
  refine v_is_one_of hk ?_
  cases kb : kindB kd with
  | false =>
    walk_at "mz"
    exact hx kb
  | true =>
    obtain ⟨k, rfl⟩ : ∃ k, kd = .str k := by
      cases kd with
      | str k => exact ⟨k, rfl⟩
      | _ => cases kb
    walk_at "mz"
    refine v_answer_set rfl A (fun e1 e2 e3 => ?_) (fun e1 e2 e3 => hM kb e1 e2 e3) (fun e => hA kb e)
    have dn : dueO ws tl = none := by rw [dueO_good e1 e2, if_neg (by omega)]
    have okd : ∀ b, okL zs (.str k) ld = b → (if k = "behind" then memB zs ld else nonB ld) = b := fun b e => e
    walk_at "mz"
    refine m_two (fun c => ?_) (fun c => ?_)
    · have c : k = "behind" := of_decide_eq_true c
      walk_at "mz"
      refine ⟨rfl, ?_⟩
      show f_Letters___contains__ [letD zs, argD ld] S _ _
      rw [la]
      refine v_let_in hl ?_
      walk_at "mz"
      refine ⟨_, rfl, ?_⟩
      walk_at "mz"
      cases mb : memB zs ld with
      | false =>
        walk_at "mz"
        exact ⟨rfl, rfl, fmt_len (n := 0) (by decide), hL kb dn (by show (if k = "behind" then memB zs ld else nonB ld) = false; rw [if_pos c]; exact mb)⟩
      | true =>
        obtain ⟨k', s, e4, rfl, L⟩ := ok_lim (zs := zs) (kd := .str k) (ld := ld) kb (by show (if k = "behind" then memB zs ld else nonB ld) = true; rw [if_pos c]; exact mb)
        cases e4
        rcases L.hs with ⟨_, z, rfl, hz⟩ | ⟨e, _⟩
        · walk_at "mz"
          exact ⟨_, rfl, rfl, h k (some z) rfl rfl L dn⟩
        · exact absurd c e
    · have c : ¬ k = "behind" := of_decide_eq_false c
      walk_at "mz"
      refine nonB_is hl ?_
      walk_at "mz"
      cases mb : nonB ld with
      | false =>
        walk_at "mz"
        exact ⟨rfl, rfl, fmt_len (n := 0) (by decide), hL kb dn (by show (if k = "behind" then memB zs ld else nonB ld) = false; rw [if_neg c]; exact mb)⟩
      | true =>
        obtain ⟨k', s, e4, rfl, L⟩ := ok_lim (zs := zs) (kd := .str k) (ld := ld) kb (by show (if k = "behind" then memB zs ld else nonB ld) = true; rw [if_neg c]; exact mb)
        cases e4
        rcases L.hs with ⟨e, _⟩ | ⟨_, rfl⟩
        · exact absurd e c
        · walk_at "mz"
          exact ⟨_, rfl, rfl, h k none rfl rfl L dn⟩
theorem lim_kv (k : Str) : KV (.str k) := .str k
theorem LimOk.lv (L : LimOk zs k s) : LV zs (secD s) := by
  rcases L.hs with ⟨_, z, rfl, hz⟩ | ⟨_, rfl⟩
  · exact .let z hz
  · exact .no _ .non
/-- a right limit is made -/
theorem v_Limit_ok {d d2 : D} (L : LimOk zs k s) (A : AnsOk ws []) (hd : dueO ws [] = none) (e : d = .lst (ws.map D.str)) (e2 : d2 = secD s) (h : q (limD zs k ws s) S) : f_Limit___init__ [letD zs, .str k, d, d2] S q x := by
  subst e; subst e2
  obtain ⟨kb, ol⟩ := lim_ok L
  have e3 : (ws.map D.str) = ws.map D.str ++ [] := by rw [List.append_nil]
  rw [e3]
  refine v_Limit___init__ A (.str k) L.lv (fun k' s' e1 e2 _ _ => ?_) (fun c => by rw [kb] at c; cases c) (fun _ c => ?_) (fun _ a b c => ?_) (fun _ _ c => by rw [ol] at c; cases c)
  · cases e1
    have : s = s' := by cases s <;> cases s' <;> first | rfl | cases e2; rfl | cases e2
    subst this
    exact h
  · rw [dueO_bad c] at hd; cases hd
  · rw [dueO_good a b, if_pos c] at hd; cases hd
/-! ### told of limits -/
theorem v__law_limit (O : LetOk zs) (A : AnsOk ws tl) (hk : KV kd) (hl : LV zs ld) (h : ∀ k s, kd = .str k → ld = secD s → LimOk zs k s → codO zs kd ws tl ld = none → dueO ws tl = none → q (limD zs k ws s) S) (h2 : ∀ d, codO zs kd ws tl ld = some d → q d S) : f__law_limit [.lst (zs.map D.str), kd, .lst (ws.map D.str ++ tl), ld] S q x := by
  obtain ⟨_, kn, ka, _⟩ := hk.un
  obtain ⟨_, ln, la, _⟩ := hl.un
  unfold f__law_limit
  refine m_run ?_
  walk_at "mz"
  refine v_Letters___init__ O (.inl rfl) ?_
  walk_at "mz"
  show f_Limit___init__ [letD zs, argD kd, .lst (ws.map D.str ++ tl), argD ld] S _ _
  rw [ka, la]
  refine v_Limit___init__ A hk hl (fun k s e1 e2 L dn => ?_) (fun c => ?_) (fun kb c => ?_) (fun kb e1 e2 c => ?_) (fun kb dn c => ?_)
  · refine m_kRet rfl (h k s e1 e2 L ?_ dn)
    subst e1; subst e2
    unfold codO
    rw [if_pos (lim_ok L).1, dn]
    exact if_pos (lim_ok L).2
  · refine m_hd (by decide) (by decide) fun a dd hds => ?_
    walk_at "mz"
    exact h2 _ (by unfold codO; rw [if_neg (by rw [c]; exact Bool.false_ne_true)])
  · refine m_hdNo (by decide) (by decide) (m_hdN (by decide) (by decide) fun a dd hds => ?_)
    have hds := hds rfl
    walk_at "mz"
    exact h2 _ (by unfold codO; rw [if_pos kb, dueO_bad c])
  · refine m_hdNo (by decide) (by decide) (m_hdNo (by decide) (by decide) (m_hdN (by decide) (by decide) fun a dd hds => ?_))
    have hds := hds rfl
    walk_at "mz"
    exact h2 _ (by unfold codO; rw [if_pos kb, dueO_good e1 e2, if_pos c])
  · refine m_hdNo (by decide) (by decide) (m_hdNo (by decide) (by decide) (m_hdNo (by decide) (by decide) (m_hdN (by decide) (by decide) fun a dd hds => ?_)))
    have hds := hds rfl
    walk_at "mz"
    exact h2 _ (by unfold codO; rw [if_pos kb, dn]; exact if_neg (by rw [c]; exact Bool.false_ne_true))
theorem code_non {g : Bool → Bool} {d : D} (h : Code d) (k : q (.bl (g false)) S) : fIs g d .non S q := by
  obtain ⟨ds, p, rfl, _⟩ := h
  exact k
theorem code_un {d : D} (h : Code d) : d.val = true ∧ d.nown = true ∧ argD d = d ∧ unown d = some d := by
  obtain ⟨ds, p, rfl, _⟩ := h
  exact ⟨rfl, rfl, rfl, rfl⟩
theorem v__law_limit_due (A : AnsOk ws tl) (hk : KV kd) (hl : LV zs ld) (h : q ((codO zs kd ws tl ld).getD .non) S) : f__law_limit_due [.lst (zs.map D.str), kd, .lst (ws.map D.str ++ tl), ld] S q x := by
  obtain ⟨_, kn, ka, _⟩ := hk.un
  obtain ⟨_, ln, la, _⟩ := hl.un
  unfold f__law_limit_due
  refine m_run ?_
  have bad : kindB kd = false → q (.tup [.str "kind"]) S := fun c => by
    have e : codO zs kd ws tl ld = some (.tup [.str "kind"]) := by unfold codO; rw [if_neg (by rw [c]; exact Bool.false_ne_true)]
    rw [e] at h; exact h
  cases hk with
  | str k =>
    walk_at "mz"
    refine m_inS (zs := kinds3) ?_
    walk_at "mz"
    refine m_two (fun c => ?_) (fun c => ?_)
    · have c : decide (k ∈ kinds3) = false := by simpa using c
      walk_at "mz"
      exact bad c
    · have kb : kindB (.str k) = true := by
        show decide (k ∈ kinds3) = true
        cases e : decide (k ∈ kinds3) with
        | true => rfl
        | false => rw [show not (decide (k ∈ kinds3)) = true by rw [e]; rfl] at c; cases c
      walk_at "mz"
      refine v__law_due A ?_
      cases hd : dueO ws tl with
      | some d =>
        have Cd := dueO_code hd
        obtain ⟨u1, u2, u3, u4⟩ := code_un Cd
        have e : codO zs (.str k) ws tl ld = some d := by unfold codO; rw [if_pos kb, hd]
        rw [e] at h
        refine m_qv ?_ u1
        walk_at "mz"
        refine code_non Cd ?_
        walk_at "mz"
        refine v__law_due A ?_
        rw [hd]
        refine m_qv ?_ u1
        exact m_kRet u4 h
      | none =>
        have e : codO zs (.str k) ws tl ld = if okL zs (.str k) ld = true then none else some (.tup [.str "letter", .int 0]) := by unfold codO; rw [if_pos kb, hd]
        rw [e] at h
        refine m_qv ?_ rfl
        refine m_c ?_
        show fIs not D.non D.non S _
        walk_at "mz"
        have fin : ∀ bv, okL zs (.str k) ld = bv → (if bv = true then q .non S else q (.tup [.str "letter", .int 0]) S) := fun bv eb => by
          rw [eb] at h
          cases bv
          · exact h
          · exact h
        refine m_two (fun c => ?_) (fun c => ?_)
        · have c : k = "behind" := of_decide_eq_true c
          have eo : okL zs (.str k) ld = memB zs ld := by show (if k = "behind" then memB zs ld else nonB ld) = _; rw [if_pos c]
          have f2 := fin _ eo
          cases hl with
          | «let» z hz =>
            have em : memB zs (.str z) = true := decide_eq_true hz
            rw [em] at f2
            walk_at "mz"
            refine m_inS (zs := zs) ?_
            rw [show id (decide (z ∈ zs)) = true from em]
            walk_at "mz"
            exact f2
          | no d hn =>
            cases hn with
            | str z hz =>
              have em : memB zs (.str z) = false := decide_eq_false hz
              rw [em] at f2
              walk_at "mz"
              refine m_inS (zs := zs) ?_
              rw [show id (decide (z ∈ zs)) = false from em]
              walk_at "mz"
              exact f2
            | _ =>
              walk_at "mz"
              exact f2
        · have c : ¬ k = "behind" := of_decide_eq_false c
          have eo : okL zs (.str k) ld = nonB ld := by show (if k = "behind" then memB zs ld else nonB ld) = _; rw [if_neg c]
          have f2 := fin _ eo
          walk_at "mz"
          refine nonB_is hl ?_
          walk_at "mz"
          cases eb : nonB ld with
          | true =>
            rw [eb] at f2
            walk_at "mz"
            exact f2
          | false =>
            rw [eb] at f2
            walk_at "mz"
            exact f2
  | _ =>
    walk_at "mz"
    exact bad rfl
end




section
variable {S : Sto} {q : DK} {x : XM} {z b k k2 : Str} {zs ys w ws us : List Str} {tl : List D} {kd ld : D} {s s2 : Option Str} {B : Nat}
theorem eq_opt (h : q (.bl (decide (s = s2))) S) : fEq (secD s) (secD s2) S q := by
  cases s with
  | none => cases s2 with
    | none => exact h
    | some y => exact h
  | some z => cases s2 with
    | none => exact h
    | some y =>
      have e : decide (some z = some y) = decide (z = y) := by simp
      rw [e] at h
      exact h
theorem set_wd (A : ∀ w ∈ ws, AWd w) : ∀ w ∈ setS ws, AWd w := fun w hw => A w (((set_srt ws).mem w).mp hw)
theorem v_Limit___eq__ (O : ∀ z ∈ zs, PyData.strOk z = true) (O2 : ∀ z ∈ ys, PyData.strOk z = true) (A : ∀ w ∈ ws, AWd w) (A2 : ∀ w ∈ us, AWd w) (h : q (.bl (decide (zs = ys) && (decide (k = k2) && (decide (setS ws = setS us) && decide (s = s2))))) S) : f_Limit___eq__ [limD zs k ws s, limD ys k2 us s2] S q x := by
  unfold f_Limit___eq__
  refine m_run ?_
  walk_at "mz"
  refine ⟨rfl, rfl, v_Letters___eq__ O O2 ?_⟩
  walk_at "mz"
  refine ⟨_, rfl, ?_⟩
  walk_at "mz"
  refine m_two (fun h1 => ?_) (fun h1 => ?_)
  · have h1 : decide (zs = ys) = false := by simpa using h1
    rw [h1, Bool.false_and] at h
    walk_at "mz"
    exact h
  · have h1 : decide (zs = ys) = true := by simpa using h1
    rw [h1, Bool.true_and] at h
    walk_at "mz"
    refine m_two (fun h2 => ?_) (fun h2 => ?_)
    · have h2 : decide (k = k2) = false := by simpa using h2
      rw [h2, Bool.false_and] at h
      walk_at "mz"
      exact h
    · have h2 : decide (k = k2) = true := by simpa using h2
      rw [h2, Bool.true_and] at h
      walk_at "mz"
      refine m_eqTS (zs := setS ws) (ys := setS us) (fun z hz => (set_wd A z hz).so) (fun z hz => (set_wd A2 z hz).so) ?_ rfl rfl
      walk_at "mz"
      refine m_two (fun h3 => ?_) (fun h3 => ?_)
      · rw [h3, Bool.true_and] at h
        walk_at "mz"
        refine eq_opt ?_
        walk_at "mz"
        exact h
      · rw [h3, Bool.false_and] at h
        walk_at "mz"
        exact h
def partsK (k : Str) (s : Option Str) : List Str := match s with
  | none => [k]
  | some z => [k, z]
theorem lc_parts {i : Nat} {η : Nv} {q : List D → Sto → Prop} (hi : i < η.length) (h : q ((partsK k s).map D.str) S) : lcL (mGName i) (mTest (mOp (fIs not) (mVar i) (mC .non))) (mVar i) η [.str k, secD s] [] S q := by
  refine lcL_fm (fun d => match d with
    | .non => none
    | d => some d) ?_ ?_ ?_ ?_
  · show 2 ≤ 100000; decide
  · intro d hd z e
    simp only [List.mem_cons, List.not_mem_nil, or_false] at hd
    rcases hd with rfl | rfl
    · cases e; rfl
    · cases s with
      | none => cases e
      | some y => cases e; rfl
  · intro d hd nx el h1 h2
    have hd2 : d = .non ∨ ∃ y, d = .str y := by
      simp only [List.mem_cons, List.not_mem_nil, or_false] at hd
      rcases hd with rfl | rfl
      · exact .inr ⟨_, rfl⟩
      · cases s with
        | none => exact .inl rfl
        | some y => exact .inr ⟨_, rfl⟩
    rcases hd2 with rfl | ⟨y, rfl⟩
    · refine m_gName ?_ rfl
      refine m_test (m_op (m_var (d := .non) (by rw [List.getElem?_set_self hi]) (m_c (m_isN (m_kTest (m_fa rfl ?_))))))
      exact h2 rfl
    · refine m_gName ?_ rfl
      refine m_test (m_op (m_var (d := .str y) (by rw [List.getElem?_set_self hi]) (m_c (m_isS (m_kTest (m_tr rfl ?_))))))
      exact m_var (d := .str y) (by rw [List.getElem?_set_self hi]) (h1 _ rfl)
  · cases s <;> exact h
theorem sum_len {c : Nat} : ∀ {l : List Str}, (∀ y ∈ l, y.length ≤ c) → (l.map Str.length).sum ≤ l.length * c
  | [], _ => by simp
  | y :: t, h => by
    have h1 := h y List.mem_cons_self
    have h2 := sum_len fun u hu => h u (List.mem_cons_of_mem _ hu)
    rw [List.map_cons, List.sum_cons, List.length_cons, Nat.add_mul]
    omega
theorem join_ok {l : List Str} (h : ∀ y ∈ l, y.length ≤ 1000) (hl : l.length ≤ 100) : (l.map Str.length).sum + l.length * (" " : Str).length ≤ 16777216 := by
  have e : (" " : Str).length = 1 := by decide +kernel
  have h1 := sum_len h
  have h2 : l.length * 1000 ≤ 100 * 1000 := Nat.mul_le_mul_right _ hl
  rw [e]
  omega
theorem mono_fld {cs : List Str} {g : Str} {i : Nat} {η : Nv} : ∀ {q q' : DK}, (∀ d S, q d S → q' d S) → mFld cs g (mVar i) η S q x → mFld cs g (mVar i) η S q' x := fun {q q'} h k => by
  refine mono_var (i := i) (fun d S z => ?_) k
  have z : kFld cs g q d S := z
  show kFld cs g q' d S
  unfold kFld at z ⊢
  split at z
  · obtain ⟨a, v, e, z⟩ := z
    exact ⟨a, v, e, h _ _ z⟩
  · exact z.elim
theorem v_Limit___str__ (hp : ∀ y ∈ partsK k s ++ setS ws, y.length ≤ 1000) (hl : (partsK k s ++ setS ws).length ≤ 50) (h : q (.str (Txt.join " " (partsK k s ++ setS ws))) S) : f_Limit___str__ [limD zs k ws s] S q x := by
  unfold f_Limit___str__
  refine m_run ?_
  walk_at "mz"
  refine m_kBox ?_ (by cases s <;> rfl) (by show 2 ≤ 100000; decide)
  walk_at "mz"
  refine lc_parts (by show 2 < 3; decide) ?_
  walk_at "mz"
  refine m_star ?_ mono_var
  walk_at "mz"
  refine ⟨(partsK k s).map D.str, .inl rfl, ?_⟩
  refine m_star ?_ mono_fld
  walk_at "mz"
  refine ⟨(setS ws).map D.str, .inr (.inr (.inl rfl)), ?_⟩
  walk_at "mz"
  rw [List.append_nil, ← List.map_append]
  have v : ∀ l : List Str, allVal (l.map D.str) = true := fun l => by unfold allVal; simp [List.all_map, D.val]
  refine m_kBox ?_ (v _) (by rw [List.length_map]; omega)
  refine ⟨_, strsD_of _, join_ok hp (by omega), ?_⟩
  walk_at "mz"
  exact h
/-! answers drawn -/
theorem word_of {c : Nat} {cs : List Nat} (e : z.cps.toList = c :: cs) (hc : c ∈ smallS.cps.toList) (hs : ∀ d ∈ cs, d ∈ signsS.cps.toList) (hl : cs.length ≤ 11) : AWd z ∧ z.length = cs.length + 1 := by
  have l := len_cps z
  rw [e, List.length_cons] at l
  have hs2 : ∀ d ∈ c :: cs, d ∈ signsL := fun d hd => by
    rcases List.mem_cons.mp hd with k | k
    · rw [k]; rw [smallS_cps] at hc; exact small_sub hc
    · have := hs d k; rw [signsS_cps] at this; exact this
  refine ⟨⟨?_, ?_, by omega⟩, by omega⟩
  · unfold isWordB
    rw [e, decide_eq_true (show 1 ≤ z.length by omega), decide_eq_true (show z.length ≤ 12 by omega)]
    simp only [Bool.true_and, List.take_succ_cons, List.take_zero, List.all_cons, List.all_nil, Bool.and_true, Bool.and_eq_true, decide_eq_true_eq, List.all_eq_true]
    refine ⟨hc, ?_, hs⟩
    rw [signsS_cps]; exact hs2 c List.mem_cons_self
  · unfold PyData.strOk
    rw [Array.all_eq_true_iff_forall_mem]
    intro d hd
    have hd' : d ∈ z.cps.toList := by simpa using hd
    rw [e] at hd'
    have := signs_lt (hs2 d hd')
    exact decide_eq_true (by omega)
theorem v__law_answer (hB : B < 800000000) (h : ∀ z B', AWd z → z.length ≠ 11 → B' ≤ B + 20 → q (.str z) [.pen B']) : f__law_answer [.cel 0] [.pen B] q x := by
  unfold f__law_answer
  refine m_run ?_
  walk_at "mz"
  refine v_pick (by omega) (by decide) (by decide) (fun d hd => ?_) (fun d hd => ?_)
  · obtain ⟨m, rfl, hm⟩ : ∃ m : Nat, d = .int m ∧ (m = 0 ∨ m = 1 ∨ m = 2 ∨ m = 11) := by
      simp only [List.mem_cons, List.not_mem_nil, or_false] at hd
      rcases hd with rfl | rfl | rfl | rfl | rfl | rfl
      · exact ⟨0, rfl, by simp⟩
      · exact ⟨0, rfl, by simp⟩
      · exact ⟨0, rfl, by simp⟩
      · exact ⟨1, rfl, by simp⟩
      · exact ⟨2, rfl, by simp⟩
      · exact ⟨11, rfl, by simp⟩
    have m11 : m ≤ 11 := by omega
    walk_at "mz"
    refine v_pickC (by omega) (by decide +kernel) (by decide +kernel) fun c hc => ?_
    walk_at "mz"
    refine m_kR1 (by omega) (by omega) ?_
    walk_at "mz"
    refine lcL_ind (fun i acc S' => ∃ (cs : List Nat) (B' : Nat), acc = (cs.map fun c => (⟨#[c]⟩ : Str)).map D.str ∧ cs.length = i ∧ (∀ d ∈ cs, d ∈ signsS.cps.toList) ∧ S' = [.pen B'] ∧ B' ≤ B + 2 + i ∧ i ≤ m) ⟨[], _, rfl, rfl, nofun, rfl, by omega, Nat.zero_le _⟩ (fun i d acc S' nx hi hv hnx => ?_) (fun acc S' hv => ?_)
    · obtain ⟨cs, B', rfl, hcl, hcs, rfl, hB', _⟩ := hv
      have hil := (List.getElem?_eq_some_iff.mp hi).1
      rw [rng_len] at hil
      refine m_gName ?_ (rng_nown hi)
      walk_at "mz"
      refine v_pickC (by omega) (by decide +kernel) (by decide +kernel) fun c2 hc2 => ?_
      walk_at "mz"
      refine ⟨rfl, by rw [List.length_map, List.length_map]; omega, hnx _ _ ⟨cs ++ [c2], _, by simp, by rw [List.length_append, hcl]; rfl, fun u hu => ?_, rfl, by omega, by omega⟩⟩
      rcases List.mem_append.mp hu with k | k
      · exact hcs u k
      · rw [List.mem_singleton] at k; rw [k]; exact hc2
    · obtain ⟨cs, B', rfl, hcl, hcs, rfl, hB', _⟩ := hv
      rw [rng_len] at hcl hB'
      have hcl : cs.length = m := by omega
      have e0 : ("" : Str).length = 0 := by decide +kernel
      have sl : ((cs.map fun c => (⟨#[c]⟩ : Str)).map Str.length).sum ≤ cs.length * 1 := by
        have := sum_len (c := 1) (l := cs.map fun c => (⟨#[c]⟩ : Str)) fun y hy => by
          obtain ⟨c, _, rfl⟩ := List.mem_map.mp hy
          exact Nat.le_refl _
        rwa [List.length_map] at this
      refine ⟨_, strsD_of _, by rw [e0, Nat.mul_zero]; omega, ?_⟩
      have jc := join_ones cs
      have jl : (Txt.join "" (cs.map fun c => (⟨#[c]⟩ : Str))).length = cs.length := by rw [← len_cps, jc]
      have l1 : (⟨#[c]⟩ : Str).length = 1 := rfl
      refine m_addS (by rw [l1, jl]; omega) ?_
      obtain ⟨W, wl⟩ := word_of (z := (⟨#[c]⟩ : Str) ++ Txt.join "" (cs.map fun c => (⟨#[c]⟩ : Str))) (c := c) (cs := cs) (by rw [app_cps, jc]; rfl) hc hcs (by omega)
      walk_at "mz"
      exact h _ _ W (by omega) (by omega)
  · simp only [List.mem_cons, List.not_mem_nil, or_false] at hd
    rcases hd with rfl | rfl | rfl | rfl | rfl | rfl <;> rfl
end




section
variable {S : Sto} {q : DK} {x : XM} {z b k k2 : Str} {zs ys w ws us : List Str} {tl : List D} {kd ld d : D} {s s2 : Option Str} {B : Nat} {η : Nv} {nx bk ct : Nv → Sto → Prop} {rt : D → Sto → Prop} {ex : Exn → Nv → Sto → Prop}
def secP : Option Str → PyData
  | none => .none
  | some z => .str z
/-- the row of a limit's fields: data that is told -/
theorem row_py (L : LimOk zs k s) (O : LetOk zs) (A : ∀ w ∈ ws, AWd w) (hl : ws.length ≤ 30) : ∃ p, toPy (.lst [.str k, .ftp ((setS ws).map D.str), secD s]) = some p ∧ ShN p 40 1000000 := by
  have sl := set_len ws
  have kk : PyData.strOk k = true ∧ k.length ≤ 100 := by
    have := L.hk
    simp only [kinds3, List.mem_cons, List.not_mem_nil, or_false] at this
    rcases this with rfl | rfl | rfl <;> exact ⟨by decide +kernel, by decide +kernel⟩
  have i1 : ShN (.str k) 3 20000 := (sh_str kk.1).mono (by decide) (by omega)
  have i2 : ShN (.tuple ((setS ws).map PyData.str)) 3 20000 := (sh_tuple (m := 30) (sh_strs (k := 12) (m := 30) (fun z hz => (set_wd A z hz).so) fun z hz => (set_wd A z hz).l) (by rw [List.length_map]; omega)).mono (by decide) (by decide)
  have i3 : ShN (secP s) 3 20000 := by
    rcases L.hs with ⟨_, z, rfl, hz⟩ | ⟨_, rfl⟩
    · have := O.short z hz
      exact (sh_str (O.so z hz)).mono (by decide) (by omega)
    · exact sh_none.mono (by decide) (by decide)
  refine ⟨.list [.str k, .tuple ((setS ws).map PyData.str), secP s], ?_, (sh_list (m := 3) (.cons i1 (.cons i2 (.cons i3 .nil))) (by show 3 ≤ 3; decide)).mono (by decide) (by decide)⟩
  refine toPy_lst ?_
  have e1 : toPy (.ftp ((setS ws).map D.str)) = some (.tuple ((setS ws).map PyData.str)) := by rw [toPy, toPyL_strs]; rfl
  have e2 : toPy (secD s) = some (secP s) := by cases s <;> rfl
  simp only [toPyL, e1, e2]
  rfl
theorem m_revL {m : ME} {xs : List D} (h : m η S (fun d S1 => pk S1 d = .lst xs ∧ q (.lst xs.reverse) S1) x) (mono : ∀ {q q' : DK}, (∀ d S, q d S → q' d S) → m η S q x → m η S q' x) : mRev m η S q x := by
  refine mono (fun d S z => ?_) h
  rw [z.1]
  exact z.2
theorem AnsOk.cons0 (A : AnsOk ws []) (hl : ws.length ≤ 10) : AnsOk (ws.reverse ++ ws) [] := ⟨fun w hw => by
  rcases List.mem_append.mp hw with c | c
  · exact A.wd w (List.mem_reverse.mp c)
  · exact A.wd w c, .inl rfl, by simp; omega⟩
theorem set_twin (ws : List Str) : setS (ws.reverse ++ ws) = setS ws := set_same fun k => by simp
theorem dueO_twin (h : dueO ws [] = none) : dueO (ws.reverse ++ ws) [] = none := by
  have nw : ws ≠ [] := fun e => by rw [dueO_bad (.inr e)] at h; cases h
  rw [dueO_good rfl nw] at h
  rw [dueO_good rfl (by simp [nw]), set_twin]
  exact h
theorem due_ne (h : dueO ws [] = none) : ws ≠ [] ∧ (setS ws).length ≤ 6 := by
  have nw : ws ≠ [] := fun e => by rw [dueO_bad (.inr e)] at h; cases h
  rw [dueO_good rfl nw] at h
  refine ⟨nw, ?_⟩
  by_cases c : 6 < (setS ws).length
  · rw [if_pos c] at h; cases h
  · omega
theorem LimOk.more (L : LimOk zs k s) (y : Str) : LimOk (zs ++ [y]) k s := by
  refine ⟨L.hk, ?_⟩
  rcases L.hs with ⟨e, z, e2, hz⟩ | h
  · exact .inl ⟨e, z, e2, List.mem_append_left _ hz⟩
  · exact .inr h
theorem let_more {y : Str} (O : LetOk zs) (hz : zs.length ≤ 11) (hy : y ∉ zs) (h1 : isLetterB y = true) (h2 : PyData.strOk y = true) (h3 : y.length ≤ 100) : LetOk (zs ++ [y]) := by
  have l1 := O.one
  refine ⟨by simp, by rw [List.length_append, List.length_singleton]; omega, fun u hu => ?_, fun u hu => ?_, ?_, fun u hu => ?_⟩
  · rcases List.mem_append.mp hu with c | c
    · exact O.ok u c
    · rw [List.mem_singleton] at c; rw [c]; exact h1
  · rcases List.mem_append.mp hu with c | c
    · exact O.short u c
    · rw [List.mem_singleton] at c; rw [c]; omega
  · rw [List.nodup_append]
    exact ⟨O.nd, by simp, fun u hu v hv => by rw [List.mem_singleton] at hv; rw [hv]; exact fun e => hy (e ▸ hu)⟩
  · rcases List.mem_append.mp hu with c | c
    · exact O.so u c
    · rw [List.mem_singleton] at c; rw [c]; exact h2
theorem parts_short (L : LimOk zs k s) (O : LetOk zs) (A : ∀ w ∈ ws, AWd w) : ∀ y ∈ partsK k s ++ setS ws, y.length ≤ 1000 := by
  have kk : k.length ≤ 1000 := by
    have := L.hk
    simp only [kinds3, List.mem_cons, List.not_mem_nil, or_false] at this
    rcases this with rfl | rfl | rfl <;> decide +kernel
  intro y hy
  rcases List.mem_append.mp hy with c | c
  · rcases L.hs with ⟨_, z, rfl, hz⟩ | ⟨_, rfl⟩
    · simp only [partsK, List.mem_cons, List.not_mem_nil, or_false] at c
      rcases c with rfl | rfl
      · exact kk
      · exact O.short _ hz
    · simp only [partsK, List.mem_cons, List.not_mem_nil, or_false] at c
      rw [c]; exact kk
  · have := (set_wd A y c).l; omega
theorem parts_le : (partsK k s).length ≤ 2 := by cases s <;> simp [partsK]
set_option maxHeartbeats 2000000 in
theorem v__law_is_right (O : LetOk zs) (zl : zs.length ≤ 4) (L : LimOk zs k s) (A : AnsOk ws []) (wl : ws.length ≤ 10) (dn : dueO ws [] = none) (h : q (.bl true) S) : f__law_is_right [limD zs k ws s, .lst (zs.map D.str), .str k, .lst (ws.map D.str), secD s] S q x := by
  obtain ⟨sv, sn, sa, su⟩ := secD_un s
  obtain ⟨nw, s6⟩ := due_ne dn
  obtain ⟨p, py, sh⟩ := row_py L O A.wd (by omega)
  have pl := @parts_le k s
  have hp := parts_short L O A.wd
  have av : allVal [.str k, .ftp ((setS ws).map D.str), secD s] = true := by cases s <;> rfl
  unfold f__law_is_right
  refine m_run ?_
  walk_at "mz"
  refine v__law_set (by omega) ?_
  walk_at "mz"
  refine m_kBox ?_ av (by show 3 ≤ 100000; decide)
  walk_at "mz"
  refine m_kBox ?_ (by cases s <;> rfl) (by show 2 ≤ 100000; decide)
  walk_at "mz"
  refine lc_parts (by show 10 < 11; decide) ?_
  walk_at "mz"
  refine v__law_set (by omega) ?_
  walk_at "mz"
  refine m_listL (xs := (setS ws).map D.str) ?_ (.inr rfl)
  refine m_addL (by rw [List.length_map, List.length_map]; omega) ?_
  rw [← List.map_append]
  walk_at "mz"
  refine m_kBox ?_ av (by show 3 ≤ 100000; decide)
  walk_at "mz"
  refine m_repr (v := p) py sh ?_
  walk_at "mz"
  refine m_repr (v := p) py sh ?_
  refine m_eqS ?_
  rw [decide_eq_true rfl]
  walk_at "mz"
  refine v_Letters___init__ O (.inl rfl) ?_
  refine ⟨rfl, rfl, v_Letters___eq__ O.so O.so ?_⟩
  rw [decide_eq_true rfl]
  walk_at "mz"
  refine ⟨_, rfl, ?_⟩
  walk_at "mz"
  refine v_Letters___init__ O (.inl rfl) ?_
  walk_at "mz"
  refine m_revL (xs := ws.map D.str) ?_ mono_var
  walk_at "mz"
  refine ⟨rfl, ?_⟩
  walk_at "mz"
  refine m_addL (xs := (ws.map D.str).reverse) (ys := ws.map D.str) (by rw [List.length_reverse, List.length_map]; omega) ?_
  rw [← List.map_reverse, ← List.map_append]
  walk_at "mz"
  refine v_Limit_ok L (A.cons0 wl) (dueO_twin dn) rfl sa ?_
  rw [show limD zs k (ws.reverse ++ ws) s = limD zs k ws s by simp only [limD, set_twin]]
  walk_at "mz"
  refine v__law_free (by omega) fun y hy hyl hys hy1 => ?_
  have O2 := let_more O (by omega) hy hyl hys hy1
  walk_at "mz"
  refine m_addL (by rw [List.length_map, List.length_singleton]; omega) ?_
  rw [show zs.map D.str ++ [D.str y] = (zs ++ [y]).map D.str by rw [List.map_append]; rfl]
  walk_at "mz"
  refine v_Letters___init__ O2 (.inl rfl) ?_
  walk_at "mz"
  refine v_Limit_ok (L.more y) A dn rfl sa ?_
  walk_at "mz"
  refine ⟨rfl, v_Limit___str__ hp (by rw [List.length_append]; omega) ?_⟩
  walk_at "mz"
  refine ⟨_, rfl, ?_⟩
  walk_at "mz"
  refine ⟨partsK k s ++ setS ws, strsD_of _, join_ok hp (by rw [List.length_append]; omega), ?_⟩
  refine m_eqS ?_
  rw [decide_eq_true rfl]
  walk_at "mz"
  have e1 : (decide (zs = zs) && (decide (k = k) && (decide (setS ws = setS ws) && decide (s = s)))) = true := by simp
  refine ⟨rfl, rfl, v_Limit___eq__ O.so O.so A.wd A.wd ?_⟩
  rw [e1]
  walk_at "mz"
  refine ⟨_, rfl, ?_⟩
  walk_at "mz"
  refine ⟨rfl, rfl, v_Limit___eq__ O.so O.so A.wd A.wd ?_⟩
  rw [e1]
  walk_at "mz"
  refine ⟨_, rfl, ?_⟩
  walk_at "mz"
  refine ⟨rfl, rfl, v_Limit___eq__ O.so O2.so A.wd A.wd ?_⟩
  have e2 : decide (zs = zs ++ [y]) = false := decide_eq_false fun e => by have := congrArg List.length e; simp at this
  rw [e2, Bool.false_and]
  walk_at "mz"
  refine ⟨_, rfl, ?_⟩
  walk_at "mz"
  exact h
end




section
variable {S : Sto} {q : DK} {x : XM} {z b k k2 : Str} {zs ys w ws us : List Str} {tl : List D} {kd ld d : D} {s s2 : Option Str} {B : Nat} {η : Nv} {nx bk ct : Nv → Sto → Prop} {rt : D → Sto → Prop} {ex : Exn → Nv → Sto → Prop}
theorem set_self {i : Nat} {v : Option D} (h : η[i]? = some v) : η.set i v = η := by
  apply List.ext_getElem?
  intro j
  by_cases e : i = j
  · subst e
    rw [List.getElem?_set_self (List.getElem?_eq_some_iff.mp h).1, h]
  · rw [List.getElem?_set_ne e]
theorem st_0 (h1 : η[1]? = some (some (.cel 0))) (hB : B < 600000000) (h : ∀ zs, LetOk zs → zs.length ≤ 4 → nx (η.set 3 (some (.lst (zs.map D.str)))) [.pen (B + 101)]) : b_law_0 η [.pen B] ⟨nx, rt, bk, ct, ex⟩ := by
  walk_at "mz"
  refine v_draw (by omega) (by omega) (by omega) fun r r0 r1 => ?_
  walk_at "mz"
  obtain ⟨n, hn, n1, n5⟩ : ∃ n : Nat, 1 + r = (n : Int) ∧ 1 ≤ n ∧ n ≤ 4 := ⟨(1 + r).toNat, by omega, by omega, by omega⟩
  rw [hn]
  refine ⟨0, n, B + 1, rfl, rfl, by omega, by omega, fun zs hz => ?_⟩
  obtain ⟨hl, nd, mk⟩ := hz
  walk_at "mz"
  refine h zs ⟨by omega, by omega, fun y hy => (mk y hy).ok, fun y hy => ?_, nd, fun y hy => (mk y hy).so⟩ (by omega)
  have := (mk y hy).len
  omega
/-- answers of the law: never eleven signs -/
structure Wd2 (z : Str) : Prop where
  w : AWd z
  n : z.length ≠ 11
theorem st_1 (h1 : η[1]? = some (some (.cel 0))) (hB : B < 600000000) (h : ∀ (ps : List Str) (B' : Nat), (∀ w ∈ ps, Wd2 w) → 1 ≤ ps.length → ps.length ≤ 9 → B' ≤ B + 200 → nx (η.set 4 (some (.lst (ps.map D.str)))) [.pen B']) : b_law_1 η [.pen B] ⟨nx, rt, bk, ct, ex⟩ := by
  walk_at "mz"
  refine v_draw (by omega) (by omega) (by omega) fun r r0 r1 => ?_
  walk_at "mz"
  refine m_kR1 (by omega) (by omega) ?_
  walk_at "mz"
  refine lcL_ind (fun i acc S' => ∃ (ps : List Str) (B' : Nat), acc = ps.map D.str ∧ ps.length = i ∧ (∀ w ∈ ps, Wd2 w) ∧ S' = [.pen B'] ∧ B' ≤ B + 1 + 20 * i ∧ i ≤ (1 + r).toNat) ⟨[], _, rfl, rfl, nofun, rfl, Nat.le_refl _, Nat.zero_le _⟩ (fun i d acc S' nx' hi hv hnx => ?_) (fun acc S' hv => ?_)
  · obtain ⟨ps, B', rfl, hp, hw, rfl, hB', _⟩ := hv
    have hil := (List.getElem?_eq_some_iff.mp hi).1
    rw [rng_len] at hil
    refine m_gName ?_ (rng_nown hi)
    have v1 : ((wipeD η [14]).set 14 (some d))[1]? = some (some (.cel 0)) := by
      rw [List.getElem?_set_ne (by decide)]
      show (η.set 14 none)[1]? = _
      rw [List.getElem?_set_ne (by decide)]; exact h1
    refine m_yes (m_true (m_call0 (m_cons (m_var v1 (m_nil ⟨rfl, ?_⟩)))))
    refine v__law_answer (by omega) fun z B2 W n B3 => ?_
    refine m_qv ⟨rfl, by rw [List.length_map]; omega, hnx _ _ ⟨ps ++ [z], _, by rw [List.map_append]; rfl, by rw [List.length_append, hp]; rfl, fun u hu => ?_, rfl, by omega, by omega⟩⟩ rfl
    rcases List.mem_append.mp hu with c | c
    · exact hw u c
    · rw [List.mem_singleton] at c; rw [c]; exact ⟨W, n⟩
  · obtain ⟨ps, B', rfl, hp, hw, rfl, hB', _⟩ := hv
    rw [rng_len] at hp hB'
    walk_at "mz"
    exact h ps B' hw (by omega) (by omega) (by omega)
theorem st_2 {ps : List Str} (h1 : η[1]? = some (some (.cel 0))) (h4 : η[4]? = some (some (.lst (ps.map D.str)))) (hp : ∀ w ∈ ps, Wd2 w) (p1 : 1 ≤ ps.length) (p9 : ps.length ≤ 9) (hB : B < 600000000) (h : ∀ (ws : List Str) (B' : Nat), (∀ w ∈ ws, Wd2 w) → ws.length ≤ 10 → B' ≤ B + 20 → nx (η.set 5 (some (.lst (ws.map D.str)))) [.pen B']) : b_law_2 η [.pen B] ⟨nx, rt, bk, ct, ex⟩ := by
  walk_at "mz"
  refine v_draw (by omega) (by omega) (by omega) fun r r0 r1 => ?_
  walk_at "mz"
  refine m_kR1 (by omega) (by omega) ?_
  walk_at "mz"
  refine lcL_ind (fun i acc S' => ∃ (ws : List Str) (B' : Nat), acc = ws.map D.str ∧ ws.length = i ∧ (∀ w ∈ ws, Wd2 w) ∧ S' = [.pen B'] ∧ B' ≤ B + 1 + i ∧ i ≤ r.toNat) ⟨[], _, rfl, rfl, nofun, rfl, Nat.le_refl _, Nat.zero_le _⟩ (fun i d acc S' nx' hi hv hnx => ?_) (fun acc S' hv => ?_)
  · obtain ⟨ws, B', rfl, hw, hp2, rfl, hB', _⟩ := hv
    have hil := (List.getElem?_eq_some_iff.mp hi).1
    rw [rng_len] at hil
    refine m_gName ?_ (rng_nown hi)
    have vv : ∀ j v, j ≠ 14 → η[j]? = some v → ((wipeD η [14]).set 14 (some d))[j]? = some v := fun j v ne e => by
      rw [List.getElem?_set_ne (Ne.symm ne)]
      show (η.set 14 none)[j]? = _
      rw [List.getElem?_set_ne (Ne.symm ne)]; exact e
    refine m_yes (m_true (m_call0 (m_cons (m_var (vv 1 _ (by decide) h1) (m_cons (m_var (vv 4 _ (by decide) h4) (m_nil ⟨rfl, ?_⟩)))))))
    refine v_pickS (by omega) (by omega) (by omega) fun z hz => ?_
    refine m_qv ⟨rfl, by rw [List.length_map]; omega, hnx _ _ ⟨ws ++ [z], _, by rw [List.map_append]; rfl, by rw [List.length_append, hw]; rfl, fun u hu => ?_, rfl, by omega, by omega⟩⟩ rfl
    rcases List.mem_append.mp hu with c | c
    · exact hp2 u c
    · rw [List.mem_singleton] at c; rw [c]; exact hp z hz
  · obtain ⟨ws, B', rfl, hw, hp2, rfl, hB', _⟩ := hv
    rw [rng_len] at hw hB'
    walk_at "mz"
    exact h ws B' hp2 (by omega) (by omega)
theorem m_mulS {i : Int} (h1 : z.length ≤ 16) (h2 : 0 ≤ i) (h3 : i ≤ 1048576) (h : q (.str (Txt.mul z i)) S) : fMul (.str z) (.int i) S q := ⟨h1, by omega, h3, h⟩
abbrev oddL : List D := [.non, .bl true, .int 3, .str "", .str "1a", .str "A", .str (Txt.mul "a" 13), .str "a b", .str "~a", .tup [.str "a"], .str "a_", .str "Yes", .lst [.str "a"], .str " a", .str "a\n"]
theorem odd_all : ∀ d ∈ oddL, OddA d := fun d hd => by
  simp only [oddL, List.mem_cons, List.not_mem_nil, or_false] at hd
  rcases hd with rfl | rfl | rfl | rfl | rfl | rfl | rfl | rfl | rfl | rfl | rfl | rfl | rfl | rfl | rfl
  · exact .non
  · exact .bl _
  · exact .int _ (by decide +kernel)
  · exact .str _ (by decide +kernel) (by decide +kernel) (by decide +kernel)
  · exact .str _ (by decide +kernel) (by decide +kernel) (by decide +kernel)
  · exact .str _ (by decide +kernel) (by decide +kernel) (by decide +kernel)
  · exact .str _ (by decide +kernel) (by decide +kernel) (by decide +kernel)
  · exact .str _ (by decide +kernel) (by decide +kernel) (by decide +kernel)
  · exact .str _ (by decide +kernel) (by decide +kernel) (by decide +kernel)
  · exact .tup _ (by decide +kernel) (by decide +kernel)
  · exact .str _ (by decide +kernel) (by decide +kernel) (by decide +kernel)
  · exact .str _ (by decide +kernel) (by decide +kernel) (by decide +kernel)
  · exact .lst _ (by decide +kernel) (by decide +kernel)
  · exact .str _ (by decide +kernel) (by decide +kernel) (by decide +kernel)
  · exact .str _ (by decide +kernel) (by decide +kernel) (by decide +kernel)
theorem ans_good (hw : ∀ w ∈ ws, Wd2 w) (hl : ws.length ≤ 10) : AnsOk ws [] := ⟨fun w h => (hw w h).w, .inl rfl, by simp; omega⟩
theorem OddA.un {d : D} (h : OddA d) : unown d = some d := by cases h <;> rfl
theorem st_3 {u8 u9 : Option D} (h1 : η[1]? = some (some (.cel 0))) (h5 : η[5]? = some (some (.lst (ws.map D.str)))) (h8 : η[8]? = some u8) (h9 : η[9]? = some u9) (hlen : 9 < η.length) (hw : ∀ w ∈ ws, Wd2 w) (hl : ws.length ≤ 10) (hB : B < 600000000)
    (h : ∀ (u v : Option D) (ws' : List Str) (tl : List D) (B' : Nat), AnsOk ws' tl → (∀ w ∈ ws', Wd2 w) → ws'.length ≤ 10 → B' ≤ B + 3 → nx (((η.set 8 u).set 9 v).set 5 (some (.lst (ws'.map D.str ++ tl)))) [.pen B']) : b_law_3 η [.pen B] ⟨nx, rt, bk, ct, ex⟩ := by
  walk_at "mz"
  refine v_draw (by omega) (by omega) (by omega) fun r r0 r1 => ?_
  walk_at "mz"
  refine m_two (fun c => ?_) (fun c => ?_)
  · walk_at "mz"
    rw [List.length_map]
    refine v_draw (by omega) (by omega) (by omega) fun at_ a0 a1 => ?_
    obtain ⟨n, rfl⟩ : ∃ n : Nat, at_ = n := ⟨at_.toNat, by omega⟩
    walk_at "mz"
    refine m_mulS (by decide +kernel) (by decide) (by decide) ?_
    walk_at "mz"
    have g5 : ((η.set 8 (some (.int (n : Nat)))).set 9 (some (.lst oddL)))[5]? = some (some (.lst (ws.map D.str))) := by rw [List.getElem?_set_ne (by decide), List.getElem?_set_ne (by decide)]; exact h5
    have g8 : ((η.set 8 (some (.int (n : Nat)))).set 9 (some (.lst oddL)))[8]? = some (some (.int (n : Nat))) := by rw [List.getElem?_set_ne (by decide), List.getElem?_set_self (by omega)]
    have g9 : ((η.set 8 (some (.int (n : Nat)))).set 9 (some (.lst oddL)))[9]? = some (some (.lst oddL)) := by rw [List.getElem?_set_self (by rw [List.length_set]; omega)]
    have g1 : ((η.set 8 (some (.int (n : Nat)))).set 9 (some (.lst oddL)))[1]? = some (some (.cel 0)) := by rw [List.getElem?_set_ne (by decide), List.getElem?_set_ne (by decide)]; exact h1
    refine m_var g5 ?_
    walk_at "mz"
    refine m_slL (xs := ws.map D.str) ?_ rfl
    rw [cutD_to (by rw [List.length_map]; omega), ← List.map_take]
    refine m_lst (m_cons (m_call0 (m_cons (m_var g1 (m_cons (m_var g9 (m_nil ⟨rfl, ?_⟩)))))))
    refine v_pick (by omega) (by decide) (by decide) (fun o ho => ?_) (fun o ho => (odd_all o ho).un)
    have Oo := odd_all o ho
    refine m_qv ?_ Oo.val
    refine m_nil ?_
    refine m_kBox ?_ (by show allVal [o] = true; unfold allVal; simp [Oo.val]) (by show 1 ≤ 100000; decide)
    refine m_addL (by rw [List.length_map, List.length_take, List.length_singleton]; omega) ?_
    refine m_sl (m_var g5 (m_part (m_var g8 (m_kPart (m_noP ?_)))))
    refine m_slL (xs := ws.map D.str) ?_ rfl
    rw [cutD_from, ← List.map_drop]
    refine m_addL (by rw [List.length_append, List.length_map, List.length_take, List.length_singleton, List.length_map, List.length_drop]; omega) ?_
    refine m_gName ?_ rfl
    rw [show (ws.take n).map D.str ++ [o] ++ (ws.drop n).map D.str = (ws.take n).map D.str ++ (o :: (ws.drop n).map D.str) by simp]
    refine h _ _ (ws.take n) _ _ ⟨fun w hm => (hw w (List.mem_of_mem_take hm)).w, .inr ⟨o, ws.drop n, rfl, Oo, fun w hm => (hw w (List.mem_of_mem_drop hm)).w⟩, by simp; omega⟩ (fun w hm => hw w (List.mem_of_mem_take hm)) (by rw [List.length_take]; omega) (by omega)
  · walk_at "mz"
    have z := h u8 u9 ws [] (B + 1) (ans_good hw hl) hw hl (by omega)
    rw [List.append_nil, set_self h8, set_self h9, set_self h5] at z
    exact z
theorem due_un (ws : List Str) (tl : List D) : ((dueO ws tl).getD .non).val = true ∧ ((dueO ws tl).getD .non).nown = true := by
  cases e : dueO ws tl with
  | none => exact ⟨rfl, rfl⟩
  | some d => obtain ⟨u1, u2, _⟩ := code_un (dueO_code e); exact ⟨u1, u2⟩
theorem st_4 (h5 : η[5]? = some (some (.lst (ws.map D.str ++ tl)))) (A : AnsOk ws tl) (h : nx ((η.set 10 (some (.lst (ws.map D.str ++ tl)))).set 11 (some ((dueO ws tl).getD .non))) S) : b_law_4 η S ⟨nx, rt, bk, ct, ex⟩ := by
  obtain ⟨u1, u2⟩ := due_un ws tl
  walk_at "mz"
  refine m_listL (xs := ws.map D.str ++ tl) ?_ (.inl rfl)
  walk_at "mz"
  refine v__law_due A ?_
  refine m_qv ?_ u1
  walk_at "mz"
  refine m_kPar ?_ rfl u2
  exact h
/-- what the law wants told of the answers -/
def toldD (ws : List Str) (tl : List D) : D := match dueO ws tl with
  | some d => d
  | none => .tup [.str "set", .ftp ((setS ws).map D.str)]
theorem st_5 (h5 : η[5]? = some (some (.lst (ws.map D.str ++ tl)))) (h11 : η[11]? = some (some ((dueO ws tl).getD .non))) (A : AnsOk ws tl) (h : nx (η.set 11 (some (toldD ws tl))) S) : b_law_5 η S ⟨nx, rt, bk, ct, ex⟩ := by
  have al := A.len
  cases e : dueO ws tl with
  | some d =>
    rw [e] at h11
    have h11 : η[11]? = some (some d) := h11
    have eT : toldD ws tl = d := by unfold toldD; rw [e]
    rw [eT, set_self h11] at h
    obtain ⟨ds, p, rfl, _⟩ := dueO_code e
    walk_at "mz"
    exact h
  | none =>
    rw [e] at h11
    have eT : toldD ws tl = .tup [.str "set", .ftp ((setS ws).map D.str)] := by unfold toldD; rw [e]
    rw [eT] at h
    have et : tl = [] := by
      by_cases c : tl = []
      · exact c
      · rw [dueO_bad (.inl c)] at e; cases e
    subst et
    refine m_ifS (m_test (m_op (m_var h11 (m_c (m_isN (m_kTest (m_tr rfl ?_)))))))
    walk_at "mz"
    rw [List.append_nil]
    refine v__law_set (by omega) ?_
    walk_at "mz"
    exact h
theorem told_py (A : AnsOk ws tl) (he : dueO ws tl = none) : ∃ p, toPy (.tup [.str "set", .ftp ((setS ws).map D.str)]) = some p ∧ Pl 3 p = true := by
  have e1 : toPy (.ftp ((setS ws).map D.str)) = some (.tuple ((setS ws).map PyData.str)) := by rw [toPy, toPyL_strs]; rfl
  refine ⟨.tuple [.str "set", .tuple ((setS ws).map PyData.str)], ?_, ?_⟩
  · refine toPy_tup ?_
    simp only [toPyL, e1]
    rfl
  · have p2 := pl_strs (zs := setS ws) fun z hz => (set_wd A.wd z hz).so
    show (PyData.strOk "set" && (Pl 2 (.tuple ((setS ws).map PyData.str)) && true)) = true
    rw [p2]; decide +kernel
theorem st_6 (h5 : η[5]? = some (some (.lst (ws.map D.str ++ tl)))) (h10 : η[10]? = some (some (.lst (ws.map D.str ++ tl)))) (h11 : η[11]? = some (some (toldD ws tl))) (A : AnsOk ws tl) (h : nx η S) : b_law_6 η S ⟨nx, rt, bk, ct, ex⟩ := by
  obtain ⟨ps, py, _, sh, _⟩ := A.py
  have rest : ∀ {P : Prop}, P → (if (!decide (PyData.shown (.list ps) = PyData.shown (.list ps))) = true then False else P) := fun hp => m_fa (by simp) hp
  walk_at "mz"
  refine v__law_told A (fun e => ?_) (fun d e => ?_)
  · have eT : toldD ws tl = .tup [.str "set", .ftp ((setS ws).map D.str)] := by unfold toldD; rw [e]
    rw [eT] at h11
    obtain ⟨p, p1, p2⟩ := told_py A e
    refine m_qv ?_ rfl
    walk_at "mz"
    refine m_neT p1 p1 p2 p2 (fun _ => ?_) (fun c => absurd rfl c) (by decide) (by decide) rfl rfl
    walk_at "mz"
    refine m_repr (v := .list ps) py sh ?_
    walk_at "mz"
    refine m_repr (v := .list ps) py sh ?_
    refine m_neS (m_kTest (m_fa (by simp) ?_))
    walk_at "mz"
    exact h
  · have eT : toldD ws tl = d := by unfold toldD; rw [e]
    rw [eT] at h11
    have Cd := dueO_code e
    refine m_qv ?_ (code_un Cd).1
    refine m_var h11 ?_
    refine ne_code Cd ?_
    walk_at "mz"
    refine m_repr (v := .list ps) py sh ?_
    walk_at "mz"
    refine m_repr (v := .list ps) py sh ?_
    refine m_neS (m_kTest (m_fa (by simp) ?_))
    walk_at "mz"
    exact h
theorem st_7 (h1 : η[1]? = some (some (.cel 0))) (hB : B < 600000000) (h : ∀ k, nx (η.set 6 (some (.str k))) [.pen (B + 1)]) : b_law_7 η [.pen B] ⟨nx, rt, bk, ct, ex⟩ := by
  walk_at "mz"
  refine v_pickS (zs := ["always", "fresh", "behind", "behind"]) (by omega) (by decide) (by decide) fun k hk => ?_
  walk_at "mz"
  exact h k
theorem st_8 (h1 : η[1]? = some (some (.cel 0))) (h3 : η[3]? = some (some (.lst (zs.map D.str)))) (h6 : η[6]? = some (some (.str k))) (O : LetOk zs) (hB : B < 600000000) (h : ∀ ld B', LV zs ld → B' ≤ B + 1 → nx (η.set 7 (some ld)) [.pen B']) : b_law_8 η [.pen B] ⟨nx, rt, bk, ct, ex⟩ := by
  have l1 := O.one
  have l2 := O.most
  walk_at "mz"
  refine m_two (fun c => ?_) (fun c => ?_)
  · walk_at "mz"
    refine v_pickS (by omega) (by omega) (by omega) fun z hz => ?_
    walk_at "mz"
    exact h _ _ (.let z hz) (by omega)
  · walk_at "mz"
    exact h _ _ (.no _ .non) (by omega)
theorem st_9 (h1 : η[1]? = some (some (.cel 0))) (h6 : η[6]? = some (some (.str k))) (hB : B < 600000000) (h : ∀ kd B', KV kd → B' ≤ B + 2 → nx (η.set 6 (some kd)) [.pen B']) : b_law_9 η [.pen B] ⟨nx, rt, bk, ct, ex⟩ := by
  walk_at "mz"
  refine v_draw (by omega) (by omega) (by omega) fun r r0 r1 => ?_
  walk_at "mz"
  refine m_two (fun c => ?_) (fun c => ?_)
  · walk_at "mz"
    have kv : ∀ d ∈ [D.str "", .str "Always", .str "before", .non, .int 1, .str "kept", .tup [.str "fresh"], .str "always", .str "fresh", .str "behind"], KV d := fun d hd => by
      simp only [List.mem_cons, List.not_mem_nil, or_false] at hd
      rcases hd with rfl | rfl | rfl | rfl | rfl | rfl | rfl | rfl | rfl | rfl
      · exact .str _
      · exact .str _
      · exact .str _
      · exact .non
      · exact .int _
      · exact .str _
      · exact .tup _
      · exact .str _
      · exact .str _
      · exact .str _
    refine v_pick (by omega) (by decide) (by decide) (fun d hd => ?_) (fun d hd => (kv d hd).un.2.2.2)
    have K := kv d hd
    refine m_qv ?_ K.un.1
    refine m_gName ?_ K.un.2.1
    exact h _ _ K (by omega)
  · walk_at "mz"
    have z := h (.str k) (B + 1) (.str k) (by omega)
    rw [set_self h6] at z
    exact z
theorem st_10 (h1 : η[1]? = some (some (.cel 0))) (h3 : η[3]? = some (some (.lst (zs.map D.str)))) (h7 : η[7]? = some (some ld)) (L : LV zs ld) (O : LetOk zs) (hB : B < 600000000) (h : ∀ ld B', LV zs ld → B' ≤ B + 10 → nx (η.set 7 (some ld)) [.pen B']) : b_law_10 η [.pen B] ⟨nx, rt, bk, ct, ex⟩ := by
  have l1 := O.one
  walk_at "mz"
  refine v_draw (by omega) (by omega) (by omega) fun r r0 r1 => ?_
  walk_at "mz"
  refine m_two (fun c => ?_) (fun c => ?_)
  · walk_at "mz"
    obtain ⟨zi, zl, ez⟩ : ∃ zi zl, zs = zi ++ [zl] := by
      rcases List.eq_nil_or_concat zs with e | ⟨a, c, e⟩
      · rw [e] at l1; simp at l1
      · exact ⟨a, c, by rw [e, List.concat_eq_append]⟩
    have lm : zl ∈ zs := by rw [ez]; simp
    refine m_ixL (v := .str zl) (by rw [ez, List.map_append]; exact atI_snoc _ _) ?_ rfl
    walk_at "mz"
    refine v__law_odd O (by omega) fun o B2 N hB2 => ?_
    refine m_qv ?_ N.val
    refine m_nil ?_
    refine m_kBox ?_ (by show (D.non.val && (D.val (.str zl) && (o.val && true))) = true; rw [N.val]; rfl) (by show 3 ≤ 100000; decide)
    refine m_nil ⟨rfl, ?_⟩
    have lv : ∀ d ∈ [D.non, .str zl, o], LV zs d := fun d hd => by
      simp only [List.mem_cons, List.not_mem_nil, or_false] at hd
      rcases hd with rfl | rfl | rfl
      · exact .no _ .non
      · exact .let _ lm
      · exact .no _ N
    refine v_pick (by omega) (by show 0 < 3; decide) (by show 3 ≤ 1000; decide) (fun d hd => ?_) (fun d hd => (lv d hd).un.2.2.2)
    have K := lv d hd
    refine m_qv ?_ K.un.1
    refine m_gName ?_ K.un.2.1
    exact h _ _ K (by omega)
  · walk_at "mz"
    have z := h ld (B + 1) L (by omega)
    rw [set_self h7] at z
    exact z
theorem st_11 (h3 : η[3]? = some (some (.lst (zs.map D.str)))) (h5 : η[5]? = some (some (.lst (ws.map D.str ++ tl)))) (h6 : η[6]? = some (some kd)) (h7 : η[7]? = some (some ld)) (O : LetOk zs) (A : AnsOk ws tl) (hk : KV kd) (hl : LV zs ld)
    (h : ∀ k s, kd = .str k → ld = secD s → LimOk zs k s → tl = [] → dueO ws [] = none → nx ((η.set 12 (some (limD zs k ws s))).set 11 (some .non)) S) (h2 : ∀ d, Code d → nx ((η.set 12 (some d)).set 11 (some d)) S) : b_law_11 η S ⟨nx, rt, bk, ct, ex⟩ := by
  obtain ⟨kv, kn, ka, _⟩ := hk.un
  obtain ⟨lv, ln, la, _⟩ := hl.un
  walk_at "mz"
  show f__law_limit [.lst (zs.map D.str), argD kd, .lst (ws.map D.str ++ tl), argD ld] S _ _
  rw [ka, la]
  have two : ∀ (M : D), M.nown = true → (∀ e, codO zs kd ws tl ld = e → nx ((η.set 12 (some M)).set 11 (some (e.getD .non))) S) → mCons (mCall0 4 f__law_limit_due (mCons (mVar 3) (mCons (mVar 6) (mCons (mVar 5) (mCons (mVar 7) mNil))))) mNil η S (fun ds S2 => kPar 12 11 η nx (M :: ds) S2) (fun x S => ex x η S) := fun M hM hn => by
    walk_at "mz"
    show f__law_limit_due [.lst (zs.map D.str), argD kd, .lst (ws.map D.str ++ tl), argD ld] S _ _
    rw [ka, la]
    refine v__law_limit_due A hk hl ?_
    have un : ((codO zs kd ws tl ld).getD .non).val = true ∧ ((codO zs kd ws tl ld).getD .non).nown = true := by
      cases e : codO zs kd ws tl ld with
      | none => exact ⟨rfl, rfl⟩
      | some d => obtain ⟨u1, u2, _⟩ := code_un (codO_code e); exact ⟨u1, u2⟩
    refine m_qv ?_ un.1
    refine m_nil ?_
    refine m_kPar ?_ hM un.2
    exact hn _ rfl
  refine v__law_limit O A hk hl (fun k s e1 e2 L ec dn => ?_) (fun d ec => ?_)
  · refine m_qv ?_ rfl
    have et : tl = [] := by
      by_cases c : tl = []
      · exact c
      · rw [dueO_bad (.inl c)] at dn; cases dn
    refine two _ rfl fun e he => ?_
    rw [ec] at he
    subst he
    exact h k s e1 e2 L et (by rw [et] at dn; exact dn)
  · have Cd := codO_code ec
    obtain ⟨u1, u2, _⟩ := code_un Cd
    refine m_qv ?_ u1
    refine two _ u2 fun e he => ?_
    rw [ec] at he
    subst he
    exact h2 d Cd
theorem m_neB {p r : Bool} (h : q (.bl (!decide (p = r))) S) : fNe (.bl p) (.bl r) S q := h
/-! a code: told alike -/
theorem st_12c (Cd : Code d) (h11 : η[11]? = some (some d)) (h12 : η[12]? = some (some d)) (h : nx η S) : b_law_12 η S ⟨nx, rt, bk, ct, ex⟩ := by
  obtain ⟨ds, p, rfl, _⟩ := Cd
  walk_at "mz"
  refine m_neB ?_
  walk_at "mz"
  exact h
theorem st_13c (Cd : Code d) (h11 : η[11]? = some (some d)) (h12 : η[12]? = some (some d)) (h : nx η S) : b_law_13 η S ⟨nx, rt, bk, ct, ex⟩ := by
  have Cd2 := Cd
  obtain ⟨ds, p, rfl, _⟩ := Cd2
  walk_at "mz"
  refine ne_code Cd ?_
  walk_at "mz"
  exact h
theorem st_14c (Cd : Code d) (h11 : η[11]? = some (some d)) (h : nx η S) : b_law_14 η S ⟨nx, rt, bk, ct, ex⟩ := by
  obtain ⟨ds, p, rfl, _⟩ := Cd
  walk_at "mz"
  exact h
theorem st_15c (Cd : Code d) (h11 : η[11]? = some (some d)) (h : nx η S) : b_law_15 η S ⟨nx, rt, bk, ct, ex⟩ := by
  obtain ⟨ds, p, rfl, _⟩ := Cd
  walk_at "mz"
  exact h
/-! a limit -/
theorem st_12l (h11 : η[11]? = some (some .non)) (h12 : η[12]? = some (some (limD zs k ws s))) (h : nx η S) : b_law_12 η S ⟨nx, rt, bk, ct, ex⟩ := by
  walk_at "mz"
  refine m_neB ?_
  walk_at "mz"
  exact h
theorem st_13l (h11 : η[11]? = some (some .non)) (h : nx η S) : b_law_13 η S ⟨nx, rt, bk, ct, ex⟩ := by
  walk_at "mz"
  exact h
theorem st_14l (h3 : η[3]? = some (some (.lst (zs.map D.str)))) (h5 : η[5]? = some (some (.lst (ws.map D.str ++ [])))) (h6 : η[6]? = some (some (.str k))) (h7 : η[7]? = some (some (secD s))) (h11 : η[11]? = some (some .non)) (h12 : η[12]? = some (some (limD zs k ws s))) (O : LetOk zs) (zl : zs.length ≤ 4) (L : LimOk zs k s) (A : AnsOk ws []) (wl : ws.length ≤ 10) (dn : dueO ws [] = none) (h : nx η S) : b_law_14 η S ⟨nx, rt, bk, ct, ex⟩ := by
  obtain ⟨sv, sn, sa, su⟩ := secD_un s
  rw [List.append_nil] at h5
  walk_at "mz"
  show f__law_is_right [limD zs k ws s, .lst (zs.map D.str), .str k, .lst (ws.map D.str), argD (secD s)] S _ _
  rw [sa]
  refine v__law_is_right O zl L A wl dn ?_
  walk_at "mz"
  exact h
abbrev zzS : Str := "zz0zz0zz0zz"
theorem zz_wd : AWd zzS ∧ zzS.length = 11 := ⟨⟨by decide +kernel, by decide +kernel, by decide +kernel⟩, by decide +kernel⟩
theorem st_15l (h3 : η[3]? = some (some (.lst (zs.map D.str)))) (h11 : η[11]? = some (some .non)) (h12 : η[12]? = some (some (limD zs k ws s))) (O : LetOk zs) (hw : ∀ w ∈ ws, Wd2 w) (wl : ws.length ≤ 10) (dn : dueO ws [] = none) (h13 : 13 < η.length) (h : ∀ v, nx (η.set 13 v) S) : b_law_15 η S ⟨nx, rt, bk, ct, ex⟩ := by
  have A := ans_good hw wl
  obtain ⟨nw, s6⟩ := due_ne dn
  walk_at "mz"
  refine m_listL (xs := (setS ws).map D.str) ?_ (.inr rfl)
  walk_at "mz"
  refine m_slL (xs := (setS ws).map D.str) ?_ rfl
  rw [show cutD ((setS ws).map D.str) none (some (5 : Int)) = ((setS ws).take 5).map D.str by rw [show (5 : Int) = ((5 : Nat) : Int) from rfl, cutD_first, List.map_take]]
  refine m_addL (by rw [List.length_map, List.length_take]; show 1 + _ ≤ _; omega) ?_
  rw [show [D.str ("zz0zz0zz0zz" : Str)] ++ ((setS ws).take 5).map D.str = (zzS :: (setS ws).take 5).map D.str from rfl]
  generalize eM : zzS :: (setS ws).take 5 = more
  have mw : ∀ w ∈ more, AWd w := fun w hm => by
    rw [← eM] at hm
    rcases List.mem_cons.mp hm with c | c
    · rw [c]; exact zz_wd.1
    · exact set_wd A.wd w (List.mem_of_mem_take c)
  have ml : more.length ≤ 6 := by rw [← eM, List.length_cons, List.length_take]; omega
  have mn : more ≠ [] := by rw [← eM]; simp
  have sm := set_len more
  have Am : AnsOk more [] := ⟨mw, .inl rfl, by simp; omega⟩
  have dm : dueO more [] = none := by rw [dueO_good rfl mn, if_neg (by omega)]
  have Lm : LimOk zs "always" none := ⟨by decide +kernel, .inr ⟨by decide +kernel, rfl⟩⟩
  have g12 : (η.set 13 (some (.lst (more.map D.str))))[12]? = some (some (limD zs k ws s)) := by rw [List.getElem?_set_ne (by decide)]; exact h12
  have g3 : (η.set 13 (some (.lst (more.map D.str))))[3]? = some (some (.lst (zs.map D.str))) := by rw [List.getElem?_set_ne (by decide)]; exact h3
  have g13 : (η.set 13 (some (.lst (more.map D.str))))[13]? = some (some (.lst (more.map D.str))) := by rw [List.getElem?_set_self h13]
  walk_at "mz"
  refine v_Letters___init__ O (.inl rfl) ?_
  walk_at "mz"
  refine v_Limit_ok (s := none) Lm Am dm rfl rfl ?_
  refine ⟨rfl, rfl, v_Limit___eq__ O.so O.so A.wd mw ?_⟩
  have ne : ¬ setS ws = setS more := fun e => by
    have i1 : zzS ∈ setS more := ((set_srt more).mem zzS).mpr (by rw [← eM]; exact List.mem_cons_self)
    rw [← e] at i1
    exact (hw zzS (((set_srt ws).mem zzS).mp i1)).n zz_wd.2
  rw [decide_eq_false ne, Bool.false_and, Bool.and_false, Bool.and_false]
  walk_at "mz"
  refine ⟨_, rfl, ?_⟩
  walk_at "mz"
  exact h _
variable {a0 a2 a4 a6 a7 a8 a9 a10 a11 a12 a13 a14 : Option D}
abbrev tailS : MS := mSeq b_law_12 (mSeq b_law_13 (mSeq b_law_14 b_law_15))
theorem tail_l (O : LetOk zs) (zl : zs.length ≤ 4) (L : LimOk zs k s) (ww : ∀ w ∈ ws, Wd2 w) (wl : ws.length ≤ 10) (dn : dueO ws [] = none) (h : ∀ v, nx [a0, some (.cel 0), a2, some (.lst (zs.map D.str)), a4, some (.lst (ws.map D.str ++ [])), some (.str k), some (secD s), a8, a9, a10, some .non, some (limD zs k ws s), v, a14] S) :
    tailS [a0, some (.cel 0), a2, some (.lst (zs.map D.str)), a4, some (.lst (ws.map D.str ++ [])), some (.str k), some (secD s), a8, a9, a10, some .non, some (limD zs k ws s), a13, a14] S ⟨nx, rt, bk, ct, ex⟩ := by
  refine m_seq (st_12l (zs := zs) (k := k) (ws := ws) (s := s) rfl rfl ?_)
  refine m_seq (st_13l rfl ?_)
  refine m_seq (st_14l (zs := zs) (k := k) (ws := ws) (s := s) rfl rfl rfl rfl rfl rfl O zl L (ans_good ww wl) wl dn ?_)
  refine st_15l (zs := zs) (k := k) (ws := ws) (s := s) rfl rfl rfl O ww wl dn (by show 13 < 15; decide) fun v => ?_
  exact h v
theorem tail_c {a1 a3 a5 : Option D} (Cd : Code d) (h : nx [a0, a1, a2, a3, a4, a5, a6, a7, a8, a9, a10, some d, some d, a13, a14] S) : tailS [a0, a1, a2, a3, a4, a5, a6, a7, a8, a9, a10, some d, some d, a13, a14] S ⟨nx, rt, bk, ct, ex⟩ := by
  refine m_seq (st_12c Cd rfl rfl ?_)
  refine m_seq (st_13c Cd rfl rfl ?_)
  refine m_seq (st_14c Cd rfl ?_)
  exact st_15c Cd rfl h
/-- what is asked of the end of a turn -/
def Turn (B : Nat) (nx : Nv → Sto → Prop) : Prop := ∀ (η : Nv) (B' : Nat), η.length = 15 → η[1]? = some (some (.cel 0)) → B' ≤ B → nx η [.pen B']
theorem mid_b (O : LetOk zs) (zl : zs.length ≤ 4) (A : AnsOk ws tl) (ww : ∀ w ∈ ws, Wd2 w) (wl : ws.length ≤ 10) (hk : KV kd) (hl : LV zs ld) (hB : B < 600000000) (h : Turn (B + 100) nx) :
    mSeq b_law_11 tailS [a0, some (.cel 0), a2, some (.lst (zs.map D.str)), a4, some (.lst (ws.map D.str ++ tl)), some kd, some ld, a8, a9, a10, a11, a12, a13, a14] [.pen B] ⟨nx, rt, bk, ct, ex⟩ := by
  refine m_seq (st_11 (zs := zs) (ws := ws) (tl := tl) (kd := kd) (ld := ld) rfl rfl rfl rfl O A hk hl (fun k s e1 e2 Lo et dn => ?_) (fun d Cd => ?_))
  · subst e1; subst e2; subst et
    exact tail_l O zl Lo ww wl dn fun v => h _ _ rfl rfl (by omega)
  · exact tail_c Cd (h _ _ rfl rfl (by omega))
theorem mid_a (O : LetOk zs) (zl : zs.length ≤ 4) (A : AnsOk ws tl) (ww : ∀ w ∈ ws, Wd2 w) (wl : ws.length ≤ 10) (hB : B < 500000000) (h : Turn (B + 300) nx) :
    mSeq b_law_4 (mSeq b_law_5 (mSeq b_law_6 (mSeq b_law_7 (mSeq b_law_8 (mSeq b_law_9 (mSeq b_law_10 (mSeq b_law_11 tailS))))))) [a0, some (.cel 0), a2, some (.lst (zs.map D.str)), a4, some (.lst (ws.map D.str ++ tl)), a6, a7, a8, a9, a10, a11, a12, a13, a14] [.pen B] ⟨nx, rt, bk, ct, ex⟩ := by
  refine m_seq (st_4 (ws := ws) (tl := tl) rfl A ?_)
  refine m_seq (st_5 (ws := ws) (tl := tl) rfl rfl A ?_)
  refine m_seq (st_6 (ws := ws) (tl := tl) rfl rfl rfl A ?_)
  refine m_seq (st_7 rfl (by omega) fun k => ?_)
  refine m_seq (st_8 (zs := zs) (k := k) rfl rfl rfl O (by omega) fun ld B4 L hB4 => ?_)
  refine m_seq (st_9 (k := k) rfl rfl (by omega) fun kd B5 K hB5 => ?_)
  refine m_seq (st_10 (zs := zs) (ld := ld) rfl rfl rfl L O (by omega) fun ld B6 L hB6 => ?_)
  exact mid_b O zl A ww wl K L (by omega) fun η B' e1 e2 e3 => h η B' e1 e2 (by omega)
set_option maxHeartbeats 4000000 in
theorem v_law (h : ∀ S, q (.bl true) S) : f_law [.scr] [] q x := by
  unfold f_law
  refine m_run (m_seq (m_asg (m_call0 (m_cons (m_var rfl (m_nil (m_len ?_ rfl)))))))
  refine ⟨rfl, m_qv ?_ rfl⟩
  refine m_gName (m_seq (m_for (m_rng1 (m_cons (m_c (m_nil (m_kR1 (by decide) (by decide) (m_kFor ?_)))))))) rfl
  refine forL_ind (fun i η S => η.length = 15 ∧ η[1]? = some (some (.cel 0)) ∧ ∃ B, S = [.pen B] ∧ B ≤ 10000 * i) ⟨rfl, rfl, 0, rfl, Nat.le_refl _⟩ (fun i e η S nx hi hv hnx => ?_) (fun η S hv => ?_)
  · obtain ⟨hl, h1, B, rfl, hB⟩ := hv
    have hi6 : i < 6 := by
      have := (List.getElem?_eq_some_iff.mp hi).1
      simpa [rngD] using this
    refine m_gName ?_ (rng_nown hi)
    match η, hl, h1 with
    | [a0, a1, a2, a3, a4, a5, a6, a7, a8, a9, a10, a11, a12, a13, a14], _, h1 =>
      obtain rfl : a1 = some (.cel 0) := Option.some.inj h1
      refine m_seq (st_0 rfl (by omega) fun zs O zl => ?_)
      refine m_seq (st_1 rfl (by omega) fun ps B1 pw p1 p9 hB1 => ?_)
      refine m_seq (st_2 (ps := ps) rfl rfl pw p1 p9 (by omega) fun ws B2 ww wl hB2 => ?_)
      refine m_seq (st_3 (ws := ws) rfl rfl rfl rfl (by show 9 < 15; decide) ww wl (by omega) fun u v ws tl B3 A ww wl hB3 => ?_)
      exact mid_a O zl A ww wl (by omega) fun η B' e1 e2 e3 => hnx _ _ ⟨e1, e2, _, rfl, by omega⟩
  · refine m_ret (η := η) (m_c (m_kRet rfl ?_))
    exact h S
end
section
variable {P : Program} {w : World} {K : PySem.W.Frag} {mg : Str → Option Value} {base : Heap} {a : Ad}
def spLaw (K : PySem.W.Frag) : Sp := fun vs H Q _ => ∃ (s : Addr) (ns : List Int), vs = [.ref s] ∧ SqL K H s (ns.map V.int) ∧ Only H ∧ ∀ H', Q (.bl true) H'
theorem law_sp {Q : VK} {E : XK} {vs : List V} {H : Hp} (h : spLaw K vs H Q E) : spM K (kap a) 1 f_law vs H Q E := by
  obtain ⟨z, ns, rfl, hz, hO, k⟩ := h
  have good : Good K (kap a) ⟨H, [], [], [], []⟩ := ⟨rfl, List.nodup_nil, nofun, nofun, fun b l => (by rcases l with l | l | l <;> cases l), fun k b d e => (by simp at e)⟩
  have nl : ¬ (⟨H, [], [], [], []⟩ : Wd).Lv z := fun l => by rcases l with l | l | l <;> cases l
  have rep : RX K (kap a) ⟨H, [], [], [], []⟩ .scr (.ref z) := by
    refine ⟨z, ns, rfl, ?_⟩
    rcases hz with (h | ⟨o, h⟩) | h
    · rcases hO z with e | ⟨o, xs, e⟩
      · rw [e] at h; cases h
      · rw [e] at h; cases h
    · exact .inl ⟨nl, o, h⟩
    · exact .inr fun H' => .inr h
  exact ⟨rfl, ⟨H, [], [], [], []⟩, [.scr], (fun d _ => d = .bl true), (fun _ _ => False), rfl, good, rfl, .cons rep .nil, v_law fun _ => rfl, fun w' d v g' gr r e => by subst e; obtain rfl : v = .bl true := r; exact k _, fun _ _ _ _ _ _ _ z => z.elim⟩
theorem ok_law (T : Txt P K mg a) {fd : FuncData} (F : Fun K "law" "law" s_law a.f_law fd) : FnOkG P w K mg base CX0 7 a.f_law fd ["_law_script"] (spLaw K) := by
  refine okG0 F sc_law (fun vs H Q E h => by obtain ⟨z, ns, rfl, _⟩ := h; rfl) (fun cdv A outer s H us Q E gd hr h => ?_)
  have h := law_sp (a := a) h
  refine ⟨_, (pss_cons (ps_set (i := 1) sc_law.nd rfl (by first | exact Or.inl rfl | exact Or.inr rfl) (pe_callC (c__law_pen T) hr (pa_cons (pv 0) pa_nil)))
      (pss_cons (ps_for PassesOwn.never (by rfl) (pi_range1 (by rfl) T.n_range (pa_cons pe_int pa_nil)) (pg_name (i := 2) sc_law.nd rfl (by first | exact Or.inl rfl | exact Or.inr rfl))
        (pss_cons (ps_set (i := 3) sc_law.nd rfl (by first | exact Or.inl rfl | exact Or.inr rfl) (pe_callC (c__law_letters T) hr (pa_cons (pv 1) (pa_cons (pe_op (op_addA (K := K)) pe_int (pe_callC (c__law_draw T) hr (pa_cons (pv 1) (pa_cons pe_int pa_nil)))) pa_nil))))
        (pss_cons (ps_set (i := 4) sc_law.nd rfl (by first | exact Or.inl rfl | exact Or.inr rfl) (pe_lc (own := [("_law_k", 14)]) (by rfl) sc_law.nd (pi_range1 (by rfl) T.n_range (pa_cons (pe_op (op_addA (K := K)) pe_int (pe_callC (c__law_draw T) hr (pa_cons (pv 1) (pa_cons pe_int pa_nil)))) pa_nil)) (blkOk_by (own := [("_law_k", 14)]) (N := N_law) (sc := defScope s_law) (by decide +kernel)) (fun _ _ _ _ _ => (pg_name (i := 14) sc_law.nd rfl (by first | exact Or.inl rfl | exact Or.inr rfl))) (fun _ _ _ _ _ => pts_nil) (fun _ _ _ _ _ => (pe_callC (c__law_answer T) hr (pa_cons (pv 1) pa_nil)))))
        (pss_cons (ps_setLc (own := [("_law_k", 14)]) (i := 5) (by rfl) sc_law.nd rfl rfl (sw_true rfl rfl rfl (by decide +kernel)) (pi_range1 (by rfl) T.n_range (pa_cons (pe_callC (c__law_draw T) hr (pa_cons (pv 1) (pa_cons pe_int pa_nil))) pa_nil)) (blkOk_by (own := [("_law_k", 14)]) (N := N_law) (sc := defScope s_law) (by decide +kernel)) (fun _ _ _ _ _ => (pg_name (i := 14) sc_law.nd rfl (by first | exact Or.inl rfl | exact Or.inr rfl))) (fun _ _ _ _ _ => pts_nil) (fun _ _ _ _ _ => (pe_callC (c__law_pick T) hr (pa_cons (pv 1) (pa_cons (pv 4) pa_nil)))))
        (pss_cons (ps_if (pt_cmpR (op_eqA (K := K) hr.units) (pe_callC (c__law_draw T) hr (pa_cons (pv 1) (pa_cons pe_int pa_nil))) pe_int (by rfl)) (pss_cons (ps_set (i := 8) sc_law.nd rfl (by first | exact Or.inl rfl | exact Or.inr rfl) (pe_callC (c__law_draw T) hr (pa_cons (pv 1) (pa_cons (pe_op (op_addA (K := K)) (pe_callB (call_lenA (K := K)) (by rfl) T.n_len (by decide +kernel) (pa_cons (pv 5) pa_nil)) pe_int) pa_nil))))
          (pss_cons (ps_set (i := 9) sc_law.nd rfl (by first | exact Or.inl rfl | exact Or.inr rfl) (pe_lst (pa_cons pe_non (pa_cons pe_bl (pa_cons pe_int (pa_cons pe_str (pa_cons pe_str (pa_cons pe_str (pa_cons (pe_op op_mulA pe_str pe_int) (pa_cons pe_str (pa_cons pe_str (pa_cons (pe_tup (pa_cons pe_str pa_nil)) (pa_cons pe_str (pa_cons pe_str (pa_cons (pe_lst (pa_cons pe_str pa_nil)) (pa_cons pe_str (pa_cons pe_str pa_nil)))))))))))))))))
          (pss_one (ps_set (i := 5) sc_law.nd rfl (by first | exact Or.inl rfl | exact Or.inr rfl) (pe_op (op_addA (K := K)) (pe_op (op_addA (K := K)) (pe_slice (sl_A (K := K)) (pv 5) po_none (po_some (pv 8))) (pe_lst (pa_cons (pe_callC (c__law_pick T) hr (pa_cons (pv 1) (pa_cons (pv 9) pa_nil))) pa_nil))) (pe_slice (sl_A (K := K)) (pv 5) (po_some (pv 8)) po_none)))))) pss_nil)
        (pss_cons (ps_par (i := 10) (j := 11) (by rfl) sc_law.nd rfl rfl (by decide) rfl rfl (pa_cons (pe_callTy (call_listA (K := K)) (by rfl) T.n_list (by decide +kernel) (pa_cons (pv 5) pa_nil)) (pa_cons (pe_callC (c__law_due T) hr (pa_cons (pv 5) pa_nil)) pa_nil)) (by rfl))
        (pss_cons (ps_if (pt_cmpR op_isA (pv 11) pe_non (by rfl)) (pss_one (ps_set (i := 11) sc_law.nd rfl (by first | exact Or.inl rfl | exact Or.inr rfl) (pe_tup (pa_cons pe_str (pa_cons (pe_callC (c__law_set T) hr (pa_cons (pv 5) pa_nil)) pa_nil))))) pss_nil)
        (pss_cons (ps_if (PW.pt (pw_or (pt_cmpR (op_neA (K := K) hr.units) (pe_callC (c__law_told T) hr (pa_cons (pv 10) pa_nil)) (pv 11) (by rfl)) (pw_or1 (pt_cmpR (op_neA (K := K) hr.units) (pe_callB (call_reprDK (K := K) gd hr.units) (by rfl) T.n_repr (by decide +kernel) (pa_cons (pv 10) pa_nil)) (pe_callB (call_reprDK (K := K) gd hr.units) (by rfl) T.n_repr (by decide +kernel) (pa_cons (pv 5) pa_nil)) (by rfl))))) (pss_one (ps_ret pe_bl)) pss_nil)
        (pss_cons (ps_set (i := 6) sc_law.nd rfl (by first | exact Or.inl rfl | exact Or.inr rfl) (pe_callC (c__law_pick T) hr (pa_cons (pv 1) (pa_cons (pe_lst (pa_cons pe_str (pa_cons pe_str (pa_cons pe_str (pa_cons pe_str pa_nil))))) pa_nil))))
        (pss_cons (ps_set (i := 7) sc_law.nd rfl (by first | exact Or.inl rfl | exact Or.inr rfl) (pe_ifExp (pt_cmpR (op_eqA (K := K) hr.units) (pv 6) pe_str (by rfl)) (pe_callC (c__law_pick T) hr (pa_cons (pv 1) (pa_cons (pv 3) pa_nil))) pe_non))
        (pss_cons (ps_if (pt_cmpR (op_eqA (K := K) hr.units) (pe_callC (c__law_draw T) hr (pa_cons (pv 1) (pa_cons pe_int pa_nil))) pe_int (by rfl)) (pss_one (ps_set (i := 6) sc_law.nd rfl (by first | exact Or.inl rfl | exact Or.inr rfl) (pe_callC (c__law_pick T) hr (pa_cons (pv 1) (pa_cons (pe_lst (pa_cons pe_str (pa_cons pe_str (pa_cons pe_str (pa_cons pe_non (pa_cons pe_int (pa_cons pe_str (pa_cons (pe_tup (pa_cons pe_str pa_nil)) (pa_cons pe_str (pa_cons pe_str (pa_cons pe_str pa_nil))))))))))) pa_nil))))) pss_nil)
        (pss_cons (ps_if (pt_cmpR (op_eqA (K := K) hr.units) (pe_callC (c__law_draw T) hr (pa_cons (pv 1) (pa_cons pe_int pa_nil))) pe_int (by rfl)) (pss_one (ps_set (i := 7) sc_law.nd rfl (by first | exact Or.inl rfl | exact Or.inr rfl) (pe_callC (c__law_pick T) hr (pa_cons (pv 1) (pa_cons (pe_lst (pa_cons pe_non (pa_cons (pe_ix (ix_A (K := K)) (pv 3) (pe_un un_neg pe_int) (fun _ _ => rfl)) (pa_cons (pe_callC (c__law_odd T) hr (pa_cons (pv 1) (pa_cons (pv 3) pa_nil))) pa_nil)))) pa_nil))))) pss_nil)
        (pss_cons (ps_par (i := 12) (j := 11) (by rfl) sc_law.nd rfl rfl (by decide) rfl rfl (pa_cons (pe_callC (c__law_limit T) hr (pa_cons (pv 3) (pa_cons (pv 6) (pa_cons (pv 5) (pa_cons (pv 7) pa_nil))))) (pa_cons (pe_callC (c__law_limit_due T) hr (pa_cons (pv 3) (pa_cons (pv 6) (pa_cons (pv 5) (pa_cons (pv 7) pa_nil))))) pa_nil)) (by rfl))
        (pss_cons (ps_if (pt_cmpR (op_neA (K := K) hr.units) (pe_callB (call_isiA (K := K)) (by rfl) T.n_isinstance (by decide +kernel) (pa_cons (pv 12) (pa_cons (pe_gref T.g_Limit) pa_nil))) (pe_cmpR op_isA (pv 11) pe_non (by rfl)) (by rfl)) (pss_one (ps_ret pe_bl)) pss_nil)
        (pss_cons (ps_if (PW.pt (pw_and (pt_cmpR op_isNotA (pv 11) pe_non (by rfl)) (pw_and1 (pt_cmpR (op_neA (K := K) hr.units) (pv 12) (pv 11) (by rfl))))) (pss_one (ps_ret pe_bl)) pss_nil)
        (pss_cons (ps_if (PW.pt (pw_and (pt_cmpR op_isA (pv 11) pe_non (by rfl)) (pw_and1 (pt_not (pt_val (pe_callG gd (c__law_is_right T) hr (pa_cons (pv 12) (pa_cons (pv 3) (pa_cons (pv 6) (pa_cons (pv 5) (pa_cons (pv 7) pa_nil))))))))))) (pss_one (ps_ret pe_bl)) pss_nil)
        (pss_one (ps_if (pt_cmpR op_isA (pv 11) pe_non (by rfl)) (pss_cons (ps_set (i := 13) sc_law.nd rfl (by first | exact Or.inl rfl | exact Or.inr rfl) (pe_op (op_addA (K := K)) (pe_lst (pa_cons pe_str pa_nil)) (pe_slice (sl_A (K := K)) (pe_callTy (call_listA (K := K)) (by rfl) T.n_list (by decide +kernel) (pa_cons (pe_fldK (K := K) (pv 12) rfl) pa_nil)) po_none (po_some pe_int))))
          (pss_one (ps_if (pt_cmpR (op_eqOwn (c_Limit___eq__ T) hr) (pv 12) (pe_makeX0 (c_Limit1 T) hr (pa_cons (pe_makeX0 (c_Letters T) hr (pa_cons (pv 3) pa_nil)) (pa_cons pe_str (pa_cons (pv 13) pa_nil)))) (by rfl)) (pss_one (ps_ret pe_bl)) pss_nil))) pss_nil))))))))))))))))))
      (pss_one (ps_ret pe_bl)))), body_of (N := N_law) (m := b_law) ?_ (by unfold f_law at h; exact h)⟩
  exact (rf_seq (rf_asg (rf_call0 (rf_cons rf_var rf_nil)) (rfg_name (vs := [1]) (by decide)))
      (rf_seq (rf_for (rf_iRng1 (rf_cons rf_int rf_nil)) (rfg_name (vs := [2]) (by decide))
        (rf_seq (rf_asg (rf_call0 (rf_cons rf_var (rf_cons (rf_op rfo_add rf_int (rf_call0 (rf_cons rf_var (rf_cons rf_int rf_nil)))) rf_nil))) (rfg_name (vs := [3]) (by decide)))
        (rf_seq (rf_asg (rf_val (rf_lc (vs := [14]) (rf_iRng1 (rf_cons (rf_op rfo_add rf_int (rf_call0 (rf_cons rf_var (rf_cons rf_int rf_nil)))) rf_nil)) (rfg_name (vs := [14]) (by decide)) rf_yes (rf_call0 (rf_cons rf_var rf_nil)))) (rfg_name (vs := [4]) (by decide)))
        (rf_seq (rf_asg (rf_val (rf_lc (vs := [14]) (rf_iRng1 (rf_cons (rf_call0 (rf_cons rf_var (rf_cons rf_int rf_nil))) rf_nil)) (rfg_name (vs := [14]) (by decide)) rf_yes (rf_call0 (rf_cons rf_var (rf_cons rf_var rf_nil))))) (rfg_name (vs := [5]) (by decide)))
        (rf_seq (rf_ifS (rf_test (rf_op rfo_eq (rf_call0 (rf_cons rf_var (rf_cons rf_int rf_nil))) rf_int)) (rf_seq (rf_asg (rf_call0 (rf_cons rf_var (rf_cons (rf_op rfo_add (rf_cb rfc_len (rf_cons rf_var rf_nil)) rf_int) rf_nil))) (rfg_name (vs := [8]) (by decide)))
          (rf_seq (rf_asg (rf_val (rf_lst (rf_cons rf_non (rf_cons rf_bl (rf_cons rf_int (rf_cons rf_str (rf_cons rf_str (rf_cons rf_str (rf_cons (rf_op rfo_mul rf_str rf_int) (rf_cons rf_str (rf_cons rf_str (rf_cons (rf_tup (rf_cons rf_str rf_nil)) (rf_cons rf_str (rf_cons rf_str (rf_cons (rf_val (rf_lst (rf_cons rf_str rf_nil))) (rf_cons rf_str (rf_cons rf_str rf_nil))))))))))))))))) (rfg_name (vs := [9]) (by decide)))
          (rf_asg (rf_op rfo_add (rf_op rfo_add (rf_sl rf_var rf_noP (rf_part rf_var)) (rf_val (rf_lst (rf_cons (rf_call0 (rf_cons rf_var (rf_cons rf_var rf_nil))) rf_nil)))) (rf_sl rf_var (rf_part rf_var) rf_noP)) (rfg_name (vs := [5]) (by decide))))) rf_next)
        (rf_seq (rf_par (rf_cons (rf_val (rf_cbN rfcn_list (rf_cons rf_var rf_nil))) (rf_cons (rf_call0 (rf_cons rf_var rf_nil)) rf_nil)))
        (rf_seq (rf_ifS (rf_test (rf_op rfo_is rf_var rf_non)) (rf_asg (rf_tup (rf_cons rf_str (rf_cons (rf_call0 (rf_cons rf_var rf_nil)) rf_nil))) (rfg_name (vs := [11]) (by decide))) rf_next)
        (rf_seq (rf_ifS (rf_orT (rf_test (rf_op rfo_ne (rf_call0 (rf_cons rf_var rf_nil)) rf_var)) (rf_test (rf_op rfo_ne (rf_cb rfc_repr (rf_cons rf_var rf_nil)) (rf_cb rfc_repr (rf_cons rf_var rf_nil))))) (rf_ret rf_bl) rf_next)
        (rf_seq (rf_asg (rf_call0 (rf_cons rf_var (rf_cons (rf_val (rf_lst (rf_cons rf_str (rf_cons rf_str (rf_cons rf_str (rf_cons rf_str rf_nil)))))) rf_nil))) (rfg_name (vs := [6]) (by decide)))
        (rf_seq (rf_asg (rf_if (rf_test (rf_op rfo_eq rf_var rf_str)) (rf_call0 (rf_cons rf_var (rf_cons rf_var rf_nil))) rf_non) (rfg_name (vs := [7]) (by decide)))
        (rf_seq (rf_ifS (rf_test (rf_op rfo_eq (rf_call0 (rf_cons rf_var (rf_cons rf_int rf_nil))) rf_int)) (rf_asg (rf_call0 (rf_cons rf_var (rf_cons (rf_val (rf_lst (rf_cons rf_str (rf_cons rf_str (rf_cons rf_str (rf_cons rf_non (rf_cons rf_int (rf_cons rf_str (rf_cons (rf_tup (rf_cons rf_str rf_nil)) (rf_cons rf_str (rf_cons rf_str (rf_cons rf_str rf_nil)))))))))))) rf_nil))) (rfg_name (vs := [6]) (by decide))) rf_next)
        (rf_seq (rf_ifS (rf_test (rf_op rfo_eq (rf_call0 (rf_cons rf_var (rf_cons rf_int rf_nil))) rf_int)) (rf_asg (rf_call0 (rf_cons rf_var (rf_cons (rf_val (rf_lst (rf_cons rf_non (rf_cons (rf_op rfo_ix rf_var (rf_un rfu_neg rf_int)) (rf_cons (rf_call0 (rf_cons rf_var (rf_cons rf_var rf_nil))) rf_nil))))) rf_nil))) (rfg_name (vs := [7]) (by decide))) rf_next)
        (rf_seq (rf_par (rf_cons (rf_call0 (rf_cons rf_var (rf_cons rf_var (rf_cons rf_var (rf_cons rf_var rf_nil))))) (rf_cons (rf_call0 (rf_cons rf_var (rf_cons rf_var (rf_cons rf_var (rf_cons rf_var rf_nil))))) rf_nil)))
        (rf_seq (rf_ifS (rf_test (rf_op rfo_ne (rf_cb (rfc_isi (kt T)) (rf_cons rf_var (rf_cons (rf_c (d := .cls "Limit") fun _ => rfl) rf_nil))) (rf_op rfo_is rf_var rf_non))) (rf_ret rf_bl) rf_next)
        (rf_seq (rf_ifS (rf_andT (rf_test (rf_op rfo_is rf_var rf_non)) (rf_test (rf_op rfo_ne rf_var rf_var))) (rf_ret rf_bl) rf_next)
        (rf_seq (rf_ifS (rf_andT (rf_test (rf_op rfo_is rf_var rf_non)) (rf_notT (rf_tB (rf_call0 (rf_cons rf_var (rf_cons rf_var (rf_cons rf_var (rf_cons rf_var (rf_cons rf_var rf_nil))))))))) (rf_ret rf_bl) rf_next)
        (rf_ifS (rf_test (rf_op rfo_is rf_var rf_non)) (rf_seq (rf_asg (rf_op rfo_add (rf_val (rf_lst (rf_cons rf_str rf_nil))) (rf_sl (rf_val (rf_cbN rfcn_list (rf_cons (rf_fld (fl_answers T) rf_var) rf_nil))) rf_noP (rf_part rf_int))) (rfg_name (vs := [13]) (by decide)))
          (rf_ifS (rf_test (rf_op (rfo_eqOwn rfl) rf_var (rf_make0 rfl (Dft.non Dft.nil) (rf_cons (rf_make0 rfl Dft.nil (rf_cons rf_var rf_nil)) (rf_cons rf_str (rf_cons rf_var rf_nil)))))) (rf_ret rf_bl) rf_next)) rf_next)))))))))))))))))
      (rf_ret rf_bl)))
end
theorem all_mk {l : PySem.W.OpenLaw} {w : World} {K : PySem.W.Frag} {h : Heap} {mg : Str → Option Value} {fa : Addr} (X : K.In h) (G : h.Ns mainGlobals mg) (hfa : mg "law" = some (.ref fa))
    {MOST_LETTERS : Tok}
    {BEGINNINGS : Addr} {od_BEGINNINGS : Option Addr} {sl_BEGINNINGS : Array (Option Value)} {sn_BEGINNINGS : Nat} {t0_BEGINNINGS t1_BEGINNINGS : Tok}
    {SMALL : Tok}
    {SIGNS : Tok}
    {LIMIT_KINDS : Addr} {od_LIMIT_KINDS : Option Addr} {sl_LIMIT_KINDS : Array (Option Value)} {sn_LIMIT_KINDS : Nat} {t0_LIMIT_KINDS t1_LIMIT_KINDS t2_LIMIT_KINDS : Tok}
    {MOST_ANSWERS : Tok}
    {Letters : Addr}
    {Limit : Addr}
    {f_is_word : Addr} {od_is_word an_is_word : Option Addr} {sl_is_word : Array (Option Value)} {oc_is_word kV_is_word dc_is_word pm_is_word cd_is_word ct_is_word : Value}
    {f_is_beginning : Addr} {od_is_beginning an_is_beginning : Option Addr} {sl_is_beginning : Array (Option Value)} {oc_is_beginning kV_is_beginning dc_is_beginning pm_is_beginning cd_is_beginning ct_is_beginning : Value}
    {f_is_letter : Addr} {od_is_letter an_is_letter : Option Addr} {sl_is_letter : Array (Option Value)} {oc_is_letter kV_is_letter dc_is_letter pm_is_letter cd_is_letter ct_is_letter : Value}
    {f_Letters___init__ : Addr} {od_Letters___init__ an_Letters___init__ : Option Addr} {sl_Letters___init__ : Array (Option Value)} {oc_Letters___init__ kV_Letters___init__ dc_Letters___init__ pm_Letters___init__ cd_Letters___init__ ct_Letters___init__ : Value}
    {f_Letters___contains__ : Addr} {od_Letters___contains__ an_Letters___contains__ : Option Addr} {sl_Letters___contains__ : Array (Option Value)} {oc_Letters___contains__ kV_Letters___contains__ dc_Letters___contains__ pm_Letters___contains__ cd_Letters___contains__ ct_Letters___contains__ : Value}
    {f_Letters___eq__ : Addr} {od_Letters___eq__ an_Letters___eq__ : Option Addr} {sl_Letters___eq__ : Array (Option Value)} {oc_Letters___eq__ kV_Letters___eq__ dc_Letters___eq__ pm_Letters___eq__ cd_Letters___eq__ ct_Letters___eq__ : Value}
    {f_is_one_of : Addr} {od_is_one_of an_is_one_of : Option Addr} {sl_is_one_of : Array (Option Value)} {oc_is_one_of kV_is_one_of dc_is_one_of pm_is_one_of cd_is_one_of ct_is_one_of : Value}
    {f_answer_set : Addr} {od_answer_set an_answer_set : Option Addr} {sl_answer_set : Array (Option Value)} {oc_answer_set kV_answer_set dc_answer_set pm_answer_set cd_answer_set ct_answer_set : Value}
    {f_Limit___init__ : Addr} {od_Limit___init__ an_Limit___init__ : Option Addr} {sl_Limit___init__ : Array (Option Value)} {oc_Limit___init__ kV_Limit___init__ dc_Limit___init__ pm_Limit___init__ cd_Limit___init__ ct_Limit___init__ : Value}
    {df_Limit___init__ : Addr} {dod_Limit___init__ : Option Addr} {doc_Limit___init__ : Value} {dn_Limit___init__ : Nat} {dsl_Limit___init__ : Array (Option Value)}
    {f_Limit___eq__ : Addr} {od_Limit___eq__ an_Limit___eq__ : Option Addr} {sl_Limit___eq__ : Array (Option Value)} {oc_Limit___eq__ kV_Limit___eq__ dc_Limit___eq__ pm_Limit___eq__ cd_Limit___eq__ ct_Limit___eq__ : Value}
    {f_Limit___str__ : Addr} {od_Limit___str__ an_Limit___str__ : Option Addr} {sl_Limit___str__ : Array (Option Value)} {oc_Limit___str__ kV_Limit___str__ dc_Limit___str__ pm_Limit___str__ cd_Limit___str__ ct_Limit___str__ : Value}
    {f__law_pen : Addr} {od__law_pen an__law_pen : Option Addr} {sl__law_pen : Array (Option Value)} {oc__law_pen kV__law_pen dc__law_pen pm__law_pen cd__law_pen ct__law_pen : Value}
    {f__law_draw : Addr} {od__law_draw an__law_draw : Option Addr} {sl__law_draw : Array (Option Value)} {oc__law_draw kV__law_draw dc__law_draw pm__law_draw cd__law_draw ct__law_draw : Value}
    {f__law_pick : Addr} {od__law_pick an__law_pick : Option Addr} {sl__law_pick : Array (Option Value)} {oc__law_pick kV__law_pick dc__law_pick pm__law_pick cd__law_pick ct__law_pick : Value}
    {f__law_letters : Addr} {od__law_letters an__law_letters : Option Addr} {sl__law_letters : Array (Option Value)} {oc__law_letters kV__law_letters dc__law_letters pm__law_letters cd__law_letters ct__law_letters : Value}
    {f__law_odd : Addr} {od__law_odd an__law_odd : Option Addr} {sl__law_odd : Array (Option Value)} {oc__law_odd kV__law_odd dc__law_odd pm__law_odd cd__law_odd ct__law_odd : Value}
    {f__law_free : Addr} {od__law_free an__law_free : Option Addr} {sl__law_free : Array (Option Value)} {oc__law_free kV__law_free dc__law_free pm__law_free cd__law_free ct__law_free : Value}
    {f__law_answer : Addr} {od__law_answer an__law_answer : Option Addr} {sl__law_answer : Array (Option Value)} {oc__law_answer kV__law_answer dc__law_answer pm__law_answer cd__law_answer ct__law_answer : Value}
    {f__law_is_answer : Addr} {od__law_is_answer an__law_is_answer : Option Addr} {sl__law_is_answer : Array (Option Value)} {oc__law_is_answer kV__law_is_answer dc__law_is_answer pm__law_is_answer cd__law_is_answer ct__law_is_answer : Value}
    {f__law_set : Addr} {od__law_set an__law_set : Option Addr} {sl__law_set : Array (Option Value)} {oc__law_set kV__law_set dc__law_set pm__law_set cd__law_set ct__law_set : Value}
    {f__law_due : Addr} {od__law_due an__law_due : Option Addr} {sl__law_due : Array (Option Value)} {oc__law_due kV__law_due dc__law_due pm__law_due cd__law_due ct__law_due : Value}
    {f__law_told : Addr} {od__law_told an__law_told : Option Addr} {sl__law_told : Array (Option Value)} {oc__law_told kV__law_told dc__law_told pm__law_told cd__law_told ct__law_told : Value}
    {f__law_limit : Addr} {od__law_limit an__law_limit : Option Addr} {sl__law_limit : Array (Option Value)} {oc__law_limit kV__law_limit dc__law_limit pm__law_limit cd__law_limit ct__law_limit : Value}
    {f__law_limit_due : Addr} {od__law_limit_due an__law_limit_due : Option Addr} {sl__law_limit_due : Array (Option Value)} {oc__law_limit_due kV__law_limit_due dc__law_limit_due pm__law_limit_due cd__law_limit_due ct__law_limit_due : Value}
    {f__law_is_right : Addr} {od__law_is_right an__law_is_right : Option Addr} {sl__law_is_right : Array (Option Value)} {oc__law_is_right kV__law_is_right dc__law_is_right pm__law_is_right cd__law_is_right ct__law_is_right : Value}
    {f_law : Addr} {od_law an_law : Option Addr} {sl_law : Array (Option Value)} {oc_law kV_law dc_law pm_law cd_law ct_law : Value}
    {AsksError : Addr}
    {BadLetters : Addr}
    {f_BadLetters___init__ cc_BadLetters c_BadLetters N_BadLetters : Addr} {nm_BadLetters q_BadLetters : Str} {bs_BadLetters sub_BadLetters : List Value} {sn_BadLetters : List Str} {ab_BadLetters : Bool} {col_BadLetters : Option Bool} {dd_BadLetters : Option Addr} {m0_BadLetters m1_BadLetters m2_BadLetters m3_BadLetters m5_BadLetters : Option Value} {oc_BadLetters doc_BadLetters pm_BadLetters ctv_BadLetters e1_BadLetters e3_BadLetters : Value} {od_BadLetters e2_BadLetters e4_BadLetters : Option Addr} {osl_BadLetters e5_BadLetters e6_BadLetters : Array (Option Value)} {vs_BadLetters : Array Value} {file_BadLetters : Str} {tf_BadLetters : Tok}
    {BadLetter : Addr}
    {f_BadLetter___init__ cc_BadLetter c_BadLetter N_BadLetter : Addr} {nm_BadLetter q_BadLetter : Str} {bs_BadLetter sub_BadLetter : List Value} {sn_BadLetter : List Str} {ab_BadLetter : Bool} {col_BadLetter : Option Bool} {dd_BadLetter : Option Addr} {m0_BadLetter m1_BadLetter m2_BadLetter m3_BadLetter m5_BadLetter : Option Value} {oc_BadLetter doc_BadLetter pm_BadLetter ctv_BadLetter e1_BadLetter e3_BadLetter : Value} {od_BadLetter e2_BadLetter e4_BadLetter : Option Addr} {osl_BadLetter e5_BadLetter e6_BadLetter : Array (Option Value)} {vs_BadLetter : Array Value} {file_BadLetter : Str} {tf_BadLetter : Tok}
    {BadKind : Addr}
    {BadAnswers : Addr}
    {f_BadAnswers___init__ cc_BadAnswers c_BadAnswers N_BadAnswers : Addr} {nm_BadAnswers q_BadAnswers : Str} {bs_BadAnswers sub_BadAnswers : List Value} {sn_BadAnswers : List Str} {ab_BadAnswers : Bool} {col_BadAnswers : Option Bool} {dd_BadAnswers : Option Addr} {m0_BadAnswers m1_BadAnswers m2_BadAnswers m3_BadAnswers m5_BadAnswers : Option Value} {oc_BadAnswers doc_BadAnswers pm_BadAnswers ctv_BadAnswers e1_BadAnswers e3_BadAnswers : Value} {od_BadAnswers e2_BadAnswers e4_BadAnswers : Option Addr} {osl_BadAnswers e5_BadAnswers e6_BadAnswers : Array (Option Value)} {vs_BadAnswers : Array Value} {file_BadAnswers : Str} {tf_BadAnswers : Tok}
    {TooMany : Addr}
    {f_TooMany___init__ cc_TooMany c_TooMany N_TooMany : Addr} {nm_TooMany q_TooMany : Str} {bs_TooMany sub_TooMany : List Value} {sn_TooMany : List Str} {ab_TooMany : Bool} {col_TooMany : Option Bool} {dd_TooMany : Option Addr} {m0_TooMany m1_TooMany m2_TooMany m3_TooMany m5_TooMany : Option Value} {oc_TooMany doc_TooMany pm_TooMany ctv_TooMany e1_TooMany e3_TooMany : Value} {od_TooMany e2_TooMany e4_TooMany : Option Addr} {osl_TooMany e5_TooMany e6_TooMany : Array (Option Value)} {vs_TooMany : Array Value} {file_TooMany : Str} {tf_TooMany : Tok}
    (z_abs : PySem.W.nsIn K mainGlobals "abs" = some none)
    (z_all : PySem.W.nsIn K mainGlobals "all" = some none)
    (z_enumerate : PySem.W.nsIn K mainGlobals "enumerate" = some none)
    (z_int : PySem.W.nsIn K mainGlobals "int" = some none)
    (z_isinstance : PySem.W.nsIn K mainGlobals "isinstance" = some none)
    (z_len : PySem.W.nsIn K mainGlobals "len" = some none)
    (z_list : PySem.W.nsIn K mainGlobals "list" = some none)
    (z_min : PySem.W.nsIn K mainGlobals "min" = some none)
    (z_range : PySem.W.nsIn K mainGlobals "range" = some none)
    (z_repr : PySem.W.nsIn K mainGlobals "repr" = some none)
    (z_set : PySem.W.nsIn K mainGlobals "set" = some none)
    (z_sorted : PySem.W.nsIn K mainGlobals "sorted" = some none)
    (z_str : PySem.W.nsIn K mainGlobals "str" = some none)
    (z_tuple : PySem.W.nsIn K mainGlobals "tuple" = some none)
    (h_MOST_LETTERS : PySem.W.nsIn K mainGlobals "MOST_LETTERS" = some (some (.int 12 MOST_LETTERS)))
    (h_BEGINNINGS : PySem.W.nsIn K mainGlobals "BEGINNINGS" = some (some (.ref BEGINNINGS)))
    (lk_BEGINNINGS : K.lookup BEGINNINGS = some ⟨.type "tuple", od_BEGINNINGS, .seq #[.str "new" t0_BEGINNINGS, .str "found" t1_BEGINNINGS] sn_BEGINNINGS, sl_BEGINNINGS⟩)
    (h_SMALL : PySem.W.nsIn K mainGlobals "SMALL" = some (some (.str "abcdefghijklmnopqrstuvwxyz" SMALL)))
    (h_SIGNS : PySem.W.nsIn K mainGlobals "SIGNS" = some (some (.str "abcdefghijklmnopqrstuvwxyz0123456789" SIGNS)))
    (h_LIMIT_KINDS : PySem.W.nsIn K mainGlobals "LIMIT_KINDS" = some (some (.ref LIMIT_KINDS)))
    (lk_LIMIT_KINDS : K.lookup LIMIT_KINDS = some ⟨.type "tuple", od_LIMIT_KINDS, .seq #[.str "always" t0_LIMIT_KINDS, .str "fresh" t1_LIMIT_KINDS, .str "behind" t2_LIMIT_KINDS] sn_LIMIT_KINDS, sl_LIMIT_KINDS⟩)
    (h_MOST_ANSWERS : PySem.W.nsIn K mainGlobals "MOST_ANSWERS" = some (some (.int 6 MOST_ANSWERS)))
    (h_Letters : PySem.W.nsIn K mainGlobals "Letters" = some (some (.ref Letters)))
    (pg_Letters : PySem.W.plainGet K Letters Str.empty = true)
    (hd_Letters : PySem.W.hasDictIn K Letters = true)
    (po_Letters : PySem.W.plainOver K Letters = true)
    (sa_Letters : PySem.W.findIn K (.ref Letters) "__setattr__" = some (some (.builtin "object.__setattr__")))
    (na_Letters_words : PySem.W.findIn K (.ref Letters) "words" = some none)
    (ne_Letters : PySem.W.findIn K (.ref Letters) "__ne__" = some (some (.builtin "object.__ne__")))
    (ob_Letters : PySem.W.subIn K (.ref Letters) (.type "object") = some true)
    (ia_Letters : PySem.W.findIn K (.ref Letters) "__class__" = some (some (.builtin "object.__class__")))
    (in_Letters : PySem.W.specialIn K (.builtin "object.__class__") "__get__" = some (some (.builtin "getset_descriptor.__get__")))
    (it_Letters : PySem.W.takesIn K (.builtin "object.__class__") = some true)
    (im_Letters : PySem.W.mroIn K Letters (.type "object") = some true)
    (h_Limit : PySem.W.nsIn K mainGlobals "Limit" = some (some (.ref Limit)))
    (pg_Limit : PySem.W.plainGet K Limit Str.empty = true)
    (hd_Limit : PySem.W.hasDictIn K Limit = true)
    (po_Limit : PySem.W.plainOver K Limit = true)
    (sa_Limit : PySem.W.findIn K (.ref Limit) "__setattr__" = some (some (.builtin "object.__setattr__")))
    (na_Limit_letters : PySem.W.findIn K (.ref Limit) "letters" = some none)
    (na_Limit_kind : PySem.W.findIn K (.ref Limit) "kind" = some none)
    (na_Limit_answers : PySem.W.findIn K (.ref Limit) "answers" = some none)
    (na_Limit_letter : PySem.W.findIn K (.ref Limit) "letter" = some none)
    (ne_Limit : PySem.W.findIn K (.ref Limit) "__ne__" = some (some (.builtin "object.__ne__")))
    (ob_Limit : PySem.W.subIn K (.ref Limit) (.type "object") = some true)
    (ia_Limit : PySem.W.findIn K (.ref Limit) "__class__" = some (some (.builtin "object.__class__")))
    (in_Limit : PySem.W.specialIn K (.builtin "object.__class__") "__get__" = some (some (.builtin "getset_descriptor.__get__")))
    (it_Limit : PySem.W.takesIn K (.builtin "object.__class__") = some true)
    (im_Limit : PySem.W.mroIn K Limit (.type "object") = some true)
    (a_is_word : PySem.W.nsIn K mainGlobals "is_word" = some (some (.ref f_is_word)))
    (l_is_word : K.lookup f_is_word = some ⟨oc_is_word, od_is_word, .func (PySem.W.fnOf "is_word" "is_word" (defArgs s_is_word) (defBody s_is_word) (defScope s_is_word) .none kV_is_word dc_is_word pm_is_word an_is_word cd_is_word ct_is_word), sl_is_word⟩)
    (c_is_word : PySem.W.codeIn K cd_is_word "is_word" = true)
    (k_is_word : PySem.W.keepIn K (.ref f_is_word) = true)
    (a_is_beginning : PySem.W.nsIn K mainGlobals "is_beginning" = some (some (.ref f_is_beginning)))
    (l_is_beginning : K.lookup f_is_beginning = some ⟨oc_is_beginning, od_is_beginning, .func (PySem.W.fnOf "is_beginning" "is_beginning" (defArgs s_is_beginning) (defBody s_is_beginning) (defScope s_is_beginning) .none kV_is_beginning dc_is_beginning pm_is_beginning an_is_beginning cd_is_beginning ct_is_beginning), sl_is_beginning⟩)
    (c_is_beginning : PySem.W.codeIn K cd_is_beginning "is_beginning" = true)
    (k_is_beginning : PySem.W.keepIn K (.ref f_is_beginning) = true)
    (a_is_letter : PySem.W.nsIn K mainGlobals "is_letter" = some (some (.ref f_is_letter)))
    (l_is_letter : K.lookup f_is_letter = some ⟨oc_is_letter, od_is_letter, .func (PySem.W.fnOf "is_letter" "is_letter" (defArgs s_is_letter) (defBody s_is_letter) (defScope s_is_letter) .none kV_is_letter dc_is_letter pm_is_letter an_is_letter cd_is_letter ct_is_letter), sl_is_letter⟩)
    (c_is_letter : PySem.W.codeIn K cd_is_letter "is_letter" = true)
    (k_is_letter : PySem.W.keepIn K (.ref f_is_letter) = true)
    (a_Letters___init__ : PySem.W.findIn K (.ref Letters) "__init__" = some (some (.ref f_Letters___init__)))
    (i_Letters___init__ : PySem.W.isFn K (.ref f_Letters___init__) = true)
    (l_Letters___init__ : K.lookup f_Letters___init__ = some ⟨oc_Letters___init__, od_Letters___init__, .func (PySem.W.fnOf "__init__" "Letters.__init__" (defArgs s_Letters___init__) (defBody s_Letters___init__) (defScope s_Letters___init__) .none kV_Letters___init__ dc_Letters___init__ pm_Letters___init__ an_Letters___init__ cd_Letters___init__ ct_Letters___init__), sl_Letters___init__⟩)
    (c_Letters___init__ : PySem.W.codeIn K cd_Letters___init__ "Letters.__init__" = true)
    (k_Letters___init__ : PySem.W.keepIn K (.ref f_Letters___init__) = true)
    (a_Letters___contains__ : PySem.W.findIn K (.ref Letters) "__contains__" = some (some (.ref f_Letters___contains__)))
    (i_Letters___contains__ : PySem.W.isFn K (.ref f_Letters___contains__) = true)
    (l_Letters___contains__ : K.lookup f_Letters___contains__ = some ⟨oc_Letters___contains__, od_Letters___contains__, .func (PySem.W.fnOf "__contains__" "Letters.__contains__" (defArgs s_Letters___contains__) (defBody s_Letters___contains__) (defScope s_Letters___contains__) .none kV_Letters___contains__ dc_Letters___contains__ pm_Letters___contains__ an_Letters___contains__ cd_Letters___contains__ ct_Letters___contains__), sl_Letters___contains__⟩)
    (c_Letters___contains__ : PySem.W.codeIn K cd_Letters___contains__ "Letters.__contains__" = true)
    (k_Letters___contains__ : PySem.W.keepIn K (.ref f_Letters___contains__) = true)
    (a_Letters___eq__ : PySem.W.findIn K (.ref Letters) "__eq__" = some (some (.ref f_Letters___eq__)))
    (i_Letters___eq__ : PySem.W.isFn K (.ref f_Letters___eq__) = true)
    (l_Letters___eq__ : K.lookup f_Letters___eq__ = some ⟨oc_Letters___eq__, od_Letters___eq__, .func (PySem.W.fnOf "__eq__" "Letters.__eq__" (defArgs s_Letters___eq__) (defBody s_Letters___eq__) (defScope s_Letters___eq__) .none kV_Letters___eq__ dc_Letters___eq__ pm_Letters___eq__ an_Letters___eq__ cd_Letters___eq__ ct_Letters___eq__), sl_Letters___eq__⟩)
    (c_Letters___eq__ : PySem.W.codeIn K cd_Letters___eq__ "Letters.__eq__" = true)
    (k_Letters___eq__ : PySem.W.keepIn K (.ref f_Letters___eq__) = true)
    (a_is_one_of : PySem.W.nsIn K mainGlobals "is_one_of" = some (some (.ref f_is_one_of)))
    (l_is_one_of : K.lookup f_is_one_of = some ⟨oc_is_one_of, od_is_one_of, .func (PySem.W.fnOf "is_one_of" "is_one_of" (defArgs s_is_one_of) (defBody s_is_one_of) (defScope s_is_one_of) .none kV_is_one_of dc_is_one_of pm_is_one_of an_is_one_of cd_is_one_of ct_is_one_of), sl_is_one_of⟩)
    (c_is_one_of : PySem.W.codeIn K cd_is_one_of "is_one_of" = true)
    (k_is_one_of : PySem.W.keepIn K (.ref f_is_one_of) = true)
    (a_answer_set : PySem.W.nsIn K mainGlobals "answer_set" = some (some (.ref f_answer_set)))
    (l_answer_set : K.lookup f_answer_set = some ⟨oc_answer_set, od_answer_set, .func (PySem.W.fnOf "answer_set" "answer_set" (defArgs s_answer_set) (defBody s_answer_set) (defScope s_answer_set) .none kV_answer_set dc_answer_set pm_answer_set an_answer_set cd_answer_set ct_answer_set), sl_answer_set⟩)
    (c_answer_set : PySem.W.codeIn K cd_answer_set "answer_set" = true)
    (k_answer_set : PySem.W.keepIn K (.ref f_answer_set) = true)
    (a_Limit___init__ : PySem.W.findIn K (.ref Limit) "__init__" = some (some (.ref f_Limit___init__)))
    (i_Limit___init__ : PySem.W.isFn K (.ref f_Limit___init__) = true)
    (l_Limit___init__ : K.lookup f_Limit___init__ = some ⟨oc_Limit___init__, od_Limit___init__, .func (PySem.W.fnOf "__init__" "Limit.__init__" (defArgs s_Limit___init__) (defBody s_Limit___init__) (defScope s_Limit___init__) (.ref df_Limit___init__) kV_Limit___init__ dc_Limit___init__ pm_Limit___init__ an_Limit___init__ cd_Limit___init__ ct_Limit___init__), sl_Limit___init__⟩)
    (c_Limit___init__ : PySem.W.codeIn K cd_Limit___init__ "Limit.__init__" = true)
    (k_Limit___init__ : PySem.W.keepIn K (.ref f_Limit___init__) = true)
    (d_Limit___init__ : K.lookup df_Limit___init__ = some ⟨doc_Limit___init__, dod_Limit___init__, .seq [Value.none].toArray dn_Limit___init__, dsl_Limit___init__⟩)
    (a_Limit___eq__ : PySem.W.findIn K (.ref Limit) "__eq__" = some (some (.ref f_Limit___eq__)))
    (i_Limit___eq__ : PySem.W.isFn K (.ref f_Limit___eq__) = true)
    (l_Limit___eq__ : K.lookup f_Limit___eq__ = some ⟨oc_Limit___eq__, od_Limit___eq__, .func (PySem.W.fnOf "__eq__" "Limit.__eq__" (defArgs s_Limit___eq__) (defBody s_Limit___eq__) (defScope s_Limit___eq__) .none kV_Limit___eq__ dc_Limit___eq__ pm_Limit___eq__ an_Limit___eq__ cd_Limit___eq__ ct_Limit___eq__), sl_Limit___eq__⟩)
    (c_Limit___eq__ : PySem.W.codeIn K cd_Limit___eq__ "Limit.__eq__" = true)
    (k_Limit___eq__ : PySem.W.keepIn K (.ref f_Limit___eq__) = true)
    (a_Limit___str__ : PySem.W.findIn K (.ref Limit) "__str__" = some (some (.ref f_Limit___str__)))
    (i_Limit___str__ : PySem.W.isFn K (.ref f_Limit___str__) = true)
    (l_Limit___str__ : K.lookup f_Limit___str__ = some ⟨oc_Limit___str__, od_Limit___str__, .func (PySem.W.fnOf "__str__" "Limit.__str__" (defArgs s_Limit___str__) (defBody s_Limit___str__) (defScope s_Limit___str__) .none kV_Limit___str__ dc_Limit___str__ pm_Limit___str__ an_Limit___str__ cd_Limit___str__ ct_Limit___str__), sl_Limit___str__⟩)
    (c_Limit___str__ : PySem.W.codeIn K cd_Limit___str__ "Limit.__str__" = true)
    (k_Limit___str__ : PySem.W.keepIn K (.ref f_Limit___str__) = true)
    (a__law_pen : PySem.W.nsIn K mainGlobals "_law_pen" = some (some (.ref f__law_pen)))
    (l__law_pen : K.lookup f__law_pen = some ⟨oc__law_pen, od__law_pen, .func (PySem.W.fnOf "_law_pen" "_law_pen" (defArgs s__law_pen) (defBody s__law_pen) (defScope s__law_pen) .none kV__law_pen dc__law_pen pm__law_pen an__law_pen cd__law_pen ct__law_pen), sl__law_pen⟩)
    (c__law_pen : PySem.W.codeIn K cd__law_pen "_law_pen" = true)
    (k__law_pen : PySem.W.keepIn K (.ref f__law_pen) = true)
    (a__law_draw : PySem.W.nsIn K mainGlobals "_law_draw" = some (some (.ref f__law_draw)))
    (l__law_draw : K.lookup f__law_draw = some ⟨oc__law_draw, od__law_draw, .func (PySem.W.fnOf "_law_draw" "_law_draw" (defArgs s__law_draw) (defBody s__law_draw) (defScope s__law_draw) .none kV__law_draw dc__law_draw pm__law_draw an__law_draw cd__law_draw ct__law_draw), sl__law_draw⟩)
    (c__law_draw : PySem.W.codeIn K cd__law_draw "_law_draw" = true)
    (k__law_draw : PySem.W.keepIn K (.ref f__law_draw) = true)
    (a__law_pick : PySem.W.nsIn K mainGlobals "_law_pick" = some (some (.ref f__law_pick)))
    (l__law_pick : K.lookup f__law_pick = some ⟨oc__law_pick, od__law_pick, .func (PySem.W.fnOf "_law_pick" "_law_pick" (defArgs s__law_pick) (defBody s__law_pick) (defScope s__law_pick) .none kV__law_pick dc__law_pick pm__law_pick an__law_pick cd__law_pick ct__law_pick), sl__law_pick⟩)
    (c__law_pick : PySem.W.codeIn K cd__law_pick "_law_pick" = true)
    (k__law_pick : PySem.W.keepIn K (.ref f__law_pick) = true)
    (a__law_letters : PySem.W.nsIn K mainGlobals "_law_letters" = some (some (.ref f__law_letters)))
    (l__law_letters : K.lookup f__law_letters = some ⟨oc__law_letters, od__law_letters, .func (PySem.W.fnOf "_law_letters" "_law_letters" (defArgs s__law_letters) (defBody s__law_letters) (defScope s__law_letters) .none kV__law_letters dc__law_letters pm__law_letters an__law_letters cd__law_letters ct__law_letters), sl__law_letters⟩)
    (c__law_letters : PySem.W.codeIn K cd__law_letters "_law_letters" = true)
    (k__law_letters : PySem.W.keepIn K (.ref f__law_letters) = true)
    (a__law_odd : PySem.W.nsIn K mainGlobals "_law_odd" = some (some (.ref f__law_odd)))
    (l__law_odd : K.lookup f__law_odd = some ⟨oc__law_odd, od__law_odd, .func (PySem.W.fnOf "_law_odd" "_law_odd" (defArgs s__law_odd) (defBody s__law_odd) (defScope s__law_odd) .none kV__law_odd dc__law_odd pm__law_odd an__law_odd cd__law_odd ct__law_odd), sl__law_odd⟩)
    (c__law_odd : PySem.W.codeIn K cd__law_odd "_law_odd" = true)
    (k__law_odd : PySem.W.keepIn K (.ref f__law_odd) = true)
    (a__law_free : PySem.W.nsIn K mainGlobals "_law_free" = some (some (.ref f__law_free)))
    (l__law_free : K.lookup f__law_free = some ⟨oc__law_free, od__law_free, .func (PySem.W.fnOf "_law_free" "_law_free" (defArgs s__law_free) (defBody s__law_free) (defScope s__law_free) .none kV__law_free dc__law_free pm__law_free an__law_free cd__law_free ct__law_free), sl__law_free⟩)
    (c__law_free : PySem.W.codeIn K cd__law_free "_law_free" = true)
    (k__law_free : PySem.W.keepIn K (.ref f__law_free) = true)
    (a__law_answer : PySem.W.nsIn K mainGlobals "_law_answer" = some (some (.ref f__law_answer)))
    (l__law_answer : K.lookup f__law_answer = some ⟨oc__law_answer, od__law_answer, .func (PySem.W.fnOf "_law_answer" "_law_answer" (defArgs s__law_answer) (defBody s__law_answer) (defScope s__law_answer) .none kV__law_answer dc__law_answer pm__law_answer an__law_answer cd__law_answer ct__law_answer), sl__law_answer⟩)
    (c__law_answer : PySem.W.codeIn K cd__law_answer "_law_answer" = true)
    (k__law_answer : PySem.W.keepIn K (.ref f__law_answer) = true)
    (a__law_is_answer : PySem.W.nsIn K mainGlobals "_law_is_answer" = some (some (.ref f__law_is_answer)))
    (l__law_is_answer : K.lookup f__law_is_answer = some ⟨oc__law_is_answer, od__law_is_answer, .func (PySem.W.fnOf "_law_is_answer" "_law_is_answer" (defArgs s__law_is_answer) (defBody s__law_is_answer) (defScope s__law_is_answer) .none kV__law_is_answer dc__law_is_answer pm__law_is_answer an__law_is_answer cd__law_is_answer ct__law_is_answer), sl__law_is_answer⟩)
    (c__law_is_answer : PySem.W.codeIn K cd__law_is_answer "_law_is_answer" = true)
    (k__law_is_answer : PySem.W.keepIn K (.ref f__law_is_answer) = true)
    (a__law_set : PySem.W.nsIn K mainGlobals "_law_set" = some (some (.ref f__law_set)))
    (l__law_set : K.lookup f__law_set = some ⟨oc__law_set, od__law_set, .func (PySem.W.fnOf "_law_set" "_law_set" (defArgs s__law_set) (defBody s__law_set) (defScope s__law_set) .none kV__law_set dc__law_set pm__law_set an__law_set cd__law_set ct__law_set), sl__law_set⟩)
    (c__law_set : PySem.W.codeIn K cd__law_set "_law_set" = true)
    (k__law_set : PySem.W.keepIn K (.ref f__law_set) = true)
    (a__law_due : PySem.W.nsIn K mainGlobals "_law_due" = some (some (.ref f__law_due)))
    (l__law_due : K.lookup f__law_due = some ⟨oc__law_due, od__law_due, .func (PySem.W.fnOf "_law_due" "_law_due" (defArgs s__law_due) (defBody s__law_due) (defScope s__law_due) .none kV__law_due dc__law_due pm__law_due an__law_due cd__law_due ct__law_due), sl__law_due⟩)
    (c__law_due : PySem.W.codeIn K cd__law_due "_law_due" = true)
    (k__law_due : PySem.W.keepIn K (.ref f__law_due) = true)
    (a__law_told : PySem.W.nsIn K mainGlobals "_law_told" = some (some (.ref f__law_told)))
    (l__law_told : K.lookup f__law_told = some ⟨oc__law_told, od__law_told, .func (PySem.W.fnOf "_law_told" "_law_told" (defArgs s__law_told) (defBody s__law_told) (defScope s__law_told) .none kV__law_told dc__law_told pm__law_told an__law_told cd__law_told ct__law_told), sl__law_told⟩)
    (c__law_told : PySem.W.codeIn K cd__law_told "_law_told" = true)
    (k__law_told : PySem.W.keepIn K (.ref f__law_told) = true)
    (a__law_limit : PySem.W.nsIn K mainGlobals "_law_limit" = some (some (.ref f__law_limit)))
    (l__law_limit : K.lookup f__law_limit = some ⟨oc__law_limit, od__law_limit, .func (PySem.W.fnOf "_law_limit" "_law_limit" (defArgs s__law_limit) (defBody s__law_limit) (defScope s__law_limit) .none kV__law_limit dc__law_limit pm__law_limit an__law_limit cd__law_limit ct__law_limit), sl__law_limit⟩)
    (c__law_limit : PySem.W.codeIn K cd__law_limit "_law_limit" = true)
    (k__law_limit : PySem.W.keepIn K (.ref f__law_limit) = true)
    (a__law_limit_due : PySem.W.nsIn K mainGlobals "_law_limit_due" = some (some (.ref f__law_limit_due)))
    (l__law_limit_due : K.lookup f__law_limit_due = some ⟨oc__law_limit_due, od__law_limit_due, .func (PySem.W.fnOf "_law_limit_due" "_law_limit_due" (defArgs s__law_limit_due) (defBody s__law_limit_due) (defScope s__law_limit_due) .none kV__law_limit_due dc__law_limit_due pm__law_limit_due an__law_limit_due cd__law_limit_due ct__law_limit_due), sl__law_limit_due⟩)
    (c__law_limit_due : PySem.W.codeIn K cd__law_limit_due "_law_limit_due" = true)
    (k__law_limit_due : PySem.W.keepIn K (.ref f__law_limit_due) = true)
    (a__law_is_right : PySem.W.nsIn K mainGlobals "_law_is_right" = some (some (.ref f__law_is_right)))
    (l__law_is_right : K.lookup f__law_is_right = some ⟨oc__law_is_right, od__law_is_right, .func (PySem.W.fnOf "_law_is_right" "_law_is_right" (defArgs s__law_is_right) (defBody s__law_is_right) (defScope s__law_is_right) .none kV__law_is_right dc__law_is_right pm__law_is_right an__law_is_right cd__law_is_right ct__law_is_right), sl__law_is_right⟩)
    (c__law_is_right : PySem.W.codeIn K cd__law_is_right "_law_is_right" = true)
    (k__law_is_right : PySem.W.keepIn K (.ref f__law_is_right) = true)
    (a_law : PySem.W.nsIn K mainGlobals "law" = some (some (.ref f_law)))
    (l_law : K.lookup f_law = some ⟨oc_law, od_law, .func (PySem.W.fnOf "law" "law" (defArgs s_law) (defBody s_law) (defScope s_law) .none kV_law dc_law pm_law an_law cd_law ct_law), sl_law⟩)
    (c_law : PySem.W.codeIn K cd_law "law" = true)
    (k_law : PySem.W.keepIn K (.ref f_law) = true)
    (mk_Letters : PySem.W.makesIn K Letters = true)
    (kc_Letters : PySem.W.keepIn K (.ref Letters) = true)
    (mk_Limit : PySem.W.makesIn K Limit = true)
    (kc_Limit : PySem.W.keepIn K (.ref Limit) = true)
    (tt_Limit : PySem.W.typeIn K (.ref Limit) = some (.type "type"))
    (kt_2 : PySem.W.subIn K (.type "tuple") (.ref Limit) = some false)
    (h_AsksError : PySem.W.nsIn K mainGlobals "AsksError" = some (some (.ref AsksError)))
    (op_ : PySem.W.nsIn K cStatics "thirdparty.any" = some none)
    (z_super : PySem.W.nsIn K mainGlobals "super" = some none)
    (hst_ : (l.prog.main.scope.names.lookup ("super" : Str)).isSome = false)
    (h_BadLetters : PySem.W.nsIn K mainGlobals "BadLetters" = some (some (.ref BadLetters)))
    (sb_BadLetters : PySem.W.subIn K (.ref BadLetters) (.type "BaseException") = some true)
    (xd_BadLetters : PySem.W.hasDictIn K BadLetters = true)
    (tt_BadLetters : PySem.W.typeIn K (.ref BadLetters) = some (.type "type"))
    (kc_BadLetters : PySem.W.keepIn K (.ref BadLetters) = true)
    (su_BadLetters_BadLetters : PySem.W.subIn K (.ref BadLetters) (.ref BadLetters) = some true)
    (su_BadLetter_BadLetters : PySem.W.subIn K (.ref BadLetter) (.ref BadLetters) = some false)
    (su_BadKind_BadLetters : PySem.W.subIn K (.ref BadKind) (.ref BadLetters) = some false)
    (su_BadAnswers_BadLetters : PySem.W.subIn K (.ref BadAnswers) (.ref BadLetters) = some false)
    (su_TooMany_BadLetters : PySem.W.subIn K (.ref TooMany) (.ref BadLetters) = some false)
    (a_BadLetters___init__ : PySem.W.findIn K (.ref BadLetters) "__init__" = some (some (.ref f_BadLetters___init__)))
    (xl_BadLetters : K.lookup BadLetters = some (excClassObj nm_BadLetters q_BadLetters BadLetters N_BadLetters bs_BadLetters [.ref AsksError, .type "ValueError", .type "Exception", .type "BaseException", .type "object"] true sn_BadLetters sub_BadLetters ab_BadLetters col_BadLetters dd_BadLetters m0_BadLetters m1_BadLetters m2_BadLetters m3_BadLetters m5_BadLetters "ValueError.__new__"))
    (xs_BadLetters : PySem.W.findIn K (.ref BadLetters) "__setattr__" = some (some (.builtin "object.__setattr__")))
    (ga_BadLetters : PySem.W.findIn K (.ref BadLetters) "__getattribute__" = some (some (.builtin "BaseException.__getattribute__")))
    (gg_BadLetters : PySem.W.findIn K (.ref BadLetters) "__getattr__" = some none)
    (xa_BadLetters : PySem.W.findIn K (.ref BadLetters) "__class__" = some (some (.builtin "object.__class__")))
    (xn_BadLetters : PySem.W.specialIn K (.builtin "object.__class__") "__get__" = some (some (.builtin "getset_descriptor.__get__")))
    (xt_BadLetters : PySem.W.takesIn K (.builtin "object.__class__") = some true)
    (xm_BadLetters : PySem.W.mroIn K BadLetters (.type "object") = some true)
    (na_BadLetters_index : PySem.W.findIn K (.ref BadLetters) "index" = some none)
    (l_BadLetters___init__ : K.lookup f_BadLetters___init__ = some ⟨oc_BadLetters, od_BadLetters, .func ((F_BadLetters cc_BadLetters c_BadLetters).fd doc_BadLetters pm_BadLetters ctv_BadLetters), osl_BadLetters⟩)
    (cd_BadLetters : PySem.W.codeIn K (.ref c_BadLetters) "BadLetters.__init__" = true)
    (cl_BadLetters : K.lookup cc_BadLetters = some ⟨e1_BadLetters, e2_BadLetters, .cell (some (.ref BadLetters)), e5_BadLetters⟩)
    (fl_BadLetters : K.lookup c_BadLetters = some ⟨e3_BadLetters, e4_BadLetters, .fields vs_BadLetters, e6_BadLetters⟩)
    (rv_BadLetters : vs_BadLetters[2]? = some (.str file_BadLetters tf_BadLetters))
    (rf_BadLetters : ((l.prog.main.file : Str) == file_BadLetters) = true)
    (me_BadLetters : PySem.W.mroIn K BadLetters (.ref BadLetters) = some true)
    (up_BadLetters : PySem.W.ks_superIn K BadLetters BadLetters "__init__" = some (some (.builtin "ValueError.__init__")))
    (ve_BadLetters : PySem.W.subIn K (.ref BadLetters) (.type "ValueError") = some true)
    (ty_BadLetters : PySem.W.typeIn K (.ref f_BadLetters___init__) = some (.type "function"))
    (h_BadLetter : PySem.W.nsIn K mainGlobals "BadLetter" = some (some (.ref BadLetter)))
    (sb_BadLetter : PySem.W.subIn K (.ref BadLetter) (.type "BaseException") = some true)
    (xd_BadLetter : PySem.W.hasDictIn K BadLetter = true)
    (tt_BadLetter : PySem.W.typeIn K (.ref BadLetter) = some (.type "type"))
    (kc_BadLetter : PySem.W.keepIn K (.ref BadLetter) = true)
    (su_BadLetters_BadLetter : PySem.W.subIn K (.ref BadLetters) (.ref BadLetter) = some false)
    (su_BadLetter_BadLetter : PySem.W.subIn K (.ref BadLetter) (.ref BadLetter) = some true)
    (su_BadKind_BadLetter : PySem.W.subIn K (.ref BadKind) (.ref BadLetter) = some false)
    (su_BadAnswers_BadLetter : PySem.W.subIn K (.ref BadAnswers) (.ref BadLetter) = some false)
    (su_TooMany_BadLetter : PySem.W.subIn K (.ref TooMany) (.ref BadLetter) = some false)
    (a_BadLetter___init__ : PySem.W.findIn K (.ref BadLetter) "__init__" = some (some (.ref f_BadLetter___init__)))
    (xl_BadLetter : K.lookup BadLetter = some (excClassObj nm_BadLetter q_BadLetter BadLetter N_BadLetter bs_BadLetter [.ref AsksError, .type "ValueError", .type "Exception", .type "BaseException", .type "object"] true sn_BadLetter sub_BadLetter ab_BadLetter col_BadLetter dd_BadLetter m0_BadLetter m1_BadLetter m2_BadLetter m3_BadLetter m5_BadLetter "ValueError.__new__"))
    (xs_BadLetter : PySem.W.findIn K (.ref BadLetter) "__setattr__" = some (some (.builtin "object.__setattr__")))
    (ga_BadLetter : PySem.W.findIn K (.ref BadLetter) "__getattribute__" = some (some (.builtin "BaseException.__getattribute__")))
    (gg_BadLetter : PySem.W.findIn K (.ref BadLetter) "__getattr__" = some none)
    (xa_BadLetter : PySem.W.findIn K (.ref BadLetter) "__class__" = some (some (.builtin "object.__class__")))
    (xn_BadLetter : PySem.W.specialIn K (.builtin "object.__class__") "__get__" = some (some (.builtin "getset_descriptor.__get__")))
    (xt_BadLetter : PySem.W.takesIn K (.builtin "object.__class__") = some true)
    (xm_BadLetter : PySem.W.mroIn K BadLetter (.type "object") = some true)
    (na_BadLetter_index : PySem.W.findIn K (.ref BadLetter) "index" = some none)
    (l_BadLetter___init__ : K.lookup f_BadLetter___init__ = some ⟨oc_BadLetter, od_BadLetter, .func ((F_BadLetter cc_BadLetter c_BadLetter).fd doc_BadLetter pm_BadLetter ctv_BadLetter), osl_BadLetter⟩)
    (cd_BadLetter : PySem.W.codeIn K (.ref c_BadLetter) "BadLetter.__init__" = true)
    (cl_BadLetter : K.lookup cc_BadLetter = some ⟨e1_BadLetter, e2_BadLetter, .cell (some (.ref BadLetter)), e5_BadLetter⟩)
    (fl_BadLetter : K.lookup c_BadLetter = some ⟨e3_BadLetter, e4_BadLetter, .fields vs_BadLetter, e6_BadLetter⟩)
    (rv_BadLetter : vs_BadLetter[2]? = some (.str file_BadLetter tf_BadLetter))
    (rf_BadLetter : ((l.prog.main.file : Str) == file_BadLetter) = true)
    (me_BadLetter : PySem.W.mroIn K BadLetter (.ref BadLetter) = some true)
    (up_BadLetter : PySem.W.ks_superIn K BadLetter BadLetter "__init__" = some (some (.builtin "ValueError.__init__")))
    (ve_BadLetter : PySem.W.subIn K (.ref BadLetter) (.type "ValueError") = some true)
    (ty_BadLetter : PySem.W.typeIn K (.ref f_BadLetter___init__) = some (.type "function"))
    (h_BadKind : PySem.W.nsIn K mainGlobals "BadKind" = some (some (.ref BadKind)))
    (sb_BadKind : PySem.W.subIn K (.ref BadKind) (.type "BaseException") = some true)
    (xd_BadKind : PySem.W.hasDictIn K BadKind = true)
    (tt_BadKind : PySem.W.typeIn K (.ref BadKind) = some (.type "type"))
    (kc_BadKind : PySem.W.keepIn K (.ref BadKind) = true)
    (su_BadLetters_BadKind : PySem.W.subIn K (.ref BadLetters) (.ref BadKind) = some false)
    (su_BadLetter_BadKind : PySem.W.subIn K (.ref BadLetter) (.ref BadKind) = some false)
    (su_BadKind_BadKind : PySem.W.subIn K (.ref BadKind) (.ref BadKind) = some true)
    (su_BadAnswers_BadKind : PySem.W.subIn K (.ref BadAnswers) (.ref BadKind) = some false)
    (su_TooMany_BadKind : PySem.W.subIn K (.ref TooMany) (.ref BadKind) = some false)
    (xq_BadKind : PySem.W.excIn K BadKind [.type "ValueError", .type "Exception", .type "BaseException", .type "object"] "ValueError.__new__" = true)
    (h_BadAnswers : PySem.W.nsIn K mainGlobals "BadAnswers" = some (some (.ref BadAnswers)))
    (sb_BadAnswers : PySem.W.subIn K (.ref BadAnswers) (.type "BaseException") = some true)
    (xd_BadAnswers : PySem.W.hasDictIn K BadAnswers = true)
    (tt_BadAnswers : PySem.W.typeIn K (.ref BadAnswers) = some (.type "type"))
    (kc_BadAnswers : PySem.W.keepIn K (.ref BadAnswers) = true)
    (su_BadLetters_BadAnswers : PySem.W.subIn K (.ref BadLetters) (.ref BadAnswers) = some false)
    (su_BadLetter_BadAnswers : PySem.W.subIn K (.ref BadLetter) (.ref BadAnswers) = some false)
    (su_BadKind_BadAnswers : PySem.W.subIn K (.ref BadKind) (.ref BadAnswers) = some false)
    (su_BadAnswers_BadAnswers : PySem.W.subIn K (.ref BadAnswers) (.ref BadAnswers) = some true)
    (su_TooMany_BadAnswers : PySem.W.subIn K (.ref TooMany) (.ref BadAnswers) = some false)
    (a_BadAnswers___init__ : PySem.W.findIn K (.ref BadAnswers) "__init__" = some (some (.ref f_BadAnswers___init__)))
    (xl_BadAnswers : K.lookup BadAnswers = some (excClassObj nm_BadAnswers q_BadAnswers BadAnswers N_BadAnswers bs_BadAnswers [.ref AsksError, .type "ValueError", .type "Exception", .type "BaseException", .type "object"] true sn_BadAnswers sub_BadAnswers ab_BadAnswers col_BadAnswers dd_BadAnswers m0_BadAnswers m1_BadAnswers m2_BadAnswers m3_BadAnswers m5_BadAnswers "ValueError.__new__"))
    (xs_BadAnswers : PySem.W.findIn K (.ref BadAnswers) "__setattr__" = some (some (.builtin "object.__setattr__")))
    (ga_BadAnswers : PySem.W.findIn K (.ref BadAnswers) "__getattribute__" = some (some (.builtin "BaseException.__getattribute__")))
    (gg_BadAnswers : PySem.W.findIn K (.ref BadAnswers) "__getattr__" = some none)
    (xa_BadAnswers : PySem.W.findIn K (.ref BadAnswers) "__class__" = some (some (.builtin "object.__class__")))
    (xn_BadAnswers : PySem.W.specialIn K (.builtin "object.__class__") "__get__" = some (some (.builtin "getset_descriptor.__get__")))
    (xt_BadAnswers : PySem.W.takesIn K (.builtin "object.__class__") = some true)
    (xm_BadAnswers : PySem.W.mroIn K BadAnswers (.type "object") = some true)
    (na_BadAnswers_index : PySem.W.findIn K (.ref BadAnswers) "index" = some none)
    (l_BadAnswers___init__ : K.lookup f_BadAnswers___init__ = some ⟨oc_BadAnswers, od_BadAnswers, .func ((F_BadAnswers cc_BadAnswers c_BadAnswers).fd doc_BadAnswers pm_BadAnswers ctv_BadAnswers), osl_BadAnswers⟩)
    (cd_BadAnswers : PySem.W.codeIn K (.ref c_BadAnswers) "BadAnswers.__init__" = true)
    (cl_BadAnswers : K.lookup cc_BadAnswers = some ⟨e1_BadAnswers, e2_BadAnswers, .cell (some (.ref BadAnswers)), e5_BadAnswers⟩)
    (fl_BadAnswers : K.lookup c_BadAnswers = some ⟨e3_BadAnswers, e4_BadAnswers, .fields vs_BadAnswers, e6_BadAnswers⟩)
    (rv_BadAnswers : vs_BadAnswers[2]? = some (.str file_BadAnswers tf_BadAnswers))
    (rf_BadAnswers : ((l.prog.main.file : Str) == file_BadAnswers) = true)
    (me_BadAnswers : PySem.W.mroIn K BadAnswers (.ref BadAnswers) = some true)
    (up_BadAnswers : PySem.W.ks_superIn K BadAnswers BadAnswers "__init__" = some (some (.builtin "ValueError.__init__")))
    (ve_BadAnswers : PySem.W.subIn K (.ref BadAnswers) (.type "ValueError") = some true)
    (ty_BadAnswers : PySem.W.typeIn K (.ref f_BadAnswers___init__) = some (.type "function"))
    (h_TooMany : PySem.W.nsIn K mainGlobals "TooMany" = some (some (.ref TooMany)))
    (sb_TooMany : PySem.W.subIn K (.ref TooMany) (.type "BaseException") = some true)
    (xd_TooMany : PySem.W.hasDictIn K TooMany = true)
    (tt_TooMany : PySem.W.typeIn K (.ref TooMany) = some (.type "type"))
    (kc_TooMany : PySem.W.keepIn K (.ref TooMany) = true)
    (su_BadLetters_TooMany : PySem.W.subIn K (.ref BadLetters) (.ref TooMany) = some false)
    (su_BadLetter_TooMany : PySem.W.subIn K (.ref BadLetter) (.ref TooMany) = some false)
    (su_BadKind_TooMany : PySem.W.subIn K (.ref BadKind) (.ref TooMany) = some false)
    (su_BadAnswers_TooMany : PySem.W.subIn K (.ref BadAnswers) (.ref TooMany) = some false)
    (su_TooMany_TooMany : PySem.W.subIn K (.ref TooMany) (.ref TooMany) = some true)
    (a_TooMany___init__ : PySem.W.findIn K (.ref TooMany) "__init__" = some (some (.ref f_TooMany___init__)))
    (xl_TooMany : K.lookup TooMany = some (excClassObj nm_TooMany q_TooMany TooMany N_TooMany bs_TooMany [.ref AsksError, .type "ValueError", .type "Exception", .type "BaseException", .type "object"] true sn_TooMany sub_TooMany ab_TooMany col_TooMany dd_TooMany m0_TooMany m1_TooMany m2_TooMany m3_TooMany m5_TooMany "ValueError.__new__"))
    (xs_TooMany : PySem.W.findIn K (.ref TooMany) "__setattr__" = some (some (.builtin "object.__setattr__")))
    (ga_TooMany : PySem.W.findIn K (.ref TooMany) "__getattribute__" = some (some (.builtin "BaseException.__getattribute__")))
    (gg_TooMany : PySem.W.findIn K (.ref TooMany) "__getattr__" = some none)
    (xa_TooMany : PySem.W.findIn K (.ref TooMany) "__class__" = some (some (.builtin "object.__class__")))
    (xn_TooMany : PySem.W.specialIn K (.builtin "object.__class__") "__get__" = some (some (.builtin "getset_descriptor.__get__")))
    (xt_TooMany : PySem.W.takesIn K (.builtin "object.__class__") = some true)
    (xm_TooMany : PySem.W.mroIn K TooMany (.type "object") = some true)
    (na_TooMany_what : PySem.W.findIn K (.ref TooMany) "what" = some none)
    (na_TooMany_many : PySem.W.findIn K (.ref TooMany) "many" = some none)
    (na_TooMany_most : PySem.W.findIn K (.ref TooMany) "most" = some none)
    (l_TooMany___init__ : K.lookup f_TooMany___init__ = some ⟨oc_TooMany, od_TooMany, .func ((F_TooMany cc_TooMany c_TooMany).fd doc_TooMany pm_TooMany ctv_TooMany), osl_TooMany⟩)
    (cd_TooMany : PySem.W.codeIn K (.ref c_TooMany) "TooMany.__init__" = true)
    (cl_TooMany : K.lookup cc_TooMany = some ⟨e1_TooMany, e2_TooMany, .cell (some (.ref TooMany)), e5_TooMany⟩)
    (fl_TooMany : K.lookup c_TooMany = some ⟨e3_TooMany, e4_TooMany, .fields vs_TooMany, e6_TooMany⟩)
    (rv_TooMany : vs_TooMany[2]? = some (.str file_TooMany tf_TooMany))
    (rf_TooMany : ((l.prog.main.file : Str) == file_TooMany) = true)
    (me_TooMany : PySem.W.mroIn K TooMany (.ref TooMany) = some true)
    (up_TooMany : PySem.W.ks_superIn K TooMany TooMany "__init__" = some (some (.builtin "ValueError.__init__")))
    (ve_TooMany : PySem.W.subIn K (.ref TooMany) (.type "ValueError") = some true)
    (ty_TooMany : PySem.W.typeIn K (.ref f_TooMany___init__) = some (.type "function"))
    : ∃ fd : FuncData, (∀ (s : Shared) (v : Value), BindsTo s fd ⟨[v], []⟩ [("_law_script", v)]) ∧ ∀ base : Heap, K.In base → base.Ns mainGlobals mg → FnOkG l.prog w K mg base CX0 7 fa fd ["_law_script"] (spLaw K) := by
  have e := hfa.symm.trans (PySem.W.mg_of X G a_law)
  cases e
  have T : Txt l.prog K mg ⟨Letters, Limit, BadLetters, f_BadLetters___init__, BadLetter, f_BadLetter___init__, BadKind, BadAnswers, f_BadAnswers___init__, TooMany, f_TooMany___init__, MOST_LETTERS, BEGINNINGS, SMALL, SIGNS, LIMIT_KINDS, MOST_ANSWERS, f_is_word, f_is_beginning, f_is_letter, f_Letters___init__, f_Letters___contains__, f_Letters___eq__, f_is_one_of, f_answer_set, f_Limit___init__, f_Limit___eq__, f_Limit___str__, f__law_pen, f__law_draw, f__law_pick, f__law_letters, f__law_odd, f__law_free, f__law_answer, f__law_is_answer, f__law_set, f__law_due, f__law_told, f__law_limit, f__law_limit_due, f__law_is_right, fa⟩ := {
    n_abs := PySem.W.mg_none_of X G z_abs,
    n_all := PySem.W.mg_none_of X G z_all,
    n_enumerate := PySem.W.mg_none_of X G z_enumerate,
    n_int := PySem.W.mg_none_of X G z_int,
    n_isinstance := PySem.W.mg_none_of X G z_isinstance,
    n_len := PySem.W.mg_none_of X G z_len,
    n_list := PySem.W.mg_none_of X G z_list,
    n_min := PySem.W.mg_none_of X G z_min,
    n_range := PySem.W.mg_none_of X G z_range,
    n_repr := PySem.W.mg_none_of X G z_repr,
    n_set := PySem.W.mg_none_of X G z_set,
    n_sorted := PySem.W.mg_none_of X G z_sorted,
    n_str := PySem.W.mg_none_of X G z_str,
    n_tuple := PySem.W.mg_none_of X G z_tuple,
    g_MOST_LETTERS := PySem.W.mg_of X G h_MOST_LETTERS,
    g_BEGINNINGS := PySem.W.mg_of X G h_BEGINNINGS,
    k_BEGINNINGS := fun H => .inr ⟨_, _, _, lk_BEGINNINGS, rfl, rfl, by show 2 ≤ sizeLine; decide, (.cons ⟨_, rfl⟩ (.cons ⟨_, rfl⟩ .nil))⟩,
    g_SMALL := PySem.W.mg_of X G h_SMALL,
    g_SIGNS := PySem.W.mg_of X G h_SIGNS,
    g_LIMIT_KINDS := PySem.W.mg_of X G h_LIMIT_KINDS,
    k_LIMIT_KINDS := fun H => .inr ⟨_, _, _, lk_LIMIT_KINDS, rfl, rfl, by show 3 ≤ sizeLine; decide, (.cons ⟨_, rfl⟩ (.cons ⟨_, rfl⟩ (.cons ⟨_, rfl⟩ .nil)))⟩,
    g_MOST_ANSWERS := PySem.W.mg_of X G h_MOST_ANSWERS,
    g_Letters := PySem.W.mg_of X G h_Letters,
    cl_Letters := ⟨pg_Letters, hd_Letters, po_Letters, sa_Letters⟩,
    na_Letters_words := na_Letters_words,
    ne_Letters := ⟨ne_Letters, ob_Letters⟩,
    isi_Letters := ⟨ia_Letters, in_Letters, it_Letters, im_Letters, if_pos (beq_self_eq_true _)⟩,
    g_Limit := PySem.W.mg_of X G h_Limit,
    cl_Limit := ⟨pg_Limit, hd_Limit, po_Limit, sa_Limit⟩,
    na_Limit_letters := na_Limit_letters,
    na_Limit_kind := na_Limit_kind,
    na_Limit_answers := na_Limit_answers,
    na_Limit_letter := na_Limit_letter,
    ne_Limit := ⟨ne_Limit, ob_Limit⟩,
    isi_Limit := ⟨ia_Limit, in_Limit, it_Limit, im_Limit, if_pos (beq_self_eq_true _)⟩,
    F_is_word := ⟨_, fun_mk (st := s_is_word) l_is_word c_is_word k_is_word, (fun_mk (st := s_is_word) l_is_word c_is_word k_is_word).binds (ps := ["value"]) fun _ _ _ _ _ _ us hl => match us, hl with | [_], _ => rfl⟩,
    g_is_word := PySem.W.mg_of X G a_is_word,
    F_is_beginning := ⟨_, fun_mk (st := s_is_beginning) l_is_beginning c_is_beginning k_is_beginning, (fun_mk (st := s_is_beginning) l_is_beginning c_is_beginning k_is_beginning).binds (ps := ["value"]) fun _ _ _ _ _ _ us hl => match us, hl with | [_], _ => rfl⟩,
    g_is_beginning := PySem.W.mg_of X G a_is_beginning,
    F_is_letter := ⟨_, fun_mk (st := s_is_letter) l_is_letter c_is_letter k_is_letter, (fun_mk (st := s_is_letter) l_is_letter c_is_letter k_is_letter).binds (ps := ["value"]) fun _ _ _ _ _ _ us hl => match us, hl with | [_], _ => rfl⟩,
    g_is_letter := PySem.W.mg_of X G a_is_letter,
    F_Letters___init__ := ⟨_, fun_mk (st := s_Letters___init__) l_Letters___init__ c_Letters___init__ k_Letters___init__, (fun_mk (st := s_Letters___init__) l_Letters___init__ c_Letters___init__ k_Letters___init__).binds (ps := ["self", "words"]) fun _ _ _ _ _ _ us hl => match us, hl with | [_, _], _ => rfl⟩,
    F_Letters___contains__ := ⟨_, fun_mk (st := s_Letters___contains__) l_Letters___contains__ c_Letters___contains__ k_Letters___contains__, (fun_mk (st := s_Letters___contains__) l_Letters___contains__ c_Letters___contains__ k_Letters___contains__).binds (ps := ["self", "x"]) fun _ _ _ _ _ _ us hl => match us, hl with | [_, _], _ => rfl⟩,
    m_Letters___contains__ := ⟨a_Letters___contains__, i_Letters___contains__, k_Letters___contains__⟩,
    F_Letters___eq__ := ⟨_, fun_mk (st := s_Letters___eq__) l_Letters___eq__ c_Letters___eq__ k_Letters___eq__, (fun_mk (st := s_Letters___eq__) l_Letters___eq__ c_Letters___eq__ k_Letters___eq__).binds (ps := ["self", "other"]) fun _ _ _ _ _ _ us hl => match us, hl with | [_, _], _ => rfl⟩,
    m_Letters___eq__ := ⟨a_Letters___eq__, i_Letters___eq__, k_Letters___eq__⟩,
    F_is_one_of := ⟨_, fun_mk (st := s_is_one_of) l_is_one_of c_is_one_of k_is_one_of, (fun_mk (st := s_is_one_of) l_is_one_of c_is_one_of k_is_one_of).binds (ps := ["value", "words"]) fun _ _ _ _ _ _ us hl => match us, hl with | [_, _], _ => rfl⟩,
    g_is_one_of := PySem.W.mg_of X G a_is_one_of,
    F_answer_set := ⟨_, fun_mk (st := s_answer_set) l_answer_set c_answer_set k_answer_set, (fun_mk (st := s_answer_set) l_answer_set c_answer_set k_answer_set).binds (ps := ["answers"]) fun _ _ _ _ _ _ us hl => match us, hl with | [_], _ => rfl⟩,
    g_answer_set := PySem.W.mg_of X G a_answer_set,
    F_Limit___init__ := ⟨_, ⟨_, _, _, _, _, _, _, _, _, _, rfl, l_Limit___init__, c_Limit___init__, .inr ⟨(by intro z; cases z), _, _, _, _, rfl, d_Limit___init__, rfl, (.cons rfl .nil)⟩, .inl rfl⟩, k_Limit___init__⟩,
    F_Limit___eq__ := ⟨_, fun_mk (st := s_Limit___eq__) l_Limit___eq__ c_Limit___eq__ k_Limit___eq__, (fun_mk (st := s_Limit___eq__) l_Limit___eq__ c_Limit___eq__ k_Limit___eq__).binds (ps := ["self", "other"]) fun _ _ _ _ _ _ us hl => match us, hl with | [_, _], _ => rfl⟩,
    m_Limit___eq__ := ⟨a_Limit___eq__, i_Limit___eq__, k_Limit___eq__⟩,
    F_Limit___str__ := ⟨_, fun_mk (st := s_Limit___str__) l_Limit___str__ c_Limit___str__ k_Limit___str__, (fun_mk (st := s_Limit___str__) l_Limit___str__ c_Limit___str__ k_Limit___str__).binds (ps := ["self"]) fun _ _ _ _ _ _ us hl => match us, hl with | [_], _ => rfl⟩,
    m_Limit___str__ := ⟨a_Limit___str__, i_Limit___str__, k_Limit___str__⟩,
    F__law_pen := ⟨_, fun_mk (st := s__law_pen) l__law_pen c__law_pen k__law_pen, (fun_mk (st := s__law_pen) l__law_pen c__law_pen k__law_pen).binds (ps := ["_law_script"]) fun _ _ _ _ _ _ us hl => match us, hl with | [_], _ => rfl⟩,
    g__law_pen := PySem.W.mg_of X G a__law_pen,
    F__law_draw := ⟨_, fun_mk (st := s__law_draw) l__law_draw c__law_draw k__law_draw, (fun_mk (st := s__law_draw) l__law_draw c__law_draw k__law_draw).binds (ps := ["_law_pen_here", "_law_many"]) fun _ _ _ _ _ _ us hl => match us, hl with | [_, _], _ => rfl⟩,
    g__law_draw := PySem.W.mg_of X G a__law_draw,
    F__law_pick := ⟨_, fun_mk (st := s__law_pick) l__law_pick c__law_pick k__law_pick, (fun_mk (st := s__law_pick) l__law_pick c__law_pick k__law_pick).binds (ps := ["_law_pen_here", "_law_options"]) fun _ _ _ _ _ _ us hl => match us, hl with | [_, _], _ => rfl⟩,
    g__law_pick := PySem.W.mg_of X G a__law_pick,
    F__law_letters := ⟨_, fun_mk (st := s__law_letters) l__law_letters c__law_letters k__law_letters, (fun_mk (st := s__law_letters) l__law_letters c__law_letters k__law_letters).binds (ps := ["_law_pen_here", "_law_many"]) fun _ _ _ _ _ _ us hl => match us, hl with | [_, _], _ => rfl⟩,
    g__law_letters := PySem.W.mg_of X G a__law_letters,
    F__law_odd := ⟨_, fun_mk (st := s__law_odd) l__law_odd c__law_odd k__law_odd, (fun_mk (st := s__law_odd) l__law_odd c__law_odd k__law_odd).binds (ps := ["_law_pen_here", "_law_letters_here"]) fun _ _ _ _ _ _ us hl => match us, hl with | [_, _], _ => rfl⟩,
    g__law_odd := PySem.W.mg_of X G a__law_odd,
    F__law_free := ⟨_, fun_mk (st := s__law_free) l__law_free c__law_free k__law_free, (fun_mk (st := s__law_free) l__law_free c__law_free k__law_free).binds (ps := ["_law_letters_here"]) fun _ _ _ _ _ _ us hl => match us, hl with | [_], _ => rfl⟩,
    g__law_free := PySem.W.mg_of X G a__law_free,
    F__law_answer := ⟨_, fun_mk (st := s__law_answer) l__law_answer c__law_answer k__law_answer, (fun_mk (st := s__law_answer) l__law_answer c__law_answer k__law_answer).binds (ps := ["_law_pen_here"]) fun _ _ _ _ _ _ us hl => match us, hl with | [_], _ => rfl⟩,
    g__law_answer := PySem.W.mg_of X G a__law_answer,
    F__law_is_answer := ⟨_, fun_mk (st := s__law_is_answer) l__law_is_answer c__law_is_answer k__law_is_answer, (fun_mk (st := s__law_is_answer) l__law_is_answer c__law_is_answer k__law_is_answer).binds (ps := ["_law_value"]) fun _ _ _ _ _ _ us hl => match us, hl with | [_], _ => rfl⟩,
    g__law_is_answer := PySem.W.mg_of X G a__law_is_answer,
    F__law_set := ⟨_, fun_mk (st := s__law_set) l__law_set c__law_set k__law_set, (fun_mk (st := s__law_set) l__law_set c__law_set k__law_set).binds (ps := ["_law_answers"]) fun _ _ _ _ _ _ us hl => match us, hl with | [_], _ => rfl⟩,
    g__law_set := PySem.W.mg_of X G a__law_set,
    F__law_due := ⟨_, fun_mk (st := s__law_due) l__law_due c__law_due k__law_due, (fun_mk (st := s__law_due) l__law_due c__law_due k__law_due).binds (ps := ["_law_answers"]) fun _ _ _ _ _ _ us hl => match us, hl with | [_], _ => rfl⟩,
    g__law_due := PySem.W.mg_of X G a__law_due,
    F__law_told := ⟨_, fun_mk (st := s__law_told) l__law_told c__law_told k__law_told, (fun_mk (st := s__law_told) l__law_told c__law_told k__law_told).binds (ps := ["_law_answers"]) fun _ _ _ _ _ _ us hl => match us, hl with | [_], _ => rfl⟩,
    g__law_told := PySem.W.mg_of X G a__law_told,
    F__law_limit := ⟨_, fun_mk (st := s__law_limit) l__law_limit c__law_limit k__law_limit, (fun_mk (st := s__law_limit) l__law_limit c__law_limit k__law_limit).binds (ps := ["_law_letters_here", "_law_kind", "_law_answers", "_law_letter"]) fun _ _ _ _ _ _ us hl => match us, hl with | [_, _, _, _], _ => rfl⟩,
    g__law_limit := PySem.W.mg_of X G a__law_limit,
    F__law_limit_due := ⟨_, fun_mk (st := s__law_limit_due) l__law_limit_due c__law_limit_due k__law_limit_due, (fun_mk (st := s__law_limit_due) l__law_limit_due c__law_limit_due k__law_limit_due).binds (ps := ["_law_letters_here", "_law_kind", "_law_answers", "_law_letter"]) fun _ _ _ _ _ _ us hl => match us, hl with | [_, _, _, _], _ => rfl⟩,
    g__law_limit_due := PySem.W.mg_of X G a__law_limit_due,
    F__law_is_right := ⟨_, fun_mk (st := s__law_is_right) l__law_is_right c__law_is_right k__law_is_right, (fun_mk (st := s__law_is_right) l__law_is_right c__law_is_right k__law_is_right).binds (ps := ["_law_made", "_law_letters_here", "_law_kind", "_law_answers", "_law_letter"]) fun _ _ _ _ _ _ us hl => match us, hl with | [_, _, _, _, _], _ => rfl⟩,
    g__law_is_right := PySem.W.mg_of X G a__law_is_right,
    F_law := ⟨_, fun_mk (st := s_law) l_law c_law k_law, (fun_mk (st := s_law) l_law c_law k_law).binds (ps := ["_law_script"]) fun _ _ _ _ _ _ us hl => match us, hl with | [_], _ => rfl⟩,
    g_law := PySem.W.mg_of X G a_law,
    mk_Letters := ⟨mk_Letters, a_Letters___init__, i_Letters___init__, kc_Letters⟩,
    mk_Limit := ⟨mk_Limit, a_Limit___init__, i_Limit___init__, kc_Limit⟩,
    kt_0 := if_pos (beq_self_eq_true _),
    kt_1 := if_pos (beq_self_eq_true _),
    kt_2 := kit_bi hd_Limit tt_Limit kt_2,
    g_BadLetters := PySem.W.mg_of X G h_BadLetters,
    ex_BadLetters := ⟨sb_BadLetters, xd_BadLetters, tt_BadLetters⟩,
    em_BadLetters_BadLetters := ExmC.em ⟨sb_BadLetters, xd_BadLetters, tt_BadLetters⟩ su_BadLetters_BadLetters,
    em_BadLetter_BadLetters := ExmC.em ⟨sb_BadLetters, xd_BadLetters, tt_BadLetters⟩ su_BadLetter_BadLetters,
    em_BadKind_BadLetters := ExmC.em ⟨sb_BadLetters, xd_BadLetters, tt_BadLetters⟩ su_BadKind_BadLetters,
    em_BadAnswers_BadLetters := ExmC.em ⟨sb_BadLetters, xd_BadLetters, tt_BadLetters⟩ su_BadAnswers_BadLetters,
    em_TooMany_BadLetters := ExmC.em ⟨sb_BadLetters, xd_BadLetters, tt_BadLetters⟩ su_TooMany_BadLetters,
    xf_BadLetters := ⟨ga_BadLetters, gg_BadLetters, sb_BadLetters, xd_BadLetters⟩,
    xe_BadLetters := ⟨ga_BadLetters, gg_BadLetters, sb_BadLetters, xd_BadLetters, xa_BadLetters, xn_BadLetters, xt_BadLetters, xm_BadLetters⟩,
    na_BadLetters_index := na_BadLetters_index,
    xi_BadLetters := ⟨cc_BadLetters, c_BadLetters, doc_BadLetters, pm_BadLetters, ctv_BadLetters, ⟨⟨_, _, _, l_BadLetters___init__⟩, cd_BadLetters, ⟨cc_BadLetters, _, _, _, rfl, cl_BadLetters⟩, ⟨_, rfl, rfl⟩, ⟨_, _, _, _, _, _, fl_BadLetters, rv_BadLetters, rf_BadLetters⟩, me_BadLetters, PySem.W.mg_none_of X G z_super, rfl, hst_, op_, up_BadLetters, ve_BadLetters, ⟨⟨_, _, _, _, _, _, _, _, _, _, _, _, _, _, _, xl_BadLetters, rfl⟩, xs_BadLetters, sb_BadLetters, tt_BadLetters, kc_BadLetters⟩⟩, fun s us _ hl => match us, hl with | [_, _], _ => .of_eq rfl⟩,
    kv_BadLetters := kit_own ve_BadLetters,
    in_BadLetters := a_BadLetters___init__,
    ty_BadLetters := ty_BadLetters,
    g_BadLetter := PySem.W.mg_of X G h_BadLetter,
    ex_BadLetter := ⟨sb_BadLetter, xd_BadLetter, tt_BadLetter⟩,
    em_BadLetters_BadLetter := ExmC.em ⟨sb_BadLetter, xd_BadLetter, tt_BadLetter⟩ su_BadLetters_BadLetter,
    em_BadLetter_BadLetter := ExmC.em ⟨sb_BadLetter, xd_BadLetter, tt_BadLetter⟩ su_BadLetter_BadLetter,
    em_BadKind_BadLetter := ExmC.em ⟨sb_BadLetter, xd_BadLetter, tt_BadLetter⟩ su_BadKind_BadLetter,
    em_BadAnswers_BadLetter := ExmC.em ⟨sb_BadLetter, xd_BadLetter, tt_BadLetter⟩ su_BadAnswers_BadLetter,
    em_TooMany_BadLetter := ExmC.em ⟨sb_BadLetter, xd_BadLetter, tt_BadLetter⟩ su_TooMany_BadLetter,
    xf_BadLetter := ⟨ga_BadLetter, gg_BadLetter, sb_BadLetter, xd_BadLetter⟩,
    xe_BadLetter := ⟨ga_BadLetter, gg_BadLetter, sb_BadLetter, xd_BadLetter, xa_BadLetter, xn_BadLetter, xt_BadLetter, xm_BadLetter⟩,
    na_BadLetter_index := na_BadLetter_index,
    xi_BadLetter := ⟨cc_BadLetter, c_BadLetter, doc_BadLetter, pm_BadLetter, ctv_BadLetter, ⟨⟨_, _, _, l_BadLetter___init__⟩, cd_BadLetter, ⟨cc_BadLetter, _, _, _, rfl, cl_BadLetter⟩, ⟨_, rfl, rfl⟩, ⟨_, _, _, _, _, _, fl_BadLetter, rv_BadLetter, rf_BadLetter⟩, me_BadLetter, PySem.W.mg_none_of X G z_super, rfl, hst_, op_, up_BadLetter, ve_BadLetter, ⟨⟨_, _, _, _, _, _, _, _, _, _, _, _, _, _, _, xl_BadLetter, rfl⟩, xs_BadLetter, sb_BadLetter, tt_BadLetter, kc_BadLetter⟩⟩, fun s us _ hl => match us, hl with | [_, _], _ => .of_eq rfl⟩,
    kv_BadLetter := kit_own ve_BadLetter,
    in_BadLetter := a_BadLetter___init__,
    ty_BadLetter := ty_BadLetter,
    g_BadKind := PySem.W.mg_of X G h_BadKind,
    ex_BadKind := ⟨sb_BadKind, xd_BadKind, tt_BadKind⟩,
    em_BadLetters_BadKind := ExmC.em ⟨sb_BadKind, xd_BadKind, tt_BadKind⟩ su_BadLetters_BadKind,
    em_BadLetter_BadKind := ExmC.em ⟨sb_BadKind, xd_BadKind, tt_BadKind⟩ su_BadLetter_BadKind,
    em_BadKind_BadKind := ExmC.em ⟨sb_BadKind, xd_BadKind, tt_BadKind⟩ su_BadKind_BadKind,
    em_BadAnswers_BadKind := ExmC.em ⟨sb_BadKind, xd_BadKind, tt_BadKind⟩ su_BadAnswers_BadKind,
    em_TooMany_BadKind := ExmC.em ⟨sb_BadKind, xd_BadKind, tt_BadKind⟩ su_TooMany_BadKind,
    x0_BadKind := ⟨⟨_, PySem.F.excBase_ValueError, xq_BadKind⟩, PySem.W.mg_of X G h_BadKind, kc_BadKind, sb_BadKind, tt_BadKind⟩,
    g_BadAnswers := PySem.W.mg_of X G h_BadAnswers,
    ex_BadAnswers := ⟨sb_BadAnswers, xd_BadAnswers, tt_BadAnswers⟩,
    em_BadLetters_BadAnswers := ExmC.em ⟨sb_BadAnswers, xd_BadAnswers, tt_BadAnswers⟩ su_BadLetters_BadAnswers,
    em_BadLetter_BadAnswers := ExmC.em ⟨sb_BadAnswers, xd_BadAnswers, tt_BadAnswers⟩ su_BadLetter_BadAnswers,
    em_BadKind_BadAnswers := ExmC.em ⟨sb_BadAnswers, xd_BadAnswers, tt_BadAnswers⟩ su_BadKind_BadAnswers,
    em_BadAnswers_BadAnswers := ExmC.em ⟨sb_BadAnswers, xd_BadAnswers, tt_BadAnswers⟩ su_BadAnswers_BadAnswers,
    em_TooMany_BadAnswers := ExmC.em ⟨sb_BadAnswers, xd_BadAnswers, tt_BadAnswers⟩ su_TooMany_BadAnswers,
    xf_BadAnswers := ⟨ga_BadAnswers, gg_BadAnswers, sb_BadAnswers, xd_BadAnswers⟩,
    xe_BadAnswers := ⟨ga_BadAnswers, gg_BadAnswers, sb_BadAnswers, xd_BadAnswers, xa_BadAnswers, xn_BadAnswers, xt_BadAnswers, xm_BadAnswers⟩,
    na_BadAnswers_index := na_BadAnswers_index,
    xi_BadAnswers := ⟨cc_BadAnswers, c_BadAnswers, doc_BadAnswers, pm_BadAnswers, ctv_BadAnswers, ⟨⟨_, _, _, l_BadAnswers___init__⟩, cd_BadAnswers, ⟨cc_BadAnswers, _, _, _, rfl, cl_BadAnswers⟩, ⟨_, rfl, rfl⟩, ⟨_, _, _, _, _, _, fl_BadAnswers, rv_BadAnswers, rf_BadAnswers⟩, me_BadAnswers, PySem.W.mg_none_of X G z_super, rfl, hst_, op_, up_BadAnswers, ve_BadAnswers, ⟨⟨_, _, _, _, _, _, _, _, _, _, _, _, _, _, _, xl_BadAnswers, rfl⟩, xs_BadAnswers, sb_BadAnswers, tt_BadAnswers, kc_BadAnswers⟩⟩, fun s us _ hl => match us, hl with | [_, _], _ => .of_eq rfl⟩,
    kv_BadAnswers := kit_own ve_BadAnswers,
    in_BadAnswers := a_BadAnswers___init__,
    ty_BadAnswers := ty_BadAnswers,
    g_TooMany := PySem.W.mg_of X G h_TooMany,
    ex_TooMany := ⟨sb_TooMany, xd_TooMany, tt_TooMany⟩,
    em_BadLetters_TooMany := ExmC.em ⟨sb_TooMany, xd_TooMany, tt_TooMany⟩ su_BadLetters_TooMany,
    em_BadLetter_TooMany := ExmC.em ⟨sb_TooMany, xd_TooMany, tt_TooMany⟩ su_BadLetter_TooMany,
    em_BadKind_TooMany := ExmC.em ⟨sb_TooMany, xd_TooMany, tt_TooMany⟩ su_BadKind_TooMany,
    em_BadAnswers_TooMany := ExmC.em ⟨sb_TooMany, xd_TooMany, tt_TooMany⟩ su_BadAnswers_TooMany,
    em_TooMany_TooMany := ExmC.em ⟨sb_TooMany, xd_TooMany, tt_TooMany⟩ su_TooMany_TooMany,
    xf_TooMany := ⟨ga_TooMany, gg_TooMany, sb_TooMany, xd_TooMany⟩,
    xe_TooMany := ⟨ga_TooMany, gg_TooMany, sb_TooMany, xd_TooMany, xa_TooMany, xn_TooMany, xt_TooMany, xm_TooMany⟩,
    na_TooMany_what := na_TooMany_what,
    na_TooMany_many := na_TooMany_many,
    na_TooMany_most := na_TooMany_most,
    xi_TooMany := ⟨cc_TooMany, c_TooMany, doc_TooMany, pm_TooMany, ctv_TooMany, ⟨⟨_, _, _, l_TooMany___init__⟩, cd_TooMany, ⟨cc_TooMany, _, _, _, rfl, cl_TooMany⟩, ⟨_, rfl, rfl⟩, ⟨_, _, _, _, _, _, fl_TooMany, rv_TooMany, rf_TooMany⟩, me_TooMany, PySem.W.mg_none_of X G z_super, rfl, hst_, op_, up_TooMany, ve_TooMany, ⟨⟨_, _, _, _, _, _, _, _, _, _, _, _, _, _, _, xl_TooMany, rfl⟩, xs_TooMany, sb_TooMany, tt_TooMany, kc_TooMany⟩⟩, fun s us _ hl => match us, hl with | [_, _, _, _], _ => .of_eq rfl⟩,
    kv_TooMany := kit_own ve_TooMany,
    in_TooMany := a_TooMany___init__,
    ty_TooMany := ty_TooMany }
  refine ⟨PySem.W.fnOf "law" "law" (defArgs s_law) (defBody s_law) (defScope s_law) .none kV_law dc_law pm_law an_law cd_law ct_law, fun s v => .of_eq rfl, fun base _ _ => ?_⟩
  exact ok_law T (fun_mk (st := s_law) l_law c_law k_law)
theorem walk {l : PySem.W.OpenLaw} {q : Program} {loose : List Str} {XP : (Str → Option Value) → Heap → Prop} {YP : World → Heap → Prop} {d : DefRec} {K : Params → PySem.W.Frag} (hn : l.most = some 63) (hdf : d.params.defaults = [])
    (hY : ∀ (w : World) (h : Heap), YP w h → (K w.params).In h)
    (F : ∀ (w : World) (mg : Str → Option Value) (fa : Addr) (h : Heap), (K w.params).In h → h.Ns mainGlobals mg → mg d.name = some (.ref fa) →
      ∃ fd : FuncData, (∀ (s : Shared) (u : Value), BindsTo s fd ⟨[u], []⟩ [("_law_script", u)]) ∧ ∀ base : Heap, (K w.params).In base → base.Ns mainGlobals mg → FnOkG l.prog w (K w.params) mg base CX0 7 fa fd ["_law_script"] (spLaw (K w.params))) :
    PySem.W.WalkO q loose XP YP l.row.toRowW d [] (fun f vs => PySem.call f vs) :=
  Aq.walkG (n := 63) (k := 7) (x := "_law_script") (sp := spLaw) hn (by decide) hdf ⟨rfl, by decide, by decide⟩ hY F (fun K H a ns hl hO hS => ⟨a, ns, rfl, hS, hO, fun _ => rfl⟩)
end K09
open PySem PySem.W PyProof.Rows
set_option maxRecDepth 100000 in
set_option maxHeartbeats 0 in
theorem PySem.Challenge.cw_asksmore_k09_limits_and_answers_holds : PySem.Challenge.rw_asksmore_k09_limits_and_answers.Holds := by
  w_on; o_law; k_head; (case hw => w_witness2)
  k_fill
  refine K09.walk (l := PySem.Challenge.rw_asksmore_k09_limits_and_answers) rfl rfl (fun w h Y => PySem.W.kIn_of Y) ?F
  case F =>
    intro w mg fa h KX G hmg
    refine' K09.all_mk KX G hmg ?z_abs ?z_all ?z_enumerate ?z_int ?z_isinstance ?z_len ?z_list ?z_min ?z_range ?z_repr ?z_set ?z_sorted ?z_str ?z_tuple ?h_MOST_LETTERS ?h_BEGINNINGS ?lk_BEGINNINGS ?h_SMALL ?h_SIGNS ?h_LIMIT_KINDS ?lk_LIMIT_KINDS ?h_MOST_ANSWERS ?h_Letters ?pg_Letters ?hd_Letters ?po_Letters ?sa_Letters ?na_Letters_words ?ne_Letters ?ob_Letters ?ia_Letters ?in_Letters ?it_Letters ?im_Letters ?h_Limit ?pg_Limit ?hd_Limit ?po_Limit ?sa_Limit ?na_Limit_letters ?na_Limit_kind ?na_Limit_answers ?na_Limit_letter ?ne_Limit ?ob_Limit ?ia_Limit ?in_Limit ?it_Limit ?im_Limit ?a_is_word ?l_is_word ?c_is_word ?k_is_word ?a_is_beginning ?l_is_beginning ?c_is_beginning ?k_is_beginning ?a_is_letter ?l_is_letter ?c_is_letter ?k_is_letter ?a_Letters___init__ ?i_Letters___init__ ?l_Letters___init__ ?c_Letters___init__ ?k_Letters___init__ ?a_Letters___contains__ ?i_Letters___contains__ ?l_Letters___contains__ ?c_Letters___contains__ ?k_Letters___contains__ ?a_Letters___eq__ ?i_Letters___eq__ ?l_Letters___eq__ ?c_Letters___eq__ ?k_Letters___eq__ ?a_is_one_of ?l_is_one_of ?c_is_one_of ?k_is_one_of ?a_answer_set ?l_answer_set ?c_answer_set ?k_answer_set ?a_Limit___init__ ?i_Limit___init__ ?l_Limit___init__ ?c_Limit___init__ ?k_Limit___init__ ?d_Limit___init__ ?a_Limit___eq__ ?i_Limit___eq__ ?l_Limit___eq__ ?c_Limit___eq__ ?k_Limit___eq__ ?a_Limit___str__ ?i_Limit___str__ ?l_Limit___str__ ?c_Limit___str__ ?k_Limit___str__ ?a__law_pen ?l__law_pen ?c__law_pen ?k__law_pen ?a__law_draw ?l__law_draw ?c__law_draw ?k__law_draw ?a__law_pick ?l__law_pick ?c__law_pick ?k__law_pick ?a__law_letters ?l__law_letters ?c__law_letters ?k__law_letters ?a__law_odd ?l__law_odd ?c__law_odd ?k__law_odd ?a__law_free ?l__law_free ?c__law_free ?k__law_free ?a__law_answer ?l__law_answer ?c__law_answer ?k__law_answer ?a__law_is_answer ?l__law_is_answer ?c__law_is_answer ?k__law_is_answer ?a__law_set ?l__law_set ?c__law_set ?k__law_set ?a__law_due ?l__law_due ?c__law_due ?k__law_due ?a__law_told ?l__law_told ?c__law_told ?k__law_told ?a__law_limit ?l__law_limit ?c__law_limit ?k__law_limit ?a__law_limit_due ?l__law_limit_due ?c__law_limit_due ?k__law_limit_due ?a__law_is_right ?l__law_is_right ?c__law_is_right ?k__law_is_right ?a_law ?l_law ?c_law ?k_law ?mk_Letters ?kc_Letters ?mk_Limit ?kc_Limit ?tt_Limit ?kt_2 ?h_AsksError ?op_ ?z_super ?hst_ ?h_BadLetters ?sb_BadLetters ?xd_BadLetters ?tt_BadLetters ?kc_BadLetters ?su_BadLetters_BadLetters ?su_BadLetter_BadLetters ?su_BadKind_BadLetters ?su_BadAnswers_BadLetters ?su_TooMany_BadLetters ?a_BadLetters___init__ ?xl_BadLetters ?xs_BadLetters ?ga_BadLetters ?gg_BadLetters ?xa_BadLetters ?xn_BadLetters ?xt_BadLetters ?xm_BadLetters ?na_BadLetters_index ?l_BadLetters___init__ ?cd_BadLetters ?cl_BadLetters ?fl_BadLetters ?rv_BadLetters ?rf_BadLetters ?me_BadLetters ?up_BadLetters ?ve_BadLetters ?ty_BadLetters ?h_BadLetter ?sb_BadLetter ?xd_BadLetter ?tt_BadLetter ?kc_BadLetter ?su_BadLetters_BadLetter ?su_BadLetter_BadLetter ?su_BadKind_BadLetter ?su_BadAnswers_BadLetter ?su_TooMany_BadLetter ?a_BadLetter___init__ ?xl_BadLetter ?xs_BadLetter ?ga_BadLetter ?gg_BadLetter ?xa_BadLetter ?xn_BadLetter ?xt_BadLetter ?xm_BadLetter ?na_BadLetter_index ?l_BadLetter___init__ ?cd_BadLetter ?cl_BadLetter ?fl_BadLetter ?rv_BadLetter ?rf_BadLetter ?me_BadLetter ?up_BadLetter ?ve_BadLetter ?ty_BadLetter ?h_BadKind ?sb_BadKind ?xd_BadKind ?tt_BadKind ?kc_BadKind ?su_BadLetters_BadKind ?su_BadLetter_BadKind ?su_BadKind_BadKind ?su_BadAnswers_BadKind ?su_TooMany_BadKind ?xq_BadKind ?h_BadAnswers ?sb_BadAnswers ?xd_BadAnswers ?tt_BadAnswers ?kc_BadAnswers ?su_BadLetters_BadAnswers ?su_BadLetter_BadAnswers ?su_BadKind_BadAnswers ?su_BadAnswers_BadAnswers ?su_TooMany_BadAnswers ?a_BadAnswers___init__ ?xl_BadAnswers ?xs_BadAnswers ?ga_BadAnswers ?gg_BadAnswers ?xa_BadAnswers ?xn_BadAnswers ?xt_BadAnswers ?xm_BadAnswers ?na_BadAnswers_index ?l_BadAnswers___init__ ?cd_BadAnswers ?cl_BadAnswers ?fl_BadAnswers ?rv_BadAnswers ?rf_BadAnswers ?me_BadAnswers ?up_BadAnswers ?ve_BadAnswers ?ty_BadAnswers ?h_TooMany ?sb_TooMany ?xd_TooMany ?tt_TooMany ?kc_TooMany ?su_BadLetters_TooMany ?su_BadLetter_TooMany ?su_BadKind_TooMany ?su_BadAnswers_TooMany ?su_TooMany_TooMany ?a_TooMany___init__ ?xl_TooMany ?xs_TooMany ?ga_TooMany ?gg_TooMany ?xa_TooMany ?xn_TooMany ?xt_TooMany ?xm_TooMany ?na_TooMany_what ?na_TooMany_many ?na_TooMany_most ?l_TooMany___init__ ?cd_TooMany ?cl_TooMany ?fl_TooMany ?rv_TooMany ?rf_TooMany ?me_TooMany ?up_TooMany ?ve_TooMany ?ty_TooMany
    (case h_MOST_LETTERS => k_is)
    (case h_BEGINNINGS => k_is)
    (case h_SMALL => k_is)
    (case h_SIGNS => k_is)
    (case h_LIMIT_KINDS => k_is)
    (case h_MOST_ANSWERS => k_is)
    (case h_Letters => k_is)
    (case h_Limit => k_is)
    (case h_AsksError => k_is)
    (case h_BadLetters => k_is)
    (case h_BadLetter => k_is)
    (case h_BadKind => k_is)
    (case h_BadAnswers => k_is)
    (case h_TooMany => k_is)
    (case a_is_word => k_is)
    (case a_is_beginning => k_is)
    (case a_is_letter => k_is)
    (case a_Letters___init__ => k_is)
    (case a_Letters___contains__ => k_is)
    (case a_Letters___eq__ => k_is)
    (case a_is_one_of => k_is)
    (case a_answer_set => k_is)
    (case a_Limit___init__ => k_is)
    (case a_Limit___eq__ => k_is)
    (case a_Limit___str__ => k_is)
    (case a__law_pen => k_is)
    (case a__law_draw => k_is)
    (case a__law_pick => k_is)
    (case a__law_letters => k_is)
    (case a__law_odd => k_is)
    (case a__law_free => k_is)
    (case a__law_answer => k_is)
    (case a__law_is_answer => k_is)
    (case a__law_set => k_is)
    (case a__law_due => k_is)
    (case a__law_told => k_is)
    (case a__law_limit => k_is)
    (case a__law_limit_due => k_is)
    (case a__law_is_right => k_is)
    (case a_law => k_is)
    (case a_BadLetters___init__ => k_is)
    (case a_BadLetter___init__ => k_is)
    (case a_BadAnswers___init__ => k_is)
    (case a_TooMany___init__ => k_is)
    (case l_is_word => k_is)
    (case l_is_beginning => k_is)
    (case l_is_letter => k_is)
    (case l_Letters___init__ => k_is)
    (case l_Letters___contains__ => k_is)
    (case l_Letters___eq__ => k_is)
    (case l_is_one_of => k_is)
    (case l_answer_set => k_is)
    (case l_Limit___init__ => k_is)
    (case l_Limit___eq__ => k_is)
    (case l_Limit___str__ => k_is)
    (case l__law_pen => k_is)
    (case l__law_draw => k_is)
    (case l__law_pick => k_is)
    (case l__law_letters => k_is)
    (case l__law_odd => k_is)
    (case l__law_free => k_is)
    (case l__law_answer => k_is)
    (case l__law_is_answer => k_is)
    (case l__law_set => k_is)
    (case l__law_due => k_is)
    (case l__law_told => k_is)
    (case l__law_limit => k_is)
    (case l__law_limit_due => k_is)
    (case l__law_is_right => k_is)
    (case l_law => k_is)
    (case l_BadLetters___init__ => k_is)
    (case l_BadLetter___init__ => k_is)
    (case l_BadAnswers___init__ => k_is)
    (case l_TooMany___init__ => k_is)
    (case d_Limit___init__ => k_is)
    (case z_abs => k_is)
    (case z_all => k_is)
    (case z_enumerate => k_is)
    (case z_int => k_is)
    (case z_isinstance => k_is)
    (case z_len => k_is)
    (case z_list => k_is)
    (case z_min => k_is)
    (case z_range => k_is)
    (case z_repr => k_is)
    (case z_set => k_is)
    (case z_sorted => k_is)
    (case z_str => k_is)
    (case z_tuple => k_is)
    (case lk_BEGINNINGS => k_is)
    (case lk_LIMIT_KINDS => k_is)
    (case pg_Letters => k_is)
    (case hd_Letters => k_is)
    (case po_Letters => k_is)
    (case sa_Letters => k_is)
    (case na_Letters_words => k_is)
    (case ne_Letters => k_is)
    (case ob_Letters => k_is)
    (case ia_Letters => k_is)
    (case in_Letters => k_is)
    (case it_Letters => k_is)
    (case im_Letters => k_is)
    (case pg_Limit => k_is)
    (case hd_Limit => k_is)
    (case po_Limit => k_is)
    (case sa_Limit => k_is)
    (case na_Limit_letters => k_is)
    (case na_Limit_kind => k_is)
    (case na_Limit_answers => k_is)
    (case na_Limit_letter => k_is)
    (case ne_Limit => k_is)
    (case ob_Limit => k_is)
    (case ia_Limit => k_is)
    (case in_Limit => k_is)
    (case it_Limit => k_is)
    (case im_Limit => k_is)
    (case c_is_word => k_is)
    (case k_is_word => k_is)
    (case c_is_beginning => k_is)
    (case k_is_beginning => k_is)
    (case c_is_letter => k_is)
    (case k_is_letter => k_is)
    (case i_Letters___init__ => k_is)
    (case c_Letters___init__ => k_is)
    (case k_Letters___init__ => k_is)
    (case i_Letters___contains__ => k_is)
    (case c_Letters___contains__ => k_is)
    (case k_Letters___contains__ => k_is)
    (case i_Letters___eq__ => k_is)
    (case c_Letters___eq__ => k_is)
    (case k_Letters___eq__ => k_is)
    (case c_is_one_of => k_is)
    (case k_is_one_of => k_is)
    (case c_answer_set => k_is)
    (case k_answer_set => k_is)
    (case i_Limit___init__ => k_is)
    (case c_Limit___init__ => k_is)
    (case k_Limit___init__ => k_is)
    (case i_Limit___eq__ => k_is)
    (case c_Limit___eq__ => k_is)
    (case k_Limit___eq__ => k_is)
    (case i_Limit___str__ => k_is)
    (case c_Limit___str__ => k_is)
    (case k_Limit___str__ => k_is)
    (case c__law_pen => k_is)
    (case k__law_pen => k_is)
    (case c__law_draw => k_is)
    (case k__law_draw => k_is)
    (case c__law_pick => k_is)
    (case k__law_pick => k_is)
    (case c__law_letters => k_is)
    (case k__law_letters => k_is)
    (case c__law_odd => k_is)
    (case k__law_odd => k_is)
    (case c__law_free => k_is)
    (case k__law_free => k_is)
    (case c__law_answer => k_is)
    (case k__law_answer => k_is)
    (case c__law_is_answer => k_is)
    (case k__law_is_answer => k_is)
    (case c__law_set => k_is)
    (case k__law_set => k_is)
    (case c__law_due => k_is)
    (case k__law_due => k_is)
    (case c__law_told => k_is)
    (case k__law_told => k_is)
    (case c__law_limit => k_is)
    (case k__law_limit => k_is)
    (case c__law_limit_due => k_is)
    (case k__law_limit_due => k_is)
    (case c__law_is_right => k_is)
    (case k__law_is_right => k_is)
    (case c_law => k_is)
    (case k_law => k_is)
    (case mk_Letters => k_is)
    (case kc_Letters => k_is)
    (case mk_Limit => k_is)
    (case kc_Limit => k_is)
    (case tt_Limit => k_is)
    (case kt_2 => k_is)
    (case op_ => k_is)
    (case z_super => k_is)
    (case hst_ => rfl)
    (case sb_BadLetters => k_is)
    (case xd_BadLetters => k_is)
    (case tt_BadLetters => k_is)
    (case kc_BadLetters => k_is)
    (case su_BadLetters_BadLetters => k_is)
    (case su_BadLetter_BadLetters => k_is)
    (case su_BadKind_BadLetters => k_is)
    (case su_BadAnswers_BadLetters => k_is)
    (case su_TooMany_BadLetters => k_is)
    (case xl_BadLetters => k_is)
    (case xs_BadLetters => k_is)
    (case ga_BadLetters => k_is)
    (case gg_BadLetters => k_is)
    (case xa_BadLetters => k_is)
    (case xn_BadLetters => k_is)
    (case xt_BadLetters => k_is)
    (case xm_BadLetters => k_is)
    (case na_BadLetters_index => k_is)
    (case cd_BadLetters => k_is)
    (case cl_BadLetters => k_is)
    (case fl_BadLetters => k_is)
    (case rv_BadLetters => rfl)
    (case rf_BadLetters => decide +kernel)
    (case me_BadLetters => k_is)
    (case up_BadLetters => ks_is)
    (case ve_BadLetters => k_is)
    (case ty_BadLetters => k_is)
    (case sb_BadLetter => k_is)
    (case xd_BadLetter => k_is)
    (case tt_BadLetter => k_is)
    (case kc_BadLetter => k_is)
    (case su_BadLetters_BadLetter => k_is)
    (case su_BadLetter_BadLetter => k_is)
    (case su_BadKind_BadLetter => k_is)
    (case su_BadAnswers_BadLetter => k_is)
    (case su_TooMany_BadLetter => k_is)
    (case xl_BadLetter => k_is)
    (case xs_BadLetter => k_is)
    (case ga_BadLetter => k_is)
    (case gg_BadLetter => k_is)
    (case xa_BadLetter => k_is)
    (case xn_BadLetter => k_is)
    (case xt_BadLetter => k_is)
    (case xm_BadLetter => k_is)
    (case na_BadLetter_index => k_is)
    (case cd_BadLetter => k_is)
    (case cl_BadLetter => k_is)
    (case fl_BadLetter => k_is)
    (case rv_BadLetter => rfl)
    (case rf_BadLetter => decide +kernel)
    (case me_BadLetter => k_is)
    (case up_BadLetter => ks_is)
    (case ve_BadLetter => k_is)
    (case ty_BadLetter => k_is)
    (case sb_BadKind => k_is)
    (case xd_BadKind => k_is)
    (case tt_BadKind => k_is)
    (case kc_BadKind => k_is)
    (case su_BadLetters_BadKind => k_is)
    (case su_BadLetter_BadKind => k_is)
    (case su_BadKind_BadKind => k_is)
    (case su_BadAnswers_BadKind => k_is)
    (case su_TooMany_BadKind => k_is)
    (case xq_BadKind => k_exc)
    (case sb_BadAnswers => k_is)
    (case xd_BadAnswers => k_is)
    (case tt_BadAnswers => k_is)
    (case kc_BadAnswers => k_is)
    (case su_BadLetters_BadAnswers => k_is)
    (case su_BadLetter_BadAnswers => k_is)
    (case su_BadKind_BadAnswers => k_is)
    (case su_BadAnswers_BadAnswers => k_is)
    (case su_TooMany_BadAnswers => k_is)
    (case xl_BadAnswers => k_is)
    (case xs_BadAnswers => k_is)
    (case ga_BadAnswers => k_is)
    (case gg_BadAnswers => k_is)
    (case xa_BadAnswers => k_is)
    (case xn_BadAnswers => k_is)
    (case xt_BadAnswers => k_is)
    (case xm_BadAnswers => k_is)
    (case na_BadAnswers_index => k_is)
    (case cd_BadAnswers => k_is)
    (case cl_BadAnswers => k_is)
    (case fl_BadAnswers => k_is)
    (case rv_BadAnswers => rfl)
    (case rf_BadAnswers => decide +kernel)
    (case me_BadAnswers => k_is)
    (case up_BadAnswers => ks_is)
    (case ve_BadAnswers => k_is)
    (case ty_BadAnswers => k_is)
    (case sb_TooMany => k_is)
    (case xd_TooMany => k_is)
    (case tt_TooMany => k_is)
    (case kc_TooMany => k_is)
    (case su_BadLetters_TooMany => k_is)
    (case su_BadLetter_TooMany => k_is)
    (case su_BadKind_TooMany => k_is)
    (case su_BadAnswers_TooMany => k_is)
    (case su_TooMany_TooMany => k_is)
    (case xl_TooMany => k_is)
    (case xs_TooMany => k_is)
    (case ga_TooMany => k_is)
    (case gg_TooMany => k_is)
    (case xa_TooMany => k_is)
    (case xn_TooMany => k_is)
    (case xt_TooMany => k_is)
    (case xm_TooMany => k_is)
    (case na_TooMany_what => k_is)
    (case na_TooMany_many => k_is)
    (case na_TooMany_most => k_is)
    (case cd_TooMany => k_is)
    (case cl_TooMany => k_is)
    (case fl_TooMany => k_is)
    (case rv_TooMany => rfl)
    (case rf_TooMany => decide +kernel)
    (case me_TooMany => k_is)
    (case up_TooMany => ks_is)
    (case ve_TooMany => k_is)
    (case ty_TooMany => k_is)
