import PyProof.Rows.All
import Wide.All
import OpenK.AllK
import Wide.FinOn
import PyProof.InstNe
import HandS.ForMost
import HandS.Strs
import HandS.Style
import HandS.TupAny
import HandS.Wide
import HandS.Defaults
import HandS.IsInst
import HandS.More
import HandS.Codes
import HandS.OwnEq
import HandS.Evl
import KE.GoesEnum
import KE.KExcSuper
import HandS.ExcInit
import HandS.Nested
import HandS.TryMany
import HandS.FStr
import HandS.ExcField
import HandS.ExcOwn
import HandS.ExcIs
import HandS.WordsExc
import KE.KExcIs
import PyProof.ReprRoads
import HandS.Deep
import PySem.Challenge.RW_asksmore_k01_letters_kept
set_option Elab.async false
set_option linter.all false
set_option maxRecDepth 100000
set_option maxHeartbeats 4000000
namespace Aq
open PySem L2

/-! ### defs, classes and methods in one word each -/
section
variable (P : Program) (w : World) (K : PySem.W.Frag) (mg : Str → Option Value) (base : Heap)
structure Cal (k : Nat) (x : Str) (ps : List Str) (sp : Sp) : Prop where
  ex : ∃ (f : Addr) (fd : FuncData), FnOk P w K mg base CX0 k f fd ps sp ∧ mg x = some (.ref f) ∧ PySem.W.keepIn K (.ref f) = true ∧ Binds K fd ps []
structure Ctr (k : Nat) (x : Str) (C : Addr) (ps : List Str) (dvs : List V) (sp : Sp) : Prop where
  ex : ∃ (f : Addr) (fd : FuncData) (ds : List Value), Mk K C f ∧ FnOk P w K mg base CX0 k f fd ps sp ∧ mg x = some (.ref C) ∧ Binds K fd ps ds ∧ Vals dvs ds
structure Mth (k : Nat) (C : Addr) (m : Str) (ps : List Str) (sp : Sp) : Prop where
  cl : Cls K C
  ex : ∃ (f : Addr) (fd : FuncData), Meth K C m f ∧ FnOk P w K mg base CX0 k f fd ps sp ∧ Binds K fd ps []
end
section
variable {X : Cx} {k j : Nat} {x m : Str} {C : Addr} {ps : List Str} {dvs : List V} {sp : Sp} {e o : Expr} {es : List Expr} {ta : TE} {t : TA} {p pos apos : Pos}
theorem pe_callC (c : Cal X.prog X.w X.K X.mg X.base k x ps sp) (hr : Room j X.A) (ha : PA X (e :: es) t) (hk : k ≤ j := by decide) (hg : Gl X x := by rfl)
    (hdb : (x == ("__debug__" : Str)) = false := by decide) (he : starEach (e :: es) X.env = (false, eval e X.env) :: starEach es X.env := by rfl) (hpl : (backTo pos (starEach es X.env)).any (·.1) = false := by rfl) :
    PE X (.Call (.Name x p) (e :: es) [] pos) (tCall sp [] E0 t) := by
  obtain ⟨f, fd, F, hm, kp, b⟩ := c.ex
  exact pe_call F (hr.mono hk) hg hm kp b .nil pass0 ha hdb he hpl
theorem pe_makeC (c : Ctr X.prog X.w X.K X.mg X.base k x C ps dvs sp) (hr : Room j X.A) (ha : PA X (e :: es) t) (hk : k + 1 ≤ j := by decide) (hg : Gl X x := by rfl)
    (hdb : (x == ("__debug__" : Str)) = false := by decide) (he : starEach (e :: es) X.env = (false, eval e X.env) :: starEach es X.env := by rfl) (hpl : (backTo pos (starEach es X.env)).any (·.1) = false := by rfl) :
    PE X (.Call (.Name x p) (e :: es) [] pos) (tMake C sp dvs E0 t) := by
  obtain ⟨f, fd, ds, M, F, hm, b, hd⟩ := c.ex
  exact pe_make M F (hr.mono hk) hg hm b hd pass0 ha hdb he hpl
theorem pe_methC {pl : Sem Bool} (c : Mth X.prog X.w X.K X.mg X.base k C m ps sp) (hr : Room j X.A) (ho : PE X o ta) (ha : PA X (e :: es) t) (hk : k ≤ j := by decide)
    (hst : starEach (e :: es) X.env = (false, eval e X.env) :: starEach es X.env := by rfl) (hpl : (backTo pos (starEach es X.env)).any (·.1) = false := by rfl)
    (ht : eval (.Call (.Attribute o m apos) (e :: es) [] pos) X.env = (do
      let ov ← eval o X.env
      standAt apos.atName
      let (f, first) ← holding [ov] (getMethod ov m pl)
      callWith pos f first (backTo pos (starEach (e :: es) X.env)) (backToKw pos (keywordEach [] X.env))) := by rfl) :
    PE X (.Call (.Attribute o m apos) (e :: es) [] pos) (tMeth C m sp [] E0 ta t) := by
  obtain ⟨f, fd, M, F, b⟩ := c.ex
  exact pe_meth ho c.cl M F (hr.mono hk) b .nil pass0 ha hst hpl ht

/-! ### x in o, x not in o by an own __contains__; ==, != by an own __eq__ -/
/-- what an own operator gives is a bool -/
def rOwnB (sp : Sp) (g : Bool → Bool) (vs : List V) (H : Hp) (Q : VK) : Prop := sp vs H (fun v H' => ∃ b, v = .bl b ∧ Q (.bl (g b)) H') E0
def rInOwn (C : Addr) (sp : Sp) (g : Bool → Bool) : R2 := fun x y H Q => ∃ a dx fs, y = .ref a ∧ H a = some (.ins C dx fs) ∧ rOwnB sp g [y, x] H Q
theorem own_call {pins : List (Addr × Obj)} {σ : St} {H : Hp} {s : Shared} {Q : VK} {g : Bool → Bool} {f : Addr} {fd : FuncData} {us : List Value} {vs : List V} (F : FnOk X.prog X.w X.K X.mg X.base CX0 k f fd ps sp) (hr : Room k X.A) (hb : Binds X.K fd ps [])
    (I : Inv X pins σ H s) (r : Vals vs us) (h : rOwnB sp g vs H Q) : wpAny (model X.prog X.w) X.A (call (.ref f) us) (fun v s' => ∃ b, v = .bool b ∧ EP X pins σ Q (.bool (g b)) s') X.xe s := by
  refine thn (run_fn F hr hb .nil pass0 I r (by rw [List.append_nil]; exact h)) fun v s' hq => ?_
  obtain ⟨z, H', I', rz, b, rfl, q⟩ := hq
  exact ⟨b, rz, .bl (g b), H', I', rfl, q⟩
theorem op_inOwn (c : Mth X.prog X.w X.K X.mg X.base k C "__contains__" ps sp) (hr : Room j X.A) (hk : k ≤ j := by decide) : OpR X (compareOp .In) (rInOwn C sp id) := by
  intro pins s σ H x y u v Q I rx ry h
  obtain ⟨f, fd, M, F, b⟩ := c.ex
  obtain ⟨a, dx, fs, rfl, ha, h⟩ := h
  cases ry
  obtain ⟨mA, J, _⟩ := ins_get I.hok ha
  obtain ⟨od, J, _⟩ := J.look
  obtain ⟨m, hF⟩ := I.fr
  have r2 : Vals [V.ref a, x] [Value.ref a, u] := .cons rfl (.cons rx .nil)
  have oc := own_call F (hr.mono hk) b I r2 h
  refine PySem.W.in_K hF I.ok.mod.kin J M.at_ M.fn (thn oc fun r s' hq => ?_)
  obtain ⟨r, rfl, q⟩ := hq
  exact wpAny_truthy_bool q
theorem op_notInOwn (c : Mth X.prog X.w X.K X.mg X.base k C "__contains__" ps sp) (hr : Room j X.A) (hk : k ≤ j := by decide) : OpR X (compareOp .NotIn) (rInOwn C sp not) := by
  intro pins s σ H x y u v Q I rx ry h
  obtain ⟨f, fd, M, F, b⟩ := c.ex
  obtain ⟨a, dx, fs, rfl, ha, h⟩ := h
  cases ry
  obtain ⟨mA, J, _⟩ := ins_get I.hok ha
  obtain ⟨od, J, _⟩ := J.look
  obtain ⟨m, hF⟩ := I.fr
  have r2 : Vals [V.ref a, x] [Value.ref a, u] := .cons rfl (.cons rx .nil)
  have oc := own_call F (hr.mono hk) b I r2 h
  refine PySem.W.notIn_K hF I.ok.mod.kin J M.at_ M.fn (thn oc fun r s' hq => ?_)
  obtain ⟨r, rfl, q⟩ := hq
  exact wpAny_truthy_bool q
/-- both of the class C -/
def rEqOwn (C : Addr) (sp : Sp) (g : Bool → Bool) : R2 := fun x y H Q => ∃ a b dx dy fs gs, x = .ref a ∧ y = .ref b ∧ H a = some (.ins C dx fs) ∧ H b = some (.ins C dy gs) ∧ rOwnB sp g [x, y] H Q
theorem op_eqOwn (c : Mth X.prog X.w X.K X.mg X.base k C "__eq__" ps sp) (hr : Room j X.A) (hk : k ≤ j := by decide) : OpR X (compareOp .Eq) (rEqOwn C sp id) := by
  intro pins s σ H x y u v Q I rx ry h
  obtain ⟨f, fd, M, F, b⟩ := c.ex
  obtain ⟨a, b', dx, dy, fs, gs, rfl, rfl, ha, hb, h⟩ := h
  cases rx
  cases ry
  obtain ⟨mA, J, _⟩ := ins_get I.hok ha
  obtain ⟨mB, J', _⟩ := ins_get I.hok hb
  obtain ⟨od, J, _⟩ := J.look
  obtain ⟨od', J', _⟩ := J'.look
  obtain ⟨m, hF⟩ := I.fr
  have r2 : Vals [V.ref a, V.ref b'] [Value.ref a, Value.ref b'] := .cons rfl (.cons rfl .nil)
  have oc := own_call F (hr.mono hk) b I r2 h
  refine PySem.W.cmp_K (op := .Eq) (tb := .ref C) hr.units0 hF I.ok.mod.kin J J'.type (by simp [PySem.W.notFirst]) M.at_ M.fn (thn oc fun r s' hq => ?_)
  obtain ⟨r, rfl, q⟩ := hq
  exact q
end
section
variable {prog : Program} {w : World} {A : Around} {E : Value → Shared → Prop} {s : Shared} {K : PySem.W.Frag} {x C L f : Addr} {h₀ : Heap} {m : Str → Option Value} {ox : Obj} {od : Option Obj} {b tb : Value}
open PySem.W in
theorem objNe_K (X : K.In s.heap) (I : InstAt s.heap x ox C od) (hs : findIn K (.ref C) "__eq__" = some (some (.ref f))) (hf : isFn K (.ref f) = true) (hu : A.units < cLine) {Q : Fin → Shared → Prop}
    (hcall : wpAny (model prog w) A (call (.ref f) [.ref x, b]) (fun v s' => ∃ r, v = .bool r ∧ Q (.done (.ret (.bool (!r)))) s') E s) :
    wpAny (model prog w) A (Builtin.«object.__ne__» ⟨[.ref x, b], []⟩) Q E s := by
  unfold Builtin.«object.__ne__»
  repeat (first
    | with_reducible refine wpAny_cRoomFor hu ?_
    | (refine wpAny_bind (m := callSpecialIfBound? (.ref x) (Str.ofString "__eq__") [b])
        (ifBound_K X I hs hf (wpAny_mono hcall (fun r s' hr => by
          obtain ⟨b, rfl, hq⟩ := hr
          repeat (first | exact hq | exact wpAny_pure hq | exact wpAny_truthy_bool hq | (refine wpAny_bind (m := truthy (.bool _)) (wpAny_truthy_bool ?_)) | wp_step)) fun _ _ e => e)))
    | wp_step)
open PySem.W in
theorem slotcheck_K {id owner n : String} {rest : List Value} {Q : Unit → Shared → Prop} (X : K.In s.heap) (I : InstAt s.heap x ox C od) (hk : builtinKind id = some .slot) (hs : splitId id = some (owner, n))
    (ha : argsOk id ⟨.ref x :: rest, []⟩) (hob : subIn K (.ref C) (.type owner) = some true) (hq : Q () s) :
    wpAny (model prog w) A (checkBuiltinCall id ⟨.ref x :: rest, []⟩) Q E s := by
  simp only [checkBuiltinCall, hk, hs]
  refine wpAny_bind ?_
  unfold isInstance
  refine wpAny_bind (I.type.here ?_)
  refine (looks_subIn X hob).here ?_
  repeat (first | wp_step)
  cases hsig : Manifest.signature? id with
  | none => exact wpAny_pure hq
  | some sig =>
    simp only [argsOk, hsig] at ha
    have h2 : Bind.checkArgs id sig ⟨.ref x :: rest, []⟩ = pure () := ha
    show wpAny _ A (Bind.checkArgs id sig ⟨.ref x :: rest, []⟩) Q E _
    rw [h2]; exact wpAny_pure hq
open PySem.W in
theorem ne_K {Q : Value → Shared → Prop} (hu : A.units + 1 < cLine) (X : K.In s.heap) (I : InstAt s.heap x ox C od) (hb : Looks (model prog w) s.heap (typeOf b) tb) (hn : notFirst K C tb = true)
    (hne : findIn K (.ref C) "__ne__" = some (some (.builtin "object.__ne__"))) (hob : subIn K (.ref C) (.type "object") = some true)
    (hs : findIn K (.ref C) "__eq__" = some (some (.ref f))) (hf : isFn K (.ref f) = true)
    (h : wpAny (model prog w) A.in1 (call (.ref f) [.ref x, b]) (fun v s' => ∃ r, v = .bool r ∧ Q (.bool (!r)) s') E s) : wpAny (model prog w) A (richCompare .NotEq (.ref x) b) Q E s := by
  have one : wpAny (model prog w) A (tryCompare (.ref x) "__ne__" b) (fun r s' => ∃ v, r = some v ∧ Q v s') E s := by
    unfold tryCompare
    simp only [callSpecialIfBound?, bindSpecialIfBound?]
    refine wpAny_bind (wpAny_holding (wpAny_bind (wpAny_bind (wpAny_bind (I.type.here ((looks_findIn X hne).here ?_))))))
    refine wpAny_bind (wpAny_askSetting (wpAny_ite ?_))
    have fin : wpAny (model prog w) A (call (.builtin "object.__ne__") ([.ref x] ++ [b]) >>= fun v => pure (some v)) (fun r s' => ∃ v, r = some (.bool v) ∧ Q (.bool v) s') E s := by
      refine wpAny_bind (wpAny_call (codeAny_call_builtin (F.cmp_object).ne.plain F.cmpEntry_ne (slotcheck_K X I F.cmpKind_ne F.cmpSplit_ne (F.cmpArgs_ne _ _) hob (objNe_K (A := A.in1) X I hs hf hu (wpAny_mono h (fun v s' hv => ?_) fun _ _ e => e)))))
      obtain ⟨r, rfl, hq⟩ := hv
      exact ⟨r, rfl, wpAny_pure ⟨_, rfl, hq⟩⟩
    split
    · simp only [(F.cmp_object).ne.bind]
      refine wpAny_bind (wpAny_pure (wpAny_pure ?_))
      refine wpAny_mono fin (fun _ _ z => ?_) fun _ _ e => e
      obtain ⟨v, rfl, q⟩ := z
      exact wpAny_pure ⟨_, rfl, q⟩
    · simp only [(F.cmp_object).ne.bind]
      refine wpAny_tryCatch (wpAny_bind (wpAny_pure (wpAny_pure ?_)))
      refine wpAny_mono fin (fun _ _ z => ?_) fun _ _ e => e
      obtain ⟨v, rfl, q⟩ := z
      exact wpAny_pure ⟨_, rfl, q⟩
  unfold richCompare
  simp only [oneThing_ref]
  refine wpAny_holding (wpAny_bind (wpAny_cRoomFor (Nat.lt_of_succ_lt hu) ?_))
  refine wpAny_bind (I.type.here (wpAny_bind (hb.here ?_)))
  split
  · rename_i q
    have e : subIn K tb (.ref C) = some false := by
      rcases Bool.or_eq_true_iff.mp hn with e | e
      · rw [beq_iff_eq.mp e] at q; simp at q
      · exact beq_iff_eq.mp e
    refine wpAny_bind ((looks_subIn X e).here ?_)
    simp only [Bool.false_eq_true, if_false]
    refine wpAny_bind (wpAny_mono one (fun r s' z => ?_) fun _ _ e => e)
    obtain ⟨v, rfl, hq⟩ := z
    exact wpAny_pure hq
  · refine wpAny_bind (wpAny_pure ?_)
    simp only [Bool.false_eq_true, if_false]
    refine wpAny_bind (wpAny_mono one (fun r s' z => ?_) fun _ _ e => e)
    obtain ⟨v, rfl, hq⟩ := z
    exact wpAny_pure hq
end
section
variable {X : Cx} {k j : Nat} {C : Addr} {ps : List Str} {sp : Sp}
/-- what != by an own __eq__ wants of the class -/
structure NeC (K : PySem.W.Frag) (C : Addr) : Prop where
  ne : PySem.W.findIn K (.ref C) "__ne__" = some (some (.builtin "object.__ne__"))
  ob : PySem.W.subIn K (.ref C) (.type "object") = some true
theorem op_neOwn (n : NeC X.K C) (c : Mth X.prog X.w X.K X.mg X.base k C "__eq__" ps sp) (hr : Room j X.A) (hk : k + 1 ≤ j := by decide) : OpR X (compareOp .NotEq) (rEqOwn C sp not) := by
  intro pins s σ H x y u v Q I rx ry h
  obtain ⟨f, fd, M, F, b⟩ := c.ex
  obtain ⟨a, b', dx, dy, fs, gs, rfl, rfl, ha, hb, h⟩ := h
  cases rx
  cases ry
  obtain ⟨mA, J, _⟩ := ins_get I.hok ha
  obtain ⟨mB, J', _⟩ := ins_get I.hok hb
  obtain ⟨od, J, _⟩ := J.look
  obtain ⟨od', J', _⟩ := J'.look
  have r2 : Vals [V.ref a, V.ref b'] [Value.ref a, Value.ref b'] := .cons rfl (.cons rfl .nil)
  refine ne_K (tb := .ref C) (hu_of hr) I.kIn J J'.type (by simp [PySem.W.notFirst]) n.ne n.ob M.at_ M.fn ?_
  have hr1 : Room k X.A.in1 := (hr.mono hk).in1
  have e0 : Env0 X.prog X.w X.K X.mg X.base X.A.in1 X.stack s H := by
    have e := I.env0
    exact ⟨e.frames, e.mod, e.bs, e.bsz, e.funs, e.frf, e.hok, e.bare⟩
  have hl := F.len _ _ _ _ h
  refine wpAny_call (codeAny_mono (F.run X.A.in1 X.stack s H ⟨[.ref a, .ref b'], []⟩ [.ref a, .ref b'] [.ref a, .ref b'] _ E0 hr1 e0 (by
    have := b s [.ref a, .ref b'] I.kIn (by simpa using hl)
    simpa using this) r2 h) fun r s' hq => ?_)
  cases r with
  | error e => exact pass0 pins σ H s e s' I hq
  | ok fl =>
    cases fl with
    | ret w =>
      obtain ⟨z, H', I', rz, b, ez, q⟩ := I.after hq
      subst ez
      cases rz
      exact ⟨b, rfl, .bl (!b), H', I', rfl, q⟩
    | next => exact False.elim hq
    | brk => exact False.elim hq
    | cont => exact False.elim hq

/-! ### text times an int; xs += ys -/
theorem op_mul_str : OpR X (binaryOp .Mult) (fun x y H Q => ∃ (z : Str) (i : Int), x = .str z ∧ y = .int i ∧ z.length ≤ 16 ∧ -(2 ^ 63) ≤ i ∧ i ≤ 1048576 ∧ Q (.str (Txt.mul z i)) H) := by
  intro pins s σ H x y u v Q I rx ry h
  obtain ⟨z, i, rfl, rfl, h1, h2, h3, q⟩ := h
  obtain ⟨t, rfl⟩ := rx
  obtain ⟨t', rfl⟩ := ry
  exact PySem.W.KXi.mul rfl h1 h2 h3 fun t' k _ _ => ⟨.str (Txt.mul z i), H, I.tok _, ⟨_, rfl⟩, q⟩
theorem pe_gstr {x z : Str} {t : Tok} {pos : Pos} (hm : X.mg x = some (.str z t)) (hg : Gl X x := by rfl) (hd : (x == ("__debug__" : Str)) = false := by decide) : PE X (.Name x pos) (tC (.str z)) := pe_glob hg hm ⟨_, rfl⟩ hd
theorem pe_gint {x : Str} {i : Int} {t : Tok} {pos : Pos} (hm : X.mg x = some (.int i t)) (hg : Gl X x := by rfl) (hd : (x == ("__debug__" : Str)) = false := by decide) : PE X (.Name x pos) (tC (.int i)) := pe_glob hg hm ⟨_, rfl⟩ hd
theorem pe_gref {x : Str} {a : Addr} {pos : Pos} (hm : X.mg x = some (.ref a)) (hg : Gl X x := by rfl) (hd : (x == ("__debug__" : Str)) = false := by decide) : PE X (.Name x pos) (tC (.ref a)) := pe_glob (v := .ref a) hg hm rfl hd
theorem pe_bty {x : Str} (T : String) {pos : Pos} (hm : X.mg x = none) (hv : bootBuiltins x = some (.type T)) (hg : Gl X x := by rfl) (hn : x ≠ "__name__" := by decide) (hd : (x == ("__debug__" : Str)) = false := by decide) : PE X (.Name x pos) (tC (.ty T)) := pe_bltn (v := .ty T) hg hm hv rfl hn hd
/-- tuple(xs), the new object known whole -/
theorem call_tuple_frz : CallR X (.type "tuple") (fun xs H Q => ∃ p ys, xs = [.ref p] ∧ ((SqL X.K H p ys ∧ ∀ l o, H l = none → o.dict = none → Q (.ref l) (upd H l (.frz o (.tup ys)))) ∨ (SqT X.K H p ys ∧ Q (.ref p) H))) := by
  intro pins s σ H xs us Q I r h
  obtain ⟨p, ys, rfl, h⟩ := h
  obtain ⟨u, rfl, rx⟩ := vals1 r
  cases rx
  rcases h with ⟨hq, q⟩ | ⟨hq, q⟩
  · obtain ⟨its, r', pl, hz⟩ := I.list hq
    have hlen := r'.length
    refine PySem.call_tuple_list pl.isList (fun h' kp => ?_) (by simp only [List.size_toArray] <;> omega)
    have I1 : Inv X pins σ H { s with heap := h' } := I.kept (t' := s.toks) kp
    have I2 : Inv X pins σ (upd H h'.objs.size (.frz { cls := .type "tuple", data := .seq its.toArray } (.tup ys))) { s with heap := h'.push { cls := .type "tuple", data := .seq its.toArray } } :=
      I1.laid (t' := s.toks) (fun b o e => Heap.get?_push_of_some _ e) (Nat.le_refl _) (show ObjOk X.prog X.w _ _ _ (.frz _ (.tup ys)) from ⟨by heap_get, hz, its, r', PyProof.Rows.IsTup.new _ _⟩)
    exact ⟨.ref h'.objs.size, _, I2, rfl, q _ _ (I1.hok.fresh (Nat.le_refl _)) rfl⟩
  · obtain ⟨its, r', pl, hz⟩ := I.tuple hq
    exact PySem.call_tuple_same pl ⟨.ref p, H, I, rfl, q⟩
/-- a tuple known whole -/
def TupF (H : Hp) (x : V) : Prop := ∃ p o xs, x = .ref p ∧ H p = some (.frz o (.tup xs)) ∧ o.dict = none
def tTupM (r : V → List V → Hp → VK → Prop) (to : TE) (t : TA) : TE := fun σ H Q => to σ H fun x H1 => TupF H1 x ∧ t σ H1 fun xs H2 => r x xs H2 Q
theorem pe_tupm {o e : Expr} {es : List Expr} {to : TE} {t : TA} {name : Str} {apos cpos : Pos} {id : String} {r : V → List V → Hp → VK → Prop} (slot : Slot "tuple" name id) (hty : typeOf (.builtin id) = pure (.type "method_descriptor")) (hm : MtR X id r) (ho : PE X o to) (ha : PA X (e :: es) t)
    (hbase : attributeBase o name X.env (eval o X.env) = eval o X.env := by rfl)
    (hfew : ((backTo cpos (starEach (e :: es) X.env)).all (fun x => !x.1) && (backToKw cpos (keywordEach [] X.env)).all (fun x => x.1.isSome)
      && decide ((e :: es).length + ([] : List Keyword).length + (if ([] : List Keyword).isEmpty then 0 else 1) < 30)) = true := by rfl)
    (hline : (apos.endLine == cpos.line) = true := by rfl) (hs : starEach (e :: es) X.env = (false, eval e X.env) :: starEach es X.env := by rfl) (hplain : (backTo cpos (starEach es X.env)).any (·.1) = false := by rfl) :
    PE X (.Call (.Attribute o name apos) (e :: es) [] cpos) (tTupM r to t) := by
  refine ⟨fun pins s σ H Q I h => ?_⟩
  refine wpAny_Call_method_late hbase hfew hline rfl (thn (ho.run pins s σ H _ I h) fun v s1 ⟨x, H1, I1, r1, ty, q1⟩ => ?_)
  obtain ⟨p, ob, xs, rfl, hp, hd⟩ := ty
  cases r1
  obtain ⟨hob, _, its, _, o', ho', hc, _⟩ := I1.hok p _ hp
  have eo : ob = o' := Option.some.inj (hob.symm.trans ho')
  refine ⟨"tuple", id, PySem.F.plainAttrs_tuple, slot, hty, ⟨o', ho', hc⟩, fun a e => ?_, ?_⟩
  · cases e
    exact ⟨ob, hob, hd⟩
  have hA := ha.run cpos pins s1 σ H1 _ I1 q1
  rw [hs] at hA ⊢
  refine Calls.callWith_builtin (by show (false || (backTo cpos (starEach es X.env)).any (·.1)) = false; rw [hplain] <;> rfl) (Calls.evalArgs_plain ?_)
  exact thn hA fun us s2 ⟨vs, H2, I2, r2, q2⟩ => hm pins s2 σ H2 (.ref p) vs (.ref p) us Q I2 rfl r2 q2
/-- a if c else b as a test -/
def tIfT (tc tp tq : TT) : TT := fun σ H Q => tc σ H fun b H1 => if b = true then tp σ H1 Q else tq σ H1 Q
theorem pt_ifExp {c p q : Expr} {tc tp tq : TT} {pos : Pos} (hc : PT X c tc) (hp : PT X p tp) (hq : PT X q tq) : PT X (.IfExp c p q pos) (tIfT tc tp tq) := by
  refine ⟨fun pins s σ H Q I h => ?_⟩
  refine PyProof.Rows.isTrue_IfExp (thn (hc.run pins s σ H _ I h) fun b s1 ⟨H1, I1, h1⟩ => ?_)
  cases b with
  | true => exact hp.run pins s1 σ H1 Q I1 (by simpa using h1)
  | false => exact hq.run pins s1 σ H1 Q I1 (by simpa using h1)
/-! ### within a comprehension: the written part by its name -/
theorem pi_tupK {K : PySem.W.Frag} {tg l : Expr} {tl : TE} (hl : PE X l tl) (hK : X.K = K := by rfl) : PI X tg l (iTup K tl) := hK ▸ pi_tup hl
theorem pi_listK {K : PySem.W.Frag} {tg l : Expr} {tl : TE} (hl : PE X l tl) (hK : X.K = K := by rfl) : PI X tg l (iList K tl) := hK ▸ pi_list hl
theorem pe_fldK {K : PySem.W.Frag} {e : Expr} {f : Str} {ta : TE} {pos : Pos} (he : PE X e ta) (hb : attributeBase e f X.env (eval e X.env) = eval e X.env) (hK : X.K = K := by rfl) : PE X (.Attribute e f pos) (tFld K ta f) := hK ▸ pe_fld he hb
theorem op_in_seqK {K : PySem.W.Frag} (hK : X.K = K := by rfl) : OpR X (compareOp .In) (rIn K false) := hK ▸ op_in_seq
theorem op_notIn_seqK {K : PySem.W.Frag} (hK : X.K = K := by rfl) : OpR X (compareOp .NotIn) (rIn K true) := hK ▸ op_notIn_seq
theorem ix_listK {K : PySem.W.Frag} (hK : X.K = K := by rfl) : IxR X (rIxL K) := hK ▸ ix_list
theorem ix_tupK {K : PySem.W.Frag} (hK : X.K = K := by rfl) : IxR X (rIxT K) := hK ▸ ix_tup
theorem sl_listK {K : PySem.W.Frag} (hK : X.K = K := by rfl) : SlR X (rSlL K) := hK ▸ sl_list
theorem call_isiK' {K : PySem.W.Frag} (hK : X.K = K := by rfl) : CallR X (.builtin "isinstance") (rIsi K) := hK ▸ call_isi
theorem ip_ext : PIp X .Add rExt2 := by
  intro pins s σ H x y u v Q I rx ry h
  exact iop_ext pins s σ H x y u v Q I rx ry h
end
end Aq
/-! readings, one step at a time, the rest behind -/
namespace Aq
open PySem L2 Evl
section
variable {σ : L2.St} {H : Hp} {Q : VK} {K : PySem.W.Frag} {v x y : V} {ta tb tc te tv : TE} {tA tB' : TT} {ts : TA} {i j : Int} {n : Nat} {nx bk ct : L2.St → Hp → Prop} {rt : VK} {t u : TS} {g : TG}
/-! #### values -/
theorem rd_var {k : Nat} (h : σ[k]? = some (some v)) (q : Q v H) : tVar k σ H Q := ⟨v, h, q⟩
theorem rd_c (q : Q v H) : tC v σ H Q := q
theorem rd_op {r : R2} (h : ta σ H fun x H1 => tb σ H1 fun y H2 => r x y H2 Q) : tOp r ta tb σ H Q := h
theorem rd_un {r : V → Hp → VK → Prop} (h : ta σ H fun x H1 => r x H1 Q) : tUn r ta σ H Q := h
theorem rd_I0 {f : Int → Int → V} (q : Q (f i j) H) : rI0 f (.int i) (.int j) H Q := ⟨i, j, rfl, rfl, q⟩
theorem rd_I {C : Int → Int → Prop} {f : Int → Int → V} (c : C i j) (q : Q (f i j) H) : rI C f (.int i) (.int j) H Q := ⟨i, j, rfl, rfl, c, q⟩
theorem rd_eq (h : scal x y = true) (q : Q (.bl (decide (x = y))) H) : rEq x y H Q := ⟨h, q⟩
theorem rd_ne (h : scal x y = true) (q : Q (.bl (!decide (x = y))) H) : rNe x y H Q := ⟨h, q⟩
theorem rd_B {Qb : Bool → Hp → Prop} (h : te σ H fun x H1 => ∃ c, x = .bl c ∧ Qb c H1) : tB te σ H Qb := h
theorem rd_test {Qb : Bool → Hp → Prop} (h : te σ H fun x H1 => ∃ c, x = .bl c ∧ Qb c H1) : tTest te σ H Qb := h
theorem rd_bl {b : Bool} {Qb : Bool → Prop} (q : Qb b) : ∃ c, V.bl b = V.bl c ∧ Qb c := ⟨b, rfl, q⟩
theorem rd_not {Qb : Bool → Hp → Prop} (h : tA σ H fun c H1 => Qb (!c) H1) : tNot tA σ H Qb := h
theorem rd_and {Qb : Bool → Hp → Prop} (h : tA σ H fun c H1 => if c = true then tB' σ H1 Qb else Qb false H1) : tAnd tA tB' σ H Qb := h
theorem rd_or {Qb : Bool → Hp → Prop} (h : tA σ H fun c H1 => if c = true then Qb true H1 else tB' σ H1 Qb) : tOr tA tB' σ H Qb := h
theorem rd_andV (h : ta σ H fun x H1 => ∃ c, x = .bl c ∧ if c = true then tb σ H1 Q else Q (.bl false) H1) : tAndV ta tb σ H Q := h
theorem rd_orV (h : ta σ H fun x H1 => ∃ c, x = .bl c ∧ if c = true then Q (.bl true) H1 else tb σ H1 Q) : tOrV ta tb σ H Q := h
theorem rd_notV (h : ta σ H fun x H1 => ∃ c, x = .bl c ∧ Q (.bl (!c)) H1) : tNotV ta σ H Q := h
theorem rd_if (h : tA σ H fun c H1 => if c = true then ta σ H1 Q else tb σ H1 Q) : tIf tA ta tb σ H Q := h
theorem rd_ifT {tp tq : TT} {Qb : Bool → Hp → Prop} (h : tA σ H fun c H1 => if c = true then tp σ H1 Qb else tq σ H1 Qb) : tIfT tA tp tq σ H Qb := h
theorem rd_chain {r r' : R2} (h : ta σ H fun x H1 => tb σ H1 fun y H2 => r x y H2 fun z H3 => ∃ k, z = .bl k ∧ (if k = true then tc σ H3 fun w' H4 => r' y w' H4 Q else Q (.bl false) H3)) : tChain r r' ta tb tc σ H Q := h
theorem rd_cb {r : List V → Hp → VK → Prop} (h : ts σ H fun vs H1 => r vs H1 Q) : tCB r ts σ H Q := h
theorem rd_nil {Ql : List V → Hp → Prop} (q : Ql [] H) : tNil σ H Ql := q
theorem rd_cons {Ql : List V → Hp → Prop} (h : ta σ H fun x H1 => ts σ H1 fun xs H2 => Ql (x :: xs) H2) : tCons ta ts σ H Ql := h
theorem rd_call {sp : Sp} {dvs : List V} {E : XK} (h : ts σ H fun vs H1 => sp (vs ++ dvs) H1 Q E) : tCall sp dvs E ts σ H Q := h
/-- a new object: what stood stands -/
theorem rd_new {o : HO} {Qp : V → Hp → Prop} (q : ∀ p H', H p = none → Ex H H' → H' p = some o → Qp (.ref p) H') : ∀ p, H p = none → Qp (.ref p) (upd H p o) :=
  fun p hp => q p _ hp (Ex.new hp) upd_same
theorem rd_tup (h : ts σ H fun xs H1 => xs.length ≤ sizeLine ∧ ∀ p, H1 p = none → Q (.ref p) (upd H1 p (.tup xs))) : tTup ts σ H Q := h
theorem rd_lst (h : ts σ H fun xs H1 => xs.length ≤ sizeLine ∧ ∀ p, H1 p = none → Q (.ref p) (upd H1 p (.lst xs))) : tLst ts σ H Q := h
/-! #### fields, dicts -/
theorem rd_fld {f : Str} (h : ta σ H fun x H1 => ∃ a C dx fs v, x = .ref a ∧ H1 a = some (.ins C dx fs) ∧ Cls K C ∧ NoAttr K C f ∧ fs.lookup f = some v ∧ Q v H1) : tFld K ta f σ H Q := h
theorem rd_fldAt {f : Str} {a C dx : Addr} {fs : List (Str × V)} {R : V → Prop} (ho : H a = some (.ins C dx fs)) (c : Cls K C) (n : NoAttr K C f) (l : fs.lookup f = some v) (q : R v) :
    ∃ a' C dx fs v, V.ref a = .ref a' ∧ H a' = some (.ins C dx fs) ∧ Cls K C ∧ NoAttr K C f ∧ fs.lookup f = some v ∧ R v := ⟨a, C, dx, fs, v, rfl, ho, c, n, l, q⟩
theorem rd_dget {td ty : TE} (h : td σ H fun x H1 => ty σ H1 fun y H2 => ∃ a v, x = .ref a ∧ DGet H2 a y (some v) ∧ Q v H2) : tDGet td ty σ H Q := h
theorem rd_dgetS {a : Addr} {kvs : List (Key × V)} {k : Str} {R : V → Prop} (ho : H a = some (.dK kvs)) (l : valV kvs (Sum.inr k) = some v) (q : R v) : ∃ a' v, V.ref a = .ref a' ∧ DGet H a' (.str k) (some v) ∧ R v :=
  ⟨a, v, rfl, by have := DGet.k (k := Sum.inr k) ho; rw [l] at this; exact this, q⟩
/-! #### statements -/
theorem rd_seq (h : t ⟨u ⟨nx, rt, bk, ct⟩, rt, bk, ct⟩ σ H) : tSeq t u ⟨nx, rt, bk, ct⟩ σ H := h
theorem rd_asg {k : Nat} (h : te σ H fun x H1 => nx (σ.set k (some x)) H1) : tAsg te (gName k) ⟨nx, rt, bk, ct⟩ σ H := h
theorem rd_asgG (h : te σ H fun x H1 => g x σ H1 nx) : tAsg te g ⟨nx, rt, bk, ct⟩ σ H := h
theorem rd_gname {k : Nat} {R : L2.St → Hp → Prop} (q : R (σ.set k (some v)) H) : gName k v σ H R := q
theorem rd_drop (h : te σ H fun _ H1 => nx σ H1) : tDrop te ⟨nx, rt, bk, ct⟩ σ H := h
theorem rd_ret (h : te σ H rt) : tRet te ⟨nx, rt, bk, ct⟩ σ H := h
theorem rd_next (q : nx σ H) : tNext ⟨nx, rt, bk, ct⟩ σ H := q
theorem rd_ifS {c : TT} (h : c σ H fun b H1 => if b = true then t ⟨nx, rt, bk, ct⟩ σ H1 else u ⟨nx, rt, bk, ct⟩ σ H1) : tIfS c t u ⟨nx, rt, bk, ct⟩ σ H := h
theorem rd_par {k l : Nat} (h : ts σ H fun vs H1 => ∃ v w, vs = [v, w] ∧ nx ((σ.set k (some v)).set l (some w)) H1) : tPar k l ts ⟨nx, rt, bk, ct⟩ σ H := h
theorem rd_two {a b : V} {R : V → V → Prop} (q : R a b) : ∃ v w, [a, b] = [v, w] ∧ R v w := ⟨a, b, rfl, q⟩
theorem rd_dput {td ty : TE} (h : tv σ H fun v H1 => td σ H1 fun x H2 => ty σ H2 fun y H3 => ∃ a H4, x = .ref a ∧ DPut H3 a y v H4 ∧ nx σ H4) : sDPut td ty tv ⟨nx, rt, bk, ct⟩ σ H := h
theorem rd_dputS {a : Addr} {kvs : List (Key × V)} {k : Str} {R : Hp → Prop} (ho : H a = some (.dK kvs)) (hl : kvs.length < sizeLine) (q : R (upd H a (.dK (putK kvs (Sum.inr k) v)))) : ∃ a' H4, V.ref a = .ref a' ∧ DPut H a' (.str k) v H4 ∧ R H4 :=
  ⟨a, _, rfl, DPut.k (k := Sum.inr k) ho hl, q⟩
theorem rd_sfld {f : Str} (h : tv σ H fun y H1 => ta σ H1 fun x H2 => ∃ a C dx fs, x = .ref a ∧ H2 a = some (.ins C dx fs) ∧ Cls K C ∧ NoAttr K C f ∧ fs.length < 1000 ∧ nx σ (upd H2 a (.ins C dx (putF f y fs)))) : sFld K ta tv f ⟨nx, rt, bk, ct⟩ σ H := h
theorem rd_sfldAt {f : Str} {a C dx : Addr} {fs : List (Str × V)} {R : Hp → Prop} (ho : H a = some (.ins C dx fs)) (c : Cls K C) (n : NoAttr K C f) (l : fs.length < 1000) (q : R (upd H a (.ins C dx (putF f v fs)))) :
    ∃ a' C dx fs, V.ref a = .ref a' ∧ H a' = some (.ins C dx fs) ∧ Cls K C ∧ NoAttr K C f ∧ fs.length < 1000 ∧ R (upd H a' (.ins C dx (putF f v fs))) := ⟨a, C, dx, fs, rfl, ho, c, n, l, q⟩
theorem rd_yes {Qb : Bool → Hp → Prop} (q : Qb true H) : tYes σ H Qb := q
theorem rd_nt {A B : Prop} (h : B) : if (!true) = true then A else B := h
theorem rd_nf {A B : Prop} (h : A) : if (!false) = true then A else B := h
theorem rd_for {wi : TI} {tb : TS} (h : wi σ H fun J H1 => ∃ W : Nat → Nat → L2.St → Hp → Prop, (∃ m, W 0 m σ H1) ∧ ∀ i m σ H, W i m σ H →
      (J.stop i H ∧ nx σ H) ∨ (J.go i H ∧ ∃ N : L2.St → Hp → Prop, (∀ σ' H', N σ' H' → ∃ m', m' < m ∧ W (i + 1) m' σ' H') ∧ ∀ x H', J.yld i H x H' → g x σ H' fun σ2 H2 => tb ⟨N, rt, nx, N⟩ σ2 H2)) : tFor wi g tb ⟨nx, rt, bk, ct⟩ σ H := h
theorem rd_lc {wi : TI} {tt : TT} {vs : List Nat} (h : wi σ H fun J H1 => ∀ D, H1 D = none → ∃ W : Nat → Nat → Hp → Prop, (∃ m, W 0 m (upd H1 D (.lst []))) ∧ ∀ i m H, W i m H →
  (J.stop i H ∧ Q (.ref D) H) ∨ (J.go i H ∧ ∃ Nx : Hp → Prop, (∀ H', Nx H' → ∃ m', m' < m ∧ W (i + 1) m' H') ∧ ∀ x H', J.yld i H x H' → g x (wipe σ vs) H' fun σ2 H2 => wipe σ2 vs = wipe σ vs ∧ tt σ2 H2 fun b H3 =>
    if b = true then te σ2 H3 fun y H4 => ∃ acc, H4 D = some (.lst acc) ∧ acc.length < sizeLine ∧ Nx (upd H4 D (.lst (acc ++ [y]))) else Nx H3)) : tLc wi g tt te vs σ H Q := h
theorem rd_iStr {R : It → Hp → Prop} (h : te σ H fun v H1 => ∃ x, v = .str x ∧ R (Its x) H1) : iStr te σ H R := h
theorem rd_iStrAt {z : Str} {R : Str → Prop} (q : R z) : ∃ x, V.str z = .str x ∧ R x := ⟨z, rfl, q⟩
theorem rd_iList {R : It → Hp → Prop} (h : te σ H fun x H1 => ∃ a, x = .ref a ∧ (∃ xs, SqL K H1 a xs) ∧ R (Itl K a) H1) : iList K te σ H R := h
theorem rd_iTup {R : It → Hp → Prop} (h : te σ H fun x H1 => ∃ a, x = .ref a ∧ (∃ xs, SqT K H1 a xs) ∧ R (Itt K a) H1) : iTup K te σ H R := h
theorem rd_iListAt {a : Addr} {xs : List V} {R : Addr → Prop} (h : SqL K H a xs) (q : R a) : ∃ a', V.ref a = .ref a' ∧ (∃ xs, SqL K H a' xs) ∧ R a' := ⟨a, rfl, ⟨_, h⟩, q⟩
theorem rd_iTupAt {a : Addr} {xs : List V} {R : Addr → Prop} (h : SqT K H a xs) (q : R a) : ∃ a', V.ref a = .ref a' ∧ (∃ xs, SqT K H a' xs) ∧ R a' := ⟨a, rfl, ⟨_, h⟩, q⟩
theorem rd_iRng1 {R : It → Hp → Prop} (h : ts σ H fun vs H1 => ∃ j : Int, vs = [.int j] ∧ -(2 ^ 62) ≤ j ∧ j < 2 ^ 62 ∧ R (Itr 0 j.toNat) H1) : iRng1 ts σ H R := h
theorem rd_iRngAt {n : Int} {R : Int → Prop} (h1 : -(2 ^ 62) ≤ n) (h2 : n < 2 ^ 62) (q : R n) : ∃ j : Int, [V.int n] = [.int j] ∧ -(2 ^ 62) ≤ j ∧ j < 2 ^ 62 ∧ R j := ⟨n, rfl, h1, h2, q⟩
theorem rd_iEnum {R : It → Hp → Prop} (h : ts σ H fun vs H1 => ∃ a xs, vs = [.ref a] ∧ SqL K H1 a xs ∧ R (Ite K a) H1) : iEnum K ts σ H R := h
theorem rd_iEnumAt {a : Addr} {xs : List V} {R : Addr → Prop} (h : SqL K H a xs) (q : R a) : ∃ a' ys, [V.ref a] = [.ref a'] ∧ SqL K H a' ys ∧ R a' := ⟨a, xs, rfl, h, q⟩
theorem rd_sl {r : V → Option Int → Option Int → Hp → VK → Prop} {tl th : TO} (h : te σ H fun x H1 => tl σ H1 fun lo H2 => th σ H2 fun hi H3 => r x lo hi H3 Q) : L2.tSl r te tl th σ H Q := h
theorem rd_noPart {R : Option Int → Hp → Prop} (q : R none H) : tNoPart σ H R := q
theorem rd_part {R : Option Int → Hp → Prop} (h : te σ H fun x H1 => ∃ i, x = .int i ∧ R (some i) H1) : tPart te σ H R := h
theorem rd_partAt {R : Int → Prop} (q : R i) : ∃ k, V.int i = .int k ∧ R k := ⟨i, rfl, q⟩
theorem rd_slS {z : Str} {lo hi : Option Int} (hz : z.length ≤ 100000) (q : Q (.str (cutS z lo hi)) H) : rSlS (.str z) lo hi H Q := ⟨z, rfl, sz_of hz, q⟩
theorem rd_slL {p : Addr} {xs : List V} {lo hi : Option Int} (h : SqL K H p xs) (q : ∀ l H', H l = none → Ex H H' → H' l = some (.lst (cutV xs lo hi)) → Q (.ref l) H') : rSlL K (.ref p) lo hi H Q := ⟨p, xs, rfl, h, rd_new q⟩
theorem rd_make {C : Addr} {sp : Sp} {dvs : List V} {E : XK} (h : ts σ H fun vs H1 => ∀ x dx, H1 x = none → H1 dx = none → dx ≠ x → sp (.ref x :: (vs ++ dvs)) (upd (upd H1 dx (.own x)) x (.ins C dx [])) (fun v H2 => v = .non ∧ Q (.ref x) H2) E) : tMake C sp dvs E ts σ H Q := h
theorem rd_meth {C : Addr} {m : Str} {sp : Sp} {dvs : List V} {E : XK} (h : ta σ H fun x H1 => ∃ a dx fs, x = .ref a ∧ H1 a = some (.ins C dx fs) ∧ fs.lookup m = none ∧ ts σ H1 fun vs H2 => sp (x :: (vs ++ dvs)) H2 Q E) : tMeth C m sp dvs E ta ts σ H Q := h
theorem rd_bm {T : String} {r : V → List V → Hp → VK → Prop} (h : ta σ H fun x H1 => tyV K T x H1 ∧ ts σ H1 fun xs H2 => r x xs H2 Q) : tBM K T r ta ts σ H Q := h
theorem rd_tyL {l : Addr} {xs : List V} {R : Prop} (h : SqL K H l xs) (q : R) : tyV K "list" (.ref l) H ∧ R := ⟨.inl ⟨rfl, _, h⟩, q⟩
theorem rd_tupm {r : V → List V → Hp → VK → Prop} (h : ta σ H fun x H1 => TupF H1 x ∧ ts σ H1 fun xs H2 => r x xs H2 Q) : tTupM r ta ts σ H Q := h
theorem st_frz {a : Addr} {o : Obj} {xs : List V} (h : H a = some (.frz o (.tup xs))) : SqT K H a xs := .inl (.inr ⟨o, h⟩)
theorem rd_aug {k : Nat} {ti : TIp} (hv : σ[k]? = some (some v)) (q : te σ H fun y H1 => ti v y H1 fun z H2 => nx (σ.set k (some z)) H2) : tAug k te ti ⟨nx, rt, bk, ct⟩ σ H := ⟨v, hv, q⟩
theorem rd_append {l : Addr} {xs : List V} (h : H l = some (.lst xs)) (hl : xs.length < sizeLine) (q : Q .non (upd H l (.lst (xs ++ [y])))) : rAppend (.ref l) [y] H Q := ⟨l, xs, y, rfl, rfl, h, hl, q⟩
theorem rd_ext {l b : Addr} {xs zs : List V} (h1 : H l = some (.lst xs)) (h2 : H b = some (.lst zs)) (h3 : xs.length + zs.length ≤ sizeLine) (q : Q (.ref l) (upd H l (.lst (xs ++ zs)))) : rExt2 (.ref l) (.ref b) H Q := ⟨l, b, xs, zs, rfl, rfl, h1, h2, h3, q⟩
theorem rd_while {c : TT} {tb : TS} (W : Nat → L2.St → Hp → Prop) (m0 : Nat) (h0 : W m0 σ H)
    (hs : ∀ m σ H, W m σ H → c σ H fun b H1 => if b = true then ∃ N : L2.St → Hp → Prop, (∀ σ' H', N σ' H' → ∃ m', m' < m ∧ W m' σ' H') ∧ tb ⟨N, rt, nx, N⟩ σ H1 else nx σ H1) : tWhile c tb ⟨nx, rt, bk, ct⟩ σ H := ⟨W, ⟨m0, h0⟩, hs⟩
theorem rd_m1 {r : V → List V → Hp → VK → Prop} (h : ta σ H fun x H1 => (∃ a, x = .str a) ∧ tb σ H1 fun y H2 => r x [y] H2 Q) : tM1 r ta tb σ H Q := h
theorem rd_isS {z : Str} {R : Prop} (q : R) : (∃ a, V.str z = .str a) ∧ R := ⟨⟨z, rfl⟩, q⟩
/-! #### built-ins -/
theorem rd_isi {t c : V} {a b : Value} {r : Bool} (h1 : ClsV c b) (h2 : TyX K H t a) (h3 : PySem.W.kitOne K a b = some r) (q : Q (.bl r) H) : rIsi K [t, c] H Q := ⟨t, c, a, b, r, rfl, h1, h2, h3, q⟩
theorem rd_isiStr {z : Str} (q : Q (.bl true) H) : rIsi K [.str z, .ty "str"] H Q := rd_isi (a := .type "str") (b := .type "str") (.ty _) (.base (.str z)) (kit_ty (by decide +kernel)) q
theorem rd_lenS {z : Str} {R : Str → Prop} (hz : z.length ≤ 100000) (q : R z) : ∃ x, [V.str z] = [.str x] ∧ x.length ≤ sizeLine ∧ R x := ⟨z, rfl, sz_of hz, q⟩
theorem rd_lenL {a : Addr} {xs : List V} {R : List V → Prop} (h : SqL K H a xs) (q : R xs) : ∃ p ys, [V.ref a] = [.ref p] ∧ (SqL K H p ys ∨ SqT K H p ys) ∧ R ys := ⟨a, xs, rfl, .inl h, q⟩
theorem rd_lenT {a : Addr} {xs : List V} {R : List V → Prop} (h : SqT K H a xs) (q : R xs) : ∃ p ys, [V.ref a] = [.ref p] ∧ (SqL K H p ys ∨ SqT K H p ys) ∧ R ys := ⟨a, xs, rfl, .inr h, q⟩
theorem rd_intI {R : Int → Prop} {R' : Bool → Prop} (q : R i) : (∃ k, [V.int i] = [.int k] ∧ R k) ∨ ∃ k, [V.int i] = [.bl k] ∧ R' k := .inl ⟨i, rfl, q⟩
theorem rd_intB {b : Bool} {R : Int → Prop} {R' : Bool → Prop} (q : R' b) : (∃ k, [V.bl b] = [.int k] ∧ R k) ∨ ∃ k, [V.bl b] = [.bl k] ∧ R' k := .inr ⟨b, rfl, q⟩
theorem rd_abs {R : Int → Prop} (q : R i) : ∃ k, [V.int i] = [.int k] ∧ R k := ⟨i, rfl, q⟩
theorem rd_strs {x y : Str} {R : Str → Str → Prop} (h : x.length + y.length ≤ 100000) (q : R x y) : ∃ i j, V.str x = .str i ∧ V.str y = .str j ∧ i.length + j.length ≤ sizeLine ∧ R i j := ⟨x, y, rfl, rfl, sz_of h, q⟩
theorem rd_sign {c : Nat} {z : Str} {R : Nat → Str → Prop} (q : R c z) : ∃ (d : Nat) (y : Str), V.str ⟨#[c]⟩ = .str ⟨#[d]⟩ ∧ V.str z = .str y ∧ R d y := ⟨c, z, rfl, rfl, q⟩
theorem rd_mulS {z : Str} {R : Str → Int → Prop} (h1 : z.length ≤ 16) (h2 : -(2 ^ 63) ≤ i) (h3 : i ≤ 1048576) (q : R z i) : ∃ (y : Str) (k : Int), V.str z = .str y ∧ V.int i = .int k ∧ y.length ≤ 16 ∧ -(2 ^ 63) ≤ k ∧ k ≤ 1048576 ∧ R y k := ⟨z, i, rfl, rfl, h1, h2, h3, q⟩
theorem rd_isN' {R : Prop} (q : R) : V.non = V.non ∧ R := ⟨rfl, q⟩
theorem rd_ixS {z : Str} {c : Nat} (hz : z.length ≤ 100000) (h : atI z.cps.toList i = some c) (q : Q (.str ⟨#[c]⟩) H) : rIxS (.str z) (.int i) H Q := ⟨z, i, c, rfl, rfl, sz_of hz, h, q⟩
theorem rd_all {p : Addr} {bs : List Bool} (h : SqL K H p (bs.map V.bl)) (q : Q (.bl (bs.all id)) H) : rAll K [.ref p] H Q := ⟨p, bs, rfl, h, q⟩
theorem rd_any {p : Addr} {bs : List Bool} (h : SqL K H p (bs.map V.bl)) (q : Q (.bl (bs.any id)) H) : rAny K [.ref p] H Q := ⟨p, bs, rfl, h, q⟩
theorem len_cps (z : Str) : z.cps.toList.length = z.length := by simp [Str.length]
/-- what isinstance wants of an own class -/
structure IsiC (K : PySem.W.Frag) (C : Addr) : Prop where
  ha : PySem.W.findIn K (.ref C) "__class__" = some (some (.builtin "object.__class__"))
  hn : PySem.W.specialIn K (.builtin "object.__class__") "__get__" = some (some (.builtin "getset_descriptor.__get__"))
  htk : PySem.W.takesIn K (.builtin "object.__class__") = some true
  hm : PySem.W.mroIn K C (.type "object") = some true
  self : PySem.W.kitOne K (.ref C) (.ref C) = some true
theorem rd_isiOwn {a C dx : Addr} {fs : List (Str × V)} (c : Cls K C) (I : IsiC K C) (ho : H a = some (.ins C dx fs)) (q : Q (.bl true) H) : rIsi K [.ref a, .ref C] H Q :=
  rd_isi (.own C) (.base (.ins ho c I.ha I.hn I.htk I.hm)) I.self q
end
end Aq
/-! zip(tuple, list), out of the library's zip over any two iterators (KE.GoesZip, KE.GoesMore) -/
namespace Aq
open PySem PySem.Spec PyProof.Rows L2
section
/-- a tuple's items beside a list's, in new pairs -/
def ItzM (K : PySem.W.Frag) (a b : Addr) : It where
  go := fun i H => ∃ xs ys, SqT K H a xs ∧ SqL K H b ys ∧ i < xs.length ∧ i < ys.length
  yld := fun i H v H' => ∃ T x y, v = .ref T ∧ H T = none ∧ H' = upd H T (.tup [x, y]) ∧ (∀ xs, SqT K H a xs → xs[i]? = some x) ∧ (∀ ys, SqL K H b ys → ys[i]? = some y)
  stop := fun i H => ∃ xs ys, SqT K H a xs ∧ SqL K H b ys ∧ i ≤ xs.length ∧ i ≤ ys.length ∧ (i = xs.length ∨ i = ys.length)
/-- the five cells of such a zip, i turns in -/
structure ZmAt (z TI TO i1 i2 a b : Addr) (i : Nat) (h : Heap) : Prop where
  zz : IsZip h z TI TO .none
  ti : IsTupOf2 h TI (.ref i1) (.ref i2)
  to : ∃ x y, IsTupOf2 h TO x y
  one : h.IsTupleIter i1 a i
  two : h.IsListIter i2 b i
variable {P : Program} {w : World} {K : PySem.W.Frag} {elts : List Expr} {kk : Nat} {tpos : Pos} {a b z TI TO i1 i2 : Addr}
theorem ZmAt.lt {i : Nat} {h : Heap} (Z : ZmAt z TI TO i1 i2 a b i h) {c : Addr} (hc : c ∈ [z, TI, TO, i1, i2]) : c < h.objs.size := by
  obtain ⟨zz, ti, ⟨x, y, to⟩, ⟨_, one, _⟩, ⟨_, two, _⟩⟩ := Z
  simp only [List.mem_cons, List.not_mem_nil, or_false] at hc
  rcases hc with rfl | rfl | rfl | rfl | rfl <;> exact Heap.lt_size ‹_›
theorem turn_zipM (S : ZipSep2 z TI TO i1 i2 [i1, a] [i2, b]) (na : a ≠ i1) (nb : b ≠ i2) : Turn P w K (.Tuple elts kk tpos) (ItzM K a b) [z, TI, TO, i1, i2] z (ZmAt z TI TO i1 i2 a b) := by
  have ks : ∀ {c : Addr}, c ∉ [z, TI, TO, i1, i2] → c ≠ z ∧ c ≠ TO ∧ c ≠ i1 ∧ c ≠ i2 := fun {c} h => by
    simp only [List.mem_cons, List.not_mem_nil, or_false, not_or] at h; exact ⟨h.1, h.2.2.1, h.2.2.2.1, h.2.2.2.2⟩
  refine ⟨by simp, fun i h Z c hc => ?_, fun i h h' Z k => ?_, ?_, ?_, fun A i s Q E Z h => wpAny_pyIter_zip Z.zz h⟩
  · obtain ⟨zz, ti, ⟨x, y, to⟩, ⟨o1, one, _, d1⟩, ⟨o2, two, _, d2⟩⟩ := Z
    simp only [List.mem_cons, List.not_mem_nil, or_false] at hc
    rcases hc with rfl | rfl | rfl | rfl | rfl
    · exact ⟨_, zz, nofun⟩
    · exact ⟨_, ti, nofun⟩
    · exact ⟨_, to, nofun⟩
    · exact ⟨o1, one, fun v q => nomatch d1.symm.trans q⟩
    · exact ⟨o2, two, fun v q => nomatch d2.symm.trans q⟩
  · obtain ⟨x, y, to⟩ := Z.to
    exact ⟨k z (by simp) _ Z.zz, k TI (by simp) _ Z.ti, ⟨x, y, k TO (by simp) _ to⟩, Z.one.at (k i1 (by simp)), Z.two.at (k i2 (by simp))⟩
  · intro X eP ew eK calm i pins s σ H E I fp Z go
    subst eP ew eK
    have Zl := @Z.lt
    obtain ⟨zz, ti, ⟨x0, y0, to⟩, one, two⟩ := Z
    obtain ⟨xs, ys, qx, qy, lx, ly⟩ := go
    obtain ⟨us, rx, px, _⟩ := I.tuple qx
    obtain ⟨vs, ry, py, _⟩ := I.list qy
    have ex := rx.length
    have ey := ry.length
    have hh : X.A.in1.handled = none := I.ok.hd calm
    refine wpAny_pyNext_zipD2_item S (Draws.tuple hh i1 a na us.toArray) (Draws.list hh i2 b nb vs.toArray) zz ti to ⟨one, px⟩ ⟨two, py.isList⟩ (by simp; omega) (by simp; omega) fun u v h' tk hu hv zz' to' st1 st2 new sz keep => ?_
    refine ⟨_, rfl, wpAny_letOwnedTupleGo_zip (s := { s with heap := h', toks := tk }) zz' fun h2 zz2 sb => ?_⟩
    have up : ∀ c o, c ≠ z → h'.get? c = some o → h2.get? c = some o := fun c o n e => (sb.2 c n).trans e
    have nz : s.heap.objs.size ≠ z := Nat.ne_of_gt (Zl (by simp))
    obtain ⟨x, hx, hu'⟩ : ∃ x, xs[i]? = some x ∧ RelV x u := by
      obtain ⟨u', e1, e2⟩ := rx.get (List.getElem?_eq_getElem lx)
      have : u' = u := by have : us[i]? = some u := by simpa using hu
                          rw [this] at e1; exact (Option.some.inj e1).symm
      exact ⟨_, List.getElem?_eq_getElem lx, this ▸ e2⟩
    obtain ⟨y, hy, hv'⟩ : ∃ y, ys[i]? = some y ∧ RelV y v := by
      obtain ⟨v', e1, e2⟩ := ry.get (List.getElem?_eq_getElem ly)
      have : v' = v := by have : vs[i]? = some v := by simpa using hv
                          rw [this] at e1; exact (Option.some.inj e1).symm
      exact ⟨_, List.getElem?_eq_getElem ly, this ▸ e2⟩
    have ok : ObjOk X.prog X.w (upd H s.heap.objs.size (.tup [x, y])) h2 s.heap.objs.size (.tup [x, y]) := ⟨show 2 ≤ sizeLine by decide, [u, v], .cons hu' (.cons hv' .nil), _, up _ _ nz new, rfl, _, rfl⟩
    have J := I.turnedNew (t' := tk) (fun c o nc e => up c o (ks nc).1 (keep c o (ks nc).1 (ks nc).2.1 (ks nc).2.2.1 (ks nc).2.2.2 e)) fp (Nat.le_refl _) ok
    refine ⟨.ref s.heap.objs.size, _, J, rfl, ⟨_, x, y, rfl, I.hok.fresh (Nat.le_refl _), rfl, fun l hl => I.tuple_inj hl qx ▸ hx, fun l hl => I.list_inj hl qy ▸ hy⟩, ?_, fun c hc => ?_⟩
    · exact ⟨zz2, up _ _ S.TIz (keep TI _ S.TIz S.TITO S.TIi1 S.TIi2 ti), ⟨u, v, up _ _ S.TOz to'⟩, st1.1.at fun o e => up i1 o S.zi1.symm e, st2.1.at fun o e => up i2 o S.zi2.symm e⟩
    · rw [upd_ne (Nat.ne_of_lt (Zl hc))]; exact (fp c hc).1
  · intro X eP ew eK calm i pins s σ H E I fp Z stop
    subst eP ew eK
    obtain ⟨zz, ti, ⟨x0, y0, to⟩, one, two⟩ := Z
    obtain ⟨xs, ys, qx, qy, lx, ly, en⟩ := stop
    obtain ⟨us, rx, px, _⟩ := I.tuple qx
    obtain ⟨vs, ry, py, _⟩ := I.list qy
    have ex := rx.length
    have ey := ry.length
    have hh : X.A.in1.handled = none := I.ok.hd calm
    exact wpAny_pyNext_zipD2_end S (Draws.tuple hh i1 a na us.toArray) (Draws.list hh i2 b nb vs.toArray) zz ti to ⟨one, px⟩ ⟨two, py.isList⟩ (by simp; omega) (by simp; omega) (by simp; omega)
      fun h' tk keep => ⟨rfl, I.turnedL (t' := tk) (fun c o nc e => keep c o (ks nc).1 (ks nc).2.1 (ks nc).2.2.1 (ks nc).2.2.2 e) fp⟩
end
def iZipM (K : PySem.W.Frag) (ta : TA) : TI := fun σ H R => ta σ H fun vs H1 => ∃ a b xs ys, vs = [.ref a, .ref b] ∧ SqT K H1 a xs ∧ SqL K H1 b ys ∧ R (ItzM K a b) H1
theorem pi_zipM {X : Cx} {e e2 : Expr} {ta : TA} {p pos tpos : Pos} {elts : List Expr} {kk : Nat} (g : Gl X "zip") (m : X.mg "zip" = none) (args : PA X [e, e2] ta)
    (s1 : starEach [e, e2] X.env = (false, eval e X.env) :: starEach [e2] X.env := by rfl) (s2 : (backTo pos (starEach [e2] X.env)).any (·.1) = false := by rfl) : PI X (.Tuple elts kk tpos) (.Call (.Name "zip" p) [e, e2] [] pos) (iZipM X.K ta) := by
  constructor
  intro pins s σ H R I rd
  refine Call_ (ld_blt I g m PyProof.Rows.boot_zip (PyProof.Rows.callWith_type1 (thn (args.run pos pins s σ H _ I rd) ?_) s1 s2))
  rintro us t ⟨vs, H1, J, rel, a, b, xs, ys, rfl, qx, qy, r⟩
  obtain ⟨u1, u2, rfl, ra, rb⟩ := rel.two
  cases ra
  cases rb
  obtain ⟨as, rx, px, _⟩ := J.tuple qx
  obtain ⟨bs, ry, py, _⟩ := J.list qy
  have la : a < t.heap.objs.size := let ⟨_, q, _⟩ := px; Heap.lt_size q
  have lb : b < t.heap.objs.size := let ⟨_, q, _⟩ := py.isList; Heap.lt_size q
  refine zip_begins2 (begins_tuple a as.toArray) (begins_list b bs.toArray) px py.isList fun h' zz ti to o1 o2 _ keep => wpAny_pyIter_zip zz ?_
  refine ⟨_, _, _, _, H1, rfl, J.kept (t' := t.toks) keep, turn_zipM (zip_sep2 (N := t.heap.objs.size) (fp1 := [a]) (fp2 := [b]) (by simp; omega) (by simp; omega)) (Nat.ne_of_lt la) (Nat.ne_of_lt (Nat.lt_succ_of_lt lb)), ⟨zz, ti, ⟨_, _, to⟩, ⟨_, o1, rfl, rfl⟩, ⟨_, o2, rfl, rfl⟩⟩, fun c hc => ?_, r⟩
  have le : t.heap.objs.size ≤ c := by simp only [List.mem_cons, List.not_mem_nil, or_false] at hc; rcases hc with q | q | q | q | q <;> rw [q] <;> first | exact Nat.le_refl _ | exact Nat.le_add_right _ _
  exact J.fpOk le (J.hok.fresh le)
end Aq
/-! loops and comprehensions over anything that is walked -/
namespace Aq
open PySem L2 Evl
/-- what an iterator gives while C stands: n turns, Y i x of each -/
structure Yl (J : It) (C : Hp → Prop) (n : Nat) (Y : Nat → V → Hp → Prop) : Prop where
  go : ∀ i H, C H → i < n → J.go i H
  yld : ∀ i H x H', C H → i < n → J.yld i H x H' → Ex H H' ∧ Y i x H'
  stop : ∀ H, C H → J.stop n H
theorem yl_str (z : Str) : Yl (Its z) (fun _ => True) z.cps.size (fun i x _ => ∃ c, z.cps[i]? = some c ∧ x = .str ⟨#[c]⟩) :=
  ⟨fun i H _ h => h, fun i H x H' _ _ y => ⟨by rw [y.1]; exact Ex.refl _, y.2⟩, fun H _ => Nat.le_refl _⟩
theorem yl_list {K : PySem.W.Frag} {a : Addr} (xs : List V) : Yl (Itl K a) (fun H => SqL K H a xs) xs.length (fun i x _ => xs[i]? = some x) :=
  ⟨fun i H c h => ⟨xs, xs[i], c, by simp [h]⟩, fun i H x H' c _ y => ⟨by rw [y.1]; exact Ex.refl _, y.2 xs c⟩, fun H c => ⟨xs, c, Nat.le_refl _⟩⟩
theorem yl_tup {K : PySem.W.Frag} {a : Addr} (xs : List V) : Yl (Itt K a) (fun H => SqT K H a xs) xs.length (fun i x _ => xs[i]? = some x) :=
  ⟨fun i H c h => ⟨xs, xs[i], c, by simp [h]⟩, fun i H x H' c _ y => ⟨by rw [y.1]; exact Ex.refl _, y.2 xs c⟩, fun H c => ⟨xs, c, Nat.le_refl _⟩⟩
theorem yl_range (lo : Int) (n : Nat) : Yl (Itr lo n) (fun _ => True) n (fun i x _ => x = .int (lo + i)) :=
  ⟨fun i H _ h => h, fun i H x H' _ _ y => ⟨by rw [y.1]; exact Ex.refl _, y.2⟩, fun H _ => Nat.le_refl _⟩
theorem yl_enum {K : PySem.W.Frag} {a : Addr} (xs : List V) : Yl (Ite K a) (fun H => SqL K H a xs) xs.length (fun i x H => ∃ T y, x = .ref T ∧ H T = some (.tup [.int (i : Nat), y]) ∧ xs[i]? = some y) :=
  ⟨fun i H c h => ⟨xs, xs[i], c, by simp [h]⟩, fun i H x H' c _ y => by
    obtain ⟨T, z, rfl, hn, rfl, hx⟩ := y
    exact ⟨Ex.new hn, T, z, rfl, upd_same, hx xs c⟩, fun H c => ⟨xs, c, Nat.le_refl _⟩⟩
theorem yl_zipM {K : PySem.W.Frag} {a b : Addr} (xs ys : List V) (hl : xs.length = ys.length) : Yl (ItzM K a b) (fun H => SqT K H a xs ∧ SqL K H b ys) xs.length (fun i v H => ∃ T x y, v = .ref T ∧ H T = some (.tup [x, y]) ∧ xs[i]? = some x ∧ ys[i]? = some y) :=
  ⟨fun i H c h => ⟨xs, ys, c.1, c.2, h, hl ▸ h⟩, fun i H v H' c _ y => by
    obtain ⟨T, x, y, rfl, hn, rfl, h1, h2⟩ := y
    exact ⟨Ex.new hn, T, x, y, rfl, upd_same, h1 xs c.1, h2 ys c.2⟩, fun H c => ⟨xs, ys, c.1, c.2, Nat.le_refl _, Nat.le_of_eq hl, .inl rfl⟩⟩
theorem yl_zipL {K : PySem.W.Frag} {a b : Addr} (xs ys : List V) (hl : xs.length = ys.length) : Yl (Itz K a b) (fun H => SqL K H a xs ∧ SqL K H b ys) xs.length (fun i v H => ∃ T x y, v = .ref T ∧ H T = some (.tup [x, y]) ∧ xs[i]? = some x ∧ ys[i]? = some y) :=
  ⟨fun i H c h => ⟨xs, ys, xs[i], ys[i], c.1, c.2, by simp [h], by simp⟩, fun i H v H' c _ y => by
    obtain ⟨T, x, y, rfl, hn, rfl, h1, h2⟩ := y
    exact ⟨Ex.new hn, T, x, y, rfl, upd_same, h1 xs c.1, h2 ys c.2⟩, fun H c => ⟨xs, ys, c.1, c.2, .inl (Nat.le_refl _)⟩⟩
section
variable {J : It} {C : Hp → Prop} {n : Nat} {Y : Nat → V → Hp → Prop} {σ : L2.St} {H H1 : Hp} {Q : VK} {nx bk ct : L2.St → Hp → Prop} {rt : VK} {g : TG} {tb : TS} {wi : TI} {tt : TT} {te : TE} {vs : List Nat}
theorem for_yl (y : Yl J C n Y) (Pv : Nat → L2.St → Hp → Prop) (hC : ∀ i σ H, i ≤ n → Pv i σ H → C H) (h0 : Pv 0 σ H)
    (hs : ∀ i x σ H H', i < n → Pv i σ H → Ex H H' → Y i x H' → g x σ H' fun σ2 H2 => tb ⟨Pv (i + 1), rt, nx, Pv (i + 1)⟩ σ2 H2) (hd : ∀ σ H, Pv n σ H → nx σ H) :
    ∃ W : Nat → Nat → L2.St → Hp → Prop, (∃ m, W 0 m σ H) ∧ ∀ i m σ H, W i m σ H →
      (J.stop i H ∧ nx σ H) ∨ (J.go i H ∧ ∃ N : L2.St → Hp → Prop, (∀ σ' H', N σ' H' → ∃ m', m' < m ∧ W (i + 1) m' σ' H') ∧ ∀ x H', J.yld i H x H' → g x σ H' fun σ2 H2 => tb ⟨N, rt, nx, N⟩ σ2 H2) := by
  refine ⟨fun i m σ H => m = n - i ∧ i ≤ n ∧ Pv i σ H, ⟨n, by simp, Nat.zero_le _, h0⟩, ?_⟩
  rintro i m σ H ⟨rfl, hi, p⟩
  by_cases hlt : i < n
  · refine .inr ⟨y.go i H (hC i σ H hi p) hlt, Pv (i + 1), fun σ' H' p' => ⟨n - (i + 1), by omega, rfl, hlt, p'⟩, fun x H' q => ?_⟩
    obtain ⟨e, q⟩ := y.yld i H x H' (hC i σ H hi p) hlt q
    exact hs i x σ H H' hlt p e q
  · have e : i = n := by omega
    subst e
    exact .inl ⟨y.stop H (hC i σ H hi p), hd σ H p⟩
theorem lc_yl {D : Addr} {Qd : Hp → Prop} (y : Yl J C n Y) (Pv : Nat → Hp → Prop) (hC : ∀ i H, i ≤ n → Pv i H → C H) (h0 : Pv 0 (upd H1 D (.lst [])))
    (hs : ∀ i x H H', i < n → Pv i H → Ex H H' → Y i x H' → g x (wipe σ vs) H' fun σ2 H2 => wipe σ2 vs = wipe σ vs ∧ tt σ2 H2 fun b H3 =>
      if b = true then te σ2 H3 fun y H4 => ∃ acc, H4 D = some (.lst acc) ∧ acc.length < sizeLine ∧ Pv (i + 1) (upd H4 D (.lst (acc ++ [y]))) else Pv (i + 1) H3) (hd : ∀ H, Pv n H → Qd H) :
    ∃ W : Nat → Nat → Hp → Prop, (∃ m, W 0 m (upd H1 D (.lst []))) ∧ ∀ i m H, W i m H →
      (J.stop i H ∧ Qd H) ∨ (J.go i H ∧ ∃ Nx : Hp → Prop, (∀ H', Nx H' → ∃ m', m' < m ∧ W (i + 1) m' H') ∧ ∀ x H', J.yld i H x H' → g x (wipe σ vs) H' fun σ2 H2 => wipe σ2 vs = wipe σ vs ∧ tt σ2 H2 fun b H3 =>
        if b = true then te σ2 H3 fun y H4 => ∃ acc, H4 D = some (.lst acc) ∧ acc.length < sizeLine ∧ Nx (upd H4 D (.lst (acc ++ [y]))) else Nx H3) := by
  refine ⟨fun i m H => m = n - i ∧ i ≤ n ∧ Pv i H, ⟨n, by simp, Nat.zero_le _, h0⟩, ?_⟩
  rintro i m H ⟨rfl, hi, p⟩
  by_cases hlt : i < n
  · refine .inr ⟨y.go i H (hC i H hi p) hlt, Pv (i + 1), fun H' p' => ⟨n - (i + 1), by omega, rfl, hlt, p'⟩, fun x H' q => ?_⟩
    obtain ⟨e, q⟩ := y.yld i H x H' (hC i H hi p) hlt q
    exact hs i x H H' hlt p e q
  · have e : i = n := by omega
    subst e
    exact .inl ⟨y.stop H (hC i H hi p), hd H p⟩
theorem wipe1 {k : Nat} (x : Option V) : wipe ((wipe σ [k]).set k x) [k] = wipe σ [k] := by simp [wipe, List.set_set]
/-- a comprehension whose elements are values, found without writing -/
theorem lc_pure {k : Nat} {f : Nat → V} (y : Yl J C n Y) (hC : ∀ H', Ex H1 H' → C H') (hn : n ≤ 100000)
    (he : ∀ i x H', i < n → Ex H1 H' → Y i x H' → ∀ Q' : VK, (∀ H2, Ex H' H2 → Q' (f i) H2) → te ((wipe σ [k]).set k (some x)) H' Q')
    (q : ∀ p H', H1 p = none → Ex H1 H' → H' p = some (.lst ((List.range n).map f)) → Q (.ref p) H') :
    ∀ D, H1 D = none → ∃ W : Nat → Nat → Hp → Prop, (∃ m, W 0 m (upd H1 D (.lst []))) ∧ ∀ i m H, W i m H →
      (J.stop i H ∧ Q (.ref D) H) ∨ (J.go i H ∧ ∃ Nx : Hp → Prop, (∀ H', Nx H' → ∃ m', m' < m ∧ W (i + 1) m' H') ∧ ∀ x H', J.yld i H x H' → gName k x (wipe σ [k]) H' fun σ2 H2 => wipe σ2 [k] = wipe σ [k] ∧ tYes σ2 H2 fun b H3 =>
        if b = true then te σ2 H3 fun y H4 => ∃ acc, H4 D = some (.lst acc) ∧ acc.length < sizeLine ∧ Nx (upd H4 D (.lst (acc ++ [y]))) else Nx H3) := by
  intro D hD
  refine lc_yl y (fun i H' => Ex H1 H' ∧ H' D = some (.lst ((List.range i).map f))) (fun i H' _ p => hC H' p.1) ⟨Ex.new hD, upd_same⟩ (fun i x H' H2 hi p e yy => ?_) (fun H' p => q D H' hD p.1 p.2)
  show wipe ((wipe σ [k]).set k (some x)) [k] = wipe σ [k] ∧ _
  refine ⟨wipe1 _, rd_yes (iteT ?_)⟩
  refine he i x H2 hi (p.1.trans e) yy _ fun H3 e3 => ⟨_, e3 _ _ (e _ _ p.2), by simp; exact Nat.lt_of_lt_of_le (Nat.lt_of_lt_of_le hi hn) (by decide), ?_, ?_⟩
  · exact Ex.mut ((p.1.trans e).trans e3) hD
  · rw [upd_same, List.range_succ, List.map_append]; rfl
/-- the same, of the reading -/
theorem rd_lcPure {k : Nat} {f : Nat → V} (hw : ∀ R : It → Hp → Prop, R J H1 → wi σ H R) (y : Yl J C n Y) (hC : ∀ H', Ex H1 H' → C H') (hn : n ≤ 100000)
    (he : ∀ i x H', i < n → Ex H1 H' → Y i x H' → ∀ Q' : VK, (∀ H2, Ex H' H2 → Q' (f i) H2) → te ((wipe σ [k]).set k (some x)) H' Q')
    (q : ∀ p H', H1 p = none → Ex H1 H' → H' p = some (.lst ((List.range n).map f)) → Q (.ref p) H') : tLc wi (gName k) tYes te [k] σ H Q := hw _ (lc_pure y hC hn he q)
theorem rd_lcYl (hw : ∀ R : It → Hp → Prop, R J H1 → wi σ H R) (y : Yl J C n Y) (Pv : Addr → Nat → Hp → Prop) (hC : ∀ D i H, i ≤ n → Pv D i H → C H) (h0 : ∀ D, H1 D = none → Pv D 0 (upd H1 D (.lst [])))
    (hs : ∀ D i x H H', i < n → Pv D i H → Ex H H' → Y i x H' → g x (wipe σ vs) H' fun σ2 H2 => wipe σ2 vs = wipe σ vs ∧ tt σ2 H2 fun b H3 =>
      if b = true then te σ2 H3 fun y H4 => ∃ acc, H4 D = some (.lst acc) ∧ acc.length < sizeLine ∧ Pv D (i + 1) (upd H4 D (.lst (acc ++ [y]))) else Pv D (i + 1) H3) (hd : ∀ D H, Pv D n H → Q (.ref D) H) :
    tLc wi g tt te vs σ H Q := hw _ fun D hD => lc_yl y (Pv D) (hC D) (h0 D hD) (hs D) (hd D)
theorem rd_forYl (hw : ∀ R : It → Hp → Prop, R J H1 → wi σ H R) (y : Yl J C n Y) (Pv : Nat → L2.St → Hp → Prop) (hC : ∀ i σ H, i ≤ n → Pv i σ H → C H) (h0 : Pv 0 σ H1)
    (hs : ∀ i x σ H H', i < n → Pv i σ H → Ex H H' → Y i x H' → g x σ H' fun σ2 H2 => tb ⟨Pv (i + 1), rt, nx, Pv (i + 1)⟩ σ2 H2) (hd : ∀ σ H, Pv n σ H → nx σ H) : tFor wi g tb ⟨nx, rt, bk, ct⟩ σ H :=
  hw _ (for_yl y Pv hC h0 hs hd)
/-- the inner loop of a comprehension with two fors -/
theorem in_yl {D : Addr} {N : Hp → Prop} {τ : L2.St} (y : Yl J C n Y) (Pv : Nat → Hp → Prop) (hC : ∀ i H, i ≤ n → Pv i H → C H) (h0 : Pv 0 H1)
    (hs : ∀ i x H H', i < n → Pv i H → Ex H H' → Y i x H' → g x τ H' fun σ2 H2 => wipe σ2 vs = τ ∧ tt σ2 H2 fun b H3 =>
      if b = true then te σ2 H3 fun y H4 => ∃ acc, H4 D = some (.lst acc) ∧ acc.length < sizeLine ∧ Pv (i + 1) (upd H4 D (.lst (acc ++ [y]))) else Pv (i + 1) H3) (hd : ∀ H, Pv n H → N H) :
    ∃ W : Nat → Nat → Hp → Prop, (∃ m, W 0 m H1) ∧ ∀ i m H, W i m H →
      (J.stop i H ∧ N H) ∨ (J.go i H ∧ ∃ Nx : Hp → Prop, (∀ H', Nx H' → ∃ m', m' < m ∧ W (i + 1) m' H') ∧ ∀ x H', J.yld i H x H' → g x τ H' fun σ2 H2 => wipe σ2 vs = τ ∧ tt σ2 H2 fun b H3 =>
        if b = true then te σ2 H3 fun y H4 => ∃ acc, H4 D = some (.lst acc) ∧ acc.length < sizeLine ∧ Nx (upd H4 D (.lst (acc ++ [y]))) else Nx H3) := by
  refine ⟨fun i m H => m = n - i ∧ i ≤ n ∧ Pv i H, ⟨n, by simp, Nat.zero_le _, h0⟩, ?_⟩
  rintro i m H ⟨rfl, hi, p⟩
  by_cases hlt : i < n
  · refine .inr ⟨y.go i H (hC i H hi p) hlt, Pv (i + 1), fun H' p' => ⟨n - (i + 1), by omega, rfl, hlt, p'⟩, fun x H' q => ?_⟩
    obtain ⟨e, q⟩ := y.yld i H x H' (hC i H hi p) hlt q
    exact hs i x H H' hlt p e q
  · have e : i = n := by omega
    subst e
    exact .inl ⟨y.stop H (hC i H hi p), hd H p⟩
/-- two fors: the inner one is shown for each turn of the outer one, for any N that Pv (i + 1) gives -/
theorem rd_lc2Yl {wi1 : TI} {g1 : TG} {tt1 : TT} {vs1 : List Nat} (hw : ∀ R : It → Hp → Prop, R J H1 → wi σ H R) (y : Yl J C n Y) (Pv : Addr → Nat → Hp → Prop) (hC : ∀ D i H, i ≤ n → Pv D i H → C H) (h0 : ∀ D, H1 D = none → Pv D 0 (upd H1 D (.lst [])))
    (hs : ∀ D i x H H', i < n → Pv D i H → Ex H H' → Y i x H' → ∀ N : Hp → Prop, (∀ H, Pv D (i + 1) H → N H) → g x (wipe σ vs) H' fun σ2 H2 => wipe σ2 vs = wipe σ vs ∧ tt σ2 H2 fun b H3 =>
      if b = true then wi1 σ2 H3 fun J1 H4 => ∃ W1 : Nat → Nat → Hp → Prop, (∃ m, W1 0 m H4) ∧ ∀ j k H, W1 j k H →
        (J1.stop j H ∧ N H) ∨ (J1.go j H ∧ ∃ Nx1 : Hp → Prop, (∀ H', Nx1 H' → ∃ k', k' < k ∧ W1 (j + 1) k' H') ∧ ∀ x H', J1.yld j H x H' → g1 x (wipe σ2 vs1) H' fun σ3 H5 => wipe σ3 vs1 = wipe σ2 vs1 ∧ tt1 σ3 H5 fun b H6 =>
          if b = true then te σ3 H6 fun y H7 => ∃ acc, H7 D = some (.lst acc) ∧ acc.length < sizeLine ∧ Nx1 (upd H7 D (.lst (acc ++ [y]))) else Nx1 H6) else N H3) (hd : ∀ D H, Pv D n H → Q (.ref D) H) :
    tLc2 wi g tt wi1 g1 tt1 te vs vs1 σ H Q := by
  refine hw _ fun D hD => ⟨fun i m H => m = n - i ∧ i ≤ n ∧ Pv D i H, ⟨n, by simp, Nat.zero_le _, h0 D hD⟩, ?_⟩
  rintro i m H ⟨rfl, hi, p⟩
  by_cases hlt : i < n
  · refine .inr ⟨y.go i H (hC D i H hi p) hlt, Pv D (i + 1), fun H' p' => ⟨n - (i + 1), by omega, rfl, hlt, p'⟩, fun x H' q => ?_⟩
    obtain ⟨e, q⟩ := y.yld i H x H' (hC D i H hi p) hlt q
    exact hs D i x H H' hlt p e q _ (fun _ q => q)
  · have e : i = n := by omega
    subst e
    exact .inl ⟨y.stop H (hC D i H hi p), hd D H p⟩
end
/-- a list's items by place -/
theorem range_map {α β : Type} (l : List α) (f : α → β) (d : β) : (List.range l.length).map (fun i => (l[i]?.map f).getD d) = l.map f := by
  apply List.ext_getElem
  · simp
  · intro i h1 h2
    have : i < l.length := by simpa using h2
    simp [this]
end Aq
/-! enumerate(tuple), out of the library's enumerate over any iterator -/
namespace Aq
open PySem PySem.Spec PyProof.Rows L2 Evl
/-- the iterator of the tuple at t, as it is made -/
abbrev itT (t : Addr) : Obj := { cls := .type "tuple_iterator", data := .fields #[.ref t, .int 0 0] }
/-- an enumerate over the iterator at i, as it is made -/
abbrev enT (i : Addr) : Obj := { cls := .type "enumerate", data := .fields #[.none, .bool false, .ref i, rawInt 0, .none, .none] }
theorem meets_enT (t : Addr) (us : Array Value) :
    Meets (Builtin.«enumerate.__new__» ⟨[.type "enumerate", .ref t], []⟩) (fun _ R s => s.heap.IsTuple t us ∧ R (.ok (.ret (.ref (s.heap.push (itT t)).objs.size))) { s with heap := (s.heap.push (itT t)).push (enT s.heap.objs.size) }) := by
  refine .of_wp fun prog w A R s hh => ?_
  obtain ⟨hp, gn, dd, tk, os⟩ := s
  obtain ⟨ht, fin⟩ := hh
  have sub := sub_enumerate
  have go : ∀ {A' : Around} {E : Value → Shared → Prop} {Q : Value → Shared → Prop}, Q (.ref hp.objs.size) ⟨hp.push (itT t), gn, dd, tk, os⟩ → wpAny (model prog w) A' (pyIter (.ref t)) Q E ⟨hp, gn, dd, tk, os⟩ := fun q => wpAny_pyIter_tuple ht q
  obtain ⟨o, ho, hc, n, hd⟩ := ht
  wp_walk using go, AutoSeq1.wpAny_loadPart' ho
  refine wpAny_stack_any fun st => wpAny_pure ?_
  split
  · rename_i c _ _ _ _ _
    cases (c == Value.type "enumerate")
    all_goals
      wp_walk using go, AutoSeq1.wpAny_loadPart' ho
      exact ⟨_, rfl, fin⟩
  · wp_walk using go, AutoSeq1.wpAny_loadPart' ho
    exact ⟨_, rfl, fin⟩
section
variable {prog : Program} {w : World} {A : Around} {E : Value → Shared → Prop} {s : Shared}
theorem call_enT {t : Addr} {us : Array Value} {Q : Value → Shared → Prop} (ht : s.heap.IsTuple t us)
    (q : ∀ h', IsEnum h' (s.heap.objs.size + 1) s.heap.objs.size 0 .none → h'.IsTupleIter s.heap.objs.size t 0 → (∀ b o, s.heap.get? b = some o → h'.get? b = some o) → Q (.ref (s.heap.objs.size + 1)) { s with heap := h' }) :
    wpAny (model prog w) A (call (.type "enumerate") [.ref t]) Q E s := by
  have sz : (s.heap.push (itT t)).objs.size = s.heap.objs.size + 1 := Heap.size_push ..
  have top := Heap.get?_push_size (s.heap.push (itT t)) (o := enT s.heap.objs.size) rfl
  rw [sz] at top
  refine callType_new F.called_enumerate (by decide) (F.typeCall_enumerate_1 _) (F.newCall_enumerate_1 _) (fun obj => F.args_object_init_2 obj _) F.entry_enumerate_new (meets_enT t us) ⟨ht, ?_⟩
  show _ ∧ _
  rw [sz]
  exact ⟨⟨_, top, rfl⟩, q _ top ⟨_, Heap.get?_push_of_some _ (Heap.get?_push_size _ rfl), rfl, rfl⟩ fun b o z => Heap.get?_push_of_some _ (Heap.get?_push_of_some _ z)⟩
end
/-- the items of the tuple at a, each behind its place in a new pair -/
def ItE (K : PySem.W.Frag) (a : Addr) : It where
  go := fun i H => ∃ xs : List V, SqT K H a xs ∧ i < xs.length
  yld := fun i H v H' => ∃ T x, v = .ref T ∧ H T = none ∧ H' = upd H T (.tup [.int (i : Nat), x]) ∧ ∀ xs, SqT K H a xs → xs[i]? = some x
  stop := fun i H => ∃ xs : List V, SqT K H a xs ∧ xs.length = i
structure EnAt (e it a : Addr) (i : Nat) (h : Heap) : Prop where
  en : ∃ old, IsEnum h e it ((i : Nat) : Int) old
  tt : h.IsTupleIter it a i
  ne : e ≠ it
  nt : a ≠ it
  na : e ≠ a
theorem turn_enT {P : Program} {w : World} {K : PySem.W.Frag} {elts : List Expr} {kk : Nat} {tpos : Pos} (a e it : Addr) : Turn P w K (.Tuple elts kk tpos) (ItE K a) [e, it] e (EnAt e it a) := by
  have two : ∀ {c : Addr}, c ∈ [e, it] → c = e ∨ c = it := fun {c} h => by simpa using h
  refine ⟨by simp, fun i h Z c hc => ?_, fun i h h' Z k => ?_, ?_, ?_, fun A i s Q E Z h => let ⟨_, z⟩ := Z.en; wpAny_pyIter_enum z h⟩
  · obtain ⟨⟨old, en⟩, ⟨o, ho, _, hd⟩, _, _⟩ := Z
    rcases two hc with rfl | rfl
    · exact ⟨_, en, nofun⟩
    · exact ⟨o, ho, fun v q => nomatch hd.symm.trans q⟩
  · obtain ⟨old, en⟩ := Z.en
    exact ⟨⟨old, k e (by simp) _ en⟩, Z.tt.at (k it (by simp)), Z.ne, Z.nt, Z.na⟩
  · intro X eP ew eK calm i pins s σ H E I fp Z go
    subst eP ew eK
    obtain ⟨⟨old, en⟩, tit, ne, nt, na⟩ := Z
    obtain ⟨xs, qx, lx⟩ := go
    obtain ⟨us, rx, px, _⟩ := I.tuple qx
    have ex := rx.length
    have hh : X.A.in1.handled = none := I.ok.hd calm
    have le : e < s.heap.objs.size := Heap.lt_size en
    have li : it < s.heap.objs.size := let ⟨_, q, _⟩ := tit; Heap.lt_size q
    refine wpAny_pyNext_enum_itemD (Draws.tuple hh it a nt us.toArray) en ⟨tit, px⟩ (by simp; omega) ne (by simp [ne, na]) fun u h' tk hu out st new _ keep => ?_
    refine ⟨_, rfl, wpAny_letOwnedTupleGo_enum (s := { s with heap := h', toks := tk + 1 }) out fun h2 en2 sb => ?_⟩
    have up : ∀ c o, c ≠ e → h'.get? c = some o → h2.get? c = some o := fun c o n z => (sb.2 c n).trans z
    obtain ⟨x, hx, ru⟩ : ∃ x, xs[i]? = some x ∧ RelV x u := by
      obtain ⟨u', e1, e2⟩ := rx.get (List.getElem?_eq_getElem lx)
      have e3 : us[i]? = some u := by simpa using hu
      rw [e3] at e1
      cases e1
      exact ⟨_, List.getElem?_eq_getElem lx, e2⟩
    have ok : ObjOk X.prog X.w (upd H s.heap.objs.size (.tup [.int (i : Nat), x])) h2 s.heap.objs.size (.tup [.int (i : Nat), x]) := ⟨show 2 ≤ sizeLine by decide, _, .cons ⟨tk, rfl⟩ (.cons ru .nil), _, up _ _ (Nat.ne_of_gt le) new, rfl, _, rfl⟩
    have nn : ∀ {c : Addr}, c ∉ [e, it] → c ≠ e ∧ c ≠ it := fun {c} h => by simpa using h
    have J := I.turnedNew (t' := tk + 1) (fun c o nc z => up c o (nn nc).1 (keep c o (nn nc).1 (nn nc).2 z)) fp (Nat.le_refl _) ok
    refine ⟨.ref s.heap.objs.size, _, J, rfl, ⟨_, x, rfl, I.hok.fresh (Nat.le_refl _), rfl, fun l hl => I.tuple_inj hl qx ▸ hx⟩, ⟨⟨u, ?_⟩, st.1.at fun o z => up it o ne.symm z, ne, nt, na⟩, fun c hc => ?_⟩
    · rw [show (((i + 1 : Nat)) : Int) = (i : Int) + 1 by omega]; exact en2
    · have lc : c < s.heap.objs.size := by rcases two hc with rfl | rfl <;> assumption
      rw [upd_ne (Nat.ne_of_lt lc)]
      exact (fp c hc).1
  · intro X eP ew eK calm i pins s σ H E I fp Z stop
    subst eP ew eK
    obtain ⟨⟨old, en⟩, tit, ne, nt, na⟩ := Z
    obtain ⟨xs, qx, lx⟩ := stop
    obtain ⟨us, rx, px, _⟩ := I.tuple qx
    have ex := rx.length
    have hh : X.A.in1.handled = none := I.ok.hd calm
    have lu : us.toArray.size = i := by simp; omega
    refine wpAny_pyNext_enum_endD (Draws.tuple hh it a nt us.toArray) en ⟨?_, px⟩ fun h' eb => ⟨rfl, I.turnedL (t' := s.toks) (fun c o nc z => eb c o (fun q => nc (by simp [q])) z) fp⟩
    rw [lu]; exact tit
def iEnT (K : PySem.W.Frag) (ta : TA) : TI := fun σ H R => ta σ H fun vs H1 => ∃ a xs, vs = [.ref a] ∧ SqT K H1 a xs ∧ R (ItE K a) H1
theorem pi_enumT {X : Cx} {e : Expr} {ta : TA} {p pos tpos : Pos} {elts : List Expr} {kk : Nat} (g : Gl X "enumerate") (m : X.mg "enumerate" = none) (args : PA X [e] ta) (s1 : starEach [e] X.env = [(false, eval e X.env)] := by rfl) : PI X (.Tuple elts kk tpos) (.Call (.Name "enumerate" p) [e] [] pos) (iEnT X.K ta) := by
  constructor
  intro pins s σ H R I rd
  refine Call_ (ld_blt I g m boot_enumerate (PyProof.Rows.callWith_type1 (thn (args.run pos pins s σ H _ I rd) ?_) s1 rfl))
  rintro us t ⟨vs, H1, J, rel, a, xs, rfl, qx, r⟩
  obtain ⟨u1, rfl, ra⟩ := rel.one
  cases ra
  obtain ⟨as, rx, px, _⟩ := J.tuple qx
  have la : a < t.heap.objs.size := let ⟨_, q, _⟩ := px; Heap.lt_size q
  refine call_enT px fun h' en it keep => wpAny_pyIter_enum en ?_
  refine ⟨_, _, _, _, H1, rfl, J.kept (t' := t.toks) keep, turn_enT a (t.heap.objs.size + 1) t.heap.objs.size, ⟨⟨.none, en⟩, it, Nat.succ_ne_self _, Nat.ne_of_lt la, Nat.ne_of_gt (Nat.lt_succ_of_lt la)⟩, fun c hc => ?_, r⟩
  have le : t.heap.objs.size ≤ c := by
    have : c = t.heap.objs.size + 1 ∨ c = t.heap.objs.size := by simpa using hc
    rcases this with q | q <;> rw [q] <;> first | exact Nat.le_refl _ | exact Nat.le_succ _
  exact J.fpOk le (J.hok.fresh le)
theorem yl_enumT {K : PySem.W.Frag} {a : Addr} (xs : List V) : Yl (ItE K a) (fun H => SqT K H a xs) xs.length (fun i x H => ∃ T y, x = .ref T ∧ H T = some (.tup [.int (i : Nat), y]) ∧ xs[i]? = some y) :=
  ⟨fun i H c h => ⟨xs, c, h⟩, fun i H x H' c _ y => by
    obtain ⟨T, z, rfl, hn, rfl, hx⟩ := y
    exact ⟨Ex.new hn, T, z, rfl, upd_same, hx xs c⟩, fun H c => ⟨xs, c, rfl⟩⟩
theorem rd_iEnT {K : PySem.W.Frag} {ts : TA} {σ : L2.St} {H : Hp} {R : It → Hp → Prop} (h : ts σ H fun vs H1 => ∃ a xs, vs = [.ref a] ∧ SqT K H1 a xs ∧ R (ItE K a) H1) : iEnT K ts σ H R := h
end Aq
/-! what stays; dicts with text keys; texts as lists of codes -/
namespace Aq
open PySem L2 Evl
/-- all but p stays -/
def Kx (p : Addr) (H H' : Hp) : Prop := ∀ a o, a ≠ p → H a = some o → H' a = some o
theorem Kx.refl (p : Addr) (H : Hp) : Kx p H H := fun _ _ _ h => h
theorem Kx.trans {p : Addr} {H H1 H2 : Hp} (a : Kx p H H1) (b : Kx p H1 H2) : Kx p H H2 := fun x o n h => b x o n (a x o n h)
theorem Kx.of {p : Addr} {H H' : Hp} (e : Ex H H') : Kx p H H' := fun a o _ h => e a o h
theorem Kx.put {p : Addr} {H : Hp} {o : HO} : Kx p H (upd H p o) := fun a u n h => by rw [upd_ne n]; exact h
theorem Kx.ex {p : Addr} {H H' : Hp} (e : Kx p H H') (h : H p = none) : Ex H H' := fun a o q => e a o (ne_of_none q h) q
/-- .. and a younger thing may be written -/
theorem Kx.mut {p q : Addr} {H H' : Hp} {o : HO} (e : Kx p H H') (h : H q = none) : Kx p H (upd H' q o) := fun a u n ha => by rw [upd_ne (ne_of_none ha h)]; exact e a u n ha
theorem Kx.lst {p a : Addr} {H H' : Hp} {xs : List V} {kvs : List (Key × V)} (e : Kx p H H') (hp : H p = some (.dK kvs)) (h : H a = some (.lst xs)) : H' a = some (.lst xs) := e a _ (ne_of h hp (by intro z; cases z)) h
theorem Kx.tup {p a : Addr} {H H' : Hp} {xs : List V} {kvs : List (Key × V)} (e : Kx p H H') (hp : H p = some (.dK kvs)) (h : H a = some (.tup xs)) : H' a = some (.tup xs) := e a _ (ne_of h hp (by intro z; cases z)) h
theorem Kx.free {p a : Addr} {H H' : Hp} (e : Kx p H H') (n : a ≠ p) (h : H' a = none) : H a = none := by
  cases q : H a with
  | none => rfl
  | some o => rw [e a o n q] at h; cases h
theorem Ex.free {a : Addr} {H H' : Hp} (e : Ex H H') (h : H' a = none) : H a = none := fresh_back e h
theorem upd_lst {H : Hp} {a b : Addr} {o : HO} {u : HO} (n : b ≠ a) (h : H b = some u) : upd H a o b = some u := by rw [upd_ne n]; exact h
/-! ### data -/
theorem canLay_strs : ∀ ws : List Str, (∀ x ∈ ws, PyData.strOk x = true) → PyData.canLay0 (.tuple (ws.map PyData.str)) = true
  | [], _ => by simp [PyData.canLay0, PyData.canLayAll0]
  | x :: r, h => by
    have ih := canLay_strs r fun y hy => h y (List.mem_cons_of_mem _ hy)
    simp only [PyData.canLay0, List.map_cons, PyData.canLayAll0] at ih ⊢
    simp [PyData.canLay0, ih, h x (List.mem_cons_self ..)]
theorem depthAll_strs : ∀ ws : List Str, PyData.depthAll (ws.map PyData.str) ≤ 1
  | [] => by simp [PyData.depthAll]
  | x :: r => by
    have ih := depthAll_strs r
    simp only [List.map_cons, PyData.depthAll, PyData.depth]
    omega
theorem shaped_strs (ws : List Str) (h : ∀ x ∈ ws, PyData.strOk x = true) : SeqAt.shaped (.tuple (ws.map PyData.str)) = true := by
  unfold SeqAt.shaped
  rw [canLay_strs ws h, Bool.true_and]
  apply decide_eq_true
  have := depthAll_strs ws
  simp only [PyData.depth]
  omega
theorem eqvAll_strs : ∀ ws zs : List Str, PyData.eqvAll (ws.map PyData.str) (zs.map PyData.str) = decide (ws = zs)
  | [], [] => rfl
  | [], _ :: _ => rfl
  | _ :: _, [] => rfl
  | x :: r, y :: t => by
    rw [List.map_cons, List.map_cons, PyData.eqvAll, eqvAll_strs r t, PyData.eqv, Bool.eq_iff_iff]
    simp
theorem dp_strs {K : PySem.W.Frag} {H : Hp} : ∀ ws : List Str, DpAll K H (ws.map V.str) (ws.map PyData.str)
  | [] => .nil
  | x :: r => .cons (.str x) (dp_strs r)
theorem putF_new {f : Str} {v : V} : ∀ {fs : List (Str × V)} (ks : List Str) (e : fs.map (·.1) = ks) (h : f ∉ ks), putF f v fs = fs ++ [(f, v)]
  | [], _, _, _ => rfl
  | (g, x) :: r, ks, e, h => by
    subst e
    have hg : ¬ g = f := fun q => h (by simp [q])
    have := putF_new (f := f) (v := v) (fs := r) _ rfl (fun q => h (by simp at q ⊢; exact .inr q))
    show (if g = f then _ else (g, x) :: putF f v r) = _
    rw [if_neg hg, this]
    rfl
theorem putF_len {f : Str} {v : V} : ∀ fs : List (Str × V), (putF f v fs).length ≤ fs.length + 1
  | [] => Nat.le_refl _
  | (g, x) :: r => by
    show (if g = f then (g, v) :: r else (g, x) :: putF f v r).length ≤ _
    split
    · simp
    · have := putF_len (f := f) (v := v) r
      simp; omega
theorem putF_lt {f : Str} {v : V} {fs : List (Str × V)} {n : Nat} (h : fs.length ≤ n) (hn : n < 999) : (putF f v fs).length ≤ n + 1 ∧ (putF f v fs).length < 1000 := by
  have := putF_len (f := f) (v := v) fs
  omega
theorem canLay_ints : ∀ ns : List Int, PyData.canLayAll0 (ns.map PyData.int) = true
  | [] => by simp [PyData.canLayAll0]
  | x :: r => by
    have ih := canLay_ints r
    rw [List.map_cons, PyData.canLayAll0, ih]; simp [PyData.canLay0]
theorem depthAll_ints : ∀ ns : List Int, PyData.depthAll (ns.map PyData.int) ≤ 1
  | [] => by simp [PyData.depthAll]
  | x :: r => by
    have ih := depthAll_ints r
    simp only [List.map_cons, PyData.depthAll, PyData.depth]
    omega
theorem shaped_ints (ns : List Int) : SeqAt.shaped (.list (ns.map PyData.int)) = true := by
  unfold SeqAt.shaped
  have := depthAll_ints ns
  rw [PyData.canLay0, canLay_ints, Bool.true_and]
  apply decide_eq_true
  simp only [PyData.depth]; omega
theorem dp_ints {K : PySem.W.Frag} {H : Hp} : ∀ ns : List Int, DpAll K H (ns.map V.int) (ns.map PyData.int)
  | [] => .nil
  | x :: r => .cons (.int x) (dp_ints r)
theorem eqv_emptyI : ∀ ns : List Int, PyData.eqv (.list (ns.map PyData.int)) (.list []) = ns.isEmpty
  | [] => rfl
  | _ :: _ => rfl
theorem eqv_emptyS : ∀ ns : List Str, PyData.eqv (.list (ns.map PyData.str)) (.list []) = ns.isEmpty
  | [] => rfl
  | _ :: _ => rfl
/-! ### the pen: a dict of three -/
section
variable {k1 k2 k3 : Str}
def pd3 (k1 k2 k3 : Str) (x y z : V) : List (Key × V) := [(Sum.inr k1, x), (Sum.inr k2, y), (Sum.inr k3, z)]
structure D3 (k1 k2 k3 : Str) : Prop where
  a : k1 ≠ k2
  b : k1 ≠ k3
  c : k2 ≠ k3
theorem D3.v1 (d : D3 k1 k2 k3) {x y z : V} : valV (pd3 k1 k2 k3 x y z) (Sum.inr k1) = some x := valV_pos rfl
theorem D3.v2 (d : D3 k1 k2 k3) {x y z : V} : valV (pd3 k1 k2 k3 x y z) (Sum.inr k2) = some y := by
  unfold pd3; rw [valV_neg (fun e => d.a (Sum.inr.inj e)), valV_pos rfl]
theorem D3.v3 (d : D3 k1 k2 k3) {x y z : V} : valV (pd3 k1 k2 k3 x y z) (Sum.inr k3) = some z := by
  unfold pd3; rw [valV_neg (fun e => d.b (Sum.inr.inj e)), valV_neg (fun e => d.c (Sum.inr.inj e)), valV_pos rfl]
theorem D3.p2 (d : D3 k1 k2 k3) {x y z v : V} : putK (pd3 k1 k2 k3 x y z) (Sum.inr k2) v = pd3 k1 k2 k3 x v z := by
  have e1 : ¬ (Sum.inr k1 : Key) = Sum.inr k2 := fun e => d.a (Sum.inr.inj e)
  have e2 : ¬ (Sum.inr k3 : Key) = Sum.inr k2 := fun e => d.c (Sum.inr.inj e).symm
  simp [putK, pd3, e1, e2, d.a, d.c, Ne.symm d.c]
theorem D3.p3 (d : D3 k1 k2 k3) {x y z v : V} : putK (pd3 k1 k2 k3 x y z) (Sum.inr k3) v = pd3 k1 k2 k3 x y v := by
  simp [putK, pd3, d.b, d.c]
theorem D3.m (d : D3 k1 k2 k3) {x y z : V} : mergeK [] (pd3 k1 k2 k3 x y z) = pd3 k1 k2 k3 x y z := by
  simp [mergeK, pd3, putK, d.a, d.b, d.c]
/-- the pen at pd, its cells at c: at most B of them were begun -/
def Pen (k1 k2 k3 : Str) (H : Hp) (pd c : Addr) (B : Nat) : Prop := ∃ (ns : List Int) (at_ rest : Int),
  H pd = some (.dK (pd3 k1 k2 k3 (.ref c) (.int at_) (.int rest))) ∧ H c = some (.lst (ns.map V.int)) ∧ 0 ≤ at_ ∧ at_ ≤ B ∧ 0 ≤ rest
variable {H H' : Hp} {pd c : Addr} {B B' : Nat}
theorem Pen.ex (p : Pen k1 k2 k3 H pd c B) (e : Ex H H') : Pen k1 k2 k3 H' pd c B := let ⟨ns, i, j, h1, h2, r⟩ := p; ⟨ns, i, j, e _ _ h1, e _ _ h2, r⟩
theorem Pen.mono (p : Pen k1 k2 k3 H pd c B) (h : B ≤ B') : Pen k1 k2 k3 H pd c B' := let ⟨ns, i, j, h1, h2, r1, r2, r3⟩ := p; ⟨ns, i, j, h1, h2, r1, by omega, r3⟩
theorem Pen.wr {D : Addr} {o : HO} (p : Pen k1 k2 k3 H pd c B) (n1 : pd ≠ D) (n2 : c ≠ D) : Pen k1 k2 k3 (upd H D o) pd c B :=
  let ⟨ns, i, j, h1, h2, r⟩ := p; ⟨ns, i, j, by rw [upd_ne n1]; exact h1, by rw [upd_ne n2]; exact h2, r⟩
theorem Pen.dK (p : Pen k1 k2 k3 H pd c B) : ∃ kvs, H pd = some (.dK kvs) := let ⟨_, _, _, h1, _⟩ := p; ⟨_, h1⟩
theorem Pen.np {D : Addr} (p : Pen k1 k2 k3 H pd c B) (h : H D = none) : pd ≠ D := let ⟨_, _, _, h1, _⟩ := p; ne_of_none h1 h
theorem Pen.nc {D : Addr} (p : Pen k1 k2 k3 H pd c B) (h : H D = none) : c ≠ D := let ⟨_, _, _, _, h2, _⟩ := p; ne_of_none h2 h
/-- draws -/
def spDraw (k1 k2 k3 : Str) : Sp := fun vs H Q _ => ∃ (pd c : Addr) (B : Nat) (m : Int), vs = [.ref pd, .int m] ∧ Pen k1 k2 k3 H pd c B ∧ B < 1000000000 ∧ 0 < m ∧ m < 1000000000 ∧
  ∀ r H', 0 ≤ r → r < m → Pen k1 k2 k3 H' pd c (B + 1) → Kx pd H H' → Q (.int r) H'
end
theorem atI_int {α : Type} {xs : List α} {i : Int} (h0 : 0 ≤ i) (h1 : i < xs.length) : ∃ v, v ∈ xs ∧ xs[i.toNat]? = some v ∧ atI xs i = some v := by
  have h : i.toNat < xs.length := by omega
  refine ⟨xs[i.toNat], List.getElem_mem h, List.getElem?_eq_getElem h, ?_⟩
  have e := atI_nat (List.getElem?_eq_getElem h)
  rw [Int.toNat_of_nonneg h0] at e
  exact e
theorem canLay_strsA : ∀ ws : List Str, (∀ x ∈ ws, PyData.strOk x = true) → PyData.canLayAll0 (ws.map PyData.str) = true := fun ws h => by
  have := canLay_strs ws h
  rwa [PyData.canLay0] at this
theorem shaped_strsL (ws : List Str) (h : ∀ x ∈ ws, PyData.strOk x = true) : SeqAt.shaped (.list (ws.map PyData.str)) = true := by
  unfold SeqAt.shaped
  rw [PyData.canLay0, canLay_strsA ws h, Bool.true_and]
  apply decide_eq_true
  have := depthAll_strs ws
  simp only [PyData.depth]
  omega
theorem perm_erase {α : Type} : ∀ (l : List α) (i : Nat) (x : α), l[i]? = some x → (x :: l.eraseIdx i).Perm l
  | [], _, _, h => by simp at h
  | y :: r, 0, x, h => by simp at h; subst h; exact List.Perm.refl _
  | y :: r, i + 1, x, h => by
    have ih := perm_erase r i x (by simpa using h)
    rw [List.eraseIdx_cons_succ]
    exact (List.Perm.swap y x _).trans (ih.cons y)
theorem join_ones : ∀ cs : List Nat, (Txt.join "" (cs.map fun c => (⟨#[c]⟩ : Str))).cps.toList = cs := fun cs => by
  rw [TL.join_eq]
  induction cs with
  | nil => rfl
  | cons c r ih =>
    cases r with
    | nil => rfl
    | cons d r =>
      show (⟨#[c]⟩ ++ "" ++ Str.join "" ((d :: r).map fun c => (⟨#[c]⟩ : Str)) : Str).cps.toList = _
      rw [PySem.W.KT.app_list, PySem.W.KT.app_list, ih]
      rfl
theorem ones_len : ∀ cs : List Nat, ((cs.map fun c => (⟨#[c]⟩ : Str)).map (·.length)).sum = cs.length
  | [] => rfl
  | c :: r => by
    have := ones_len r
    simp only [List.map_cons, List.sum_cons, List.length_cons, this]
    have : (⟨#[c]⟩ : Str).length = 1 := rfl
    omega
theorem mul_zero (x : Str) : Txt.mul x 0 = ⟨#[]⟩ := by
  unfold Txt.mul; rw [if_pos (by decide)]; rfl
theorem mul_one (x : Str) : Txt.mul x 1 = x := by
  unfold Txt.mul; rw [if_neg (by decide)]; simp
/-! ### texts -/
theorem str_ext {x y : Str} (h : x.cps.toList = y.cps.toList) : x = y := by
  cases x; cases y; congr 1; exact Array.toList_inj.mp h
theorem app_cps (x y : Str) : (x ++ y).cps.toList = x.cps.toList ++ y.cps.toList := PySem.W.KT.app_list x y
theorem app_len (x y : Str) : (x ++ y).length = x.length + y.length := by
  rw [← len_cps, ← len_cps, ← len_cps, app_cps, List.length_append]
theorem one_cps (c : Nat) : (⟨#[c]⟩ : Str).cps.toList = [c] := rfl
theorem one_len (c : Nat) : (⟨#[c]⟩ : Str).length = 1 := rfl
end Aq
/-! an own exception over ValueError whose __init__ begins super().__init__(e) -/
namespace Aq
open PySem PySem.Spec PyProof.Rows L2 NdefX
section
variable {prog : Program} {w : World} {A : Around} {E : Value → Shared → Prop} {s : Shared} {nm q : Str} {C N x u t : Addr} {bs bm : List Value} {hdct : Bool} {sn : List Str} {sub : List Value} {ab : Bool} {col : Option Bool} {dd dv : Option Addr} {k0 k1 k2 k3 k5 : Option Value} {rest : List Value}
/-- ValueError.__init__ bound to x, called -/
theorem mw_init {Q : Value → Shared → Prop} (hC : s.heap.get? C = some (excClassObj nm q C N bs bm hdct sn sub ab col dd k0 k1 k2 k3 k5 "ValueError.__new__")) (hx : s.heap.get? x = some (PySem.W.excRec (.ref C) t dv .none .none (.bool false)))
    (hu : s.heap.get? u = some (PySem.W.kxs_mw "ValueError.__init__" x)) (hz : rest.length ≤ sizeLine)
    (h : ∀ h' t', (∀ b o, b ≠ x → s.heap.get? b = some o → h'.get? b = some o) → h'.get? x = some (PySem.W.excRec (.ref C) t' dv .none .none (.bool false)) → Q .none { s with heap := h' }) : wpAny (model prog w) A (call (.ref u) rest) Q E s := by
  obtain ⟨hp, g, d, tk, os⟩ := s
  refine wpAny_call (codeAny_of_tree (show wpAny _ A.in1 (callAny (.ref u) ⟨rest, []⟩) _ _ _ from ?_))
  unfold callAny
  refine wpAny_bind (wpAny_load hu (PySem.W.KFB.if_so (by show (Value.type "method-wrapper" == Value.type "method" || Value.type "method-wrapper" == Value.type "builtin_function_or_method" || Value.type "method-wrapper" == Value.type "method-wrapper") = true; decide) (wpAny_bind (PySem.W.check_bound_init F.excBase_ValueError.toExcCallFacts hC hx rfl (wpAny_bind (wpAny_pure (wpAny_pure ⟨plainId_quiet F.excBase_ValueError.init.plain _, codeAny_builtin F.excBase_ValueError.initEntry ?_⟩)))))))
  exact PySem.W.exc_init_tree hx hz fun h' k e _ => h h' _ k e
end
/-- what the written part says of the class at D and of its __init__, F at f, which begins super().__init__(..) -/
structure XI (P : Program) (K : PySem.W.Frag) (mg : Str → Option Value) (F : NF) (f D : Addr) (a0 : Str) (doc pm ctv : Value) : Prop where
  lk : ∃ oc od osl, K.lookup f = some ⟨oc, od, .func (F.fd doc pm ctv), osl⟩
  cd : PySem.W.codeIn K (.ref F.c) F.qual = true
  cl : ∃ cc c1 c2 c3, F.cl = [(("__class__" : Str), cc)] ∧ K.lookup cc = some ⟨c1, c2, .cell (some (.ref D)), c3⟩
  ar : ∃ ar, (F.params.posonlyargs ++ F.params.args).head? = some ar ∧ ar.arg = a0
  fl : ∃ c1 c2 c3 vs file tf, K.lookup F.c = some ⟨c1, c2, .fields vs, c3⟩ ∧ vs[2]? = some (.str file tf) ∧ ((P.main.file : Str) == file) = true
  me : PySem.W.mroIn K D (.ref D) = some true
  sg : mg "super" = none
  sk : F.scope.names.lookup ("super" : Str) = some .globalImplicit
  st : (P.main.scope.names.lookup ("super" : Str)).isSome = false
  op : PySem.W.nsIn K cStatics "thirdparty.any" = some none
  up : PySem.W.ks_superIn K D D "__init__" = some (some (.builtin "ValueError.__init__"))
  ve : PySem.W.subIn K (.ref D) (.type "ValueError") = some true
  ox : OexC K D
theorem fn_exc {CX : CXT} {P : Program} {w : World} {K : PySem.W.Frag} {mg : Str → Option Value} {base : Heap} {N psr : List Str} {a0 : Str} {F : NF} {f D : Addr} {k : Nat} {sp : Sp} {doc pm ctv : Value} {e : Expr} {rest : List Stmt} {p0 p1 p2 p3 p4 : Pos}
    (T : XI P K mg F f D a0 doc pm ctv) (S : NScope N (a0 :: psr) ["__class__"] F.scope) (eb : F.body = .Expr (.Call (.Attribute (.Call (.Name "super" p0) [] [] p1) "__init__" p2) [e] [] p3) p4 :: rest)
    (len : ∀ vs H Q E, sp vs H Q E → vs.length = (a0 :: psr).length)
    (hbody : ∀ (A : Around) (outer : List Env) (s : Shared) (H : Hp) (vs : List V) (Q : VK) (E : XK), Room k (A.deeper (envF F f s.heap.objs.size)) → sp vs H Q E → ∃ ta t a, PA (ncx CX P w K mg base N F f A outer s H E) [e] ta ∧ PSs (ncx CX P w K mg base N F f A outer s H E) rest t ∧
      vs[0]? = some (.ref a) ∧ H a = some (exo a D none) ∧ ta (startF N vs [none]) H fun xs H1 => xs.length ≤ 1000 ∧ H1 a = some (exo a D none) ∧ t { nx := fun _ H' => Q .non H', rt := Q } (startF N vs [none]) H1)
    (hst : ∀ A outer s H E, starEach [e] (ncx CX P w K mg base N F f A outer s H E).env = (false, eval e (ncx CX P w K mg base N F f A outer s H E).env) :: starEach [] (ncx CX P w K mg base N F f A outer s H E).env := by intros; rfl)
    (hev : ∃ pl : Addr → Sem Bool, ∀ L, eval (.Call (.Attribute (.Call (.Name "super" p0) [] [] p1) "__init__" p2) [e] [] p3) (envF F f L) = (do
      let ov ← attributeBase (.Call (.Name "super" p0) [] [] p1) "__init__" (envF F f L) (eval (.Call (.Name "super" p0) [] [] p1) (envF F f L))
      standAt p2.atName
      let (g, first) ← holding [ov] (getMethod ov "__init__" (pl L))
      callWith p3 g first (backTo p3 (starEach [e] (envF F f L))) []) := by exact ⟨_, fun _ => rfl⟩)
    (hin : ∀ L, interactive (envF F f L) = false := by intros; rfl)
    (hsw : ∀ L, swapsWith (.Call (.Attribute (.Call (.Name "super" p0) [] [] p1) "__init__" p2) [e] [] p3) none p4.line (envF F f L) = pure false := by intros; rfl) :
    FnOk P w K mg base CX (k + 1) f (F.fd doc pm ctv) (a0 :: psr) sp := by
  refine ⟨len, fun A outer s H args us vs Q E hr e0 hb r hsp => ?_⟩
  have hl := len _ _ _ _ hsp
  have KX : K.In s.heap := e0.mod.kin.keeps fun b o z => (e0.bs b o z).1
  obtain ⟨oc, od, osl, lk⟩ := T.lk
  obtain ⟨cc, c1, c2, c3, ecl, hcell⟩ := T.cl
  obtain ⟨ar, har, ear⟩ := T.ar
  obtain ⟨d1, d2, d3, cvs, file, tf, hcode, hvs, hfile⟩ := T.fl
  have hfree : ∀ b o, K.lookup b = some o → H b = none := fun b o z => (e0.bs b o (e0.mod.kin _ _ z)).2
  refine codeAny_call_function hr.depth (KX _ _ lk) rfl S.co S.gen rfl (PySem.W.codeRec_of KX T.cd) (hb _ _ _ _ (wpAny_newFunctionEnv S.nocell (fun ⟨n, _⟩ hy => S.par n (List.of_mem_zip hy).1) (fun h1 hns hsb => ⟨(e0.mod.nolimit.keeps fun b o z => (e0.bs b o z).1).fresh _ hsb, ?_⟩) S.kind))
  show codeAny _ _ (.func F.body (envF F f s.heap.objs.size)) _ _
  have kp : ∀ b o, s.heap.get? b = some o → h1.get? b = some o := fun b o z => hsb.extBut b o (Nat.ne_of_lt (Heap.lt_size z)) (Heap.get?_push_of_some _ z)
  have CA : CellsAt F.cl ["__class__"] [none] s.heap H := by
    refine ⟨rfl, fun y c h => ?_, fun x y c h1 h2 => ?_, fun i y h => ?_⟩
    · rw [ecl] at h
      have : c = cc := by
        simp only [List.lookup] at h
        split at h
        · exact (Option.some.inj h).symm
        · cases h
      subst this
      exact ⟨hfree _ _ hcell, _, _, KX _ _ hcell, rfl⟩
    · rw [ecl] at h1 h2
      simp only [List.lookup] at h1 h2
      split at h1
      · split at h2
        · rename_i q1 _ q2
          exact (eq_of_beq q1).trans (eq_of_beq q2).symm
        · cases h2
      · cases h1
    · cases i with
      | zero =>
        simp at h
        subst h
        exact ⟨cc, by rw [ecl]; simp [List.lookup], fun v hv => by simp at hv⟩
      | succ i => simp at h
  obtain ⟨ta, t, a, pa, ps, ev, ha, hq⟩ := hbody A outer s H vs Q E (hr.deeper _) hsp
  have I : Inv (ncx CX P w K mg base N F f A outer s H E) [] (startF N vs [none]) H { s with heap := h1, toks := s.toks + ((a0 :: psr).zip us).length } := inv_startN S hr.hd e0 hl r CA hns kp
  generalize hs1 : ({ s with heap := h1, toks := s.toks + ((a0 :: psr).zip us).length } : Shared) = s1 at I ⊢
  have hns1 : s1.heap.Ns s.heap.objs.size fun y => ((a0 :: psr).zip us).reverse.lookup y := by rw [← hs1]; exact hns
  have fin : ∀ {fl : Flow} {s' : Shared}, SP (ncx CX P w K mg base N F f A outer s H E) [] { nx := fun _ H' => Q .non H', rt := Q } fl s' → CR CX outer P w H s Q E (.ok (.ret (match fl with | .ret v => v | _ => .none))) s' := fun {fl s'} hs => by
    cases fl with
    | ret u => obtain ⟨v, σ', H', J, rv, q⟩ := hs; exact ⟨v, H', J.os, J.bare, J.base, J.hok, rv, q⟩
    | next => obtain ⟨σ', H', J, q⟩ := hs; exact ⟨.non, H', J.os, J.bare, J.base, J.hok, rfl, q⟩
    | brk => obtain ⟨_, _, _, q⟩ := hs; exact q.elim
    | cont => obtain ⟨_, _, _, q⟩ := hs; exact q.elim
  refine ks_codeAny_funcAt ?_
  rw [eb]
  have hkc : (envF F f s.heap.objs.size).kindOf "__class__" = some .free := S.frk _ (by simp)
  have X1 := I.kIn
  obtain ⟨nm, qn, NN, bs, bm, sn, sub, ab, col, dd, k0, k1, k2, k3, k5, hC, hbm⟩ := T.ox.cls
  obtain ⟨t1, hoa⟩ := exo_at I.hok ha
  have hns2 := hns1
  have hua : ((a0 :: psr).zip us).reverse.lookup a0 = some (.ref a) := by
    obtain ⟨u, hu, ru⟩ := r.get ev
    cases ru
    have nd : (a0 :: psr).Nodup := by
      have q := S.nd.sublist (List.take_sublist ((a0 :: psr).length + [("__class__" : Str)].length) N)
      rw [S.pre] at q
      exact (List.nodup_append.mp q).1
    exact zip_look nd (i := 0) rfl hu
  have hCl : PySem.W.clsIn K D = some { name := nm, bases := bs, mro := .ref D :: bm, ns := NN, qualname := qn, hasDict := true, slotNames := sn, subclasses := sub, abstract := ab, collection := col, hasDel := false } := by
    unfold PySem.W.clsIn; rw [hC] <;> rfl
  obtain ⟨pl, hev⟩ := hev
  refine ks_wpAt_execs_cons (ks_wpAt_Expr_any (ks_wpAt_MethodCall (ks_wpAt_super_base T.sk hkc (by decide) rfl (X1 _ _ lk) rfl har rfl (X1 _ _ hcode) rfl hvs hfile T.st ?_) (hev _)) (hin _) (hsw _))
  obtain ⟨mb, b1, b2⟩ := I.mod.blt
  refine PySem.W.ks_loadName_global S.kind T.sk (Calls.loadGlobal_builtin (I.mod.glob.keeps I.bk) T.sg (b1.keeps I.bk) ((b2 _ (by decide)).trans (by decide +kernel)) ⟨rfl, ?_⟩)
  refine wpAny_loadName_free S.kind hkc (c := cc) (by show F.cl.lookup _ = _; rw [ecl]; simp [List.lookup]) ⟨_, X1 _ _ hcell, rfl⟩ ?_
  subst ear
  refine wpAny_loadName_local S.kind (S.par _ (by simp)) hns1 hua (ks_wpAny_isType_cls (X1 _ _ hC) rfl ⟨rfl, ?_⟩)
  have naD : a ≠ D := fun z => by
    have := hfree D _ hC
    rw [← z, ha] at this
    cases this
  clear hs1 hns2
  obtain ⟨hp, g, d, tk, os⟩ := s1
  refine ks_wpAny_call_super (X1 _ _ hC) rfl hoa rfl (fun c q => nomatch q) (PySem.W.looks_mroIn X1 T.me) fun h2 hso kp2 => ?_
  have I2 := I.kept (t' := tk) kp2
  have hup := T.up
  unfold PySem.W.ks_superIn at hup
  rw [hCl] at hup
  have IA : PySem.W.InstAt h2 a { cls := .ref D, dict := none, data := .fields #[.ref t1, .none, .none, .none, .bool false, .none] } D none := ⟨kp2 _ _ hoa, rfl, rfl, trivial⟩
  refine PySem.W.kxs_getMethod PySem.W.kxs_ValueError hso (PySem.W.looks_opaque I2.kIn T.op) (l₀ := .ref D :: bm) (fun A Q E s k q => wpAny_bind ((PySem.W.looks_clsIn I2.kIn hCl) A _ E s k (wpAny_pure q))) rfl I2.kIn hup (IA.type.andThen (PySem.W.looks_subIn I2.kIn T.ve)) naD rfl ?_
  have I3 : Inv (ncx CX P w K mg base N F f A outer s H E) [(h2.objs.size, PySem.W.kxs_mw "ValueError.__init__" a)] (startF N vs [none]) H ⟨h2.push (PySem.W.kxs_mw "ValueError.__init__" a), g, d, tk + 1, os⟩ := by
    have J := I2.kept (h' := h2.push (PySem.W.kxs_mw "ValueError.__init__" a)) (t' := tk + 1) fun b o z => Heap.get?_push_of_some _ z
    refine J.pins_of fun p hp => ?_
    rw [List.mem_singleton] at hp
    subst hp
    exact ⟨Heap.get?_push_size _ rfl, I2.hok.fresh (Nat.le_refl _), Nat.ne_of_gt I2.lt, I2.nofs (Nat.le_refl _), nofun⟩
  have hs0 : starEach [e] (envF F f s.heap.objs.size) = (false, eval e (envF F f s.heap.objs.size)) :: starEach [] (envF F f s.heap.objs.size) := hst A outer s H E
  have run : wpAny (model P w) _ (spliced (backTo p3 (starEach [e] (envF F f s.heap.objs.size)))) _ _ _ := pa.run p3 _ _ _ H _ I3 hq
  show wpAny _ _ (callWith p3 (.ref h2.objs.size) [] (backTo p3 (starEach [e] (envF F f s.heap.objs.size))) []) _ _ _
  rw [hs0] at run ⊢
  refine PySem.W.kxs_callWith (i := "ValueError.__init__") (x := a) rfl (Calls.evalArgs_plain (thn run fun us2 s2 hs2 => ?_))
  obtain ⟨ws, H1, I4, rws, hz, ha1, q1⟩ := hs2
  obtain ⟨t2, ho2⟩ := exo_at I4.hok ha1
  have pin := (I4.pin _ (List.mem_append_right _ (List.mem_singleton_self _))).1
  have lz : us2.length ≤ sizeLine := by rw [← rws.length]; exact Nat.le_trans hz (by decide)
  refine ⟨pin, mw_init (I4.kIn _ _ hC) ho2 pin lz fun h3 t3 k3 hx3 => ?_⟩
  have J := I4.write (t' := s2.toks) (x := a) (e := a) (o := exo a D none) (by rw [ha1]; exact True.intro) (.inl rfl) k3 ⟨_, hx3⟩ (exo_ok hx3)
  have eu : upd H1 a (exo a D none) = H1 := by
    funext b
    by_cases hb : b = a
    · rw [hb, upd_same, ha1]
    · rw [upd_ne hb]
  rw [eu] at J
  have J0 : Inv (ncx CX P w K mg base N F f A outer s H E) [] (startF N vs [none]) H1 _ := J.pins_of (pins' := []) (fun p hp => by cases hp)
  refine wpAt_of_wpAny (wpAny_mono (ps.run [] _ _ H1 _ J0 q1) (fun fl s' hs => fin hs) fun e s' hs => hs)
end Aq
/-! try with several clauses `except X as n` -/
namespace Aq
open PySem PySem.Spec PyProof.Rows L2
abbrev Clause := Value × Option Nat × (Addr → Value → Option Addr → TS)
/-- the ends of a suite behind which slot i is gone -/
def Ends.gone (D : Ends) (i : Nat) : Ends := { nx := fun σ' H' => D.nx (σ'.set i none) H', rt := D.rt, bk := fun σ' H' => D.bk (σ'.set i none) H', ct := fun σ' H' => D.ct (σ'.set i none) H' }
def wAsM (K : PySem.W.Frag) (Wout : WX) (D : Ends) : List Clause → WX
  | [] => Wout
  | (c, none, ts) :: r => fun cls d σ H => ∃ b, PySem.W.exmOne K cls c = some b ∧ (b = true → ∀ a, H a = none → ts a cls d D σ H) ∧ (b = false → wAsM K Wout D r cls d σ H)
  | (c, some i, ts) :: r => fun cls d σ H => ∃ b, PySem.W.exmOne K cls c = some b ∧ (b = true → ∀ a, H a = none → ts a cls d (Ends.gone D i) (σ.set i (some (.ref a))) H) ∧ (b = false → wAsM K Wout D r cls d σ H)
inductive HdsA (X : Cx) : List ExceptHandler → List Clause → Prop
  | nil : HdsA X [] []
  | cons {x n : Str} {c : Value} {i : Nat} {ts : Addr → Value → Option Addr → TS} {b0 : Stmt} {suite : List Stmt} {np pos' : Pos} {hds : List ExceptHandler} {l : List Clause} (hc : Names X x c) (hi : X.N[i]? = some n) (hln : X.env.kindOf n = some .local)
      (hsu : ∀ (a : Addr) (oe : Obj) (cls : Value) (d : Option Addr) (pn : List (Addr × Obj)), Zc cls d oe → (∃ vs, oe.data = .fields vs) → PSs (X.suite a ((a, oe) :: pn)) (b0 :: suite) (ts a cls d)) (r : HdsA X hds l) : HdsA X (.ExceptHandler (some (.Name x np)) (some n) (b0 :: suite) pos' :: hds) ((c, some i, ts) :: l)
  | consN {x : Str} {c : Value} {ts : Addr → Value → Option Addr → TS} {b0 : Stmt} {suite : List Stmt} {np pos' : Pos} {hds : List ExceptHandler} {l : List Clause} (hc : Names X x c)
      (hsu : ∀ (a : Addr) (oe : Obj) (cls : Value) (d : Option Addr) (pn : List (Addr × Obj)), Zc cls d oe → (∃ vs, oe.data = .fields vs) → PSs (X.suite a ((a, oe) :: pn)) (b0 :: suite) (ts a cls d)) (r : HdsA X hds l) : HdsA X (.ExceptHandler (some (.Name x np)) none (b0 :: suite) pos' :: hds) ((c, none, ts) :: l)
section
variable {X : Cx} {body : List Stmt} {h0 : ExceptHandler} {hds : List ExceptHandler} {l : List Clause} {pos : Pos} {tb : WX → TS} {Wout : WX}
theorem ps_try_asM (hs : X.stack = X.env :: X.outer) (hf : X.env.frame = some X.env.locals) (hN : X.N.Nodup) (tk : Takes X Wout)
    (hb : ∀ (W : WX) (pn : List (Addr × Obj)) (xe : Value → Shared → Prop), Takes (X.tr pn xe) W → PassesOwn (model X.prog X.w) X.A X.env xe → PSs (X.tr pn xe) body (tb W)) (hh : HdsA X (h0 :: hds) l) : PS X (.Try body (h0 :: hds) [] [] pos) (fun D σ H => tb (wAsM X.K Wout D l) D σ H) := by
  constructor
  intro pins s σ H D I rd
  have ok := I.ok
  have hfr : X.A.frames = some (X.env :: X.outer) := hs ▸ ok.frames
  refine wpAny_Try_except (wpAny_mono ((hb (wAsM X.K Wout D l) (X.pn ++ pins) (fun e s1 => wpAny (model X.prog X.w) X.A (noteFrame e X.env) (fun _ s2 => wpAny (model X.prog X.w) X.A (setFlight e none) (fun _ s3 => wpAny (model X.prog X.w) X.A (handleBy e X.env (h0 :: hds)) (SP X pins D) X.xe s3) X.xe s2) X.xe s1) ?_ PassesOwn.looking).run [] s σ H D (I.toTry _) rd) ?_ fun _ _ q => q)
  · rintro u t ⟨a, B, tI, pins', σ', H', cls, d, rfl, J', nb, up, sky, na, os, ag, wish⟩
    have J : Inv X pins σ' H' tI := J'.ofTry ok
    refine Sky.land Zc.steady hfr hf (hs ▸ sky) fun h3 fl3 up3 => ?_
    have J3 : Inv X pins σ' H' { t with heap := h3 } := J.landed nb fl3.1 (up.trans up3) os ag
    obtain ⟨oe3, vs3, he3, hz3, hd3⟩ := fl3.there
    have nfr : a ∉ frs (X.env :: X.outer) := fun hm => by
      obtain ⟨_, o', e', hnf⟩ := fl3.2.2.1.mem hm
      cases he3.symm.trans e'
      exact hnf _ hd3
    have nL : a ≠ X.env.locals := fun z => nfr (List.mem_filterMap.mpr ⟨X.env, List.mem_cons_self, z ▸ hf⟩)
    have nF : a ∉ X.fs := fun hm => by
      obtain ⟨e, he, q⟩ := List.mem_filterMap.mp hm
      exact nfr (List.mem_filterMap.mpr ⟨e, List.mem_cons_of_mem _ he, q⟩)
    have S3 := J3.suite he3 hd3 na nL nF
    clear hb
    have go : ∀ {hs' : List ExceptHandler} {l' : List Clause}, HdsA X hs' l' → wAsM X.K Wout D l' cls d σ' H' → wpAny (model X.prog X.w) X.A (handleBy (.ref a) X.env hs') (SP X pins D) X.xe { t with heap := h3 } := fun {hs' l'} hk => by
      induction hk with
      | nil =>
        intro wo
        obtain ⟨_, _, _, oe, vs, T, oT, ts', he, hz, hd, h1, _⟩ := id fl3
        have out : wpAny (model X.prog X.w) X.A (setFlight (.ref a) X.env.frame) (fun _ s4 => wpAny (model X.prog X.w) X.A (throw (.ref a) : Sem Flow) (SP X pins D) X.xe s4) X.xe { t with heap := h3 } := by
          rw [hf]
          exact HandSPX.setFlight_upZ fl3 fun h4 hh4 up4 => wpAny_throw (tk _ _ ⟨a, B, tI, pins, σ', H', cls, d, rfl, J, nb, (up.trans up3).trans up4, .inr (.inr (hs ▸ hh4)), na, os, ag, wo⟩)
        refine wpAny_handleBy_nil ?_
        delta PySem.passOn
        refine wpAny_bind (wpAny_field he hd h1 (?_ : wpAny _ _ (if (Value.ref T == Value.none) = true then _ else _) _ _ _))
        rw [if_neg (by simp : ¬ (Value.ref T == Value.none) = true)]
        first | exact wpAny_bind (wpAny_pure (wpAny_bind out)) | exact wpAny_bind out
      | @cons x n c i ts b0 suite np pos' hds2 l2 hc hi hln hsu r ih =>
        rintro ⟨b, eb, yes, no⟩
        have LM := PySem.W.exm_one (M := model X.prog X.w) J3.kIn (show PySem.W.Looks (model X.prog X.w) h3 (typeOf (.ref a)) cls from fun A Q E s k q => wpAny_typeOf_ref (k _ _ he3) (hz3.1.symm ▸ q)) eb
        have test : ∀ {Q : Value → Shared → Prop} {E : Value → Shared → Prop}, Q c { t with heap := h3 } → wpAny (model X.prog X.w) (X.A.mark (some (.ref a))) (eval (.Name x np) X.env) Q E { t with heap := h3 } := fun {Q E} q => by
          exact hc.2.2.elim (fun z => ld_glob (X := X.suite a ((a, oe3) :: (X.pn ++ pins))) S3 hc.1 z q hc.2.1) fun z => ld_blt (X := X.suite a ((a, oe3) :: (X.pn ++ pins))) S3 hc.1 z.1 z.2.1 q z.2.2 hc.2.1
        refine wpAny_handleBy_cons (codeAny_handlers_test (test (LM.here ?_))) (fun q => nomatch q)
        cases b with
        | false => exact ih (no rfl)
        | true =>
          refine codeAny_handlers_suite_as (HandSPX.lands_againZ fl3 fun h4 fl4 up4 => ?_)
          obtain ⟨oe4, vs4, he4, hz4, hd4⟩ := fl4.there
          have J4 : Inv X pins σ' H' { t with heap := h4 } := J.landed nb fl4.1 ((up.trans up3).trans up4) os ag
          have S4 := J4.suite he4 hd4 na nL nF
          refine store_ok (X := X.suite a ((a, oe4) :: (X.pn ++ pins))) (v := .ref a) S4 hN hi (.inl hln) rfl (fun s5 S5 => ?_) (.inr hln)
          refine wpAny_mono ((hsu a oe4 cls d (X.pn ++ pins) hz4 ⟨_, hd4⟩).run [] s5 _ H' _ S5 (yes rfl a na)) (fun f s6 hsp => ?_) fun _ _ z => False.elim z
          have gone : ∀ {σ6 : L2.St} {H6 : Hp} {Q : Shared → Prop}, Inv (X.suite a ((a, oe4) :: (X.pn ++ pins))) [] σ6 H6 s6 → (∀ s7, Inv X pins (σ6.set i none) H6 s7 → Q s7) → wpAny (model X.prog X.w) X.A (do bindName X.env n .none; unbindBehindTheSuite X.env n pos') (fun _ s7 => Q s7) X.xe s6 :=
            fun {σ6 H6 Q} S6 hq => gone_ok (S6.unsuite ok) hN hi hln hq
          cases f with
          | ret u => obtain ⟨v6, σ6, H6, S6, r6, q6⟩ := hsp; exact gone S6 fun s7 J7 => ⟨_, _, _, J7, r6, q6⟩
          | next => obtain ⟨σ6, H6, S6, q6⟩ := hsp; exact gone S6 fun s7 J7 => ⟨_, _, J7, q6⟩
          | brk => obtain ⟨σ6, H6, S6, q6⟩ := hsp; exact gone S6 fun s7 J7 => ⟨_, _, J7, q6⟩
          | cont => obtain ⟨σ6, H6, S6, q6⟩ := hsp; exact gone S6 fun s7 J7 => ⟨_, _, J7, q6⟩
      | @consN x c ts b0 suite np pos' hds2 l2 hc hsu r ih =>
        rintro ⟨b, eb, yes, no⟩
        have LM := PySem.W.exm_one (M := model X.prog X.w) J3.kIn (show PySem.W.Looks (model X.prog X.w) h3 (typeOf (.ref a)) cls from fun A Q E s k q => wpAny_typeOf_ref (k _ _ he3) (hz3.1.symm ▸ q)) eb
        have test : ∀ {Q : Value → Shared → Prop} {E : Value → Shared → Prop}, Q c { t with heap := h3 } → wpAny (model X.prog X.w) (X.A.mark (some (.ref a))) (eval (.Name x np) X.env) Q E { t with heap := h3 } := fun {Q E} q => by
          exact hc.2.2.elim (fun z => ld_glob (X := X.suite a ((a, oe3) :: (X.pn ++ pins))) S3 hc.1 z q hc.2.1) fun z => ld_blt (X := X.suite a ((a, oe3) :: (X.pn ++ pins))) S3 hc.1 z.1 z.2.1 q z.2.2 hc.2.1
        refine wpAny_handleBy_cons (codeAny_handlers_test (test (LM.here ?_))) (fun q => nomatch q)
        cases b with
        | false => exact ih (no rfl)
        | true =>
          refine codeAny_handlers_suite (HandSPX.lands_againZ fl3 fun h4 fl4 up4 => ?_)
          have J4 : Inv X pins σ' H' { t with heap := h4 } := J.landed nb fl4.1 ((up.trans up3).trans up4) os ag
          obtain ⟨ob, vs4, he4, hz4, hd4⟩ := fl4.there
          refine wpAny_mono ((hsu a ob cls d (X.pn ++ pins) hz4 ⟨_, hd4⟩).run [] _ _ H' _ (J4.suite he4 hd4 na nL nF) (yes rfl a na)) (fun f s6 hsp => ?_) fun _ _ z => False.elim z
          cases f with
          | ret u => obtain ⟨v6, σ6, H6, S6, r6, q6⟩ := hsp; exact ⟨_, _, _, S6.unsuite ok, r6, q6⟩
          | next => obtain ⟨σ6, H6, S6, q6⟩ := hsp; exact ⟨_, _, S6.unsuite ok, q6⟩
          | brk => obtain ⟨σ6, H6, S6, q6⟩ := hsp; exact ⟨_, _, S6.unsuite ok, q6⟩
          | cont => obtain ⟨σ6, H6, S6, q6⟩ := hsp; exact ⟨_, _, S6.unsuite ok, q6⟩
    exact go hh wish
  · intro f s1 q
    cases f with
    | next => obtain ⟨σ', H', J', z⟩ := q; exact wpAny_execs_nil ⟨σ', H', J'.ofTry ok, z⟩
    | brk => obtain ⟨σ', H', J', z⟩ := q; exact ⟨σ', H', J'.ofTry ok, z⟩
    | cont => obtain ⟨σ', H', J', z⟩ := q; exact ⟨σ', H', J'.ofTry ok, z⟩
    | ret u => obtain ⟨v, σ', H', J', z, y⟩ := q; exact ⟨v, σ', H', J'.ofTry ok, z, y⟩
end
end Aq
/-! defs, classes and methods that may let an own exception out -/
namespace Aq
open PySem PySem.Spec PyProof.Rows L2
section
variable (P : Program) (w : World) (K : PySem.W.Frag) (mg : Str → Option Value) (base : Heap)
structure CalX (k : Nat) (x : Str) (ps : List Str) (sp : Sp) : Prop where
  ex : ∃ (f : Addr) (fd : FuncData), FnOk P w K mg base (L2.CX P w) k f fd ps sp ∧ mg x = some (.ref f) ∧ PySem.W.keepIn K (.ref f) = true ∧ Binds K fd ps []
structure CtrX (k : Nat) (x : Str) (C : Addr) (ps : List Str) (dvs : List V) (sp : Sp) : Prop where
  ex : ∃ (f : Addr) (fd : FuncData) (ds : List Value), Mk K C f ∧ FnOk P w K mg base (L2.CX P w) k f fd ps sp ∧ mg x = some (.ref C) ∧ Binds K fd ps ds ∧ Vals dvs ds
structure MthX (k : Nat) (C : Addr) (m : Str) (ps : List Str) (sp : Sp) : Prop where
  cl : Cls K C
  ex : ∃ (f : Addr) (fd : FuncData), Meth K C m f ∧ FnOk P w K mg base (L2.CX P w) k f fd ps sp ∧ Binds K fd ps []
/-- an own exception and its __init__ -/
structure Xcl (k : Nat) (x : Str) (C : Addr) (ps : List Str) (sp : Sp) : Prop where
  ox : OexC K C
  xf : XfC K C
  ex : ∃ (f : Addr) (fd : FuncData), PySem.W.findIn K (.ref C) "__init__" = some (some (.ref f)) ∧ PySem.W.typeIn K (.ref f) = some (.type "function") ∧ FnOk P w K mg base CX0 k f fd ps sp ∧ mg x = some (.ref C) ∧ Binds K fd ps []
end
section
variable {X : Cx} {k j : Nat} {x m : Str} {C : Addr} {ps : List Str} {dvs : List V} {sp : Sp} {W : WX} {p pos apos : Pos} {e o : Expr} {es : List Expr} {ta : TE} {t : TA}
def PassAt (X : Cx) (σ : L2.St) (E : XK) : Prop := ∀ (pins : List (Addr × Obj)) (H : Hp) (s : Shared) (e : Value) (s' : Shared), Inv X pins σ H s → L2.CX X.prog X.w X.stack H s E e s' → X.xe e s'
theorem passAt {σ : L2.St} (tk : Takes X W) : PassAt X σ fun cls d H => W cls d σ H := fun _ _ _ e s' I c => tk e s' (XE.of_call I (fun _ _ _ h => h) c)
theorem passX0 : Passes (L2.CX X.prog X.w) X E0 := by
  rintro pins σ H s e s' I ⟨a, B, H', cls, d, _, _, _, _, _, _, _, z⟩
  exact z.elim
/-- readings of a call, a making, a method's call; what leaves them is wished by W -/
def tCallW (sp : Sp) (dvs : List V) (W : WX) (t : TA) : TE := fun σ H Q => t σ H fun vs H1 => sp (vs ++ dvs) H1 Q fun cls d H' => W cls d σ H'
def tMakeW (C : Addr) (sp : Sp) (dvs : List V) (W : WX) (t : TA) : TE := fun σ H Q => t σ H fun vs H1 => ∀ x dx, H1 x = none → H1 dx = none → dx ≠ x → sp (.ref x :: (vs ++ dvs)) (upd (upd H1 dx (.own x)) x (.ins C dx [])) (fun v H2 => v = .non ∧ Q (.ref x) H2) fun cls d H' => W cls d σ H'
def tMethW (C : Addr) (m : Str) (sp : Sp) (W : WX) (ta : TE) (t : TA) : TE := fun σ H Q => ta σ H fun x H1 => ∃ a dx fs, x = .ref a ∧ H1 a = some (.ins C dx fs) ∧ fs.lookup m = none ∧ t σ H1 fun vs H2 => sp (x :: vs) H2 Q fun cls d H' => W cls d σ H'
variable {pins : List (Addr × Obj)} {σ : L2.St} {H : Hp} {s : Shared} {Q : VK} {us ds : List Value} {vs : List V} {f : Addr} {fd : FuncData} {E : XK}
theorem runA (F : FnOk X.prog X.w X.K X.mg X.base (L2.CX X.prog X.w) k f fd ps sp) (hr : Room k X.A) (hb : Binds X.K fd ps ds) (hd : Vals dvs ds) (hx : PassAt X σ E) (I : Inv X pins σ H s) (r : Vals vs us) (h : sp (vs ++ dvs) H Q E) : wpAny (model X.prog X.w) X.A (call (.ref f) us) (EP X pins σ Q) X.xe s := by
  have r2 := r.append hd
  have hl := r2.length.symm.trans (F.len _ _ _ _ h)
  refine wpAny_call (codeAny_mono (F.run X.A X.stack s H ⟨us, []⟩ _ _ Q E hr I.env0 (hb s us I.kIn hl) r2 h) fun out s' hq => ?_)
  match out, hq with
  | .error e, hq => exact hx pins H s e s' I hq
  | .ok (.ret u), hq => exact I.after hq
  | .ok .next, hq => exact hq.elim
  | .ok .brk, hq => exact hq.elim
  | .ok .cont, hq => exact hq.elim
theorem makeA (M : Mk X.K C f) (F : FnOk X.prog X.w X.K X.mg X.base (L2.CX X.prog X.w) k f fd ps sp) (hr : Room (k + 1) X.A) (hb : Binds X.K fd ps ds) (hd : Vals dvs ds) (hx : PassAt X σ E) (I : Inv X pins σ H s) (r : Vals vs us)
    (h : ∀ x dx, H x = none → H dx = none → dx ≠ x → sp (.ref x :: (vs ++ dvs)) (upd (upd H dx (.own x)) x (.ins C dx [])) (fun v H2 => v = .non ∧ Q (.ref x) H2) E) : wpAny (model X.prog X.w) X.A (call (.ref C) us) (EP X pins σ Q) X.xe s := by
  have hq := h (s.heap.objs.size + 1) s.heap.objs.size (I.hok.fresh (Nat.le_succ _)) (I.hok.fresh (Nat.le_refl _)) (Nat.ne_of_lt (Nat.lt_succ_self _))
  have J := Inv.made (C := C) I
  have r2 : Vals (V.ref (s.heap.objs.size + 1) :: (vs ++ dvs)) (Value.ref (s.heap.objs.size + 1) :: (us ++ ds)) := .cons rfl (r.append hd)
  have hl := r2.length.symm.trans (F.len _ _ _ _ hq)
  refine wpAny_call (make_map (f := f) I.kIn M.makes M.init (beq_iff_eq.mp M.fn) (codeAny_mono (F.run _ X.stack _ _ ⟨Value.ref (s.heap.objs.size + 1) :: us, []⟩ _ _ _ E (hr.make C us []) (J.env0.make C us []) (hb _ (Value.ref (s.heap.objs.size + 1) :: us) J.kIn hl) r2 hq) fun out s' z => ?_))
  match out, z with
  | .error e, z => exact hx pins _ _ e s' J z
  | .ok (.ret u), z =>
    obtain ⟨v, H', J2, rv, ev, q3⟩ := J.after z
    subst ev
    exact ⟨rv, V.ref (s.heap.objs.size + 1), H', J2, rfl, q3⟩
  | .ok .next, z => exact z.elim
  | .ok .brk, z => exact z.elim
  | .ok .cont, z => exact z.elim
theorem pe_callX (c : CalX X.prog X.w X.K X.mg X.base k x ps sp) (hr : Room j X.A) (tk : Takes X W) (ha : PA X (e :: es) t) (hk : k ≤ j := by decide) (hg : Gl X x := by rfl) (hdb : (x == ("__debug__" : Str)) = false := by decide)
    (he : starEach (e :: es) X.env = (false, eval e X.env) :: starEach es X.env := by rfl) (hpl : (backTo pos (starEach es X.env)).any (·.1) = false := by rfl) : PE X (.Call (.Name x p) (e :: es) [] pos) (tCallW sp [] W t) := by
  obtain ⟨f, fd, F, hm, kp, b⟩ := c.ex
  exact ⟨fun pins s σ H Q I h => wpAny_Call_Name_kw (ld_glob I hg hm (PySem.W.callWith_K (h₀ := X.base) I.ok.mod.kin kp (thn (ha.run pos pins s σ H _ I h) fun us s1 ⟨vs, H1, I1, r, q⟩ => ⟨I1.kIn, runA F (hr.mono hk) b .nil (passAt tk) I1 r q⟩) he hpl) hdb)⟩
theorem pe_callX0 (c : CalX X.prog X.w X.K X.mg X.base k x ps sp) (hr : Room j X.A) (ha : PA X (e :: es) t) (hk : k ≤ j := by decide) (hg : Gl X x := by rfl) (hdb : (x == ("__debug__" : Str)) = false := by decide)
    (he : starEach (e :: es) X.env = (false, eval e X.env) :: starEach es X.env := by rfl) (hpl : (backTo pos (starEach es X.env)).any (·.1) = false := by rfl) : PE X (.Call (.Name x p) (e :: es) [] pos) (tCall sp [] E0 t) := by
  obtain ⟨f, fd, F, hm, kp, b⟩ := c.ex
  exact pe_call F (hr.mono hk) hg hm kp b .nil passX0 ha hdb he hpl
theorem pe_makeX (c : CtrX X.prog X.w X.K X.mg X.base k x C ps dvs sp) (hr : Room j X.A) (tk : Takes X W) (ha : PA X (e :: es) t) (hk : k + 1 ≤ j := by decide) (hg : Gl X x := by rfl) (hdb : (x == ("__debug__" : Str)) = false := by decide)
    (he : starEach (e :: es) X.env = (false, eval e X.env) :: starEach es X.env := by rfl) (hpl : (backTo pos (starEach es X.env)).any (·.1) = false := by rfl) : PE X (.Call (.Name x p) (e :: es) [] pos) (tMakeW C sp dvs W t) := by
  obtain ⟨f, fd, ds, M, F, hm, b, hd⟩ := c.ex
  exact ⟨fun pins s σ H Q I h => wpAny_Call_Name_kw (ld_glob I hg hm (PySem.W.callWith_K (h₀ := X.base) I.ok.mod.kin M.kp (thn (ha.run pos pins s σ H _ I h) fun us s1 ⟨vs, H1, I1, r, q⟩ => ⟨I1.kIn, makeA M F (hr.mono hk) b hd (passAt tk) I1 r q⟩) he hpl) hdb)⟩
theorem pe_makeX0 (c : CtrX X.prog X.w X.K X.mg X.base k x C ps dvs sp) (hr : Room j X.A) (ha : PA X (e :: es) t) (hk : k + 1 ≤ j := by decide) (hg : Gl X x := by rfl) (hdb : (x == ("__debug__" : Str)) = false := by decide)
    (he : starEach (e :: es) X.env = (false, eval e X.env) :: starEach es X.env := by rfl) (hpl : (backTo pos (starEach es X.env)).any (·.1) = false := by rfl) : PE X (.Call (.Name x p) (e :: es) [] pos) (tMake C sp dvs E0 t) := by
  obtain ⟨f, fd, ds, M, F, hm, b, hd⟩ := c.ex
  exact pe_make M F (hr.mono hk) hg hm b hd passX0 ha hdb he hpl
theorem pe_methX {pl : Sem Bool} (c : MthX X.prog X.w X.K X.mg X.base k C m ps sp) (hr : Room j X.A) (tk : Takes X W) (ho : PE X o ta) (ha : PA X (e :: es) t) (hk : k ≤ j := by decide)
    (hst : starEach (e :: es) X.env = (false, eval e X.env) :: starEach es X.env := by rfl) (hpl : (backTo pos (starEach es X.env)).any (·.1) = false := by rfl)
    (ht : eval (.Call (.Attribute o m apos) (e :: es) [] pos) X.env = (do
      let ov ← eval o X.env
      standAt apos.atName
      let (f, first) ← holding [ov] (getMethod ov m pl)
      callWith pos f first (backTo pos (starEach (e :: es) X.env)) (backToKw pos (keywordEach [] X.env))) := by rfl) : PE X (.Call (.Attribute o m apos) (e :: es) [] pos) (tMethW C m sp W ta t) := by
  obtain ⟨f, fd, M, F, b⟩ := c.ex
  constructor
  intro pins s σ H Q I h
  refine PySem.W.methodCall_KW (pl := pl) (thn (ho.run pins s σ H _ I h) ?_) ht
  rintro u s1 ⟨x, H1, I1, rx, a, dx, fs, rfl, ea, lk, q⟩
  cases rx
  refine getmeth_ok I1 ea c.cl M lk (PySem.W.callWith_K (first := [.ref a]) (h₀ := X.base) I.ok.mod.kin M.kp (thn (ha.run pos pins s1 σ H1 _ I1 q) fun us s2 ⟨vs, H2, I2, r, q2⟩ => ⟨I2.kIn, ?_⟩) hst hpl)
  exact runA (us := .ref a :: us) (vs := .ref a :: vs) F (hr.mono hk) b .nil (passAt tk) I2 (.cons rfl r) (by rw [List.append_nil]; exact q2)
theorem pe_methX0 {pl : Sem Bool} (c : MthX X.prog X.w X.K X.mg X.base k C m ps sp) (hr : Room j X.A) (ho : PE X o ta) (ha : PA X (e :: es) t) (hk : k ≤ j := by decide)
    (hst : starEach (e :: es) X.env = (false, eval e X.env) :: starEach es X.env := by rfl) (hpl : (backTo pos (starEach es X.env)).any (·.1) = false := by rfl)
    (ht : eval (.Call (.Attribute o m apos) (e :: es) [] pos) X.env = (do
      let ov ← eval o X.env
      standAt apos.atName
      let (f, first) ← holding [ov] (getMethod ov m pl)
      callWith pos f first (backTo pos (starEach (e :: es) X.env)) (backToKw pos (keywordEach [] X.env))) := by rfl) : PE X (.Call (.Attribute o m apos) (e :: es) [] pos) (tMeth C m sp [] E0 ta t) := by
  obtain ⟨f, fd, M, F, b⟩ := c.ex
  exact pe_meth ho c.cl M F (hr.mono hk) b .nil passX0 ha hst hpl ht
/-- raise C(e, ..) -/
theorem ps_raiseX {rpos : Pos} (c : Xcl X.prog X.w X.K X.mg X.base k x C ps sp) (hr : Room j X.A) (tk : Takes X W) (ha : PA X (e :: es) t) (hc : X.calm = true := by rfl) (hk : k + 1 ≤ j := by decide) (hg : Gl X x := by rfl) (hdb : (x == ("__debug__" : Str)) = false := by decide)
    (he : starEach (e :: es) X.env = (false, eval e X.env) :: starEach es X.env := by rfl) (hpl : (backTo pos (starEach es X.env)).any (·.1) = false := by rfl) :
    PS X (.Raise (some (.Call (.Name x p) (e :: es) [] pos)) none rpos) (fun _ σ H => tMkO C sp [] t σ H fun cls d H' => W cls d σ H') := by
  obtain ⟨f, fd, iC, tI, F, hm, b⟩ := c.ex
  exact ps_raise hc tk (pmk_oex c.ox iC tI F (hr.mono hk) b .nil pass0 hg hm ha hdb he hpl)
/-- an own exception without an __init__ -/
structure Xc0 (K : PySem.W.Frag) (mg : Str → Option Value) (x : Str) (C : Addr) : Prop where
  q : ∃ bm, ExcBaseFacts "ValueError" "ValueError.__new__" "ValueError.__init__" bm ∧ PySem.W.excIn K C bm "ValueError.__new__" = true
  g : mg x = some (.ref C)
  kC : PySem.W.keepIn K (.ref C) = true
  exC : PySem.W.subIn K (.ref C) (.type "BaseException") = some true
  tyC : PySem.W.typeIn K (.ref C) = some (.type "type")
/-- raise C() -/
theorem ps_raise0 {rpos : Pos} (c : Xc0 X.K X.mg x C) (tk : Takes X W) (hc : X.calm = true := by rfl) (hg : Gl X x := by rfl) (hdb : (x == ("__debug__" : Str)) = false := by decide) :
    PS X (.Raise (some (.Call (.Name x p) [] [] pos)) none rpos) (fun _ σ H => W (.ref C) none σ H) := by
  obtain ⟨bm, F, q⟩ := c.q
  refine ps_raise (t := fun σ H Q => Q (.ref C) none H) hc tk fun pins s σ H Q I h => ?_
  obtain ⟨_, _, _, _, _, _, _, _, _, _, _, _, _, _, _, _, _, hC, hN, hni, T⟩ := exc_obj I.kIn q
  exact wpAny_Call_Name_kw (ld_glob I hg c.g (PySem.W.callWith_K0 I.kIn c.kC (wpAny_call_exc_subT F T hC hN hni (fun h' e hm => mk_of I hm (raises_own c.exC c.tyC) h (I.hok.gone hm.new)) (Nat.zero_le _))) hdb)
end
end Aq
/-! own exceptions: messages, stores, what is raised -/
namespace Aq
open PySem PySem.Spec PyProof.Rows L2 Evl
/-- what is told in a message -/
def Fmt (y : V) : Prop := (∃ z : Str, y = .str z ∧ z.length ≤ 1000) ∨ ∃ i : Int, y = .int i ∧ i.natAbs.log2 < 1000
section
variable {K : PySem.W.Frag} {σ : L2.St} {H : Hp} {Qs : Str → Hp → Prop} {ts : List TE} {acc z : Str} {n i : Nat} {y : V}
theorem js_c (hn : acc.length ≤ n) (hb : n ≤ 100000) (hz : z.length ≤ 1000) (k : ∀ acc' : Str, acc'.length ≤ n + 1000 → tJs ts acc' σ H Qs) : tJs (tC (.str z) :: ts) acc σ H Qs :=
  ⟨z, rfl, by rw [app_len]; exact Nat.le_trans (show _ ≤ 200000 by omega) (by decide), k _ (by rw [app_len]; omega)⟩
theorem js_f (hv : σ[i]? = some (some y)) (hn : acc.length ≤ n) (hb : n ≤ 100000) (hf : Fmt y) (k : ∀ acc' : Str, acc'.length ≤ n + 1001 → tJs ts acc' σ H Qs) : tJs (tFmt (tVar i) :: ts) acc σ H Qs := by
  refine ⟨y, hv, ?_⟩
  rcases hf with ⟨z, rfl, hz⟩ | ⟨j, rfl, hj⟩
  · exact .inl ⟨z, rfl, Nat.le_trans hz (by decide), z, rfl, by rw [app_len]; exact Nat.le_trans (show _ ≤ 200000 by omega) (by decide), k _ (by rw [app_len]; omega)⟩
  · have hl := int_text_length_le (k := 1000) (by decide) hj
    have hl2 : (Str.ofString (toString j)).length ≤ 1001 := by rw [PySem.ofString_length]; exact hl
    exact .inr ⟨j, rfl, Nat.lt_trans hj (by decide), _, rfl, by rw [app_len]; exact Nat.le_trans (show _ ≤ 200000 by omega) (by decide), k _ (by rw [app_len]; omega)⟩
theorem js_0 (h : Qs acc H) : tJs [] acc σ H Qs := h
/-- self.f = p, the first one; a further one -/
theorem rd_ost1 {f : Str} {x C : Addr} {k : Nat} {D : Ends} (ox : OexC K C) (na : PySem.W.findIn K (.ref C) f = some none) (hy : σ[k]? = some (some y)) (hs : σ[0]? = some (some (.ref x))) (hx : H x = some (exo x C none))
    (q : ∀ dx, H dx = none → dx ≠ x → D.nx σ (upd (upd H dx (exd dx [(f, y)])) x (exo x C (some dx)))) : tOst K f (tVar 0) (tVar k) D σ H := ⟨y, hy, .ref x, hs, x, C, rfl, ox, na, .inl ⟨hx, q⟩⟩
theorem rd_ostN {f : Str} {x C dx : Addr} {k : Nat} {D : Ends} {fs : List (Str × V)} (ox : OexC K C) (na : PySem.W.findIn K (.ref C) f = some none) (hy : σ[k]? = some (some y)) (hs : σ[0]? = some (some (.ref x))) (hx : H x = some (exo x C (some dx))) (hd : H dx = some (exd dx fs)) (hl : fs.length ≤ 900)
    (q : D.nx σ (upd H dx (exd dx ((f, y) :: fs)))) : tOst K f (tVar 0) (tVar k) D σ H := ⟨y, hy, .ref x, hs, x, C, rfl, ox, na, .inr ⟨dx, fs, hx, hd, hl, q⟩⟩
/-- what stands where an exception was made and let go: its dict at d, nothing else is new -/
theorem raised {H1 H2 : Hp} {x d C : Addr} {fs : List (Str × V)} (hx : H1 x = none) (hd : H1 d = none) (ne : d ≠ x) (st : ∀ b, b ≠ x → b ≠ d → H2 b = upd H1 x (exo x C none) b) : Ex H1 (upd (del H2 x) d (.xd fs)) ∧ (upd (del H2 x) d (.xd fs)) d = some (.xd fs) := by
  refine ⟨fun b o h => ?_, upd_same⟩
  have h1 := ne_of_none h hx
  have h2 := ne_of_none h hd
  rw [upd_ne h2, del_ne h1, st b h1 h2, upd_ne h1]
  exact h
end
/-- isinstance(e, c), e a caught error of an own class with a dict -/
def rIsX (K : PySem.W.Frag) (D a : Addr) : List V → Hp → VK → Prop := rIsE K D a
/-- what a handler's class must be -/
structure ExmC (K : PySem.W.Frag) (C : Addr) : Prop where
  sb : PySem.W.subIn K (.ref C) (.type "BaseException") = some true
  hd : PySem.W.hasDictIn K C = true
  ty : PySem.W.typeIn K (.ref C) = some (.type "type")
theorem ExmC.em {K : PySem.W.Frag} {C : Addr} {cls : Value} {b : Bool} (e : ExmC K C) (h : PySem.W.subIn K cls (.ref C) = some b) : PySem.W.exmOne K cls (.ref C) = some b := PySem.W.exm_ref e.sb e.hd e.ty h
theorem kit_own {K : PySem.W.Frag} {C : Addr} {t : String} {b : Bool} (h : PySem.W.subIn K (.ref C) (.type t) = some b) (m : PySem.W.kitMeta t = true := by decide +kernel) : PySem.W.kitOne K (.ref C) (.type t) = some b := by
  show (if PySem.W.kitMeta t = true then PySem.W.subIn K (.ref C) (.type t) else none) = _
  rw [if_pos m]; exact h
end Aq
/-! values of all kinds -/
namespace Aq
open PySem L2 Evl
/-- a plain value: a text, None, a bool, an int, a list, a tuple, a dict -/
inductive Kd (H : Hp) : V → Prop
  | str (z : Str) (h : z.length ≤ 1000) : Kd H (.str z)
  | non : Kd H .non
  | bl (b : Bool) : Kd H (.bl b)
  | int (i : Int) : Kd H (.int i)
  | lst {a : Addr} {xs : List V} (h : H a = some (.lst xs)) : Kd H (.ref a)
  | tup {a : Addr} {xs : List V} (h : H a = some (.tup xs)) : Kd H (.ref a)
  | dK {a : Addr} {kvs : List (Key × V)} (h : H a = some (.dK kvs)) : Kd H (.ref a)
theorem Kd.ex {H H' : Hp} {v : V} (k : Kd H v) (e : Ex H H') : Kd H' v := by
  cases k with
  | str z h => exact .str z h
  | non => exact .non
  | bl b => exact .bl b
  | int i => exact .int i
  | lst h => exact .lst (e _ _ h)
  | tup h => exact .tup (e _ _ h)
  | dK h => exact .dK (e _ _ h)
def isStrV : V → Bool
  | .str _ => true
  | _ => false
theorem isStrV_iff {v : V} : isStrV v = true ↔ ∃ z, v = .str z := by
  cases v <;> simp [isStrV]
section
variable {K : PySem.W.Frag} {H : Hp} {v : V} {Q : VK}
theorem rd_isiKd (k : Kd H v) (q : Q (.bl (isStrV v)) H) : rIsi K [v, .ty "str"] H Q := by
  cases k with
  | str z h => exact rd_isiStr q
  | non => exact rd_isi (a := .type "NoneType") (b := .type "str") (r := false) (.ty _) (.base .non) (kit_ty (by decide +kernel)) q
  | bl b => exact rd_isi (a := .type "bool") (b := .type "str") (r := false) (.ty _) (.base (.bl b)) (kit_ty (by decide +kernel)) q
  | int i => exact rd_isi (a := .type "int") (b := .type "str") (r := false) (.ty _) (.base (.int i)) (kit_ty (by decide +kernel)) q
  | lst h => exact rd_isi (a := .type "list") (b := .type "str") (r := false) (.ty _) (.base (.lst h)) (kit_ty (by decide +kernel)) q
  | tup h => exact rd_isi (a := .type "tuple") (b := .type "str") (r := false) (.ty _) (.base (.tup h)) (kit_ty (by decide +kernel)) q
  | dK h => exact rd_isi (a := .type "dict") (b := .type "str") (r := false) (.ty _) (.base (.dK h)) (kit_ty (by decide +kernel)) q
end
/-! readings of calls that may raise -/
section
variable {σ : L2.St} {H : Hp} {Q : VK} {t : TA} {ta : TE} {W : WX} {sp : Sp} {dvs : List V} {C : Addr} {m : Str}
theorem rd_callW (h : t σ H fun vs H1 => sp (vs ++ dvs) H1 Q fun cls d H' => W cls d σ H') : tCallW sp dvs W t σ H Q := h
theorem rd_makeW (h : t σ H fun vs H1 => ∀ x dx, H1 x = none → H1 dx = none → dx ≠ x → sp (.ref x :: (vs ++ dvs)) (upd (upd H1 dx (.own x)) x (.ins C dx [])) (fun v H2 => v = .non ∧ Q (.ref x) H2) fun cls d H' => W cls d σ H') : tMakeW C sp dvs W t σ H Q := h
theorem rd_methW (h : ta σ H fun x H1 => ∃ a dx fs, x = .ref a ∧ H1 a = some (.ins C dx fs) ∧ fs.lookup m = none ∧ t σ H1 fun vs H2 => sp (x :: vs) H2 Q fun cls d H' => W cls d σ H') : tMethW C m sp W ta t σ H Q := h
end
end Aq
/-! isinstance of a caught error that has fields -/
namespace Aq
open PySem PySem.Spec PyProof.Rows L2
/-- isinstance(e, c), e the caught error at a, of the class D, its dict at dd -/
def rIsXd (K : PySem.W.Frag) (D a : Addr) (cls : Value) (d : Option Addr) : List V → Hp → VK → Prop := fun xs H Q => cls = .ref D ∧ ∃ (dd : Addr) (fs : List (Str × V)) (c : V) (cv : Value) (b : Bool), d = some dd ∧ H dd = some (.xd fs) ∧ xs = [.ref a, c] ∧ (∀ u, L2.RelV c u → u = cv) ∧ PySem.W.kitOne K (.ref D) cv = some b ∧ Q (.bl b) H
theorem call_isX {X : Cx} {a D : Addr} {oe : Obj} {cls : Value} {d : Option Addr} {pn : List (Addr × Obj)} (C : ExcC X.K D) (hz : Zc cls d oe) (hf : ∃ vs, oe.data = .fields vs) : CallR (X.suite a ((a, oe) :: pn)) (.builtin "isinstance") (rIsXd X.K D a cls d) := by
  intro pins s σ H xs us Q I r h
  obtain ⟨rfl, dd, fs, c, cv, b, rfl, hd, rfl, hcv, e, q⟩ := h
  obtain ⟨u1, u2, rfl, ra, rb⟩ := r.two
  cases ra
  have := hcv _ rb
  subst this
  have hget := (I.pin (a, oe) (List.mem_append_left _ List.mem_cons_self)).1
  obtain ⟨vs, hv⟩ := hf
  have hx : ObjOk X.prog X.w H s.heap dd (.xd fs) := I.hok dd _ hd
  obtain ⟨mA, hns, _⟩ := hx
  obtain ⟨od, ho, _⟩ := lookIn_ns hns
  have J : PySem.W.InstAt s.heap a oe D (some od) := ⟨hget, hz.1, by unfold PySem.W.notCls; rw [hv] <;> rfl, by rw [hz.2]; exact ho⟩
  have hcl : (PySem.W.clsIn X.K D).isSome = true := by obtain ⟨cd, hc, _⟩ := PySem.W.any_some C.hd; rw [hc]; rfl
  exact PySem.W.kia_one (PySem.W.kitx_exc hcl C.hg C.hk C.hs C.ha C.hn C.ht C.hm) I.kIn J e (fun z => nomatch z) fun tk => ⟨.bl b, H, I.kept (t' := tk) fun _ _ z => z, rfl, q⟩
end Aq
/-! repr of data; defs that are promised only where no repr is under way -/
namespace Aq
open PySem PySem.Spec PyProof.Rows L2 Evl
/-! ### texts of plain signs -/
def As (z : Str) : Prop := ∀ c ∈ z.cps.toList, c < 128
theorem As.so {z : Str} (h : As z) : PyData.strOk z = true := by
  unfold PyData.strOk
  rw [Array.all_eq_true_iff_forall_mem]
  intro c hc
  have := h c (by simpa using hc)
  exact decide_eq_true (by omega)
theorem As.app {x y : Str} (hx : As x) (hy : As y) : As (x ++ y) := by
  intro c hc
  rw [app_cps] at hc
  exact (List.mem_append.mp hc).elim (hx c) (hy c)
theorem As.cut {z : Str} (h : As z) (lo hi : Option Int) : As (cutS z lo hi) := by
  intro c hc
  unfold cutS at hc
  exact h c (List.mem_of_mem_drop (List.mem_of_mem_take hc))
theorem As.one {d : Nat} (h : d < 128) : As ⟨#[d]⟩ := by
  intro c hc
  rw [one_cps, List.mem_singleton] at hc
  omega
theorem As.upper {z : Str} (h : As z) : As (Txt.upper z) := by
  rw [PyProof.Rows.upper_ascii h]
  intro c hc
  have hc : c ∈ (z.cps.map PyProof.Rows.up1).toList := hc
  rw [Array.toList_map] at hc
  obtain ⟨d, hd, rfl⟩ := List.mem_map.mp hc
  have := h d hd
  unfold PyProof.Rows.up1
  split <;> omega
theorem as_of {z : Str} (h : z.cps.toList.all (fun c => decide (c < 128)) = true) : As z := fun c hc => of_decide_eq_true (List.all_eq_true.mp h c hc)
/-! ### the size of a shown value -/
/-- d can be shown, its depth is at most k, its text has at most n signs -/
structure ShN (d : PyData) (k n : Nat) : Prop where
  s : d.showable = true
  h : d.hasDict = false
  dp : d.depth ≤ k
  l : d.shown.length ≤ n
theorem ShN.mono {d : PyData} {k n k' n' : Nat} (z : ShN d k n) (h1 : k ≤ k') (h2 : n ≤ n') : ShN d k' n' := ⟨z.s, z.h, Nat.le_trans z.dp h1, Nat.le_trans z.l h2⟩
theorem sh_none : ShN .none 1 5 := ⟨rfl, rfl, by simp [PyData.depth], by decide +kernel⟩
theorem sh_bool (b : Bool) : ShN (.bool b) 1 5 := ⟨rfl, rfl, by simp [PyData.depth], by cases b <;> decide +kernel⟩
theorem sh_int {i : Int} (h : i.natAbs.log2 < 1000) : ShN (.int i) 1 1001 := by
  refine ⟨?_, rfl, by simp [PyData.depth], ?_⟩
  · simp only [PyData.showable]; exact decide_eq_true (by omega)
  · have hl := int_text_length_le (k := 1000) (by decide) h
    simp only [PyData.shown]
    rw [PySem.ofString_length]; exact hl
theorem sh_str {x : Str} (h : PyData.strOk x = true) : ShN (.str x) 1 (10 * x.length + 2) := by
  refine ⟨rfl, rfl, by simp [PyData.depth], ?_⟩
  simp only [PyData.shown]
  refine StrLaws.reprText_len x fun c hc => ?_
  unfold PyData.strOk at h
  have := Array.all_eq_true_iff_forall_mem.mp h c (by simpa using hc)
  have := of_decide_eq_true this
  omega
inductive ShAll (k n : Nat) : List PyData → Prop
  | nil : ShAll k n []
  | cons {d : PyData} {ds : List PyData} : ShN d k n → ShAll k n ds → ShAll k n (d :: ds)
theorem ShAll.of {k n : Nat} : ∀ {ds : List PyData}, (∀ d ∈ ds, ShN d k n) → ShAll k n ds
  | [], _ => .nil
  | d :: ds, h => .cons (h d (List.mem_cons_self ..)) (ShAll.of fun x hx => h x (List.mem_cons_of_mem _ hx))
theorem ShAll.facts {k n : Nat} : ∀ {ds : List PyData}, ShAll k n ds → PyData.showableAll ds = true ∧ PyData.hasDictAll ds = false ∧ PyData.depthAll ds ≤ k ∧ piled (PyData.shownAll ds) ≤ ds.length * (n + 2)
  | [], _ => ⟨by simp [PyData.showableAll], by simp [PyData.hasDictAll], by simp [PyData.depthAll], by simp [PyData.shownAll, piled_nil]⟩
  | d :: ds, .cons a b => by
    obtain ⟨h1, h2, h3, h4⟩ := b.facts
    refine ⟨by simp [PyData.showableAll, a.s, h1], by simp [PyData.hasDictAll, a.h, h2], ?_, ?_⟩
    · simp only [PyData.depthAll]
      have := a.dp
      omega
    · simp only [PyData.shownAll]
      rw [piled_cons]
      have := a.l
      rw [List.length_cons, Nat.succ_mul]
      omega
theorem listText_le (ts : List Str) : (listText ts).length ≤ piled ts + 2 := by
  unfold listText
  rw [strLen_append]
  have e1 : (("]" : String) : Str).length = 1 := rfl
  cases ts with
  | nil => show ((("[" : String) : Str)).length + _ ≤ _; have : ((("[" : String) : Str)).length = 1 := rfl; rw [e1, this]; omega
  | cons t r =>
    show (textFrom 1 _ r).length + _ ≤ _
    rw [textFrom_length_pos r 1 _ (by decide), strLen_append, strLen_append, e1, piled_cons]
    have h1 : ((("[" : String) : Str)).length = 1 := rfl
    have h2 : (((if (0 : Nat) > 0 then ", " else "" : String)) : Str).length = 0 := rfl
    omega
theorem tupleText_le (ts : List Str) : (tupleText ts).length ≤ piled ts + 3 := by
  unfold tupleText
  rw [strLen_append, strLen_append]
  have e1 : ((("(" : String) : Str)).length = 1 := rfl
  have e3 : (((if ts.length == 1 then ",)" else ")" : String) : Str)).length ≤ 2 := by split <;> decide +kernel
  have : (Str.join (", " : Str) ts).length ≤ piled ts := by
    by_cases h : ts = []
    · subst h; decide +kernel
    · have := join_length_add ts h
      omega
  omega
theorem sh_list {ds : List PyData} {k n m : Nat} (a : ShAll k n ds) (hm : ds.length ≤ m) : ShN (.list ds) (k + 1) (m * (n + 2) + 2) := by
  obtain ⟨h1, h2, h3, h4⟩ := a.facts
  refine ⟨by simp [PyData.showable, h1], by simp [PyData.hasDict, h2], by simp only [PyData.depth]; omega, ?_⟩
  simp only [PyData.shown]
  have := listText_le (PyData.shownAll ds)
  have := Nat.mul_le_mul_right (n + 2) hm
  omega
theorem sh_tuple {ds : List PyData} {k n m : Nat} (a : ShAll k n ds) (hm : ds.length ≤ m) : ShN (.tuple ds) (k + 1) (m * (n + 2) + 3) := by
  obtain ⟨h1, h2, h3, h4⟩ := a.facts
  refine ⟨by simp [PyData.showable, h1], by simp [PyData.hasDict, h2], by simp only [PyData.depth]; omega, ?_⟩
  simp only [PyData.shown]
  have := tupleText_le (PyData.shownAll ds)
  have := Nat.mul_le_mul_right (n + 2) hm
  omega
theorem sh_strs {ws : List Str} {k m : Nat} (so : ∀ x ∈ ws, PyData.strOk x = true) (hl : ∀ x ∈ ws, x.length ≤ k) : ShAll 1 (10 * k + 2) (ws.map PyData.str) := by
  refine .of fun d hd => ?_
  obtain ⟨x, hx, rfl⟩ := List.mem_map.mp hd
  have := hl x hx
  exact (sh_str (so x hx)).mono (Nat.le_refl _) (by omega)
theorem log2_lt {i : Nat} (h : i < 2 ^ 40) : i.log2 < 1000 := by
  by_cases z : i = 0
  · subst z; decide
  · exact (Nat.log2_lt z).mpr (Nat.lt_trans h (Nat.pow_lt_pow_right (by decide) (by decide)))
theorem fmt_nat {i : Nat} (h : i < 2 ^ 40) : Fmt (.int (i : Nat)) := .inr ⟨i, rfl, log2_lt h⟩
/-- raise C(..) -/
theorem rd_mkO {C : Addr} {sp : Sp} {dvs : List V} {ta : TA} {σ : L2.St} {H : Hp} {Q : XK} (h : ta σ H fun vs H1 => vs.length ≤ 1000 ∧ ∀ x, H1 x = none → sp (.ref x :: (vs ++ dvs)) (upd H1 x (exo x C none)) (fun v H2 => v = .non ∧ ∃ (d : Addr) (fs : List (Str × V)), H2 x = some (exo x C (some d)) ∧ H2 d = some (exd d fs) ∧ H1 d = none ∧ Q (.ref C) (some d) (upd (del H2 x) d (.xd fs))) (fun _ _ _ => False)) : tMkO C sp dvs ta σ H Q := h
/-- xs + ys, lists -/
theorem rd_cat {l1 l2 : Addr} {xs ys : List V} {H : Hp} {Q : VK} (h1 : H l1 = some (.lst xs)) (h2 : H l2 = some (.lst ys)) (hl : xs.length + ys.length ≤ 100000) (q : ∀ p H', H p = none → Ex H H' → H' p = some (.lst (xs ++ ys)) → Q (.ref p) H') : rCat (.ref l1) (.ref l2) H Q :=
  ⟨l1, l2, xs, ys, rfl, rfl, h1, h2, Nat.le_trans hl (by decide), rd_new q⟩
/-! ### repr(v) -/
def rRepr (K : PySem.W.Frag) : List V → Hp → VK → Prop := fun xs H Q => ∃ (v : V) (d : PyData), xs = [v] ∧ Dp K H v d ∧ ShN d 40 1000000 ∧ Q (.str d.shown) H
section
variable {X : Cx}
theorem call_reprD (hg : X.A.guards = some []) (hu : X.A.units + 64 < cLine) : CallR X (.builtin "repr") (rRepr X.K) := by
  intro pins s σ H xs us Q I r h
  obtain ⟨v, d, rfl, hd, sh, q⟩ := h
  obtain ⟨u, rfl, ru⟩ := r.one
  obtain ⟨as, rd⟩ := Dp.reads I d v u hd ru
  have sz : d.shown.length ≤ sizeLine := Nat.le_trans sh.l (by decide)
  have dp := sh.dp
  have one : ∀ (h' : Heap) (t tk : Tok), (∀ b o, s.heap.get? b = some o → h'.get? b = some o) → EP X pins σ Q (.str d.shown t) { s with heap := h', toks := tk } := fun h' t tk kp => ⟨.str d.shown, H, I.kept (t' := tk) kp, ⟨t, rfl⟩, q⟩
  have flat : ∀ (t tk : Tok), EP X pins σ Q (.str d.shown t) { s with toks := tk } := fun t tk => one s.heap t tk fun _ _ z => z
  cases hd with
  | non => cases ru; exact P.repr_of_none (flat _ _)
  | bl b => cases ru; exact P.repr_of_bool (flat _ _)
  | int i =>
    obtain ⟨t, rfl⟩ := ru
    refine P.repr_of_int ?_ (flat _ _)
    have := sh.s
    simp only [PyData.showable] at this
    exact of_decide_eq_true this
  | str x => obtain ⟨t, rfl⟩ := ru; exact P.repr_of_str (flat _ _) sz
  | lst _ _ => cases ru; exact repr_of_reads' rd sh.s (PyData.noDict_hsm sh.h) hg (by omega) (fun _ _ z => z) one sz
  | tup _ _ => cases ru; exact repr_of_reads' rd sh.s (PyData.noDict_hsm sh.h) hg (by omega) (fun _ _ z => z) one sz
theorem rd_repr {K : PySem.W.Frag} {H : Hp} {v : V} {d : PyData} {Q : VK} (h : Dp K H v d) (s : ShN d 40 1000000) (q : Q (.str d.shown) H) : rRepr K [v] H Q := ⟨v, d, rfl, h, s, q⟩
end
theorem units65 {k : Nat} {A : Around} (r : Room k A) : A.units + 65 < cLine := by have := r.un; omega
section
variable {X : Cx}
theorem call_reprDK {K : PySem.W.Frag} (hg : X.A.guards = some []) (hu : X.A.units + 64 < cLine) (hK : X.K = K := by rfl) : CallR X (.builtin "repr") (rRepr K) := hK ▸ call_reprD hg hu
theorem op_inDK {K : PySem.W.Frag} (hu : X.A.units + 65 < cLine) (hK : X.K = K := by rfl) : OpR X (compareOp .In) (rInD K) := hK ▸ op_inD hu
theorem op_notInDK {K : PySem.W.Frag} (hu : X.A.units + 65 < cLine) (hK : X.K = K := by rfl) : OpR X (compareOp .NotIn) (rNotInD K) := hK ▸ op_notInD hu
theorem op_eqDK {K : PySem.W.Frag} (hu : X.A.units + 64 < cLine) (hK : X.K = K := by rfl) : OpR X (compareOp .Eq) (rEqD K) := hK ▸ op_eqD hu
theorem op_neDK {K : PySem.W.Frag} (hu : X.A.units + 64 < cLine) (hK : X.K = K := by rfl) : OpR X (compareOp .NotEq) (rNeD K) := hK ▸ op_neD hu
end
/-! ### defs promised where no repr is under way -/
structure FnOkG (P : Program) (w : World) (K : PySem.W.Frag) (mg : Str → Option Value) (base : Heap) (CX : CXT) (k : Nat) (f : Addr) (fd : FuncData) (ps : List Str) (sp : Sp) : Prop where
  len : ∀ vs H Q E, sp vs H Q E → vs.length = ps.length
  run : ∀ (A : Around) (outer : List Env) (s : Shared) (H : Hp) (args : Args) (us : List Value) (vs : List V) (Q : VK) (E : XK), A.guards = some [] → Room k A → Env0 P w K mg base A outer s H → BindsTo s fd args (ps.zip us) → Vals vs us → sp vs H Q E →
    codeAny (model P w) A (.call (.ref f) args) (CR CX outer P w H s Q E) s
section
variable {P : Program} {w : World} {K : PySem.W.Frag} {mg : Str → Option Value} {base : Heap} {CX : CXT} {k : Nat} {f : Addr} {fd : FuncData} {ps : List Str} {sp : Sp}
theorem fnG (F : FnOk P w K mg base CX k f fd ps sp) : FnOkG P w K mg base CX k f fd ps sp := ⟨F.len, fun A outer s H args us vs Q E _ => F.run A outer s H args us vs Q E⟩
theorem okG {x qual : Str} {st : Stmt} {N : List Str} (F : Fun K x qual st f fd) (S : FnScope N ps (defScope st)) (len : ∀ vs H Q E, sp vs H Q E → vs.length = ps.length)
    (body : ∀ (cdv : Value) (A : Around) (outer : List Env) (s : Shared) (H : Hp) (vs : List V) (Q : VK) (E : XK), (A.deeper (envOfC qual (defScope st) s.heap.objs.size f cdv)).guards = some [] → Room k (A.deeper (envOfC qual (defScope st) s.heap.objs.size f cdv)) → sp vs H Q E →
      ∃ t, PSs (cxOf CX P w K mg base N qual (defScope st) f cdv A outer s H E) (defBody st) t ∧ t { nx := fun _ H' => Q .non H', rt := Q } (start N vs) H) : FnOkG P w K mg base CX (k + 1) f fd ps sp := by
  obtain ⟨c0, c1, c2, c3, c4, c5, cdv, c7, c8, rfl, lk, code⟩ := F.ex
  constructor
  · exact len
  intro A outer s H args us vs Q E gd room e0 bind rel hs
  have old : ∀ b o, base.get? b = some o → s.heap.get? b = some o := fun b o z => (e0.bs b o z).1
  have kin : K.In s.heap := e0.mod.kin.keeps old
  have kinds : ∀ y ∈ ps.zip us, (defScope st).names.lookup y.1 = some .local ∨ ((defScope st).names.lookup y.1 = some .cell ∧ ((cellsFrom (s.heap.objs.size + 1) (defScope st).names []).lookup y.1).isSome = true) := by
    rintro ⟨n, v⟩ hy
    exact (S.par n (List.of_mem_zip hy).1).imp id fun z => ⟨z, PySem.W.cellsFrom_some _ _ _ (.inl z)⟩
  obtain ⟨t, ht, hq⟩ := body cdv A outer s H vs Q E gd (room.deeper _) hs
  refine codeAny_call_function room.depth (kin _ _ lk) rfl S.co S.gen rfl (PySem.W.codeRec_of kin code) (bind _ _ _ _ (wpAny_newFunctionEnv_cells S.kind kinds ?_))
  intro env he s1 inn
  cases he
  refine ⟨(e0.mod.nolimit.keeps old).keeps inn.toInCall.keep, codeAny_func (wpAny_mono (ht.run [] s1 _ H _ (inv_start S room.hd e0 (len _ _ _ _ hs) rel inn) hq) ?_ fun e s' z => z)⟩
  intro fl s' z
  cases fl with
  | ret u => obtain ⟨v, _, H', J, rv, q⟩ := z; exact ⟨v, H', J.os, J.bare, J.base, J.hok, rv, q⟩
  | next => obtain ⟨_, H', J, q⟩ := z; exact ⟨.non, H', J.os, J.bare, J.base, J.hok, rfl, q⟩
  | brk => obtain ⟨_, _, _, q⟩ := z; exact q.elim
  | cont => obtain ⟨_, _, _, q⟩ := z; exact q.elim
/-- the same for a def that lets nothing out -/
theorem okG0 {x qual : Str} {st : Stmt} {N : List Str} (F : Fun K x qual st f fd) (S : FnScope N ps (defScope st)) (len : ∀ vs H Q E, sp vs H Q E → vs.length = ps.length)
    (body : ∀ (cdv : Value) (A : Around) (outer : List Env) (s : Shared) (H : Hp) (vs : List V) (Q : VK) (E : XK), (A.deeper (envOfC qual (defScope st) s.heap.objs.size f cdv)).guards = some [] → Room k (A.deeper (envOfC qual (defScope st) s.heap.objs.size f cdv)) → sp vs H Q E →
      ∃ t, PSs (cxOf CX0 P w K mg base N qual (defScope st) f cdv A outer s H E).nox (defBody st) t ∧ t { nx := fun _ H' => Q .non H', rt := Q } (start N vs) H) : FnOkG P w K mg base CX0 (k + 1) f fd ps sp :=
  okG F S len fun cdv A outer s H vs Q E gd hr hs => let ⟨t, h, q⟩ := body cdv A outer s H vs Q E gd hr hs; ⟨t, h.nox, q⟩
end
/-- a def in one word -/
structure CalG (P : Program) (w : World) (K : PySem.W.Frag) (mg : Str → Option Value) (base : Heap) (k : Nat) (x : Str) (ps : List Str) (sp : Sp) : Prop where
  ex : ∃ (f : Addr) (fd : FuncData), FnOkG P w K mg base CX0 k f fd ps sp ∧ mg x = some (.ref f) ∧ PySem.W.keepIn K (.ref f) = true ∧ Binds K fd ps []
section
variable {X : Cx} {k j : Nat} {x : Str} {ps : List Str} {sp : Sp} {e : Expr} {es : List Expr} {t : TA} {p pos : Pos}
theorem pe_callG (gd : X.A.guards = some []) (c : CalG X.prog X.w X.K X.mg X.base k x ps sp) (hr : Room j X.A) (ha : PA X (e :: es) t) (hk : k ≤ j := by decide) (hg : Gl X x := by rfl) (hdb : (x == ("__debug__" : Str)) = false := by decide)
    (he : starEach (e :: es) X.env = (false, eval e X.env) :: starEach es X.env := by rfl) (hpl : (backTo pos (starEach es X.env)).any (·.1) = false := by rfl) : PE X (.Call (.Name x p) (e :: es) [] pos) (tCall sp [] E0 t) := by
  obtain ⟨f, fd, F, hm, kp, b⟩ := c.ex
  refine ⟨fun pins s σ H Q I h => wpAny_Call_Name_kw (ld_glob I hg hm (PySem.W.callWith_K (h₀ := X.base) I.ok.mod.kin kp (thn (ha.run pos pins s σ H _ I h) fun us s1 ⟨vs, H1, I1, r, q⟩ => ⟨I1.kIn, ?_⟩) he hpl) hdb)⟩
  have q : sp vs H1 Q E0 := by have z : sp (vs ++ []) H1 Q E0 := q; rw [List.append_nil] at z; exact z
  have hl := r.length.symm.trans (F.len _ _ _ _ q)
  have hb := b s1 us I1.kIn (by simpa using hl)
  rw [List.append_nil] at hb
  refine wpAny_call (codeAny_mono (F.run X.A X.stack s1 H1 ⟨us, []⟩ us vs Q E0 gd (hr.mono hk) I1.env0 hb r q) fun out s' hq => ?_)
  match out, hq with
  | .error e, hq => exact pass0 pins σ H1 s1 e s' I1 hq
  | .ok (.ret u), hq => exact I1.after hq
  | .ok .next, hq => exact hq.elim
  | .ok .brk, hq => exact hq.elim
  | .ok .cont, hq => exact hq.elim
end
/-! ### the end of a law whose def is promised so -/
theorem endG {P : Program} {w : World} {K : PySem.W.Frag} {mg mb : Str → Option Value} {k : Nat} {fa a : Addr} {fd : FuncData} {x : Str} {sp : Sp} {s1 : Shared} {vs : List Value} {ns : List Int}
    (KX : K.In s1.heap) (hns : s1.heap.Ns mainGlobals mg) (hb : s1.heap.Ns builtinsNs mb) (hbb : ∀ x : Str, x ≠ "__name__" → mb x = bootBuiltins x) (hlim : s1.heap.NoLimit) (hg : s1.gens = #[])
    (ha : s1.heap.get? a = some { cls := .type "list", data := .seq vs.toArray }) (hi : IntsAre vs ns) (hl : ns.length ≤ sizeLine) (hr : Room k callerA)
    (F : ∀ base : Heap, K.In base → base.Ns mainGlobals mg → FnOkG P w K mg base CX0 k fa fd [x] sp) (hbind : ∀ (s : Shared) (u : Value), BindsTo s fd ⟨[u], []⟩ [(x, u)])
    (hsp : ∀ H : Hp, Only H → SqL K H a (ns.map V.int) → sp [.ref a] H (fun v _ => v = .bl true) fun _ _ _ => False) :
    codeAny (model P w) callerA (.call (.ref fa) ⟨[.ref a], []⟩) (fun r s' => r = .ok (.ret (.bool true)) ∧ OldK s1.heap s'.heap ∧ s'.os = s1.os ∧ AllBare s'.gens) s1 := by
  have rel := vals_ints hi
  have big : (ns.map V.int).length ≤ sizeLine := by rw [List.length_map]; exact hl
  obtain ⟨H, only, sq, hok, isA, notK⟩ : ∃ H : Hp, Only H ∧ SqL K H a (ns.map V.int) ∧ HOk P w H s1.heap ∧ (∀ b, H b ≠ none → b = a) ∧ (H a ≠ none → K.lookup a = none) := by
    cases hk : K.lookup a with
    | some o =>
      have e := KX a o hk
      rw [ha] at e
      cases e
      exact ⟨fun _ => none, fun _ => .inl rfl, .inr ⟨_, vs.toArray, _, hk, rfl, rfl, rfl, by rw [List.size_toArray, hi.length]; exact hl, by simpa using rel⟩, (fun b u (z : (none : Option HO) = some u) => nomatch z), fun b z => absurd rfl z, fun z => absurd rfl z⟩
    | none =>
      refine ⟨fun b => if b = a then some (.frz { cls := .type "list", data := .seq vs.toArray } (.lst (ns.map V.int))) else none, fun b => ?_, .inl (.inr ⟨_, if_pos rfl⟩), fun b u z => ?_, fun b z => ?_, fun _ => rfl⟩
      · exact (Classical.em (b = a)).elim (fun e => .inr ⟨_, _, if_pos e⟩) fun e => .inl (if_neg e)
      · by_cases e : b = a
        · cases (if_pos e).symm.trans z; subst e; exact ⟨ha, big, vs, _, rel, ha⟩
        · cases (if_neg e).symm.trans z
      · exact Classical.byContradiction fun e => z (if_neg e)
  have hid : ∀ {b : Addr} {m : Str → Option Value}, s1.heap.Ns b m → (hidT s1.heap H).Ns b m := by
    rintro b m ⟨o, es, ep, e, d, r⟩
    refine ⟨o, es, ep, hidT_get e ?_, d, r⟩
    cases q : H b with
    | none => rfl
    | some u =>
      have eb := isA b (by rw [q]; exact nofun)
      rw [eb, ha] at e
      cases e
      cases d
  have kin : K.In (hidT s1.heap H) := by
    intro b o e
    refine hidT_get (KX b o e) ?_
    cases q : H b with
    | none => rfl
    | some u =>
      have eb := isA b (by rw [q]; exact nofun)
      subst eb
      rw [notK (by rw [q]; exact nofun)] at e
      cases e
  have mod : Mod K mg (hidT s1.heap H) := ⟨kin, hid hns, ⟨mb, hid hb, hbb⟩, let ⟨mc, q1, q2⟩ := hlim; ⟨mc, hid q1, q2⟩⟩
  have e0 : Env0 P w K mg (hidT s1.heap H) callerA [] s1 H := ⟨rfl, mod, fun b o e => of_hidT e, Nat.le_of_eq (hidT_size _ _), trivial, nofun, hok, .of_eq hg⟩
  refine codeAny_mono ((F _ kin (hid hns)).run callerA [] s1 H _ [.ref a] [.ref a] _ _ rfl hr e0 (hbind s1 (.ref a)) (.cons rfl .nil) (hsp H only sq)) fun out s' z => ?_
  match out, z with
  | .error e, z => exact z.elim
  | .ok .next, z => exact z.elim
  | .ok .brk, z => exact z.elim
  | .ok .cont, z => exact z.elim
  | .ok (.ret u), ⟨v, H', os, bare, un, hok', rv, (q : v = .bl true)⟩ =>
    subst q
    cases rv
    refine ⟨rfl, OldK.of_keep fun b o e => ?_, os, bare⟩
    rcases only b with hn | ⟨ob, xs, hn⟩
    · exact un.keep b o e hn nofun nofun
    · have st := un.frzs b ob _ hn
      obtain ⟨e1, _⟩ := hok b _ hn
      obtain ⟨e2, _⟩ := hok' b _ st
      rw [e] at e1
      cases e1
      exact e2
theorem walkG {l : PySem.W.OpenLaw} {n k : Nat} {q : Program} {loose : List Str} {XP : (Str → Option Value) → Heap → Prop} {YP : World → Heap → Prop} {d : DefRec} {K : Params → PySem.W.Frag} {sp : PySem.W.Frag → Sp} {x : Str}
    (hn : l.most = some n) (hn2 : n ≤ sizeLine) (hdf : d.params.defaults = []) (hr : Room k callerA) (hY : ∀ (w : World) (h : Heap), YP w h → (K w.params).In h)
    (F : ∀ (w : World) (mg : Str → Option Value) (fa : Addr) (h : Heap), (K w.params).In h → h.Ns mainGlobals mg → mg d.name = some (.ref fa) →
      ∃ fd : FuncData, (∀ (s : Shared) (u : Value), BindsTo s fd ⟨[u], []⟩ [(x, u)]) ∧ ∀ base : Heap, (K w.params).In base → base.Ns mainGlobals mg → FnOkG l.prog w (K w.params) mg base CX0 k fa fd [x] (sp (K w.params)))
    (hsp : ∀ (K : PySem.W.Frag) (H : Hp) (a : Addr) (ns : List Int), ns.length ≤ n → Only H → SqL K H a (ns.map V.int) → sp K [.ref a] H (fun v _ => v = .bl true) fun _ _ _ => False) :
    PySem.W.WalkO q loose XP YP l.row.toRowW d [] (fun f vs => PySem.call f vs) :=
  Att.attach_call hn hdf fun w _ _ mg _ fa _ _ _ _ _ _ _ G Y _ _ _ hmg hobj hints hlen hg =>
    let ⟨_, hb, hF⟩ := F w mg fa _ (hY w _ Y) G.T.g hmg
    endG (hY w _ Y) G.T.g G.T.b G.T.builtins G.T.nolimit hg hobj hints (Nat.le_trans hlen hn2) hr hF hb fun H hO hS => hsp (K w.params) H _ _ hlen hO hS
end Aq
/-! own methods called by built-ins: len -/
namespace Aq
open PySem PySem.Spec PyProof.Rows L2 Evl
theorem rd_bm0 {K : PySem.W.Frag} {T : String} {r : V → List V → Hp → VK → Prop} {ta : TE} {σ : L2.St} {H : Hp} {Q : VK} (h : ta σ H fun x H1 => tyV K T x H1 ∧ r x [] H1 Q) : tBM0 K T r ta σ H Q := h
theorem rd_revL {K : PySem.W.Frag} {ta : TE} {σ : L2.St} {H : Hp} {Q : VK} (h : ta σ H fun x H1 => ∃ a xs, x = .ref a ∧ SqL K H1 a xs ∧ ∀ p, H1 p = none → Q (.ref p) (upd H1 p (.lst xs.reverse))) : tRevL K ta σ H Q := h
section
variable {X : Cx} {k j : Nat} {C : Addr} {ps : List Str} {sp : Sp}
/-- an own def called one unit deeper -/
theorem run_in1 {pins : List (Addr × Obj)} {σ : L2.St} {H : Hp} {s : Shared} {Q : VK} {f : Addr} {fd : FuncData} {us : List Value} {vs : List V} (F : FnOk X.prog X.w X.K X.mg X.base CX0 k f fd ps sp) (hr : Room (k + 1) X.A) (b : Binds X.K fd ps [])
    (I : Inv X pins σ H s) (r : Vals vs us) (h : sp vs H Q E0) : wpAny (model X.prog X.w) X.A.in1 (call (.ref f) us) (fun v s' => EP X pins σ Q v s') X.xe s := by
  have e := I.env0
  have e0 : Env0 X.prog X.w X.K X.mg X.base X.A.in1 X.stack s H := ⟨e.frames, e.mod, e.bs, e.bsz, e.funs, e.frf, e.hok, e.bare⟩
  have hl := r.length.symm.trans (F.len _ _ _ _ h)
  have hb := b s us I.kIn (by simpa using hl)
  rw [List.append_nil] at hb
  refine wpAny_call (codeAny_mono (F.run X.A.in1 X.stack s H ⟨us, []⟩ us vs Q E0 hr.in1 e0 hb r h) fun out s' hq => ?_)
  match out, hq with
  | .error e, hq => exact pass0 pins σ H s e s' I hq
  | .ok (.ret u), hq => exact I.after hq
  | .ok .next, hq => exact hq.elim
  | .ok .brk, hq => exact hq.elim
  | .ok .cont, hq => exact hq.elim
def rLenOwn (C : Addr) (sp : Sp) : List V → Hp → VK → Prop := fun xs H Q => ∃ a dx fs, xs = [.ref a] ∧ H a = some (.ins C dx fs) ∧ sp [.ref a] H (fun v H' => ∃ n : Nat, v = .int (n : Nat) ∧ n < 2 ^ 60 ∧ Q (.int (n : Nat)) H') E0
theorem call_lenOwn (c : Mth X.prog X.w X.K X.mg X.base k C "__len__" ps sp) (hr : Room j X.A) (hk : k + 1 ≤ j := by decide) : CallR X (.builtin "len") (rLenOwn C sp) := by
  intro pins s σ H xs us Q I r h
  obtain ⟨f, fd, M, F, b⟩ := c.ex
  obtain ⟨a, dx, fs, rfl, ha, h⟩ := h
  obtain ⟨u, rfl, ru⟩ := r.one
  cases ru
  obtain ⟨mA, J, _⟩ := ins_get I.hok ha
  obtain ⟨od, J, _⟩ := J.look
  obtain ⟨m, hF⟩ := I.fr
  refine PySem.W.len_K hF I.ok.mod.kin J M.at_ M.fn (wpAny_mono (run_in1 F (hr.mono hk) b I (show Vals [V.ref a] [Value.ref a] from .cons rfl .nil) h) (fun v s' z => ?_) fun _ _ e => e)
  obtain ⟨x, H', I', rx, n, rfl, hn, q⟩ := z
  obtain ⟨t, rfl⟩ := rx
  exact ⟨⟨by omega, by omega⟩, .int (n : Nat), H', I'.tok _, ⟨_, rfl⟩, q⟩
end
end Aq
namespace K01
open PySem L2 Aq Evl
def top (i : Nat) : Stmt := PySem.Challenge.pw_asksmore_k01_letters_kept.main.body.getD i (.Pass ⟨0, 0, 0, 0⟩)
abbrev s_is_word : Stmt := top 10
abbrev N_is_word : List Str := ["value", "sign"]
theorem sc_is_word : FnScope N_is_word ["value"] (defScope s_is_word) := ⟨rfl, rfl, rfl, by decide +kernel, rfl, by decide +kernel, by decide +kernel⟩
abbrev s_is_beginning : Stmt := top 11
abbrev N_is_beginning : List Str := ["value"]
theorem sc_is_beginning : FnScope N_is_beginning ["value"] (defScope s_is_beginning) := ⟨rfl, rfl, rfl, by decide +kernel, rfl, by decide +kernel, by decide +kernel⟩
abbrev s_is_letter : Stmt := top 12
abbrev N_is_letter : List Str := ["value", "word"]
theorem sc_is_letter : FnScope N_is_letter ["value"] (defScope s_is_letter) := ⟨rfl, rfl, rfl, by decide +kernel, rfl, by decide +kernel, by decide +kernel⟩
abbrev s_Letters___init__ : Stmt := inClass (top 13) 0
abbrev N_Letters___init__ : List Str := ["self", "words", "index", "word"]
theorem sc_Letters___init__ : FnScope N_Letters___init__ ["self", "words"] (defScope s_Letters___init__) := ⟨rfl, rfl, rfl, by decide +kernel, rfl, by decide +kernel, by decide +kernel⟩
abbrev s_Letters___contains__ : Stmt := inClass (top 13) 2
abbrev N_Letters___contains__ : List Str := ["self", "x"]
theorem sc_Letters___contains__ : FnScope N_Letters___contains__ ["self", "x"] (defScope s_Letters___contains__) := ⟨rfl, rfl, rfl, by decide +kernel, rfl, by decide +kernel, by decide +kernel⟩
abbrev s_Letters_rank : Stmt := inClass (top 13) 1
abbrev N_Letters_rank : List Str := ["self", "x"]
theorem sc_Letters_rank : FnScope N_Letters_rank ["self", "x"] (defScope s_Letters_rank) := ⟨rfl, rfl, rfl, by decide +kernel, rfl, by decide +kernel, by decide +kernel⟩
abbrev s_Letters___len__ : Stmt := inClass (top 13) 3
abbrev N_Letters___len__ : List Str := ["self"]
theorem sc_Letters___len__ : FnScope N_Letters___len__ ["self"] (defScope s_Letters___len__) := ⟨rfl, rfl, rfl, by decide +kernel, rfl, by decide +kernel, by decide +kernel⟩
abbrev s_Letters___eq__ : Stmt := inClass (top 13) 5
abbrev N_Letters___eq__ : List Str := ["self", "other"]
theorem sc_Letters___eq__ : FnScope N_Letters___eq__ ["self", "other"] (defScope s_Letters___eq__) := ⟨rfl, rfl, rfl, by decide +kernel, rfl, by decide +kernel, by decide +kernel⟩
abbrev s__law_pen : Stmt := top 15
abbrev N__law_pen : List Str := ["_law_script"]
theorem sc__law_pen : FnScope N__law_pen ["_law_script"] (defScope s__law_pen) := ⟨rfl, rfl, rfl, by decide +kernel, rfl, by decide +kernel, by decide +kernel⟩
abbrev s__law_draw : Stmt := top 16
abbrev N__law_draw : List Str := ["_law_pen_here", "_law_many", "_law_told", "_law_blend", "_law_digit", "_law_place", "_law_size"]
theorem sc__law_draw : FnScope N__law_draw ["_law_pen_here", "_law_many"] (defScope s__law_draw) := ⟨rfl, rfl, rfl, by decide +kernel, rfl, by decide +kernel, by decide +kernel⟩
abbrev s__law_pick : Stmt := top 17
abbrev N__law_pick : List Str := ["_law_pen_here", "_law_options"]
theorem sc__law_pick : FnScope N__law_pick ["_law_pen_here", "_law_options"] (defScope s__law_pick) := ⟨rfl, rfl, rfl, by decide +kernel, rfl, by decide +kernel, by decide +kernel⟩
abbrev s__law_letters : Stmt := top 18
abbrev N__law_letters : List Str := ["_law_pen_here", "_law_many", "_law_stem", "_law_choice", "_law_k", "_law_small", "_law_signs", "_law_at", "_law_front", "_law_step", "_law_tail", "_law_found", "_law_sign", "_law_word"]
theorem sc__law_letters : FnScope N__law_letters ["_law_pen_here", "_law_many"] (defScope s__law_letters) := ⟨rfl, rfl, rfl, by decide +kernel, rfl, by decide +kernel, by decide +kernel⟩
abbrev s__law_odd : Stmt := top 19
abbrev N__law_odd : List Str := ["_law_pen_here", "_law_letters_here", "_law_one", "_law_longer", "_law_odd_here", "_law_some", "_law_value"]
theorem sc__law_odd : FnScope N__law_odd ["_law_pen_here", "_law_letters_here"] (defScope s__law_odd) := ⟨rfl, rfl, rfl, by decide +kernel, rfl, by decide +kernel, by decide +kernel⟩
abbrev s__law_no_rank : Stmt := top 20
abbrev N__law_no_rank : List Str := ["_law_made", "_law_value", "e"]
theorem sc__law_no_rank : FnScope N__law_no_rank ["_law_made", "_law_value"] (defScope s__law_no_rank) := ⟨rfl, rfl, rfl, by decide +kernel, rfl, by decide +kernel, by decide +kernel⟩
abbrev s_law : Stmt := top 21
abbrev N_law : List Str := ["_law_script", "_law_pen_here", "_law_turn", "_law_listed", "_law_given", "_law_again", "_law_other", "_law_exchanged", "_law_made", "_law_twin", "_law_odd_here", "_law_k", "_law_some"]
theorem sc_law : FnScope N_law ["_law_script"] (defScope s_law) := ⟨rfl, rfl, rfl, by decide +kernel, rfl, by decide +kernel, by decide +kernel⟩
abbrev s_BadLetters___init__ : Stmt := inClass (top 2) 0
abbrev N_BadLetters___init__ : List Str := ["self", "index", "__class__"]
theorem sc_BadLetters___init__ : NdefX.NScope N_BadLetters___init__ ["self", "index"] ["__class__"] (defScope s_BadLetters___init__) := NdefX.nscope_by (by decide +kernel)
abbrev F_BadLetters (cc c : Addr) : NdefX.NF := ⟨"__init__", "BadLetters.__init__", defArgs s_BadLetters___init__, defBody s_BadLetters___init__, defScope s_BadLetters___init__, [("__class__", cc)], c⟩
abbrev s_BadLetter___init__ : Stmt := inClass (top 3) 0
abbrev N_BadLetter___init__ : List Str := ["self", "index", "__class__"]
theorem sc_BadLetter___init__ : NdefX.NScope N_BadLetter___init__ ["self", "index"] ["__class__"] (defScope s_BadLetter___init__) := NdefX.nscope_by (by decide +kernel)
abbrev F_BadLetter (cc c : Addr) : NdefX.NF := ⟨"__init__", "BadLetter.__init__", defArgs s_BadLetter___init__, defBody s_BadLetter___init__, defScope s_BadLetter___init__, [("__class__", cc)], c⟩
abbrev s_TooMany___init__ : Stmt := inClass (top 4) 0
abbrev N_TooMany___init__ : List Str := ["self", "what", "many", "most", "__class__"]
theorem sc_TooMany___init__ : NdefX.NScope N_TooMany___init__ ["self", "what", "many", "most"] ["__class__"] (defScope s_TooMany___init__) := NdefX.nscope_by (by decide +kernel)
abbrev F_TooMany (cc c : Addr) : NdefX.NF := ⟨"__init__", "TooMany.__init__", defArgs s_TooMany___init__, defBody s_TooMany___init__, defScope s_TooMany___init__, [("__class__", cc)], c⟩
structure Ad where
  Letters : Addr
  BadLetters : Addr
  f_BadLetters___init__ : Addr
  BadLetter : Addr
  f_BadLetter___init__ : Addr
  TooMany : Addr
  f_TooMany___init__ : Addr
  MOST_LETTERS : Tok
  BEGINNINGS : Addr
  SMALL : Tok
  SIGNS : Tok
  f_is_word : Addr
  f_is_beginning : Addr
  f_is_letter : Addr
  f_Letters___init__ : Addr
  f_Letters___contains__ : Addr
  f_Letters_rank : Addr
  f_Letters___len__ : Addr
  f_Letters___eq__ : Addr
  f__law_pen : Addr
  f__law_draw : Addr
  f__law_pick : Addr
  f__law_letters : Addr
  f__law_odd : Addr
  f__law_no_rank : Addr
  f_law : Addr
structure Txt (P : Program) (K : PySem.W.Frag) (mg : Str → Option Value) (a : Ad) : Prop where
  n_ValueError : mg "ValueError" = none
  n_abs : mg "abs" = none
  n_all : mg "all" = none
  n_bool : mg "bool" = none
  n_enumerate : mg "enumerate" = none
  n_int : mg "int" = none
  n_isinstance : mg "isinstance" = none
  n_len : mg "len" = none
  n_list : mg "list" = none
  n_min : mg "min" = none
  n_range : mg "range" = none
  n_repr : mg "repr" = none
  n_str : mg "str" = none
  n_tuple : mg "tuple" = none
  g_MOST_LETTERS : mg "MOST_LETTERS" = some (.int 12 a.MOST_LETTERS)
  g_BEGINNINGS : mg "BEGINNINGS" = some (.ref a.BEGINNINGS)
  k_BEGINNINGS : ∀ H, SqT K H a.BEGINNINGS [.str "new", .str "found"]
  g_SMALL : mg "SMALL" = some (.str "abcdefghijklmnopqrstuvwxyz" a.SMALL)
  g_SIGNS : mg "SIGNS" = some (.str "abcdefghijklmnopqrstuvwxyz0123456789" a.SIGNS)
  g_Letters : mg "Letters" = some (.ref a.Letters)
  cl_Letters : Cls K a.Letters
  na_Letters_words : NoAttr K a.Letters "words"
  ne_Letters : NeC K a.Letters
  isi_Letters : IsiC K a.Letters
  mk_Letters : Mk K a.Letters a.f_Letters___init__
  g_BadLetters : mg "BadLetters" = some (.ref a.BadLetters)
  ex_BadLetters : ExmC K a.BadLetters
  em_BadLetters_BadLetters : PySem.W.exmOne K (.ref a.BadLetters) (.ref a.BadLetters) = some true
  em_BadLetter_BadLetters : PySem.W.exmOne K (.ref a.BadLetter) (.ref a.BadLetters) = some false
  em_TooMany_BadLetters : PySem.W.exmOne K (.ref a.TooMany) (.ref a.BadLetters) = some false
  xf_BadLetters : XfC K a.BadLetters
  xe_BadLetters : ExcC K a.BadLetters
  na_BadLetters_index : NoAttr K a.BadLetters "index"
  xi_BadLetters : ∃ cc c doc pm ctv, XI P K mg (F_BadLetters cc c) a.f_BadLetters___init__ a.BadLetters "self" doc pm ctv ∧ Binds K ((F_BadLetters cc c).fd doc pm ctv) ["self", "index"] []
  kv_BadLetters : PySem.W.kitOne K (.ref a.BadLetters) (.type "ValueError") = some true
  in_BadLetters : PySem.W.findIn K (.ref a.BadLetters) "__init__" = some (some (.ref a.f_BadLetters___init__))
  ty_BadLetters : PySem.W.typeIn K (.ref a.f_BadLetters___init__) = some (.type "function")
  g_BadLetter : mg "BadLetter" = some (.ref a.BadLetter)
  ex_BadLetter : ExmC K a.BadLetter
  em_BadLetters_BadLetter : PySem.W.exmOne K (.ref a.BadLetters) (.ref a.BadLetter) = some false
  em_BadLetter_BadLetter : PySem.W.exmOne K (.ref a.BadLetter) (.ref a.BadLetter) = some true
  em_TooMany_BadLetter : PySem.W.exmOne K (.ref a.TooMany) (.ref a.BadLetter) = some false
  xf_BadLetter : XfC K a.BadLetter
  xe_BadLetter : ExcC K a.BadLetter
  na_BadLetter_index : NoAttr K a.BadLetter "index"
  xi_BadLetter : ∃ cc c doc pm ctv, XI P K mg (F_BadLetter cc c) a.f_BadLetter___init__ a.BadLetter "self" doc pm ctv ∧ Binds K ((F_BadLetter cc c).fd doc pm ctv) ["self", "index"] []
  kv_BadLetter : PySem.W.kitOne K (.ref a.BadLetter) (.type "ValueError") = some true
  in_BadLetter : PySem.W.findIn K (.ref a.BadLetter) "__init__" = some (some (.ref a.f_BadLetter___init__))
  ty_BadLetter : PySem.W.typeIn K (.ref a.f_BadLetter___init__) = some (.type "function")
  g_TooMany : mg "TooMany" = some (.ref a.TooMany)
  ex_TooMany : ExmC K a.TooMany
  em_BadLetters_TooMany : PySem.W.exmOne K (.ref a.BadLetters) (.ref a.TooMany) = some false
  em_BadLetter_TooMany : PySem.W.exmOne K (.ref a.BadLetter) (.ref a.TooMany) = some false
  em_TooMany_TooMany : PySem.W.exmOne K (.ref a.TooMany) (.ref a.TooMany) = some true
  xf_TooMany : XfC K a.TooMany
  xe_TooMany : ExcC K a.TooMany
  na_TooMany_what : NoAttr K a.TooMany "what"
  na_TooMany_many : NoAttr K a.TooMany "many"
  na_TooMany_most : NoAttr K a.TooMany "most"
  xi_TooMany : ∃ cc c doc pm ctv, XI P K mg (F_TooMany cc c) a.f_TooMany___init__ a.TooMany "self" doc pm ctv ∧ Binds K ((F_TooMany cc c).fd doc pm ctv) ["self", "what", "many", "most"] []
  kv_TooMany : PySem.W.kitOne K (.ref a.TooMany) (.type "ValueError") = some true
  in_TooMany : PySem.W.findIn K (.ref a.TooMany) "__init__" = some (some (.ref a.f_TooMany___init__))
  ty_TooMany : PySem.W.typeIn K (.ref a.f_TooMany___init__) = some (.type "function")
  F_is_word : ∃ fd, Fun K "is_word" "is_word" s_is_word a.f_is_word fd ∧ Binds K fd ["value"] []
  g_is_word : mg "is_word" = some (.ref a.f_is_word)
  F_is_beginning : ∃ fd, Fun K "is_beginning" "is_beginning" s_is_beginning a.f_is_beginning fd ∧ Binds K fd ["value"] []
  g_is_beginning : mg "is_beginning" = some (.ref a.f_is_beginning)
  F_is_letter : ∃ fd, Fun K "is_letter" "is_letter" s_is_letter a.f_is_letter fd ∧ Binds K fd ["value"] []
  g_is_letter : mg "is_letter" = some (.ref a.f_is_letter)
  F_Letters___init__ : ∃ fd, Fun K "__init__" "Letters.__init__" s_Letters___init__ a.f_Letters___init__ fd ∧ Binds K fd ["self", "words"] []
  F_Letters___contains__ : ∃ fd, Fun K "__contains__" "Letters.__contains__" s_Letters___contains__ a.f_Letters___contains__ fd ∧ Binds K fd ["self", "x"] []
  m_Letters___contains__ : Meth K a.Letters "__contains__" a.f_Letters___contains__
  F_Letters_rank : ∃ fd, Fun K "rank" "Letters.rank" s_Letters_rank a.f_Letters_rank fd ∧ Binds K fd ["self", "x"] []
  m_Letters_rank : Meth K a.Letters "rank" a.f_Letters_rank
  F_Letters___len__ : ∃ fd, Fun K "__len__" "Letters.__len__" s_Letters___len__ a.f_Letters___len__ fd ∧ Binds K fd ["self"] []
  m_Letters___len__ : Meth K a.Letters "__len__" a.f_Letters___len__
  F_Letters___eq__ : ∃ fd, Fun K "__eq__" "Letters.__eq__" s_Letters___eq__ a.f_Letters___eq__ fd ∧ Binds K fd ["self", "other"] []
  m_Letters___eq__ : Meth K a.Letters "__eq__" a.f_Letters___eq__
  F__law_pen : ∃ fd, Fun K "_law_pen" "_law_pen" s__law_pen a.f__law_pen fd ∧ Binds K fd ["_law_script"] []
  g__law_pen : mg "_law_pen" = some (.ref a.f__law_pen)
  F__law_draw : ∃ fd, Fun K "_law_draw" "_law_draw" s__law_draw a.f__law_draw fd ∧ Binds K fd ["_law_pen_here", "_law_many"] []
  g__law_draw : mg "_law_draw" = some (.ref a.f__law_draw)
  F__law_pick : ∃ fd, Fun K "_law_pick" "_law_pick" s__law_pick a.f__law_pick fd ∧ Binds K fd ["_law_pen_here", "_law_options"] []
  g__law_pick : mg "_law_pick" = some (.ref a.f__law_pick)
  F__law_letters : ∃ fd, Fun K "_law_letters" "_law_letters" s__law_letters a.f__law_letters fd ∧ Binds K fd ["_law_pen_here", "_law_many"] []
  g__law_letters : mg "_law_letters" = some (.ref a.f__law_letters)
  F__law_odd : ∃ fd, Fun K "_law_odd" "_law_odd" s__law_odd a.f__law_odd fd ∧ Binds K fd ["_law_pen_here", "_law_letters_here"] []
  g__law_odd : mg "_law_odd" = some (.ref a.f__law_odd)
  F__law_no_rank : ∃ fd, Fun K "_law_no_rank" "_law_no_rank" s__law_no_rank a.f__law_no_rank fd ∧ Binds K fd ["_law_made", "_law_value"] []
  g__law_no_rank : mg "_law_no_rank" = some (.ref a.f__law_no_rank)
  F_law : ∃ fd, Fun K "law" "law" s_law a.f_law fd ∧ Binds K fd ["_law_script"] []
  g_law : mg "law" = some (.ref a.f_law)
section
variable {P : Program} {w : World} {K : PySem.W.Frag} {mg : Str → Option Value} {base : Heap} {a : Ad}
def sp_BadLetters (C : Addr) : Sp := fun vs H Q _ => ∃ (x : Addr) (y0 : V), vs = [.ref x, y0] ∧ Fmt y0 ∧ H x = some (exo x C none) ∧ ∀ (d : Addr) (H' : Hp), H d = none → d ≠ x → H' x = some (exo x C (some d)) → H' d = some (exd d [("index", y0)]) → (∀ b, b ≠ x → b ≠ d → H' b = H b) → Q .non H'
theorem x_BadLetters (T : Txt P K mg a) : Xcl P w K mg base 1 "BadLetters" a.BadLetters ["self", "index"] (sp_BadLetters a.BadLetters) := by
  obtain ⟨cc, c, doc, pm, ctv, xi, b⟩ := T.xi_BadLetters
  refine ⟨xi.ox, T.xf_BadLetters, _, _, T.in_BadLetters, T.ty_BadLetters, fn_exc xi sc_BadLetters___init__ rfl (fun vs H Q E h => ?_) (fun A outer s H vs Q E hr h => ?_), T.g_BadLetters, b⟩
  · obtain ⟨x, y0, rfl, _⟩ := h; rfl
  · obtain ⟨x, y0, rfl, f0, hx, q⟩ := h
    refine ⟨_, _, x, pa_cons (pe_joined (PJ.cons pe_str (PJ.cons (pe_fmt (pv 1)) PJ.nil))) pa_nil, (pss_one (ps_ost (pv 0) (pv 1))), rfl, hx, ?_⟩
    refine js_c (n := 0) ?_ (by decide) (by decide +kernel) fun a0 h0 => ?_
    · exact Nat.zero_le _
    refine js_f (n := 1000) rfl ?_ (by decide) f0 fun a1 h1 => ?_
    · exact h0
    refine js_0 ?_
    refine ⟨by show 1 ≤ 1000; decide, hx, ?_⟩
    refine rd_ost1 xi.ox T.na_BadLetters_index rfl rfl hx fun d hd ne => ?_
    refine q d _ hd ne ?_ ?_ fun b h1 h2 => ?_
    · simp only [upd_same, upd_ne ne, upd_ne ne.symm]
    · simp only [upd_same, upd_ne ne, upd_ne ne.symm]
    · simp only [upd_ne h1, upd_ne h2]
/-- raise BadLetters(..) -/
theorem rz_BadLetters {H : Hp} {y0 : V} {R : Value → Option Addr → Hp → Prop} (f0 : Fmt y0) (q : ∀ d H', H d = none → Ex H H' → H' d = some (.xd [("index", y0)]) → R (.ref a.BadLetters) (some d) H') :
    [y0].length ≤ 1000 ∧ ∀ x, H x = none → sp_BadLetters a.BadLetters (.ref x :: ([y0] ++ [])) (upd H x (exo x a.BadLetters none)) (fun v H2 => v = .non ∧ ∃ (d : Addr) (fs : List (Str × V)), H2 x = some (exo x a.BadLetters (some d)) ∧ H2 d = some (exd d fs) ∧ H d = none ∧ R (.ref a.BadLetters) (some d) (upd (del H2 x) d (.xd fs))) (fun _ _ _ => False) := by
  refine ⟨by show 1 ≤ 1000; decide, fun x hx => ⟨x, y0, rfl, f0, upd_same, fun d H' hd ne h1 h2 st => ⟨rfl, d, _, h1, h2, ?_, ?_⟩⟩⟩
  · rw [upd_ne ne] at hd; exact hd
  · rw [upd_ne ne] at hd
    obtain ⟨e1, e2⟩ := raised (C := a.BadLetters) (fs := [("index", y0)]) hx hd ne st
    exact q d _ hd e1 e2
def sp_BadLetter (C : Addr) : Sp := fun vs H Q _ => ∃ (x : Addr) (y0 : V), vs = [.ref x, y0] ∧ Fmt y0 ∧ H x = some (exo x C none) ∧ ∀ (d : Addr) (H' : Hp), H d = none → d ≠ x → H' x = some (exo x C (some d)) → H' d = some (exd d [("index", y0)]) → (∀ b, b ≠ x → b ≠ d → H' b = H b) → Q .non H'
theorem x_BadLetter (T : Txt P K mg a) : Xcl P w K mg base 1 "BadLetter" a.BadLetter ["self", "index"] (sp_BadLetter a.BadLetter) := by
  obtain ⟨cc, c, doc, pm, ctv, xi, b⟩ := T.xi_BadLetter
  refine ⟨xi.ox, T.xf_BadLetter, _, _, T.in_BadLetter, T.ty_BadLetter, fn_exc xi sc_BadLetter___init__ rfl (fun vs H Q E h => ?_) (fun A outer s H vs Q E hr h => ?_), T.g_BadLetter, b⟩
  · obtain ⟨x, y0, rfl, _⟩ := h; rfl
  · obtain ⟨x, y0, rfl, f0, hx, q⟩ := h
    refine ⟨_, _, x, pa_cons (pe_joined (PJ.cons pe_str (PJ.cons (pe_fmt (pv 1)) PJ.nil))) pa_nil, (pss_one (ps_ost (pv 0) (pv 1))), rfl, hx, ?_⟩
    refine js_c (n := 0) ?_ (by decide) (by decide +kernel) fun a0 h0 => ?_
    · exact Nat.zero_le _
    refine js_f (n := 1000) rfl ?_ (by decide) f0 fun a1 h1 => ?_
    · exact h0
    refine js_0 ?_
    refine ⟨by show 1 ≤ 1000; decide, hx, ?_⟩
    refine rd_ost1 xi.ox T.na_BadLetter_index rfl rfl hx fun d hd ne => ?_
    refine q d _ hd ne ?_ ?_ fun b h1 h2 => ?_
    · simp only [upd_same, upd_ne ne, upd_ne ne.symm]
    · simp only [upd_same, upd_ne ne, upd_ne ne.symm]
    · simp only [upd_ne h1, upd_ne h2]
/-- raise BadLetter(..) -/
theorem rz_BadLetter {H : Hp} {y0 : V} {R : Value → Option Addr → Hp → Prop} (f0 : Fmt y0) (q : ∀ d H', H d = none → Ex H H' → H' d = some (.xd [("index", y0)]) → R (.ref a.BadLetter) (some d) H') :
    [y0].length ≤ 1000 ∧ ∀ x, H x = none → sp_BadLetter a.BadLetter (.ref x :: ([y0] ++ [])) (upd H x (exo x a.BadLetter none)) (fun v H2 => v = .non ∧ ∃ (d : Addr) (fs : List (Str × V)), H2 x = some (exo x a.BadLetter (some d)) ∧ H2 d = some (exd d fs) ∧ H d = none ∧ R (.ref a.BadLetter) (some d) (upd (del H2 x) d (.xd fs))) (fun _ _ _ => False) := by
  refine ⟨by show 1 ≤ 1000; decide, fun x hx => ⟨x, y0, rfl, f0, upd_same, fun d H' hd ne h1 h2 st => ⟨rfl, d, _, h1, h2, ?_, ?_⟩⟩⟩
  · rw [upd_ne ne] at hd; exact hd
  · rw [upd_ne ne] at hd
    obtain ⟨e1, e2⟩ := raised (C := a.BadLetter) (fs := [("index", y0)]) hx hd ne st
    exact q d _ hd e1 e2
def sp_TooMany (C : Addr) : Sp := fun vs H Q _ => ∃ (x : Addr) (y0 y1 y2 : V), vs = [.ref x, y0, y1, y2] ∧ Fmt y0 ∧ Fmt y2 ∧ H x = some (exo x C none) ∧ ∀ (d : Addr) (H' : Hp), H d = none → d ≠ x → H' x = some (exo x C (some d)) → H' d = some (exd d [("most", y2), ("many", y1), ("what", y0)]) → (∀ b, b ≠ x → b ≠ d → H' b = H b) → Q .non H'
theorem x_TooMany (T : Txt P K mg a) : Xcl P w K mg base 1 "TooMany" a.TooMany ["self", "what", "many", "most"] (sp_TooMany a.TooMany) := by
  obtain ⟨cc, c, doc, pm, ctv, xi, b⟩ := T.xi_TooMany
  refine ⟨xi.ox, T.xf_TooMany, _, _, T.in_TooMany, T.ty_TooMany, fn_exc xi sc_TooMany___init__ rfl (fun vs H Q E h => ?_) (fun A outer s H vs Q E hr h => ?_), T.g_TooMany, b⟩
  · obtain ⟨x, y0, y1, y2, rfl, _⟩ := h; rfl
  · obtain ⟨x, y0, y1, y2, rfl, f0, f2, hx, q⟩ := h
    refine ⟨_, _, x, pa_cons (pe_joined (PJ.cons pe_str (PJ.cons (pe_fmt (pv 1)) (PJ.cons pe_str (PJ.cons (pe_fmt (pv 3)) PJ.nil))))) pa_nil, (pss_cons (ps_ost (pv 0) (pv 1)) (pss_cons (ps_ost (pv 0) (pv 2)) (pss_one (ps_ost (pv 0) (pv 3))))), rfl, hx, ?_⟩
    refine js_c (n := 0) ?_ (by decide) (by decide +kernel) fun a0 h0 => ?_
    · exact Nat.zero_le _
    refine js_f (n := 1000) rfl ?_ (by decide) f0 fun a1 h1 => ?_
    · exact h0
    refine js_c (n := 2001) ?_ (by decide) (by decide +kernel) fun a2 h2 => ?_
    · exact h1
    refine js_f (n := 3001) rfl ?_ (by decide) f2 fun a3 h3 => ?_
    · exact h2
    refine js_0 ?_
    refine ⟨by show 1 ≤ 1000; decide, hx, ?_⟩
    refine rd_ost1 xi.ox T.na_TooMany_what rfl rfl hx fun d hd ne => ?_
    refine rd_ostN (dx := d) (fs := [("what", y0)]) xi.ox T.na_TooMany_many rfl rfl (by simp only [upd_same, upd_ne ne, upd_ne ne.symm]) (by simp only [upd_same, upd_ne ne, upd_ne ne.symm]) (by show _ ≤ 900; simp) ?_
    refine rd_ostN (dx := d) (fs := [("many", y1), ("what", y0)]) xi.ox T.na_TooMany_most rfl rfl (by simp only [upd_same, upd_ne ne, upd_ne ne.symm]) (by simp only [upd_same, upd_ne ne, upd_ne ne.symm]) (by show _ ≤ 900; simp) ?_
    refine q d _ hd ne ?_ ?_ fun b h1 h2 => ?_
    · simp only [upd_same, upd_ne ne, upd_ne ne.symm]
    · simp only [upd_same, upd_ne ne, upd_ne ne.symm]
    · simp only [upd_ne h1, upd_ne h2]
/-- raise TooMany(..) -/
theorem rz_TooMany {H : Hp} {y0 y1 y2 : V} {R : Value → Option Addr → Hp → Prop} (f0 : Fmt y0) (f2 : Fmt y2) (q : ∀ d H', H d = none → Ex H H' → H' d = some (.xd [("most", y2), ("many", y1), ("what", y0)]) → R (.ref a.TooMany) (some d) H') :
    [y0, y1, y2].length ≤ 1000 ∧ ∀ x, H x = none → sp_TooMany a.TooMany (.ref x :: ([y0, y1, y2] ++ [])) (upd H x (exo x a.TooMany none)) (fun v H2 => v = .non ∧ ∃ (d : Addr) (fs : List (Str × V)), H2 x = some (exo x a.TooMany (some d)) ∧ H2 d = some (exd d fs) ∧ H d = none ∧ R (.ref a.TooMany) (some d) (upd (del H2 x) d (.xd fs))) (fun _ _ _ => False) := by
  refine ⟨by show 3 ≤ 1000; decide, fun x hx => ⟨x, y0, y1, y2, rfl, f0, f2, upd_same, fun d H' hd ne h1 h2 st => ⟨rfl, d, _, h1, h2, ?_, ?_⟩⟩⟩
  · rw [upd_ne ne] at hd; exact hd
  · rw [upd_ne ne] at hd
    obtain ⟨e1, e2⟩ := raised (C := a.TooMany) (fs := [("most", y2), ("many", y1), ("what", y0)]) hx hd ne st
    exact q d _ hd e1 e2
end
local macro_rules | `(tactic| walk_at "st1") => `(tactic| with_reducible (first
  | refine rd_seq ?_ | refine rd_op ?_ | refine rd_c ?_ | refine rd_cb ?_ | refine rd_cons ?_ | refine rd_nil ?_ | refine rd_B ?_ | refine rd_test ?_ | refine rd_bl ?_ | refine rd_I0 ?_
  | refine rd_not ?_ | refine rd_and ?_ | refine rd_or ?_ | refine rd_andV ?_ | refine rd_orV ?_ | refine rd_notV ?_ | refine rd_if ?_ | refine rd_chain ?_ | refine rd_un ?_ | refine rd_call ?_
  | refine rd_ifS ?_ | refine rd_asg ?_ | refine rd_drop ?_ | refine rd_ret ?_ | refine rd_next ?_ | refine rd_par ?_ | refine rd_two ?_ | refine rd_tup ?_ | refine rd_lst ?_ | refine rd_fld ?_ | refine rd_dget ?_ | refine rd_dput ?_ | refine rd_sfld ?_
  | refine rd_isiStr ?_ | refine rd_sign ?_ | refine rd_intI ?_ | refine rd_intB ?_ | refine rd_abs ?_ | refine rd_isN' ?_ | refine rd_gname ?_ | refine iteT ?_ | refine iteF ?_ | refine rd_nt ?_ | refine rd_nf ?_  | refine rd_yes ?_ | refine rd_sl ?_ | refine rd_noPart ?_ | refine rd_part ?_ | refine rd_partAt ?_ | refine rd_make ?_ | refine rd_meth ?_ | refine rd_bm ?_ | refine rd_m1 ?_ | refine rd_isS ?_ | refine rd_ifT ?_ | refine rd_tupm ?_ | refine rd_iStr ?_ | refine rd_iStrAt ?_ | refine rd_iList ?_ | refine rd_iTup ?_ | refine rd_iRng1 ?_ | refine rd_iEnum ?_ | refine rd_iEnT ?_ | refine rd_mkO ?_ | refine rd_makeW ?_ | refine rd_callW ?_ | refine rd_methW ?_))
local macro_rules | `(tactic| walk_at "st") => `(tactic| ((repeat (first
  | walk_at "st1"
  | ((with_reducible show L2.tVar _ _ _ _); refine rd_var rfl ?_)
  | ((with_reducible show L2.tAug _ _ _ _ _ _); refine rd_aug rfl ?_)
  | ((with_reducible refine rd_eq ?_ ?_); exact rfl)
  | ((with_reducible refine rd_ne ?_ ?_); exact rfl)))))

section
variable {P : Program} {w : World} {K : PySem.W.Frag} {mg : Str → Option Value} {base : Heap} {a : Ad}
/-! ### is_word, is_beginning, is_letter -/
abbrev smallS : Str := "abcdefghijklmnopqrstuvwxyz"
abbrev signsS : Str := "abcdefghijklmnopqrstuvwxyz0123456789"
def isWordB (z : Str) : Bool := decide (1 ≤ z.length) && decide (z.length ≤ 12) && (z.cps.toList.take 1).all (fun c => decide (c ∈ smallS.cps.toList)) && z.cps.toList.all (fun c => decide (c ∈ signsS.cps.toList))
def spIsWord : Sp := fun vs H Q _ => ∃ z : Str, vs = [.str z] ∧ z.length ≤ 1000 ∧ ∀ H', Ex H H' → Q (.bl (isWordB z)) H'
theorem c_is_word (T : Txt P K mg a) : Cal P w K mg base 1 "is_word" ["value"] spIsWord := by
  obtain ⟨fd, F, b⟩ := T.F_is_word
  refine ⟨_, _, F.ok sc_is_word (fun vs H Q E h => ?_) (fun cdv A outer s H vs Q E hr h => ?_), T.g_is_word, F.kp, b⟩
  · obtain ⟨z, rfl, _⟩ := h
    rfl
  · obtain ⟨z, rfl, hz, k⟩ := h
    refine ⟨_, (pss_cons (ps_if (PW.pt (pw_or (pt_not (pt_val (pe_callB call_isi (by rfl) T.n_isinstance (by decide +kernel) (pa_cons (pv 0) (pa_cons (pe_bty "str" T.n_str (by decide +kernel)) pa_nil))))) (pw_or1 (pt_not (pt_chain op_le op_le pe_int (pe_callB call_len_str (by rfl) T.n_len (by decide +kernel) (pa_cons (pv 0) pa_nil)) pe_int))))) (pss_one (ps_ret pe_bl)) pss_nil)
  (pss_one (ps_ret (pe_and (pe_cmpR op_in_sign (pe_ix ix_str (pv 0) pe_int (fun _ _ => rfl)) (pe_gstr T.g_SMALL) (by rfl)) (pe_one (pe_callB (cr_all rfl) (by rfl) T.n_all (by decide +kernel) (pa_cons (pe_lc (own := [("sign", 1)]) (by rfl) sc_is_word.nd (pi_str (pv 0)) (blkOk_by (own := [("sign", 1)]) (N := N_is_word) (sc := defScope s_is_word) (by decide +kernel)) (fun _ _ _ _ _ => (pg_name (i := 1) sc_is_word.nd rfl (by first | exact Or.inl rfl | exact Or.inr rfl))) (fun _ _ _ _ _ => pts_nil) (fun _ _ _ _ _ => (pe_cmpR op_in_sign (pv 1) (pe_gstr T.g_SIGNS) (by rfl)))) pa_nil))))))), ?_⟩
    walk_at "st"
    refine rd_lenS (z := z) (by omega) ?_
    walk_at "st"
    have fin : ∀ {b : Bool} {H'}, Ex H H' → isWordB z = b → Q (.bl b) H' := fun e h => h ▸ k _ e
    refine ite2 (fun h1 => ?_) (fun h1 => ?_)
    · walk_at "st"
      have h1' := of_decide_eq_true h1
      refine ite2 (fun h2 => ?_) (fun h2 => ?_)
      · walk_at "st"
        refine fin (Ex.refl _) ?_
        have : ¬ z.length ≤ 12 := fun h => by simp at h2; omega
        simp [isWordB, this]
      · have h2' : z.length ≤ 12 := by simp at h2; omega
        walk_at "st"
        obtain ⟨c, r, ez⟩ : ∃ c r, z.cps.toList = c :: r := by
          cases e : z.cps.toList with
          | nil => exfalso; have : z.length = z.cps.toList.length := by simp [Str.length]
                   rw [e] at this; simp at this; omega
          | cons c r => exact ⟨c, r, rfl⟩
        refine rd_ixS (c := c) (by omega) (by rw [ez]; exact atI_nat (j := 0) rfl) ?_
        walk_at "st"
        refine ite2 (fun h3 => ?_) (fun h3 => ?_)
        · walk_at "st"
          refine rd_lcPure (k := 1) (fun R r => ⟨_, rfl, _, rfl, r⟩) (f := fun i => .bl (decide (z.cps.toList.getD i 0 ∈ signsS.cps.toList))) (yl_str z) (fun _ _ => trivial) (by have := len_cps z; simp at this; omega) (fun i x H' hi e y Q' q => ?_) (fun p H' hp e hl => ?_)
          · obtain ⟨d, hd, rfl⟩ := y
            walk_at "st"
            have : z.cps.toList.getD i 0 = d := by simp [List.getD, hd]
            rw [this] at q
            exact q H' (Ex.refl _)
          · walk_at "st"
            have el : (List.range z.cps.size).map (fun i => V.bl (decide (z.cps.toList.getD i 0 ∈ signsS.cps.toList))) = (z.cps.toList.map fun d => decide (d ∈ signsS.cps.toList)).map V.bl := by
              apply List.ext_getElem
              · simp
              · intro n h1 h2
                have : n < z.cps.size := by simpa using h1
                simp [List.getD, this]
            rw [el] at hl
            refine rd_all (sq_of hl) (fin e ?_)
            have h3' := of_decide_eq_true h3
            have e1 : decide (1 ≤ z.length) = true := decide_eq_true (by omega)
            have e2 : decide (z.length ≤ 12) = true := decide_eq_true h2'
            unfold isWordB
            rw [e1, e2, ez, List.all_map]
            simp only [List.take, List.all_cons, List.all_nil, h3, Bool.and_true, Bool.true_and]
            rfl
        · refine fin (Ex.refl _) ?_
          have h3' : decide (c ∈ smallS.cps.toList) = false := by simpa using h3
          unfold isWordB
          rw [ez]
          simp only [List.take, List.all_cons, List.all_nil, h3', Bool.and_false, Bool.false_and]
    · walk_at "st"
      refine fin (Ex.refl _) ?_
      have : ¬ 1 ≤ z.length := fun h => by simp at h1; omega
      simp [isWordB, this]
def isBegB (z : Str) : Bool := decide (z = "new") || decide (z = "found")
def spIsBeg : Sp := fun vs H Q _ => ∃ z : Str, vs = [.str z] ∧ Q (.bl (isBegB z)) H
theorem inV_two (z x y : Str) : inV (.str z) [.str x, .str y] = (decide (z = x) || decide (z = y)) := by
  have e : ∀ u v : Str, (u == v) = decide (v = u) := fun u v => by
    rw [Bool.eq_iff_iff, beq_iff_eq, decide_eq_true_eq]; exact eq_comm
  simp only [inV, eqV, List.any_cons, List.any_nil, Bool.or_false, e]
theorem c_is_beginning (T : Txt P K mg a) : Cal P w K mg base 1 "is_beginning" ["value"] spIsBeg := by
  obtain ⟨fd, F, b⟩ := T.F_is_beginning
  refine ⟨_, _, F.ok sc_is_beginning (fun vs H Q E h => ?_) (fun cdv A outer s H vs Q E hr h => ?_), T.g_is_beginning, F.kp, b⟩
  · obtain ⟨z, rfl, _⟩ := h
    rfl
  · obtain ⟨z, rfl, k⟩ := h
    refine ⟨_, (pss_one (ps_ret (pe_and (pe_callB call_isi (by rfl) T.n_isinstance (by decide +kernel) (pa_cons (pv 0) (pa_cons (pe_bty "str" T.n_str (by decide +kernel)) pa_nil))) (pe_one (pe_cmpR op_in_seq (pv 0) (pe_gref T.g_BEGINNINGS) (by rfl)))))), ?_⟩
    walk_at "st"
    refine ⟨_, _, rfl, .inr (T.k_BEGINNINGS H), rfl, rfl, ?_⟩
    rw [if_neg Bool.false_ne_true, inV_two]
    exact k
def bareS (z : Str) : Str := if decide (V.str (cutS z none (some 1)) = V.str "~") = true then cutS z (some 1) none else z
def isLetterB (z : Str) : Bool := isWordB (bareS z) && !isBegB (bareS z)
/-- a value is a letter -/
def isLetV : V → Bool
  | .str z => isLetterB z
  | _ => false
theorem isLetV_not {v : V} (h : isStrV v = false) : isLetV v = false := by
  cases v with
  | str z => cases h
  | _ => rfl
def spIsLetter : Sp := fun vs H Q _ => ∃ v : V, vs = [v] ∧ Kd H v ∧ ∀ H', Ex H H' → Q (.bl (isLetV v)) H'
theorem c_is_letter (T : Txt P K mg a) : Cal P w K mg base 2 "is_letter" ["value"] spIsLetter := by
  obtain ⟨fd, F, b⟩ := T.F_is_letter
  refine ⟨_, _, F.ok sc_is_letter (fun vs H Q E h => ?_) (fun cdv A outer s H vs Q E hr h => ?_), T.g_is_letter, F.kp, b⟩
  · obtain ⟨z, rfl, _⟩ := h
    rfl
  · obtain ⟨v, rfl, kd, k⟩ := h
    refine ⟨_, (pss_cons (ps_if (pt_not (pt_val (pe_callB call_isi (by rfl) T.n_isinstance (by decide +kernel) (pa_cons (pv 0) (pa_cons (pe_bty "str" T.n_str (by decide +kernel)) pa_nil))))) (pss_one (ps_ret pe_bl)) pss_nil)
  (pss_cons (ps_set (i := 1) sc_is_letter.nd rfl (by first | exact Or.inl rfl | exact Or.inr rfl) (pe_ifExp (pt_cmpR op_eq (pe_slice sl_str (pv 0) po_none (po_some pe_int)) pe_str (by rfl)) (pe_slice sl_str (pv 0) (po_some pe_int) po_none) (pv 0)))
  (pss_one (ps_ret (pe_and (pe_callC (c_is_word T) hr (pa_cons (pv 1) pa_nil)) (pe_one (pe_not (pe_callC (c_is_beginning T) hr (pa_cons (pv 1) pa_nil))))))))), ?_⟩
    walk_at "st"
    refine rd_isiKd kd ?_
    walk_at "st"
    cases hs : isStrV v with
    | false =>
      walk_at "st"
      have := k H (Ex.refl _)
      rw [isLetV_not hs] at this
      exact this
    | true =>
    obtain ⟨z, rfl⟩ := isStrV_iff.mp hs
    have hz : z.length ≤ 1000 := by cases kd with | str _ h => exact h
    have k : ∀ H', Ex H H' → Q (.bl (isLetterB z)) H' := k
    walk_at "st"
    refine rd_slS (by omega) ?_
    walk_at "st"
    have fin : ∀ (y : Str), bareS z = y → y.length ≤ 1000 → tRet (tAndV (tCall spIsWord [] E0 (tCons (tVar 1) tNil)) (tNotV (tCall spIsBeg [] E0 (tCons (tVar 1) tNil)))) { nx := fun x H' => Q V.non H', rt := Q } [some (.str z), some (.str y)] H := by
      intro y ey ly
      walk_at "st"
      refine ⟨y, rfl, ly, fun H' e => ?_⟩
      walk_at "st"
      refine ite2 (fun h => ?_) (fun h => ?_)
      · walk_at "st"
        refine ⟨y, rfl, ?_⟩
        walk_at "st"
        have : isLetterB z = !isBegB y := by rw [isLetterB, ey, h]; rfl
        rw [← this]
        exact k _ e
      · have : isLetterB z = false := by rw [isLetterB, ey, Bool.eq_false_iff.mpr h]; rfl
        rw [← this]
        exact k _ e
    refine ite2 (fun h => ?_) (fun h => ?_)
    · walk_at "st"
      refine rd_slS (by omega) ?_
      exact fin _ (if_pos h) (Nat.le_trans (cutS_length _ _ _) hz)
    · refine rd_var rfl ?_
      exact fin _ (if_neg h) hz
/-! ### Letters -/
def LetAt (a : Ad) (H : Hp) (p : Addr) (ws : List Str) : Prop := ∃ dx t o, H p = some (.ins a.Letters dx [("words", .ref t)]) ∧ H t = some (.frz o (.tup (ws.map V.str))) ∧ o.dict = none ∧ ∀ x ∈ ws, PyData.strOk x = true
theorem LetAt.ex {a : Ad} {H H' : Hp} {p : Addr} {ws : List Str} (l : LetAt a H p ws) (e : Ex H H') : LetAt a H' p ws := let ⟨dx, t, o, h1, h2, h3⟩ := l; ⟨dx, t, o, e _ _ h1, e _ _ h2, h3⟩
theorem inV_strs (z : Str) : ∀ ws : List Str, inV (.str z) (ws.map V.str) = decide (z ∈ ws)
  | [] => by simp [inV]
  | x :: r => by
    have ih := inV_strs z r
    have e : ∀ u v : Str, (u == v) = decide (v = u) := fun u v => by rw [Bool.eq_iff_iff, beq_iff_eq, decide_eq_true_eq]; exact eq_comm
    show (eqV (.str x) (.str z) || inV (.str z) (r.map V.str)) = _
    rw [ih]
    show ((x == z) || decide (z ∈ r)) = _
    rw [e, Bool.eq_iff_iff]
    simp
theorem flat_strs : ∀ ws : List Str, (ws.map V.str).all flatV = true
  | [] => rfl
  | x :: r => by
    rw [List.map_cons, List.all_cons, flat_strs r]
    rfl
def inWs (v : V) (ws : List Str) : Bool := match v with
  | .str z => decide (z ∈ ws)
  | _ => false
theorem inWs_not {v : V} {ws : List Str} (h : isStrV v = false) : inWs v ws = false := by
  cases v with
  | str z => cases h
  | _ => rfl
end
local macro_rules | `(tactic| walk_at "st1") => `(tactic| with_reducible (first
  | refine rd_seq ?_ | refine rd_op ?_ | refine rd_c ?_ | refine rd_cb ?_ | refine rd_cons ?_ | refine rd_nil ?_ | refine rd_B ?_ | refine rd_test ?_ | refine rd_bl ?_ | refine rd_I0 ?_
  | refine rd_not ?_ | refine rd_and ?_ | refine rd_or ?_ | refine rd_andV ?_ | refine rd_orV ?_ | refine rd_notV ?_ | refine rd_if ?_ | refine rd_chain ?_ | refine rd_un ?_ | refine rd_call ?_
  | refine rd_ifS ?_ | refine rd_asg ?_ | refine rd_drop ?_ | refine rd_ret ?_ | refine rd_next ?_ | refine rd_par ?_ | refine rd_two ?_ | refine rd_tup ?_ | refine rd_lst ?_ | refine rd_fld ?_ | refine rd_dget ?_ | refine rd_dput ?_ | refine rd_sfld ?_
  | refine rd_isiStr ?_ | refine rd_sign ?_ | refine rd_intI ?_ | refine rd_intB ?_ | refine rd_abs ?_ | refine rd_isN' ?_ | refine rd_gname ?_ | refine iteT ?_ | refine iteF ?_ | refine rd_nt ?_ | refine rd_nf ?_  | refine rd_yes ?_ | refine rd_sl ?_ | refine rd_noPart ?_ | refine rd_part ?_ | refine rd_partAt ?_ | refine rd_make ?_ | refine rd_meth ?_ | refine rd_bm ?_ | refine rd_m1 ?_ | refine rd_isS ?_ | refine rd_ifT ?_ | refine rd_tupm ?_ | refine rd_iStr ?_ | refine rd_iStrAt ?_ | refine rd_iList ?_ | refine rd_iTup ?_ | refine rd_iRng1 ?_ | refine rd_iEnum ?_ | refine rd_iEnT ?_ | refine rd_mkO ?_ | refine rd_makeW ?_ | refine rd_callW ?_ | refine rd_methW ?_))
local macro_rules | `(tactic| walk_at "st") => `(tactic| ((repeat (first
  | walk_at "st1"
  | ((with_reducible show L2.tVar _ _ _ _); refine rd_var rfl ?_)
  | ((with_reducible show L2.tAug _ _ _ _ _ _); refine rd_aug rfl ?_)
  | ((with_reducible refine rd_eq ?_ ?_); exact rfl)
  | ((with_reducible refine rd_ne ?_ ?_); exact rfl)))))

section
variable {P : Program} {w : World} {K : PySem.W.Frag} {mg : Str → Option Value} {base : Heap} {a : Ad}
/-- a list of letters -/
structure LetOk (ws : List Str) : Prop where
  one : 1 ≤ ws.length
  most : ws.length ≤ 12
  ok : ∀ x ∈ ws, isLetterB x = true
  short : ∀ x ∈ ws, x.length ≤ 1000
  nd : ws.Nodup
  so : ∀ x ∈ ws, PyData.strOk x = true
theorem cutV_to {xs : List V} {i : Nat} (h : i ≤ xs.length) : cutV xs none (some (i : Int)) = xs.take i := by
  unfold cutV
  rw [HT.sIx_none, HT.sIx_nat, Nat.min_eq_left h]
  simp
/-- the element at i is wrong or stands earlier -/
def badAt (vs : List V) (i : Nat) : Bool := !isLetV (vs.getD i .non) || decide (vs.getD i .non ∈ vs.take i)
structure LetX (a : Ad) (vs : List V) (H : Hp) (E : XK) : Prop where
  many : 12 < vs.length → ∀ d H', H d = none → Ex H H' → H' d = some (.xd [("most", .int 12), ("many", .int (vs.length : Nat)), ("what", .str "letters")]) → E (.ref a.TooMany) (some d) H'
  empty : vs.length = 0 → ∀ d H', H d = none → Ex H H' → H' d = some (.xd [("index", .int 0)]) → E (.ref a.BadLetters) (some d) H'
  bad : vs.length ≤ 12 → ∀ j, j < vs.length → badAt vs j = true → (∀ i, i < j → badAt vs i = false) → ∀ d H', H d = none → Ex H H' → H' d = some (.xd [("index", .int (j : Nat))]) → E (.ref a.BadLetters) (some d) H'
def spLetInit (a : Ad) : Sp := fun us H Q E => ∃ x dx l vs, us = [.ref x, .ref l] ∧ H x = some (.ins a.Letters dx []) ∧ (H l = some (.lst vs) ∨ ∃ o, H l = some (.frz o (.tup vs)) ∧ o.dict = none) ∧ (∀ v ∈ vs, Kd H v) ∧ LetX a vs H E ∧
  (1 ≤ vs.length → vs.length ≤ 12 → (∀ i, i < vs.length → badAt vs i = false) → ∀ t o H', o.dict = none → H' t = some (.frz o (.tup vs)) → H' x = some (.ins a.Letters dx [("words", .ref t)]) → Kx x H H' → Q .non H')
theorem strs_of : ∀ {vs : List V}, (∀ v ∈ vs, isLetV v = true) → ∃ ws : List Str, vs = ws.map V.str
  | [], _ => ⟨[], rfl⟩
  | v :: r, h => by
    obtain ⟨ws, e⟩ := strs_of (vs := r) fun x hx => h x (List.mem_cons_of_mem _ hx)
    have hv := h v (List.mem_cons_self ..)
    cases v with
    | str z => exact ⟨z :: ws, by rw [e]; rfl⟩
    | _ => cases hv
theorem bad_let {vs : List V} {i : Nat} (hi : i < vs.length) (h : badAt vs i = false) : isLetV vs[i] = true ∧ vs[i] ∉ vs.take i := by
  unfold badAt at h
  have e : vs.getD i .non = vs[i] := by simp [List.getD, hi]
  rw [e, Bool.or_eq_false_iff] at h
  exact ⟨by simpa using h.1, of_decide_eq_false h.2⟩
theorem take_strs {vs : List V} {i : Nat} (hi : i ≤ vs.length) (h : ∀ j, j < i → badAt vs j = false) : ∃ ws : List Str, vs.take i = ws.map V.str := by
  refine strs_of fun v hv => ?_
  obtain ⟨j, hj, rfl⟩ := List.mem_iff_getElem.mp hv
  rw [List.length_take] at hj
  rw [List.getElem_take]
  exact (bad_let (by omega) (h j (by omega))).1
/-- what follows where no element is at fault -/
theorem good_let {vs : List V} (h1 : 1 ≤ vs.length) (h2 : vs.length ≤ 12) (h : ∀ i, i < vs.length → badAt vs i = false) : ∃ ws : List Str, vs = ws.map V.str ∧ 1 ≤ ws.length ∧ ws.length ≤ 12 ∧ (∀ x ∈ ws, isLetterB x = true) ∧ ws.Nodup := by
  obtain ⟨ws, e⟩ := take_strs (Nat.le_refl _) h
  rw [List.take_length] at e
  subst e
  rw [List.length_map] at h1 h2 h
  refine ⟨ws, rfl, h1, h2, fun x hx => ?_, ?_⟩
  · obtain ⟨j, hj, rfl⟩ := List.mem_iff_getElem.mp hx
    have := (bad_let (vs := ws.map V.str) (by simpa using hj) (h j hj)).1
    simpa [isLetV] using this
  · rw [List.nodup_iff_pairwise_ne, List.pairwise_iff_getElem]
    intro i j hi hj lt e
    have := (bad_let (vs := ws.map V.str) (by simpa using hj) (h j hj)).2
    apply this
    rw [← List.map_take, List.getElem_map, ← e]
    refine List.mem_map_of_mem ?_
    exact List.mem_iff_getElem.mpr ⟨i, by rw [List.length_take]; omega, by rw [List.getElem_take]⟩
theorem let_good {ws : List Str} (O : LetOk ws) : ∀ i, i < (ws.map V.str).length → badAt (ws.map V.str) i = false := by
  intro i hi
  rw [List.length_map] at hi
  unfold badAt
  have e : (ws.map V.str).getD i .non = V.str ws[i] := by simp [List.getD, hi]
  rw [e, Bool.or_eq_false_iff]
  refine ⟨by show (!isLetterB ws[i]) = false; rw [O.ok _ (List.getElem_mem hi)]; rfl, decide_eq_false fun hm => ?_⟩
  rw [← List.map_take] at hm
  obtain ⟨y, hy, ey⟩ := List.mem_map.mp hm
  have ey := V.str.inj ey
  subst ey
  obtain ⟨j, hj, ej⟩ := List.mem_iff_getElem.mp hy
  rw [List.length_take] at hj
  rw [List.getElem_take] at ej
  exact List.pairwise_iff_getElem.mp (List.nodup_iff_pairwise_ne.mp O.nd) j i (by omega) hi (by omega) ej
/-- z in the elements ahead, all of them letters -/
theorem inV_take {vs : List V} {i : Nat} {ws : List Str} {z : Str} (e : vs.take i = ws.map V.str) : inV (.str z) (vs.take i) = decide (V.str z ∈ vs.take i) := by
  rw [e, inV_strs, Bool.eq_iff_iff, decide_eq_true_eq, decide_eq_true_eq, List.mem_map]
  exact ⟨fun h => ⟨z, h, rfl⟩, fun ⟨y, h, q⟩ => V.str.inj q ▸ h⟩
theorem ok_Letters___init__ {fd : FuncData} (F : Fun K "__init__" "Letters.__init__" s_Letters___init__ a.f_Letters___init__ fd) (T : Txt P K mg a) : FnOk P w K mg base (L2.CX P w) 3 a.f_Letters___init__ fd ["self", "words"] (spLetInit a) := by
  refine F.okX sc_Letters___init__ (fun vs H Q E h => ?_) (fun cdv A outer s H us Q E hr h => ?_)
  · obtain ⟨x, dx, l, ws, rfl, _⟩ := h
    rfl
  · obtain ⟨x, dx, l, vs, rfl, hx, hl, kd, LX, k⟩ := h
    have badv : ∀ {i : Nat} {v : V}, vs[i]? = some v → isLetV v = false → badAt vs i = true := fun {i v} hv h => by
      have e : vs.getD i .non = v := by simp [List.getD, hv]
      unfold badAt; rw [e, h]; rfl
    have badm : ∀ {i : Nat} {v : V}, vs[i]? = some v → isLetV v = true → badAt vs i = decide (v ∈ vs.take i) := fun {i v} hv h => by
      have e : vs.getD i .non = v := by simp [List.getD, hv]
      unfold badAt; rw [e, h]; rfl
    rcases hl with hl | ⟨o0, hl, od0⟩
    · refine ⟨_, (pss_cons (ps_if (pt_cmpR op_gt (pe_callB call_len_seq (by rfl) T.n_len (by decide +kernel) (pa_cons (pv 1) pa_nil)) (pe_gint T.g_MOST_LETTERS) (by rfl)) (pss_one (ps_raiseX (x_TooMany T) hr (takes_of rfl rfl rfl rfl) (pa_cons pe_str (pa_cons (pe_callB call_len_seq (by rfl) T.n_len (by decide +kernel) (pa_cons (pv 1) pa_nil)) (pa_cons (pe_gint T.g_MOST_LETTERS) pa_nil))))) pss_nil)
  (pss_cons (ps_if (pt_cmpR op_eq (pe_callB call_len_seq (by rfl) T.n_len (by decide +kernel) (pa_cons (pv 1) pa_nil)) pe_int (by rfl)) (pss_one (ps_raiseX (x_BadLetters T) hr (takes_of rfl rfl rfl rfl) (pa_cons pe_int pa_nil))) pss_nil)
  (pss_cons (ps_for (passes_of rfl) (by rfl) (pi_enum (by rfl) T.n_enumerate (pa_cons (pv 1) pa_nil)) (pg_tup rfl (pgs_cons (pg_name (i := 2) sc_Letters___init__.nd rfl (by first | exact Or.inl rfl | exact Or.inr rfl)) (pgs_cons (pg_name (i := 3) sc_Letters___init__.nd rfl (by first | exact Or.inl rfl | exact Or.inr rfl)) pgs_nil)))
    (pss_one (ps_if (PW.pt (pw_or (pt_not (pt_val (pe_callC (c_is_letter T) hr (pa_cons (pv 3) pa_nil)))) (pw_or1 (pt_cmpR op_in_seq (pv 3) (pe_slice sl_list (pv 1) po_none (po_some (pv 2))) (by rfl))))) (pss_one (ps_raiseX (x_BadLetters T) hr (takes_of rfl rfl rfl rfl) (pa_cons (pv 2) pa_nil))) pss_nil)))
  (pss_one (ps_fld (pv 0) (pe_callTy call_tuple_frz (by rfl) T.n_tuple (by decide +kernel) (pa_cons (pv 1) pa_nil)) rfl))))), ?_⟩
      walk_at "st"
      refine rd_lenL (sq_of hl) ?_
      walk_at "st"
      refine ite2 (fun h => ?_) (fun h1 => ?_)
      · walk_at "st"
        refine rd_lenL (sq_of hl) ?_
        walk_at "st"
        exact rz_TooMany (.inl ⟨_, rfl, by decide +kernel⟩) (.inr ⟨12, rfl, by decide⟩) (LX.many (by have := of_decide_eq_true h; omega))
      have n12 : vs.length ≤ 12 := Nat.le_of_not_lt fun z => h1 (decide_eq_true (by omega))
      walk_at "st"
      refine rd_lenL (sq_of hl) ?_
      walk_at "st"
      refine ite2 (fun h => ?_) (fun h2 => ?_)
      · walk_at "st"
        exact rz_BadLetters (.inr ⟨0, rfl, by decide⟩) (LX.empty (by have := V.int.inj (of_decide_eq_true h); omega))
      have n1 : 1 ≤ vs.length := Nat.pos_of_ne_zero fun z => h2 (decide_eq_true (by rw [z]; rfl))
      walk_at "st"
      refine rd_forYl (J := Ite _ l) (H1 := H) (fun R r => ⟨_, rfl, l, _, rfl, sq_of hl, r⟩) (yl_enum vs) (fun i σ H' => (∀ j, j < i → badAt vs j = false) ∧ ∃ v1 v2, σ = [some (.ref x), some (.ref l), v1, v2] ∧ Ex H H') (fun i σ H' _ p => ?_) ⟨fun j h => absurd h (Nat.not_lt_zero _), none, none, rfl, Ex.refl _⟩ (fun i y σ H1 H2 hi p e yy => ?_) (fun σ H' p => ?_)
      · obtain ⟨_, _, _, _, e⟩ := p
        exact sq_of (e _ _ hl)
      · obtain ⟨pb, v1, v2, rfl, e1⟩ := p
        obtain ⟨t, z, rfl, ht, hz⟩ := yy
        have e2 := e1.trans e
        refine ⟨t, _, rfl, st_of ht, rfl, ?_⟩
        refine ⟨_, _, rfl, _, _, rfl, rfl, ?_⟩
        walk_at "st"
        refine ⟨z, rfl, (kd z (List.mem_of_getElem? hz)).ex e2, fun H3 e3 => ?_⟩
        have e13 := e2.trans e3
        have raise : ∀ {H4 : Hp}, Ex H H4 → badAt vs i = true → ∀ d H', H4 d = none → Ex H4 H' → H' d = some (.xd [("index", .int (i : Nat))]) → E (.ref a.BadLetters) (some d) H' := fun {H4} e4 hb d H' hd e' h => LX.bad n12 i hi hb pb d H' (fresh_back e4 hd) (e4.trans e') h
        have fmt : Fmt (.int (i : Nat)) := fmt_nat (by omega)
        dsimp only
        cases hlt : isLetV z with
        | false =>
          walk_at "st"
          exact rz_BadLetters fmt (raise e13 (badv hz hlt))
        | true =>
        obtain ⟨y, rfl⟩ : ∃ y, z = V.str y := isStrV_iff.mp (by cases hs : isStrV z with | true => rfl | false => rw [isLetV_not hs] at hlt; cases hlt)
        walk_at "st"
        refine rd_slL (sq_of (e13 _ _ hl)) (fun m H4 hm e4 h4 => ?_)
        obtain ⟨ws, ew⟩ := take_strs (Nat.le_of_lt hi) pb
        rw [cutV_to (Nat.le_of_lt hi)] at h4
        refine ⟨_, _, rfl, .inl (sq_of h4), rfl, ?_, ?_⟩
        · rw [ew]; exact flat_strs _
        rw [if_neg Bool.false_ne_true, inV_take ew, ← badm hz hlt]
        cases hb : badAt vs i with
        | true =>
          walk_at "st"
          exact rz_BadLetters fmt (raise (e13.trans e4) hb)
        | false =>
          walk_at "st"
          refine ⟨fun j hj => ?_, _, _, rfl, e13.trans e4⟩
          rcases Nat.lt_succ_iff_lt_or_eq.mp hj with q | q
          · exact pb j q
          · rw [q]; exact hb
      · obtain ⟨pb, v1, v2, rfl, e1⟩ := p
        walk_at "st"
        refine ⟨_, _, rfl, .inl ⟨sq_of (e1 _ _ hl), fun t o ht ho => ?_⟩⟩
        walk_at "st"
        have nx : x ≠ t := ne_of_none (e1 _ _ hx) ht
        refine rd_sfldAt (by rw [upd_ne nx]; exact e1 _ _ hx) T.cl_Letters T.na_Letters_words (by show 0 < 1000; decide) ?_
        refine k n1 n12 pb t o _ ho (by rw [upd_ne nx.symm, upd_same]) upd_same (fun b u nb hb => ?_)
        rw [upd_ne nb, upd_ne (ne_of_none (e1 _ _ hb) ht)]
        exact e1 _ _ hb
    · refine ⟨_, (pss_cons (ps_if (pt_cmpR op_gt (pe_callB call_len_seq (by rfl) T.n_len (by decide +kernel) (pa_cons (pv 1) pa_nil)) (pe_gint T.g_MOST_LETTERS) (by rfl)) (pss_one (ps_raiseX (x_TooMany T) hr (takes_of rfl rfl rfl rfl) (pa_cons pe_str (pa_cons (pe_callB call_len_seq (by rfl) T.n_len (by decide +kernel) (pa_cons (pv 1) pa_nil)) (pa_cons (pe_gint T.g_MOST_LETTERS) pa_nil))))) pss_nil)
  (pss_cons (ps_if (pt_cmpR op_eq (pe_callB call_len_seq (by rfl) T.n_len (by decide +kernel) (pa_cons (pv 1) pa_nil)) pe_int (by rfl)) (pss_one (ps_raiseX (x_BadLetters T) hr (takes_of rfl rfl rfl rfl) (pa_cons pe_int pa_nil))) pss_nil)
  (pss_cons (ps_for (passes_of rfl) (by rfl) (pi_enumT (by rfl) T.n_enumerate (pa_cons (pv 1) pa_nil)) (pg_tup rfl (pgs_cons (pg_name (i := 2) sc_Letters___init__.nd rfl (by first | exact Or.inl rfl | exact Or.inr rfl)) (pgs_cons (pg_name (i := 3) sc_Letters___init__.nd rfl (by first | exact Or.inl rfl | exact Or.inr rfl)) pgs_nil)))
    (pss_one (ps_if (PW.pt (pw_or (pt_not (pt_val (pe_callC (c_is_letter T) hr (pa_cons (pv 3) pa_nil)))) (pw_or1 (pt_cmpR op_in_seq (pv 3) (pe_slice sl_tupA (pv 1) po_none (po_some (pv 2))) (by rfl))))) (pss_one (ps_raiseX (x_BadLetters T) hr (takes_of rfl rfl rfl rfl) (pa_cons (pv 2) pa_nil))) pss_nil)))
  (pss_one (ps_fld (pv 0) (pe_callTy call_tuple_frz (by rfl) T.n_tuple (by decide +kernel) (pa_cons (pv 1) pa_nil)) rfl))))), ?_⟩
      walk_at "st"
      refine rd_lenT (st_frz hl) ?_
      walk_at "st"
      refine ite2 (fun h => ?_) (fun h1 => ?_)
      · walk_at "st"
        refine rd_lenT (st_frz hl) ?_
        walk_at "st"
        exact rz_TooMany (.inl ⟨_, rfl, by decide +kernel⟩) (.inr ⟨12, rfl, by decide⟩) (LX.many (by have := of_decide_eq_true h; omega))
      have n12 : vs.length ≤ 12 := Nat.le_of_not_lt fun z => h1 (decide_eq_true (by omega))
      walk_at "st"
      refine rd_lenT (st_frz hl) ?_
      walk_at "st"
      refine ite2 (fun h => ?_) (fun h2 => ?_)
      · walk_at "st"
        exact rz_BadLetters (.inr ⟨0, rfl, by decide⟩) (LX.empty (by have := V.int.inj (of_decide_eq_true h); omega))
      have n1 : 1 ≤ vs.length := Nat.pos_of_ne_zero fun z => h2 (decide_eq_true (by rw [z]; rfl))
      walk_at "st"
      refine rd_forYl (J := ItE _ l) (H1 := H) (fun R r => ⟨_, rfl, l, _, rfl, st_frz hl, r⟩) (yl_enumT vs) (fun i σ H' => (∀ j, j < i → badAt vs j = false) ∧ ∃ v1 v2, σ = [some (.ref x), some (.ref l), v1, v2] ∧ Ex H H') (fun i σ H' _ p => ?_) ⟨fun j h => absurd h (Nat.not_lt_zero _), none, none, rfl, Ex.refl _⟩ (fun i y σ H1 H2 hi p e yy => ?_) (fun σ H' p => ?_)
      · obtain ⟨_, _, _, _, e⟩ := p
        exact st_frz (e _ _ hl)
      · obtain ⟨pb, v1, v2, rfl, e1⟩ := p
        obtain ⟨t, z, rfl, ht, hz⟩ := yy
        have e2 := e1.trans e
        refine ⟨t, _, rfl, st_of ht, rfl, ?_⟩
        refine ⟨_, _, rfl, _, _, rfl, rfl, ?_⟩
        walk_at "st"
        refine ⟨z, rfl, (kd z (List.mem_of_getElem? hz)).ex e2, fun H3 e3 => ?_⟩
        have e13 := e2.trans e3
        have raise : ∀ {H4 : Hp}, Ex H H4 → badAt vs i = true → ∀ d H', H4 d = none → Ex H4 H' → H' d = some (.xd [("index", .int (i : Nat))]) → E (.ref a.BadLetters) (some d) H' := fun {H4} e4 hb d H' hd e' h => LX.bad n12 i hi hb pb d H' (fresh_back e4 hd) (e4.trans e') h
        have fmt : Fmt (.int (i : Nat)) := fmt_nat (by omega)
        dsimp only
        cases hlt : isLetV z with
        | false =>
          walk_at "st"
          exact rz_BadLetters fmt (raise e13 (badv hz hlt))
        | true =>
        obtain ⟨y, rfl⟩ : ∃ y, z = V.str y := isStrV_iff.mp (by cases hs : isStrV z with | true => rfl | false => rw [isLetV_not hs] at hlt; cases hlt)
        walk_at "st"
        obtain ⟨ws, ew⟩ := take_strs (Nat.le_of_lt hi) pb
        have whole : ¬ (HT.sIx vs.length 0 none = 0 ∧ HT.sIx vs.length vs.length (some (i : Int)) = vs.length) := fun h => by
          have := h.2
          rw [HT.sIx_nat, Nat.min_eq_left (Nat.le_of_lt hi)] at this
          omega
        refine ⟨l, vs, rfl, st_frz (e13 _ _ hl), fun h => absurd h whole, fun _ => ?_⟩
        rw [cutV_to (Nat.le_of_lt hi)]
        intro m hm
        have e4 := Ex.new (o := HO.tup (List.take i vs)) hm
        have h4 : upd H3 m (HO.tup (List.take i vs)) m = some (HO.tup (List.take i vs)) := upd_same
        generalize upd H3 m (HO.tup (List.take i vs)) = H4 at e4 h4 ⊢
        refine ⟨_, _, rfl, .inr (st_of h4), rfl, ?_, ?_⟩
        · rw [ew]; exact flat_strs _
        rw [if_neg Bool.false_ne_true, inV_take ew, ← badm hz hlt]
        cases hb : badAt vs i with
        | true =>
          walk_at "st"
          exact rz_BadLetters fmt (raise (e13.trans e4) hb)
        | false =>
          walk_at "st"
          refine ⟨fun j hj => ?_, _, _, rfl, e13.trans e4⟩
          rcases Nat.lt_succ_iff_lt_or_eq.mp hj with q | q
          · exact pb j q
          · rw [q]; exact hb
      · obtain ⟨pb, v1, v2, rfl, e1⟩ := p
        walk_at "st"
        refine ⟨_, _, rfl, .inr ⟨st_frz (e1 _ _ hl), ?_⟩⟩
        walk_at "st"
        have nx : x ≠ l := ne_of hx hl (by intro z; cases z)
        refine rd_sfldAt (e1 _ _ hx) T.cl_Letters T.na_Letters_words (by show 0 < 1000; decide) ?_
        refine k n1 n12 pb l o0 _ od0 (by rw [upd_ne nx.symm]; exact e1 _ _ hl) upd_same (fun b u nb hb => ?_)
        rw [upd_ne nb]
        exact e1 _ _ hb
theorem c_Letters (T : Txt P K mg a) : CtrX P w K mg base 3 "Letters" a.Letters ["self", "words"] [] (spLetInit a) := by
  obtain ⟨fd, F, b⟩ := T.F_Letters___init__
  exact ⟨_, _, [], T.mk_Letters, ok_Letters___init__ F T, T.g_Letters, b, .nil⟩
end
local macro_rules | `(tactic| walk_at "st1") => `(tactic| with_reducible (first
  | refine rd_seq ?_ | refine rd_op ?_ | refine rd_c ?_ | refine rd_cb ?_ | refine rd_cons ?_ | refine rd_nil ?_ | refine rd_B ?_ | refine rd_test ?_ | refine rd_bl ?_ | refine rd_I0 ?_
  | refine rd_not ?_ | refine rd_and ?_ | refine rd_or ?_ | refine rd_andV ?_ | refine rd_orV ?_ | refine rd_notV ?_ | refine rd_if ?_ | refine rd_chain ?_ | refine rd_un ?_ | refine rd_call ?_
  | refine rd_ifS ?_ | refine rd_asg ?_ | refine rd_drop ?_ | refine rd_ret ?_ | refine rd_next ?_ | refine rd_par ?_ | refine rd_two ?_ | refine rd_tup ?_ | refine rd_lst ?_ | refine rd_fld ?_ | refine rd_dget ?_ | refine rd_dput ?_ | refine rd_sfld ?_
  | refine rd_isiStr ?_ | refine rd_sign ?_ | refine rd_intI ?_ | refine rd_intB ?_ | refine rd_abs ?_ | refine rd_isN' ?_ | refine rd_gname ?_ | refine iteT ?_ | refine iteF ?_ | refine rd_nt ?_ | refine rd_nf ?_  | refine rd_yes ?_ | refine rd_sl ?_ | refine rd_noPart ?_ | refine rd_part ?_ | refine rd_partAt ?_ | refine rd_make ?_ | refine rd_meth ?_ | refine rd_bm ?_ | refine rd_m1 ?_ | refine rd_isS ?_ | refine rd_ifT ?_ | refine rd_tupm ?_ | refine rd_iStr ?_ | refine rd_iStrAt ?_ | refine rd_iList ?_ | refine rd_iTup ?_ | refine rd_iRng1 ?_ | refine rd_iEnum ?_ | refine rd_iEnT ?_ | refine rd_mkO ?_ | refine rd_makeW ?_ | refine rd_callW ?_ | refine rd_methW ?_))
local macro_rules | `(tactic| walk_at "st") => `(tactic| ((repeat (first
  | walk_at "st1"
  | ((with_reducible show L2.tVar _ _ _ _); refine rd_var rfl ?_)
  | ((with_reducible show L2.tAug _ _ _ _ _ _); refine rd_aug rfl ?_)
  | ((with_reducible refine rd_eq ?_ ?_); exact rfl)
  | ((with_reducible refine rd_ne ?_ ?_); exact rfl)))))

section
variable {P : Program} {w : World} {K : PySem.W.Frag} {mg : Str → Option Value} {base : Heap} {a : Ad}
/-! ### in, rank, len, == of letters -/
def spContains (a : Ad) : Sp := fun vs H Q _ => ∃ p v ws, vs = [.ref p, v] ∧ LetAt a H p ws ∧ Kd H v ∧ Q (.bl (inWs v ws)) H
theorem c_Letters___contains__ (T : Txt P K mg a) : Mth P w K mg base 1 a.Letters "__contains__" ["self", "x"] (spContains a) := by
  obtain ⟨fd, F, b⟩ := T.F_Letters___contains__
  refine ⟨T.cl_Letters, _, _, T.m_Letters___contains__, F.ok sc_Letters___contains__ (fun vs H Q E h => ?_) (fun cdv A outer s H vs Q E hr h => ?_), b⟩
  · obtain ⟨p, z, ws, rfl, _⟩ := h
    rfl
  · obtain ⟨p, v, ws, rfl, ⟨dx, t, o, h1, h2, h3, h4⟩, kd, k⟩ := h
    refine ⟨_, (pss_one (ps_ret (pe_and (pe_callB call_isi (by rfl) T.n_isinstance (by decide +kernel) (pa_cons (pv 1) (pa_cons (pe_bty "str" T.n_str (by decide +kernel)) pa_nil))) (pe_one (pe_cmpR op_in_seq (pv 1) (pe_fld (pv 0) rfl) (by rfl)))))), ?_⟩
    walk_at "st"
    refine rd_isiKd kd ?_
    walk_at "st"
    cases hs : isStrV v with
    | false =>
      refine iteF ?_
      rw [inWs_not hs] at k
      exact k
    | true =>
      obtain ⟨z, rfl⟩ := isStrV_iff.mp hs
      walk_at "st"
      refine rd_fldAt h1 T.cl_Letters T.na_Letters_words rfl ?_
      refine ⟨_, _, rfl, .inr (st_frz h2), rfl, flat_strs _, ?_⟩
      rw [if_neg Bool.false_ne_true, inV_strs]
      exact k
theorem first_at {z : Str} : ∀ {ws : List Str}, z ∈ ws → ∃ j : Nat, ws[j]? = some z ∧ ∀ m, m < j → ws[m]? ≠ some z
  | [], h => by cases h
  | x :: r, h => by
    by_cases e : x = z
    · exact ⟨0, by rw [e]; rfl, fun m hm => absurd hm (Nat.not_lt_zero _)⟩
    · obtain ⟨j, h1, h2⟩ := first_at (ws := r) (by rcases List.mem_cons.mp h with q | q; exact absurd q.symm e; exact q)
      refine ⟨j + 1, by simpa using h1, fun m hm => ?_⟩
      cases m with
      | zero => simpa using e
      | succ m => simpa using h2 m (by omega)
def ixOf (z : Str) : List Str → Nat
  | [] => 0
  | x :: r => if x = z then 0 else ixOf z r + 1
theorem ixOf_first {z : Str} : ∀ {ws : List Str} {j : Nat}, ws[j]? = some z → (∀ m, m < j → ws[m]? ≠ some z) → ixOf z ws = j
  | [], j, h, _ => by simp at h
  | x :: r, 0, h, _ => by simp at h; simp [ixOf, h]
  | x :: r, j + 1, h, hm => by
    have h0 : x ≠ z := fun e => hm 0 (Nat.succ_pos _) (by simp [e])
    have := ixOf_first (ws := r) (j := j) (by simpa using h) fun m lt => by
      have := hm (m + 1) (by omega)
      simpa using this
    simp [ixOf, h0, this]
def spRank (a : Ad) : Sp := fun vs H Q E => ∃ p v ws, vs = [.ref p, v] ∧ LetAt a H p ws ∧ Kd H v ∧ (inWs v ws = false → ∀ d H', H d = none → Ex H H' → H' d = some (.xd [("index", .int 0)]) → E (.ref a.BadLetter) (some d) H') ∧ (∀ z, v = .str z → z ∈ ws → Q (.int (ixOf z ws : Nat)) H)
theorem c_Letters_rank (T : Txt P K mg a) : MthX P w K mg base 3 a.Letters "rank" ["self", "x"] (spRank a) := by
  obtain ⟨fd, F, b⟩ := T.F_Letters_rank
  refine ⟨T.cl_Letters, _, _, T.m_Letters_rank, F.okX sc_Letters_rank (fun vs H Q E h => ?_) (fun cdv A outer s H vs Q E hr h => ?_), b⟩
  · obtain ⟨p, z, ws, rfl, _⟩ := h
    rfl
  · obtain ⟨p, v, ws, rfl, L, kd, kE, kQ⟩ := h
    obtain ⟨dx, t, o, h1, h2, h3, h4⟩ := id L
    refine ⟨_, (pss_cons (ps_if (pt_cmpR (op_notInOwn (c_Letters___contains__ T) hr) (pv 1) (pv 0) (by rfl)) (pss_one (ps_raiseX (x_BadLetter T) hr (takes_of rfl rfl rfl rfl) (pa_cons pe_int pa_nil))) pss_nil)
  (pss_one (ps_ret (pe_tupm PySem.F.slot_tuple_index PySem.F.type_tuple_index mt_tup_index (pe_fld (pv 0) rfl) (pa_cons (pv 1) pa_nil))))), ?_⟩
    walk_at "st"
    refine ⟨_, _, _, rfl, h1, _, _, _, rfl, L, kd, ?_⟩
    refine ⟨_, rfl, ?_⟩
    walk_at "st"
    cases hi : inWs v ws with
    | false =>
      walk_at "st"
      exact rz_BadLetter (.inr ⟨0, rfl, by decide⟩) (kE hi)
    | true =>
    obtain ⟨z, rfl⟩ : ∃ y, v = V.str y := isStrV_iff.mp (by cases hs : isStrV v with | true => rfl | false => rw [inWs_not hs] at hi; cases hi)
    have hm : z ∈ ws := of_decide_eq_true hi
    walk_at "st"
    refine rd_fldAt h1 T.cl_Letters T.na_Letters_words rfl ?_
    obtain ⟨j, j1, j2⟩ := first_at hm
    refine ⟨⟨_, _, _, rfl, h2, h3⟩, ?_⟩
    walk_at "st"
    have := kQ z rfl hm
    rw [ixOf_first j1 j2] at this
    exact ⟨_, _, _, j, rfl, rfl, st_frz h2, j1, j2, this⟩
def spLetLen (a : Ad) : Sp := fun vs H Q _ => ∃ p ws, vs = [.ref p] ∧ LetAt a H p ws ∧ Q (.int (ws.length : Nat)) H
theorem c_Letters___len__ (T : Txt P K mg a) : Mth P w K mg base 1 a.Letters "__len__" ["self"] (spLetLen a) := by
  obtain ⟨fd, F, b⟩ := T.F_Letters___len__
  refine ⟨T.cl_Letters, _, _, T.m_Letters___len__, F.ok sc_Letters___len__ (fun vs H Q E h => ?_) (fun cdv A outer s H vs Q E hr h => ?_), b⟩
  · obtain ⟨p, ws, rfl, _⟩ := h
    rfl
  · obtain ⟨p, ws, rfl, L, k⟩ := h
    obtain ⟨dx, t, o, h1, h2, h3, h4⟩ := id L
    refine ⟨_, (pss_one (ps_ret (pe_callB call_len_seq (by rfl) T.n_len (by decide +kernel) (pa_cons (pe_fld (pv 0) rfl) pa_nil)))), ?_⟩
    walk_at "st"
    refine rd_fldAt h1 T.cl_Letters T.na_Letters_words rfl ?_
    walk_at "st"
    refine rd_lenT (st_frz h2) ?_
    rw [List.length_map]
    exact k
def spLetEq (a : Ad) : Sp := fun vs H Q _ => ∃ p q ws zs, vs = [.ref p, .ref q] ∧ LetAt a H p ws ∧ LetAt a H q zs ∧ Q (.bl (decide (ws = zs))) H
theorem c_Letters___eq__ (T : Txt P K mg a) : Mth P w K mg base 1 a.Letters "__eq__" ["self", "other"] (spLetEq a) := by
  obtain ⟨fd, F, b⟩ := T.F_Letters___eq__
  refine ⟨T.cl_Letters, _, _, T.m_Letters___eq__, F.ok sc_Letters___eq__ (fun vs H Q E h => ?_) (fun cdv A outer s H vs Q E hr h => ?_), b⟩
  · obtain ⟨p, z, ws, zs, rfl, _⟩ := h
    rfl
  · obtain ⟨p, q, ws, zs, rfl, ⟨dx, t, o, h1, h2, h3, h4⟩, ⟨dy, t', o', g1, g2, g3, g4⟩, k⟩ := h
    refine ⟨_, (pss_one (ps_ret (pe_and (pe_callB call_isi (by rfl) T.n_isinstance (by decide +kernel) (pa_cons (pv 1) (pa_cons (pe_gref T.g_Letters) pa_nil))) (pe_one (pe_cmpR (op_eqD hr.units) (pe_fld (pv 0) rfl) (pe_fld (pv 1) rfl) (by rfl)))))), ?_⟩
    walk_at "st"
    refine rd_isiOwn T.cl_Letters T.isi_Letters g1 ?_
    walk_at "st"
    refine rd_fldAt h1 T.cl_Letters T.na_Letters_words rfl ?_
    walk_at "st"
    refine rd_fldAt g1 T.cl_Letters T.na_Letters_words rfl ?_
    refine ⟨_, _, .tup (st_frz h2) (dp_strs _), .tup (st_frz g2) (dp_strs _), shaped_strs _ h4, shaped_strs _ g4, ?_⟩
    rw [PyData.eqv, eqvAll_strs]
    exact k
end
local macro_rules | `(tactic| walk_at "st1") => `(tactic| with_reducible (first
  | refine rd_seq ?_ | refine rd_op ?_ | refine rd_c ?_ | refine rd_cb ?_ | refine rd_cons ?_ | refine rd_nil ?_ | refine rd_B ?_ | refine rd_test ?_ | refine rd_bl ?_ | refine rd_I0 ?_
  | refine rd_not ?_ | refine rd_and ?_ | refine rd_or ?_ | refine rd_andV ?_ | refine rd_orV ?_ | refine rd_notV ?_ | refine rd_if ?_ | refine rd_chain ?_ | refine rd_un ?_ | refine rd_call ?_
  | refine rd_ifS ?_ | refine rd_asg ?_ | refine rd_drop ?_ | refine rd_ret ?_ | refine rd_next ?_ | refine rd_par ?_ | refine rd_two ?_ | refine rd_tup ?_ | refine rd_lst ?_ | refine rd_fld ?_ | refine rd_dget ?_ | refine rd_dput ?_ | refine rd_sfld ?_
  | refine rd_isiStr ?_ | refine rd_sign ?_ | refine rd_intI ?_ | refine rd_intB ?_ | refine rd_abs ?_ | refine rd_isN' ?_ | refine rd_gname ?_ | refine iteT ?_ | refine iteF ?_ | refine rd_nt ?_ | refine rd_nf ?_  | refine rd_yes ?_ | refine rd_sl ?_ | refine rd_noPart ?_ | refine rd_part ?_ | refine rd_partAt ?_ | refine rd_make ?_ | refine rd_meth ?_ | refine rd_bm ?_ | refine rd_m1 ?_ | refine rd_isS ?_ | refine rd_ifT ?_ | refine rd_tupm ?_ | refine rd_iStr ?_ | refine rd_iStrAt ?_ | refine rd_iList ?_ | refine rd_iTup ?_ | refine rd_iRng1 ?_ | refine rd_iEnum ?_ | refine rd_iEnT ?_ | refine rd_mkO ?_ | refine rd_makeW ?_ | refine rd_callW ?_ | refine rd_methW ?_))
local macro_rules | `(tactic| walk_at "st") => `(tactic| ((repeat (first
  | walk_at "st1"
  | ((with_reducible show L2.tVar _ _ _ _); refine rd_var rfl ?_)
  | ((with_reducible show L2.tAug _ _ _ _ _ _); refine rd_aug rfl ?_)
  | ((with_reducible refine rd_eq ?_ ?_); exact rfl)
  | ((with_reducible refine rd_ne ?_ ?_); exact rfl)))))

abbrev PenK (H : Hp) (pd c : Addr) (B : Nat) : Prop := Pen "cells" "begun" "left" H pd c B
theorem d3 : D3 "cells" "begun" "left" := ⟨by decide +kernel, by decide +kernel, by decide +kernel⟩
section
variable {P : Program} {w : World} {K : PySem.W.Frag} {mg : Str → Option Value} {base : Heap} {a : Ad}
def spPen (K : PySem.W.Frag) : Sp := fun vs H Q _ => ∃ (s : Addr) (ns : List Int), vs = [.ref s] ∧ SqL K H s (ns.map V.int) ∧ ∀ pd c H', H pd = none → H c = none → PenK H' pd c 0 → Ex H H' → Q (.ref pd) H'
theorem cutV_ints (ns : List Int) (lo hi : Option Int) : ∃ ms : List Int, cutV (ns.map V.int) lo hi = ms.map V.int := by
  unfold cutV
  rw [← List.map_drop, ← List.map_take]
  exact ⟨_, rfl⟩
theorem c__law_pen (T : Txt P K mg a) : Cal P w K mg base 1 "_law_pen" ["_law_script"] (spPen K) := by
  obtain ⟨fd, F, b⟩ := T.F__law_pen
  refine ⟨_, _, F.ok sc__law_pen (fun vs H Q E h => ?_) (fun cdv A outer s H vs Q E hr h => ?_), T.g__law_pen, F.kp, b⟩
  · obtain ⟨z, ns, rfl, _⟩ := h
    rfl
  · obtain ⟨z, ns, rfl, hz, k⟩ := h
    refine ⟨_, (pss_one (ps_ret (pe_disp (pps_cons pe_str (pe_callTy call_list_of (by rfl) T.n_list (by decide +kernel) (pa_cons (pe_slice sl_list (pv 0) po_none (po_some pe_int)) pa_nil)) (pps_cons pe_str pe_int (pps_cons pe_str pe_int pps_nil))) (by rfl) (by rfl) (fun z => by cases z) (by decide)))), ?_⟩
    walk_at "st"
    intro pd hpd
    have e0 : Ex H (upd H pd (.dK [])) := Ex.new hpd
    obtain ⟨ms, em⟩ := cutV_ints ns none (some 63)
    show tC (V.str "cells") _ _ _
    walk_at "st"
    refine rd_slL (ex_l e0 hz) (fun m H1 hm e1 h1 => ?_)
    rw [em] at h1
    walk_at "st"
    refine ⟨_, _, rfl, .inl (sq_of h1), fun c hc => ?_⟩
    have e2 := Ex.new (o := .lst (ms.map V.int)) hc
    have h2 : upd H1 c (.lst (ms.map V.int)) c = _ := upd_same
    generalize upd H1 c (.lst (ms.map V.int)) = H2 at e2 h2 ⊢
    show tC (V.str "begun") _ _ _
    walk_at "st"
    show tC (V.str "left") _ _ _
    walk_at "st"
    have hp2 : H2 pd = some (.dK []) := e2 _ _ (e1 _ _ upd_same)
    refine ⟨hp2, pd3 "cells" "begun" "left" (.ref c) (.int 0) (.int 0), rfl, by show 3 ≤ 15; decide, ?_⟩
    rw [d3.m]
    have ncp : c ≠ pd := fun e => by rw [e, e1 _ _ upd_same] at hc; cases hc
    refine k pd c _ hpd (fresh_back e0 (fresh_back e1 hc)) ⟨ms, 0, 0, upd_same, by rw [upd_ne ncp]; exact h2, Int.le_refl _, Int.le_refl _, Int.le_refl _⟩ (Ex.mut ((e0.trans e1).trans e2) hpd)
theorem c__law_draw (T : Txt P K mg a) : Cal P w K mg base 1 "_law_draw" ["_law_pen_here", "_law_many"] (spDraw "cells" "begun" "left") := by
  obtain ⟨fd, F, b⟩ := T.F__law_draw
  refine ⟨_, _, F.ok sc__law_draw (fun vs H Q E h => ?_) (fun cdv A outer s H vs Q E hr h => ?_), T.g__law_draw, F.kp, b⟩
  · obtain ⟨z, c, B, m, rfl, _⟩ := h
    rfl
  · obtain ⟨pd, c, B, m, rfl, ⟨ns, i, r, hp, hc, i0, iB, r0⟩, hB, m0, m1, k⟩ := h
    have hu := hu_of hr
    have ncp : c ≠ pd := ne_of hc hp (by intro z; cases z)
    have dw : ∀ {x : Int}, CDivW x m := fun {x} => wide_div (b := 30) m0 (by omega) (by omega) (by omega)
    refine ⟨_, (pss_cons (ps_if (pt_cmpR op_gt (pe_dget hu (pv 0) pe_str (fun _ _ => rfl)) pe_int (by rfl)) (pss_cons (ps_set (i := 4) sc__law_draw.nd rfl (by first | exact Or.inl rfl | exact Or.inr rfl) (pe_op op_mod (pe_callTy call_int1 (by rfl) T.n_int (by decide +kernel) (pa_cons (pe_dget hu (pv 0) pe_str (fun _ _ => rfl)) pa_nil)) (pv 1)))
    (pss_cons (ps_dput hu (pv 0) pe_str (pe_op op_fdivW (pe_dget hu (pv 0) pe_str (fun _ _ => rfl)) (pv 1)) rfl)
    (pss_one (ps_ret (pv 4))))) pss_nil)
  (pss_cons (ps_par (i := 5) (j := 6) (by rfl) sc__law_draw.nd rfl rfl (by decide) rfl rfl (pa_cons (pe_dget hu (pv 0) pe_str (fun _ _ => rfl)) (pa_cons (pe_callB call_len_seq (by rfl) T.n_len (by decide +kernel) (pa_cons (pe_dget hu (pv 0) pe_str (fun _ _ => rfl)) pa_nil)) pa_nil)) (by rfl))
  (pss_cons (ps_dput hu (pv 0) pe_str (pe_op op_add (pv 5) pe_int) rfl)
  (Evl.pss_cut (ps_set (i := 2) sc__law_draw.nd rfl (by first | exact Or.inl rfl | exact Or.inr rfl) (pe_ifExp (pt_cmpR op_gt (pv 6) pe_int (by rfl)) (pe_ix ix_list (pe_dget hu (pv 0) pe_str (fun _ _ => rfl)) (pe_op op_mod (pe_callTy call_int1 (by rfl) T.n_int (by decide +kernel) (pa_cons (pv 5) pa_nil)) (pv 6)) (fun _ _ => rfl)) (pe_op op_add (pe_op op_mul pe_int (pv 5)) pe_int)))
  (Evl.pss_cut (ps_if (PW.pt (pw_and (pt_cmpR op_lt (pv 5) (pv 6) (by rfl)) (pw_and1 (pt_cmpR op_ge (pe_callB call_abs (by rfl) T.n_abs (by decide +kernel) (pa_cons (pv 2) pa_nil)) (pe_op op_pow pe_int pe_int) (by rfl))))) (pss_cons (ps_dput hu (pv 0) pe_str (pe_op op_fdivW (pe_op op_sub (pe_callB call_abs (by rfl) T.n_abs (by decide +kernel) (pa_cons (pv 2) pa_nil)) (pe_op op_pow pe_int pe_int)) (pv 1)) rfl)
    (pss_one (ps_ret (pe_op op_mod (pe_callTy call_int1 (by rfl) T.n_int (by decide +kernel) (pa_cons (pe_op op_sub (pe_callB call_abs (by rfl) T.n_abs (by decide +kernel) (pa_cons (pv 2) pa_nil)) (pe_op op_pow pe_int pe_int)) pa_nil)) (pv 1))))) pss_nil)
  (pss_cons (ps_set (i := 3) sc__law_draw.nd rfl (by first | exact Or.inl rfl | exact Or.inr rfl) (pe_op op_mod (pe_callTy call_int1 (by rfl) T.n_int (by decide +kernel) (pa_cons (pe_op op_add (pe_op op_add (pe_op op_mul (pe_op op_mod (pe_callTy call_int1 (by rfl) T.n_int (by decide +kernel) (pa_cons (pv 2) pa_nil)) pe_int) pe_int) (pe_op op_mul (pe_op op_mul pe_int (pv 5)) (pv 5))) pe_int) pa_nil)) pe_int))
  (pss_cons (ps_set (i := 3) sc__law_draw.nd rfl (by first | exact Or.inl rfl | exact Or.inr rfl) (pe_op op_mod (pe_callTy call_int1 (by rfl) T.n_int (by decide +kernel) (pa_cons (pe_op op_add (pe_op op_add (pe_op op_add (pe_op op_mul (pv 3) (pv 3)) (pe_op op_mul pe_int (pv 3))) (pe_op op_mul pe_int (pv 5))) pe_int) pa_nil)) pe_int))
  (pss_one (ps_ret (pe_op op_mod (pe_callTy call_int1 (by rfl) T.n_int (by decide +kernel) (pa_cons (pe_op op_fdivW (pe_op op_mod (pe_callTy call_int1 (by rfl) T.n_int (by decide +kernel) (pa_cons (pe_op op_mul (pv 3) (pe_op op_add (pv 3) pe_int)) pa_nil)) pe_int) pe_int) pa_nil)) (pv 1))))))))))), ?_⟩
    walk_at "st"
    refine rd_dgetS hp d3.v3 ?_
    walk_at "st"
    refine ite2 (fun h => ?_) (fun h => ?_)
    · walk_at "st"
      refine rd_dgetS hp d3.v3 ?_
      walk_at "st"
      refine rd_I m0 ?_
      walk_at "st"
      refine rd_dgetS hp d3.v3 ?_
      walk_at "st"
      refine rd_I dw ?_
      walk_at "st"
      refine rd_dputS hp (by show 3 < sizeLine; decide) ?_
      walk_at "st"
      rw [d3.p3]
      refine k _ _ (Int.emod_nonneg _ (by omega)) (Int.emod_lt_of_pos _ m0) ⟨ns, i, r / m, upd_same, by rw [upd_ne ncp]; exact hc, i0, by omega, Int.ediv_nonneg r0 (by omega)⟩ Kx.put
    · walk_at "st"
      refine rd_dgetS hp d3.v2 ?_
      walk_at "st"
      refine rd_dgetS hp d3.v1 ?_
      walk_at "st"
      refine rd_lenL (sq_of hc) ?_
      rw [List.length_map]
      walk_at "st"
      refine rd_dputS hp (by show 3 < sizeLine; decide) ?_
      rw [d3.p2]
      have hp1 : (upd H pd (.dK (pd3 "cells" "begun" "left" (.ref c) (.int (i + 1)) (.int r)))) pd = some (.dK (pd3 "cells" "begun" "left" (.ref c) (.int (i + 1)) (.int r))) := upd_same
      have hc1 : (upd H pd (.dK (pd3 "cells" "begun" "left" (.ref c) (.int (i + 1)) (.int r)))) c = some (.lst (ns.map V.int)) := by rw [upd_ne ncp]; exact hc
      have kx1 : Kx pd H (upd H pd (.dK (pd3 "cells" "begun" "left" (.ref c) (.int (i + 1)) (.int r)))) := Kx.put
      generalize upd H pd (.dK (pd3 "cells" "begun" "left" (.ref c) (.int (i + 1)) (.int r))) = H1 at hp1 hc1 kx1 ⊢
      walk_at "st"
      have pw : CPow 10 18 := ⟨by decide, by decide, by decide⟩
      have lt64 : ∀ (x y : Int), 0 < y → y < 2 ^ 40 → -(2 ^ 64) < x % y ∧ x % y < 2 ^ 64 := fun x y h1 h2 => by
        have := Int.emod_nonneg x (show y ≠ 0 by omega)
        have := Int.emod_lt_of_pos x h1
        omega
      refine ⟨fun σ' H' => ∃ told, σ' = [some (.ref pd), some (.int m), some (.int told), none, none, some (.int i), some (.int (ns.length : Nat))] ∧ H' = H1, ?_, ?_⟩
      · walk_at "st"
        refine ite2 (fun hn => ?_) (fun hn => ?_)
        · have hl : (0 : Int) < (ns.length : Nat) := of_decide_eq_true hn
          walk_at "st"
          refine rd_dgetS hp1 d3.v1 ?_
          walk_at "st"
          refine rd_I hl ?_
          have hb := Int.emod_lt_of_pos i hl
          have ha := Int.emod_nonneg i (show (ns.length : Int) ≠ 0 by omega)
          obtain ⟨v, hv, _, hat⟩ := atI_int (xs := ns.map V.int) (i := i % (ns.length : Int)) ha (by rw [List.length_map]; exact hb)
          obtain ⟨x, _, rfl⟩ := List.mem_map.mp hv
          exact ⟨_, _, _, V.int x, rfl, rfl, sq_of hc1, hat, _, rfl, rfl⟩
        · walk_at "st"
          refine rd_I (.inl ⟨by decide, by decide⟩) ?_
          walk_at "st"
          exact ⟨_, rfl, rfl⟩
      · rintro σ' H' ⟨told, rfl, rfl⟩
        walk_at "st"
        refine ⟨fun σ' H'' => σ' = [some (.ref pd), some (.int m), some (.int told), none, none, some (.int i), some (.int (ns.length : Nat))] ∧ H'' = H', ?_, ?_⟩
        · walk_at "st"
          refine ite2 (fun h1 => ?_) (fun h1 => ?_)
          · walk_at "st"
            refine rd_I pw ?_
            walk_at "st"
            refine ite2 (fun h2 => ?_) (fun h2 => ?_)
            · walk_at "st"
              refine rd_I pw ?_
              walk_at "st"
              refine rd_I dw ?_
              walk_at "st"
              refine rd_dputS hp1 (by show 3 < sizeLine; decide) ?_
              rw [d3.p3]
              walk_at "st"
              refine rd_I pw ?_
              walk_at "st"
              refine rd_I m0 ?_
              refine k _ _ (Int.emod_nonneg _ (by omega)) (Int.emod_lt_of_pos _ m0) ⟨ns, i + 1, _, upd_same, by rw [upd_ne ncp]; exact hc1, by omega, by omega, Int.ediv_nonneg ?_ (by omega)⟩ (kx1.trans Kx.put)
              have := of_decide_eq_true h2
              omega
            · walk_at "st"
              exact ⟨rfl, rfl⟩
          · walk_at "st"
            exact ⟨rfl, rfl⟩
        · rintro σ' H'' ⟨rfl, rfl⟩
          walk_at "st"
          refine rd_I (by show (0 : Int) < 4294967279; decide) ?_
          walk_at "st"
          refine rd_I (.inr ⟨by decide, by decide⟩) ?_
          walk_at "st"
          refine rd_I (.inl ⟨by decide, by decide⟩) ?_
          walk_at "st"
          refine rd_I (.inr ⟨by omega, by omega⟩) ?_
          walk_at "st"
          refine rd_I (by show (0 : Int) < 4294967291; decide) ?_
          walk_at "st"
          refine rd_I (.inl (lt64 _ _ (by decide) (by decide))) ?_
          walk_at "st"
          refine rd_I (.inl ⟨by decide, by decide⟩) ?_
          walk_at "st"
          refine rd_I (.inl ⟨by decide, by decide⟩) ?_
          walk_at "st"
          refine rd_I (by show (0 : Int) < 4294967231; decide) ?_
          walk_at "st"
          refine rd_I (.inl (lt64 _ _ (by decide) (by decide))) ?_
          walk_at "st"
          refine rd_I (by show (0 : Int) < 4294967189; decide) ?_
          walk_at "st"
          refine rd_I (wide_div (b := 30) (by decide) (by decide) (by omega) (by omega)) ?_
          walk_at "st"
          refine rd_I m0 ?_
          exact k _ _ (Int.emod_nonneg _ (by omega)) (Int.emod_lt_of_pos _ m0) ⟨ns, i + 1, r, hp1, hc1, by omega, by omega, r0⟩ kx1
/-! ### pick -/
def spPick : Sp := fun vs H Q _ => ∃ (pd c : Addr) (B : Nat), PenK H pd c B ∧ B < 900000000 ∧
  ((∃ (l : Addr) (xs : List V), vs = [.ref pd, .ref l] ∧ H l = some (.lst xs) ∧ 0 < xs.length ∧ xs.length ≤ 1000 ∧ ∀ x H', x ∈ xs → PenK H' pd c (B + 1) → Kx pd H H' → Q x H') ∨
   (∃ z : Str, vs = [.ref pd, .str z] ∧ 0 < z.length ∧ z.length ≤ 1000 ∧ ∀ d H', d ∈ z.cps.toList → PenK H' pd c (B + 1) → Kx pd H H' → Q (.str ⟨#[d]⟩) H'))
theorem c__law_pick (T : Txt P K mg a) : Cal P w K mg base 2 "_law_pick" ["_law_pen_here", "_law_options"] spPick := by
  obtain ⟨fd, F, b⟩ := T.F__law_pick
  refine ⟨_, _, F.ok sc__law_pick (fun vs H Q E h => ?_) (fun cdv A outer s H vs Q E hr h => ?_), T.g__law_pick, F.kp, b⟩
  · obtain ⟨pd, c, B, _, _, ⟨l, xs, rfl, _⟩ | ⟨z, rfl, _⟩⟩ := h <;> rfl
  · obtain ⟨pd, c, B, hp, hB, h⟩ := h
    rcases h with ⟨l, xs, rfl, hl, x0, x1, k⟩ | ⟨z, rfl, x0, x1, k⟩
    all_goals refine ⟨_, (pss_one (ps_ret (pe_ix ix_seq (pv 1) (pe_callC (c__law_draw T) hr (pa_cons (pv 0) (pa_cons (pe_callB (CallR.or call_len_seq call_len_str) (by rfl) T.n_len (by decide +kernel) (pa_cons (pv 1) pa_nil)) pa_nil))) (fun _ _ => rfl)))), ?_⟩
    · walk_at "st"
      refine .inl (rd_lenL (sq_of hl) ?_)
      walk_at "st"
      refine ⟨pd, c, B, _, rfl, hp, by omega, by omega, by omega, fun r H' r0 r1 p' kx => ?_⟩
      obtain ⟨kvs, hd⟩ := hp.dK
      obtain ⟨v, hv, _, hat⟩ := atI_int (xs := xs) r0 r1
      exact .inl ⟨_, _, _, v, rfl, rfl, sq_of (kx.lst hd hl), hat, k v H' hv p' kx⟩
    · walk_at "st"
      refine .inr (rd_lenS (z := z) (by omega) ?_)
      walk_at "st"
      refine ⟨pd, c, B, _, rfl, hp, by omega, by omega, by omega, fun r H' r0 r1 p' kx => ?_⟩
      obtain ⟨v, hv, _, hat⟩ := atI_int (xs := z.cps.toList) r0 (by rw [len_cps]; exact r1)
      exact .inr (.inr ⟨_, _, v, rfl, rfl, sz_of (by omega), hat, k v H' hv p' kx⟩)
end
local macro_rules | `(tactic| walk_at "st1") => `(tactic| with_reducible (first
  | refine rd_seq ?_ | refine rd_op ?_ | refine rd_c ?_ | refine rd_cb ?_ | refine rd_cons ?_ | refine rd_nil ?_ | refine rd_B ?_ | refine rd_test ?_ | refine rd_bl ?_ | refine rd_I0 ?_
  | refine rd_not ?_ | refine rd_and ?_ | refine rd_or ?_ | refine rd_andV ?_ | refine rd_orV ?_ | refine rd_notV ?_ | refine rd_if ?_ | refine rd_chain ?_ | refine rd_un ?_ | refine rd_call ?_
  | refine rd_ifS ?_ | refine rd_asg ?_ | refine rd_drop ?_ | refine rd_ret ?_ | refine rd_next ?_ | refine rd_par ?_ | refine rd_two ?_ | refine rd_tup ?_ | refine rd_lst ?_ | refine rd_fld ?_ | refine rd_dget ?_ | refine rd_dput ?_ | refine rd_sfld ?_
  | refine rd_isiStr ?_ | refine rd_sign ?_ | refine rd_intI ?_ | refine rd_intB ?_ | refine rd_abs ?_ | refine rd_isN' ?_ | refine rd_gname ?_ | refine iteT ?_ | refine iteF ?_ | refine rd_nt ?_ | refine rd_nf ?_  | refine rd_yes ?_ | refine rd_sl ?_ | refine rd_noPart ?_ | refine rd_part ?_ | refine rd_partAt ?_ | refine rd_make ?_ | refine rd_meth ?_ | refine rd_bm ?_ | refine rd_m1 ?_ | refine rd_isS ?_ | refine rd_ifT ?_ | refine rd_tupm ?_ | refine rd_iStr ?_ | refine rd_iStrAt ?_ | refine rd_iList ?_ | refine rd_iTup ?_ | refine rd_iRng1 ?_ | refine rd_iEnum ?_ | refine rd_iEnT ?_ | refine rd_mkO ?_ | refine rd_makeW ?_ | refine rd_callW ?_ | refine rd_methW ?_))
local macro_rules | `(tactic| walk_at "st") => `(tactic| ((repeat (first
  | walk_at "st1"
  | ((with_reducible show L2.tVar _ _ _ _); refine rd_var rfl ?_)
  | ((with_reducible show L2.tAug _ _ _ _ _ _); refine rd_aug rfl ?_)
  | ((with_reducible refine rd_eq ?_ ?_); exact rfl)
  | ((with_reducible refine rd_ne ?_ ?_); exact rfl)))))

structure GoodW (w : Str) : Prop where
  wd : isWordB w = true
  nb : isBegB w = false
structure Words (n : Nat) (ws : List Str) : Prop where
  len : ws.length = n
  nd : ws.Nodup
  ok : ∀ w ∈ ws, GoodW w
theorem Words.perm {n : Nat} {ws zs : List Str} (h : Words n ws) (p : zs.Perm ws) : Words n zs := ⟨p.length_eq.trans h.len, p.nodup_iff.mpr h.nd, fun w hw => h.ok w (p.mem_iff.mp hw)⟩
abbrev smallL : List Nat := [97, 98, 99, 100, 101, 102, 103, 104, 105, 106, 107, 108, 109, 110, 111, 112, 113, 114, 115, 116, 117, 118, 119, 120, 121, 122]
abbrev signsL : List Nat := smallL ++ [48, 49, 50, 51, 52, 53, 54, 55, 56, 57]
theorem smallS_cps : smallS.cps.toList = smallL := by decide +kernel
theorem signsS_cps : signsS.cps.toList = signsL := by decide +kernel
theorem small_sub {c : Nat} (h : c ∈ smallL) : c ∈ signsL := List.mem_append_left _ h
theorem signs_lt {c : Nat} (h : c ∈ signsL) : c < 123 := by
  simp only [signsL, smallL, List.mem_append, List.mem_cons, List.not_mem_nil, or_false] at h
  omega
theorem GoodW.cps {w : Str} (h : GoodW w) : 1 ≤ w.length ∧ w.length ≤ 12 ∧ (∀ c ∈ w.cps.toList, c ∈ signsL) ∧ ∃ c r, w.cps.toList = c :: r ∧ c ∈ smallL := by
  have := h.wd
  unfold isWordB at this
  rw [smallS_cps, signsS_cps] at this
  simp only [Bool.and_eq_true, decide_eq_true_eq, List.all_eq_true] at this
  obtain ⟨⟨⟨h1, h2⟩, h3⟩, h4⟩ := this
  refine ⟨h1, h2, h4, ?_⟩
  have hl := len_cps w
  cases e : w.cps.toList with
  | nil => rw [e] at hl; simp at hl; omega
  | cons c r => rw [e] at h3; exact ⟨c, r, rfl, h3 c (by simp)⟩
theorem GoodW.so {w : Str} (h : GoodW w) : PyData.strOk w = true := by
  unfold PyData.strOk
  rw [Array.all_eq_true_iff_forall_mem]
  intro c hc
  have := signs_lt (h.cps.2.2.1 c (by simpa using hc))
  exact decide_eq_true (by omega)
/-- a word out of its codes: goodW of (codes, with a 0 behind new and found) -/
def fix0 (w : Str) : Str := w ++ Txt.mul "0" (if inV (.str w) [.str "new", .str "found"] then 1 else 0)
theorem fix0_cps (w : Str) : (fix0 w).cps.toList = w.cps.toList ++ (if isBegB w then [48] else []) := by
  unfold fix0
  rw [app_cps, inV_two]
  show _ ++ (Txt.mul "0" (if isBegB w = true then 1 else 0)).cps.toList = _
  cases isBegB w with
  | true => rw [if_pos rfl, mul_one]; rfl
  | false => rw [if_neg Bool.false_ne_true, mul_zero]; rfl
theorem new_cps : ("new" : Str).cps.toList = [110, 101, 119] := by decide +kernel
theorem found_cps : ("found" : Str).cps.toList = [102, 111, 117, 110, 100] := by decide +kernel
theorem beg_iff (w : Str) : isBegB w = true ↔ w.cps.toList = [110, 101, 119] ∨ w.cps.toList = [102, 111, 117, 110, 100] := by
  unfold isBegB
  simp only [Bool.or_eq_true, decide_eq_true_eq]
  constructor
  · rintro (h | h)
    · exact .inl (h ▸ new_cps)
    · exact .inr (h ▸ found_cps)
  · rintro (h | h)
    · exact .inl (str_ext (h.trans new_cps.symm))
    · exact .inr (str_ext (h.trans found_cps.symm))
theorem good_fix {w : Str} {c : Nat} {r : List Nat} (e : w.cps.toList = c :: r) (hc : c ∈ smallL) (hr : ∀ d ∈ r, d ∈ signsL) (hl : r.length ≤ 11) : GoodW (fix0 w) := by
  have e1 := fix0_cps w
  have lb : isBegB w = true → r.length ≤ 4 := fun hb => by
    rcases (beg_iff w).mp hb with q | q <;> rw [e] at q <;> have q2 := congrArg List.length q <;> simp at q2 <;> omega
  have lt : (if isBegB w then [48] else ([] : List Nat)).length ≤ 1 := by split <;> simp
  have mt : ∀ d ∈ (if isBegB w then [48] else ([] : List Nat)), d ∈ signsL := by
    split
    · intro d hd; simp at hd; subst hd; decide
    · intro d hd; cases hd
  have ll : (fix0 w).length = 1 + r.length + (if isBegB w then [48] else ([] : List Nat)).length := by
    rw [← len_cps, e1, e, List.length_append, List.length_cons]; omega
  constructor
  · unfold isWordB
    rw [smallS_cps, signsS_cps, e1, e]
    simp only [Bool.and_eq_true, decide_eq_true_eq, List.all_eq_true]
    refine ⟨⟨⟨by omega, ?_⟩, ?_⟩, ?_⟩
    · by_cases b : isBegB w = true
      · have := lb b; omega
      · rw [if_neg b] at ll; simp at ll; omega
    · intro d hd
      rw [List.cons_append, List.take_succ_cons, List.take_zero, List.mem_singleton] at hd
      subst hd
      exact hc
    · intro d hd
      rcases List.mem_append.mp hd with h | h
      · rcases List.mem_cons.mp h with h | h
        · subst h; exact small_sub hc
        · exact hr d h
      · exact mt d h
  · rw [Bool.eq_false_iff]
    intro hb
    rcases (beg_iff _).mp hb with h | h
    all_goals
      rw [e1] at h
      by_cases b : isBegB w = true
      · rw [b, if_pos rfl] at h
        rcases (beg_iff w).mp b with q | q <;> rw [q] at h <;> simp at h
      · rw [if_neg b, List.append_nil] at h
        first | exact b ((beg_iff w).mpr (.inl h)) | exact b ((beg_iff w).mpr (.inr h))
theorem cutS_to (z : Str) (n : Nat) (h : n ≤ z.length) : (cutS z none (some (n : Int))).cps.toList = z.cps.toList.take n := by
  unfold cutS
  rw [HT.sIx_none, HT.sIx_nat, Nat.min_eq_left h]
  simp
theorem cutS_from (z : Str) (n : Nat) (h : n ≤ z.length) : (cutS z (some (n : Int)) none).cps.toList = z.cps.toList.drop n := by
  unfold cutS
  rw [HT.sIx_none, HT.sIx_nat, Nat.min_eq_left h]
  have := len_cps z
  simp
  rw [← this]
  rw [List.take_of_length_le (by simp)]
theorem getD_mem {l : List Nat} {i : Nat} (h : i < l.length) : l.getD i 0 ∈ l := by
  simp only [List.getD, List.getElem?_eq_getElem h, Option.getD_some]; exact List.getElem_mem h
/-! ### letters out of words -/
theorem tilde_cps : ("~" : Str).cps.toList = [126] := by decide +kernel
theorem tilde_len : ("~" : Str).length = 1 := by decide +kernel
theorem bare_of {z : Str} {c : Nat} {r : List Nat} (e : z.cps.toList = c :: r) : (bareS z).cps.toList = if c = 126 then r else c :: r := by
  have hl : 1 ≤ z.length := by rw [← len_cps, e]; simp
  have h1 : (cutS z none (some 1)).cps.toList = [c] := by
    have := cutS_to z 1 hl
    rw [e] at this
    exact this
  have h2 : (cutS z (some 1) none).cps.toList = r := by
    have := cutS_from z 1 hl
    rw [e] at this
    exact this
  unfold bareS
  by_cases hc : c = 126
  · have : cutS z none (some 1) = "~" := str_ext (by rw [h1, tilde_cps, hc])
    rw [this, if_pos (by decide +kernel), if_pos hc, h2]
  · have : ¬ V.str (cutS z none (some 1)) = V.str "~" := fun q => hc (by
      have := V.str.inj q
      rw [this, tilde_cps] at h1
      simpa using h1.symm)
    rw [if_neg (by simpa using this), if_neg hc, e]
/-- a word or the way back over it -/
def Mk1 (z : Str) : Prop := ∃ w, GoodW w ∧ (z = w ∨ z = "~" ++ w)
theorem GoodW.bare {w : Str} (h : GoodW w) : bareS w = w ∧ bareS ("~" ++ w) = w := by
  obtain ⟨_, _, _, c, r, e, hc⟩ := h.cps
  have nc : c ≠ 126 := by have := signs_lt (small_sub hc); omega
  refine ⟨str_ext ?_, str_ext ?_⟩
  · rw [bare_of e, if_neg nc, e]
  · have : ("~" ++ w : Str).cps.toList = 126 :: w.cps.toList := by rw [app_cps, tilde_cps]; rfl
    rw [bare_of this, if_pos rfl]
theorem Mk1.good {z : Str} (h : Mk1 z) : GoodW (bareS z) := by
  obtain ⟨w, g, rfl | rfl⟩ := h
  · rw [g.bare.1]; exact g
  · rw [g.bare.2]; exact g
theorem Mk1.eq {z : Str} (h : Mk1 z) : z = bareS z ∨ z = "~" ++ bareS z := by
  obtain ⟨w, g, rfl | rfl⟩ := h
  · rw [g.bare.1]; exact .inl rfl
  · rw [g.bare.2]; exact .inr rfl
theorem Mk1.ok {z : Str} (h : Mk1 z) : isLetterB z = true := by
  have g := h.good
  rw [isLetterB, g.wd, g.nb]; rfl
theorem Mk1.len {z : Str} (h : Mk1 z) : 1 ≤ z.length ∧ z.length ≤ 13 := by
  have g := h.good.cps
  rcases h.eq with e | e
  · rw [e]; omega
  · rw [e, app_len, tilde_len]; omega
theorem Mk1.so {z : Str} (h : Mk1 z) : PyData.strOk z = true := by
  have g := h.good
  unfold PyData.strOk
  rw [Array.all_eq_true_iff_forall_mem]
  intro c hc
  have hc' : c ∈ z.cps.toList := by simpa using hc
  have : c < 127 := by
    rcases h.eq with e | e
    · rw [e] at hc'
      have := signs_lt (g.cps.2.2.1 c hc'); omega
    · rw [e, app_cps, tilde_cps] at hc'
      rcases List.mem_append.mp hc' with q | q
      · simp at q; omega
      · have := signs_lt (g.cps.2.2.1 c q); omega
  exact decide_eq_true (by omega)
theorem take_snoc {α : Type} {l : List α} {i : Nat} {x : α} (h : l[i]? = some x) : l.take (i + 1) = l.take i ++ [x] := by
  rw [List.take_add_one, h]; rfl
/-! ### the drawn letters -/
/-- a row of letters: words of the stock bw, each at most once, each with its way back at most once -/
structure Row (bw : Nat → Str) (zs : List Str) : Prop where
  nd : zs.Nodup
  each : ∀ z ∈ zs, ∃ j, j < zs.length ∧ (z = bw j ∨ z = "~" ++ bw j)
  last : ∀ z, zs.getLast? = some z → cutS z none (some 1) ≠ "~" → ("~" ++ z : Str) ∉ zs
structure Stock (n : Nat) (bw : Nat → Str) : Prop where
  good : ∀ j, j < n → GoodW (bw j)
  inj : ∀ i j, i < n → j < n → bw i = bw j → i = j
variable {n : Nat} {bw : Nat → Str} {zs : List Str}
theorem Stock.back (S : Stock n bw) {i j : Nat} (hi : i < n) (hj : j < n) : (bw i = "~" ++ bw j → False) ∧ ("~" ++ bw i = "~" ++ bw j → i = j) := by
  have bi := (S.good i hi).bare
  have bj := (S.good j hj).bare
  refine ⟨fun e => ?_, fun e => ?_⟩
  · have := congrArg Str.length e
    have h2 : bw i = bw j := by
      have q := congrArg bareS e
      rw [bi.1, bj.2] at q
      exact q
    rw [h2, app_len, tilde_len] at this
    omega
  · have q := congrArg bareS e
    rw [bi.2, bj.2] at q
    exact S.inj i j hi hj q
theorem cut_back (w : Str) : cutS ("~" ++ w) none (some 1) = "~" := by
  have hl : 1 ≤ ("~" ++ w : Str).length := by rw [app_len, tilde_len]; omega
  have := cutS_to ("~" ++ w) 1 hl
  rw [app_cps, tilde_cps] at this
  exact str_ext (this.trans tilde_cps.symm)
theorem Row.nil : Row bw [] := ⟨List.nodup_nil, (fun z h => by cases h), (fun z h => by cases h)⟩
theorem Row.fresh (S : Stock n bw) (R : Row bw zs) (hk : zs.length < n) : bw zs.length ∉ zs ∧ ("~" ++ bw zs.length : Str) ∉ zs := by
  refine ⟨fun h => ?_, fun h => ?_⟩
  · obtain ⟨j, hj, q | q⟩ := R.each _ h
    · have := S.inj _ _ hk (by omega) q; omega
    · exact (S.back hk (by omega)).1 q
  · obtain ⟨j, hj, q | q⟩ := R.each _ h
    · exact (S.back (by omega) hk).1 q.symm
    · have := (S.back hk (by omega)).2 q; omega
theorem Row.plain (S : Stock n bw) (R : Row bw zs) (hk : zs.length < n) : Row bw (zs ++ [bw zs.length]) := by
  have fr := R.fresh S hk
  refine ⟨?_, fun z hz => ?_, fun z hz hb => ?_⟩
  · rw [List.nodup_append]; exact ⟨R.nd, by simp, fun x hx y hy => by rw [List.mem_singleton] at hy; subst hy; exact fun e => fr.1 (e ▸ hx)⟩
  · rw [List.length_append, List.length_singleton]
    rcases List.mem_append.mp hz with h | h
    · obtain ⟨j, hj, q⟩ := R.each z h; exact ⟨j, by omega, q⟩
    · rw [List.mem_singleton] at h; exact ⟨zs.length, by omega, .inl h⟩
  · rw [List.getLast?_concat] at hz
    cases hz
    intro h
    rcases List.mem_append.mp h with h | h
    · exact fr.2 h
    · rw [List.mem_singleton] at h; exact (S.back hk hk).1 h.symm
theorem Row.back (S : Stock n bw) (R : Row bw zs) (hk : zs.length < n) : Row bw (zs ++ ["~" ++ bw zs.length]) := by
  have fr := R.fresh S hk
  refine ⟨?_, fun z hz => ?_, fun z hz hb => ?_⟩
  · rw [List.nodup_append]; exact ⟨R.nd, by simp, fun x hx y hy => by rw [List.mem_singleton] at hy; subst hy; exact fun e => fr.2 (e ▸ hx)⟩
  · rw [List.length_append, List.length_singleton]
    rcases List.mem_append.mp hz with h | h
    · obtain ⟨j, hj, q⟩ := R.each z h; exact ⟨j, by omega, q⟩
    · rw [List.mem_singleton] at h; exact ⟨zs.length, by omega, .inr h⟩
  · rw [List.getLast?_concat] at hz
    cases hz
    exact absurd (cut_back _) hb
/-- the last one again, as its way back -/
theorem Row.again (S : Stock n bw) (R : Row bw zs) (hk : zs.length < n) {z : Str} (hz : zs.getLast? = some z) (hb : cutS z none (some 1) ≠ "~") : Row bw (zs ++ ["~" ++ z]) := by
  have fr := R.last z hz hb
  refine ⟨?_, fun y hy => ?_, fun y hy hc => ?_⟩
  · rw [List.nodup_append]; exact ⟨R.nd, by simp, fun x hx y hy => by rw [List.mem_singleton] at hy; subst hy; exact fun e => fr (e ▸ hx)⟩
  · rw [List.length_append, List.length_singleton]
    rcases List.mem_append.mp hy with h | h
    · obtain ⟨j, hj, q⟩ := R.each y h; exact ⟨j, by omega, q⟩
    · rw [List.mem_singleton] at h
      obtain ⟨j, hj, q | q⟩ := R.each z (List.mem_of_getLast? hz)
      · exact ⟨j, by omega, .inr (by rw [h, q])⟩
      · exact absurd (by rw [q]; exact cut_back _) hb
  · rw [List.getLast?_concat] at hy
    cases hy
    exact absurd (cut_back _) hc
theorem Row.mk1 (S : Stock n bw) (R : Row bw zs) (hk : zs.length ≤ n) : ∀ z ∈ zs, Mk1 z := fun z hz => by
  obtain ⟨j, hj, q⟩ := R.each z hz
  exact ⟨bw j, S.good j (by omega), q⟩
/-- the k-th word ahead of fix0: the stem up to at, a sign, the tail -/
def rawL (at_ : Nat) (f st : Int) (stem : Str) (k : Nat) : Str :=
  (cutS stem none (some (at_ : Int)) ++ ⟨#[if 0 < at_ then signsL.getD ((f + st * k) % 36).toNat 0 else smallL.getD ((f + st * k) % 26).toNat 0]⟩) ++ cutS (cutS stem (some (at_ : Int)) none) none (some (((cutS stem (some (at_ : Int)) none).length : Int) - k * (if decide ((k : Int) < 2) = true then 1 else 0)))
structure LOk (at_ : Nat) (f st : Int) (stem : Str) : Prop where
  f0 : 0 ≤ f
  f1 : f < 36
  s : st = 1 ∨ st = 5 ∨ st = 7 ∨ st = 11 ∨ st = 17 ∨ st = 19 ∨ st = 23 ∨ st = 25
  hd : ∀ c r, stem.cps.toList = c :: r → c ∈ smallL
  sg : ∀ c ∈ stem.cps.toList, c ∈ signsL
  sl : stem.length ≤ 11
  al : at_ ≤ stem.length
theorem cut_sub (z : Str) (lo hi : Option Int) : (∀ c ∈ (cutS z lo hi).cps.toList, c ∈ z.cps.toList) ∧ (cutS z lo hi).length ≤ z.length := by
  refine ⟨fun c hc => ?_, cutS_length z lo hi⟩
  have hc' : c ∈ (z.cps.toList.drop (HT.sIx z.length 0 lo)).take (HT.sIx z.length z.length hi - HT.sIx z.length 0 lo) := by simpa [cutS] using hc
  exact List.mem_of_mem_drop (List.mem_of_mem_take hc')
theorem rawL_cps {at_ : Nat} {f st : Int} {stem : Str} (h : LOk at_ f st stem) (k : Nat) : ∃ c r, (rawL at_ f st stem k).cps.toList = c :: r ∧ c ∈ smallL ∧ (∀ d ∈ r, d ∈ signsL) ∧ r.length ≤ 11 ∧
    (rawL at_ f st stem k).cps.toList[at_]? = some (if 0 < at_ then signsL.getD ((f + st * k) % 36).toNat 0 else smallL.getD ((f + st * k) % 26).toNat 0) := by
  have m36 : ((f + st * k) % 36).toNat < signsL.length := by have : signsL.length = 36 := rfl; omega
  have m26 : ((f + st * k) % 26).toNat < smallL.length := by have : smallL.length = 26 := rfl; omega
  have ls := len_cps stem
  have h2 := h.sl
  have h3 := h.al
  have eA := cutS_to stem at_ h.al
  have eT := cutS_from stem at_ h.al
  have lT : (cutS stem (some (at_ : Int)) none).length = stem.length - at_ := by rw [← len_cps, eT, List.length_drop, ls]
  obtain ⟨sB, lB⟩ := cut_sub (cutS stem (some (at_ : Int)) none) none (some (((cutS stem (some (at_ : Int)) none).length : Int) - k * (if decide ((k : Int) < 2) = true then 1 else 0)))
  unfold rawL
  generalize cutS (cutS stem (some (at_ : Int)) none) none (some (((cutS stem (some (at_ : Int)) none).length : Int) - k * (if decide ((k : Int) < 2) = true then 1 else 0))) = Bt at sB lB ⊢
  have sB2 : ∀ c ∈ Bt.cps.toList, c ∈ signsL := fun c hc => h.sg c (List.mem_of_mem_drop (eT ▸ sB c hc))
  have lB2 := len_cps Bt
  have lA : (stem.cps.toList.take at_).length = at_ := by rw [List.length_take]; omega
  by_cases h0 : 0 < at_
  · simp only [if_pos h0]
    have ms := getD_mem m36
    generalize signsL.getD ((f + st * (k : Int)) % 36).toNat 0 = x at ms ⊢
    have ec : ((cutS stem none (some (at_ : Int)) ++ ⟨#[x]⟩) ++ Bt : Str).cps.toList = stem.cps.toList.take at_ ++ [x] ++ Bt.cps.toList := by rw [app_cps, app_cps, eA]
    obtain ⟨c, r, es⟩ : ∃ c r, stem.cps.toList = c :: r := by
      cases e : stem.cps.toList with
      | nil => rw [e] at ls; simp at ls; omega
      | cons c r => exact ⟨c, r, rfl⟩
    obtain ⟨m, rfl⟩ : ∃ m, at_ = m + 1 := ⟨at_ - 1, by omega⟩
    have lr : r.length + 1 = stem.length := by rw [← ls, es, List.length_cons]
    refine ⟨c, r.take m ++ [x] ++ Bt.cps.toList, ?_, h.hd c r es, fun d hd => ?_, ?_, ?_⟩
    · rw [ec, es]; simp
    · rcases List.mem_append.mp hd with q | q
      · rcases List.mem_append.mp q with q | q
        · exact h.sg d (by rw [es]; exact List.mem_cons_of_mem _ (List.mem_of_mem_take q))
        · rw [List.mem_singleton] at q; rw [q]; exact ms
      · exact sB2 d q
    · simp only [List.length_append, List.length_take, List.length_singleton]; omega
    · rw [ec, List.append_assoc, List.getElem?_append_right (by omega), lA, Nat.sub_self]; rfl
  · have ez : at_ = 0 := by omega
    subst ez
    simp only [Nat.lt_irrefl, if_false]
    have ms := getD_mem m26
    generalize smallL.getD ((f + st * (k : Int)) % 26).toNat 0 = x at ms ⊢
    have ec : ((cutS stem none (some ((0 : Nat) : Int)) ++ ⟨#[x]⟩) ++ Bt : Str).cps.toList = x :: Bt.cps.toList := by rw [app_cps, app_cps, eA]; rfl
    refine ⟨x, Bt.cps.toList, ec, ms, sB2, by omega, ?_⟩
    rw [ec]; rfl
theorem rawL_inj {at_ : Nat} {f st : Int} {stem : Str} (h : LOk at_ f st stem) {k l : Nat} (hk : k < 26) (hl : l < 26) (e : fix0 (rawL at_ f st stem k) = fix0 (rawL at_ f st stem l)) : k = l := by
  have nd36 : signsL.Nodup := by decide
  have nd26 : smallL.Nodup := by decide
  have inj : ∀ (L : List Nat) (i j : Nat), L.Nodup → i < L.length → j < L.length → L.getD i 0 = L.getD j 0 → i = j := fun L i j nd hi hj e => by
    simp only [List.getD, List.getElem?_eq_getElem hi, List.getElem?_eq_getElem hj, Option.getD_some] at e
    rcases Nat.lt_trichotomy i j with c | c | c
    · exact absurd e (List.pairwise_iff_getElem.mp nd i j hi hj c)
    · exact c
    · exact absurd e.symm (List.pairwise_iff_getElem.mp nd j i hj hi c)
  obtain ⟨_, _, _, _, _, _, gk⟩ := rawL_cps h k
  obtain ⟨_, _, _, _, _, _, gl⟩ := rawL_cps h l
  have ge := congrArg (fun z : Str => z.cps.toList[at_]?) e
  simp only [fix0_cps] at ge
  rw [List.getElem?_append_left (List.getElem?_eq_some_iff.mp gk).1, List.getElem?_append_left (List.getElem?_eq_some_iff.mp gl).1, gk, gl] at ge
  have ge := Option.some.inj ge
  have h36 : signsL.length = 36 := rfl
  have h26 : smallL.length = 26 := rfl
  have := h.s
  by_cases h0 : 0 < at_
  · simp only [if_pos h0] at ge
    have q := inj signsL _ _ nd36 (by omega) (by omega) ge
    rcases h.s with s | s | s | s | s | s | s | s <;> subst s <;> omega
  · simp only [if_neg h0] at ge
    have q := inj smallL _ _ nd26 (by omega) (by omega) ge
    rcases h.s with s | s | s | s | s | s | s | s <;> subst s <;> omega
theorem rawL_stock {at_ : Nat} {f st : Int} {stem : Str} (h : LOk at_ f st stem) : Stock 26 fun k => fix0 (rawL at_ f st stem k) :=
  ⟨fun j hj => by obtain ⟨c, r, e, hc, hr, hl, _⟩ := rawL_cps h j; exact good_fix e hc hr hl, fun i j hi hj e => rawL_inj h hi hj e⟩
local macro_rules | `(tactic| walk_at "st1") => `(tactic| with_reducible (first
  | refine rd_seq ?_ | refine rd_op ?_ | refine rd_c ?_ | refine rd_cb ?_ | refine rd_cons ?_ | refine rd_nil ?_ | refine rd_B ?_ | refine rd_test ?_ | refine rd_bl ?_ | refine rd_I0 ?_
  | refine rd_not ?_ | refine rd_and ?_ | refine rd_or ?_ | refine rd_andV ?_ | refine rd_orV ?_ | refine rd_notV ?_ | refine rd_if ?_ | refine rd_chain ?_ | refine rd_un ?_ | refine rd_call ?_
  | refine rd_ifS ?_ | refine rd_asg ?_ | refine rd_drop ?_ | refine rd_ret ?_ | refine rd_next ?_ | refine rd_par ?_ | refine rd_two ?_ | refine rd_tup ?_ | refine rd_lst ?_ | refine rd_fld ?_ | refine rd_dget ?_ | refine rd_dput ?_ | refine rd_sfld ?_
  | refine rd_isiStr ?_ | refine rd_sign ?_ | refine rd_intI ?_ | refine rd_intB ?_ | refine rd_abs ?_ | refine rd_isN' ?_ | refine rd_gname ?_ | refine iteT ?_ | refine iteF ?_ | refine rd_nt ?_ | refine rd_nf ?_  | refine rd_yes ?_ | refine rd_sl ?_ | refine rd_noPart ?_ | refine rd_part ?_ | refine rd_partAt ?_ | refine rd_make ?_ | refine rd_meth ?_ | refine rd_bm ?_ | refine rd_m1 ?_ | refine rd_isS ?_ | refine rd_ifT ?_ | refine rd_tupm ?_ | refine rd_iStr ?_ | refine rd_iStrAt ?_ | refine rd_iList ?_ | refine rd_iTup ?_ | refine rd_iRng1 ?_ | refine rd_iEnum ?_ | refine rd_iEnT ?_ | refine rd_mkO ?_ | refine rd_makeW ?_ | refine rd_callW ?_ | refine rd_methW ?_))
local macro_rules | `(tactic| walk_at "st") => `(tactic| ((repeat (first
  | walk_at "st1"
  | ((with_reducible show L2.tVar _ _ _ _); refine rd_var rfl ?_)
  | ((with_reducible show L2.tAug _ _ _ _ _ _); refine rd_aug rfl ?_)
  | ((with_reducible refine rd_eq ?_ ?_); exact rfl)
  | ((with_reducible refine rd_ne ?_ ?_); exact rfl)))))

section
variable {P : Program} {w : World} {K : PySem.W.Frag} {mg : Str → Option Value} {base : Heap} {a : Ad}
theorem rd_gTup2 {n i j : Nat} {p : Addr} {x y : V} {σ : L2.St} {H : Hp} {R : L2.St → Hp → Prop} (hn : 2 = n) (h : SqT K H p [x, y]) (q : R ((σ.set i (some x)).set j (some y)) H) : gTup K n (gCons (gName i) (gCons (gName j) gNil)) (.ref p) σ H R :=
  ⟨p, [x, y], rfl, h, hn, x, [y], rfl, y, [], rfl, rfl, q⟩
theorem rd_iteVar {b : Bool} {i j : Nat} {u v : V} {σ : L2.St} {H : Hp} {R : V → Hp → Prop} (hi : σ[i]? = some (some u)) (hj : σ[j]? = some (some v)) (r : R (if b = true then u else v) H) : if b = true then tVar i σ H R else tVar j σ H R := by
  cases b with
  | true => exact ⟨u, hi, r⟩
  | false => exact ⟨v, hj, r⟩
theorem rd_par3 {i j l : Nat} {ts : TA} {nx bk ct : L2.St → Hp → Prop} {rt : VK} {σ : L2.St} {H : Hp} (h : ts σ H fun vs H1 => ∃ u v w, vs = [u, v, w] ∧ nx (((σ.set i (some u)).set j (some v)).set l (some w)) H1) : tPar3 i j l ts ⟨nx, rt, bk, ct⟩ σ H := h
theorem rd_three {a b c : V} {R : V → V → V → Prop} (q : R a b c) : ∃ u v w, [a, b, c] = [u, v, w] ∧ R u v w := ⟨a, b, c, rfl, q⟩
theorem fix0_of (w : Str) : fix0 w = if isBegB w = true then w ++ "0" else w := by
  apply str_ext
  rw [fix0_cps]
  by_cases h : isBegB w = true
  · rw [if_pos h, if_pos h, app_cps]; rfl
  · rw [if_neg h, if_neg h, List.append_nil]
/-- [pick(pen, z) for k in range(m)] -/
theorem lc_pick {z0 : Str} {m B0 j : Nat} {H6 : Hp} {σ : L2.St} {pd c : Addr} {Qd : Addr → Hp → Prop} (h0 : 0 < z0.length) (hz : z0.length ≤ 1000) (hm : m ≤ 100) (hB : B0 < 800000000) (p6 : PenK H6 pd c B0)
    (s0 : ∀ x, ((wipe σ [4]).set 4 (some x))[0]? = some (some (.ref pd))) (sj : ∀ x, ((wipe σ [4]).set 4 (some x))[j]? = some (some (.str z0)))
    (q : ∀ D (cs : List Nat) H7, cs.length = m → (∀ x ∈ cs, x ∈ z0.cps.toList) → H6 D = none → H7 D = some (.lst ((cs.map fun x => (⟨#[x]⟩ : Str)).map V.str)) → PenK H7 pd c (B0 + m) → Kx pd H6 H7 → Qd D H7) :
    ∀ D, H6 D = none → ∃ W : Nat → Nat → Hp → Prop, (∃ m, W 0 m (upd H6 D (.lst []))) ∧ ∀ i mm H, W i mm H →
      ((Itr 0 m).stop i H ∧ Qd D H) ∨ ((Itr 0 m).go i H ∧ ∃ Nx : Hp → Prop, (∀ H', Nx H' → ∃ m', m' < mm ∧ W (i + 1) m' H') ∧ ∀ x H', (Itr 0 m).yld i H x H' → gName 4 x (wipe σ [4]) H' fun σ2 H2 => wipe σ2 [4] = wipe σ [4] ∧ tYes σ2 H2 fun b H3 =>
        if b = true then tCall spPick [] E0 (tCons (tVar 0) (tCons (tVar j) tNil)) σ2 H3 fun y H4 => ∃ acc, H4 D = some (.lst acc) ∧ acc.length < sizeLine ∧ Nx (upd H4 D (.lst (acc ++ [y]))) else Nx H3) := by
  intro D hD
  refine lc_yl (yl_range 0 m) (fun i H' => ∃ cs : List Nat, cs.length = i ∧ (∀ x ∈ cs, x ∈ z0.cps.toList) ∧ H' D = some (.lst ((cs.map fun x => (⟨#[x]⟩ : Str)).map V.str)) ∧ PenK H' pd c (B0 + i) ∧ Kx pd H6 H') (fun _ _ _ _ => trivial) ⟨[], rfl, (fun x hx => by cases hx), upd_same, p6.ex (Ex.new hD), Kx.of (Ex.new hD)⟩ (fun i x H7 H8 hi hv e8 yy => ?_) (fun H7 hv => ?_)
  · obtain ⟨cs, lc, hcs, hD7, p7, kx7⟩ := hv
    show wipe ((wipe σ [4]).set 4 (some x)) [4] = wipe σ [4] ∧ _
    refine ⟨wipe1 _, rd_yes (iteT ?_)⟩
    refine rd_call (rd_cons (rd_var (s0 x) (rd_cons (rd_var (sj x) (rd_nil ?_)))))
    have p8 := p7.ex e8
    refine ⟨pd, c, B0 + i, p8, by omega, .inr ⟨_, rfl, h0, hz, fun x H9 hx p9 kx9 => ?_⟩⟩
    obtain ⟨kvs, hk8⟩ := p8.dK
    have hD9 := kx9.lst hk8 (e8 _ _ hD7)
    refine ⟨_, hD9, Nat.lt_of_le_of_lt (show _ ≤ 100 by simp; omega) (by decide), cs ++ [x], by simp [lc], ?_, ?_, ?_, ?_⟩
    · intro y hy
      rcases List.mem_append.mp hy with h | h
      · exact hcs y h
      · rw [List.mem_singleton] at h; subst h; exact hx
    · rw [upd_same, List.map_append, List.map_append]; rfl
    · exact p9.wr (p6.np hD) (p6.nc hD)
    · exact ((kx7.trans (Kx.of e8)).trans kx9).mut hD
  · obtain ⟨cs, lc, hcs, hD7, p7, kx7⟩ := hv
    exact q D cs H7 lc hcs hD hD7 p7 kx7
def spLetters : Sp := fun vs H Q _ => ∃ (pd c : Addr) (B n : Nat), vs = [.ref pd, .int n] ∧ PenK H pd c B ∧ B < 700000000 ∧ n ≤ 14 ∧
  ∀ (zs : List Str) (p : Addr) (H' : Hp), (zs.length = n ∧ zs.Nodup ∧ ∀ z ∈ zs, Mk1 z) → H p = none → H' p = some (.lst (zs.map V.str)) → PenK H' pd c (B + 100) → Kx pd H H' → Q (.ref p) H'
theorem c__law_letters (T : Txt P K mg a) : Cal P w K mg base 3 "_law_letters" ["_law_pen_here", "_law_many"] spLetters := by
  obtain ⟨fd, F, b⟩ := T.F__law_letters
  refine ⟨_, _, F.ok sc__law_letters (fun vs H Q E h => ?_) (fun cdv A outer s H vs Q E hr h => ?_), T.g__law_letters, F.kp, b⟩
  · obtain ⟨pd, c, B, n, rfl, _⟩ := h; rfl
  · obtain ⟨pd, c, B, n, rfl, hp, hB, n2, k⟩ := h
    refine ⟨_, (pss_cons (ps_asg (pe_tup (pa_cons pe_str (pa_cons pe_str pa_nil))) (pg_tup rfl (pgs_cons (pg_name (i := 5) sc__law_letters.nd rfl (by first | exact Or.inl rfl | exact Or.inr rfl)) (pgs_cons (pg_name (i := 6) sc__law_letters.nd rfl (by first | exact Or.inl rfl | exact Or.inr rfl)) pgs_nil))))
  (pss_cons (ps_set (i := 2) sc__law_letters.nd rfl (by first | exact Or.inl rfl | exact Or.inr rfl) (pe_join pe_str (pe_lc (own := [("_law_k", 4)]) (by rfl) sc__law_letters.nd (pi_range1 (by rfl) T.n_range (pa_cons (pe_callB (call_min2 rfl) (by rfl) T.n_min (by decide +kernel) (pa_cons pe_int (pa_cons (pe_callC (c__law_draw T) hr (pa_cons (pv 0) (pa_cons pe_int pa_nil))) pa_nil))) pa_nil)) (blkOk_by (own := [("_law_k", 4)]) (N := N__law_letters) (sc := defScope s__law_letters) (by decide +kernel)) (fun _ _ _ _ _ => (pg_name (i := 4) sc__law_letters.nd rfl (by first | exact Or.inl rfl | exact Or.inr rfl))) (fun _ _ _ _ _ => pts_nil) (fun _ _ _ _ _ => (pe_callC (c__law_pick T) hr (pa_cons (pv 0) (pa_cons (pv 5) pa_nil)))))))
  (pss_cons (ps_set (i := 2) sc__law_letters.nd rfl (by first | exact Or.inl rfl | exact Or.inr rfl) (pe_op op_add_str (pv 2) (pe_join pe_str (pe_lc (own := [("_law_k", 4)]) (by rfl) sc__law_letters.nd (pi_range1 (by rfl) T.n_range (pa_cons (pe_op op_mul (pe_callC (c__law_draw T) hr (pa_cons (pv 0) (pa_cons pe_int pa_nil))) (pe_callB call_len_str (by rfl) T.n_len (by decide +kernel) (pa_cons (pv 2) pa_nil))) pa_nil)) (blkOk_by (own := [("_law_k", 4)]) (N := N__law_letters) (sc := defScope s__law_letters) (by decide +kernel)) (fun _ _ _ _ _ => (pg_name (i := 4) sc__law_letters.nd rfl (by first | exact Or.inl rfl | exact Or.inr rfl))) (fun _ _ _ _ _ => pts_nil) (fun _ _ _ _ _ => (pe_callC (c__law_pick T) hr (pa_cons (pv 0) (pa_cons (pv 6) pa_nil))))))))
  (pss_cons (ps_par (i := 7) (j := 8) (by rfl) sc__law_letters.nd rfl rfl (by decide) rfl rfl (pa_cons (pe_callC (c__law_draw T) hr (pa_cons (pv 0) (pa_cons (pe_op op_add (pe_callB call_len_str (by rfl) T.n_len (by decide +kernel) (pa_cons (pv 2) pa_nil)) pe_int) pa_nil))) (pa_cons (pe_callC (c__law_draw T) hr (pa_cons (pv 0) (pa_cons pe_int pa_nil))) pa_nil)) (by rfl))
  (pss_cons (ps_set (i := 3) sc__law_letters.nd rfl (by first | exact Or.inl rfl | exact Or.inr rfl) (pe_ifExp (pt_cmpR op_gt (pv 7) pe_int (by rfl)) (pv 6) (pv 5)))
  (pss_cons (ps_par3 (i := 9) (j := 10) (l := 11) (by rfl) sc__law_letters.nd rfl rfl rfl (by decide) (by decide) (by decide) rfl rfl rfl (pa_cons (pe_callC (c__law_pick T) hr (pa_cons (pv 0) (pa_cons (pe_lst (pa_cons pe_int (pa_cons pe_int (pa_cons pe_int (pa_cons pe_int (pa_cons pe_int (pa_cons pe_int (pa_cons pe_int (pa_cons pe_int pa_nil))))))))) pa_nil))) (pa_cons (pe_slice sl_str (pv 2) (po_some (pv 7)) po_none) (pa_cons (pe_lst pa_nil) pa_nil))) (by rfl))
  (pss_cons (ps_for PassesOwn.never (by rfl) (pi_range1 (by rfl) T.n_range (pa_cons (pv 1) pa_nil)) (pg_name (i := 4) sc__law_letters.nd rfl (by first | exact Or.inl rfl | exact Or.inr rfl))
    (pss_cons (ps_set (i := 12) sc__law_letters.nd rfl (by first | exact Or.inl rfl | exact Or.inr rfl) (pe_ix ix_str (pv 3) (pe_op op_mod (pe_callTy call_int1 (by rfl) T.n_int (by decide +kernel) (pa_cons (pe_op op_add (pv 8) (pe_op op_mul (pv 9) (pv 4))) pa_nil)) (pe_callB call_len_str (by rfl) T.n_len (by decide +kernel) (pa_cons (pv 3) pa_nil))) (fun _ _ => rfl)))
      (pss_cons (ps_set (i := 13) sc__law_letters.nd rfl (by first | exact Or.inl rfl | exact Or.inr rfl) (pe_op op_add_str (pe_op op_add_str (pe_slice sl_str (pv 2) po_none (po_some (pv 7))) (pv 12)) (pe_slice sl_str (pv 10) po_none (po_some (pe_op op_sub (pe_callB call_len_str (by rfl) T.n_len (by decide +kernel) (pa_cons (pv 10) pa_nil)) (pe_op op_mul (pv 4) (pe_callTy call_int1 (by rfl) T.n_int (by decide +kernel) (pa_cons (pe_cmpR op_lt (pv 4) pe_int (by rfl)) pa_nil))))))))
      (Evl.pss_cut (ps_if (pt_cmpR op_in_seq (pv 13) (pe_tup (pa_cons pe_str (pa_cons pe_str pa_nil))) (by rfl)) (pss_one (ps_set (i := 13) sc__law_letters.nd rfl (by first | exact Or.inl rfl | exact Or.inr rfl) (pe_op op_add_str (pv 13) pe_str))) pss_nil)
      (Evl.pss_cut (ps_if (PW.pt (pw_and (pt_cmpR op_gt (pv 4) pe_int (by rfl)) (pw_and (pt_cmpR op_ne (pe_slice sl_str (pe_ix ix_list (pv 11) (pe_un un_neg pe_int) (fun _ _ => rfl)) po_none (po_some pe_int)) pe_str (by rfl)) (pw_and1 (pt_cmpR op_eq (pe_callC (c__law_draw T) hr (pa_cons (pv 0) (pa_cons pe_int pa_nil))) pe_int (by rfl)))))) (pss_one (ps_set (i := 13) sc__law_letters.nd rfl (by first | exact Or.inl rfl | exact Or.inr rfl) (pe_ix ix_list (pv 11) (pe_un un_neg pe_int) (fun _ _ => rfl)))) pss_nil)
      (pss_one (ps_expr (pe_bm PySem.F.plainAttrs_list PySem.F.slot_list_append PySem.F.type_list_append mt_append (pv 11) (pa_cons (pe_ifExp (PW.pt (pw_and (pt_cmpR op_notIn_seq (pv 13) (pv 11) (by rfl)) (pw_and1 (pt_cmpR op_gt (pe_callC (c__law_draw T) hr (pa_cons (pv 0) (pa_cons pe_int pa_nil))) pe_int (by rfl))))) (pv 13) (pe_op op_add_str pe_str (pv 13))) pa_nil)))))))))
  (pss_one (ps_ret (pv 11)))))))))), ?_⟩
    refine rd_seq (rd_asgG ?_)
    walk_at "st"
    refine ⟨by show 2 ≤ sizeLine; decide, ?_⟩
    intro t ht
    have e1 := Ex.new (o := HO.tup [V.str "abcdefghijklmnopqrstuvwxyz", V.str "abcdefghijklmnopqrstuvwxyz0123456789"]) ht
    have h1 : upd H t (HO.tup [V.str "abcdefghijklmnopqrstuvwxyz", V.str "abcdefghijklmnopqrstuvwxyz0123456789"]) t = some (HO.tup [V.str "abcdefghijklmnopqrstuvwxyz", V.str "abcdefghijklmnopqrstuvwxyz0123456789"]) := upd_same
    generalize upd H t (HO.tup [V.str "abcdefghijklmnopqrstuvwxyz", V.str "abcdefghijklmnopqrstuvwxyz0123456789"]) = H1 at e1 h1 ⊢
    refine rd_gTup2 rfl (st_of h1) ?_
    have p1 := hp.ex e1
    have kx1 : Kx pd H H1 := Kx.of e1
    -- stem, first sign
    walk_at "st"
    refine rd_lc ?_
    walk_at "st"
    refine ⟨pd, c, B, _, rfl, p1, by omega, by decide, by decide, fun q H2 q0 q1 p2 kx2 => ?_⟩
    have kx2' := kx1.trans kx2
    walk_at "st"
    refine ⟨1, q, rfl, ?_⟩
    dsimp only
    walk_at "st"
    obtain ⟨m, em, hm⟩ : ∃ m : Nat, (if q < 1 then q else 1 : Int) = (m : Int) ∧ m ≤ 1 := by
      by_cases h : q < 1
      · exact ⟨0, by rw [if_pos h]; omega, by omega⟩
      · exact ⟨1, by rw [if_neg h]; rfl, Nat.le_refl _⟩
    rw [em]
    refine ⟨by omega, by omega, ?_⟩
    rw [Int.toNat_natCast]
    refine lc_pick (j := 5) (by decide +kernel) (by decide +kernel) (by omega) (by omega) p2 (fun _ => rfl) (fun _ => rfl) (fun D cs H3 lc hcs hD h3 p3 kx3 => ?_)
    have e1j := join_ones cs
    refine ⟨_, _, cs.map (fun x => (⟨#[x]⟩ : Str)), rfl, rfl, .inl (sq_of h3), by rw [ones_len, show ("" : Str).length = 0 by decide +kernel, Nat.mul_zero]; omega, ?_⟩
    generalize Txt.join "" (cs.map fun x => (⟨#[x]⟩ : Str)) = stem1 at e1j ⊢
    have ls1 : stem1.length = m := by rw [← len_cps, e1j, lc]
    have kx3' := kx2'.trans kx3
    -- the further signs
    walk_at "st"
    refine rd_lc ?_
    walk_at "st"
    refine ⟨pd, c, _, _, rfl, p3, by omega, by decide, by decide, fun q2 H4 q20 q21 p4 kx4 => ?_⟩
    have kx4' := kx3'.trans kx4
    walk_at "st"
    refine rd_lenS (z := stem1) (by omega) ?_
    refine rd_I (.inl ⟨by omega, by omega⟩) ?_
    walk_at "st"
    obtain ⟨m2, em2, hm2⟩ : ∃ m2 : Nat, q2 * (stem1.length : Int) = (m2 : Int) ∧ m2 ≤ 10 ∧ (m = 0 → m2 = 0) := by
      rw [ls1]
      rcases Nat.le_one_iff_eq_zero_or_eq_one.mp hm with h | h
      · exact ⟨0, by rw [h]; simp, by omega, fun _ => rfl⟩
      · exact ⟨q2.toNat, by rw [h]; simp; omega, by omega, fun h' => by omega⟩
    rw [em2]
    refine ⟨by omega, by omega, ?_⟩
    rw [Int.toNat_natCast]
    refine lc_pick (j := 6) (by decide +kernel) (by decide +kernel) (by omega) (by omega) p4 (fun _ => rfl) (fun _ => rfl) (fun D2 cs2 H5 lc2 hcs2 hD2 h5 p5 kx5 => ?_)
    have e2j := join_ones cs2
    refine ⟨_, _, cs2.map (fun x => (⟨#[x]⟩ : Str)), rfl, rfl, .inl (sq_of h5), by rw [ones_len, show ("" : Str).length = 0 by decide +kernel, Nat.mul_zero]; omega, ?_⟩
    generalize Txt.join "" (cs2.map fun x => (⟨#[x]⟩ : Str)) = stem2 at e2j ⊢
    have ls2 : stem2.length = m2 := by rw [← len_cps, e2j, lc2]
    have kx5' := kx4'.trans kx5
    refine rd_strs (by omega) ?_
    have esc : (stem1 ++ stem2 : Str).cps.toList = cs ++ cs2 := by rw [app_cps, e1j, e2j]
    have lst : (stem1 ++ stem2 : Str).length = m + m2 := by rw [app_len, ls1, ls2]
    generalize (stem1 ++ stem2 : Str) = stem at esc lst ⊢
    -- at, front
    walk_at "st"
    refine rd_lenS (z := stem) (by omega) ?_
    walk_at "st"
    refine ⟨pd, c, _, _, rfl, p5, by omega, by omega, by omega, fun at_ H6 a0 a1 p6 kx6 => ?_⟩
    walk_at "st"
    refine ⟨pd, c, _, _, rfl, p6, by omega, by decide, by decide, fun f H7 f0 f1 p7 kx7 => ?_⟩
    have kx7' := (kx5'.trans kx6).trans kx7
    obtain ⟨at', rfl⟩ : ∃ n : Nat, at_ = (n : Int) := ⟨at_.toNat, by omega⟩
    walk_at "st"
    refine rd_iteVar rfl rfl ?_
    obtain ⟨ch, ech, cch⟩ : ∃ ch : Str, (if decide ((0 : Int) < (at' : Int)) = true then V.str "abcdefghijklmnopqrstuvwxyz0123456789" else V.str "abcdefghijklmnopqrstuvwxyz") = V.str ch ∧ ch.cps.toList = (if 0 < at' then signsL else smallL) := by
      by_cases h : 0 < at'
      · exact ⟨signsS, by rw [if_pos (decide_eq_true (by omega))], by rw [if_pos h]; exact signsS_cps⟩
      · exact ⟨smallS, by rw [if_neg (by simp; omega)], by rw [if_neg h]; exact smallS_cps⟩
    rw [ech]
    have lch : ch.length = if 0 < at' then 36 else 26 := by rw [← len_cps, cch]; split <;> rfl
    walk_at "st"
    refine rd_par3 ?_
    walk_at "st"
    refine ⟨by show 8 ≤ sizeLine; decide, ?_⟩
    intro l hl
    have e8 := Ex.new (o := HO.lst [V.int 1, V.int 5, V.int 7, V.int 11, V.int 17, V.int 19, V.int 23, V.int 25]) hl
    have h8 : upd H7 l (HO.lst [V.int 1, V.int 5, V.int 7, V.int 11, V.int 17, V.int 19, V.int 23, V.int 25]) l = some (HO.lst [V.int 1, V.int 5, V.int 7, V.int 11, V.int 17, V.int 19, V.int 23, V.int 25]) := upd_same
    generalize upd H7 l (HO.lst [V.int 1, V.int 5, V.int 7, V.int 11, V.int 17, V.int 19, V.int 23, V.int 25]) = H8 at e8 h8 ⊢
    walk_at "st"
    refine ⟨pd, c, _, p7.ex e8, by omega, .inl ⟨l, _, rfl, h8, by decide, by decide, fun sv H9 hsv p9 kx9 => ?_⟩⟩
    obtain ⟨st, rfl, hst⟩ : ∃ st : Int, sv = V.int st ∧ (st = 1 ∨ st = 5 ∨ st = 7 ∨ st = 11 ∨ st = 17 ∨ st = 19 ∨ st = 23 ∨ st = 25) := by
      simp only [List.mem_cons, List.not_mem_nil, or_false] at hsv
      rcases hsv with rfl | rfl | rfl | rfl | rfl | rfl | rfl | rfl
      all_goals exact ⟨_, rfl, by simp⟩
    have kx9' := (kx7'.trans (Kx.of e8)).trans kx9
    walk_at "st"
    refine rd_slS (by omega) ?_
    walk_at "st"
    refine ⟨by show 0 ≤ sizeLine; decide, ?_⟩
    intro G hG
    have e10 := Ex.new (o := HO.lst []) hG
    have h10 : upd H9 G (HO.lst []) G = some (HO.lst []) := upd_same
    generalize upd H9 G (HO.lst []) = H10 at e10 h10 ⊢
    walk_at "st"
    refine rd_three ?_
    have LO : LOk at' f st stem := by
      refine ⟨f0, f1, hst, fun x r es => ?_, fun x hx => ?_, by omega, by omega⟩
      · rw [esc] at es
        have : m = 1 := by
          rcases Nat.le_one_iff_eq_zero_or_eq_one.mp hm with h | h
          · have := hm2.2 h
            have : (cs ++ cs2).length = 0 := by rw [List.length_append, lc, lc2, h, this]
            rw [es] at this; simp at this
          · exact h
        rw [this] at lc
        obtain ⟨y, ey⟩ := List.length_eq_one_iff.mp lc
        rw [ey] at es
        have : x = y := by simp at es; exact es.1.symm
        rw [this]
        exact smallS_cps ▸ hcs y (by rw [ey]; simp)
      · rw [esc] at hx
        rcases List.mem_append.mp hx with h | h
        · exact small_sub (smallS_cps ▸ hcs x h)
        · exact signsS_cps ▸ hcs2 x h
    have SK := rawL_stock LO
    have p10 := p9.ex e10
    have kx10' := kx9'.trans (Kx.of e10)
    have nGd : pd ≠ G := p9.np hG
    have nGc : c ≠ G := p9.nc hG
    obtain ⟨kv9, hd9⟩ := p9.dK
    walk_at "st"
    refine rd_forYl (J := Itr 0 n) (H1 := H10) (fun R r => ⟨_, rfl, _, rfl, by omega, by omega, r⟩) (yl_range 0 n) (fun i σ H' => (∃ v4 v12 v13, σ = [some (.ref pd), some (.int n), some (.str stem), some (.str ch), v4, some (.str "abcdefghijklmnopqrstuvwxyz"), some (.str "abcdefghijklmnopqrstuvwxyz0123456789"), some (.int (at' : Int)), some (.int f), some (.int st), some (.str (cutS stem (some (at' : Int)) none)), some (.ref G), v12, v13]) ∧ ∃ zs : List Str, zs.length = i ∧ Row (fun k => fix0 (rawL at' f st stem k)) zs ∧ H' G = some (.lst (zs.map V.str)) ∧ PenK H' pd c (B + 30 + 2 * i) ∧ Kx pd H9 H') (fun _ _ _ _ _ => trivial) ⟨⟨_, _, _, rfl⟩, [], rfl, .nil, h10, p10.mono (by omega), Kx.of e10⟩ (fun i x σ H11 H12 hi hv e yy => ?_) (fun σ H11 hv => ?_)
    · obtain ⟨⟨v4, v12, v13, rfl⟩, zs, lz, R, g11, p11, kx11⟩ := hv
      subst yy
      rw [Int.zero_add]
      refine rd_gname ?_
      have g12 := e _ _ g11
      have p12 := p11.ex e
      have kx12 := kx11.trans (Kx.of e)
      have st64 : CMul st (i : Int) := .inl (by rcases hst with s | s | s | s | s | s | s | s <;> subst s <;> decide)
      have l0 : (0 : Int) < (ch.length : Nat) := by rw [lch]; split <;> omega
      have ml := Int.emod_lt_of_pos (f + st * (i : Int)) l0
      have mn := Int.emod_nonneg (f + st * (i : Int)) (show ((ch.length : Nat) : Int) ≠ 0 by omega)
      walk_at "st"
      refine rd_I st64 ?_
      walk_at "st"
      refine rd_lenS (z := ch) (by rw [lch]; split <;> omega) ?_
      refine rd_I l0 ?_
      obtain ⟨y, hy, gy, hat⟩ := atI_int (xs := ch.cps.toList) mn (by rw [len_cps]; exact ml)
      refine rd_ixS (by rw [lch]; split <;> omega) hat ?_
      have ey : y = if 0 < at' then signsL.getD ((f + st * (i : Int)) % 36).toNat 0 else smallL.getD ((f + st * (i : Int)) % 26).toNat 0 := by
        rw [cch, lch] at gy
        by_cases h : 0 < at'
        · simp only [if_pos h] at gy ⊢
          have g2 : signsL[((f + st * (i : Int)) % 36).toNat]? = some y := gy
          rw [List.getD, g2]; rfl
        · simp only [if_neg h] at gy ⊢
          have g2 : smallL[((f + st * (i : Int)) % 26).toNat]? = some y := gy
          rw [List.getD, g2]; rfl
      have c1 := cutS_length stem none (some (at' : Int))
      have c2 := cutS_length stem (some (at' : Int)) none
      walk_at "st"
      refine rd_slS (by omega) ?_
      walk_at "st"
      refine rd_strs (by rw [one_len]; omega) ?_
      walk_at "st"
      refine rd_lenS (z := cutS stem (some (at' : Int)) none) (by omega) ?_
      walk_at "st"
      refine rd_I (.inl ⟨by omega, by omega⟩) ?_
      walk_at "st"
      refine rd_slS (by omega) ?_
      have c3 := cutS_length (cutS stem (some (at' : Int)) none) none (some (((cutS stem (some (at' : Int)) none).length : Int) - (i : Int) * (if decide ((i : Int) < 2) = true then 1 else 0)))
      refine rd_strs (by rw [app_len, one_len]; omega) ?_
      have er : (cutS stem none (some (at' : Int)) ++ ⟨#[y]⟩) ++ cutS (cutS stem (some (at' : Int)) none) none (some (((cutS stem (some (at' : Int)) none).length : Int) - (i : Int) * (if decide ((i : Int) < 2) = true then 1 else 0))) = rawL at' f st stem i := by rw [ey]; rfl
      rw [er]
      obtain ⟨rc, rr, erc, _, _, rl, _⟩ := rawL_cps LO i
      have lraw : (rawL at' f st stem i).length ≤ 12 := by rw [← len_cps, erc, List.length_cons]; omega
      dsimp only
      generalize hraw : rawL at' f st stem i = raw at lraw ⊢
      refine ⟨fun σ' H' => σ' = [some (.ref pd), some (.int n), some (.str stem), some (.str ch), some (.int i), some (.str "abcdefghijklmnopqrstuvwxyz"), some (.str "abcdefghijklmnopqrstuvwxyz0123456789"), some (.int (at' : Int)), some (.int f), some (.int st), some (.str (cutS stem (some (at' : Int)) none)), some (.ref G), some (.str ⟨#[y]⟩), some (.str (fix0 raw))] ∧ Ex H12 H', ?_, ?_⟩
      · walk_at "st"
        refine ⟨by show 2 ≤ sizeLine; decide, ?_⟩
        intro t2 ht2
        have e13 := Ex.new (o := HO.tup [V.str "new", V.str "found"]) ht2
        have h13 : upd H12 t2 (HO.tup [V.str "new", V.str "found"]) t2 = some (HO.tup [V.str "new", V.str "found"]) := upd_same
        generalize upd H12 t2 (HO.tup [V.str "new", V.str "found"]) = H13 at e13 h13 ⊢
        refine ⟨_, _, rfl, .inr (st_of h13), rfl, rfl, ?_⟩
        rw [if_neg Bool.false_ne_true, inV_two]
        walk_at "st"
        refine ite2 (fun h => ?_) (fun h => ?_)
        · walk_at "st"
          refine rd_strs (by rw [show ("0" : Str).length = 1 by decide +kernel]; omega) ?_
          refine ⟨?_, e13⟩
          rw [fix0_of, if_pos (show isBegB raw = true from h)]
          rfl
        · walk_at "st"
          refine ⟨?_, e13⟩
          rw [fix0_of, if_neg (show ¬ isBegB raw = true from h)]
          rfl
      · rintro σ' H13 ⟨rfl, e13⟩
        have g13 := e13 _ _ g12
        have p13 := p12.ex e13
        have kx13 := kx12.trans (Kx.of e13)
        walk_at "st"
        refine ⟨fun σ' H' => ∃ W : Str, σ' = [some (.ref pd), some (.int n), some (.str stem), some (.str ch), some (.int i), some (.str "abcdefghijklmnopqrstuvwxyz"), some (.str "abcdefghijklmnopqrstuvwxyz0123456789"), some (.int (at' : Int)), some (.int f), some (.int st), some (.str (cutS stem (some (at' : Int)) none)), some (.ref G), some (.str ⟨#[y]⟩), some (.str W)] ∧ (W = fix0 raw ∨ (zs.getLast? = some W ∧ cutS W none (some 1) ≠ "~")) ∧ H' G = some (.lst (zs.map V.str)) ∧ PenK H' pd c (B + 30 + 2 * i + 1) ∧ Kx pd H9 H', ?_, ?_⟩
        · have stay : ∀ H14, PenK H14 pd c (B + 30 + 2 * i + 1) → Kx pd H13 H14 → ∃ W : Str, ([some (.ref pd), some (.int n), some (.str stem), some (.str ch), some (.int i), some (.str "abcdefghijklmnopqrstuvwxyz"), some (.str "abcdefghijklmnopqrstuvwxyz0123456789"), some (.int (at' : Int)), some (.int f), some (.int st), some (.str (cutS stem (some (at' : Int)) none)), some (.ref G), some (.str ⟨#[y]⟩), some (.str (fix0 raw))] : L2.St) = [some (.ref pd), some (.int n), some (.str stem), some (.str ch), some (.int i), some (.str "abcdefghijklmnopqrstuvwxyz"), some (.str "abcdefghijklmnopqrstuvwxyz0123456789"), some (.int (at' : Int)), some (.int f), some (.int st), some (.str (cutS stem (some (at' : Int)) none)), some (.ref G), some (.str ⟨#[y]⟩), some (.str W)] ∧ (W = fix0 raw ∨ (zs.getLast? = some W ∧ cutS W none (some 1) ≠ "~")) ∧ H14 G = some (.lst (zs.map V.str)) ∧ PenK H14 pd c (B + 30 + 2 * i + 1) ∧ Kx pd H9 H14 := fun H14 p14 kx14 => by
            obtain ⟨kvs, hk⟩ := p13.dK
            exact ⟨_, rfl, .inl rfl, kx14.lst hk g13, p14, kx13.trans kx14⟩
          walk_at "st"
          refine ite2 (fun h1 => ?_) (fun h1 => ?_)
          · obtain ⟨z, hz⟩ : ∃ z, zs.getLast? = some z := by
              have h1' : (0 : Int) < (i : Int) := of_decide_eq_true h1
              cases e : zs.getLast? with
              | none => rw [List.getLast?_eq_none_iff] at e; rw [e] at lz; simp at lz; omega
              | some z => exact ⟨z, rfl⟩
            have hzm := List.mem_of_getLast? hz
            have lz13 := (R.mk1 SK (by omega) z hzm).len
            have hat2 : atI (zs.map V.str) (-1) = some (V.str z) := by
              obtain ⟨ys, rfl⟩ := List.getLast?_eq_some_iff.mp hz
              rw [List.map_append]
              exact atI_last _ _
            walk_at "st"
            refine ⟨1, rfl, _, _, _, _, rfl, rfl, sq_of g13, hat2, ?_⟩
            walk_at "st"
            refine rd_slS (by omega) ?_
            walk_at "st"
            refine ite2 (fun h2 => ?_) (fun h2 => ?_)
            · walk_at "st"
              refine ⟨pd, c, _, _, rfl, p13, by omega, by decide, by decide, fun r H14 r0 r1 p14 kx14 => ?_⟩
              obtain ⟨kvs, hk⟩ := p13.dK
              have g14 := kx14.lst hk g13
              walk_at "st"
              refine ite2 (fun h3 => ?_) (fun h3 => ?_)
              · walk_at "st"
                refine ⟨1, rfl, _, _, _, _, rfl, rfl, sq_of g14, hat2, ?_⟩
                refine ⟨z, rfl, .inr ⟨hz, fun q => ?_⟩, g14, p14, kx13.trans kx14⟩
                rw [q] at h2
                exact absurd h2 (by decide +kernel)
              · walk_at "st"
                exact stay _ p14 kx14
            · walk_at "st"
              exact stay _ (p13.mono (by omega)) (Kx.refl _ _)
          · walk_at "st"
            exact stay _ (p13.mono (by omega)) (Kx.refl _ _)
        · rintro σ' H14 ⟨W, rfl, hW, g14, p14, kx14⟩
          have S14 : Row (fun k => fix0 (rawL at' f st stem k)) zs := R
          have hk26 : zs.length < 26 := by omega
          have ebw : fix0 (rawL at' f st stem zs.length) = fix0 raw := by rw [lz, hraw]
          have fr : fix0 (rawL at' f st stem zs.length) ∉ zs ∧ ("~" ++ fix0 (rawL at' f st stem zs.length) : Str) ∉ zs := R.fresh SK hk26
          rw [ebw] at fr
          have WL : W.length ≤ 13 := by
            rcases hW with h | ⟨h, _⟩
            · have g := SK.good i (by omega)
              have := g.cps.2.1
              rw [h, ← hraw]; omega
            · have := (R.mk1 SK (by omega) W (List.mem_of_getLast? h)).len
              omega
          have lzs : (zs.map V.str).length < sizeLine := Nat.lt_of_le_of_lt (show _ ≤ 100 by rw [List.length_map]; omega) (by decide)
          have done : ∀ (H15 : Hp) (z : Str), H15 G = some (.lst (zs.map V.str)) → PenK H15 pd c (B + 30 + 2 * i + 2) → Kx pd H9 H15 → Row (fun k => fix0 (rawL at' f st stem k)) (zs ++ [z]) →
              ∃ zs' : List Str, zs'.length = i + 1 ∧ Row (fun k => fix0 (rawL at' f st stem k)) zs' ∧ upd H15 G (.lst (zs.map V.str ++ [V.str z])) G = some (.lst (zs'.map V.str)) ∧ PenK (upd H15 G (.lst (zs.map V.str ++ [V.str z]))) pd c (B + 30 + 2 * (i + 1)) ∧ Kx pd H9 (upd H15 G (.lst (zs.map V.str ++ [V.str z]))) := fun H15 z g15 p15 kx15 R15 =>
            ⟨zs ++ [z], by simp [lz], R15, by rw [upd_same, List.map_append]; rfl, (p15.wr nGd nGc).mono (by omega), kx15.mut hG⟩
          have tl : ("~" : Str).length + W.length ≤ 100000 := by rw [tilde_len]; omega
          walk_at "st"
          refine rd_tyL (sq_of g14) ?_
          walk_at "st"
          refine ⟨_, _, rfl, .inl (sq_of g14), rfl, flat_strs _, ?_⟩
          rw [inV_strs, if_pos rfl]
          walk_at "st"
          by_cases hin : W ∈ zs
          · rw [decide_eq_true hin]
            walk_at "st"
            refine rd_strs tl ?_
            dsimp only
            walk_at "st"
            refine rd_append g14 lzs ?_
            refine ⟨⟨_, _, _, rfl⟩, done _ _ g14 (p14.mono (by omega)) kx14 ?_⟩
            rcases hW with h | ⟨h, h2⟩
            · exact absurd (h ▸ hin) fr.1
            · exact R.again SK hk26 h h2
          · have hWf : W = fix0 raw := by
              rcases hW with h | ⟨h, _⟩
              · exact h
              · exact absurd (List.mem_of_getLast? h) hin
            rw [decide_eq_false hin]
            walk_at "st"
            refine ⟨pd, c, _, _, rfl, p14, by omega, by decide, by decide, fun r H15 r0 r1 p15 kx15 => ?_⟩
            obtain ⟨kvs, hk⟩ := p14.dK
            have g15 := kx15.lst hk g14
            walk_at "st"
            refine ite2 (fun h3 => ?_) (fun h3 => ?_)
            · walk_at "st"
              refine rd_append g15 lzs ?_
              refine ⟨⟨_, _, _, rfl⟩, done _ _ g15 p15 (kx14.trans kx15) ?_⟩
              rw [hWf, ← ebw]
              exact R.plain SK hk26
            · walk_at "st"
              refine rd_strs tl ?_
              dsimp only
              walk_at "st"
              refine rd_append g15 lzs ?_
              refine ⟨⟨_, _, _, rfl⟩, done _ _ g15 p15 (kx14.trans kx15) ?_⟩
              rw [hWf, ← ebw]
              exact R.back SK hk26
    · obtain ⟨⟨v4, v12, v13, rfl⟩, zs, lz, R, g11, p11, kx11⟩ := hv
      walk_at "st"
      have hG0 : H G = none := by
        refine kx9'.free ?_ hG
        intro e; exact nGd e.symm
      refine k zs G H11 ⟨lz, R.nd, R.mk1 SK (by omega)⟩ hG0 g11 (p11.mono (by omega)) (kx9'.trans kx11)
end
local macro_rules | `(tactic| walk_at "st1") => `(tactic| with_reducible (first
  | refine rd_seq ?_ | refine rd_op ?_ | refine rd_c ?_ | refine rd_cb ?_ | refine rd_cons ?_ | refine rd_nil ?_ | refine rd_B ?_ | refine rd_test ?_ | refine rd_bl ?_ | refine rd_I0 ?_
  | refine rd_not ?_ | refine rd_and ?_ | refine rd_or ?_ | refine rd_andV ?_ | refine rd_orV ?_ | refine rd_notV ?_ | refine rd_if ?_ | refine rd_chain ?_ | refine rd_un ?_ | refine rd_call ?_
  | refine rd_ifS ?_ | refine rd_asg ?_ | refine rd_drop ?_ | refine rd_ret ?_ | refine rd_next ?_ | refine rd_par ?_ | refine rd_two ?_ | refine rd_tup ?_ | refine rd_lst ?_ | refine rd_fld ?_ | refine rd_dget ?_ | refine rd_dput ?_ | refine rd_sfld ?_
  | refine rd_isiStr ?_ | refine rd_sign ?_ | refine rd_intI ?_ | refine rd_intB ?_ | refine rd_abs ?_ | refine rd_isN' ?_ | refine rd_gname ?_ | refine iteT ?_ | refine iteF ?_ | refine rd_nt ?_ | refine rd_nf ?_  | refine rd_yes ?_ | refine rd_sl ?_ | refine rd_noPart ?_ | refine rd_part ?_ | refine rd_partAt ?_ | refine rd_make ?_ | refine rd_meth ?_ | refine rd_bm ?_ | refine rd_m1 ?_ | refine rd_isS ?_ | refine rd_ifT ?_ | refine rd_tupm ?_ | refine rd_iStr ?_ | refine rd_iStrAt ?_ | refine rd_iList ?_ | refine rd_iTup ?_ | refine rd_iRng1 ?_ | refine rd_iEnum ?_ | refine rd_iEnT ?_ | refine rd_mkO ?_ | refine rd_makeW ?_ | refine rd_callW ?_ | refine rd_methW ?_))
local macro_rules | `(tactic| walk_at "st") => `(tactic| ((repeat (first
  | walk_at "st1"
  | ((with_reducible show L2.tVar _ _ _ _); refine rd_var rfl ?_)
  | ((with_reducible show L2.tAug _ _ _ _ _ _); refine rd_aug rfl ?_)
  | ((with_reducible refine rd_eq ?_ ?_); exact rfl)
  | ((with_reducible refine rd_ne ?_ ?_); exact rfl)))))

section
variable {P : Program} {w : World} {K : PySem.W.Frag} {mg : Str → Option Value} {base : Heap} {a : Ad}
theorem kd_kx {pd : Addr} {H H' : Hp} {v : V} (k : Kd H v) (e : Kx pd H H') (n : v ≠ .ref pd) : Kd H' v := by
  have ne : ∀ {b : Addr}, V.ref b ≠ V.ref pd → b ≠ pd := fun h q => h (by rw [q])
  cases k with
  | str z h => exact .str z h
  | non => exact .non
  | bl b => exact .bl b
  | int i => exact .int i
  | lst h => exact .lst (e _ _ (ne n) h)
  | tup h => exact .tup (e _ _ (ne n) h)
  | dK h => exact .dK (e _ _ (ne n) h)
def spOdd : Sp := fun vs H Q _ => ∃ (pd c l : Addr) (B : Nat) (ws : List Str), vs = [.ref pd, .ref l] ∧ PenK H pd c B ∧ B < 700000000 ∧ H l = some (.lst (ws.map V.str)) ∧ 0 < ws.length ∧ ws.length ≤ 100 ∧ (∀ z ∈ ws, z.length ≤ 20) ∧
  ∀ (x : V) (H' : Hp), Kd H' x → x ≠ .ref pd → inWs x ws = false → PenK H' pd c (B + 3) → Kx pd H H' → Q x H'
theorem c__law_odd (T : Txt P K mg a) : Cal P w K mg base 3 "_law_odd" ["_law_pen_here", "_law_letters_here"] spOdd := by
  obtain ⟨fd, F, b⟩ := T.F__law_odd
  refine ⟨_, _, F.ok sc__law_odd (fun vs H Q E h => ?_) (fun cdv A outer s H vs Q E hr h => ?_), T.g__law_odd, F.kp, b⟩
  · obtain ⟨pd, c, l, B, ws, rfl, _⟩ := h; rfl
  · obtain ⟨pd, c, l, B, ws, rfl, hp, hB, hl, w0, w1, wl, k⟩ := h
    refine ⟨_, (pss_cons (ps_set (i := 2) sc__law_odd.nd rfl (by first | exact Or.inl rfl | exact Or.inr rfl) (pe_callC (c__law_pick T) hr (pa_cons (pv 0) (pa_cons (pv 1) pa_nil))))
  (pss_cons (ps_set (i := 3) sc__law_odd.nd rfl (by first | exact Or.inl rfl | exact Or.inr rfl) (pe_op op_add_str (pv 2) (pe_callC (c__law_pick T) hr (pa_cons (pv 0) (pa_cons pe_str pa_nil)))))
  (pss_cons (ps_set (i := 4) sc__law_odd.nd rfl (by first | exact Or.inl rfl | exact Or.inr rfl) (pe_lst (pa_cons pe_non (pa_cons pe_bl (pa_cons pe_int (pa_cons pe_int (pa_cons (pe_lst (pa_cons (pv 2) pa_nil)) (pa_cons (pe_tup (pa_cons (pv 2) pa_nil)) (pa_cons (pe_disp (pps_cons (pv 2) (pv 2) pps_nil) (by rfl) (by rfl) (fun z => by cases z) (by decide)) (pa_cons pe_str (pa_cons pe_str (pa_cons pe_str (pa_cons (pv 3) (pa_cons (pe_slice sl_str (pv 2) (po_some pe_int) po_none) (pa_cons (pe_upper (pv 2)) (pa_cons (pe_op op_add_str pe_str (pv 2)) pa_nil))))))))))))))))
  (pss_cons (ps_setLc (own := [("_law_value", 6)]) (i := 5) (by rfl) sc__law_odd.nd rfl rfl (sw_true rfl rfl rfl (by decide +kernel)) (pi_list (pv 4)) (blkOk_by (own := [("_law_value", 6)]) (N := N__law_odd) (sc := defScope s__law_odd) (by decide +kernel)) (fun _ _ _ _ _ => (pg_name (i := 6) sc__law_odd.nd rfl (by first | exact Or.inl rfl | exact Or.inr rfl))) (fun _ _ _ _ _ => pts_one (pt_not (PW.pt (pw_and (pt_val (pe_callB (call_isiK' (K := K)) (by rfl) T.n_isinstance (by decide +kernel) (pa_cons (pv 6) (pa_cons (pe_bty "str" T.n_str (by decide +kernel)) pa_nil)))) (pw_and1 (pt_cmpR (op_in_seqK (K := K)) (pv 6) (pv 1) (by rfl))))))) (fun _ _ _ _ _ => (pv 6)))
  (pss_one (ps_ret (pe_callC (c__law_pick T) hr (pa_cons (pv 0) (pa_cons (pv 5) pa_nil))))))))), ?_⟩
    obtain ⟨kv0, hd0⟩ := hp.dK
    walk_at "st"
    refine ⟨pd, c, _, hp, by omega, .inl ⟨l, _, rfl, hl, by rw [List.length_map]; exact w0, by rw [List.length_map]; omega, fun xv H1 hx p1 kx1 => ?_⟩⟩
    obtain ⟨one, hom, rfl⟩ := List.mem_map.mp hx
    have l1 := wl one hom
    have hl1 := kx1.lst hd0 hl
    obtain ⟨kv1, hd1⟩ := p1.dK
    walk_at "st"
    refine ⟨pd, c, _, p1, by omega, .inr ⟨_, rfl, by decide +kernel, by decide +kernel, fun d H2 hd p2 kx2 => ?_⟩⟩
    refine rd_strs (by rw [one_len]; omega) ?_
    have hl2 := kx2.lst hd1 hl1
    have lg : (one ++ ⟨#[d]⟩ : Str).length ≤ 1000 := by rw [app_len, one_len]; omega
    generalize (one ++ ⟨#[d]⟩ : Str) = longer at lg ⊢
    walk_at "st"
    refine ⟨by show 1 ≤ sizeLine; decide, ?_⟩
    intro ol hol
    have e3 := Ex.new (o := HO.lst [V.str one]) hol
    have h3 : upd H2 ol (HO.lst [V.str one]) ol = some (HO.lst [V.str one]) := upd_same
    generalize upd H2 ol (HO.lst [V.str one]) = H3 at e3 h3 ⊢
    walk_at "st"
    refine ⟨by show 1 ≤ sizeLine; decide, ?_⟩
    intro ot hot
    have e4 := Ex.new (o := HO.tup [V.str one]) hot
    have h4 : upd H3 ot (HO.tup [V.str one]) ot = some (HO.tup [V.str one]) := upd_same
    generalize upd H3 ot (HO.tup [V.str one]) = H4 at e4 h4 ⊢
    walk_at "st"
    intro od hod
    have e5 : Ex H4 (upd H4 od (.dK [])) := Ex.new hod
    refine ⟨V.str one, rfl, V.str one, rfl, upd_same, [(Sum.inr one, V.str one)], rfl, by show 1 ≤ 15; decide, ?_⟩
    have ed : Ex H4 (upd (upd H4 od (.dK [])) od (.dK (mergeK [] [(Sum.inr one, V.str one)]))) := fun b o h => by rw [upd_ne (ne_of_none h hod), upd_ne (ne_of_none h hod)]; exact h
    have h5 : upd (upd H4 od (.dK [])) od (.dK (mergeK [] [(Sum.inr one, V.str one)])) od = some (.dK (mergeK [] [(Sum.inr one, V.str one)])) := upd_same
    generalize upd (upd H4 od (.dK [])) od (.dK (mergeK [] [(Sum.inr one, V.str one)])) = H5 at ed h5 ⊢
    generalize mergeK [] [((Sum.inr one : Key), V.str one)] = dk at h5
    dsimp only
    walk_at "st"
    refine rd_slS (by omega) ?_
    have cl := cutS_length one (some 1) none
    walk_at "st"
    refine ⟨V.str one, rfl, ⟨one, rfl⟩, one, rfl, rfl, by omega, ?_⟩
    have ul := PyProof.Rows.len_upper one
    walk_at "st"
    refine rd_strs (by rw [tilde_len]; omega) ?_
    have tl : ("~" ++ one : Str).length ≤ 1000 := by rw [app_len, tilde_len]; omega
    generalize ("~" ++ one : Str) = tone at tl ⊢
    generalize Txt.upper one = up at ul ⊢
    generalize cutS one (some 1) none = co at cl ⊢
    walk_at "st"
    refine ⟨by show 14 ≤ sizeLine; decide, ?_⟩
    intro oi hoi
    have e6 := Ex.new (o := HO.lst [V.non, V.bl true, V.int 0, V.int 1, V.ref ol, V.ref ot, V.ref od, V.str "", V.str "new", V.str "found", V.str longer, V.str co, V.str up, V.str tone]) hoi
    have h6 : upd H5 oi (HO.lst [V.non, V.bl true, V.int 0, V.int 1, V.ref ol, V.ref ot, V.ref od, V.str "", V.str "new", V.str "found", V.str longer, V.str co, V.str up, V.str tone]) oi = some (HO.lst [V.non, V.bl true, V.int 0, V.int 1, V.ref ol, V.ref ot, V.ref od, V.str "", V.str "new", V.str "found", V.str longer, V.str co, V.str up, V.str tone]) := upd_same
    generalize upd H5 oi (HO.lst [V.non, V.bl true, V.int 0, V.int 1, V.ref ol, V.ref ot, V.ref od, V.str "", V.str "new", V.str "found", V.str longer, V.str co, V.str up, V.str tone]) = H6 at e6 h6 ⊢
    have e26 : Ex H2 H6 := ((e3.trans e4).trans ed).trans e6
    have items : ∀ {H' : Hp}, Ex H6 H' → ∀ v ∈ [V.non, V.bl true, V.int 0, V.int 1, V.ref ol, V.ref ot, V.ref od, V.str "", V.str "new", V.str "found", V.str longer, V.str co, V.str up, V.str tone], Kd H' v := fun {H'} e v hv => by
      simp only [List.mem_cons, List.not_mem_nil, or_false] at hv
      rcases hv with rfl | rfl | rfl | rfl | rfl | rfl | rfl | rfl | rfl | rfl | rfl | rfl | rfl | rfl
      · exact .non
      · exact .bl _
      · exact .int _
      · exact .int _
      · exact .lst (e _ _ (e6 _ _ (ed _ _ (e4 _ _ h3))))
      · exact .tup (e _ _ (e6 _ _ (ed _ _ h4)))
      · exact .dK (e _ _ (e6 _ _ h5))
      · exact .str _ (by decide +kernel)
      · exact .str _ (by decide +kernel)
      · exact .str _ (by decide +kernel)
      · exact .str _ lg
      · exact .str _ (by omega)
      · exact .str _ (by omega)
      · exact .str _ tl
    have hl6 := e26 _ _ hl2
    obtain ⟨kv2, hd2⟩ := p2.dK
    have nref : ∀ v ∈ [V.non, V.bl true, V.int 0, V.int 1, V.ref ol, V.ref ot, V.ref od, V.str "", V.str "new", V.str "found", V.str longer, V.str co, V.str up, V.str tone], v ≠ V.ref pd := fun v hv => by
      simp only [List.mem_cons, List.not_mem_nil, or_false] at hv
      have n1 : ol ≠ pd := (ne_of_none hd2 hol).symm
      have n2 : ot ≠ pd := (ne_of_none (e3 _ _ hd2) hot).symm
      have n3 : od ≠ pd := (ne_of_none (e4 _ _ (e3 _ _ hd2)) hod).symm
      rcases hv with rfl | rfl | rfl | rfl | rfl | rfl | rfl | rfl | rfl | rfl | rfl | rfl | rfl | rfl
      all_goals intro q; first | exact n1 (V.ref.inj q) | exact n2 (V.ref.inj q) | exact n3 (V.ref.inj q) | cases q
    generalize hI : [V.non, V.bl true, V.int 0, V.int 1, V.ref ol, V.ref ot, V.ref od, V.str "", V.str "new", V.str "found", V.str longer, V.str co, V.str up, V.str tone] = its at h6 items nref
    have i0 : its[0]? = some V.non := by rw [← hI]; rfl
    have il : its.length = 14 := by rw [← hI]; rfl
    walk_at "st"
    refine rd_lcYl (J := Itl K oi) (H1 := H6) (fun R r => ⟨_, rfl, oi, rfl, ⟨_, sq_of h6⟩, r⟩) (yl_list its) (fun D i H' => H6 D = none ∧ ∃ fs : List V, H' D = some (.lst fs) ∧ (∀ v ∈ fs, v ∈ its ∧ inWs v ws = false) ∧ (0 < i → 0 < fs.length) ∧ fs.length ≤ i ∧ Ex H6 H') (fun D i H' _ p => let ⟨_, _, _, _, _, _, e⟩ := p; sq_of (e _ _ h6)) (fun D hD => ⟨hD, [], upd_same, (fun v hv => by cases hv), (fun h => absurd h (Nat.lt_irrefl _)), Nat.le_refl _, Ex.new hD⟩) (fun D i x H7 H8 hi p e yy => ?_) (fun D H7 p => ?_)
    · obtain ⟨hD, fs, g1, g2, g3, g4, e7⟩ := p
      refine ⟨rfl, ?_⟩
      have e8 := e7.trans e
      have kd := items e8 x (List.mem_of_getElem? yy)
      have yes : inWs x ws = false → ∃ acc, H8 D = some (.lst acc) ∧ acc.length < sizeLine ∧ (H6 D = none ∧ ∃ fs : List V, upd H8 D (.lst (acc ++ [x])) D = some (.lst fs) ∧ (∀ v ∈ fs, v ∈ its ∧ inWs v ws = false) ∧ (0 < i + 1 → 0 < fs.length) ∧ fs.length ≤ i + 1 ∧ Ex H6 (upd H8 D (.lst (acc ++ [x])))) := by
        intro nx
        refine ⟨fs, e _ _ g1, Nat.lt_of_le_of_lt (show _ ≤ 100 by omega) (by decide), hD, fs ++ [x], upd_same, fun v hv => ?_, fun _ => by simp, by simp; omega, Ex.mut e8 hD⟩
        rcases List.mem_append.mp hv with h | h
        · exact g2 v h
        · rw [List.mem_singleton] at h; subst h; exact ⟨List.mem_of_getElem? yy, nx⟩
      walk_at "st"
      refine rd_isiKd kd ?_
      walk_at "st"
      cases hs : isStrV x with
      | false =>
        walk_at "st"
        exact yes (inWs_not hs)
      | true =>
        obtain ⟨z, rfl⟩ := isStrV_iff.mp hs
        walk_at "st"
        refine ⟨_, _, rfl, .inl (sq_of (e8 _ _ hl6)), rfl, flat_strs _, ?_⟩
        rw [inV_strs, if_neg Bool.false_ne_true]
        walk_at "st"
        by_cases hz : z ∈ ws
        · rw [decide_eq_true hz]
          walk_at "st"
          have ipos : 0 < i := by
            rcases Nat.eq_zero_or_pos i with h | h
            · subst h; rw [i0] at yy; cases yy
            · exact h
          exact ⟨hD, fs, e _ _ g1, g2, fun _ => g3 ipos, by omega, e8⟩
        · rw [decide_eq_false hz]
          walk_at "st"
          exact yes (decide_eq_false hz)
    · obtain ⟨hD, fs, g1, g2, g3, g4, e7⟩ := p
      walk_at "st"
      refine ⟨pd, c, _, p2.ex (e26.trans e7), by omega, .inl ⟨D, fs, rfl, g1, g3 (by omega), by omega, fun x H8 hx p8 kx8 => ?_⟩⟩
      exact k x H8 (kd_kx (items e7 x (g2 x hx).1) kx8 (nref x (g2 x hx).1)) (nref x (g2 x hx).1) (g2 x hx).2 p8 (((kx1.trans kx2).trans (Kx.of (e26.trans e7))).trans kx8)
/-! ### what rank tells of a value that is no letter -/
def spNoRank (a : Ad) : Sp := fun us H Q _ => ∃ (p : Addr) (v : V) (ws : List Str), us = [.ref p, v] ∧ LetAt a H p ws ∧ Kd H v ∧ inWs v ws = false ∧ ∀ t H', Ex H H' → H' t = some (.tup [.int 0, .bl true]) → Q (.ref t) H'
theorem c__law_no_rank (T : Txt P K mg a) : Cal P w K mg base 4 "_law_no_rank" ["_law_made", "_law_value"] (spNoRank a) := by
  obtain ⟨fd, F, b⟩ := T.F__law_no_rank
  refine ⟨_, _, F.ok sc__law_no_rank (fun vs H Q E h => ?_) (fun cdv A outer s H us Q E hr h => ?_), T.g__law_no_rank, F.kp, b⟩
  · obtain ⟨p, v, ws, rfl, _⟩ := h; rfl
  · obtain ⟨p, v, ws, rfl, L, kd, no, k⟩ := h
    obtain ⟨dx, t, o, h1, h2, h3, h4⟩ := id L
    refine ⟨_, (pss_cons (ps_try_asM rfl rfl sc__law_no_rank.nd takes_none5 (fun W pn xe tk pw => (pss_one (ps_expr (pe_methX (c_Letters_rank T) hr tk (pv 0) (pa_cons (pv 1) pa_nil)))))
    (HdsA.cons (i := 2) ⟨by rfl, by decide, .inl T.g_BadLetter⟩ rfl rfl (fun xa oe cls d pn hz hd => (pss_one (ps_ret (pe_tup (pa_cons (pe_xf T.xf_BadLetter T.na_BadLetter_index hz hd (pv 2)) (pa_cons (pe_callB (call_isX T.xe_BadLetter hz hd) (by rfl) T.n_isinstance (by decide +kernel) (pa_cons (pv 2) (pa_cons (pe_bty "ValueError" T.n_ValueError (by decide +kernel)) pa_nil))) pa_nil)))))) HdsA.nil))
  (pss_one (ps_ret pe_non))), ?_⟩
    walk_at "st"
    refine ⟨_, _, _, rfl, h1, rfl, ?_⟩
    walk_at "st"
    refine ⟨_, _, _, rfl, L, kd, fun _ d H' hd e h => ?_, fun z ez hz => ?_⟩
    · refine ⟨true, T.em_BadLetter_BadLetter, fun _ ea hea => ?_, fun h => by cases h⟩
      walk_at "st"
      refine ⟨_, rfl, rfl, rfl, d, _, _, rfl, h, rfl, ?_⟩
      walk_at "st"
      refine ⟨rfl, d, _, V.ty "ValueError", .type "ValueError", true, rfl, h, rfl, fun u hu => hu, T.kv_BadLetter, ?_⟩
      walk_at "st"
      exact ⟨by show 2 ≤ sizeLine; decide, fun q hq => k _ _ (e.trans (Ex.new hq)) upd_same⟩
    · subst ez
      exact absurd (decide_eq_true hz) (by show ¬ inWs (V.str z) ws = true; rw [no]; exact Bool.false_ne_true)
end
local macro_rules | `(tactic| walk_at "st1") => `(tactic| with_reducible (first
  | refine rd_seq ?_ | refine rd_op ?_ | refine rd_c ?_ | refine rd_cb ?_ | refine rd_cons ?_ | refine rd_nil ?_ | refine rd_B ?_ | refine rd_test ?_ | refine rd_bl ?_ | refine rd_I0 ?_
  | refine rd_not ?_ | refine rd_and ?_ | refine rd_or ?_ | refine rd_andV ?_ | refine rd_orV ?_ | refine rd_notV ?_ | refine rd_if ?_ | refine rd_chain ?_ | refine rd_un ?_ | refine rd_call ?_
  | refine rd_ifS ?_ | refine rd_asg ?_ | refine rd_drop ?_ | refine rd_ret ?_ | refine rd_next ?_ | refine rd_par ?_ | refine rd_two ?_ | refine rd_tup ?_ | refine rd_lst ?_ | refine rd_fld ?_ | refine rd_dget ?_ | refine rd_dput ?_ | refine rd_sfld ?_
  | refine rd_isiStr ?_ | refine rd_sign ?_ | refine rd_intI ?_ | refine rd_intB ?_ | refine rd_abs ?_ | refine rd_isN' ?_ | refine rd_gname ?_ | refine iteT ?_ | refine iteF ?_ | refine rd_nt ?_ | refine rd_nf ?_  | refine rd_yes ?_ | refine rd_sl ?_ | refine rd_noPart ?_ | refine rd_part ?_ | refine rd_partAt ?_ | refine rd_make ?_ | refine rd_meth ?_ | refine rd_bm ?_ | refine rd_m1 ?_ | refine rd_isS ?_ | refine rd_ifT ?_ | refine rd_tupm ?_ | refine rd_iStr ?_ | refine rd_iStrAt ?_ | refine rd_iList ?_ | refine rd_iTup ?_ | refine rd_iRng1 ?_ | refine rd_iEnum ?_ | refine rd_iEnT ?_ | refine rd_mkO ?_ | refine rd_makeW ?_ | refine rd_callW ?_ | refine rd_methW ?_ | refine rd_bm0 ?_ | refine rd_revL ?_))
local macro_rules | `(tactic| walk_at "st") => `(tactic| ((repeat (first
  | walk_at "st1"
  | ((with_reducible show L2.tVar _ _ _ _); refine rd_var rfl ?_)
  | ((with_reducible show L2.tAug _ _ _ _ _ _); refine rd_aug rfl ?_)
  | ((with_reducible refine rd_eq ?_ ?_); exact rfl)
  | ((with_reducible refine rd_ne ?_ ?_); exact rfl)))))

section
variable {P : Program} {w : World} {K : PySem.W.Frag} {mg : Str → Option Value} {base : Heap} {a : Ad}
/-- Letters of a list or a tuple that is right -/
theorem mk_let {H : Hp} {l : Addr} {ws : List Str} {R : Addr → Hp → Prop} (h : H l = some (.lst (ws.map V.str)) ∨ ∃ o, H l = some (.frz o (.tup (ws.map V.str))) ∧ o.dict = none) (O : LetOk ws) (q : ∀ x H', H x = none → Ex H H' → LetAt a H' x ws → R x H') :
    ∀ x dx, H x = none → H dx = none → dx ≠ x → spLetInit a [.ref x, .ref l] (upd (upd H dx (.own x)) x (.ins a.Letters dx [])) (fun v H2 => v = .non ∧ R x H2) E0 := by
  intro x dx hx hdx ne
  have e0 : Ex H (upd (upd H dx (.own x)) x (.ins a.Letters dx [])) := fun b o h => by rw [upd_ne (ne_of_none h hx), upd_ne (ne_of_none h hdx)]; exact h
  have m := O.most
  have n := O.one
  refine ⟨x, dx, l, _, rfl, upd_same, h.imp (e0 _ _) (fun ⟨o, z, d⟩ => ⟨o, e0 _ _ z, d⟩), fun v hv => ?_, ⟨?_, ?_, ?_⟩, fun _ _ _ t o H' ho h1 h2 kx => ⟨rfl, q x H' hx (fun b o h => kx b o (ne_of_none h hx) (e0 b o h)) ⟨dx, t, o, h2, h1, ho, O.so⟩⟩⟩
  · obtain ⟨z, hz, rfl⟩ := List.mem_map.mp hv
    exact .str z (O.short z hz)
  · intro h; rw [List.length_map] at h; omega
  · intro h; rw [List.length_map] at h; omega
  · intro _ j hj hb
    rw [let_good O j hj] at hb; cases hb
theorem LetAt.kx {H H' : Hp} {p pd : Addr} {ws : List Str} {kvs : List (Key × V)} (l : LetAt a H p ws) (e : Kx pd H H') (hd : H pd = some (.dK kvs)) : LetAt a H' p ws :=
  let ⟨dx, t, o, h1, h2, h3⟩ := l
  ⟨dx, t, o, e _ _ (ne_of h1 hd (by intro z; cases z)) h1, e _ _ (ne_of h2 hd (by intro z; cases z)) h2, h3⟩
theorem LetAt.kl {H H' : Hp} {p g : Addr} {ws : List Str} {xs : List V} (l : LetAt a H p ws) (e : Kx g H H') (hd : H g = some (.lst xs)) : LetAt a H' p ws :=
  let ⟨dx, t, o, h1, h2, h3⟩ := l
  ⟨dx, t, o, e _ _ (ne_of h1 hd (by intro z; cases z)) h1, e _ _ (ne_of h2 hd (by intro z; cases z)) h2, h3⟩
theorem cutV_init {xs : List V} (h : xs ≠ []) : cutV xs none (some (-1)) = xs.dropLast := by
  have hp := List.length_pos_iff.mpr h
  unfold cutV
  have e : HT.sIx xs.length xs.length (some (-1)) = xs.length - 1 := by
    unfold HT.sIx
    simp
    omega
  rw [e, HT.sIx_none, List.dropLast_eq_take]
  simp
theorem cutV_tail {xs : List V} (h : xs ≠ []) : cutV xs (some 1) none = xs.tail := by
  have hp := List.length_pos_iff.mpr h
  unfold cutV
  have e : HT.sIx xs.length 0 (some 1) = 1 := by
    rw [show (1 : Int) = ((1 : Nat) : Int) from rfl, HT.sIx_nat]; omega
  rw [e, HT.sIx_none, List.drop_one]
  exact List.take_of_length_le (by simp)
theorem rev_ne {ws : List Str} (nd : ws.Nodup) (h : 1 < ws.length) : ws ≠ ws.reverse := fun e => by
  have e0 : ws[0] = ws[ws.length - 1] := by
    have : ws[0]? = ws.reverse[0]? := by rw [← e]
    rw [List.getElem?_reverse (by omega), List.getElem?_eq_getElem (by omega), List.getElem?_eq_getElem (by omega)] at this
    simpa using this
  exact List.pairwise_iff_getElem.mp (List.nodup_iff_pairwise_ne.mp nd) 0 (ws.length - 1) (by omega) (by omega) (by omega) e0
theorem LetOk.sub {ws zs : List Str} (O : LetOk ws) (h1 : 1 ≤ zs.length) (h2 : zs.length ≤ ws.length) (h3 : ∀ x ∈ zs, x ∈ ws) (h4 : zs.Nodup) : LetOk zs :=
  ⟨h1, Nat.le_trans h2 O.most, fun x hx => O.ok x (h3 x hx), fun x hx => O.short x (h3 x hx), h4, fun x hx => O.so x (h3 x hx)⟩
theorem ix_at {ws : List Str} (nd : ws.Nodup) {i : Nat} (hi : i < ws.length) : ixOf ws[i] ws = i := by
  refine ixOf_first (List.getElem?_eq_getElem hi) fun m hm e => ?_
  rw [List.getElem?_eq_getElem (by omega)] at e
  exact List.pairwise_iff_getElem.mp (List.nodup_iff_pairwise_ne.mp nd) m i (by omega) hi hm (Option.some.inj e)
/-- what stands in a turn -/
structure Lk (a : Ad) (pd c Li M Tw : Addr) (ws : List Str) (B : Nat) (H : Hp) : Prop where
  pen : PenK H pd c B
  hl : H Li = some (.lst (ws.map V.str))
  made : LetAt a H M ws
  twin : LetAt a H Tw ws
section
variable {pd c Li M Tw : Addr} {ws : List Str} {B B' : Nat} {H H' : Hp}
theorem Lk.ex (x : Lk a pd c Li M Tw ws B H) (e : Ex H H') : Lk a pd c Li M Tw ws B H' := ⟨x.pen.ex e, e _ _ x.hl, x.made.ex e, x.twin.ex e⟩
theorem Lk.mono (x : Lk a pd c Li M Tw ws B H) (h : B ≤ B') : Lk a pd c Li M Tw ws B' H := ⟨x.pen.mono h, x.hl, x.made, x.twin⟩
theorem Lk.kx (x : Lk a pd c Li M Tw ws B H) (e : Kx pd H H') (p : PenK H' pd c B') : Lk a pd c Li M Tw ws B' H' :=
  let ⟨_, hd⟩ := x.pen.dK
  ⟨p, e.lst hd x.hl, x.made.kx e hd, x.twin.kx e hd⟩
end
def spLaw (K : PySem.W.Frag) : Sp := fun vs H Q _ => ∃ (s : Addr) (ns : List Int), vs = [.ref s] ∧ SqL K H s (ns.map V.int) ∧ ∀ H', Q (.bl true) H'
theorem ok_law (T : Txt P K mg a) {fd : FuncData} (F : Fun K "law" "law" s_law a.f_law fd) : FnOkG P w K mg base CX0 9 a.f_law fd ["_law_script"] (spLaw K) := by
  refine okG0 F sc_law (fun vs H Q E h => ?_) (fun cdv A outer s H vs Q E gd hr h => ?_)
  · obtain ⟨z, ns, rfl, _⟩ := h; rfl
  · obtain ⟨z, ns, rfl, hz, k⟩ := h
    refine ⟨_, (pss_cons (ps_set (i := 1) sc_law.nd rfl (by first | exact Or.inl rfl | exact Or.inr rfl) (pe_callC (c__law_pen T) hr (pa_cons (pv 0) pa_nil)))
  (pss_cons (ps_for PassesOwn.never (by rfl) (pi_range1 (by rfl) T.n_range (pa_cons pe_int pa_nil)) (pg_name (i := 2) sc_law.nd rfl (by first | exact Or.inl rfl | exact Or.inr rfl))
    (pss_cons (ps_set (i := 3) sc_law.nd rfl (by first | exact Or.inl rfl | exact Or.inr rfl) (pe_callC (c__law_letters T) hr (pa_cons (pv 1) (pa_cons (pe_op op_add pe_int (pe_callC (c__law_draw T) hr (pa_cons (pv 1) (pa_cons pe_int pa_nil)))) pa_nil))))
      (pss_cons (ps_set (i := 4) sc_law.nd rfl (by first | exact Or.inl rfl | exact Or.inr rfl) (pe_callTy call_list_of (by rfl) T.n_list (by decide +kernel) (pa_cons (pv 3) pa_nil)))
      (pss_cons (ps_asg (pe_tup (pa_cons (pe_makeX0 (c_Letters T) hr (pa_cons (pv 4) pa_nil)) (pa_cons (pe_makeX0 (c_Letters T) hr (pa_cons (pe_callTy call_tuple_frz (by rfl) T.n_tuple (by decide +kernel) (pa_cons (pv 3) pa_nil)) pa_nil)) pa_nil))) (pg_tup rfl (pgs_cons (pg_name (i := 8) sc_law.nd rfl (by first | exact Or.inl rfl | exact Or.inr rfl)) (pgs_cons (pg_name (i := 9) sc_law.nd rfl (by first | exact Or.inl rfl | exact Or.inr rfl)) pgs_nil))))
      (pss_cons (ps_expr (pe_bm0 PySem.F.plainAttrs_list PySem.F.slot_list_reverse PySem.F.type_list_reverse mt_reverse (pv 4)))
      (pss_cons (ps_expr (pe_bm PySem.F.plainAttrs_list PySem.F.slot_list_append PySem.F.type_list_append mt_append (pv 4) (pa_cons pe_str pa_nil)))
      (pss_cons (ps_if (PW.pt (pw_or (pt_cmpR op_ne (pe_callB (call_reprDK (K := K) gd hr.units) (by rfl) T.n_repr (by decide +kernel) (pa_cons (pe_fld (pv 8) rfl) pa_nil)) (pe_callB (call_reprDK (K := K) gd hr.units) (by rfl) T.n_repr (by decide +kernel) (pa_cons (pe_callTy call_tuple_frz (by rfl) T.n_tuple (by decide +kernel) (pa_cons (pv 3) pa_nil)) pa_nil)) (by rfl)) (pw_or (pt_cmpR op_ne (pe_callB (call_lenOwn (c_Letters___len__ T) hr) (by rfl) T.n_len (by decide +kernel) (pa_cons (pv 8) pa_nil)) (pe_callB call_len_seq (by rfl) T.n_len (by decide +kernel) (pa_cons (pv 3) pa_nil)) (by rfl)) (pw_or (pt_cmpR (op_neOwn T.ne_Letters (c_Letters___eq__ T) hr) (pv 8) (pv 9) (by rfl)) (pw_or1 (pt_not (pt_cmpR (op_eqOwn (c_Letters___eq__ T) hr) (pv 8) (pv 9) (by rfl)))))))) (pss_one (ps_ret pe_bl)) pss_nil)
      (pss_cons (ps_if (pt_cmpR (op_neD hr.units) (pe_lc (own := [("_law_k", 11)]) (by rfl) sc_law.nd (pi_range1 (by rfl) T.n_range (pa_cons (pe_callB call_len_seq (by rfl) T.n_len (by decide +kernel) (pa_cons (pv 3) pa_nil)) pa_nil)) (blkOk_by (own := [("_law_k", 11)]) (N := N_law) (sc := defScope s_law) (by decide +kernel)) (fun _ _ _ _ _ => (pg_name (i := 11) sc_law.nd rfl (by first | exact Or.inl rfl | exact Or.inr rfl))) (fun _ _ _ _ _ => pts_one (PW.pt (pw_or (pt_cmpR op_ne (pe_methX0 (c_Letters_rank T) hr (pv 8) (pa_cons (pe_ix (ix_listK (K := K)) (pv 3) (pv 11) (fun _ _ => rfl)) pa_nil)) (pv 11) (by rfl)) (pw_or1 (pt_cmpR op_notBl (pe_cmpR (op_inOwn (c_Letters___contains__ T) hr) (pe_ix (ix_listK (K := K)) (pv 3) (pv 11) (fun _ _ => rfl)) (pv 8) (by rfl)) pe_bl (by rfl)))))) (fun _ _ _ _ _ => (pv 11))) (pe_lst pa_nil) (by rfl)) (pss_one (ps_ret pe_bl)) pss_nil)
      (pss_cons (ps_for PassesOwn.never (by rfl) (pi_range1 (by rfl) T.n_range (pa_cons pe_int pa_nil)) (pg_name (i := 5) sc_law.nd rfl (by first | exact Or.inl rfl | exact Or.inr rfl))
        (pss_cons (ps_set (i := 10) sc_law.nd rfl (by first | exact Or.inl rfl | exact Or.inr rfl) (pe_callC (c__law_odd T) hr (pa_cons (pv 1) (pa_cons (pv 3) pa_nil))))
          (pss_one (ps_if (PW.pt (pw_or (pt_cmpR op_notBl (pe_cmpR (op_inOwn (c_Letters___contains__ T) hr) (pv 10) (pv 8) (by rfl)) pe_bl (by rfl)) (pw_or1 (pt_cmpR (op_neD hr.units) (pe_callC (c__law_no_rank T) hr (pa_cons (pv 8) (pa_cons (pv 10) pa_nil))) (pe_tup (pa_cons pe_int (pa_cons pe_bl pa_nil))) (by rfl))))) (pss_one (ps_ret pe_bl)) pss_nil))))
      (pss_cons (ps_set (i := 6) sc_law.nd rfl (by first | exact Or.inl rfl | exact Or.inr rfl) (pe_op op_cat (pe_slice sl_list (pv 3) po_none (po_some (pe_un un_neg pe_int))) (pe_lst (pa_cons (pe_op op_add_str (pe_ix ix_list (pv 3) pe_int (fun _ _ => rfl)) (pe_op op_mul_str pe_str (pe_callTy call_int1 (by rfl) T.n_int (by decide +kernel) (pa_cons (pe_cmpR op_lt (pe_callB call_len_str (by rfl) T.n_len (by decide +kernel) (pa_cons (pe_ix ix_list (pv 3) pe_int (fun _ _ => rfl)) pa_nil)) pe_int (by rfl)) pa_nil)))) pa_nil))))
      (pss_cons (ps_set (i := 7) sc_law.nd rfl (by first | exact Or.inl rfl | exact Or.inr rfl) (pe_lst (pa_cons (pe_revL (pv 3)) (pa_cons (pe_slice sl_list (pv 3) (po_some pe_int) po_none) (pa_cons (pe_slice sl_list (pv 3) po_none (po_some (pe_un un_neg pe_int))) pa_nil)))))
      (Evl.pss_cut (ps_if (PW.pt (pw_and (pt_cmpR op_gt (pe_callB call_len_seq (by rfl) T.n_len (by decide +kernel) (pa_cons (pv 3) pa_nil)) pe_int (by rfl)) (pw_and1 (pt_cmpR (op_neD hr.units) (pe_lc (own := [("_law_some", 12)]) (by rfl) sc_law.nd (pi_list (pv 7)) (blkOk_by (own := [("_law_some", 12)]) (N := N_law) (sc := defScope s_law) (by decide +kernel)) (fun _ _ _ _ _ => (pg_name (i := 12) sc_law.nd rfl (by first | exact Or.inl rfl | exact Or.inr rfl))) (fun _ _ _ _ _ => pts_one (pt_cmpR (op_eqOwn (c_Letters___eq__ T) hr) (pv 8) (pe_makeX0 (c_Letters T) hr (pa_cons (pv 12) pa_nil)) (by rfl))) (fun _ _ _ _ _ => (pv 12))) (pe_lst pa_nil) (by rfl))))) (pss_one (ps_ret pe_bl)) pss_nil)
      (Evl.pss_cut (ps_if (PW.pt (pw_or (pt_cmpR op_ne (pe_methX0 (c_Letters_rank T) hr (pv 8) (pa_cons (pe_ix ix_list (pv 3) (pe_un un_neg pe_int) (fun _ _ => rfl)) pa_nil)) (pe_op op_sub (pe_callB call_len_seq (by rfl) T.n_len (by decide +kernel) (pa_cons (pv 3) pa_nil)) pe_int) (by rfl)) (pw_or1 (PW.pt (pw_and (pt_cmpR op_notIn_seq (pe_ix ix_list (pv 6) (pe_un un_neg pe_int) (fun _ _ => rfl)) (pv 3) (by rfl)) (pw_and1 (pt_cmpR (op_inOwn (c_Letters___contains__ T) hr) (pe_ix ix_list (pv 6) (pe_un un_neg pe_int) (fun _ _ => rfl)) (pv 8) (by rfl)))))))) (pss_one (ps_ret pe_bl)) pss_nil)
      (pss_one (ps_if (PW.pt (pw_or (pt_val (pe_callB call_isi (by rfl) T.n_isinstance (by decide +kernel) (pa_cons (pe_methX0 (c_Letters_rank T) hr (pv 8) (pa_cons (pe_ix ix_list (pv 3) pe_int (fun _ _ => rfl)) pa_nil)) (pa_cons (pe_bty "bool" T.n_bool (by decide +kernel)) pa_nil)))) (pw_or (pt_not (pt_val (pe_callB call_isi (by rfl) T.n_isinstance (by decide +kernel) (pa_cons (pe_fld (pv 8) rfl) (pa_cons (pe_bty "tuple" T.n_tuple (by decide +kernel)) pa_nil))))) (pw_or1 (pt_cmpR (op_neD hr.units) (pe_fld (pv 8) rfl) (pe_fld (pv 9) rfl) (by rfl)))))) (pss_one (ps_ret pe_bl)) pss_nil)))))))))))))))
  (pss_one (ps_ret pe_bl)))), ?_⟩
    walk_at "st"
    refine ⟨z, ns, rfl, hz, fun pd c H1 hpd hc p1 e1 => ?_⟩
    walk_at "st"
    refine rd_forYl (J := Itr 0 4) (H1 := H1) (fun R r => ⟨_, rfl, by decide, by decide, r⟩) (yl_range 0 4) (fun i σ H' => (∃ v2 v3 v4 v5 v6 v7 v8 v9 v10, σ = [some (.ref z), some (.ref pd), v2, v3, v4, v5, v6, v7, v8, v9, v10, none, none]) ∧ PenK H' pd c (200 * i)) (fun _ _ _ _ _ => trivial) ⟨⟨_, _, _, _, _, _, _, _, _, rfl⟩, p1⟩ (fun i x σ H2 H3 hi hv e yy => ?_) (fun σ H2 hv => ?_)
    · obtain ⟨⟨v2, v3, v4, v5, v6, v7, v8, v9, v10, rfl⟩, p2⟩ := hv
      have p3 := p2.ex e
      refine rd_gname ?_
      walk_at "st"
      refine ⟨pd, c, _, _, rfl, p3, by omega, by decide, by decide, fun r H4 r0 r1 p4 kx4 => ?_⟩
      walk_at "st"
      obtain ⟨n, en, n1, n2⟩ : ∃ n : Nat, 1 + r = (n : Int) ∧ 1 ≤ n ∧ n ≤ 12 := ⟨(1 + r).toNat, by omega, by omega, by omega⟩
      rw [en]
      refine ⟨pd, c, _, n, rfl, p4, by omega, by omega, fun ws Li H5 hws hL h5 p5 kx5 => ?_⟩
      obtain ⟨lw, ndw, mkw⟩ := hws
      have O : LetOk ws := ⟨by omega, by omega, fun x hx => (mkw x hx).ok, fun x hx => by have := (mkw x hx).len; omega, ndw, fun x hx => (mkw x hx).so⟩
      walk_at "st"
      refine ⟨Li, _, rfl, .inl (sq_of h5), ?_⟩
      intro G hG
      have e6 := Ex.new (o := HO.lst (ws.map V.str)) hG
      have h6 : upd H5 G (HO.lst (ws.map V.str)) G = some (HO.lst (ws.map V.str)) := upd_same
      generalize upd H5 G (HO.lst (ws.map V.str)) = H6 at e6 h6 ⊢
      refine rd_seq (rd_asgG ?_)
      walk_at "st"
      refine mk_let (.inl h6) O fun M H7 hM e7 l7 => ?_
      walk_at "st"
      refine ⟨Li, _, rfl, .inl ⟨sq_of (e7 _ _ (e6 _ _ h5)), fun t o ht ho => ?_⟩⟩
      have e8 := Ex.new (o := HO.frz o (.tup (ws.map V.str))) ht
      have h8 : upd H7 t (HO.frz o (.tup (ws.map V.str))) t = some (HO.frz o (.tup (ws.map V.str))) := upd_same
      generalize upd H7 t (HO.frz o (.tup (ws.map V.str))) = H8 at e8 h8 ⊢
      walk_at "st"
      refine mk_let (.inr ⟨o, h8, ho⟩) O fun Tw H9 hTw e9 l9 => ?_
      walk_at "st"
      refine ⟨by show 2 ≤ sizeLine; decide, ?_⟩
      intro tt htt
      have e10 := Ex.new (o := HO.tup [V.ref M, V.ref Tw]) htt
      have h10 : upd H9 tt (HO.tup [V.ref M, V.ref Tw]) tt = some (HO.tup [V.ref M, V.ref Tw]) := upd_same
      generalize upd H9 tt (HO.tup [V.ref M, V.ref Tw]) = H10 at e10 h10 ⊢
      refine rd_gTup2 rfl (st_of h10) ?_
      have e510 := (((e6.trans e7).trans e8).trans e9).trans e10
      have S0 : Lk a pd c Li M Tw ws (200 * i + 101) H10 := ⟨p5.ex e510, e510 _ _ h5, l7.ex ((e8.trans e9).trans e10), l9.ex e10⟩
      have h610 := ((e7.trans e8).trans (e9.trans e10)) _ _ h6
      walk_at "st"
      refine rd_tyL (sq_of h610) ?_
      refine ⟨G, _, rfl, rfl, h610, ?_⟩
      have kG : ∀ {o : HO} {H' : Hp}, H' = upd H10 G o → Lk a pd c Li M Tw ws (200 * i + 101) H' := fun {o H'} e => by
        have kx : Kx G H10 H' := by rw [e]; exact Kx.put
        obtain ⟨kvs, hk⟩ := S0.pen.dK
        refine ⟨?_, kx _ _ (ne_of_none h5 hG) S0.hl, S0.made.kl kx h610, S0.twin.kl kx h610⟩
        rw [e]
        exact S0.pen.wr (ne_of hk h610 (by intro q; cases q)) (p5.nc hG)
      have S1 := kG rfl (o := .lst (ws.map V.str).reverse)
      have h11 : upd H10 G (.lst (ws.map V.str).reverse) G = some (.lst (ws.map V.str).reverse) := upd_same
      walk_at "st"
      refine rd_tyL (sq_of h11) ?_
      walk_at "st"
      refine rd_append h11 (Nat.lt_of_le_of_lt (show _ ≤ 1000 by simp; omega) (by decide)) ?_
      have S2 : Lk a pd c Li M Tw ws (200 * i + 101) (upd (upd H10 G (.lst (ws.map V.str).reverse)) G (.lst ((ws.map V.str).reverse ++ [V.str "z"]))) := kG (o := .lst ((ws.map V.str).reverse ++ [V.str "z"])) (by
        funext b
        by_cases hb : b = G
        · rw [hb, upd_same, upd_same]
        · rw [upd_ne hb, upd_ne hb, upd_ne hb])
      generalize upd (upd H10 G (.lst (ws.map V.str).reverse)) G (.lst ((ws.map V.str).reverse ++ [V.str "z"])) = H12 at S2 ⊢
      clear S1 kG h11
      obtain ⟨dxm, tm, om, m1, m2, m3, m4⟩ := id S2.made
      obtain ⟨dxt, ttw, otw, w1, w2, w3, w4⟩ := id S2.twin
      walk_at "st"
      refine rd_fldAt m1 T.cl_Letters T.na_Letters_words rfl ?_
      walk_at "st"
      have shw : ShN (.tuple (ws.map PyData.str)) 40 1000000 := (sh_tuple (m := 12) (sh_strs (k := 13) (m := 0) O.so fun x hx => (mkw x hx).len.2) (by simp; omega)).mono (by decide) (by decide)
      refine rd_repr (.tup (st_frz m2) (dp_strs _)) shw ?_
      walk_at "st"
      refine ⟨Li, _, rfl, .inl ⟨sq_of S2.hl, fun t o ht ho => ?_⟩⟩
      have e13 := Ex.new (o := HO.frz o (.tup (ws.map V.str))) ht
      have h13 : upd H12 t (HO.frz o (.tup (ws.map V.str))) t = some (HO.frz o (.tup (ws.map V.str))) := upd_same
      generalize upd H12 t (HO.frz o (.tup (ws.map V.str))) = H13 at e13 h13 ⊢
      walk_at "st"
      refine rd_repr (.tup (st_frz h13) (dp_strs _)) shw ?_
      walk_at "st"
      rw [decide_eq_true rfl]
      have S3 := S2.ex e13
      walk_at "st"
      refine ⟨M, _, _, rfl, e13 _ _ m1, _, _, rfl, S3.made, ws.length, rfl, by omega, ?_⟩
      walk_at "st"
      refine rd_lenL (sq_of S3.hl) ?_
      rw [List.length_map]
      walk_at "st"
      rw [decide_eq_true rfl]
      walk_at "st"
      refine ⟨_, _, _, _, _, _, rfl, rfl, e13 _ _ m1, e13 _ _ w1, _, _, _, _, rfl, S3.made, S3.twin, _, rfl, ?_⟩
      rw [decide_eq_true rfl]
      walk_at "st"
      refine ⟨_, _, _, _, _, _, rfl, rfl, e13 _ _ m1, e13 _ _ w1, _, _, _, _, rfl, S3.made, S3.twin, _, rfl, ?_⟩
      rw [decide_eq_true rfl]
      walk_at "st"
      refine rd_nt ?_
      walk_at "st"
      have inM : ∀ {i : Nat} (hi : i < ws.length), inWs (V.str ws[i]) ws = true := fun hi => decide_eq_true (List.getElem_mem hi)
      refine rd_lcYl (J := Itr 0 ws.length) (H1 := H13) (fun R r => ⟨_, rfl, Li, _, rfl, .inl (sq_of S3.hl), _, rfl, by rw [List.length_map]; omega, by rw [List.length_map]; omega, by rw [List.length_map]; exact r⟩) (yl_range 0 ws.length) (fun D i H' => H13 D = none ∧ Ex H13 H' ∧ H' D = some (.lst [])) (fun _ _ _ _ _ => trivial) (fun D hD => ⟨hD, Ex.new hD, upd_same⟩) (fun D q u H14 H15 hq p e15 yy2 => ?_) (fun D H14 p => ?_)
      · obtain ⟨hD, e14, g14⟩ := p
        rw [show (0 : Int) + q = ((q : Nat) : Int) by omega] at yy2
        subst yy2
        refine ⟨rfl, ?_⟩
        have e1315 := e14.trans e15
        have S5 := S3.ex e1315
        have hat : atI (ws.map V.str) ((q : Nat) : Int) = some (V.str ws[q]) := atI_nat (by rw [List.getElem?_map, List.getElem?_eq_getElem hq]; rfl)
        have kq : Kd H15 (V.str ws[q]) := .str _ (O.short _ (List.getElem_mem hq))
        walk_at "st"
        refine ⟨M, _, _, rfl, e1315 _ _ (e13 _ _ m1), rfl, ?_⟩
        walk_at "st"
        refine ⟨Li, _, _, _, rfl, rfl, sq_of S5.hl, hat, ?_⟩
        walk_at "st"
        refine ⟨_, _, _, rfl, S5.made, kq, (fun h => by rw [inM hq] at h; cases h), fun y ey hy => ?_⟩
        cases ey
        rw [ix_at ndw hq]
        walk_at "st"
        rw [decide_eq_true rfl]
        walk_at "st"
        refine ⟨Li, _, _, _, rfl, rfl, sq_of S5.hl, hat, ?_⟩
        walk_at "st"
        refine ⟨_, _, _, rfl, e1315 _ _ (e13 _ _ m1), _, _, _, rfl, S5.made, kq, _, rfl, ?_⟩
        rw [inM hq]
        walk_at "st"
        refine ⟨true, true, rfl, rfl, ?_⟩
        rw [decide_eq_true rfl]
        walk_at "st"
        exact ⟨hD, e1315, e15 _ _ g14⟩
      obtain ⟨hD, e14, g14⟩ := p
      walk_at "st"
      refine ⟨by show 0 ≤ sizeLine; decide, ?_⟩
      intro em1 hem1
      have e15 := Ex.new (o := HO.lst []) hem1
      have h15 : upd H14 em1 (HO.lst []) em1 = some (HO.lst []) := upd_same
      generalize upd H14 em1 (HO.lst []) = H15 at e15 h15 ⊢
      refine ⟨.list [], .list [], .lst (sq_of (e15 _ _ g14)) .nil, .lst (sq_of h15) .nil, by decide +kernel, by decide +kernel, ?_⟩
      rw [show (!PyData.eqv (.list []) (.list [])) = false from rfl]
      walk_at "st"
      have S5 := S3.ex (e14.trans e15)
      refine rd_forYl (J := Itr 0 4) (H1 := H15) (fun R r => ⟨_, rfl, by decide, by decide, r⟩) (yl_range 0 4) (fun j σ' H' => (∃ v5 v10, σ' = [some (.ref z), some (.ref pd), some x, some (.ref Li), some (.ref G), v5, v6, v7, some (.ref M), some (.ref Tw), v10, none, none]) ∧ Lk a pd c Li M Tw ws (200 * i + 101 + 10 * j) H') (fun _ _ _ _ _ => trivial) ⟨⟨_, _, rfl⟩, S5⟩ (fun j y σ' H16 H17 hj hv e17 yy2 => ?_) (fun σ' H16 hv => ?_)
      · obtain ⟨⟨v5, v10, rfl⟩, S6⟩ := hv
        have S7 := S6.ex e17
        refine rd_gname ?_
        walk_at "st"
        refine ⟨pd, c, Li, _, ws, rfl, S7.pen, by omega, S7.hl, by omega, by omega, fun z hz => by have := (mkw z hz).len; omega, fun xv H18 kdx nx no p18 kx18 => ?_⟩
        have S8 := S7.kx kx18 p18
        obtain ⟨dx8, t8, o8, q1, q2, q3, q4⟩ := id S8.made
        walk_at "st"
        refine ⟨_, _, _, rfl, q1, _, _, _, rfl, S8.made, kdx, _, rfl, ?_⟩
        rw [no]
        walk_at "st"
        refine ⟨false, false, rfl, rfl, ?_⟩
        rw [decide_eq_true rfl]
        walk_at "st"
        refine ⟨M, xv, ws, rfl, S8.made, kdx, no, fun t9 H19 e19 h19 => ?_⟩
        walk_at "st"
        refine ⟨by show 2 ≤ sizeLine; decide, ?_⟩
        intro o9 ho9
        have e20 := Ex.new (o := HO.tup [V.int 0, V.bl true]) ho9
        have h20 : upd H19 o9 (HO.tup [V.int 0, V.bl true]) o9 = some (HO.tup [V.int 0, V.bl true]) := upd_same
        generalize upd H19 o9 (HO.tup [V.int 0, V.bl true]) = H20 at e20 h20 ⊢
        refine ⟨.tuple [.int 0, .bool true], .tuple [.int 0, .bool true], .tup (st_of (e20 _ _ h19)) (.cons (.int _) (.cons (.bl _) .nil)), .tup (st_of h20) (.cons (.int _) (.cons (.bl _) .nil)), by decide +kernel, by decide +kernel, ?_⟩
        rw [show (!PyData.eqv (.tuple [.int 0, .bool true]) (.tuple [.int 0, .bool true])) = false from rfl]
        walk_at "st"
        exact ⟨⟨_, _, rfl⟩, (S8.ex (e19.trans e20)).mono (by omega)⟩
      obtain ⟨⟨v5, v10, rfl⟩, S6⟩ := hv
      walk_at "st"
      have wne : ws.map V.str ≠ [] := by intro q; have := congrArg List.length q; simp at this; rw [this] at lw; simp at lw; omega
      obtain ⟨w0, wr, ew⟩ : ∃ w0 wr, ws = w0 :: wr := by
        cases ws with
        | nil => exact absurd rfl wne
        | cons x y => exact ⟨x, y, rfl⟩
      have hw0 : w0 ∈ ws := by rw [ew]; exact List.mem_cons_self ..
      have at0 : atI (ws.map V.str) 0 = some (V.str w0) := by rw [ew]; exact atI_nat (j := 0) rfl
      have lw0 := (mkw w0 hw0).len
      refine ⟨1, rfl, _, rfl, ?_⟩
      refine rd_slL (sq_of S6.hl) (fun s1 H17 hs1 e17 g17 => ?_)
      rw [cutV_init wne, ← List.map_dropLast] at g17
      have S7 := S6.ex e17
      walk_at "st"
      refine ⟨Li, _, _, _, rfl, rfl, sq_of S7.hl, at0, ?_⟩
      walk_at "st"
      refine ⟨Li, _, _, _, rfl, rfl, sq_of S7.hl, at0, ?_⟩
      walk_at "st"
      refine rd_lenS (z := w0) (by omega) ?_
      walk_at "st"
      generalize hb : (if decide (((w0.length : Nat) : Int) < 12) = true then (1 : Int) else 0) = bq
      have bq1 : 0 ≤ bq ∧ bq ≤ 1 := by rw [← hb]; split <;> decide
      refine rd_mulS (by decide +kernel) (by omega) (by omega) ?_
      have lq : (Txt.mul "q" bq).length ≤ 1 := by
        rcases (show bq = 0 ∨ bq = 1 by omega) with q | q <;> rw [q] <;> decide +kernel
      refine rd_strs (by omega) ?_
      have lwq : (w0 ++ Txt.mul "q" bq).length ≤ 14 := by rw [app_len]; omega
      generalize w0 ++ Txt.mul "q" bq = wq at lwq ⊢
      walk_at "st"
      refine ⟨by show 1 ≤ sizeLine; decide, ?_⟩
      intro s2 hs2
      have e18 := Ex.new (o := HO.lst [V.str wq]) hs2
      have g18 : upd H17 s2 (HO.lst [V.str wq]) s2 = some (HO.lst [V.str wq]) := upd_same
      generalize upd H17 s2 (HO.lst [V.str wq]) = H18 at e18 g18 ⊢
      refine rd_cat (e18 _ _ g17) g18 (by simp; omega) fun Ot H19 hOt e19 g19 => ?_
      have S9 := S7.ex (e18.trans e19)
      walk_at "st"
      refine ⟨Li, _, rfl, sq_of S9.hl, ?_⟩
      rw [← List.map_reverse]
      intro x1 hx1
      have e20 := Ex.new (o := HO.lst (ws.reverse.map V.str)) hx1
      have g20 : upd H19 x1 (HO.lst (ws.reverse.map V.str)) x1 = some (HO.lst (ws.reverse.map V.str)) := upd_same
      generalize upd H19 x1 (HO.lst (ws.reverse.map V.str)) = H20 at e20 g20 ⊢
      walk_at "st"
      refine rd_slL (sq_of (e20 _ _ S9.hl)) (fun x2 H21 hx2 e21 g21 => ?_)
      rw [cutV_tail wne, ← List.map_tail] at g21
      walk_at "st"
      refine ⟨1, rfl, _, rfl, ?_⟩
      refine rd_slL (sq_of (e21 _ _ (e20 _ _ S9.hl))) (fun x3 H22 hx3 e22 g22 => ?_)
      rw [cutV_init wne, ← List.map_dropLast] at g22
      walk_at "st"
      refine ⟨by show 3 ≤ sizeLine; decide, ?_⟩
      intro ex hex
      have e23 := Ex.new (o := HO.lst [V.ref x1, V.ref x2, V.ref x3]) hex
      have g23 : upd H22 ex (HO.lst [V.ref x1, V.ref x2, V.ref x3]) ex = some (HO.lst [V.ref x1, V.ref x2, V.ref x3]) := upd_same
      generalize upd H22 ex (HO.lst [V.ref x1, V.ref x2, V.ref x3]) = H23 at e23 g23 ⊢
      have S10 := S9.ex (((e20.trans e21).trans e22).trans e23)
      have g19' := (((e20.trans e21).trans e22).trans e23) _ _ g19
      walk_at "st"
      refine ⟨fun σ' H' => Lk a pd c Li M Tw ws (200 * i + 141) H' ∧ H' Ot = some (.lst (ws.dropLast.map V.str ++ [V.str wq])) ∧ ∃ v7, σ' = [some (.ref z), some (.ref pd), some x, some (.ref Li), some (.ref G), v5, some (.ref Ot), v7, some (.ref M), some (.ref Tw), v10, none, none], ?_, ?_⟩
      · walk_at "st"
        refine rd_lenL (sq_of S10.hl) ?_
        rw [List.length_map]
        walk_at "st"
        refine ite2 (fun h1 => ?_) (fun h1 => ?_)
        · have l2 : 1 < ws.length := by have := of_decide_eq_true h1; omega
          walk_at "st"
          refine rd_lcYl (J := Itl K ex) (H1 := H23) (fun R r => ⟨_, rfl, ex, rfl, ⟨_, sq_of g23⟩, r⟩) (yl_list _) (fun D q H' => H23 D = none ∧ Ex H23 H' ∧ H' D = some (.lst [])) (fun D q H' _ p => sq_of (p.2.1 _ _ g23)) (fun D hD => ⟨hD, Ex.new hD, upd_same⟩) (fun D q u H24 H25 hq p e25 yy2 => ?_) (fun D H24 p => ?_)
          · obtain ⟨hD, e24, g24⟩ := p
            have e2325 := e24.trans e25
            have S11 := S10.ex e2325
            have hu : ∃ (xa : Addr) (zs : List Str), u = .ref xa ∧ H25 xa = some (.lst (zs.map V.str)) ∧ LetOk zs ∧ ws ≠ zs := by
              have hm := List.mem_of_getElem? yy2
              have nds := List.nodup_iff_pairwise_ne.mp ndw
              simp only [List.mem_cons, List.not_mem_nil, or_false] at hm
              rcases hm with rfl | rfl | rfl
              · exact ⟨x1, ws.reverse, rfl, e2325 _ _ (e23 _ _ (e22 _ _ (e21 _ _ g20))), O.sub (by simp; omega) (by simp) (fun x hx => List.mem_reverse.mp hx) ((List.reverse_perm ws).nodup_iff.mpr ndw), rev_ne ndw l2⟩
              · exact ⟨x2, ws.tail, rfl, e2325 _ _ (e23 _ _ (e22 _ _ g21)), O.sub (by simp; omega) (by simp) (fun x hx => List.mem_of_mem_tail hx) (ndw.sublist (List.tail_sublist _)), fun q => by have := congrArg List.length q; simp at this; omega⟩
              · exact ⟨x3, ws.dropLast, rfl, e2325 _ _ (e23 _ _ g22), O.sub (by simp; omega) (by simp) (fun x hx => (List.dropLast_sublist _).subset hx) (ndw.sublist (List.dropLast_sublist _)), fun q => by have := congrArg List.length q; simp at this; omega⟩
            obtain ⟨xa, zs, rfl, gx, Oz, nz⟩ := hu
            refine ⟨rfl, ?_⟩
            walk_at "st"
            refine mk_let (.inl gx) Oz fun N H26 hN e26 l26 => ?_
            have S12 := S11.ex e26
            obtain ⟨dxm', tm', om', m1', m2', m3', m4'⟩ := id S12.made
            obtain ⟨dxn, tn, on, n1', n2', n3', n4'⟩ := id l26
            refine ⟨_, _, _, _, _, _, rfl, rfl, m1', n1', _, _, _, _, rfl, S12.made, l26, _, rfl, ?_⟩
            rw [decide_eq_false nz]
            walk_at "st"
            exact ⟨hD, e2325.trans e26, e26 _ _ (e25 _ _ g24)⟩
          · obtain ⟨hD, e24, g24⟩ := p
            walk_at "st"
            refine ⟨by show 0 ≤ sizeLine; decide, ?_⟩
            intro em1 hem1
            have e25 := Ex.new (o := HO.lst []) hem1
            have h25 : upd H24 em1 (HO.lst []) em1 = some (HO.lst []) := upd_same
            generalize upd H24 em1 (HO.lst []) = H25 at e25 h25 ⊢
            refine ⟨.list [], .list [], .lst (sq_of (e25 _ _ g24)) .nil, .lst (sq_of h25) .nil, by decide +kernel, by decide +kernel, ?_⟩
            rw [show (!PyData.eqv (.list []) (.list [])) = false from rfl]
            walk_at "st"
            exact ⟨S10.ex (e24.trans e25), (e24.trans e25) _ _ g19', _, rfl⟩
        · walk_at "st"
          exact ⟨S10, g19', _, rfl⟩
      · rintro σ' H24 ⟨S11, gO, v7, rfl⟩
        walk_at "st"
        obtain ⟨dxm', tm', om', m1', m2', m3', m4'⟩ := id S11.made
        obtain ⟨dxn, tn, on, n1', n2', n3', n4'⟩ := id S11.twin
        have hl : ws.length - 1 < ws.length := by omega
        have hlast : atI (ws.map V.str) (-1) = some (V.str ws[ws.length - 1]) := by
          have e : ws = ws.dropLast ++ [ws[ws.length - 1]] := by
            have hne : ws ≠ [] := fun q => wne (by rw [q]; rfl)
            rw [← List.getLast_eq_getElem hne]
            exact (List.dropLast_concat_getLast hne).symm
          conv => lhs; rw [e]
          rw [List.map_append]
          exact atI_last _ _
        refine ⟨fun σ' H' => Lk a pd c Li M Tw ws (200 * i + 141) H' ∧ σ' = [some (.ref z), some (.ref pd), some x, some (.ref Li), some (.ref G), v5, some (.ref Ot), v7, some (.ref M), some (.ref Tw), v10, none, none], ?_, ?_⟩
        · walk_at "st"
          refine ⟨M, _, _, rfl, m1', rfl, ?_⟩
          walk_at "st"
          refine ⟨1, rfl, Li, _, _, _, rfl, rfl, sq_of S11.hl, hlast, ?_⟩
          walk_at "st"
          refine ⟨_, _, _, rfl, S11.made, .str _ (O.short _ (List.getElem_mem hl)), (fun h => by rw [inM hl] at h; cases h), fun y ey hy => ?_⟩
          cases ey
          rw [ix_at ndw hl]
          walk_at "st"
          refine rd_lenL (sq_of S11.hl) ?_
          rw [List.length_map]
          walk_at "st"
          rw [show ((ws.length : Nat) : Int) - 1 = ((ws.length - 1 : Nat) : Int) by omega, decide_eq_true rfl]
          walk_at "st"
          refine ⟨1, rfl, Ot, _, _, _, rfl, rfl, sq_of gO, atI_last _ _, ?_⟩
          walk_at "st"
          refine ⟨Li, _, rfl, .inl (sq_of S11.hl), rfl, flat_strs _, ?_⟩
          rw [inV_strs, if_pos rfl]
          walk_at "st"
          by_cases hq : wq ∈ ws
          · rw [decide_eq_true hq]
            walk_at "st"
            exact ⟨S11, rfl⟩
          · rw [decide_eq_false hq]
            walk_at "st"
            refine ⟨1, rfl, Ot, _, _, _, rfl, rfl, sq_of gO, atI_last _ _, ?_⟩
            walk_at "st"
            refine ⟨_, _, _, rfl, m1', _, _, _, rfl, S11.made, .str _ (by omega), _, rfl, ?_⟩
            rw [show inWs (V.str wq) ws = false from decide_eq_false hq]
            walk_at "st"
            exact ⟨S11, rfl⟩
        · rintro σ' H25 ⟨S12, rfl⟩
          obtain ⟨dxm2, tm2, om2, r1, r2, r3, r4⟩ := id S12.made
          obtain ⟨dxn2, tn2, on2, u1, u2, u3, u4⟩ := id S12.twin
          walk_at "st"
          refine ⟨M, _, _, rfl, r1, rfl, ?_⟩
          walk_at "st"
          refine ⟨Li, _, _, _, rfl, rfl, sq_of S12.hl, at0, ?_⟩
          walk_at "st"
          refine ⟨_, _, _, rfl, S12.made, .str _ (by omega), (fun h => by rw [show inWs (V.str w0) ws = true from decide_eq_true hw0] at h; cases h), fun y ey hy => ?_⟩
          walk_at "st"
          refine rd_isi (a := .type "int") (b := .type "bool") (r := false) (.ty _) (.base (.int _)) (kit_ty (by decide +kernel)) ?_
          walk_at "st"
          refine rd_fldAt r1 T.cl_Letters T.na_Letters_words rfl ?_
          walk_at "st"
          refine rd_isi (a := .type "tuple") (b := .type "tuple") (r := true) (.ty _) (.fTuple r2) (kit_ty (by decide +kernel)) ?_
          walk_at "st"
          refine rd_fldAt r1 T.cl_Letters T.na_Letters_words rfl ?_
          walk_at "st"
          refine rd_fldAt u1 T.cl_Letters T.na_Letters_words rfl ?_
          refine ⟨_, _, .tup (st_frz r2) (dp_strs _), .tup (st_frz u2) (dp_strs _), shaped_strs _ r4, shaped_strs _ u4, ?_⟩
          rw [PyData.eqv, eqvAll_strs, decide_eq_true rfl]
          walk_at "st"
          exact ⟨⟨_, _, _, _, _, _, _, _, _, rfl⟩, S12.pen.mono (by omega)⟩
    · obtain ⟨⟨v2, v3, v4, v5, v6, v7, v8, v9, v10, rfl⟩, p2⟩ := hv
      walk_at "st"
      exact k _
end
theorem all_mk {l : PySem.W.OpenLaw} {w : World} {K : PySem.W.Frag} {h : Heap} {mg : Str → Option Value} {fa : Addr} (X : K.In h) (G : h.Ns mainGlobals mg) (hfa : mg "law" = some (.ref fa))
    {MOST_LETTERS : Tok}
    {BEGINNINGS : Addr} {od_BEGINNINGS : Option Addr} {sl_BEGINNINGS : Array (Option Value)} {sn_BEGINNINGS : Nat} {t0_BEGINNINGS t1_BEGINNINGS : Tok}
    {SMALL : Tok}
    {SIGNS : Tok}
    {Letters : Addr}
    {f_is_word : Addr} {od_is_word an_is_word : Option Addr} {sl_is_word : Array (Option Value)} {oc_is_word kV_is_word dc_is_word pm_is_word cd_is_word ct_is_word : Value}
    {f_is_beginning : Addr} {od_is_beginning an_is_beginning : Option Addr} {sl_is_beginning : Array (Option Value)} {oc_is_beginning kV_is_beginning dc_is_beginning pm_is_beginning cd_is_beginning ct_is_beginning : Value}
    {f_is_letter : Addr} {od_is_letter an_is_letter : Option Addr} {sl_is_letter : Array (Option Value)} {oc_is_letter kV_is_letter dc_is_letter pm_is_letter cd_is_letter ct_is_letter : Value}
    {f_Letters___init__ : Addr} {od_Letters___init__ an_Letters___init__ : Option Addr} {sl_Letters___init__ : Array (Option Value)} {oc_Letters___init__ kV_Letters___init__ dc_Letters___init__ pm_Letters___init__ cd_Letters___init__ ct_Letters___init__ : Value}
    {f_Letters___contains__ : Addr} {od_Letters___contains__ an_Letters___contains__ : Option Addr} {sl_Letters___contains__ : Array (Option Value)} {oc_Letters___contains__ kV_Letters___contains__ dc_Letters___contains__ pm_Letters___contains__ cd_Letters___contains__ ct_Letters___contains__ : Value}
    {f_Letters_rank : Addr} {od_Letters_rank an_Letters_rank : Option Addr} {sl_Letters_rank : Array (Option Value)} {oc_Letters_rank kV_Letters_rank dc_Letters_rank pm_Letters_rank cd_Letters_rank ct_Letters_rank : Value}
    {f_Letters___len__ : Addr} {od_Letters___len__ an_Letters___len__ : Option Addr} {sl_Letters___len__ : Array (Option Value)} {oc_Letters___len__ kV_Letters___len__ dc_Letters___len__ pm_Letters___len__ cd_Letters___len__ ct_Letters___len__ : Value}
    {f_Letters___eq__ : Addr} {od_Letters___eq__ an_Letters___eq__ : Option Addr} {sl_Letters___eq__ : Array (Option Value)} {oc_Letters___eq__ kV_Letters___eq__ dc_Letters___eq__ pm_Letters___eq__ cd_Letters___eq__ ct_Letters___eq__ : Value}
    {f__law_pen : Addr} {od__law_pen an__law_pen : Option Addr} {sl__law_pen : Array (Option Value)} {oc__law_pen kV__law_pen dc__law_pen pm__law_pen cd__law_pen ct__law_pen : Value}
    {f__law_draw : Addr} {od__law_draw an__law_draw : Option Addr} {sl__law_draw : Array (Option Value)} {oc__law_draw kV__law_draw dc__law_draw pm__law_draw cd__law_draw ct__law_draw : Value}
    {f__law_pick : Addr} {od__law_pick an__law_pick : Option Addr} {sl__law_pick : Array (Option Value)} {oc__law_pick kV__law_pick dc__law_pick pm__law_pick cd__law_pick ct__law_pick : Value}
    {f__law_letters : Addr} {od__law_letters an__law_letters : Option Addr} {sl__law_letters : Array (Option Value)} {oc__law_letters kV__law_letters dc__law_letters pm__law_letters cd__law_letters ct__law_letters : Value}
    {f__law_odd : Addr} {od__law_odd an__law_odd : Option Addr} {sl__law_odd : Array (Option Value)} {oc__law_odd kV__law_odd dc__law_odd pm__law_odd cd__law_odd ct__law_odd : Value}
    {f__law_no_rank : Addr} {od__law_no_rank an__law_no_rank : Option Addr} {sl__law_no_rank : Array (Option Value)} {oc__law_no_rank kV__law_no_rank dc__law_no_rank pm__law_no_rank cd__law_no_rank ct__law_no_rank : Value}
    {f_law : Addr} {od_law an_law : Option Addr} {sl_law : Array (Option Value)} {oc_law kV_law dc_law pm_law cd_law ct_law : Value}
    {AsksError : Addr}
    {BadLetters : Addr}
    {f_BadLetters___init__ cc_BadLetters c_BadLetters N_BadLetters : Addr} {nm_BadLetters q_BadLetters : Str} {bs_BadLetters sub_BadLetters : List Value} {sn_BadLetters : List Str} {ab_BadLetters : Bool} {col_BadLetters : Option Bool} {dd_BadLetters : Option Addr} {m0_BadLetters m1_BadLetters m2_BadLetters m3_BadLetters m5_BadLetters : Option Value} {oc_BadLetters doc_BadLetters pm_BadLetters ctv_BadLetters e1_BadLetters e3_BadLetters : Value} {od_BadLetters e2_BadLetters e4_BadLetters : Option Addr} {osl_BadLetters e5_BadLetters e6_BadLetters : Array (Option Value)} {vs_BadLetters : Array Value} {file_BadLetters : Str} {tf_BadLetters : Tok}
    {BadLetter : Addr}
    {f_BadLetter___init__ cc_BadLetter c_BadLetter N_BadLetter : Addr} {nm_BadLetter q_BadLetter : Str} {bs_BadLetter sub_BadLetter : List Value} {sn_BadLetter : List Str} {ab_BadLetter : Bool} {col_BadLetter : Option Bool} {dd_BadLetter : Option Addr} {m0_BadLetter m1_BadLetter m2_BadLetter m3_BadLetter m5_BadLetter : Option Value} {oc_BadLetter doc_BadLetter pm_BadLetter ctv_BadLetter e1_BadLetter e3_BadLetter : Value} {od_BadLetter e2_BadLetter e4_BadLetter : Option Addr} {osl_BadLetter e5_BadLetter e6_BadLetter : Array (Option Value)} {vs_BadLetter : Array Value} {file_BadLetter : Str} {tf_BadLetter : Tok}
    {TooMany : Addr}
    {f_TooMany___init__ cc_TooMany c_TooMany N_TooMany : Addr} {nm_TooMany q_TooMany : Str} {bs_TooMany sub_TooMany : List Value} {sn_TooMany : List Str} {ab_TooMany : Bool} {col_TooMany : Option Bool} {dd_TooMany : Option Addr} {m0_TooMany m1_TooMany m2_TooMany m3_TooMany m5_TooMany : Option Value} {oc_TooMany doc_TooMany pm_TooMany ctv_TooMany e1_TooMany e3_TooMany : Value} {od_TooMany e2_TooMany e4_TooMany : Option Addr} {osl_TooMany e5_TooMany e6_TooMany : Array (Option Value)} {vs_TooMany : Array Value} {file_TooMany : Str} {tf_TooMany : Tok}
    (z_ValueError : PySem.W.nsIn K mainGlobals "ValueError" = some none)
    (z_abs : PySem.W.nsIn K mainGlobals "abs" = some none)
    (z_all : PySem.W.nsIn K mainGlobals "all" = some none)
    (z_bool : PySem.W.nsIn K mainGlobals "bool" = some none)
    (z_enumerate : PySem.W.nsIn K mainGlobals "enumerate" = some none)
    (z_int : PySem.W.nsIn K mainGlobals "int" = some none)
    (z_isinstance : PySem.W.nsIn K mainGlobals "isinstance" = some none)
    (z_len : PySem.W.nsIn K mainGlobals "len" = some none)
    (z_list : PySem.W.nsIn K mainGlobals "list" = some none)
    (z_min : PySem.W.nsIn K mainGlobals "min" = some none)
    (z_range : PySem.W.nsIn K mainGlobals "range" = some none)
    (z_repr : PySem.W.nsIn K mainGlobals "repr" = some none)
    (z_str : PySem.W.nsIn K mainGlobals "str" = some none)
    (z_tuple : PySem.W.nsIn K mainGlobals "tuple" = some none)
    (h_MOST_LETTERS : PySem.W.nsIn K mainGlobals "MOST_LETTERS" = some (some (.int 12 MOST_LETTERS)))
    (h_BEGINNINGS : PySem.W.nsIn K mainGlobals "BEGINNINGS" = some (some (.ref BEGINNINGS)))
    (lk_BEGINNINGS : K.lookup BEGINNINGS = some ⟨.type "tuple", od_BEGINNINGS, .seq #[.str "new" t0_BEGINNINGS, .str "found" t1_BEGINNINGS] sn_BEGINNINGS, sl_BEGINNINGS⟩)
    (h_SMALL : PySem.W.nsIn K mainGlobals "SMALL" = some (some (.str "abcdefghijklmnopqrstuvwxyz" SMALL)))
    (h_SIGNS : PySem.W.nsIn K mainGlobals "SIGNS" = some (some (.str "abcdefghijklmnopqrstuvwxyz0123456789" SIGNS)))
    (h_Letters : PySem.W.nsIn K mainGlobals "Letters" = some (some (.ref Letters)))
    (pg_Letters : PySem.W.plainGet K Letters Str.empty = true)
    (hd_Letters : PySem.W.hasDictIn K Letters = true)
    (po_Letters : PySem.W.plainOver K Letters = true)
    (sa_Letters : PySem.W.findIn K (.ref Letters) "__setattr__" = some (some (.builtin "object.__setattr__")))
    (na_Letters_words : PySem.W.findIn K (.ref Letters) "words" = some none)
    (ne_Letters : PySem.W.findIn K (.ref Letters) "__ne__" = some (some (.builtin "object.__ne__")))
    (ob_Letters : PySem.W.subIn K (.ref Letters) (.type "object") = some true)
    (ia_Letters : PySem.W.findIn K (.ref Letters) "__class__" = some (some (.builtin "object.__class__")))
    (in_Letters : PySem.W.specialIn K (.builtin "object.__class__") "__get__" = some (some (.builtin "getset_descriptor.__get__")))
    (it_Letters : PySem.W.takesIn K (.builtin "object.__class__") = some true)
    (im_Letters : PySem.W.mroIn K Letters (.type "object") = some true)
    (a_is_word : PySem.W.nsIn K mainGlobals "is_word" = some (some (.ref f_is_word)))
    (l_is_word : K.lookup f_is_word = some ⟨oc_is_word, od_is_word, .func (PySem.W.fnOf "is_word" "is_word" (defArgs s_is_word) (defBody s_is_word) (defScope s_is_word) .none kV_is_word dc_is_word pm_is_word an_is_word cd_is_word ct_is_word), sl_is_word⟩)
    (c_is_word : PySem.W.codeIn K cd_is_word "is_word" = true)
    (k_is_word : PySem.W.keepIn K (.ref f_is_word) = true)
    (a_is_beginning : PySem.W.nsIn K mainGlobals "is_beginning" = some (some (.ref f_is_beginning)))
    (l_is_beginning : K.lookup f_is_beginning = some ⟨oc_is_beginning, od_is_beginning, .func (PySem.W.fnOf "is_beginning" "is_beginning" (defArgs s_is_beginning) (defBody s_is_beginning) (defScope s_is_beginning) .none kV_is_beginning dc_is_beginning pm_is_beginning an_is_beginning cd_is_beginning ct_is_beginning), sl_is_beginning⟩)
    (c_is_beginning : PySem.W.codeIn K cd_is_beginning "is_beginning" = true)
    (k_is_beginning : PySem.W.keepIn K (.ref f_is_beginning) = true)
    (a_is_letter : PySem.W.nsIn K mainGlobals "is_letter" = some (some (.ref f_is_letter)))
    (l_is_letter : K.lookup f_is_letter = some ⟨oc_is_letter, od_is_letter, .func (PySem.W.fnOf "is_letter" "is_letter" (defArgs s_is_letter) (defBody s_is_letter) (defScope s_is_letter) .none kV_is_letter dc_is_letter pm_is_letter an_is_letter cd_is_letter ct_is_letter), sl_is_letter⟩)
    (c_is_letter : PySem.W.codeIn K cd_is_letter "is_letter" = true)
    (k_is_letter : PySem.W.keepIn K (.ref f_is_letter) = true)
    (a_Letters___init__ : PySem.W.findIn K (.ref Letters) "__init__" = some (some (.ref f_Letters___init__)))
    (i_Letters___init__ : PySem.W.isFn K (.ref f_Letters___init__) = true)
    (l_Letters___init__ : K.lookup f_Letters___init__ = some ⟨oc_Letters___init__, od_Letters___init__, .func (PySem.W.fnOf "__init__" "Letters.__init__" (defArgs s_Letters___init__) (defBody s_Letters___init__) (defScope s_Letters___init__) .none kV_Letters___init__ dc_Letters___init__ pm_Letters___init__ an_Letters___init__ cd_Letters___init__ ct_Letters___init__), sl_Letters___init__⟩)
    (c_Letters___init__ : PySem.W.codeIn K cd_Letters___init__ "Letters.__init__" = true)
    (k_Letters___init__ : PySem.W.keepIn K (.ref f_Letters___init__) = true)
    (a_Letters___contains__ : PySem.W.findIn K (.ref Letters) "__contains__" = some (some (.ref f_Letters___contains__)))
    (i_Letters___contains__ : PySem.W.isFn K (.ref f_Letters___contains__) = true)
    (l_Letters___contains__ : K.lookup f_Letters___contains__ = some ⟨oc_Letters___contains__, od_Letters___contains__, .func (PySem.W.fnOf "__contains__" "Letters.__contains__" (defArgs s_Letters___contains__) (defBody s_Letters___contains__) (defScope s_Letters___contains__) .none kV_Letters___contains__ dc_Letters___contains__ pm_Letters___contains__ an_Letters___contains__ cd_Letters___contains__ ct_Letters___contains__), sl_Letters___contains__⟩)
    (c_Letters___contains__ : PySem.W.codeIn K cd_Letters___contains__ "Letters.__contains__" = true)
    (k_Letters___contains__ : PySem.W.keepIn K (.ref f_Letters___contains__) = true)
    (a_Letters_rank : PySem.W.findIn K (.ref Letters) "rank" = some (some (.ref f_Letters_rank)))
    (i_Letters_rank : PySem.W.isFn K (.ref f_Letters_rank) = true)
    (l_Letters_rank : K.lookup f_Letters_rank = some ⟨oc_Letters_rank, od_Letters_rank, .func (PySem.W.fnOf "rank" "Letters.rank" (defArgs s_Letters_rank) (defBody s_Letters_rank) (defScope s_Letters_rank) .none kV_Letters_rank dc_Letters_rank pm_Letters_rank an_Letters_rank cd_Letters_rank ct_Letters_rank), sl_Letters_rank⟩)
    (c_Letters_rank : PySem.W.codeIn K cd_Letters_rank "Letters.rank" = true)
    (k_Letters_rank : PySem.W.keepIn K (.ref f_Letters_rank) = true)
    (a_Letters___len__ : PySem.W.findIn K (.ref Letters) "__len__" = some (some (.ref f_Letters___len__)))
    (i_Letters___len__ : PySem.W.isFn K (.ref f_Letters___len__) = true)
    (l_Letters___len__ : K.lookup f_Letters___len__ = some ⟨oc_Letters___len__, od_Letters___len__, .func (PySem.W.fnOf "__len__" "Letters.__len__" (defArgs s_Letters___len__) (defBody s_Letters___len__) (defScope s_Letters___len__) .none kV_Letters___len__ dc_Letters___len__ pm_Letters___len__ an_Letters___len__ cd_Letters___len__ ct_Letters___len__), sl_Letters___len__⟩)
    (c_Letters___len__ : PySem.W.codeIn K cd_Letters___len__ "Letters.__len__" = true)
    (k_Letters___len__ : PySem.W.keepIn K (.ref f_Letters___len__) = true)
    (a_Letters___eq__ : PySem.W.findIn K (.ref Letters) "__eq__" = some (some (.ref f_Letters___eq__)))
    (i_Letters___eq__ : PySem.W.isFn K (.ref f_Letters___eq__) = true)
    (l_Letters___eq__ : K.lookup f_Letters___eq__ = some ⟨oc_Letters___eq__, od_Letters___eq__, .func (PySem.W.fnOf "__eq__" "Letters.__eq__" (defArgs s_Letters___eq__) (defBody s_Letters___eq__) (defScope s_Letters___eq__) .none kV_Letters___eq__ dc_Letters___eq__ pm_Letters___eq__ an_Letters___eq__ cd_Letters___eq__ ct_Letters___eq__), sl_Letters___eq__⟩)
    (c_Letters___eq__ : PySem.W.codeIn K cd_Letters___eq__ "Letters.__eq__" = true)
    (k_Letters___eq__ : PySem.W.keepIn K (.ref f_Letters___eq__) = true)
    (a__law_pen : PySem.W.nsIn K mainGlobals "_law_pen" = some (some (.ref f__law_pen)))
    (l__law_pen : K.lookup f__law_pen = some ⟨oc__law_pen, od__law_pen, .func (PySem.W.fnOf "_law_pen" "_law_pen" (defArgs s__law_pen) (defBody s__law_pen) (defScope s__law_pen) .none kV__law_pen dc__law_pen pm__law_pen an__law_pen cd__law_pen ct__law_pen), sl__law_pen⟩)
    (c__law_pen : PySem.W.codeIn K cd__law_pen "_law_pen" = true)
    (k__law_pen : PySem.W.keepIn K (.ref f__law_pen) = true)
    (a__law_draw : PySem.W.nsIn K mainGlobals "_law_draw" = some (some (.ref f__law_draw)))
    (l__law_draw : K.lookup f__law_draw = some ⟨oc__law_draw, od__law_draw, .func (PySem.W.fnOf "_law_draw" "_law_draw" (defArgs s__law_draw) (defBody s__law_draw) (defScope s__law_draw) .none kV__law_draw dc__law_draw pm__law_draw an__law_draw cd__law_draw ct__law_draw), sl__law_draw⟩)
    (c__law_draw : PySem.W.codeIn K cd__law_draw "_law_draw" = true)
    (k__law_draw : PySem.W.keepIn K (.ref f__law_draw) = true)
    (a__law_pick : PySem.W.nsIn K mainGlobals "_law_pick" = some (some (.ref f__law_pick)))
    (l__law_pick : K.lookup f__law_pick = some ⟨oc__law_pick, od__law_pick, .func (PySem.W.fnOf "_law_pick" "_law_pick" (defArgs s__law_pick) (defBody s__law_pick) (defScope s__law_pick) .none kV__law_pick dc__law_pick pm__law_pick an__law_pick cd__law_pick ct__law_pick), sl__law_pick⟩)
    (c__law_pick : PySem.W.codeIn K cd__law_pick "_law_pick" = true)
    (k__law_pick : PySem.W.keepIn K (.ref f__law_pick) = true)
    (a__law_letters : PySem.W.nsIn K mainGlobals "_law_letters" = some (some (.ref f__law_letters)))
    (l__law_letters : K.lookup f__law_letters = some ⟨oc__law_letters, od__law_letters, .func (PySem.W.fnOf "_law_letters" "_law_letters" (defArgs s__law_letters) (defBody s__law_letters) (defScope s__law_letters) .none kV__law_letters dc__law_letters pm__law_letters an__law_letters cd__law_letters ct__law_letters), sl__law_letters⟩)
    (c__law_letters : PySem.W.codeIn K cd__law_letters "_law_letters" = true)
    (k__law_letters : PySem.W.keepIn K (.ref f__law_letters) = true)
    (a__law_odd : PySem.W.nsIn K mainGlobals "_law_odd" = some (some (.ref f__law_odd)))
    (l__law_odd : K.lookup f__law_odd = some ⟨oc__law_odd, od__law_odd, .func (PySem.W.fnOf "_law_odd" "_law_odd" (defArgs s__law_odd) (defBody s__law_odd) (defScope s__law_odd) .none kV__law_odd dc__law_odd pm__law_odd an__law_odd cd__law_odd ct__law_odd), sl__law_odd⟩)
    (c__law_odd : PySem.W.codeIn K cd__law_odd "_law_odd" = true)
    (k__law_odd : PySem.W.keepIn K (.ref f__law_odd) = true)
    (a__law_no_rank : PySem.W.nsIn K mainGlobals "_law_no_rank" = some (some (.ref f__law_no_rank)))
    (l__law_no_rank : K.lookup f__law_no_rank = some ⟨oc__law_no_rank, od__law_no_rank, .func (PySem.W.fnOf "_law_no_rank" "_law_no_rank" (defArgs s__law_no_rank) (defBody s__law_no_rank) (defScope s__law_no_rank) .none kV__law_no_rank dc__law_no_rank pm__law_no_rank an__law_no_rank cd__law_no_rank ct__law_no_rank), sl__law_no_rank⟩)
    (c__law_no_rank : PySem.W.codeIn K cd__law_no_rank "_law_no_rank" = true)
    (k__law_no_rank : PySem.W.keepIn K (.ref f__law_no_rank) = true)
    (a_law : PySem.W.nsIn K mainGlobals "law" = some (some (.ref f_law)))
    (l_law : K.lookup f_law = some ⟨oc_law, od_law, .func (PySem.W.fnOf "law" "law" (defArgs s_law) (defBody s_law) (defScope s_law) .none kV_law dc_law pm_law an_law cd_law ct_law), sl_law⟩)
    (c_law : PySem.W.codeIn K cd_law "law" = true)
    (k_law : PySem.W.keepIn K (.ref f_law) = true)
    (mk_Letters : PySem.W.makesIn K Letters = true)
    (kc_Letters : PySem.W.keepIn K (.ref Letters) = true)
    (h_AsksError : PySem.W.nsIn K mainGlobals "AsksError" = some (some (.ref AsksError)))
    (op_ : PySem.W.nsIn K cStatics "thirdparty.any" = some none)
    (z_super : PySem.W.nsIn K mainGlobals "super" = some none)
    (hst_ : (l.prog.main.scope.names.lookup ("super" : Str)).isSome = false)
    (h_BadLetters : PySem.W.nsIn K mainGlobals "BadLetters" = some (some (.ref BadLetters)))
    (sb_BadLetters : PySem.W.subIn K (.ref BadLetters) (.type "BaseException") = some true)
    (xd_BadLetters : PySem.W.hasDictIn K BadLetters = true)
    (tt_BadLetters : PySem.W.typeIn K (.ref BadLetters) = some (.type "type"))
    (kc_BadLetters : PySem.W.keepIn K (.ref BadLetters) = true)
    (su_BadLetters_BadLetters : PySem.W.subIn K (.ref BadLetters) (.ref BadLetters) = some true)
    (su_BadLetter_BadLetters : PySem.W.subIn K (.ref BadLetter) (.ref BadLetters) = some false)
    (su_TooMany_BadLetters : PySem.W.subIn K (.ref TooMany) (.ref BadLetters) = some false)
    (a_BadLetters___init__ : PySem.W.findIn K (.ref BadLetters) "__init__" = some (some (.ref f_BadLetters___init__)))
    (xl_BadLetters : K.lookup BadLetters = some (excClassObj nm_BadLetters q_BadLetters BadLetters N_BadLetters bs_BadLetters [.ref AsksError, .type "ValueError", .type "Exception", .type "BaseException", .type "object"] true sn_BadLetters sub_BadLetters ab_BadLetters col_BadLetters dd_BadLetters m0_BadLetters m1_BadLetters m2_BadLetters m3_BadLetters m5_BadLetters "ValueError.__new__"))
    (xs_BadLetters : PySem.W.findIn K (.ref BadLetters) "__setattr__" = some (some (.builtin "object.__setattr__")))
    (ga_BadLetters : PySem.W.findIn K (.ref BadLetters) "__getattribute__" = some (some (.builtin "BaseException.__getattribute__")))
    (gg_BadLetters : PySem.W.findIn K (.ref BadLetters) "__getattr__" = some none)
    (xa_BadLetters : PySem.W.findIn K (.ref BadLetters) "__class__" = some (some (.builtin "object.__class__")))
    (xn_BadLetters : PySem.W.specialIn K (.builtin "object.__class__") "__get__" = some (some (.builtin "getset_descriptor.__get__")))
    (xt_BadLetters : PySem.W.takesIn K (.builtin "object.__class__") = some true)
    (xm_BadLetters : PySem.W.mroIn K BadLetters (.type "object") = some true)
    (na_BadLetters_index : PySem.W.findIn K (.ref BadLetters) "index" = some none)
    (l_BadLetters___init__ : K.lookup f_BadLetters___init__ = some ⟨oc_BadLetters, od_BadLetters, .func ((F_BadLetters cc_BadLetters c_BadLetters).fd doc_BadLetters pm_BadLetters ctv_BadLetters), osl_BadLetters⟩)
    (cd_BadLetters : PySem.W.codeIn K (.ref c_BadLetters) "BadLetters.__init__" = true)
    (cl_BadLetters : K.lookup cc_BadLetters = some ⟨e1_BadLetters, e2_BadLetters, .cell (some (.ref BadLetters)), e5_BadLetters⟩)
    (fl_BadLetters : K.lookup c_BadLetters = some ⟨e3_BadLetters, e4_BadLetters, .fields vs_BadLetters, e6_BadLetters⟩)
    (rv_BadLetters : vs_BadLetters[2]? = some (.str file_BadLetters tf_BadLetters))
    (rf_BadLetters : ((l.prog.main.file : Str) == file_BadLetters) = true)
    (me_BadLetters : PySem.W.mroIn K BadLetters (.ref BadLetters) = some true)
    (up_BadLetters : PySem.W.ks_superIn K BadLetters BadLetters "__init__" = some (some (.builtin "ValueError.__init__")))
    (ve_BadLetters : PySem.W.subIn K (.ref BadLetters) (.type "ValueError") = some true)
    (ty_BadLetters : PySem.W.typeIn K (.ref f_BadLetters___init__) = some (.type "function"))
    (h_BadLetter : PySem.W.nsIn K mainGlobals "BadLetter" = some (some (.ref BadLetter)))
    (sb_BadLetter : PySem.W.subIn K (.ref BadLetter) (.type "BaseException") = some true)
    (xd_BadLetter : PySem.W.hasDictIn K BadLetter = true)
    (tt_BadLetter : PySem.W.typeIn K (.ref BadLetter) = some (.type "type"))
    (kc_BadLetter : PySem.W.keepIn K (.ref BadLetter) = true)
    (su_BadLetters_BadLetter : PySem.W.subIn K (.ref BadLetters) (.ref BadLetter) = some false)
    (su_BadLetter_BadLetter : PySem.W.subIn K (.ref BadLetter) (.ref BadLetter) = some true)
    (su_TooMany_BadLetter : PySem.W.subIn K (.ref TooMany) (.ref BadLetter) = some false)
    (a_BadLetter___init__ : PySem.W.findIn K (.ref BadLetter) "__init__" = some (some (.ref f_BadLetter___init__)))
    (xl_BadLetter : K.lookup BadLetter = some (excClassObj nm_BadLetter q_BadLetter BadLetter N_BadLetter bs_BadLetter [.ref AsksError, .type "ValueError", .type "Exception", .type "BaseException", .type "object"] true sn_BadLetter sub_BadLetter ab_BadLetter col_BadLetter dd_BadLetter m0_BadLetter m1_BadLetter m2_BadLetter m3_BadLetter m5_BadLetter "ValueError.__new__"))
    (xs_BadLetter : PySem.W.findIn K (.ref BadLetter) "__setattr__" = some (some (.builtin "object.__setattr__")))
    (ga_BadLetter : PySem.W.findIn K (.ref BadLetter) "__getattribute__" = some (some (.builtin "BaseException.__getattribute__")))
    (gg_BadLetter : PySem.W.findIn K (.ref BadLetter) "__getattr__" = some none)
    (xa_BadLetter : PySem.W.findIn K (.ref BadLetter) "__class__" = some (some (.builtin "object.__class__")))
    (xn_BadLetter : PySem.W.specialIn K (.builtin "object.__class__") "__get__" = some (some (.builtin "getset_descriptor.__get__")))
    (xt_BadLetter : PySem.W.takesIn K (.builtin "object.__class__") = some true)
    (xm_BadLetter : PySem.W.mroIn K BadLetter (.type "object") = some true)
    (na_BadLetter_index : PySem.W.findIn K (.ref BadLetter) "index" = some none)
    (l_BadLetter___init__ : K.lookup f_BadLetter___init__ = some ⟨oc_BadLetter, od_BadLetter, .func ((F_BadLetter cc_BadLetter c_BadLetter).fd doc_BadLetter pm_BadLetter ctv_BadLetter), osl_BadLetter⟩)
    (cd_BadLetter : PySem.W.codeIn K (.ref c_BadLetter) "BadLetter.__init__" = true)
    (cl_BadLetter : K.lookup cc_BadLetter = some ⟨e1_BadLetter, e2_BadLetter, .cell (some (.ref BadLetter)), e5_BadLetter⟩)
    (fl_BadLetter : K.lookup c_BadLetter = some ⟨e3_BadLetter, e4_BadLetter, .fields vs_BadLetter, e6_BadLetter⟩)
    (rv_BadLetter : vs_BadLetter[2]? = some (.str file_BadLetter tf_BadLetter))
    (rf_BadLetter : ((l.prog.main.file : Str) == file_BadLetter) = true)
    (me_BadLetter : PySem.W.mroIn K BadLetter (.ref BadLetter) = some true)
    (up_BadLetter : PySem.W.ks_superIn K BadLetter BadLetter "__init__" = some (some (.builtin "ValueError.__init__")))
    (ve_BadLetter : PySem.W.subIn K (.ref BadLetter) (.type "ValueError") = some true)
    (ty_BadLetter : PySem.W.typeIn K (.ref f_BadLetter___init__) = some (.type "function"))
    (h_TooMany : PySem.W.nsIn K mainGlobals "TooMany" = some (some (.ref TooMany)))
    (sb_TooMany : PySem.W.subIn K (.ref TooMany) (.type "BaseException") = some true)
    (xd_TooMany : PySem.W.hasDictIn K TooMany = true)
    (tt_TooMany : PySem.W.typeIn K (.ref TooMany) = some (.type "type"))
    (kc_TooMany : PySem.W.keepIn K (.ref TooMany) = true)
    (su_BadLetters_TooMany : PySem.W.subIn K (.ref BadLetters) (.ref TooMany) = some false)
    (su_BadLetter_TooMany : PySem.W.subIn K (.ref BadLetter) (.ref TooMany) = some false)
    (su_TooMany_TooMany : PySem.W.subIn K (.ref TooMany) (.ref TooMany) = some true)
    (a_TooMany___init__ : PySem.W.findIn K (.ref TooMany) "__init__" = some (some (.ref f_TooMany___init__)))
    (xl_TooMany : K.lookup TooMany = some (excClassObj nm_TooMany q_TooMany TooMany N_TooMany bs_TooMany [.ref AsksError, .type "ValueError", .type "Exception", .type "BaseException", .type "object"] true sn_TooMany sub_TooMany ab_TooMany col_TooMany dd_TooMany m0_TooMany m1_TooMany m2_TooMany m3_TooMany m5_TooMany "ValueError.__new__"))
    (xs_TooMany : PySem.W.findIn K (.ref TooMany) "__setattr__" = some (some (.builtin "object.__setattr__")))
    (ga_TooMany : PySem.W.findIn K (.ref TooMany) "__getattribute__" = some (some (.builtin "BaseException.__getattribute__")))
    (gg_TooMany : PySem.W.findIn K (.ref TooMany) "__getattr__" = some none)
    (xa_TooMany : PySem.W.findIn K (.ref TooMany) "__class__" = some (some (.builtin "object.__class__")))
    (xn_TooMany : PySem.W.specialIn K (.builtin "object.__class__") "__get__" = some (some (.builtin "getset_descriptor.__get__")))
    (xt_TooMany : PySem.W.takesIn K (.builtin "object.__class__") = some true)
    (xm_TooMany : PySem.W.mroIn K TooMany (.type "object") = some true)
    (na_TooMany_what : PySem.W.findIn K (.ref TooMany) "what" = some none)
    (na_TooMany_many : PySem.W.findIn K (.ref TooMany) "many" = some none)
    (na_TooMany_most : PySem.W.findIn K (.ref TooMany) "most" = some none)
    (l_TooMany___init__ : K.lookup f_TooMany___init__ = some ⟨oc_TooMany, od_TooMany, .func ((F_TooMany cc_TooMany c_TooMany).fd doc_TooMany pm_TooMany ctv_TooMany), osl_TooMany⟩)
    (cd_TooMany : PySem.W.codeIn K (.ref c_TooMany) "TooMany.__init__" = true)
    (cl_TooMany : K.lookup cc_TooMany = some ⟨e1_TooMany, e2_TooMany, .cell (some (.ref TooMany)), e5_TooMany⟩)
    (fl_TooMany : K.lookup c_TooMany = some ⟨e3_TooMany, e4_TooMany, .fields vs_TooMany, e6_TooMany⟩)
    (rv_TooMany : vs_TooMany[2]? = some (.str file_TooMany tf_TooMany))
    (rf_TooMany : ((l.prog.main.file : Str) == file_TooMany) = true)
    (me_TooMany : PySem.W.mroIn K TooMany (.ref TooMany) = some true)
    (up_TooMany : PySem.W.ks_superIn K TooMany TooMany "__init__" = some (some (.builtin "ValueError.__init__")))
    (ve_TooMany : PySem.W.subIn K (.ref TooMany) (.type "ValueError") = some true)
    (ty_TooMany : PySem.W.typeIn K (.ref f_TooMany___init__) = some (.type "function"))
    : ∃ fd : FuncData, (∀ (s : Shared) (v : Value), BindsTo s fd ⟨[v], []⟩ [("_law_script", v)]) ∧ ∀ base : Heap, K.In base → base.Ns mainGlobals mg → FnOkG l.prog w K mg base CX0 9 fa fd ["_law_script"] (spLaw K) := by
  have e := hfa.symm.trans (PySem.W.mg_of X G a_law)
  cases e
  have T : Txt l.prog K mg ⟨Letters, BadLetters, f_BadLetters___init__, BadLetter, f_BadLetter___init__, TooMany, f_TooMany___init__, MOST_LETTERS, BEGINNINGS, SMALL, SIGNS, f_is_word, f_is_beginning, f_is_letter, f_Letters___init__, f_Letters___contains__, f_Letters_rank, f_Letters___len__, f_Letters___eq__, f__law_pen, f__law_draw, f__law_pick, f__law_letters, f__law_odd, f__law_no_rank, fa⟩ := {
    n_ValueError := PySem.W.mg_none_of X G z_ValueError,
    n_abs := PySem.W.mg_none_of X G z_abs,
    n_all := PySem.W.mg_none_of X G z_all,
    n_bool := PySem.W.mg_none_of X G z_bool,
    n_enumerate := PySem.W.mg_none_of X G z_enumerate,
    n_int := PySem.W.mg_none_of X G z_int,
    n_isinstance := PySem.W.mg_none_of X G z_isinstance,
    n_len := PySem.W.mg_none_of X G z_len,
    n_list := PySem.W.mg_none_of X G z_list,
    n_min := PySem.W.mg_none_of X G z_min,
    n_range := PySem.W.mg_none_of X G z_range,
    n_repr := PySem.W.mg_none_of X G z_repr,
    n_str := PySem.W.mg_none_of X G z_str,
    n_tuple := PySem.W.mg_none_of X G z_tuple,
    g_MOST_LETTERS := PySem.W.mg_of X G h_MOST_LETTERS,
    g_BEGINNINGS := PySem.W.mg_of X G h_BEGINNINGS,
    k_BEGINNINGS := fun H => .inr ⟨_, _, _, lk_BEGINNINGS, rfl, rfl, by show 2 ≤ sizeLine; decide, (.cons ⟨_, rfl⟩ (.cons ⟨_, rfl⟩ .nil))⟩,
    g_SMALL := PySem.W.mg_of X G h_SMALL,
    g_SIGNS := PySem.W.mg_of X G h_SIGNS,
    g_Letters := PySem.W.mg_of X G h_Letters,
    cl_Letters := ⟨pg_Letters, hd_Letters, po_Letters, sa_Letters⟩,
    na_Letters_words := na_Letters_words,
    ne_Letters := ⟨ne_Letters, ob_Letters⟩,
    isi_Letters := ⟨ia_Letters, in_Letters, it_Letters, im_Letters, if_pos (beq_self_eq_true _)⟩,
    F_is_word := ⟨_, fun_mk (st := s_is_word) l_is_word c_is_word k_is_word, (fun_mk (st := s_is_word) l_is_word c_is_word k_is_word).binds (ps := ["value"]) fun _ _ _ _ _ _ us hl => match us, hl with | [_], _ => rfl⟩,
    g_is_word := PySem.W.mg_of X G a_is_word,
    F_is_beginning := ⟨_, fun_mk (st := s_is_beginning) l_is_beginning c_is_beginning k_is_beginning, (fun_mk (st := s_is_beginning) l_is_beginning c_is_beginning k_is_beginning).binds (ps := ["value"]) fun _ _ _ _ _ _ us hl => match us, hl with | [_], _ => rfl⟩,
    g_is_beginning := PySem.W.mg_of X G a_is_beginning,
    F_is_letter := ⟨_, fun_mk (st := s_is_letter) l_is_letter c_is_letter k_is_letter, (fun_mk (st := s_is_letter) l_is_letter c_is_letter k_is_letter).binds (ps := ["value"]) fun _ _ _ _ _ _ us hl => match us, hl with | [_], _ => rfl⟩,
    g_is_letter := PySem.W.mg_of X G a_is_letter,
    F_Letters___init__ := ⟨_, fun_mk (st := s_Letters___init__) l_Letters___init__ c_Letters___init__ k_Letters___init__, (fun_mk (st := s_Letters___init__) l_Letters___init__ c_Letters___init__ k_Letters___init__).binds (ps := ["self", "words"]) fun _ _ _ _ _ _ us hl => match us, hl with | [_, _], _ => rfl⟩,
    F_Letters___contains__ := ⟨_, fun_mk (st := s_Letters___contains__) l_Letters___contains__ c_Letters___contains__ k_Letters___contains__, (fun_mk (st := s_Letters___contains__) l_Letters___contains__ c_Letters___contains__ k_Letters___contains__).binds (ps := ["self", "x"]) fun _ _ _ _ _ _ us hl => match us, hl with | [_, _], _ => rfl⟩,
    m_Letters___contains__ := ⟨a_Letters___contains__, i_Letters___contains__, k_Letters___contains__⟩,
    F_Letters_rank := ⟨_, fun_mk (st := s_Letters_rank) l_Letters_rank c_Letters_rank k_Letters_rank, (fun_mk (st := s_Letters_rank) l_Letters_rank c_Letters_rank k_Letters_rank).binds (ps := ["self", "x"]) fun _ _ _ _ _ _ us hl => match us, hl with | [_, _], _ => rfl⟩,
    m_Letters_rank := ⟨a_Letters_rank, i_Letters_rank, k_Letters_rank⟩,
    F_Letters___len__ := ⟨_, fun_mk (st := s_Letters___len__) l_Letters___len__ c_Letters___len__ k_Letters___len__, (fun_mk (st := s_Letters___len__) l_Letters___len__ c_Letters___len__ k_Letters___len__).binds (ps := ["self"]) fun _ _ _ _ _ _ us hl => match us, hl with | [_], _ => rfl⟩,
    m_Letters___len__ := ⟨a_Letters___len__, i_Letters___len__, k_Letters___len__⟩,
    F_Letters___eq__ := ⟨_, fun_mk (st := s_Letters___eq__) l_Letters___eq__ c_Letters___eq__ k_Letters___eq__, (fun_mk (st := s_Letters___eq__) l_Letters___eq__ c_Letters___eq__ k_Letters___eq__).binds (ps := ["self", "other"]) fun _ _ _ _ _ _ us hl => match us, hl with | [_, _], _ => rfl⟩,
    m_Letters___eq__ := ⟨a_Letters___eq__, i_Letters___eq__, k_Letters___eq__⟩,
    F__law_pen := ⟨_, fun_mk (st := s__law_pen) l__law_pen c__law_pen k__law_pen, (fun_mk (st := s__law_pen) l__law_pen c__law_pen k__law_pen).binds (ps := ["_law_script"]) fun _ _ _ _ _ _ us hl => match us, hl with | [_], _ => rfl⟩,
    g__law_pen := PySem.W.mg_of X G a__law_pen,
    F__law_draw := ⟨_, fun_mk (st := s__law_draw) l__law_draw c__law_draw k__law_draw, (fun_mk (st := s__law_draw) l__law_draw c__law_draw k__law_draw).binds (ps := ["_law_pen_here", "_law_many"]) fun _ _ _ _ _ _ us hl => match us, hl with | [_, _], _ => rfl⟩,
    g__law_draw := PySem.W.mg_of X G a__law_draw,
    F__law_pick := ⟨_, fun_mk (st := s__law_pick) l__law_pick c__law_pick k__law_pick, (fun_mk (st := s__law_pick) l__law_pick c__law_pick k__law_pick).binds (ps := ["_law_pen_here", "_law_options"]) fun _ _ _ _ _ _ us hl => match us, hl with | [_, _], _ => rfl⟩,
    g__law_pick := PySem.W.mg_of X G a__law_pick,
    F__law_letters := ⟨_, fun_mk (st := s__law_letters) l__law_letters c__law_letters k__law_letters, (fun_mk (st := s__law_letters) l__law_letters c__law_letters k__law_letters).binds (ps := ["_law_pen_here", "_law_many"]) fun _ _ _ _ _ _ us hl => match us, hl with | [_, _], _ => rfl⟩,
    g__law_letters := PySem.W.mg_of X G a__law_letters,
    F__law_odd := ⟨_, fun_mk (st := s__law_odd) l__law_odd c__law_odd k__law_odd, (fun_mk (st := s__law_odd) l__law_odd c__law_odd k__law_odd).binds (ps := ["_law_pen_here", "_law_letters_here"]) fun _ _ _ _ _ _ us hl => match us, hl with | [_, _], _ => rfl⟩,
    g__law_odd := PySem.W.mg_of X G a__law_odd,
    F__law_no_rank := ⟨_, fun_mk (st := s__law_no_rank) l__law_no_rank c__law_no_rank k__law_no_rank, (fun_mk (st := s__law_no_rank) l__law_no_rank c__law_no_rank k__law_no_rank).binds (ps := ["_law_made", "_law_value"]) fun _ _ _ _ _ _ us hl => match us, hl with | [_, _], _ => rfl⟩,
    g__law_no_rank := PySem.W.mg_of X G a__law_no_rank,
    F_law := ⟨_, fun_mk (st := s_law) l_law c_law k_law, (fun_mk (st := s_law) l_law c_law k_law).binds (ps := ["_law_script"]) fun _ _ _ _ _ _ us hl => match us, hl with | [_], _ => rfl⟩,
    g_law := PySem.W.mg_of X G a_law,
    mk_Letters := ⟨mk_Letters, a_Letters___init__, i_Letters___init__, kc_Letters⟩,
    g_BadLetters := PySem.W.mg_of X G h_BadLetters,
    ex_BadLetters := ⟨sb_BadLetters, xd_BadLetters, tt_BadLetters⟩,
    em_BadLetters_BadLetters := ExmC.em ⟨sb_BadLetters, xd_BadLetters, tt_BadLetters⟩ su_BadLetters_BadLetters,
    em_BadLetter_BadLetters := ExmC.em ⟨sb_BadLetters, xd_BadLetters, tt_BadLetters⟩ su_BadLetter_BadLetters,
    em_TooMany_BadLetters := ExmC.em ⟨sb_BadLetters, xd_BadLetters, tt_BadLetters⟩ su_TooMany_BadLetters,
    xf_BadLetters := ⟨ga_BadLetters, gg_BadLetters, sb_BadLetters, xd_BadLetters⟩,
    xe_BadLetters := ⟨ga_BadLetters, gg_BadLetters, sb_BadLetters, xd_BadLetters, xa_BadLetters, xn_BadLetters, xt_BadLetters, xm_BadLetters⟩,
    na_BadLetters_index := na_BadLetters_index,
    xi_BadLetters := ⟨cc_BadLetters, c_BadLetters, doc_BadLetters, pm_BadLetters, ctv_BadLetters, ⟨⟨_, _, _, l_BadLetters___init__⟩, cd_BadLetters, ⟨cc_BadLetters, _, _, _, rfl, cl_BadLetters⟩, ⟨_, rfl, rfl⟩, ⟨_, _, _, _, _, _, fl_BadLetters, rv_BadLetters, rf_BadLetters⟩, me_BadLetters, PySem.W.mg_none_of X G z_super, rfl, hst_, op_, up_BadLetters, ve_BadLetters, ⟨⟨_, _, _, _, _, _, _, _, _, _, _, _, _, _, _, xl_BadLetters, rfl⟩, xs_BadLetters, sb_BadLetters, tt_BadLetters, kc_BadLetters⟩⟩, fun s us _ hl => match us, hl with | [_, _], _ => .of_eq rfl⟩,
    kv_BadLetters := kit_own ve_BadLetters,
    in_BadLetters := a_BadLetters___init__,
    ty_BadLetters := ty_BadLetters,
    g_BadLetter := PySem.W.mg_of X G h_BadLetter,
    ex_BadLetter := ⟨sb_BadLetter, xd_BadLetter, tt_BadLetter⟩,
    em_BadLetters_BadLetter := ExmC.em ⟨sb_BadLetter, xd_BadLetter, tt_BadLetter⟩ su_BadLetters_BadLetter,
    em_BadLetter_BadLetter := ExmC.em ⟨sb_BadLetter, xd_BadLetter, tt_BadLetter⟩ su_BadLetter_BadLetter,
    em_TooMany_BadLetter := ExmC.em ⟨sb_BadLetter, xd_BadLetter, tt_BadLetter⟩ su_TooMany_BadLetter,
    xf_BadLetter := ⟨ga_BadLetter, gg_BadLetter, sb_BadLetter, xd_BadLetter⟩,
    xe_BadLetter := ⟨ga_BadLetter, gg_BadLetter, sb_BadLetter, xd_BadLetter, xa_BadLetter, xn_BadLetter, xt_BadLetter, xm_BadLetter⟩,
    na_BadLetter_index := na_BadLetter_index,
    xi_BadLetter := ⟨cc_BadLetter, c_BadLetter, doc_BadLetter, pm_BadLetter, ctv_BadLetter, ⟨⟨_, _, _, l_BadLetter___init__⟩, cd_BadLetter, ⟨cc_BadLetter, _, _, _, rfl, cl_BadLetter⟩, ⟨_, rfl, rfl⟩, ⟨_, _, _, _, _, _, fl_BadLetter, rv_BadLetter, rf_BadLetter⟩, me_BadLetter, PySem.W.mg_none_of X G z_super, rfl, hst_, op_, up_BadLetter, ve_BadLetter, ⟨⟨_, _, _, _, _, _, _, _, _, _, _, _, _, _, _, xl_BadLetter, rfl⟩, xs_BadLetter, sb_BadLetter, tt_BadLetter, kc_BadLetter⟩⟩, fun s us _ hl => match us, hl with | [_, _], _ => .of_eq rfl⟩,
    kv_BadLetter := kit_own ve_BadLetter,
    in_BadLetter := a_BadLetter___init__,
    ty_BadLetter := ty_BadLetter,
    g_TooMany := PySem.W.mg_of X G h_TooMany,
    ex_TooMany := ⟨sb_TooMany, xd_TooMany, tt_TooMany⟩,
    em_BadLetters_TooMany := ExmC.em ⟨sb_TooMany, xd_TooMany, tt_TooMany⟩ su_BadLetters_TooMany,
    em_BadLetter_TooMany := ExmC.em ⟨sb_TooMany, xd_TooMany, tt_TooMany⟩ su_BadLetter_TooMany,
    em_TooMany_TooMany := ExmC.em ⟨sb_TooMany, xd_TooMany, tt_TooMany⟩ su_TooMany_TooMany,
    xf_TooMany := ⟨ga_TooMany, gg_TooMany, sb_TooMany, xd_TooMany⟩,
    xe_TooMany := ⟨ga_TooMany, gg_TooMany, sb_TooMany, xd_TooMany, xa_TooMany, xn_TooMany, xt_TooMany, xm_TooMany⟩,
    na_TooMany_what := na_TooMany_what,
    na_TooMany_many := na_TooMany_many,
    na_TooMany_most := na_TooMany_most,
    xi_TooMany := ⟨cc_TooMany, c_TooMany, doc_TooMany, pm_TooMany, ctv_TooMany, ⟨⟨_, _, _, l_TooMany___init__⟩, cd_TooMany, ⟨cc_TooMany, _, _, _, rfl, cl_TooMany⟩, ⟨_, rfl, rfl⟩, ⟨_, _, _, _, _, _, fl_TooMany, rv_TooMany, rf_TooMany⟩, me_TooMany, PySem.W.mg_none_of X G z_super, rfl, hst_, op_, up_TooMany, ve_TooMany, ⟨⟨_, _, _, _, _, _, _, _, _, _, _, _, _, _, _, xl_TooMany, rfl⟩, xs_TooMany, sb_TooMany, tt_TooMany, kc_TooMany⟩⟩, fun s us _ hl => match us, hl with | [_, _, _, _], _ => .of_eq rfl⟩,
    kv_TooMany := kit_own ve_TooMany,
    in_TooMany := a_TooMany___init__,
    ty_TooMany := ty_TooMany }
  refine ⟨PySem.W.fnOf "law" "law" (defArgs s_law) (defBody s_law) (defScope s_law) .none kV_law dc_law pm_law an_law cd_law ct_law, fun s v => .of_eq rfl, fun base _ _ => ?_⟩
  exact ok_law T (fun_mk (st := s_law) l_law c_law k_law)
theorem walk {l : PySem.W.OpenLaw} {q : Program} {loose : List Str} {XP : (Str → Option Value) → Heap → Prop} {YP : World → Heap → Prop} {d : DefRec} {K : Params → PySem.W.Frag} (hn : l.most = some 63) (hdf : d.params.defaults = [])
    (hY : ∀ (w : World) (h : Heap), YP w h → (K w.params).In h)
    (F : ∀ (w : World) (mg : Str → Option Value) (fa : Addr) (h : Heap), (K w.params).In h → h.Ns mainGlobals mg → mg d.name = some (.ref fa) →
      ∃ fd : FuncData, (∀ (s : Shared) (u : Value), BindsTo s fd ⟨[u], []⟩ [("_law_script", u)]) ∧ ∀ base : Heap, (K w.params).In base → base.Ns mainGlobals mg → FnOkG l.prog w (K w.params) mg base CX0 9 fa fd ["_law_script"] (spLaw (K w.params))) :
    PySem.W.WalkO q loose XP YP l.row.toRowW d [] (fun f vs => PySem.call f vs) :=
  Aq.walkG (n := 63) (k := 9) (x := "_law_script") (sp := spLaw) hn (by decide) hdf ⟨rfl, by decide, by decide⟩ hY F (fun K H a ns hl _ hS => ⟨a, ns, rfl, hS, fun _ => rfl⟩)
end K01
open PySem PySem.W PyProof.Rows
set_option maxRecDepth 100000 in
set_option maxHeartbeats 0 in
theorem PySem.Challenge.cw_asksmore_k01_letters_kept_holds : PySem.Challenge.rw_asksmore_k01_letters_kept.Holds := by
  w_on; o_law; k_head; (case hw => w_witness2)
  k_fill
  refine K01.walk (l := PySem.Challenge.rw_asksmore_k01_letters_kept) rfl rfl (fun w h Y => PySem.W.kIn_of Y) ?F
  case F =>
    intro w mg fa h KX G hmg
    refine' K01.all_mk KX G hmg ?z_ValueError ?z_abs ?z_all ?z_bool ?z_enumerate ?z_int ?z_isinstance ?z_len ?z_list ?z_min ?z_range ?z_repr ?z_str ?z_tuple ?h_MOST_LETTERS ?h_BEGINNINGS ?lk_BEGINNINGS ?h_SMALL ?h_SIGNS ?h_Letters ?pg_Letters ?hd_Letters ?po_Letters ?sa_Letters ?na_Letters_words ?ne_Letters ?ob_Letters ?ia_Letters ?in_Letters ?it_Letters ?im_Letters ?a_is_word ?l_is_word ?c_is_word ?k_is_word ?a_is_beginning ?l_is_beginning ?c_is_beginning ?k_is_beginning ?a_is_letter ?l_is_letter ?c_is_letter ?k_is_letter ?a_Letters___init__ ?i_Letters___init__ ?l_Letters___init__ ?c_Letters___init__ ?k_Letters___init__ ?a_Letters___contains__ ?i_Letters___contains__ ?l_Letters___contains__ ?c_Letters___contains__ ?k_Letters___contains__ ?a_Letters_rank ?i_Letters_rank ?l_Letters_rank ?c_Letters_rank ?k_Letters_rank ?a_Letters___len__ ?i_Letters___len__ ?l_Letters___len__ ?c_Letters___len__ ?k_Letters___len__ ?a_Letters___eq__ ?i_Letters___eq__ ?l_Letters___eq__ ?c_Letters___eq__ ?k_Letters___eq__ ?a__law_pen ?l__law_pen ?c__law_pen ?k__law_pen ?a__law_draw ?l__law_draw ?c__law_draw ?k__law_draw ?a__law_pick ?l__law_pick ?c__law_pick ?k__law_pick ?a__law_letters ?l__law_letters ?c__law_letters ?k__law_letters ?a__law_odd ?l__law_odd ?c__law_odd ?k__law_odd ?a__law_no_rank ?l__law_no_rank ?c__law_no_rank ?k__law_no_rank ?a_law ?l_law ?c_law ?k_law ?mk_Letters ?kc_Letters ?h_AsksError ?op_ ?z_super ?hst_ ?h_BadLetters ?sb_BadLetters ?xd_BadLetters ?tt_BadLetters ?kc_BadLetters ?su_BadLetters_BadLetters ?su_BadLetter_BadLetters ?su_TooMany_BadLetters ?a_BadLetters___init__ ?xl_BadLetters ?xs_BadLetters ?ga_BadLetters ?gg_BadLetters ?xa_BadLetters ?xn_BadLetters ?xt_BadLetters ?xm_BadLetters ?na_BadLetters_index ?l_BadLetters___init__ ?cd_BadLetters ?cl_BadLetters ?fl_BadLetters ?rv_BadLetters ?rf_BadLetters ?me_BadLetters ?up_BadLetters ?ve_BadLetters ?ty_BadLetters ?h_BadLetter ?sb_BadLetter ?xd_BadLetter ?tt_BadLetter ?kc_BadLetter ?su_BadLetters_BadLetter ?su_BadLetter_BadLetter ?su_TooMany_BadLetter ?a_BadLetter___init__ ?xl_BadLetter ?xs_BadLetter ?ga_BadLetter ?gg_BadLetter ?xa_BadLetter ?xn_BadLetter ?xt_BadLetter ?xm_BadLetter ?na_BadLetter_index ?l_BadLetter___init__ ?cd_BadLetter ?cl_BadLetter ?fl_BadLetter ?rv_BadLetter ?rf_BadLetter ?me_BadLetter ?up_BadLetter ?ve_BadLetter ?ty_BadLetter ?h_TooMany ?sb_TooMany ?xd_TooMany ?tt_TooMany ?kc_TooMany ?su_BadLetters_TooMany ?su_BadLetter_TooMany ?su_TooMany_TooMany ?a_TooMany___init__ ?xl_TooMany ?xs_TooMany ?ga_TooMany ?gg_TooMany ?xa_TooMany ?xn_TooMany ?xt_TooMany ?xm_TooMany ?na_TooMany_what ?na_TooMany_many ?na_TooMany_most ?l_TooMany___init__ ?cd_TooMany ?cl_TooMany ?fl_TooMany ?rv_TooMany ?rf_TooMany ?me_TooMany ?up_TooMany ?ve_TooMany ?ty_TooMany
    (case h_MOST_LETTERS => k_is)
    (case h_BEGINNINGS => k_is)
    (case h_SMALL => k_is)
    (case h_SIGNS => k_is)
    (case h_Letters => k_is)
    (case h_AsksError => k_is)
    (case h_BadLetters => k_is)
    (case h_BadLetter => k_is)
    (case h_TooMany => k_is)
    (case a_is_word => k_is)
    (case a_is_beginning => k_is)
    (case a_is_letter => k_is)
    (case a_Letters___init__ => k_is)
    (case a_Letters___contains__ => k_is)
    (case a_Letters_rank => k_is)
    (case a_Letters___len__ => k_is)
    (case a_Letters___eq__ => k_is)
    (case a__law_pen => k_is)
    (case a__law_draw => k_is)
    (case a__law_pick => k_is)
    (case a__law_letters => k_is)
    (case a__law_odd => k_is)
    (case a__law_no_rank => k_is)
    (case a_law => k_is)
    (case a_BadLetters___init__ => k_is)
    (case a_BadLetter___init__ => k_is)
    (case a_TooMany___init__ => k_is)
    (case l_is_word => k_is)
    (case l_is_beginning => k_is)
    (case l_is_letter => k_is)
    (case l_Letters___init__ => k_is)
    (case l_Letters___contains__ => k_is)
    (case l_Letters_rank => k_is)
    (case l_Letters___len__ => k_is)
    (case l_Letters___eq__ => k_is)
    (case l__law_pen => k_is)
    (case l__law_draw => k_is)
    (case l__law_pick => k_is)
    (case l__law_letters => k_is)
    (case l__law_odd => k_is)
    (case l__law_no_rank => k_is)
    (case l_law => k_is)
    (case l_BadLetters___init__ => k_is)
    (case l_BadLetter___init__ => k_is)
    (case l_TooMany___init__ => k_is)
    (case z_ValueError => k_is)
    (case z_abs => k_is)
    (case z_all => k_is)
    (case z_bool => k_is)
    (case z_enumerate => k_is)
    (case z_int => k_is)
    (case z_isinstance => k_is)
    (case z_len => k_is)
    (case z_list => k_is)
    (case z_min => k_is)
    (case z_range => k_is)
    (case z_repr => k_is)
    (case z_str => k_is)
    (case z_tuple => k_is)
    (case lk_BEGINNINGS => k_is)
    (case pg_Letters => k_is)
    (case hd_Letters => k_is)
    (case po_Letters => k_is)
    (case sa_Letters => k_is)
    (case na_Letters_words => k_is)
    (case ne_Letters => k_is)
    (case ob_Letters => k_is)
    (case ia_Letters => k_is)
    (case in_Letters => k_is)
    (case it_Letters => k_is)
    (case im_Letters => k_is)
    (case c_is_word => k_is)
    (case k_is_word => k_is)
    (case c_is_beginning => k_is)
    (case k_is_beginning => k_is)
    (case c_is_letter => k_is)
    (case k_is_letter => k_is)
    (case i_Letters___init__ => k_is)
    (case c_Letters___init__ => k_is)
    (case k_Letters___init__ => k_is)
    (case i_Letters___contains__ => k_is)
    (case c_Letters___contains__ => k_is)
    (case k_Letters___contains__ => k_is)
    (case i_Letters_rank => k_is)
    (case c_Letters_rank => k_is)
    (case k_Letters_rank => k_is)
    (case i_Letters___len__ => k_is)
    (case c_Letters___len__ => k_is)
    (case k_Letters___len__ => k_is)
    (case i_Letters___eq__ => k_is)
    (case c_Letters___eq__ => k_is)
    (case k_Letters___eq__ => k_is)
    (case c__law_pen => k_is)
    (case k__law_pen => k_is)
    (case c__law_draw => k_is)
    (case k__law_draw => k_is)
    (case c__law_pick => k_is)
    (case k__law_pick => k_is)
    (case c__law_letters => k_is)
    (case k__law_letters => k_is)
    (case c__law_odd => k_is)
    (case k__law_odd => k_is)
    (case c__law_no_rank => k_is)
    (case k__law_no_rank => k_is)
    (case c_law => k_is)
    (case k_law => k_is)
    (case mk_Letters => k_is)
    (case kc_Letters => k_is)
    (case op_ => k_is)
    (case z_super => k_is)
    (case hst_ => rfl)
    (case sb_BadLetters => k_is)
    (case xd_BadLetters => k_is)
    (case tt_BadLetters => k_is)
    (case kc_BadLetters => k_is)
    (case su_BadLetters_BadLetters => k_is)
    (case su_BadLetter_BadLetters => k_is)
    (case su_TooMany_BadLetters => k_is)
    (case xl_BadLetters => k_is)
    (case xs_BadLetters => k_is)
    (case ga_BadLetters => k_is)
    (case gg_BadLetters => k_is)
    (case xa_BadLetters => k_is)
    (case xn_BadLetters => k_is)
    (case xt_BadLetters => k_is)
    (case xm_BadLetters => k_is)
    (case na_BadLetters_index => k_is)
    (case cd_BadLetters => k_is)
    (case cl_BadLetters => k_is)
    (case fl_BadLetters => k_is)
    (case rv_BadLetters => rfl)
    (case rf_BadLetters => decide +kernel)
    (case me_BadLetters => k_is)
    (case up_BadLetters => ks_is)
    (case ve_BadLetters => k_is)
    (case ty_BadLetters => k_is)
    (case sb_BadLetter => k_is)
    (case xd_BadLetter => k_is)
    (case tt_BadLetter => k_is)
    (case kc_BadLetter => k_is)
    (case su_BadLetters_BadLetter => k_is)
    (case su_BadLetter_BadLetter => k_is)
    (case su_TooMany_BadLetter => k_is)
    (case xl_BadLetter => k_is)
    (case xs_BadLetter => k_is)
    (case ga_BadLetter => k_is)
    (case gg_BadLetter => k_is)
    (case xa_BadLetter => k_is)
    (case xn_BadLetter => k_is)
    (case xt_BadLetter => k_is)
    (case xm_BadLetter => k_is)
    (case na_BadLetter_index => k_is)
    (case cd_BadLetter => k_is)
    (case cl_BadLetter => k_is)
    (case fl_BadLetter => k_is)
    (case rv_BadLetter => rfl)
    (case rf_BadLetter => decide +kernel)
    (case me_BadLetter => k_is)
    (case up_BadLetter => ks_is)
    (case ve_BadLetter => k_is)
    (case ty_BadLetter => k_is)
    (case sb_TooMany => k_is)
    (case xd_TooMany => k_is)
    (case tt_TooMany => k_is)
    (case kc_TooMany => k_is)
    (case su_BadLetters_TooMany => k_is)
    (case su_BadLetter_TooMany => k_is)
    (case su_TooMany_TooMany => k_is)
    (case xl_TooMany => k_is)
    (case xs_TooMany => k_is)
    (case ga_TooMany => k_is)
    (case gg_TooMany => k_is)
    (case xa_TooMany => k_is)
    (case xn_TooMany => k_is)
    (case xt_TooMany => k_is)
    (case xm_TooMany => k_is)
    (case na_TooMany_what => k_is)
    (case na_TooMany_many => k_is)
    (case na_TooMany_most => k_is)
    (case cd_TooMany => k_is)
    (case cl_TooMany => k_is)
    (case fl_TooMany => k_is)
    (case rv_TooMany => rfl)
    (case rf_TooMany => decide +kernel)
    (case me_TooMany => k_is)
    (case up_TooMany => ks_is)
    (case ve_TooMany => k_is)
    (case ty_TooMany => k_is)
