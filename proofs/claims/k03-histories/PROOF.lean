import PyProof.Rows.All
import Wide.All
import OpenK.AllK
import Wide.FinOn
import PyProof.InstNe
import HandS.ForMost
import HandS.Strs
import HandS.Style
import HandS.TupAny
import HandS.Wide
import HandS.Defaults
import HandS.IsInst
import HandS.More
import HandS.Codes
import HandS.OwnEq
import HandS.Evl
import KE.GoesEnum
import KE.KExcSuper
import HandS.ExcInit
import HandS.Nested
import HandS.TryMany
import HandS.FStr
import HandS.ExcField
import HandS.ExcOwn
import HandS.ExcIs
import HandS.WordsExc
import KE.KExcIs
import PyProof.ReprRoads
import HandS.Deep
import HandS.MakeKw
import HandS.Star
import KE.KOpsOwn
import HandS.Conv
import PySem.Challenge.RW_asksmore_k03_histories
set_option Elab.async false
set_option linter.all false
set_option maxRecDepth 100000
set_option maxHeartbeats 4000000
namespace Aq
open PySem L2

/-! ### defs, classes and methods in one word each -/
section
variable (P : Program) (w : World) (K : PySem.W.Frag) (mg : Str → Option Value) (base : Heap)
structure Cal (k : Nat) (x : Str) (ps : List Str) (sp : Sp) : Prop where
  ex : ∃ (f : Addr) (fd : FuncData), FnOk P w K mg base CX0 k f fd ps sp ∧ mg x = some (.ref f) ∧ PySem.W.keepIn K (.ref f) = true ∧ Binds K fd ps []
structure Ctr (k : Nat) (x : Str) (C : Addr) (ps : List Str) (dvs : List V) (sp : Sp) : Prop where
  ex : ∃ (f : Addr) (fd : FuncData) (ds : List Value), Mk K C f ∧ FnOk P w K mg base CX0 k f fd ps sp ∧ mg x = some (.ref C) ∧ Binds K fd ps ds ∧ Vals dvs ds
structure Mth (k : Nat) (C : Addr) (m : Str) (ps : List Str) (sp : Sp) : Prop where
  cl : Cls K C
  ex : ∃ (f : Addr) (fd : FuncData), Meth K C m f ∧ FnOk P w K mg base CX0 k f fd ps sp ∧ Binds K fd ps []
end
section
variable {X : Cx} {k j : Nat} {x m : Str} {C : Addr} {ps : List Str} {dvs : List V} {sp : Sp} {e o : Expr} {es : List Expr} {ta : TE} {t : TA} {p pos apos : Pos}
theorem pe_callC (c : Cal X.prog X.w X.K X.mg X.base k x ps sp) (hr : Room j X.A) (ha : PA X (e :: es) t) (hk : k ≤ j := by decide) (hg : Gl X x := by rfl)
    (hdb : (x == ("__debug__" : Str)) = false := by decide) (he : starEach (e :: es) X.env = (false, eval e X.env) :: starEach es X.env := by rfl) (hpl : (backTo pos (starEach es X.env)).any (·.1) = false := by rfl) :
    PE X (.Call (.Name x p) (e :: es) [] pos) (tCall sp [] E0 t) := by
  obtain ⟨f, fd, F, hm, kp, b⟩ := c.ex
  exact pe_call F (hr.mono hk) hg hm kp b .nil pass0 ha hdb he hpl
theorem pe_makeC (c : Ctr X.prog X.w X.K X.mg X.base k x C ps dvs sp) (hr : Room j X.A) (ha : PA X (e :: es) t) (hk : k + 1 ≤ j := by decide) (hg : Gl X x := by rfl)
    (hdb : (x == ("__debug__" : Str)) = false := by decide) (he : starEach (e :: es) X.env = (false, eval e X.env) :: starEach es X.env := by rfl) (hpl : (backTo pos (starEach es X.env)).any (·.1) = false := by rfl) :
    PE X (.Call (.Name x p) (e :: es) [] pos) (tMake C sp dvs E0 t) := by
  obtain ⟨f, fd, ds, M, F, hm, b, hd⟩ := c.ex
  exact pe_make M F (hr.mono hk) hg hm b hd pass0 ha hdb he hpl
theorem pe_methC {pl : Sem Bool} (c : Mth X.prog X.w X.K X.mg X.base k C m ps sp) (hr : Room j X.A) (ho : PE X o ta) (ha : PA X (e :: es) t) (hk : k ≤ j := by decide)
    (hst : starEach (e :: es) X.env = (false, eval e X.env) :: starEach es X.env := by rfl) (hpl : (backTo pos (starEach es X.env)).any (·.1) = false := by rfl)
    (ht : eval (.Call (.Attribute o m apos) (e :: es) [] pos) X.env = (do
      let ov ← eval o X.env
      standAt apos.atName
      let (f, first) ← holding [ov] (getMethod ov m pl)
      callWith pos f first (backTo pos (starEach (e :: es) X.env)) (backToKw pos (keywordEach [] X.env))) := by rfl) :
    PE X (.Call (.Attribute o m apos) (e :: es) [] pos) (tMeth C m sp [] E0 ta t) := by
  obtain ⟨f, fd, M, F, b⟩ := c.ex
  exact pe_meth ho c.cl M F (hr.mono hk) b .nil pass0 ha hst hpl ht

/-! ### x in o, x not in o by an own __contains__; ==, != by an own __eq__ -/
/-- what an own operator gives is a bool -/
def rOwnB (sp : Sp) (g : Bool → Bool) (vs : List V) (H : Hp) (Q : VK) : Prop := sp vs H (fun v H' => ∃ b, v = .bl b ∧ Q (.bl (g b)) H') E0
def rInOwn (C : Addr) (sp : Sp) (g : Bool → Bool) : R2 := fun x y H Q => ∃ a dx fs, y = .ref a ∧ H a = some (.ins C dx fs) ∧ rOwnB sp g [y, x] H Q
theorem own_call {pins : List (Addr × Obj)} {σ : St} {H : Hp} {s : Shared} {Q : VK} {g : Bool → Bool} {f : Addr} {fd : FuncData} {us : List Value} {vs : List V} (F : FnOk X.prog X.w X.K X.mg X.base CX0 k f fd ps sp) (hr : Room k X.A) (hb : Binds X.K fd ps [])
    (I : Inv X pins σ H s) (r : Vals vs us) (h : rOwnB sp g vs H Q) : wpAny (model X.prog X.w) X.A (call (.ref f) us) (fun v s' => ∃ b, v = .bool b ∧ EP X pins σ Q (.bool (g b)) s') X.xe s := by
  refine thn (run_fn F hr hb .nil pass0 I r (by rw [List.append_nil]; exact h)) fun v s' hq => ?_
  obtain ⟨z, H', I', rz, b, rfl, q⟩ := hq
  exact ⟨b, rz, .bl (g b), H', I', rfl, q⟩
theorem op_inOwn (c : Mth X.prog X.w X.K X.mg X.base k C "__contains__" ps sp) (hr : Room j X.A) (hk : k ≤ j := by decide) : OpR X (compareOp .In) (rInOwn C sp id) := by
  intro pins s σ H x y u v Q I rx ry h
  obtain ⟨f, fd, M, F, b⟩ := c.ex
  obtain ⟨a, dx, fs, rfl, ha, h⟩ := h
  cases ry
  obtain ⟨mA, J, _⟩ := ins_get I.hok ha
  obtain ⟨od, J, _⟩ := J.look
  obtain ⟨m, hF⟩ := I.fr
  have r2 : Vals [V.ref a, x] [Value.ref a, u] := .cons rfl (.cons rx .nil)
  have oc := own_call F (hr.mono hk) b I r2 h
  refine PySem.W.in_K hF I.ok.mod.kin J M.at_ M.fn (thn oc fun r s' hq => ?_)
  obtain ⟨r, rfl, q⟩ := hq
  exact wpAny_truthy_bool q
theorem op_notInOwn (c : Mth X.prog X.w X.K X.mg X.base k C "__contains__" ps sp) (hr : Room j X.A) (hk : k ≤ j := by decide) : OpR X (compareOp .NotIn) (rInOwn C sp not) := by
  intro pins s σ H x y u v Q I rx ry h
  obtain ⟨f, fd, M, F, b⟩ := c.ex
  obtain ⟨a, dx, fs, rfl, ha, h⟩ := h
  cases ry
  obtain ⟨mA, J, _⟩ := ins_get I.hok ha
  obtain ⟨od, J, _⟩ := J.look
  obtain ⟨m, hF⟩ := I.fr
  have r2 : Vals [V.ref a, x] [Value.ref a, u] := .cons rfl (.cons rx .nil)
  have oc := own_call F (hr.mono hk) b I r2 h
  refine PySem.W.notIn_K hF I.ok.mod.kin J M.at_ M.fn (thn oc fun r s' hq => ?_)
  obtain ⟨r, rfl, q⟩ := hq
  exact wpAny_truthy_bool q
/-- both of the class C -/
def rEqOwn (C : Addr) (sp : Sp) (g : Bool → Bool) : R2 := fun x y H Q => ∃ a b dx dy fs gs, x = .ref a ∧ y = .ref b ∧ H a = some (.ins C dx fs) ∧ H b = some (.ins C dy gs) ∧ rOwnB sp g [x, y] H Q
theorem op_eqOwn (c : Mth X.prog X.w X.K X.mg X.base k C "__eq__" ps sp) (hr : Room j X.A) (hk : k ≤ j := by decide) : OpR X (compareOp .Eq) (rEqOwn C sp id) := by
  intro pins s σ H x y u v Q I rx ry h
  obtain ⟨f, fd, M, F, b⟩ := c.ex
  obtain ⟨a, b', dx, dy, fs, gs, rfl, rfl, ha, hb, h⟩ := h
  cases rx
  cases ry
  obtain ⟨mA, J, _⟩ := ins_get I.hok ha
  obtain ⟨mB, J', _⟩ := ins_get I.hok hb
  obtain ⟨od, J, _⟩ := J.look
  obtain ⟨od', J', _⟩ := J'.look
  obtain ⟨m, hF⟩ := I.fr
  have r2 : Vals [V.ref a, V.ref b'] [Value.ref a, Value.ref b'] := .cons rfl (.cons rfl .nil)
  have oc := own_call F (hr.mono hk) b I r2 h
  refine PySem.W.cmp_K (op := .Eq) (tb := .ref C) hr.units0 hF I.ok.mod.kin J J'.type (by simp [PySem.W.notFirst]) M.at_ M.fn (thn oc fun r s' hq => ?_)
  obtain ⟨r, rfl, q⟩ := hq
  exact q
end
section
variable {prog : Program} {w : World} {A : Around} {E : Value → Shared → Prop} {s : Shared} {K : PySem.W.Frag} {x C L f : Addr} {h₀ : Heap} {m : Str → Option Value} {ox : Obj} {od : Option Obj} {b tb : Value}
open PySem.W in
theorem objNe_K (X : K.In s.heap) (I : InstAt s.heap x ox C od) (hs : findIn K (.ref C) "__eq__" = some (some (.ref f))) (hf : isFn K (.ref f) = true) (hu : A.units < cLine) {Q : Fin → Shared → Prop}
    (hcall : wpAny (model prog w) A (call (.ref f) [.ref x, b]) (fun v s' => ∃ r, v = .bool r ∧ Q (.done (.ret (.bool (!r)))) s') E s) :
    wpAny (model prog w) A (Builtin.«object.__ne__» ⟨[.ref x, b], []⟩) Q E s := by
  unfold Builtin.«object.__ne__»
  repeat (first
    | with_reducible refine wpAny_cRoomFor hu ?_
    | (refine wpAny_bind (m := callSpecialIfBound? (.ref x) (Str.ofString "__eq__") [b])
        (ifBound_K X I hs hf (wpAny_mono hcall (fun r s' hr => by
          obtain ⟨b, rfl, hq⟩ := hr
          repeat (first | exact hq | exact wpAny_pure hq | exact wpAny_truthy_bool hq | (refine wpAny_bind (m := truthy (.bool _)) (wpAny_truthy_bool ?_)) | wp_step)) fun _ _ e => e)))
    | wp_step)
open PySem.W in
theorem slotcheck_K {id owner n : String} {rest : List Value} {Q : Unit → Shared → Prop} (X : K.In s.heap) (I : InstAt s.heap x ox C od) (hk : builtinKind id = some .slot) (hs : splitId id = some (owner, n))
    (ha : argsOk id ⟨.ref x :: rest, []⟩) (hob : subIn K (.ref C) (.type owner) = some true) (hq : Q () s) :
    wpAny (model prog w) A (checkBuiltinCall id ⟨.ref x :: rest, []⟩) Q E s := by
  simp only [checkBuiltinCall, hk, hs]
  refine wpAny_bind ?_
  unfold isInstance
  refine wpAny_bind (I.type.here ?_)
  refine (looks_subIn X hob).here ?_
  repeat (first | wp_step)
  cases hsig : Manifest.signature? id with
  | none => exact wpAny_pure hq
  | some sig =>
    simp only [argsOk, hsig] at ha
    have h2 : Bind.checkArgs id sig ⟨.ref x :: rest, []⟩ = pure () := ha
    show wpAny _ A (Bind.checkArgs id sig ⟨.ref x :: rest, []⟩) Q E _
    rw [h2]; exact wpAny_pure hq
open PySem.W in
theorem ne_K {Q : Value → Shared → Prop} (hu : A.units + 1 < cLine) (X : K.In s.heap) (I : InstAt s.heap x ox C od) (hb : Looks (model prog w) s.heap (typeOf b) tb) (hn : notFirst K C tb = true)
    (hne : findIn K (.ref C) "__ne__" = some (some (.builtin "object.__ne__"))) (hob : subIn K (.ref C) (.type "object") = some true)
    (hs : findIn K (.ref C) "__eq__" = some (some (.ref f))) (hf : isFn K (.ref f) = true)
    (h : wpAny (model prog w) A.in1 (call (.ref f) [.ref x, b]) (fun v s' => ∃ r, v = .bool r ∧ Q (.bool (!r)) s') E s) : wpAny (model prog w) A (richCompare .NotEq (.ref x) b) Q E s := by
  have one : wpAny (model prog w) A (tryCompare (.ref x) "__ne__" b) (fun r s' => ∃ v, r = some v ∧ Q v s') E s := by
    unfold tryCompare
    simp only [callSpecialIfBound?, bindSpecialIfBound?]
    refine wpAny_bind (wpAny_holding (wpAny_bind (wpAny_bind (wpAny_bind (I.type.here ((looks_findIn X hne).here ?_))))))
    refine wpAny_bind (wpAny_askSetting (wpAny_ite ?_))
    have fin : wpAny (model prog w) A (call (.builtin "object.__ne__") ([.ref x] ++ [b]) >>= fun v => pure (some v)) (fun r s' => ∃ v, r = some (.bool v) ∧ Q (.bool v) s') E s := by
      refine wpAny_bind (wpAny_call (codeAny_call_builtin (F.cmp_object).ne.plain F.cmpEntry_ne (slotcheck_K X I F.cmpKind_ne F.cmpSplit_ne (F.cmpArgs_ne _ _) hob (objNe_K (A := A.in1) X I hs hf hu (wpAny_mono h (fun v s' hv => ?_) fun _ _ e => e)))))
      obtain ⟨r, rfl, hq⟩ := hv
      exact ⟨r, rfl, wpAny_pure ⟨_, rfl, hq⟩⟩
    split
    · simp only [(F.cmp_object).ne.bind]
      refine wpAny_bind (wpAny_pure (wpAny_pure ?_))
      refine wpAny_mono fin (fun _ _ z => ?_) fun _ _ e => e
      obtain ⟨v, rfl, q⟩ := z
      exact wpAny_pure ⟨_, rfl, q⟩
    · simp only [(F.cmp_object).ne.bind]
      refine wpAny_tryCatch (wpAny_bind (wpAny_pure (wpAny_pure ?_)))
      refine wpAny_mono fin (fun _ _ z => ?_) fun _ _ e => e
      obtain ⟨v, rfl, q⟩ := z
      exact wpAny_pure ⟨_, rfl, q⟩
  unfold richCompare
  simp only [oneThing_ref]
  refine wpAny_holding (wpAny_bind (wpAny_cRoomFor (Nat.lt_of_succ_lt hu) ?_))
  refine wpAny_bind (I.type.here (wpAny_bind (hb.here ?_)))
  split
  · rename_i q
    have e : subIn K tb (.ref C) = some false := by
      rcases Bool.or_eq_true_iff.mp hn with e | e
      · rw [beq_iff_eq.mp e] at q; simp at q
      · exact beq_iff_eq.mp e
    refine wpAny_bind ((looks_subIn X e).here ?_)
    simp only [Bool.false_eq_true, if_false]
    refine wpAny_bind (wpAny_mono one (fun r s' z => ?_) fun _ _ e => e)
    obtain ⟨v, rfl, hq⟩ := z
    exact wpAny_pure hq
  · refine wpAny_bind (wpAny_pure ?_)
    simp only [Bool.false_eq_true, if_false]
    refine wpAny_bind (wpAny_mono one (fun r s' z => ?_) fun _ _ e => e)
    obtain ⟨v, rfl, hq⟩ := z
    exact wpAny_pure hq
end
section
variable {X : Cx} {k j : Nat} {C : Addr} {ps : List Str} {sp : Sp}
/-- what != by an own __eq__ wants of the class -/
structure NeC (K : PySem.W.Frag) (C : Addr) : Prop where
  ne : PySem.W.findIn K (.ref C) "__ne__" = some (some (.builtin "object.__ne__"))
  ob : PySem.W.subIn K (.ref C) (.type "object") = some true
theorem op_neOwn (n : NeC X.K C) (c : Mth X.prog X.w X.K X.mg X.base k C "__eq__" ps sp) (hr : Room j X.A) (hk : k + 1 ≤ j := by decide) : OpR X (compareOp .NotEq) (rEqOwn C sp not) := by
  intro pins s σ H x y u v Q I rx ry h
  obtain ⟨f, fd, M, F, b⟩ := c.ex
  obtain ⟨a, b', dx, dy, fs, gs, rfl, rfl, ha, hb, h⟩ := h
  cases rx
  cases ry
  obtain ⟨mA, J, _⟩ := ins_get I.hok ha
  obtain ⟨mB, J', _⟩ := ins_get I.hok hb
  obtain ⟨od, J, _⟩ := J.look
  obtain ⟨od', J', _⟩ := J'.look
  have r2 : Vals [V.ref a, V.ref b'] [Value.ref a, Value.ref b'] := .cons rfl (.cons rfl .nil)
  refine ne_K (tb := .ref C) (hu_of hr) I.kIn J J'.type (by simp [PySem.W.notFirst]) n.ne n.ob M.at_ M.fn ?_
  have hr1 : Room k X.A.in1 := (hr.mono hk).in1
  have e0 : Env0 X.prog X.w X.K X.mg X.base X.A.in1 X.stack s H := by
    have e := I.env0
    exact ⟨e.frames, e.mod, e.bs, e.bsz, e.funs, e.frf, e.hok, e.bare⟩
  have hl := F.len _ _ _ _ h
  refine wpAny_call (codeAny_mono (F.run X.A.in1 X.stack s H ⟨[.ref a, .ref b'], []⟩ [.ref a, .ref b'] [.ref a, .ref b'] _ E0 hr1 e0 (by
    have := b s [.ref a, .ref b'] I.kIn (by simpa using hl)
    simpa using this) r2 h) fun r s' hq => ?_)
  cases r with
  | error e => exact pass0 pins σ H s e s' I hq
  | ok fl =>
    cases fl with
    | ret w =>
      obtain ⟨z, H', I', rz, b, ez, q⟩ := I.after hq
      subst ez
      cases rz
      exact ⟨b, rfl, .bl (!b), H', I', rfl, q⟩
    | next => exact False.elim hq
    | brk => exact False.elim hq
    | cont => exact False.elim hq

/-! ### text times an int; xs += ys -/
theorem op_mul_str : OpR X (binaryOp .Mult) (fun x y H Q => ∃ (z : Str) (i : Int), x = .str z ∧ y = .int i ∧ z.length ≤ 16 ∧ -(2 ^ 63) ≤ i ∧ i ≤ 1048576 ∧ Q (.str (Txt.mul z i)) H) := by
  intro pins s σ H x y u v Q I rx ry h
  obtain ⟨z, i, rfl, rfl, h1, h2, h3, q⟩ := h
  obtain ⟨t, rfl⟩ := rx
  obtain ⟨t', rfl⟩ := ry
  exact PySem.W.KXi.mul rfl h1 h2 h3 fun t' k _ _ => ⟨.str (Txt.mul z i), H, I.tok _, ⟨_, rfl⟩, q⟩
theorem pe_gstr {x z : Str} {t : Tok} {pos : Pos} (hm : X.mg x = some (.str z t)) (hg : Gl X x := by rfl) (hd : (x == ("__debug__" : Str)) = false := by decide) : PE X (.Name x pos) (tC (.str z)) := pe_glob hg hm ⟨_, rfl⟩ hd
theorem pe_gint {x : Str} {i : Int} {t : Tok} {pos : Pos} (hm : X.mg x = some (.int i t)) (hg : Gl X x := by rfl) (hd : (x == ("__debug__" : Str)) = false := by decide) : PE X (.Name x pos) (tC (.int i)) := pe_glob hg hm ⟨_, rfl⟩ hd
theorem pe_gref {x : Str} {a : Addr} {pos : Pos} (hm : X.mg x = some (.ref a)) (hg : Gl X x := by rfl) (hd : (x == ("__debug__" : Str)) = false := by decide) : PE X (.Name x pos) (tC (.ref a)) := pe_glob (v := .ref a) hg hm rfl hd
theorem pe_bty {x : Str} (T : String) {pos : Pos} (hm : X.mg x = none) (hv : bootBuiltins x = some (.type T)) (hg : Gl X x := by rfl) (hn : x ≠ "__name__" := by decide) (hd : (x == ("__debug__" : Str)) = false := by decide) : PE X (.Name x pos) (tC (.ty T)) := pe_bltn (v := .ty T) hg hm hv rfl hn hd
/-- tuple(xs), the new object known whole -/
theorem call_tuple_frz : CallR X (.type "tuple") (fun xs H Q => ∃ p ys, xs = [.ref p] ∧ ((SqL X.K H p ys ∧ ∀ l o, H l = none → o.dict = none → Q (.ref l) (upd H l (.frz o (.tup ys)))) ∨ (SqT X.K H p ys ∧ Q (.ref p) H))) := by
  intro pins s σ H xs us Q I r h
  obtain ⟨p, ys, rfl, h⟩ := h
  obtain ⟨u, rfl, rx⟩ := vals1 r
  cases rx
  rcases h with ⟨hq, q⟩ | ⟨hq, q⟩
  · obtain ⟨its, r', pl, hz⟩ := I.list hq
    have hlen := r'.length
    refine PySem.call_tuple_list pl.isList (fun h' kp => ?_) (by simp only [List.size_toArray] <;> omega)
    have I1 : Inv X pins σ H { s with heap := h' } := I.kept (t' := s.toks) kp
    have I2 : Inv X pins σ (upd H h'.objs.size (.frz { cls := .type "tuple", data := .seq its.toArray } (.tup ys))) { s with heap := h'.push { cls := .type "tuple", data := .seq its.toArray } } :=
      I1.laid (t' := s.toks) (fun b o e => Heap.get?_push_of_some _ e) (Nat.le_refl _) (show ObjOk X.prog X.w _ _ _ (.frz _ (.tup ys)) from ⟨by heap_get, hz, its, r', PyProof.Rows.IsTup.new _ _⟩)
    exact ⟨.ref h'.objs.size, _, I2, rfl, q _ _ (I1.hok.fresh (Nat.le_refl _)) rfl⟩
  · obtain ⟨its, r', pl, hz⟩ := I.tuple hq
    exact PySem.call_tuple_same pl ⟨.ref p, H, I, rfl, q⟩
/-- a tuple known whole -/
def TupF (H : Hp) (x : V) : Prop := ∃ p o xs, x = .ref p ∧ H p = some (.frz o (.tup xs)) ∧ o.dict = none
def tTupM (r : V → List V → Hp → VK → Prop) (to : TE) (t : TA) : TE := fun σ H Q => to σ H fun x H1 => TupF H1 x ∧ t σ H1 fun xs H2 => r x xs H2 Q
theorem pe_tupm {o e : Expr} {es : List Expr} {to : TE} {t : TA} {name : Str} {apos cpos : Pos} {id : String} {r : V → List V → Hp → VK → Prop} (slot : Slot "tuple" name id) (hty : typeOf (.builtin id) = pure (.type "method_descriptor")) (hm : MtR X id r) (ho : PE X o to) (ha : PA X (e :: es) t)
    (hbase : attributeBase o name X.env (eval o X.env) = eval o X.env := by rfl)
    (hfew : ((backTo cpos (starEach (e :: es) X.env)).all (fun x => !x.1) && (backToKw cpos (keywordEach [] X.env)).all (fun x => x.1.isSome)
      && decide ((e :: es).length + ([] : List Keyword).length + (if ([] : List Keyword).isEmpty then 0 else 1) < 30)) = true := by rfl)
    (hline : (apos.endLine == cpos.line) = true := by rfl) (hs : starEach (e :: es) X.env = (false, eval e X.env) :: starEach es X.env := by rfl) (hplain : (backTo cpos (starEach es X.env)).any (·.1) = false := by rfl) :
    PE X (.Call (.Attribute o name apos) (e :: es) [] cpos) (tTupM r to t) := by
  refine ⟨fun pins s σ H Q I h => ?_⟩
  refine wpAny_Call_method_late hbase hfew hline rfl (thn (ho.run pins s σ H _ I h) fun v s1 ⟨x, H1, I1, r1, ty, q1⟩ => ?_)
  obtain ⟨p, ob, xs, rfl, hp, hd⟩ := ty
  cases r1
  obtain ⟨hob, _, its, _, o', ho', hc, _⟩ := I1.hok p _ hp
  have eo : ob = o' := Option.some.inj (hob.symm.trans ho')
  refine ⟨"tuple", id, PySem.F.plainAttrs_tuple, slot, hty, ⟨o', ho', hc⟩, fun a e => ?_, ?_⟩
  · cases e
    exact ⟨ob, hob, hd⟩
  have hA := ha.run cpos pins s1 σ H1 _ I1 q1
  rw [hs] at hA ⊢
  refine Calls.callWith_builtin (by show (false || (backTo cpos (starEach es X.env)).any (·.1)) = false; rw [hplain] <;> rfl) (Calls.evalArgs_plain ?_)
  exact thn hA fun us s2 ⟨vs, H2, I2, r2, q2⟩ => hm pins s2 σ H2 (.ref p) vs (.ref p) us Q I2 rfl r2 q2
/-- a if c else b as a test -/
def tIfT (tc tp tq : TT) : TT := fun σ H Q => tc σ H fun b H1 => if b = true then tp σ H1 Q else tq σ H1 Q
theorem pt_ifExp {c p q : Expr} {tc tp tq : TT} {pos : Pos} (hc : PT X c tc) (hp : PT X p tp) (hq : PT X q tq) : PT X (.IfExp c p q pos) (tIfT tc tp tq) := by
  refine ⟨fun pins s σ H Q I h => ?_⟩
  refine PyProof.Rows.isTrue_IfExp (thn (hc.run pins s σ H _ I h) fun b s1 ⟨H1, I1, h1⟩ => ?_)
  cases b with
  | true => exact hp.run pins s1 σ H1 Q I1 (by simpa using h1)
  | false => exact hq.run pins s1 σ H1 Q I1 (by simpa using h1)
/-! ### within a comprehension: the written part by its name -/
theorem pi_tupK {K : PySem.W.Frag} {tg l : Expr} {tl : TE} (hl : PE X l tl) (hK : X.K = K := by rfl) : PI X tg l (iTup K tl) := hK ▸ pi_tup hl
theorem pi_listK {K : PySem.W.Frag} {tg l : Expr} {tl : TE} (hl : PE X l tl) (hK : X.K = K := by rfl) : PI X tg l (iList K tl) := hK ▸ pi_list hl
theorem pe_fldK {K : PySem.W.Frag} {e : Expr} {f : Str} {ta : TE} {pos : Pos} (he : PE X e ta) (hb : attributeBase e f X.env (eval e X.env) = eval e X.env) (hK : X.K = K := by rfl) : PE X (.Attribute e f pos) (tFld K ta f) := hK ▸ pe_fld he hb
theorem op_in_seqK {K : PySem.W.Frag} (hK : X.K = K := by rfl) : OpR X (compareOp .In) (rIn K false) := hK ▸ op_in_seq
theorem op_notIn_seqK {K : PySem.W.Frag} (hK : X.K = K := by rfl) : OpR X (compareOp .NotIn) (rIn K true) := hK ▸ op_notIn_seq
theorem ix_listK {K : PySem.W.Frag} (hK : X.K = K := by rfl) : IxR X (rIxL K) := hK ▸ ix_list
theorem ix_tupK {K : PySem.W.Frag} (hK : X.K = K := by rfl) : IxR X (rIxT K) := hK ▸ ix_tup
theorem sl_listK {K : PySem.W.Frag} (hK : X.K = K := by rfl) : SlR X (rSlL K) := hK ▸ sl_list
theorem call_isiK' {K : PySem.W.Frag} (hK : X.K = K := by rfl) : CallR X (.builtin "isinstance") (rIsi K) := hK ▸ call_isi
theorem ip_ext : PIp X .Add rExt2 := by
  intro pins s σ H x y u v Q I rx ry h
  exact iop_ext pins s σ H x y u v Q I rx ry h
end
end Aq
/-! readings, one step at a time, the rest behind -/
namespace Aq
open PySem L2 Evl
section
variable {σ : L2.St} {H : Hp} {Q : VK} {K : PySem.W.Frag} {v x y : V} {ta tb tc te tv : TE} {tA tB' : TT} {ts : TA} {i j : Int} {n : Nat} {nx bk ct : L2.St → Hp → Prop} {rt : VK} {t u : TS} {g : TG}
/-! #### values -/
theorem rd_var {k : Nat} (h : σ[k]? = some (some v)) (q : Q v H) : tVar k σ H Q := ⟨v, h, q⟩
theorem rd_c (q : Q v H) : tC v σ H Q := q
theorem rd_op {r : R2} (h : ta σ H fun x H1 => tb σ H1 fun y H2 => r x y H2 Q) : tOp r ta tb σ H Q := h
theorem rd_un {r : V → Hp → VK → Prop} (h : ta σ H fun x H1 => r x H1 Q) : tUn r ta σ H Q := h
theorem rd_I0 {f : Int → Int → V} (q : Q (f i j) H) : rI0 f (.int i) (.int j) H Q := ⟨i, j, rfl, rfl, q⟩
theorem rd_I {C : Int → Int → Prop} {f : Int → Int → V} (c : C i j) (q : Q (f i j) H) : rI C f (.int i) (.int j) H Q := ⟨i, j, rfl, rfl, c, q⟩
theorem rd_eq (h : scal x y = true) (q : Q (.bl (decide (x = y))) H) : rEq x y H Q := ⟨h, q⟩
theorem rd_ne (h : scal x y = true) (q : Q (.bl (!decide (x = y))) H) : rNe x y H Q := ⟨h, q⟩
theorem rd_B {Qb : Bool → Hp → Prop} (h : te σ H fun x H1 => ∃ c, x = .bl c ∧ Qb c H1) : tB te σ H Qb := h
theorem rd_test {Qb : Bool → Hp → Prop} (h : te σ H fun x H1 => ∃ c, x = .bl c ∧ Qb c H1) : tTest te σ H Qb := h
theorem rd_bl {b : Bool} {Qb : Bool → Prop} (q : Qb b) : ∃ c, V.bl b = V.bl c ∧ Qb c := ⟨b, rfl, q⟩
theorem rd_not {Qb : Bool → Hp → Prop} (h : tA σ H fun c H1 => Qb (!c) H1) : tNot tA σ H Qb := h
theorem rd_and {Qb : Bool → Hp → Prop} (h : tA σ H fun c H1 => if c = true then tB' σ H1 Qb else Qb false H1) : tAnd tA tB' σ H Qb := h
theorem rd_or {Qb : Bool → Hp → Prop} (h : tA σ H fun c H1 => if c = true then Qb true H1 else tB' σ H1 Qb) : tOr tA tB' σ H Qb := h
theorem rd_andV (h : ta σ H fun x H1 => ∃ c, x = .bl c ∧ if c = true then tb σ H1 Q else Q (.bl false) H1) : tAndV ta tb σ H Q := h
theorem rd_orV (h : ta σ H fun x H1 => ∃ c, x = .bl c ∧ if c = true then Q (.bl true) H1 else tb σ H1 Q) : tOrV ta tb σ H Q := h
theorem rd_notV (h : ta σ H fun x H1 => ∃ c, x = .bl c ∧ Q (.bl (!c)) H1) : tNotV ta σ H Q := h
theorem rd_if (h : tA σ H fun c H1 => if c = true then ta σ H1 Q else tb σ H1 Q) : tIf tA ta tb σ H Q := h
theorem rd_ifT {tp tq : TT} {Qb : Bool → Hp → Prop} (h : tA σ H fun c H1 => if c = true then tp σ H1 Qb else tq σ H1 Qb) : tIfT tA tp tq σ H Qb := h
theorem rd_chain {r r' : R2} (h : ta σ H fun x H1 => tb σ H1 fun y H2 => r x y H2 fun z H3 => ∃ k, z = .bl k ∧ (if k = true then tc σ H3 fun w' H4 => r' y w' H4 Q else Q (.bl false) H3)) : tChain r r' ta tb tc σ H Q := h
theorem rd_cb {r : List V → Hp → VK → Prop} (h : ts σ H fun vs H1 => r vs H1 Q) : tCB r ts σ H Q := h
theorem rd_nil {Ql : List V → Hp → Prop} (q : Ql [] H) : tNil σ H Ql := q
theorem rd_cons {Ql : List V → Hp → Prop} (h : ta σ H fun x H1 => ts σ H1 fun xs H2 => Ql (x :: xs) H2) : tCons ta ts σ H Ql := h
theorem rd_call {sp : Sp} {dvs : List V} {E : XK} (h : ts σ H fun vs H1 => sp (vs ++ dvs) H1 Q E) : tCall sp dvs E ts σ H Q := h
/-- a new object: what stood stands -/
theorem rd_new {o : HO} {Qp : V → Hp → Prop} (q : ∀ p H', H p = none → Ex H H' → H' p = some o → Qp (.ref p) H') : ∀ p, H p = none → Qp (.ref p) (upd H p o) :=
  fun p hp => q p _ hp (Ex.new hp) upd_same
theorem rd_tup (h : ts σ H fun xs H1 => xs.length ≤ sizeLine ∧ ∀ p, H1 p = none → Q (.ref p) (upd H1 p (.tup xs))) : tTup ts σ H Q := h
theorem rd_lst (h : ts σ H fun xs H1 => xs.length ≤ sizeLine ∧ ∀ p, H1 p = none → Q (.ref p) (upd H1 p (.lst xs))) : tLst ts σ H Q := h
/-! #### fields, dicts -/
theorem rd_fld {f : Str} (h : ta σ H fun x H1 => ∃ a C dx fs v, x = .ref a ∧ H1 a = some (.ins C dx fs) ∧ Cls K C ∧ NoAttr K C f ∧ fs.lookup f = some v ∧ Q v H1) : tFld K ta f σ H Q := h
theorem rd_fldAt {f : Str} {a C dx : Addr} {fs : List (Str × V)} {R : V → Prop} (ho : H a = some (.ins C dx fs)) (c : Cls K C) (n : NoAttr K C f) (l : fs.lookup f = some v) (q : R v) :
    ∃ a' C dx fs v, V.ref a = .ref a' ∧ H a' = some (.ins C dx fs) ∧ Cls K C ∧ NoAttr K C f ∧ fs.lookup f = some v ∧ R v := ⟨a, C, dx, fs, v, rfl, ho, c, n, l, q⟩
theorem rd_dget {td ty : TE} (h : td σ H fun x H1 => ty σ H1 fun y H2 => ∃ a v, x = .ref a ∧ DGet H2 a y (some v) ∧ Q v H2) : tDGet td ty σ H Q := h
theorem rd_dgetS {a : Addr} {kvs : List (Key × V)} {k : Str} {R : V → Prop} (ho : H a = some (.dK kvs)) (l : valV kvs (Sum.inr k) = some v) (q : R v) : ∃ a' v, V.ref a = .ref a' ∧ DGet H a' (.str k) (some v) ∧ R v :=
  ⟨a, v, rfl, by have := DGet.k (k := Sum.inr k) ho; rw [l] at this; exact this, q⟩
/-! #### statements -/
theorem rd_seq (h : t ⟨u ⟨nx, rt, bk, ct⟩, rt, bk, ct⟩ σ H) : tSeq t u ⟨nx, rt, bk, ct⟩ σ H := h
theorem rd_asg {k : Nat} (h : te σ H fun x H1 => nx (σ.set k (some x)) H1) : tAsg te (gName k) ⟨nx, rt, bk, ct⟩ σ H := h
theorem rd_asgG (h : te σ H fun x H1 => g x σ H1 nx) : tAsg te g ⟨nx, rt, bk, ct⟩ σ H := h
theorem rd_gname {k : Nat} {R : L2.St → Hp → Prop} (q : R (σ.set k (some v)) H) : gName k v σ H R := q
theorem rd_drop (h : te σ H fun _ H1 => nx σ H1) : tDrop te ⟨nx, rt, bk, ct⟩ σ H := h
theorem rd_ret (h : te σ H rt) : tRet te ⟨nx, rt, bk, ct⟩ σ H := h
theorem rd_next (q : nx σ H) : tNext ⟨nx, rt, bk, ct⟩ σ H := q
theorem rd_ifS {c : TT} (h : c σ H fun b H1 => if b = true then t ⟨nx, rt, bk, ct⟩ σ H1 else u ⟨nx, rt, bk, ct⟩ σ H1) : tIfS c t u ⟨nx, rt, bk, ct⟩ σ H := h
theorem rd_par {k l : Nat} (h : ts σ H fun vs H1 => ∃ v w, vs = [v, w] ∧ nx ((σ.set k (some v)).set l (some w)) H1) : tPar k l ts ⟨nx, rt, bk, ct⟩ σ H := h
theorem rd_two {a b : V} {R : V → V → Prop} (q : R a b) : ∃ v w, [a, b] = [v, w] ∧ R v w := ⟨a, b, rfl, q⟩
theorem rd_dput {td ty : TE} (h : tv σ H fun v H1 => td σ H1 fun x H2 => ty σ H2 fun y H3 => ∃ a H4, x = .ref a ∧ DPut H3 a y v H4 ∧ nx σ H4) : sDPut td ty tv ⟨nx, rt, bk, ct⟩ σ H := h
theorem rd_dputS {a : Addr} {kvs : List (Key × V)} {k : Str} {R : Hp → Prop} (ho : H a = some (.dK kvs)) (hl : kvs.length < sizeLine) (q : R (upd H a (.dK (putK kvs (Sum.inr k) v)))) : ∃ a' H4, V.ref a = .ref a' ∧ DPut H a' (.str k) v H4 ∧ R H4 :=
  ⟨a, _, rfl, DPut.k (k := Sum.inr k) ho hl, q⟩
theorem rd_sfld {f : Str} (h : tv σ H fun y H1 => ta σ H1 fun x H2 => ∃ a C dx fs, x = .ref a ∧ H2 a = some (.ins C dx fs) ∧ Cls K C ∧ NoAttr K C f ∧ fs.length < 1000 ∧ nx σ (upd H2 a (.ins C dx (putF f y fs)))) : sFld K ta tv f ⟨nx, rt, bk, ct⟩ σ H := h
theorem rd_sfldAt {f : Str} {a C dx : Addr} {fs : List (Str × V)} {R : Hp → Prop} (ho : H a = some (.ins C dx fs)) (c : Cls K C) (n : NoAttr K C f) (l : fs.length < 1000) (q : R (upd H a (.ins C dx (putF f v fs)))) :
    ∃ a' C dx fs, V.ref a = .ref a' ∧ H a' = some (.ins C dx fs) ∧ Cls K C ∧ NoAttr K C f ∧ fs.length < 1000 ∧ R (upd H a' (.ins C dx (putF f v fs))) := ⟨a, C, dx, fs, rfl, ho, c, n, l, q⟩
theorem rd_yes {Qb : Bool → Hp → Prop} (q : Qb true H) : tYes σ H Qb := q
theorem rd_nt {A B : Prop} (h : B) : if (!true) = true then A else B := h
theorem rd_nf {A B : Prop} (h : A) : if (!false) = true then A else B := h
theorem rd_for {wi : TI} {tb : TS} (h : wi σ H fun J H1 => ∃ W : Nat → Nat → L2.St → Hp → Prop, (∃ m, W 0 m σ H1) ∧ ∀ i m σ H, W i m σ H →
      (J.stop i H ∧ nx σ H) ∨ (J.go i H ∧ ∃ N : L2.St → Hp → Prop, (∀ σ' H', N σ' H' → ∃ m', m' < m ∧ W (i + 1) m' σ' H') ∧ ∀ x H', J.yld i H x H' → g x σ H' fun σ2 H2 => tb ⟨N, rt, nx, N⟩ σ2 H2)) : tFor wi g tb ⟨nx, rt, bk, ct⟩ σ H := h
theorem rd_lc {wi : TI} {tt : TT} {vs : List Nat} (h : wi σ H fun J H1 => ∀ D, H1 D = none → ∃ W : Nat → Nat → Hp → Prop, (∃ m, W 0 m (upd H1 D (.lst []))) ∧ ∀ i m H, W i m H →
  (J.stop i H ∧ Q (.ref D) H) ∨ (J.go i H ∧ ∃ Nx : Hp → Prop, (∀ H', Nx H' → ∃ m', m' < m ∧ W (i + 1) m' H') ∧ ∀ x H', J.yld i H x H' → g x (wipe σ vs) H' fun σ2 H2 => wipe σ2 vs = wipe σ vs ∧ tt σ2 H2 fun b H3 =>
    if b = true then te σ2 H3 fun y H4 => ∃ acc, H4 D = some (.lst acc) ∧ acc.length < sizeLine ∧ Nx (upd H4 D (.lst (acc ++ [y]))) else Nx H3)) : tLc wi g tt te vs σ H Q := h
theorem rd_iStr {R : It → Hp → Prop} (h : te σ H fun v H1 => ∃ x, v = .str x ∧ R (Its x) H1) : iStr te σ H R := h
theorem rd_iStrAt {z : Str} {R : Str → Prop} (q : R z) : ∃ x, V.str z = .str x ∧ R x := ⟨z, rfl, q⟩
theorem rd_iList {R : It → Hp → Prop} (h : te σ H fun x H1 => ∃ a, x = .ref a ∧ (∃ xs, SqL K H1 a xs) ∧ R (Itl K a) H1) : iList K te σ H R := h
theorem rd_iTup {R : It → Hp → Prop} (h : te σ H fun x H1 => ∃ a, x = .ref a ∧ (∃ xs, SqT K H1 a xs) ∧ R (Itt K a) H1) : iTup K te σ H R := h
theorem rd_iListAt {a : Addr} {xs : List V} {R : Addr → Prop} (h : SqL K H a xs) (q : R a) : ∃ a', V.ref a = .ref a' ∧ (∃ xs, SqL K H a' xs) ∧ R a' := ⟨a, rfl, ⟨_, h⟩, q⟩
theorem rd_iTupAt {a : Addr} {xs : List V} {R : Addr → Prop} (h : SqT K H a xs) (q : R a) : ∃ a', V.ref a = .ref a' ∧ (∃ xs, SqT K H a' xs) ∧ R a' := ⟨a, rfl, ⟨_, h⟩, q⟩
theorem rd_iRng1 {R : It → Hp → Prop} (h : ts σ H fun vs H1 => ∃ j : Int, vs = [.int j] ∧ -(2 ^ 62) ≤ j ∧ j < 2 ^ 62 ∧ R (Itr 0 j.toNat) H1) : iRng1 ts σ H R := h
theorem rd_iRngAt {n : Int} {R : Int → Prop} (h1 : -(2 ^ 62) ≤ n) (h2 : n < 2 ^ 62) (q : R n) : ∃ j : Int, [V.int n] = [.int j] ∧ -(2 ^ 62) ≤ j ∧ j < 2 ^ 62 ∧ R j := ⟨n, rfl, h1, h2, q⟩
theorem rd_iEnum {R : It → Hp → Prop} (h : ts σ H fun vs H1 => ∃ a xs, vs = [.ref a] ∧ SqL K H1 a xs ∧ R (Ite K a) H1) : iEnum K ts σ H R := h
theorem rd_iEnumAt {a : Addr} {xs : List V} {R : Addr → Prop} (h : SqL K H a xs) (q : R a) : ∃ a' ys, [V.ref a] = [.ref a'] ∧ SqL K H a' ys ∧ R a' := ⟨a, xs, rfl, h, q⟩
theorem rd_sl {r : V → Option Int → Option Int → Hp → VK → Prop} {tl th : TO} (h : te σ H fun x H1 => tl σ H1 fun lo H2 => th σ H2 fun hi H3 => r x lo hi H3 Q) : L2.tSl r te tl th σ H Q := h
theorem rd_noPart {R : Option Int → Hp → Prop} (q : R none H) : tNoPart σ H R := q
theorem rd_part {R : Option Int → Hp → Prop} (h : te σ H fun x H1 => ∃ i, x = .int i ∧ R (some i) H1) : tPart te σ H R := h
theorem rd_partAt {R : Int → Prop} (q : R i) : ∃ k, V.int i = .int k ∧ R k := ⟨i, rfl, q⟩
theorem rd_slS {z : Str} {lo hi : Option Int} (hz : z.length ≤ 100000) (q : Q (.str (cutS z lo hi)) H) : rSlS (.str z) lo hi H Q := ⟨z, rfl, sz_of hz, q⟩
theorem rd_slL {p : Addr} {xs : List V} {lo hi : Option Int} (h : SqL K H p xs) (q : ∀ l H', H l = none → Ex H H' → H' l = some (.lst (cutV xs lo hi)) → Q (.ref l) H') : rSlL K (.ref p) lo hi H Q := ⟨p, xs, rfl, h, rd_new q⟩
theorem rd_make {C : Addr} {sp : Sp} {dvs : List V} {E : XK} (h : ts σ H fun vs H1 => ∀ x dx, H1 x = none → H1 dx = none → dx ≠ x → sp (.ref x :: (vs ++ dvs)) (upd (upd H1 dx (.own x)) x (.ins C dx [])) (fun v H2 => v = .non ∧ Q (.ref x) H2) E) : tMake C sp dvs E ts σ H Q := h
theorem rd_meth {C : Addr} {m : Str} {sp : Sp} {dvs : List V} {E : XK} (h : ta σ H fun x H1 => ∃ a dx fs, x = .ref a ∧ H1 a = some (.ins C dx fs) ∧ fs.lookup m = none ∧ ts σ H1 fun vs H2 => sp (x :: (vs ++ dvs)) H2 Q E) : tMeth C m sp dvs E ta ts σ H Q := h
theorem rd_bm {T : String} {r : V → List V → Hp → VK → Prop} (h : ta σ H fun x H1 => tyV K T x H1 ∧ ts σ H1 fun xs H2 => r x xs H2 Q) : tBM K T r ta ts σ H Q := h
theorem rd_tyL {l : Addr} {xs : List V} {R : Prop} (h : SqL K H l xs) (q : R) : tyV K "list" (.ref l) H ∧ R := ⟨.inl ⟨rfl, _, h⟩, q⟩
theorem rd_tupm {r : V → List V → Hp → VK → Prop} (h : ta σ H fun x H1 => TupF H1 x ∧ ts σ H1 fun xs H2 => r x xs H2 Q) : tTupM r ta ts σ H Q := h
theorem st_frz {a : Addr} {o : Obj} {xs : List V} (h : H a = some (.frz o (.tup xs))) : SqT K H a xs := .inl (.inr ⟨o, h⟩)
theorem rd_aug {k : Nat} {ti : TIp} (hv : σ[k]? = some (some v)) (q : te σ H fun y H1 => ti v y H1 fun z H2 => nx (σ.set k (some z)) H2) : tAug k te ti ⟨nx, rt, bk, ct⟩ σ H := ⟨v, hv, q⟩
theorem rd_append {l : Addr} {xs : List V} (h : H l = some (.lst xs)) (hl : xs.length < sizeLine) (q : Q .non (upd H l (.lst (xs ++ [y])))) : rAppend (.ref l) [y] H Q := ⟨l, xs, y, rfl, rfl, h, hl, q⟩
theorem rd_ext {l b : Addr} {xs zs : List V} (h1 : H l = some (.lst xs)) (h2 : H b = some (.lst zs)) (h3 : xs.length + zs.length ≤ sizeLine) (q : Q (.ref l) (upd H l (.lst (xs ++ zs)))) : rExt2 (.ref l) (.ref b) H Q := ⟨l, b, xs, zs, rfl, rfl, h1, h2, h3, q⟩
theorem rd_while {c : TT} {tb : TS} (W : Nat → L2.St → Hp → Prop) (m0 : Nat) (h0 : W m0 σ H)
    (hs : ∀ m σ H, W m σ H → c σ H fun b H1 => if b = true then ∃ N : L2.St → Hp → Prop, (∀ σ' H', N σ' H' → ∃ m', m' < m ∧ W m' σ' H') ∧ tb ⟨N, rt, nx, N⟩ σ H1 else nx σ H1) : tWhile c tb ⟨nx, rt, bk, ct⟩ σ H := ⟨W, ⟨m0, h0⟩, hs⟩
theorem rd_m1 {r : V → List V → Hp → VK → Prop} (h : ta σ H fun x H1 => (∃ a, x = .str a) ∧ tb σ H1 fun y H2 => r x [y] H2 Q) : tM1 r ta tb σ H Q := h
theorem rd_isS {z : Str} {R : Prop} (q : R) : (∃ a, V.str z = .str a) ∧ R := ⟨⟨z, rfl⟩, q⟩
/-! #### built-ins -/
theorem rd_isi {t c : V} {a b : Value} {r : Bool} (h1 : ClsV c b) (h2 : TyX K H t a) (h3 : PySem.W.kitOne K a b = some r) (q : Q (.bl r) H) : rIsi K [t, c] H Q := ⟨t, c, a, b, r, rfl, h1, h2, h3, q⟩
theorem rd_isiStr {z : Str} (q : Q (.bl true) H) : rIsi K [.str z, .ty "str"] H Q := rd_isi (a := .type "str") (b := .type "str") (.ty _) (.base (.str z)) (kit_ty (by decide +kernel)) q
theorem rd_lenS {z : Str} {R : Str → Prop} (hz : z.length ≤ 100000) (q : R z) : ∃ x, [V.str z] = [.str x] ∧ x.length ≤ sizeLine ∧ R x := ⟨z, rfl, sz_of hz, q⟩
theorem rd_lenL {a : Addr} {xs : List V} {R : List V → Prop} (h : SqL K H a xs) (q : R xs) : ∃ p ys, [V.ref a] = [.ref p] ∧ (SqL K H p ys ∨ SqT K H p ys) ∧ R ys := ⟨a, xs, rfl, .inl h, q⟩
theorem rd_lenT {a : Addr} {xs : List V} {R : List V → Prop} (h : SqT K H a xs) (q : R xs) : ∃ p ys, [V.ref a] = [.ref p] ∧ (SqL K H p ys ∨ SqT K H p ys) ∧ R ys := ⟨a, xs, rfl, .inr h, q⟩
theorem rd_intI {R : Int → Prop} {R' : Bool → Prop} (q : R i) : (∃ k, [V.int i] = [.int k] ∧ R k) ∨ ∃ k, [V.int i] = [.bl k] ∧ R' k := .inl ⟨i, rfl, q⟩
theorem rd_intB {b : Bool} {R : Int → Prop} {R' : Bool → Prop} (q : R' b) : (∃ k, [V.bl b] = [.int k] ∧ R k) ∨ ∃ k, [V.bl b] = [.bl k] ∧ R' k := .inr ⟨b, rfl, q⟩
theorem rd_abs {R : Int → Prop} (q : R i) : ∃ k, [V.int i] = [.int k] ∧ R k := ⟨i, rfl, q⟩
theorem rd_strs {x y : Str} {R : Str → Str → Prop} (h : x.length + y.length ≤ 100000) (q : R x y) : ∃ i j, V.str x = .str i ∧ V.str y = .str j ∧ i.length + j.length ≤ sizeLine ∧ R i j := ⟨x, y, rfl, rfl, sz_of h, q⟩
theorem rd_sign {c : Nat} {z : Str} {R : Nat → Str → Prop} (q : R c z) : ∃ (d : Nat) (y : Str), V.str ⟨#[c]⟩ = .str ⟨#[d]⟩ ∧ V.str z = .str y ∧ R d y := ⟨c, z, rfl, rfl, q⟩
theorem rd_mulS {z : Str} {R : Str → Int → Prop} (h1 : z.length ≤ 16) (h2 : -(2 ^ 63) ≤ i) (h3 : i ≤ 1048576) (q : R z i) : ∃ (y : Str) (k : Int), V.str z = .str y ∧ V.int i = .int k ∧ y.length ≤ 16 ∧ -(2 ^ 63) ≤ k ∧ k ≤ 1048576 ∧ R y k := ⟨z, i, rfl, rfl, h1, h2, h3, q⟩
theorem rd_isN' {R : Prop} (q : R) : V.non = V.non ∧ R := ⟨rfl, q⟩
theorem rd_ixS {z : Str} {c : Nat} (hz : z.length ≤ 100000) (h : atI z.cps.toList i = some c) (q : Q (.str ⟨#[c]⟩) H) : rIxS (.str z) (.int i) H Q := ⟨z, i, c, rfl, rfl, sz_of hz, h, q⟩
theorem rd_all {p : Addr} {bs : List Bool} (h : SqL K H p (bs.map V.bl)) (q : Q (.bl (bs.all id)) H) : rAll K [.ref p] H Q := ⟨p, bs, rfl, h, q⟩
theorem rd_any {p : Addr} {bs : List Bool} (h : SqL K H p (bs.map V.bl)) (q : Q (.bl (bs.any id)) H) : rAny K [.ref p] H Q := ⟨p, bs, rfl, h, q⟩
theorem len_cps (z : Str) : z.cps.toList.length = z.length := by simp [Str.length]
/-- what isinstance wants of an own class -/
structure IsiC (K : PySem.W.Frag) (C : Addr) : Prop where
  ha : PySem.W.findIn K (.ref C) "__class__" = some (some (.builtin "object.__class__"))
  hn : PySem.W.specialIn K (.builtin "object.__class__") "__get__" = some (some (.builtin "getset_descriptor.__get__"))
  htk : PySem.W.takesIn K (.builtin "object.__class__") = some true
  hm : PySem.W.mroIn K C (.type "object") = some true
  self : PySem.W.kitOne K (.ref C) (.ref C) = some true
theorem rd_isiOwn {a C dx : Addr} {fs : List (Str × V)} (c : Cls K C) (I : IsiC K C) (ho : H a = some (.ins C dx fs)) (q : Q (.bl true) H) : rIsi K [.ref a, .ref C] H Q :=
  rd_isi (.own C) (.base (.ins ho c I.ha I.hn I.htk I.hm)) I.self q
end
end Aq
/-! zip(tuple, list), out of the library's zip over any two iterators (KE.GoesZip, KE.GoesMore) -/
namespace Aq
open PySem PySem.Spec PyProof.Rows L2
section
/-- a tuple's items beside a list's, in new pairs -/
def ItzM (K : PySem.W.Frag) (a b : Addr) : It where
  go := fun i H => ∃ xs ys, SqT K H a xs ∧ SqL K H b ys ∧ i < xs.length ∧ i < ys.length
  yld := fun i H v H' => ∃ T x y, v = .ref T ∧ H T = none ∧ H' = upd H T (.tup [x, y]) ∧ (∀ xs, SqT K H a xs → xs[i]? = some x) ∧ (∀ ys, SqL K H b ys → ys[i]? = some y)
  stop := fun i H => ∃ xs ys, SqT K H a xs ∧ SqL K H b ys ∧ i ≤ xs.length ∧ i ≤ ys.length ∧ (i = xs.length ∨ i = ys.length)
/-- the five cells of such a zip, i turns in -/
structure ZmAt (z TI TO i1 i2 a b : Addr) (i : Nat) (h : Heap) : Prop where
  zz : IsZip h z TI TO .none
  ti : IsTupOf2 h TI (.ref i1) (.ref i2)
  to : ∃ x y, IsTupOf2 h TO x y
  one : h.IsTupleIter i1 a i
  two : h.IsListIter i2 b i
variable {P : Program} {w : World} {K : PySem.W.Frag} {elts : List Expr} {kk : Nat} {tpos : Pos} {a b z TI TO i1 i2 : Addr}
theorem ZmAt.lt {i : Nat} {h : Heap} (Z : ZmAt z TI TO i1 i2 a b i h) {c : Addr} (hc : c ∈ [z, TI, TO, i1, i2]) : c < h.objs.size := by
  obtain ⟨zz, ti, ⟨x, y, to⟩, ⟨_, one, _⟩, ⟨_, two, _⟩⟩ := Z
  simp only [List.mem_cons, List.not_mem_nil, or_false] at hc
  rcases hc with rfl | rfl | rfl | rfl | rfl <;> exact Heap.lt_size ‹_›
theorem turn_zipM (S : ZipSep2 z TI TO i1 i2 [i1, a] [i2, b]) (na : a ≠ i1) (nb : b ≠ i2) : Turn P w K (.Tuple elts kk tpos) (ItzM K a b) [z, TI, TO, i1, i2] z (ZmAt z TI TO i1 i2 a b) := by
  have ks : ∀ {c : Addr}, c ∉ [z, TI, TO, i1, i2] → c ≠ z ∧ c ≠ TO ∧ c ≠ i1 ∧ c ≠ i2 := fun {c} h => by
    simp only [List.mem_cons, List.not_mem_nil, or_false, not_or] at h; exact ⟨h.1, h.2.2.1, h.2.2.2.1, h.2.2.2.2⟩
  refine ⟨by simp, fun i h Z c hc => ?_, fun i h h' Z k => ?_, ?_, ?_, fun A i s Q E Z h => wpAny_pyIter_zip Z.zz h⟩
  · obtain ⟨zz, ti, ⟨x, y, to⟩, ⟨o1, one, _, d1⟩, ⟨o2, two, _, d2⟩⟩ := Z
    simp only [List.mem_cons, List.not_mem_nil, or_false] at hc
    rcases hc with rfl | rfl | rfl | rfl | rfl
    · exact ⟨_, zz, nofun⟩
    · exact ⟨_, ti, nofun⟩
    · exact ⟨_, to, nofun⟩
    · exact ⟨o1, one, fun v q => nomatch d1.symm.trans q⟩
    · exact ⟨o2, two, fun v q => nomatch d2.symm.trans q⟩
  · obtain ⟨x, y, to⟩ := Z.to
    exact ⟨k z (by simp) _ Z.zz, k TI (by simp) _ Z.ti, ⟨x, y, k TO (by simp) _ to⟩, Z.one.at (k i1 (by simp)), Z.two.at (k i2 (by simp))⟩
  · intro X eP ew eK calm i pins s σ H E I fp Z go
    subst eP ew eK
    have Zl := @Z.lt
    obtain ⟨zz, ti, ⟨x0, y0, to⟩, one, two⟩ := Z
    obtain ⟨xs, ys, qx, qy, lx, ly⟩ := go
    obtain ⟨us, rx, px, _⟩ := I.tuple qx
    obtain ⟨vs, ry, py, _⟩ := I.list qy
    have ex := rx.length
    have ey := ry.length
    have hh : X.A.in1.handled = none := I.ok.hd calm
    refine wpAny_pyNext_zipD2_item S (Draws.tuple hh i1 a na us.toArray) (Draws.list hh i2 b nb vs.toArray) zz ti to ⟨one, px⟩ ⟨two, py.isList⟩ (by simp; omega) (by simp; omega) fun u v h' tk hu hv zz' to' st1 st2 new sz keep => ?_
    refine ⟨_, rfl, wpAny_letOwnedTupleGo_zip (s := { s with heap := h', toks := tk }) zz' fun h2 zz2 sb => ?_⟩
    have up : ∀ c o, c ≠ z → h'.get? c = some o → h2.get? c = some o := fun c o n e => (sb.2 c n).trans e
    have nz : s.heap.objs.size ≠ z := Nat.ne_of_gt (Zl (by simp))
    obtain ⟨x, hx, hu'⟩ : ∃ x, xs[i]? = some x ∧ RelV x u := by
      obtain ⟨u', e1, e2⟩ := rx.get (List.getElem?_eq_getElem lx)
      have : u' = u := by have : us[i]? = some u := by simpa using hu
                          rw [this] at e1; exact (Option.some.inj e1).symm
      exact ⟨_, List.getElem?_eq_getElem lx, this ▸ e2⟩
    obtain ⟨y, hy, hv'⟩ : ∃ y, ys[i]? = some y ∧ RelV y v := by
      obtain ⟨v', e1, e2⟩ := ry.get (List.getElem?_eq_getElem ly)
      have : v' = v := by have : vs[i]? = some v := by simpa using hv
                          rw [this] at e1; exact (Option.some.inj e1).symm
      exact ⟨_, List.getElem?_eq_getElem ly, this ▸ e2⟩
    have ok : ObjOk X.prog X.w (upd H s.heap.objs.size (.tup [x, y])) h2 s.heap.objs.size (.tup [x, y]) := ⟨show 2 ≤ sizeLine by decide, [u, v], .cons hu' (.cons hv' .nil), _, up _ _ nz new, rfl, _, rfl⟩
    have J := I.turnedNew (t' := tk) (fun c o nc e => up c o (ks nc).1 (keep c o (ks nc).1 (ks nc).2.1 (ks nc).2.2.1 (ks nc).2.2.2 e)) fp (Nat.le_refl _) ok
    refine ⟨.ref s.heap.objs.size, _, J, rfl, ⟨_, x, y, rfl, I.hok.fresh (Nat.le_refl _), rfl, fun l hl => I.tuple_inj hl qx ▸ hx, fun l hl => I.list_inj hl qy ▸ hy⟩, ?_, fun c hc => ?_⟩
    · exact ⟨zz2, up _ _ S.TIz (keep TI _ S.TIz S.TITO S.TIi1 S.TIi2 ti), ⟨u, v, up _ _ S.TOz to'⟩, st1.1.at fun o e => up i1 o S.zi1.symm e, st2.1.at fun o e => up i2 o S.zi2.symm e⟩
    · rw [upd_ne (Nat.ne_of_lt (Zl hc))]; exact (fp c hc).1
  · intro X eP ew eK calm i pins s σ H E I fp Z stop
    subst eP ew eK
    obtain ⟨zz, ti, ⟨x0, y0, to⟩, one, two⟩ := Z
    obtain ⟨xs, ys, qx, qy, lx, ly, en⟩ := stop
    obtain ⟨us, rx, px, _⟩ := I.tuple qx
    obtain ⟨vs, ry, py, _⟩ := I.list qy
    have ex := rx.length
    have ey := ry.length
    have hh : X.A.in1.handled = none := I.ok.hd calm
    exact wpAny_pyNext_zipD2_end S (Draws.tuple hh i1 a na us.toArray) (Draws.list hh i2 b nb vs.toArray) zz ti to ⟨one, px⟩ ⟨two, py.isList⟩ (by simp; omega) (by simp; omega) (by simp; omega)
      fun h' tk keep => ⟨rfl, I.turnedL (t' := tk) (fun c o nc e => keep c o (ks nc).1 (ks nc).2.1 (ks nc).2.2.1 (ks nc).2.2.2 e) fp⟩
end
def iZipM (K : PySem.W.Frag) (ta : TA) : TI := fun σ H R => ta σ H fun vs H1 => ∃ a b xs ys, vs = [.ref a, .ref b] ∧ SqT K H1 a xs ∧ SqL K H1 b ys ∧ R (ItzM K a b) H1
theorem pi_zipM {X : Cx} {e e2 : Expr} {ta : TA} {p pos tpos : Pos} {elts : List Expr} {kk : Nat} (g : Gl X "zip") (m : X.mg "zip" = none) (args : PA X [e, e2] ta)
    (s1 : starEach [e, e2] X.env = (false, eval e X.env) :: starEach [e2] X.env := by rfl) (s2 : (backTo pos (starEach [e2] X.env)).any (·.1) = false := by rfl) : PI X (.Tuple elts kk tpos) (.Call (.Name "zip" p) [e, e2] [] pos) (iZipM X.K ta) := by
  constructor
  intro pins s σ H R I rd
  refine Call_ (ld_blt I g m PyProof.Rows.boot_zip (PyProof.Rows.callWith_type1 (thn (args.run pos pins s σ H _ I rd) ?_) s1 s2))
  rintro us t ⟨vs, H1, J, rel, a, b, xs, ys, rfl, qx, qy, r⟩
  obtain ⟨u1, u2, rfl, ra, rb⟩ := rel.two
  cases ra
  cases rb
  obtain ⟨as, rx, px, _⟩ := J.tuple qx
  obtain ⟨bs, ry, py, _⟩ := J.list qy
  have la : a < t.heap.objs.size := let ⟨_, q, _⟩ := px; Heap.lt_size q
  have lb : b < t.heap.objs.size := let ⟨_, q, _⟩ := py.isList; Heap.lt_size q
  refine zip_begins2 (begins_tuple a as.toArray) (begins_list b bs.toArray) px py.isList fun h' zz ti to o1 o2 _ keep => wpAny_pyIter_zip zz ?_
  refine ⟨_, _, _, _, H1, rfl, J.kept (t' := t.toks) keep, turn_zipM (zip_sep2 (N := t.heap.objs.size) (fp1 := [a]) (fp2 := [b]) (by simp; omega) (by simp; omega)) (Nat.ne_of_lt la) (Nat.ne_of_lt (Nat.lt_succ_of_lt lb)), ⟨zz, ti, ⟨_, _, to⟩, ⟨_, o1, rfl, rfl⟩, ⟨_, o2, rfl, rfl⟩⟩, fun c hc => ?_, r⟩
  have le : t.heap.objs.size ≤ c := by simp only [List.mem_cons, List.not_mem_nil, or_false] at hc; rcases hc with q | q | q | q | q <;> rw [q] <;> first | exact Nat.le_refl _ | exact Nat.le_add_right _ _
  exact J.fpOk le (J.hok.fresh le)
end Aq
/-! loops and comprehensions over anything that is walked -/
namespace Aq
open PySem L2 Evl
/-- what an iterator gives while C stands: n turns, Y i x of each -/
structure Yl (J : It) (C : Hp → Prop) (n : Nat) (Y : Nat → V → Hp → Prop) : Prop where
  go : ∀ i H, C H → i < n → J.go i H
  yld : ∀ i H x H', C H → i < n → J.yld i H x H' → Ex H H' ∧ Y i x H'
  stop : ∀ H, C H → J.stop n H
theorem yl_str (z : Str) : Yl (Its z) (fun _ => True) z.cps.size (fun i x _ => ∃ c, z.cps[i]? = some c ∧ x = .str ⟨#[c]⟩) :=
  ⟨fun i H _ h => h, fun i H x H' _ _ y => ⟨by rw [y.1]; exact Ex.refl _, y.2⟩, fun H _ => Nat.le_refl _⟩
theorem yl_list {K : PySem.W.Frag} {a : Addr} (xs : List V) : Yl (Itl K a) (fun H => SqL K H a xs) xs.length (fun i x _ => xs[i]? = some x) :=
  ⟨fun i H c h => ⟨xs, xs[i], c, by simp [h]⟩, fun i H x H' c _ y => ⟨by rw [y.1]; exact Ex.refl _, y.2 xs c⟩, fun H c => ⟨xs, c, Nat.le_refl _⟩⟩
theorem yl_tup {K : PySem.W.Frag} {a : Addr} (xs : List V) : Yl (Itt K a) (fun H => SqT K H a xs) xs.length (fun i x _ => xs[i]? = some x) :=
  ⟨fun i H c h => ⟨xs, xs[i], c, by simp [h]⟩, fun i H x H' c _ y => ⟨by rw [y.1]; exact Ex.refl _, y.2 xs c⟩, fun H c => ⟨xs, c, Nat.le_refl _⟩⟩
theorem yl_range (lo : Int) (n : Nat) : Yl (Itr lo n) (fun _ => True) n (fun i x _ => x = .int (lo + i)) :=
  ⟨fun i H _ h => h, fun i H x H' _ _ y => ⟨by rw [y.1]; exact Ex.refl _, y.2⟩, fun H _ => Nat.le_refl _⟩
theorem yl_enum {K : PySem.W.Frag} {a : Addr} (xs : List V) : Yl (Ite K a) (fun H => SqL K H a xs) xs.length (fun i x H => ∃ T y, x = .ref T ∧ H T = some (.tup [.int (i : Nat), y]) ∧ xs[i]? = some y) :=
  ⟨fun i H c h => ⟨xs, xs[i], c, by simp [h]⟩, fun i H x H' c _ y => by
    obtain ⟨T, z, rfl, hn, rfl, hx⟩ := y
    exact ⟨Ex.new hn, T, z, rfl, upd_same, hx xs c⟩, fun H c => ⟨xs, c, Nat.le_refl _⟩⟩
theorem yl_zipM {K : PySem.W.Frag} {a b : Addr} (xs ys : List V) (hl : xs.length = ys.length) : Yl (ItzM K a b) (fun H => SqT K H a xs ∧ SqL K H b ys) xs.length (fun i v H => ∃ T x y, v = .ref T ∧ H T = some (.tup [x, y]) ∧ xs[i]? = some x ∧ ys[i]? = some y) :=
  ⟨fun i H c h => ⟨xs, ys, c.1, c.2, h, hl ▸ h⟩, fun i H v H' c _ y => by
    obtain ⟨T, x, y, rfl, hn, rfl, h1, h2⟩ := y
    exact ⟨Ex.new hn, T, x, y, rfl, upd_same, h1 xs c.1, h2 ys c.2⟩, fun H c => ⟨xs, ys, c.1, c.2, Nat.le_refl _, Nat.le_of_eq hl, .inl rfl⟩⟩
theorem yl_zipL {K : PySem.W.Frag} {a b : Addr} (xs ys : List V) (hl : xs.length = ys.length) : Yl (Itz K a b) (fun H => SqL K H a xs ∧ SqL K H b ys) xs.length (fun i v H => ∃ T x y, v = .ref T ∧ H T = some (.tup [x, y]) ∧ xs[i]? = some x ∧ ys[i]? = some y) :=
  ⟨fun i H c h => ⟨xs, ys, xs[i], ys[i], c.1, c.2, by simp [h], by simp⟩, fun i H v H' c _ y => by
    obtain ⟨T, x, y, rfl, hn, rfl, h1, h2⟩ := y
    exact ⟨Ex.new hn, T, x, y, rfl, upd_same, h1 xs c.1, h2 ys c.2⟩, fun H c => ⟨xs, ys, c.1, c.2, .inl (Nat.le_refl _)⟩⟩
section
variable {J : It} {C : Hp → Prop} {n : Nat} {Y : Nat → V → Hp → Prop} {σ : L2.St} {H H1 : Hp} {Q : VK} {nx bk ct : L2.St → Hp → Prop} {rt : VK} {g : TG} {tb : TS} {wi : TI} {tt : TT} {te : TE} {vs : List Nat}
theorem for_yl (y : Yl J C n Y) (Pv : Nat → L2.St → Hp → Prop) (hC : ∀ i σ H, i ≤ n → Pv i σ H → C H) (h0 : Pv 0 σ H)
    (hs : ∀ i x σ H H', i < n → Pv i σ H → Ex H H' → Y i x H' → g x σ H' fun σ2 H2 => tb ⟨Pv (i + 1), rt, nx, Pv (i + 1)⟩ σ2 H2) (hd : ∀ σ H, Pv n σ H → nx σ H) :
    ∃ W : Nat → Nat → L2.St → Hp → Prop, (∃ m, W 0 m σ H) ∧ ∀ i m σ H, W i m σ H →
      (J.stop i H ∧ nx σ H) ∨ (J.go i H ∧ ∃ N : L2.St → Hp → Prop, (∀ σ' H', N σ' H' → ∃ m', m' < m ∧ W (i + 1) m' σ' H') ∧ ∀ x H', J.yld i H x H' → g x σ H' fun σ2 H2 => tb ⟨N, rt, nx, N⟩ σ2 H2) := by
  refine ⟨fun i m σ H => m = n - i ∧ i ≤ n ∧ Pv i σ H, ⟨n, by simp, Nat.zero_le _, h0⟩, ?_⟩
  rintro i m σ H ⟨rfl, hi, p⟩
  by_cases hlt : i < n
  · refine .inr ⟨y.go i H (hC i σ H hi p) hlt, Pv (i + 1), fun σ' H' p' => ⟨n - (i + 1), by omega, rfl, hlt, p'⟩, fun x H' q => ?_⟩
    obtain ⟨e, q⟩ := y.yld i H x H' (hC i σ H hi p) hlt q
    exact hs i x σ H H' hlt p e q
  · have e : i = n := by omega
    subst e
    exact .inl ⟨y.stop H (hC i σ H hi p), hd σ H p⟩
theorem lc_yl {D : Addr} {Qd : Hp → Prop} (y : Yl J C n Y) (Pv : Nat → Hp → Prop) (hC : ∀ i H, i ≤ n → Pv i H → C H) (h0 : Pv 0 (upd H1 D (.lst [])))
    (hs : ∀ i x H H', i < n → Pv i H → Ex H H' → Y i x H' → g x (wipe σ vs) H' fun σ2 H2 => wipe σ2 vs = wipe σ vs ∧ tt σ2 H2 fun b H3 =>
      if b = true then te σ2 H3 fun y H4 => ∃ acc, H4 D = some (.lst acc) ∧ acc.length < sizeLine ∧ Pv (i + 1) (upd H4 D (.lst (acc ++ [y]))) else Pv (i + 1) H3) (hd : ∀ H, Pv n H → Qd H) :
    ∃ W : Nat → Nat → Hp → Prop, (∃ m, W 0 m (upd H1 D (.lst []))) ∧ ∀ i m H, W i m H →
      (J.stop i H ∧ Qd H) ∨ (J.go i H ∧ ∃ Nx : Hp → Prop, (∀ H', Nx H' → ∃ m', m' < m ∧ W (i + 1) m' H') ∧ ∀ x H', J.yld i H x H' → g x (wipe σ vs) H' fun σ2 H2 => wipe σ2 vs = wipe σ vs ∧ tt σ2 H2 fun b H3 =>
        if b = true then te σ2 H3 fun y H4 => ∃ acc, H4 D = some (.lst acc) ∧ acc.length < sizeLine ∧ Nx (upd H4 D (.lst (acc ++ [y]))) else Nx H3) := by
  refine ⟨fun i m H => m = n - i ∧ i ≤ n ∧ Pv i H, ⟨n, by simp, Nat.zero_le _, h0⟩, ?_⟩
  rintro i m H ⟨rfl, hi, p⟩
  by_cases hlt : i < n
  · refine .inr ⟨y.go i H (hC i H hi p) hlt, Pv (i + 1), fun H' p' => ⟨n - (i + 1), by omega, rfl, hlt, p'⟩, fun x H' q => ?_⟩
    obtain ⟨e, q⟩ := y.yld i H x H' (hC i H hi p) hlt q
    exact hs i x H H' hlt p e q
  · have e : i = n := by omega
    subst e
    exact .inl ⟨y.stop H (hC i H hi p), hd H p⟩
theorem wipe1 {k : Nat} (x : Option V) : wipe ((wipe σ [k]).set k x) [k] = wipe σ [k] := by simp [wipe, List.set_set]
/-- a comprehension whose elements are values, found without writing -/
theorem lc_pure {k : Nat} {f : Nat → V} (y : Yl J C n Y) (hC : ∀ H', Ex H1 H' → C H') (hn : n ≤ 100000)
    (he : ∀ i x H', i < n → Ex H1 H' → Y i x H' → ∀ Q' : VK, (∀ H2, Ex H' H2 → Q' (f i) H2) → te ((wipe σ [k]).set k (some x)) H' Q')
    (q : ∀ p H', H1 p = none → Ex H1 H' → H' p = some (.lst ((List.range n).map f)) → Q (.ref p) H') :
    ∀ D, H1 D = none → ∃ W : Nat → Nat → Hp → Prop, (∃ m, W 0 m (upd H1 D (.lst []))) ∧ ∀ i m H, W i m H →
      (J.stop i H ∧ Q (.ref D) H) ∨ (J.go i H ∧ ∃ Nx : Hp → Prop, (∀ H', Nx H' → ∃ m', m' < m ∧ W (i + 1) m' H') ∧ ∀ x H', J.yld i H x H' → gName k x (wipe σ [k]) H' fun σ2 H2 => wipe σ2 [k] = wipe σ [k] ∧ tYes σ2 H2 fun b H3 =>
        if b = true then te σ2 H3 fun y H4 => ∃ acc, H4 D = some (.lst acc) ∧ acc.length < sizeLine ∧ Nx (upd H4 D (.lst (acc ++ [y]))) else Nx H3) := by
  intro D hD
  refine lc_yl y (fun i H' => Ex H1 H' ∧ H' D = some (.lst ((List.range i).map f))) (fun i H' _ p => hC H' p.1) ⟨Ex.new hD, upd_same⟩ (fun i x H' H2 hi p e yy => ?_) (fun H' p => q D H' hD p.1 p.2)
  show wipe ((wipe σ [k]).set k (some x)) [k] = wipe σ [k] ∧ _
  refine ⟨wipe1 _, rd_yes (iteT ?_)⟩
  refine he i x H2 hi (p.1.trans e) yy _ fun H3 e3 => ⟨_, e3 _ _ (e _ _ p.2), by simp; exact Nat.lt_of_lt_of_le (Nat.lt_of_lt_of_le hi hn) (by decide), ?_, ?_⟩
  · exact Ex.mut ((p.1.trans e).trans e3) hD
  · rw [upd_same, List.range_succ, List.map_append]; rfl
/-- the same, of the reading -/
theorem rd_lcPure {k : Nat} {f : Nat → V} (hw : ∀ R : It → Hp → Prop, R J H1 → wi σ H R) (y : Yl J C n Y) (hC : ∀ H', Ex H1 H' → C H') (hn : n ≤ 100000)
    (he : ∀ i x H', i < n → Ex H1 H' → Y i x H' → ∀ Q' : VK, (∀ H2, Ex H' H2 → Q' (f i) H2) → te ((wipe σ [k]).set k (some x)) H' Q')
    (q : ∀ p H', H1 p = none → Ex H1 H' → H' p = some (.lst ((List.range n).map f)) → Q (.ref p) H') : tLc wi (gName k) tYes te [k] σ H Q := hw _ (lc_pure y hC hn he q)
theorem rd_lcYl (hw : ∀ R : It → Hp → Prop, R J H1 → wi σ H R) (y : Yl J C n Y) (Pv : Addr → Nat → Hp → Prop) (hC : ∀ D i H, i ≤ n → Pv D i H → C H) (h0 : ∀ D, H1 D = none → Pv D 0 (upd H1 D (.lst [])))
    (hs : ∀ D i x H H', i < n → Pv D i H → Ex H H' → Y i x H' → g x (wipe σ vs) H' fun σ2 H2 => wipe σ2 vs = wipe σ vs ∧ tt σ2 H2 fun b H3 =>
      if b = true then te σ2 H3 fun y H4 => ∃ acc, H4 D = some (.lst acc) ∧ acc.length < sizeLine ∧ Pv D (i + 1) (upd H4 D (.lst (acc ++ [y]))) else Pv D (i + 1) H3) (hd : ∀ D H, Pv D n H → Q (.ref D) H) :
    tLc wi g tt te vs σ H Q := hw _ fun D hD => lc_yl y (Pv D) (hC D) (h0 D hD) (hs D) (hd D)
theorem rd_forYl (hw : ∀ R : It → Hp → Prop, R J H1 → wi σ H R) (y : Yl J C n Y) (Pv : Nat → L2.St → Hp → Prop) (hC : ∀ i σ H, i ≤ n → Pv i σ H → C H) (h0 : Pv 0 σ H1)
    (hs : ∀ i x σ H H', i < n → Pv i σ H → Ex H H' → Y i x H' → g x σ H' fun σ2 H2 => tb ⟨Pv (i + 1), rt, nx, Pv (i + 1)⟩ σ2 H2) (hd : ∀ σ H, Pv n σ H → nx σ H) : tFor wi g tb ⟨nx, rt, bk, ct⟩ σ H :=
  hw _ (for_yl y Pv hC h0 hs hd)
/-- the inner loop of a comprehension with two fors -/
theorem in_yl {D : Addr} {N : Hp → Prop} {τ : L2.St} (y : Yl J C n Y) (Pv : Nat → Hp → Prop) (hC : ∀ i H, i ≤ n → Pv i H → C H) (h0 : Pv 0 H1)
    (hs : ∀ i x H H', i < n → Pv i H → Ex H H' → Y i x H' → g x τ H' fun σ2 H2 => wipe σ2 vs = τ ∧ tt σ2 H2 fun b H3 =>
      if b = true then te σ2 H3 fun y H4 => ∃ acc, H4 D = some (.lst acc) ∧ acc.length < sizeLine ∧ Pv (i + 1) (upd H4 D (.lst (acc ++ [y]))) else Pv (i + 1) H3) (hd : ∀ H, Pv n H → N H) :
    ∃ W : Nat → Nat → Hp → Prop, (∃ m, W 0 m H1) ∧ ∀ i m H, W i m H →
      (J.stop i H ∧ N H) ∨ (J.go i H ∧ ∃ Nx : Hp → Prop, (∀ H', Nx H' → ∃ m', m' < m ∧ W (i + 1) m' H') ∧ ∀ x H', J.yld i H x H' → g x τ H' fun σ2 H2 => wipe σ2 vs = τ ∧ tt σ2 H2 fun b H3 =>
        if b = true then te σ2 H3 fun y H4 => ∃ acc, H4 D = some (.lst acc) ∧ acc.length < sizeLine ∧ Nx (upd H4 D (.lst (acc ++ [y]))) else Nx H3) := by
  refine ⟨fun i m H => m = n - i ∧ i ≤ n ∧ Pv i H, ⟨n, by simp, Nat.zero_le _, h0⟩, ?_⟩
  rintro i m H ⟨rfl, hi, p⟩
  by_cases hlt : i < n
  · refine .inr ⟨y.go i H (hC i H hi p) hlt, Pv (i + 1), fun H' p' => ⟨n - (i + 1), by omega, rfl, hlt, p'⟩, fun x H' q => ?_⟩
    obtain ⟨e, q⟩ := y.yld i H x H' (hC i H hi p) hlt q
    exact hs i x H H' hlt p e q
  · have e : i = n := by omega
    subst e
    exact .inl ⟨y.stop H (hC i H hi p), hd H p⟩
/-- two fors: the inner one is shown for each turn of the outer one, for any N that Pv (i + 1) gives -/
theorem rd_lc2Yl {wi1 : TI} {g1 : TG} {tt1 : TT} {vs1 : List Nat} (hw : ∀ R : It → Hp → Prop, R J H1 → wi σ H R) (y : Yl J C n Y) (Pv : Addr → Nat → Hp → Prop) (hC : ∀ D i H, i ≤ n → Pv D i H → C H) (h0 : ∀ D, H1 D = none → Pv D 0 (upd H1 D (.lst [])))
    (hs : ∀ D i x H H', i < n → Pv D i H → Ex H H' → Y i x H' → ∀ N : Hp → Prop, (∀ H, Pv D (i + 1) H → N H) → g x (wipe σ vs) H' fun σ2 H2 => wipe σ2 vs = wipe σ vs ∧ tt σ2 H2 fun b H3 =>
      if b = true then wi1 σ2 H3 fun J1 H4 => ∃ W1 : Nat → Nat → Hp → Prop, (∃ m, W1 0 m H4) ∧ ∀ j k H, W1 j k H →
        (J1.stop j H ∧ N H) ∨ (J1.go j H ∧ ∃ Nx1 : Hp → Prop, (∀ H', Nx1 H' → ∃ k', k' < k ∧ W1 (j + 1) k' H') ∧ ∀ x H', J1.yld j H x H' → g1 x (wipe σ2 vs1) H' fun σ3 H5 => wipe σ3 vs1 = wipe σ2 vs1 ∧ tt1 σ3 H5 fun b H6 =>
          if b = true then te σ3 H6 fun y H7 => ∃ acc, H7 D = some (.lst acc) ∧ acc.length < sizeLine ∧ Nx1 (upd H7 D (.lst (acc ++ [y]))) else Nx1 H6) else N H3) (hd : ∀ D H, Pv D n H → Q (.ref D) H) :
    tLc2 wi g tt wi1 g1 tt1 te vs vs1 σ H Q := by
  refine hw _ fun D hD => ⟨fun i m H => m = n - i ∧ i ≤ n ∧ Pv D i H, ⟨n, by simp, Nat.zero_le _, h0 D hD⟩, ?_⟩
  rintro i m H ⟨rfl, hi, p⟩
  by_cases hlt : i < n
  · refine .inr ⟨y.go i H (hC D i H hi p) hlt, Pv D (i + 1), fun H' p' => ⟨n - (i + 1), by omega, rfl, hlt, p'⟩, fun x H' q => ?_⟩
    obtain ⟨e, q⟩ := y.yld i H x H' (hC D i H hi p) hlt q
    exact hs D i x H H' hlt p e q _ (fun _ q => q)
  · have e : i = n := by omega
    subst e
    exact .inl ⟨y.stop H (hC D i H hi p), hd D H p⟩
end
/-- a list's items by place -/
theorem range_map {α β : Type} (l : List α) (f : α → β) (d : β) : (List.range l.length).map (fun i => (l[i]?.map f).getD d) = l.map f := by
  apply List.ext_getElem
  · simp
  · intro i h1 h2
    have : i < l.length := by simpa using h2
    simp [this]
end Aq
/-! enumerate(tuple), out of the library's enumerate over any iterator -/
namespace Aq
open PySem PySem.Spec PyProof.Rows L2 Evl
/-- the iterator of the tuple at t, as it is made -/
abbrev itT (t : Addr) : Obj := { cls := .type "tuple_iterator", data := .fields #[.ref t, .int 0 0] }
/-- an enumerate over the iterator at i, as it is made -/
abbrev enT (i : Addr) : Obj := { cls := .type "enumerate", data := .fields #[.none, .bool false, .ref i, rawInt 0, .none, .none] }
theorem meets_enT (t : Addr) (us : Array Value) :
    Meets (Builtin.«enumerate.__new__» ⟨[.type "enumerate", .ref t], []⟩) (fun _ R s => s.heap.IsTuple t us ∧ R (.ok (.ret (.ref (s.heap.push (itT t)).objs.size))) { s with heap := (s.heap.push (itT t)).push (enT s.heap.objs.size) }) := by
  refine .of_wp fun prog w A R s hh => ?_
  obtain ⟨hp, gn, dd, tk, os⟩ := s
  obtain ⟨ht, fin⟩ := hh
  have sub := sub_enumerate
  have go : ∀ {A' : Around} {E : Value → Shared → Prop} {Q : Value → Shared → Prop}, Q (.ref hp.objs.size) ⟨hp.push (itT t), gn, dd, tk, os⟩ → wpAny (model prog w) A' (pyIter (.ref t)) Q E ⟨hp, gn, dd, tk, os⟩ := fun q => wpAny_pyIter_tuple ht q
  obtain ⟨o, ho, hc, n, hd⟩ := ht
  wp_walk using go, AutoSeq1.wpAny_loadPart' ho
  refine wpAny_stack_any fun st => wpAny_pure ?_
  split
  · rename_i c _ _ _ _ _
    cases (c == Value.type "enumerate")
    all_goals
      wp_walk using go, AutoSeq1.wpAny_loadPart' ho
      exact ⟨_, rfl, fin⟩
  · wp_walk using go, AutoSeq1.wpAny_loadPart' ho
    exact ⟨_, rfl, fin⟩
section
variable {prog : Program} {w : World} {A : Around} {E : Value → Shared → Prop} {s : Shared}
theorem call_enT {t : Addr} {us : Array Value} {Q : Value → Shared → Prop} (ht : s.heap.IsTuple t us)
    (q : ∀ h', IsEnum h' (s.heap.objs.size + 1) s.heap.objs.size 0 .none → h'.IsTupleIter s.heap.objs.size t 0 → (∀ b o, s.heap.get? b = some o → h'.get? b = some o) → Q (.ref (s.heap.objs.size + 1)) { s with heap := h' }) :
    wpAny (model prog w) A (call (.type "enumerate") [.ref t]) Q E s := by
  have sz : (s.heap.push (itT t)).objs.size = s.heap.objs.size + 1 := Heap.size_push ..
  have top := Heap.get?_push_size (s.heap.push (itT t)) (o := enT s.heap.objs.size) rfl
  rw [sz] at top
  refine callType_new F.called_enumerate (by decide) (F.typeCall_enumerate_1 _) (F.newCall_enumerate_1 _) (fun obj => F.args_object_init_2 obj _) F.entry_enumerate_new (meets_enT t us) ⟨ht, ?_⟩
  show _ ∧ _
  rw [sz]
  exact ⟨⟨_, top, rfl⟩, q _ top ⟨_, Heap.get?_push_of_some _ (Heap.get?_push_size _ rfl), rfl, rfl⟩ fun b o z => Heap.get?_push_of_some _ (Heap.get?_push_of_some _ z)⟩
end
/-- the items of the tuple at a, each behind its place in a new pair -/
def ItE (K : PySem.W.Frag) (a : Addr) : It where
  go := fun i H => ∃ xs : List V, SqT K H a xs ∧ i < xs.length
  yld := fun i H v H' => ∃ T x, v = .ref T ∧ H T = none ∧ H' = upd H T (.tup [.int (i : Nat), x]) ∧ ∀ xs, SqT K H a xs → xs[i]? = some x
  stop := fun i H => ∃ xs : List V, SqT K H a xs ∧ xs.length = i
structure EnAt (e it a : Addr) (i : Nat) (h : Heap) : Prop where
  en : ∃ old, IsEnum h e it ((i : Nat) : Int) old
  tt : h.IsTupleIter it a i
  ne : e ≠ it
  nt : a ≠ it
  na : e ≠ a
theorem turn_enT {P : Program} {w : World} {K : PySem.W.Frag} {elts : List Expr} {kk : Nat} {tpos : Pos} (a e it : Addr) : Turn P w K (.Tuple elts kk tpos) (ItE K a) [e, it] e (EnAt e it a) := by
  have two : ∀ {c : Addr}, c ∈ [e, it] → c = e ∨ c = it := fun {c} h => by simpa using h
  refine ⟨by simp, fun i h Z c hc => ?_, fun i h h' Z k => ?_, ?_, ?_, fun A i s Q E Z h => let ⟨_, z⟩ := Z.en; wpAny_pyIter_enum z h⟩
  · obtain ⟨⟨old, en⟩, ⟨o, ho, _, hd⟩, _, _⟩ := Z
    rcases two hc with rfl | rfl
    · exact ⟨_, en, nofun⟩
    · exact ⟨o, ho, fun v q => nomatch hd.symm.trans q⟩
  · obtain ⟨old, en⟩ := Z.en
    exact ⟨⟨old, k e (by simp) _ en⟩, Z.tt.at (k it (by simp)), Z.ne, Z.nt, Z.na⟩
  · intro X eP ew eK calm i pins s σ H E I fp Z go
    subst eP ew eK
    obtain ⟨⟨old, en⟩, tit, ne, nt, na⟩ := Z
    obtain ⟨xs, qx, lx⟩ := go
    obtain ⟨us, rx, px, _⟩ := I.tuple qx
    have ex := rx.length
    have hh : X.A.in1.handled = none := I.ok.hd calm
    have le : e < s.heap.objs.size := Heap.lt_size en
    have li : it < s.heap.objs.size := let ⟨_, q, _⟩ := tit; Heap.lt_size q
    refine wpAny_pyNext_enum_itemD (Draws.tuple hh it a nt us.toArray) en ⟨tit, px⟩ (by simp; omega) ne (by simp [ne, na]) fun u h' tk hu out st new _ keep => ?_
    refine ⟨_, rfl, wpAny_letOwnedTupleGo_enum (s := { s with heap := h', toks := tk + 1 }) out fun h2 en2 sb => ?_⟩
    have up : ∀ c o, c ≠ e → h'.get? c = some o → h2.get? c = some o := fun c o n z => (sb.2 c n).trans z
    obtain ⟨x, hx, ru⟩ : ∃ x, xs[i]? = some x ∧ RelV x u := by
      obtain ⟨u', e1, e2⟩ := rx.get (List.getElem?_eq_getElem lx)
      have e3 : us[i]? = some u := by simpa using hu
      rw [e3] at e1
      cases e1
      exact ⟨_, List.getElem?_eq_getElem lx, e2⟩
    have ok : ObjOk X.prog X.w (upd H s.heap.objs.size (.tup [.int (i : Nat), x])) h2 s.heap.objs.size (.tup [.int (i : Nat), x]) := ⟨show 2 ≤ sizeLine by decide, _, .cons ⟨tk, rfl⟩ (.cons ru .nil), _, up _ _ (Nat.ne_of_gt le) new, rfl, _, rfl⟩
    have nn : ∀ {c : Addr}, c ∉ [e, it] → c ≠ e ∧ c ≠ it := fun {c} h => by simpa using h
    have J := I.turnedNew (t' := tk + 1) (fun c o nc z => up c o (nn nc).1 (keep c o (nn nc).1 (nn nc).2 z)) fp (Nat.le_refl _) ok
    refine ⟨.ref s.heap.objs.size, _, J, rfl, ⟨_, x, rfl, I.hok.fresh (Nat.le_refl _), rfl, fun l hl => I.tuple_inj hl qx ▸ hx⟩, ⟨⟨u, ?_⟩, st.1.at fun o z => up it o ne.symm z, ne, nt, na⟩, fun c hc => ?_⟩
    · rw [show (((i + 1 : Nat)) : Int) = (i : Int) + 1 by omega]; exact en2
    · have lc : c < s.heap.objs.size := by rcases two hc with rfl | rfl <;> assumption
      rw [upd_ne (Nat.ne_of_lt lc)]
      exact (fp c hc).1
  · intro X eP ew eK calm i pins s σ H E I fp Z stop
    subst eP ew eK
    obtain ⟨⟨old, en⟩, tit, ne, nt, na⟩ := Z
    obtain ⟨xs, qx, lx⟩ := stop
    obtain ⟨us, rx, px, _⟩ := I.tuple qx
    have ex := rx.length
    have hh : X.A.in1.handled = none := I.ok.hd calm
    have lu : us.toArray.size = i := by simp; omega
    refine wpAny_pyNext_enum_endD (Draws.tuple hh it a nt us.toArray) en ⟨?_, px⟩ fun h' eb => ⟨rfl, I.turnedL (t' := s.toks) (fun c o nc z => eb c o (fun q => nc (by simp [q])) z) fp⟩
    rw [lu]; exact tit
def iEnT (K : PySem.W.Frag) (ta : TA) : TI := fun σ H R => ta σ H fun vs H1 => ∃ a xs, vs = [.ref a] ∧ SqT K H1 a xs ∧ R (ItE K a) H1
theorem pi_enumT {X : Cx} {e : Expr} {ta : TA} {p pos tpos : Pos} {elts : List Expr} {kk : Nat} (g : Gl X "enumerate") (m : X.mg "enumerate" = none) (args : PA X [e] ta) (s1 : starEach [e] X.env = [(false, eval e X.env)] := by rfl) : PI X (.Tuple elts kk tpos) (.Call (.Name "enumerate" p) [e] [] pos) (iEnT X.K ta) := by
  constructor
  intro pins s σ H R I rd
  refine Call_ (ld_blt I g m boot_enumerate (PyProof.Rows.callWith_type1 (thn (args.run pos pins s σ H _ I rd) ?_) s1 rfl))
  rintro us t ⟨vs, H1, J, rel, a, xs, rfl, qx, r⟩
  obtain ⟨u1, rfl, ra⟩ := rel.one
  cases ra
  obtain ⟨as, rx, px, _⟩ := J.tuple qx
  have la : a < t.heap.objs.size := let ⟨_, q, _⟩ := px; Heap.lt_size q
  refine call_enT px fun h' en it keep => wpAny_pyIter_enum en ?_
  refine ⟨_, _, _, _, H1, rfl, J.kept (t' := t.toks) keep, turn_enT a (t.heap.objs.size + 1) t.heap.objs.size, ⟨⟨.none, en⟩, it, Nat.succ_ne_self _, Nat.ne_of_lt la, Nat.ne_of_gt (Nat.lt_succ_of_lt la)⟩, fun c hc => ?_, r⟩
  have le : t.heap.objs.size ≤ c := by
    have : c = t.heap.objs.size + 1 ∨ c = t.heap.objs.size := by simpa using hc
    rcases this with q | q <;> rw [q] <;> first | exact Nat.le_refl _ | exact Nat.le_succ _
  exact J.fpOk le (J.hok.fresh le)
theorem yl_enumT {K : PySem.W.Frag} {a : Addr} (xs : List V) : Yl (ItE K a) (fun H => SqT K H a xs) xs.length (fun i x H => ∃ T y, x = .ref T ∧ H T = some (.tup [.int (i : Nat), y]) ∧ xs[i]? = some y) :=
  ⟨fun i H c h => ⟨xs, c, h⟩, fun i H x H' c _ y => by
    obtain ⟨T, z, rfl, hn, rfl, hx⟩ := y
    exact ⟨Ex.new hn, T, z, rfl, upd_same, hx xs c⟩, fun H c => ⟨xs, c, rfl⟩⟩
theorem rd_iEnT {K : PySem.W.Frag} {ts : TA} {σ : L2.St} {H : Hp} {R : It → Hp → Prop} (h : ts σ H fun vs H1 => ∃ a xs, vs = [.ref a] ∧ SqT K H1 a xs ∧ R (ItE K a) H1) : iEnT K ts σ H R := h
end Aq
/-! what stays; dicts with text keys; texts as lists of codes -/
namespace Aq
open PySem L2 Evl
/-- all but p stays -/
def Kx (p : Addr) (H H' : Hp) : Prop := ∀ a o, a ≠ p → H a = some o → H' a = some o
theorem Kx.refl (p : Addr) (H : Hp) : Kx p H H := fun _ _ _ h => h
theorem Kx.trans {p : Addr} {H H1 H2 : Hp} (a : Kx p H H1) (b : Kx p H1 H2) : Kx p H H2 := fun x o n h => b x o n (a x o n h)
theorem Kx.of {p : Addr} {H H' : Hp} (e : Ex H H') : Kx p H H' := fun a o _ h => e a o h
theorem Kx.put {p : Addr} {H : Hp} {o : HO} : Kx p H (upd H p o) := fun a u n h => by rw [upd_ne n]; exact h
theorem Kx.ex {p : Addr} {H H' : Hp} (e : Kx p H H') (h : H p = none) : Ex H H' := fun a o q => e a o (ne_of_none q h) q
/-- .. and a younger thing may be written -/
theorem Kx.mut {p q : Addr} {H H' : Hp} {o : HO} (e : Kx p H H') (h : H q = none) : Kx p H (upd H' q o) := fun a u n ha => by rw [upd_ne (ne_of_none ha h)]; exact e a u n ha
theorem Kx.lst {p a : Addr} {H H' : Hp} {xs : List V} {kvs : List (Key × V)} (e : Kx p H H') (hp : H p = some (.dK kvs)) (h : H a = some (.lst xs)) : H' a = some (.lst xs) := e a _ (ne_of h hp (by intro z; cases z)) h
theorem Kx.tup {p a : Addr} {H H' : Hp} {xs : List V} {kvs : List (Key × V)} (e : Kx p H H') (hp : H p = some (.dK kvs)) (h : H a = some (.tup xs)) : H' a = some (.tup xs) := e a _ (ne_of h hp (by intro z; cases z)) h
theorem Kx.free {p a : Addr} {H H' : Hp} (e : Kx p H H') (n : a ≠ p) (h : H' a = none) : H a = none := by
  cases q : H a with
  | none => rfl
  | some o => rw [e a o n q] at h; cases h
theorem Ex.free {a : Addr} {H H' : Hp} (e : Ex H H') (h : H' a = none) : H a = none := fresh_back e h
theorem upd_lst {H : Hp} {a b : Addr} {o : HO} {u : HO} (n : b ≠ a) (h : H b = some u) : upd H a o b = some u := by rw [upd_ne n]; exact h
/-! ### data -/
theorem canLay_strs : ∀ ws : List Str, (∀ x ∈ ws, PyData.strOk x = true) → PyData.canLay0 (.tuple (ws.map PyData.str)) = true
  | [], _ => by simp [PyData.canLay0, PyData.canLayAll0]
  | x :: r, h => by
    have ih := canLay_strs r fun y hy => h y (List.mem_cons_of_mem _ hy)
    simp only [PyData.canLay0, List.map_cons, PyData.canLayAll0] at ih ⊢
    simp [PyData.canLay0, ih, h x (List.mem_cons_self ..)]
theorem depthAll_strs : ∀ ws : List Str, PyData.depthAll (ws.map PyData.str) ≤ 1
  | [] => by simp [PyData.depthAll]
  | x :: r => by
    have ih := depthAll_strs r
    simp only [List.map_cons, PyData.depthAll, PyData.depth]
    omega
theorem shaped_strs (ws : List Str) (h : ∀ x ∈ ws, PyData.strOk x = true) : SeqAt.shaped (.tuple (ws.map PyData.str)) = true := by
  unfold SeqAt.shaped
  rw [canLay_strs ws h, Bool.true_and]
  apply decide_eq_true
  have := depthAll_strs ws
  simp only [PyData.depth]
  omega
theorem eqvAll_strs : ∀ ws zs : List Str, PyData.eqvAll (ws.map PyData.str) (zs.map PyData.str) = decide (ws = zs)
  | [], [] => rfl
  | [], _ :: _ => rfl
  | _ :: _, [] => rfl
  | x :: r, y :: t => by
    rw [List.map_cons, List.map_cons, PyData.eqvAll, eqvAll_strs r t, PyData.eqv, Bool.eq_iff_iff]
    simp
theorem dp_strs {K : PySem.W.Frag} {H : Hp} : ∀ ws : List Str, DpAll K H (ws.map V.str) (ws.map PyData.str)
  | [] => .nil
  | x :: r => .cons (.str x) (dp_strs r)
theorem putF_new {f : Str} {v : V} : ∀ {fs : List (Str × V)} (ks : List Str) (e : fs.map (·.1) = ks) (h : f ∉ ks), putF f v fs = fs ++ [(f, v)]
  | [], _, _, _ => rfl
  | (g, x) :: r, ks, e, h => by
    subst e
    have hg : ¬ g = f := fun q => h (by simp [q])
    have := putF_new (f := f) (v := v) (fs := r) _ rfl (fun q => h (by simp at q ⊢; exact .inr q))
    show (if g = f then _ else (g, x) :: putF f v r) = _
    rw [if_neg hg, this]
    rfl
theorem putF_len {f : Str} {v : V} : ∀ fs : List (Str × V), (putF f v fs).length ≤ fs.length + 1
  | [] => Nat.le_refl _
  | (g, x) :: r => by
    show (if g = f then (g, v) :: r else (g, x) :: putF f v r).length ≤ _
    split
    · simp
    · have := putF_len (f := f) (v := v) r
      simp; omega
theorem putF_lt {f : Str} {v : V} {fs : List (Str × V)} {n : Nat} (h : fs.length ≤ n) (hn : n < 999) : (putF f v fs).length ≤ n + 1 ∧ (putF f v fs).length < 1000 := by
  have := putF_len (f := f) (v := v) fs
  omega
theorem canLay_ints : ∀ ns : List Int, PyData.canLayAll0 (ns.map PyData.int) = true
  | [] => by simp [PyData.canLayAll0]
  | x :: r => by
    have ih := canLay_ints r
    rw [List.map_cons, PyData.canLayAll0, ih]; simp [PyData.canLay0]
theorem depthAll_ints : ∀ ns : List Int, PyData.depthAll (ns.map PyData.int) ≤ 1
  | [] => by simp [PyData.depthAll]
  | x :: r => by
    have ih := depthAll_ints r
    simp only [List.map_cons, PyData.depthAll, PyData.depth]
    omega
theorem shaped_ints (ns : List Int) : SeqAt.shaped (.list (ns.map PyData.int)) = true := by
  unfold SeqAt.shaped
  have := depthAll_ints ns
  rw [PyData.canLay0, canLay_ints, Bool.true_and]
  apply decide_eq_true
  simp only [PyData.depth]; omega
theorem dp_ints {K : PySem.W.Frag} {H : Hp} : ∀ ns : List Int, DpAll K H (ns.map V.int) (ns.map PyData.int)
  | [] => .nil
  | x :: r => .cons (.int x) (dp_ints r)
theorem eqv_emptyI : ∀ ns : List Int, PyData.eqv (.list (ns.map PyData.int)) (.list []) = ns.isEmpty
  | [] => rfl
  | _ :: _ => rfl
theorem eqv_emptyS : ∀ ns : List Str, PyData.eqv (.list (ns.map PyData.str)) (.list []) = ns.isEmpty
  | [] => rfl
  | _ :: _ => rfl
/-! ### the pen: a dict of three -/
section
variable {k1 k2 k3 : Str}
def pd3 (k1 k2 k3 : Str) (x y z : V) : List (Key × V) := [(Sum.inr k1, x), (Sum.inr k2, y), (Sum.inr k3, z)]
structure D3 (k1 k2 k3 : Str) : Prop where
  a : k1 ≠ k2
  b : k1 ≠ k3
  c : k2 ≠ k3
theorem D3.v1 (d : D3 k1 k2 k3) {x y z : V} : valV (pd3 k1 k2 k3 x y z) (Sum.inr k1) = some x := valV_pos rfl
theorem D3.v2 (d : D3 k1 k2 k3) {x y z : V} : valV (pd3 k1 k2 k3 x y z) (Sum.inr k2) = some y := by
  unfold pd3; rw [valV_neg (fun e => d.a (Sum.inr.inj e)), valV_pos rfl]
theorem D3.v3 (d : D3 k1 k2 k3) {x y z : V} : valV (pd3 k1 k2 k3 x y z) (Sum.inr k3) = some z := by
  unfold pd3; rw [valV_neg (fun e => d.b (Sum.inr.inj e)), valV_neg (fun e => d.c (Sum.inr.inj e)), valV_pos rfl]
theorem D3.p2 (d : D3 k1 k2 k3) {x y z v : V} : putK (pd3 k1 k2 k3 x y z) (Sum.inr k2) v = pd3 k1 k2 k3 x v z := by
  have e1 : ¬ (Sum.inr k1 : Key) = Sum.inr k2 := fun e => d.a (Sum.inr.inj e)
  have e2 : ¬ (Sum.inr k3 : Key) = Sum.inr k2 := fun e => d.c (Sum.inr.inj e).symm
  simp [putK, pd3, e1, e2, d.a, d.c, Ne.symm d.c]
theorem D3.p3 (d : D3 k1 k2 k3) {x y z v : V} : putK (pd3 k1 k2 k3 x y z) (Sum.inr k3) v = pd3 k1 k2 k3 x y v := by
  simp [putK, pd3, d.b, d.c]
theorem D3.m (d : D3 k1 k2 k3) {x y z : V} : mergeK [] (pd3 k1 k2 k3 x y z) = pd3 k1 k2 k3 x y z := by
  simp [mergeK, pd3, putK, d.a, d.b, d.c]
/-- the pen at pd, its cells at c: at most B of them were begun -/
def Pen (k1 k2 k3 : Str) (H : Hp) (pd c : Addr) (B : Nat) : Prop := ∃ (ns : List Int) (at_ rest : Int),
  H pd = some (.dK (pd3 k1 k2 k3 (.ref c) (.int at_) (.int rest))) ∧ H c = some (.lst (ns.map V.int)) ∧ 0 ≤ at_ ∧ at_ ≤ B ∧ 0 ≤ rest
variable {H H' : Hp} {pd c : Addr} {B B' : Nat}
theorem Pen.ex (p : Pen k1 k2 k3 H pd c B) (e : Ex H H') : Pen k1 k2 k3 H' pd c B := let ⟨ns, i, j, h1, h2, r⟩ := p; ⟨ns, i, j, e _ _ h1, e _ _ h2, r⟩
theorem Pen.mono (p : Pen k1 k2 k3 H pd c B) (h : B ≤ B') : Pen k1 k2 k3 H pd c B' := let ⟨ns, i, j, h1, h2, r1, r2, r3⟩ := p; ⟨ns, i, j, h1, h2, r1, by omega, r3⟩
theorem Pen.wr {D : Addr} {o : HO} (p : Pen k1 k2 k3 H pd c B) (n1 : pd ≠ D) (n2 : c ≠ D) : Pen k1 k2 k3 (upd H D o) pd c B :=
  let ⟨ns, i, j, h1, h2, r⟩ := p; ⟨ns, i, j, by rw [upd_ne n1]; exact h1, by rw [upd_ne n2]; exact h2, r⟩
theorem Pen.dK (p : Pen k1 k2 k3 H pd c B) : ∃ kvs, H pd = some (.dK kvs) := let ⟨_, _, _, h1, _⟩ := p; ⟨_, h1⟩
theorem Pen.np {D : Addr} (p : Pen k1 k2 k3 H pd c B) (h : H D = none) : pd ≠ D := let ⟨_, _, _, h1, _⟩ := p; ne_of_none h1 h
theorem Pen.nc {D : Addr} (p : Pen k1 k2 k3 H pd c B) (h : H D = none) : c ≠ D := let ⟨_, _, _, _, h2, _⟩ := p; ne_of_none h2 h
/-- draws -/
def spDraw (k1 k2 k3 : Str) : Sp := fun vs H Q _ => ∃ (pd c : Addr) (B : Nat) (m : Int), vs = [.ref pd, .int m] ∧ Pen k1 k2 k3 H pd c B ∧ B < 1000000000 ∧ 0 < m ∧ m < 1000000000 ∧
  ∀ r H', 0 ≤ r → r < m → Pen k1 k2 k3 H' pd c (B + 1) → Kx pd H H' → Q (.int r) H'
end
theorem atI_int {α : Type} {xs : List α} {i : Int} (h0 : 0 ≤ i) (h1 : i < xs.length) : ∃ v, v ∈ xs ∧ xs[i.toNat]? = some v ∧ atI xs i = some v := by
  have h : i.toNat < xs.length := by omega
  refine ⟨xs[i.toNat], List.getElem_mem h, List.getElem?_eq_getElem h, ?_⟩
  have e := atI_nat (List.getElem?_eq_getElem h)
  rw [Int.toNat_of_nonneg h0] at e
  exact e
theorem canLay_strsA : ∀ ws : List Str, (∀ x ∈ ws, PyData.strOk x = true) → PyData.canLayAll0 (ws.map PyData.str) = true := fun ws h => by
  have := canLay_strs ws h
  rwa [PyData.canLay0] at this
theorem shaped_strsL (ws : List Str) (h : ∀ x ∈ ws, PyData.strOk x = true) : SeqAt.shaped (.list (ws.map PyData.str)) = true := by
  unfold SeqAt.shaped
  rw [PyData.canLay0, canLay_strsA ws h, Bool.true_and]
  apply decide_eq_true
  have := depthAll_strs ws
  simp only [PyData.depth]
  omega
theorem perm_erase {α : Type} : ∀ (l : List α) (i : Nat) (x : α), l[i]? = some x → (x :: l.eraseIdx i).Perm l
  | [], _, _, h => by simp at h
  | y :: r, 0, x, h => by simp at h; subst h; exact List.Perm.refl _
  | y :: r, i + 1, x, h => by
    have ih := perm_erase r i x (by simpa using h)
    rw [List.eraseIdx_cons_succ]
    exact (List.Perm.swap y x _).trans (ih.cons y)
theorem join_ones : ∀ cs : List Nat, (Txt.join "" (cs.map fun c => (⟨#[c]⟩ : Str))).cps.toList = cs := fun cs => by
  rw [TL.join_eq]
  induction cs with
  | nil => rfl
  | cons c r ih =>
    cases r with
    | nil => rfl
    | cons d r =>
      show (⟨#[c]⟩ ++ "" ++ Str.join "" ((d :: r).map fun c => (⟨#[c]⟩ : Str)) : Str).cps.toList = _
      rw [PySem.W.KT.app_list, PySem.W.KT.app_list, ih]
      rfl
theorem ones_len : ∀ cs : List Nat, ((cs.map fun c => (⟨#[c]⟩ : Str)).map (·.length)).sum = cs.length
  | [] => rfl
  | c :: r => by
    have := ones_len r
    simp only [List.map_cons, List.sum_cons, List.length_cons, this]
    have : (⟨#[c]⟩ : Str).length = 1 := rfl
    omega
theorem mul_zero (x : Str) : Txt.mul x 0 = ⟨#[]⟩ := by
  unfold Txt.mul; rw [if_pos (by decide)]; rfl
theorem mul_one (x : Str) : Txt.mul x 1 = x := by
  unfold Txt.mul; rw [if_neg (by decide)]; simp
/-! ### texts -/
theorem str_ext {x y : Str} (h : x.cps.toList = y.cps.toList) : x = y := by
  cases x; cases y; congr 1; exact Array.toList_inj.mp h
theorem app_cps (x y : Str) : (x ++ y).cps.toList = x.cps.toList ++ y.cps.toList := PySem.W.KT.app_list x y
theorem app_len (x y : Str) : (x ++ y).length = x.length + y.length := by
  rw [← len_cps, ← len_cps, ← len_cps, app_cps, List.length_append]
theorem one_cps (c : Nat) : (⟨#[c]⟩ : Str).cps.toList = [c] := rfl
theorem one_len (c : Nat) : (⟨#[c]⟩ : Str).length = 1 := rfl
end Aq
/-! an own exception over ValueError whose __init__ begins super().__init__(e) -/
namespace Aq
open PySem PySem.Spec PyProof.Rows L2 NdefX
section
variable {prog : Program} {w : World} {A : Around} {E : Value → Shared → Prop} {s : Shared} {nm q : Str} {C N x u t : Addr} {bs bm : List Value} {hdct : Bool} {sn : List Str} {sub : List Value} {ab : Bool} {col : Option Bool} {dd dv : Option Addr} {k0 k1 k2 k3 k5 : Option Value} {rest : List Value}
/-- ValueError.__init__ bound to x, called -/
theorem mw_init {Q : Value → Shared → Prop} (hC : s.heap.get? C = some (excClassObj nm q C N bs bm hdct sn sub ab col dd k0 k1 k2 k3 k5 "ValueError.__new__")) (hx : s.heap.get? x = some (PySem.W.excRec (.ref C) t dv .none .none (.bool false)))
    (hu : s.heap.get? u = some (PySem.W.kxs_mw "ValueError.__init__" x)) (hz : rest.length ≤ sizeLine)
    (h : ∀ h' t', (∀ b o, b ≠ x → s.heap.get? b = some o → h'.get? b = some o) → h'.get? x = some (PySem.W.excRec (.ref C) t' dv .none .none (.bool false)) → Q .none { s with heap := h' }) : wpAny (model prog w) A (call (.ref u) rest) Q E s := by
  obtain ⟨hp, g, d, tk, os⟩ := s
  refine wpAny_call (codeAny_of_tree (show wpAny _ A.in1 (callAny (.ref u) ⟨rest, []⟩) _ _ _ from ?_))
  unfold callAny
  refine wpAny_bind (wpAny_load hu (PySem.W.KFB.if_so (by show (Value.type "method-wrapper" == Value.type "method" || Value.type "method-wrapper" == Value.type "builtin_function_or_method" || Value.type "method-wrapper" == Value.type "method-wrapper") = true; decide) (wpAny_bind (PySem.W.check_bound_init F.excBase_ValueError.toExcCallFacts hC hx rfl (wpAny_bind (wpAny_pure (wpAny_pure ⟨plainId_quiet F.excBase_ValueError.init.plain _, codeAny_builtin F.excBase_ValueError.initEntry ?_⟩)))))))
  exact PySem.W.exc_init_tree hx hz fun h' k e _ => h h' _ k e
end
/-- what the written part says of the class at D and of its __init__, F at f, which begins super().__init__(..) -/
structure XI (P : Program) (K : PySem.W.Frag) (mg : Str → Option Value) (F : NF) (f D : Addr) (a0 : Str) (doc pm ctv : Value) : Prop where
  lk : ∃ oc od osl, K.lookup f = some ⟨oc, od, .func (F.fd doc pm ctv), osl⟩
  cd : PySem.W.codeIn K (.ref F.c) F.qual = true
  cl : ∃ cc c1 c2 c3, F.cl = [(("__class__" : Str), cc)] ∧ K.lookup cc = some ⟨c1, c2, .cell (some (.ref D)), c3⟩
  ar : ∃ ar, (F.params.posonlyargs ++ F.params.args).head? = some ar ∧ ar.arg = a0
  fl : ∃ c1 c2 c3 vs file tf, K.lookup F.c = some ⟨c1, c2, .fields vs, c3⟩ ∧ vs[2]? = some (.str file tf) ∧ ((P.main.file : Str) == file) = true
  me : PySem.W.mroIn K D (.ref D) = some true
  sg : mg "super" = none
  sk : F.scope.names.lookup ("super" : Str) = some .globalImplicit
  st : (P.main.scope.names.lookup ("super" : Str)).isSome = false
  op : PySem.W.nsIn K cStatics "thirdparty.any" = some none
  up : PySem.W.ks_superIn K D D "__init__" = some (some (.builtin "ValueError.__init__"))
  ve : PySem.W.subIn K (.ref D) (.type "ValueError") = some true
  ox : OexC K D
theorem fn_exc {CX : CXT} {P : Program} {w : World} {K : PySem.W.Frag} {mg : Str → Option Value} {base : Heap} {N psr : List Str} {a0 : Str} {F : NF} {f D : Addr} {k : Nat} {sp : Sp} {doc pm ctv : Value} {e : Expr} {rest : List Stmt} {p0 p1 p2 p3 p4 : Pos}
    (T : XI P K mg F f D a0 doc pm ctv) (S : NScope N (a0 :: psr) ["__class__"] F.scope) (eb : F.body = .Expr (.Call (.Attribute (.Call (.Name "super" p0) [] [] p1) "__init__" p2) [e] [] p3) p4 :: rest)
    (len : ∀ vs H Q E, sp vs H Q E → vs.length = (a0 :: psr).length)
    (hbody : ∀ (A : Around) (outer : List Env) (s : Shared) (H : Hp) (vs : List V) (Q : VK) (E : XK), Room k (A.deeper (envF F f s.heap.objs.size)) → sp vs H Q E → ∃ ta t a, PA (ncx CX P w K mg base N F f A outer s H E) [e] ta ∧ PSs (ncx CX P w K mg base N F f A outer s H E) rest t ∧
      vs[0]? = some (.ref a) ∧ H a = some (exo a D none) ∧ ta (startF N vs [none]) H fun xs H1 => xs.length ≤ 1000 ∧ H1 a = some (exo a D none) ∧ t { nx := fun _ H' => Q .non H', rt := Q } (startF N vs [none]) H1)
    (hst : ∀ A outer s H E, starEach [e] (ncx CX P w K mg base N F f A outer s H E).env = (false, eval e (ncx CX P w K mg base N F f A outer s H E).env) :: starEach [] (ncx CX P w K mg base N F f A outer s H E).env := by intros; rfl)
    (hev : ∃ pl : Addr → Sem Bool, ∀ L, eval (.Call (.Attribute (.Call (.Name "super" p0) [] [] p1) "__init__" p2) [e] [] p3) (envF F f L) = (do
      let ov ← attributeBase (.Call (.Name "super" p0) [] [] p1) "__init__" (envF F f L) (eval (.Call (.Name "super" p0) [] [] p1) (envF F f L))
      standAt p2.atName
      let (g, first) ← holding [ov] (getMethod ov "__init__" (pl L))
      callWith p3 g first (backTo p3 (starEach [e] (envF F f L))) []) := by exact ⟨_, fun _ => rfl⟩)
    (hin : ∀ L, interactive (envF F f L) = false := by intros; rfl)
    (hsw : ∀ L, swapsWith (.Call (.Attribute (.Call (.Name "super" p0) [] [] p1) "__init__" p2) [e] [] p3) none p4.line (envF F f L) = pure false := by intros; rfl) :
    FnOk P w K mg base CX (k + 1) f (F.fd doc pm ctv) (a0 :: psr) sp := by
  refine ⟨len, fun A outer s H args us vs Q E hr e0 hb r hsp => ?_⟩
  have hl := len _ _ _ _ hsp
  have KX : K.In s.heap := e0.mod.kin.keeps fun b o z => (e0.bs b o z).1
  obtain ⟨oc, od, osl, lk⟩ := T.lk
  obtain ⟨cc, c1, c2, c3, ecl, hcell⟩ := T.cl
  obtain ⟨ar, har, ear⟩ := T.ar
  obtain ⟨d1, d2, d3, cvs, file, tf, hcode, hvs, hfile⟩ := T.fl
  have hfree : ∀ b o, K.lookup b = some o → H b = none := fun b o z => (e0.bs b o (e0.mod.kin _ _ z)).2
  refine codeAny_call_function hr.depth (KX _ _ lk) rfl S.co S.gen rfl (PySem.W.codeRec_of KX T.cd) (hb _ _ _ _ (wpAny_newFunctionEnv S.nocell (fun ⟨n, _⟩ hy => S.par n (List.of_mem_zip hy).1) (fun h1 hns hsb => ⟨(e0.mod.nolimit.keeps fun b o z => (e0.bs b o z).1).fresh _ hsb, ?_⟩) S.kind))
  show codeAny _ _ (.func F.body (envF F f s.heap.objs.size)) _ _
  have kp : ∀ b o, s.heap.get? b = some o → h1.get? b = some o := fun b o z => hsb.extBut b o (Nat.ne_of_lt (Heap.lt_size z)) (Heap.get?_push_of_some _ z)
  have CA : CellsAt F.cl ["__class__"] [none] s.heap H := by
    refine ⟨rfl, fun y c h => ?_, fun x y c h1 h2 => ?_, fun i y h => ?_⟩
    · rw [ecl] at h
      have : c = cc := by
        simp only [List.lookup] at h
        split at h
        · exact (Option.some.inj h).symm
        · cases h
      subst this
      exact ⟨hfree _ _ hcell, _, _, KX _ _ hcell, rfl⟩
    · rw [ecl] at h1 h2
      simp only [List.lookup] at h1 h2
      split at h1
      · split at h2
        · rename_i q1 _ q2
          exact (eq_of_beq q1).trans (eq_of_beq q2).symm
        · cases h2
      · cases h1
    · cases i with
      | zero =>
        simp at h
        subst h
        exact ⟨cc, by rw [ecl]; simp [List.lookup], fun v hv => by simp at hv⟩
      | succ i => simp at h
  obtain ⟨ta, t, a, pa, ps, ev, ha, hq⟩ := hbody A outer s H vs Q E (hr.deeper _) hsp
  have I : Inv (ncx CX P w K mg base N F f A outer s H E) [] (startF N vs [none]) H { s with heap := h1, toks := s.toks + ((a0 :: psr).zip us).length } := inv_startN S hr.hd e0 hl r CA hns kp
  generalize hs1 : ({ s with heap := h1, toks := s.toks + ((a0 :: psr).zip us).length } : Shared) = s1 at I ⊢
  have hns1 : s1.heap.Ns s.heap.objs.size fun y => ((a0 :: psr).zip us).reverse.lookup y := by rw [← hs1]; exact hns
  have fin : ∀ {fl : Flow} {s' : Shared}, SP (ncx CX P w K mg base N F f A outer s H E) [] { nx := fun _ H' => Q .non H', rt := Q } fl s' → CR CX outer P w H s Q E (.ok (.ret (match fl with | .ret v => v | _ => .none))) s' := fun {fl s'} hs => by
    cases fl with
    | ret u => obtain ⟨v, σ', H', J, rv, q⟩ := hs; exact ⟨v, H', J.os, J.bare, J.base, J.hok, rv, q⟩
    | next => obtain ⟨σ', H', J, q⟩ := hs; exact ⟨.non, H', J.os, J.bare, J.base, J.hok, rfl, q⟩
    | brk => obtain ⟨_, _, _, q⟩ := hs; exact q.elim
    | cont => obtain ⟨_, _, _, q⟩ := hs; exact q.elim
  refine ks_codeAny_funcAt ?_
  rw [eb]
  have hkc : (envF F f s.heap.objs.size).kindOf "__class__" = some .free := S.frk _ (by simp)
  have X1 := I.kIn
  obtain ⟨nm, qn, NN, bs, bm, sn, sub, ab, col, dd, k0, k1, k2, k3, k5, hC, hbm⟩ := T.ox.cls
  obtain ⟨t1, hoa⟩ := exo_at I.hok ha
  have hns2 := hns1
  have hua : ((a0 :: psr).zip us).reverse.lookup a0 = some (.ref a) := by
    obtain ⟨u, hu, ru⟩ := r.get ev
    cases ru
    have nd : (a0 :: psr).Nodup := by
      have q := S.nd.sublist (List.take_sublist ((a0 :: psr).length + [("__class__" : Str)].length) N)
      rw [S.pre] at q
      exact (List.nodup_append.mp q).1
    exact zip_look nd (i := 0) rfl hu
  have hCl : PySem.W.clsIn K D = some { name := nm, bases := bs, mro := .ref D :: bm, ns := NN, qualname := qn, hasDict := true, slotNames := sn, subclasses := sub, abstract := ab, collection := col, hasDel := false } := by
    unfold PySem.W.clsIn; rw [hC] <;> rfl
  obtain ⟨pl, hev⟩ := hev
  refine ks_wpAt_execs_cons (ks_wpAt_Expr_any (ks_wpAt_MethodCall (ks_wpAt_super_base T.sk hkc (by decide) rfl (X1 _ _ lk) rfl har rfl (X1 _ _ hcode) rfl hvs hfile T.st ?_) (hev _)) (hin _) (hsw _))
  obtain ⟨mb, b1, b2⟩ := I.mod.blt
  refine PySem.W.ks_loadName_global S.kind T.sk (Calls.loadGlobal_builtin (I.mod.glob.keeps I.bk) T.sg (b1.keeps I.bk) ((b2 _ (by decide)).trans (by decide +kernel)) ⟨rfl, ?_⟩)
  refine wpAny_loadName_free S.kind hkc (c := cc) (by show F.cl.lookup _ = _; rw [ecl]; simp [List.lookup]) ⟨_, X1 _ _ hcell, rfl⟩ ?_
  subst ear
  refine wpAny_loadName_local S.kind (S.par _ (by simp)) hns1 hua (ks_wpAny_isType_cls (X1 _ _ hC) rfl ⟨rfl, ?_⟩)
  have naD : a ≠ D := fun z => by
    have := hfree D _ hC
    rw [← z, ha] at this
    cases this
  clear hs1 hns2
  obtain ⟨hp, g, d, tk, os⟩ := s1
  refine ks_wpAny_call_super (X1 _ _ hC) rfl hoa rfl (fun c q => nomatch q) (PySem.W.looks_mroIn X1 T.me) fun h2 hso kp2 => ?_
  have I2 := I.kept (t' := tk) kp2
  have hup := T.up
  unfold PySem.W.ks_superIn at hup
  rw [hCl] at hup
  have IA : PySem.W.InstAt h2 a { cls := .ref D, dict := none, data := .fields #[.ref t1, .none, .none, .none, .bool false, .none] } D none := ⟨kp2 _ _ hoa, rfl, rfl, trivial⟩
  refine PySem.W.kxs_getMethod PySem.W.kxs_ValueError hso (PySem.W.looks_opaque I2.kIn T.op) (l₀ := .ref D :: bm) (fun A Q E s k q => wpAny_bind ((PySem.W.looks_clsIn I2.kIn hCl) A _ E s k (wpAny_pure q))) rfl I2.kIn hup (IA.type.andThen (PySem.W.looks_subIn I2.kIn T.ve)) naD rfl ?_
  have I3 : Inv (ncx CX P w K mg base N F f A outer s H E) [(h2.objs.size, PySem.W.kxs_mw "ValueError.__init__" a)] (startF N vs [none]) H ⟨h2.push (PySem.W.kxs_mw "ValueError.__init__" a), g, d, tk + 1, os⟩ := by
    have J := I2.kept (h' := h2.push (PySem.W.kxs_mw "ValueError.__init__" a)) (t' := tk + 1) fun b o z => Heap.get?_push_of_some _ z
    refine J.pins_of fun p hp => ?_
    rw [List.mem_singleton] at hp
    subst hp
    exact ⟨Heap.get?_push_size _ rfl, I2.hok.fresh (Nat.le_refl _), Nat.ne_of_gt I2.lt, I2.nofs (Nat.le_refl _), nofun⟩
  have hs0 : starEach [e] (envF F f s.heap.objs.size) = (false, eval e (envF F f s.heap.objs.size)) :: starEach [] (envF F f s.heap.objs.size) := hst A outer s H E
  have run : wpAny (model P w) _ (spliced (backTo p3 (starEach [e] (envF F f s.heap.objs.size)))) _ _ _ := pa.run p3 _ _ _ H _ I3 hq
  show wpAny _ _ (callWith p3 (.ref h2.objs.size) [] (backTo p3 (starEach [e] (envF F f s.heap.objs.size))) []) _ _ _
  rw [hs0] at run ⊢
  refine PySem.W.kxs_callWith (i := "ValueError.__init__") (x := a) rfl (Calls.evalArgs_plain (thn run fun us2 s2 hs2 => ?_))
  obtain ⟨ws, H1, I4, rws, hz, ha1, q1⟩ := hs2
  obtain ⟨t2, ho2⟩ := exo_at I4.hok ha1
  have pin := (I4.pin _ (List.mem_append_right _ (List.mem_singleton_self _))).1
  have lz : us2.length ≤ sizeLine := by rw [← rws.length]; exact Nat.le_trans hz (by decide)
  refine ⟨pin, mw_init (I4.kIn _ _ hC) ho2 pin lz fun h3 t3 k3 hx3 => ?_⟩
  have J := I4.write (t' := s2.toks) (x := a) (e := a) (o := exo a D none) (by rw [ha1]; exact True.intro) (.inl rfl) k3 ⟨_, hx3⟩ (exo_ok hx3)
  have eu : upd H1 a (exo a D none) = H1 := by
    funext b
    by_cases hb : b = a
    · rw [hb, upd_same, ha1]
    · rw [upd_ne hb]
  rw [eu] at J
  have J0 : Inv (ncx CX P w K mg base N F f A outer s H E) [] (startF N vs [none]) H1 _ := J.pins_of (pins' := []) (fun p hp => by cases hp)
  refine wpAt_of_wpAny (wpAny_mono (ps.run [] _ _ H1 _ J0 q1) (fun fl s' hs => fin hs) fun e s' hs => hs)
end Aq
/-! try with several clauses `except X as n` -/
namespace Aq
open PySem PySem.Spec PyProof.Rows L2
abbrev Clause := Value × Option Nat × (Addr → Value → Option Addr → TS)
/-- the ends of a suite behind which slot i is gone -/
def Ends.gone (D : Ends) (i : Nat) : Ends := { nx := fun σ' H' => D.nx (σ'.set i none) H', rt := D.rt, bk := fun σ' H' => D.bk (σ'.set i none) H', ct := fun σ' H' => D.ct (σ'.set i none) H' }
def wAsM (K : PySem.W.Frag) (Wout : WX) (D : Ends) : List Clause → WX
  | [] => Wout
  | (c, none, ts) :: r => fun cls d σ H => ∃ b, PySem.W.exmOne K cls c = some b ∧ (b = true → ∀ a, H a = none → ts a cls d D σ H) ∧ (b = false → wAsM K Wout D r cls d σ H)
  | (c, some i, ts) :: r => fun cls d σ H => ∃ b, PySem.W.exmOne K cls c = some b ∧ (b = true → ∀ a, H a = none → ts a cls d (Ends.gone D i) (σ.set i (some (.ref a))) H) ∧ (b = false → wAsM K Wout D r cls d σ H)
inductive HdsA (X : Cx) : List ExceptHandler → List Clause → Prop
  | nil : HdsA X [] []
  | cons {x n : Str} {c : Value} {i : Nat} {ts : Addr → Value → Option Addr → TS} {b0 : Stmt} {suite : List Stmt} {np pos' : Pos} {hds : List ExceptHandler} {l : List Clause} (hc : Names X x c) (hi : X.N[i]? = some n) (hln : X.env.kindOf n = some .local)
      (hsu : ∀ (a : Addr) (oe : Obj) (cls : Value) (d : Option Addr) (pn : List (Addr × Obj)), Zc cls d oe → (∃ vs, oe.data = .fields vs) → PSs (X.suite a ((a, oe) :: pn)) (b0 :: suite) (ts a cls d)) (r : HdsA X hds l) : HdsA X (.ExceptHandler (some (.Name x np)) (some n) (b0 :: suite) pos' :: hds) ((c, some i, ts) :: l)
  | consN {x : Str} {c : Value} {ts : Addr → Value → Option Addr → TS} {b0 : Stmt} {suite : List Stmt} {np pos' : Pos} {hds : List ExceptHandler} {l : List Clause} (hc : Names X x c)
      (hsu : ∀ (a : Addr) (oe : Obj) (cls : Value) (d : Option Addr) (pn : List (Addr × Obj)), Zc cls d oe → (∃ vs, oe.data = .fields vs) → PSs (X.suite a ((a, oe) :: pn)) (b0 :: suite) (ts a cls d)) (r : HdsA X hds l) : HdsA X (.ExceptHandler (some (.Name x np)) none (b0 :: suite) pos' :: hds) ((c, none, ts) :: l)
section
variable {X : Cx} {body : List Stmt} {h0 : ExceptHandler} {hds : List ExceptHandler} {l : List Clause} {pos : Pos} {tb : WX → TS} {Wout : WX}
theorem ps_try_asM (hs : X.stack = X.env :: X.outer) (hf : X.env.frame = some X.env.locals) (hN : X.N.Nodup) (tk : Takes X Wout)
    (hb : ∀ (W : WX) (pn : List (Addr × Obj)) (xe : Value → Shared → Prop), Takes (X.tr pn xe) W → PassesOwn (model X.prog X.w) X.A X.env xe → PSs (X.tr pn xe) body (tb W)) (hh : HdsA X (h0 :: hds) l) : PS X (.Try body (h0 :: hds) [] [] pos) (fun D σ H => tb (wAsM X.K Wout D l) D σ H) := by
  constructor
  intro pins s σ H D I rd
  have ok := I.ok
  have hfr : X.A.frames = some (X.env :: X.outer) := hs ▸ ok.frames
  refine wpAny_Try_except (wpAny_mono ((hb (wAsM X.K Wout D l) (X.pn ++ pins) (fun e s1 => wpAny (model X.prog X.w) X.A (noteFrame e X.env) (fun _ s2 => wpAny (model X.prog X.w) X.A (setFlight e none) (fun _ s3 => wpAny (model X.prog X.w) X.A (handleBy e X.env (h0 :: hds)) (SP X pins D) X.xe s3) X.xe s2) X.xe s1) ?_ PassesOwn.looking).run [] s σ H D (I.toTry _) rd) ?_ fun _ _ q => q)
  · rintro u t ⟨a, B, tI, pins', σ', H', cls, d, rfl, J', nb, up, sky, na, os, ag, wish⟩
    have J : Inv X pins σ' H' tI := J'.ofTry ok
    refine Sky.land Zc.steady hfr hf (hs ▸ sky) fun h3 fl3 up3 => ?_
    have J3 : Inv X pins σ' H' { t with heap := h3 } := J.landed nb fl3.1 (up.trans up3) os ag
    obtain ⟨oe3, vs3, he3, hz3, hd3⟩ := fl3.there
    have nfr : a ∉ frs (X.env :: X.outer) := fun hm => by
      obtain ⟨_, o', e', hnf⟩ := fl3.2.2.1.mem hm
      cases he3.symm.trans e'
      exact hnf _ hd3
    have nL : a ≠ X.env.locals := fun z => nfr (List.mem_filterMap.mpr ⟨X.env, List.mem_cons_self, z ▸ hf⟩)
    have nF : a ∉ X.fs := fun hm => by
      obtain ⟨e, he, q⟩ := List.mem_filterMap.mp hm
      exact nfr (List.mem_filterMap.mpr ⟨e, List.mem_cons_of_mem _ he, q⟩)
    have S3 := J3.suite he3 hd3 na nL nF
    clear hb
    have go : ∀ {hs' : List ExceptHandler} {l' : List Clause}, HdsA X hs' l' → wAsM X.K Wout D l' cls d σ' H' → wpAny (model X.prog X.w) X.A (handleBy (.ref a) X.env hs') (SP X pins D) X.xe { t with heap := h3 } := fun {hs' l'} hk => by
      induction hk with
      | nil =>
        intro wo
        obtain ⟨_, _, _, oe, vs, T, oT, ts', he, hz, hd, h1, _⟩ := id fl3
        have out : wpAny (model X.prog X.w) X.A (setFlight (.ref a) X.env.frame) (fun _ s4 => wpAny (model X.prog X.w) X.A (throw (.ref a) : Sem Flow) (SP X pins D) X.xe s4) X.xe { t with heap := h3 } := by
          rw [hf]
          exact HandSPX.setFlight_upZ fl3 fun h4 hh4 up4 => wpAny_throw (tk _ _ ⟨a, B, tI, pins, σ', H', cls, d, rfl, J, nb, (up.trans up3).trans up4, .inr (.inr (hs ▸ hh4)), na, os, ag, wo⟩)
        refine wpAny_handleBy_nil ?_
        delta PySem.passOn
        refine wpAny_bind (wpAny_field he hd h1 (?_ : wpAny _ _ (if (Value.ref T == Value.none) = true then _ else _) _ _ _))
        rw [if_neg (by simp : ¬ (Value.ref T == Value.none) = true)]
        first | exact wpAny_bind (wpAny_pure (wpAny_bind out)) | exact wpAny_bind out
      | @cons x n c i ts b0 suite np pos' hds2 l2 hc hi hln hsu r ih =>
        rintro ⟨b, eb, yes, no⟩
        have LM := PySem.W.exm_one (M := model X.prog X.w) J3.kIn (show PySem.W.Looks (model X.prog X.w) h3 (typeOf (.ref a)) cls from fun A Q E s k q => wpAny_typeOf_ref (k _ _ he3) (hz3.1.symm ▸ q)) eb
        have test : ∀ {Q : Value → Shared → Prop} {E : Value → Shared → Prop}, Q c { t with heap := h3 } → wpAny (model X.prog X.w) (X.A.mark (some (.ref a))) (eval (.Name x np) X.env) Q E { t with heap := h3 } := fun {Q E} q => by
          exact hc.2.2.elim (fun z => ld_glob (X := X.suite a ((a, oe3) :: (X.pn ++ pins))) S3 hc.1 z q hc.2.1) fun z => ld_blt (X := X.suite a ((a, oe3) :: (X.pn ++ pins))) S3 hc.1 z.1 z.2.1 q z.2.2 hc.2.1
        refine wpAny_handleBy_cons (codeAny_handlers_test (test (LM.here ?_))) (fun q => nomatch q)
        cases b with
        | false => exact ih (no rfl)
        | true =>
          refine codeAny_handlers_suite_as (HandSPX.lands_againZ fl3 fun h4 fl4 up4 => ?_)
          obtain ⟨oe4, vs4, he4, hz4, hd4⟩ := fl4.there
          have J4 : Inv X pins σ' H' { t with heap := h4 } := J.landed nb fl4.1 ((up.trans up3).trans up4) os ag
          have S4 := J4.suite he4 hd4 na nL nF
          refine store_ok (X := X.suite a ((a, oe4) :: (X.pn ++ pins))) (v := .ref a) S4 hN hi (.inl hln) rfl (fun s5 S5 => ?_) (.inr hln)
          refine wpAny_mono ((hsu a oe4 cls d (X.pn ++ pins) hz4 ⟨_, hd4⟩).run [] s5 _ H' _ S5 (yes rfl a na)) (fun f s6 hsp => ?_) fun _ _ z => False.elim z
          have gone : ∀ {σ6 : L2.St} {H6 : Hp} {Q : Shared → Prop}, Inv (X.suite a ((a, oe4) :: (X.pn ++ pins))) [] σ6 H6 s6 → (∀ s7, Inv X pins (σ6.set i none) H6 s7 → Q s7) → wpAny (model X.prog X.w) X.A (do bindName X.env n .none; unbindBehindTheSuite X.env n pos') (fun _ s7 => Q s7) X.xe s6 :=
            fun {σ6 H6 Q} S6 hq => gone_ok (S6.unsuite ok) hN hi hln hq
          cases f with
          | ret u => obtain ⟨v6, σ6, H6, S6, r6, q6⟩ := hsp; exact gone S6 fun s7 J7 => ⟨_, _, _, J7, r6, q6⟩
          | next => obtain ⟨σ6, H6, S6, q6⟩ := hsp; exact gone S6 fun s7 J7 => ⟨_, _, J7, q6⟩
          | brk => obtain ⟨σ6, H6, S6, q6⟩ := hsp; exact gone S6 fun s7 J7 => ⟨_, _, J7, q6⟩
          | cont => obtain ⟨σ6, H6, S6, q6⟩ := hsp; exact gone S6 fun s7 J7 => ⟨_, _, J7, q6⟩
      | @consN x c ts b0 suite np pos' hds2 l2 hc hsu r ih =>
        rintro ⟨b, eb, yes, no⟩
        have LM := PySem.W.exm_one (M := model X.prog X.w) J3.kIn (show PySem.W.Looks (model X.prog X.w) h3 (typeOf (.ref a)) cls from fun A Q E s k q => wpAny_typeOf_ref (k _ _ he3) (hz3.1.symm ▸ q)) eb
        have test : ∀ {Q : Value → Shared → Prop} {E : Value → Shared → Prop}, Q c { t with heap := h3 } → wpAny (model X.prog X.w) (X.A.mark (some (.ref a))) (eval (.Name x np) X.env) Q E { t with heap := h3 } := fun {Q E} q => by
          exact hc.2.2.elim (fun z => ld_glob (X := X.suite a ((a, oe3) :: (X.pn ++ pins))) S3 hc.1 z q hc.2.1) fun z => ld_blt (X := X.suite a ((a, oe3) :: (X.pn ++ pins))) S3 hc.1 z.1 z.2.1 q z.2.2 hc.2.1
        refine wpAny_handleBy_cons (codeAny_handlers_test (test (LM.here ?_))) (fun q => nomatch q)
        cases b with
        | false => exact ih (no rfl)
        | true =>
          refine codeAny_handlers_suite (HandSPX.lands_againZ fl3 fun h4 fl4 up4 => ?_)
          have J4 : Inv X pins σ' H' { t with heap := h4 } := J.landed nb fl4.1 ((up.trans up3).trans up4) os ag
          obtain ⟨ob, vs4, he4, hz4, hd4⟩ := fl4.there
          refine wpAny_mono ((hsu a ob cls d (X.pn ++ pins) hz4 ⟨_, hd4⟩).run [] _ _ H' _ (J4.suite he4 hd4 na nL nF) (yes rfl a na)) (fun f s6 hsp => ?_) fun _ _ z => False.elim z
          cases f with
          | ret u => obtain ⟨v6, σ6, H6, S6, r6, q6⟩ := hsp; exact ⟨_, _, _, S6.unsuite ok, r6, q6⟩
          | next => obtain ⟨σ6, H6, S6, q6⟩ := hsp; exact ⟨_, _, S6.unsuite ok, q6⟩
          | brk => obtain ⟨σ6, H6, S6, q6⟩ := hsp; exact ⟨_, _, S6.unsuite ok, q6⟩
          | cont => obtain ⟨σ6, H6, S6, q6⟩ := hsp; exact ⟨_, _, S6.unsuite ok, q6⟩
    exact go hh wish
  · intro f s1 q
    cases f with
    | next => obtain ⟨σ', H', J', z⟩ := q; exact wpAny_execs_nil ⟨σ', H', J'.ofTry ok, z⟩
    | brk => obtain ⟨σ', H', J', z⟩ := q; exact ⟨σ', H', J'.ofTry ok, z⟩
    | cont => obtain ⟨σ', H', J', z⟩ := q; exact ⟨σ', H', J'.ofTry ok, z⟩
    | ret u => obtain ⟨v, σ', H', J', z, y⟩ := q; exact ⟨v, σ', H', J'.ofTry ok, z, y⟩
end
end Aq
/-! defs, classes and methods that may let an own exception out -/
namespace Aq
open PySem PySem.Spec PyProof.Rows L2
section
variable (P : Program) (w : World) (K : PySem.W.Frag) (mg : Str → Option Value) (base : Heap)
structure CalX (k : Nat) (x : Str) (ps : List Str) (sp : Sp) : Prop where
  ex : ∃ (f : Addr) (fd : FuncData), FnOk P w K mg base (L2.CX P w) k f fd ps sp ∧ mg x = some (.ref f) ∧ PySem.W.keepIn K (.ref f) = true ∧ Binds K fd ps []
structure CtrX (k : Nat) (x : Str) (C : Addr) (ps : List Str) (dvs : List V) (sp : Sp) : Prop where
  ex : ∃ (f : Addr) (fd : FuncData) (ds : List Value), Mk K C f ∧ FnOk P w K mg base (L2.CX P w) k f fd ps sp ∧ mg x = some (.ref C) ∧ Binds K fd ps ds ∧ Vals dvs ds
structure MthX (k : Nat) (C : Addr) (m : Str) (ps : List Str) (sp : Sp) : Prop where
  cl : Cls K C
  ex : ∃ (f : Addr) (fd : FuncData), Meth K C m f ∧ FnOk P w K mg base (L2.CX P w) k f fd ps sp ∧ Binds K fd ps []
/-- an own exception and its __init__ -/
structure Xcl (k : Nat) (x : Str) (C : Addr) (ps : List Str) (sp : Sp) : Prop where
  ox : OexC K C
  xf : XfC K C
  ex : ∃ (f : Addr) (fd : FuncData), PySem.W.findIn K (.ref C) "__init__" = some (some (.ref f)) ∧ PySem.W.typeIn K (.ref f) = some (.type "function") ∧ FnOk P w K mg base CX0 k f fd ps sp ∧ mg x = some (.ref C) ∧ Binds K fd ps []
end
section
variable {X : Cx} {k j : Nat} {x m : Str} {C : Addr} {ps : List Str} {dvs : List V} {sp : Sp} {W : WX} {p pos apos : Pos} {e o : Expr} {es : List Expr} {ta : TE} {t : TA}
def PassAt (X : Cx) (σ : L2.St) (E : XK) : Prop := ∀ (pins : List (Addr × Obj)) (H : Hp) (s : Shared) (e : Value) (s' : Shared), Inv X pins σ H s → L2.CX X.prog X.w X.stack H s E e s' → X.xe e s'
theorem passAt {σ : L2.St} (tk : Takes X W) : PassAt X σ fun cls d H => W cls d σ H := fun _ _ _ e s' I c => tk e s' (XE.of_call I (fun _ _ _ h => h) c)
theorem passX0 : Passes (L2.CX X.prog X.w) X E0 := by
  rintro pins σ H s e s' I ⟨a, B, H', cls, d, _, _, _, _, _, _, _, z⟩
  exact z.elim
/-- readings of a call, a making, a method's call; what leaves them is wished by W -/
def tCallW (sp : Sp) (dvs : List V) (W : WX) (t : TA) : TE := fun σ H Q => t σ H fun vs H1 => sp (vs ++ dvs) H1 Q fun cls d H' => W cls d σ H'
def tMakeW (C : Addr) (sp : Sp) (dvs : List V) (W : WX) (t : TA) : TE := fun σ H Q => t σ H fun vs H1 => ∀ x dx, H1 x = none → H1 dx = none → dx ≠ x → sp (.ref x :: (vs ++ dvs)) (upd (upd H1 dx (.own x)) x (.ins C dx [])) (fun v H2 => v = .non ∧ Q (.ref x) H2) fun cls d H' => W cls d σ H'
def tMethW (C : Addr) (m : Str) (sp : Sp) (W : WX) (ta : TE) (t : TA) : TE := fun σ H Q => ta σ H fun x H1 => ∃ a dx fs, x = .ref a ∧ H1 a = some (.ins C dx fs) ∧ fs.lookup m = none ∧ t σ H1 fun vs H2 => sp (x :: vs) H2 Q fun cls d H' => W cls d σ H'
variable {pins : List (Addr × Obj)} {σ : L2.St} {H : Hp} {s : Shared} {Q : VK} {us ds : List Value} {vs : List V} {f : Addr} {fd : FuncData} {E : XK}
theorem runA (F : FnOk X.prog X.w X.K X.mg X.base (L2.CX X.prog X.w) k f fd ps sp) (hr : Room k X.A) (hb : Binds X.K fd ps ds) (hd : Vals dvs ds) (hx : PassAt X σ E) (I : Inv X pins σ H s) (r : Vals vs us) (h : sp (vs ++ dvs) H Q E) : wpAny (model X.prog X.w) X.A (call (.ref f) us) (EP X pins σ Q) X.xe s := by
  have r2 := r.append hd
  have hl := r2.length.symm.trans (F.len _ _ _ _ h)
  refine wpAny_call (codeAny_mono (F.run X.A X.stack s H ⟨us, []⟩ _ _ Q E hr I.env0 (hb s us I.kIn hl) r2 h) fun out s' hq => ?_)
  match out, hq with
  | .error e, hq => exact hx pins H s e s' I hq
  | .ok (.ret u), hq => exact I.after hq
  | .ok .next, hq => exact hq.elim
  | .ok .brk, hq => exact hq.elim
  | .ok .cont, hq => exact hq.elim
theorem makeA (M : Mk X.K C f) (F : FnOk X.prog X.w X.K X.mg X.base (L2.CX X.prog X.w) k f fd ps sp) (hr : Room (k + 1) X.A) (hb : Binds X.K fd ps ds) (hd : Vals dvs ds) (hx : PassAt X σ E) (I : Inv X pins σ H s) (r : Vals vs us)
    (h : ∀ x dx, H x = none → H dx = none → dx ≠ x → sp (.ref x :: (vs ++ dvs)) (upd (upd H dx (.own x)) x (.ins C dx [])) (fun v H2 => v = .non ∧ Q (.ref x) H2) E) : wpAny (model X.prog X.w) X.A (call (.ref C) us) (EP X pins σ Q) X.xe s := by
  have hq := h (s.heap.objs.size + 1) s.heap.objs.size (I.hok.fresh (Nat.le_succ _)) (I.hok.fresh (Nat.le_refl _)) (Nat.ne_of_lt (Nat.lt_succ_self _))
  have J := Inv.made (C := C) I
  have r2 : Vals (V.ref (s.heap.objs.size + 1) :: (vs ++ dvs)) (Value.ref (s.heap.objs.size + 1) :: (us ++ ds)) := .cons rfl (r.append hd)
  have hl := r2.length.symm.trans (F.len _ _ _ _ hq)
  refine wpAny_call (make_map (f := f) I.kIn M.makes M.init (beq_iff_eq.mp M.fn) (codeAny_mono (F.run _ X.stack _ _ ⟨Value.ref (s.heap.objs.size + 1) :: us, []⟩ _ _ _ E (hr.make C us []) (J.env0.make C us []) (hb _ (Value.ref (s.heap.objs.size + 1) :: us) J.kIn hl) r2 hq) fun out s' z => ?_))
  match out, z with
  | .error e, z => exact hx pins _ _ e s' J z
  | .ok (.ret u), z =>
    obtain ⟨v, H', J2, rv, ev, q3⟩ := J.after z
    subst ev
    exact ⟨rv, V.ref (s.heap.objs.size + 1), H', J2, rfl, q3⟩
  | .ok .next, z => exact z.elim
  | .ok .brk, z => exact z.elim
  | .ok .cont, z => exact z.elim
theorem pe_callX (c : CalX X.prog X.w X.K X.mg X.base k x ps sp) (hr : Room j X.A) (tk : Takes X W) (ha : PA X (e :: es) t) (hk : k ≤ j := by decide) (hg : Gl X x := by rfl) (hdb : (x == ("__debug__" : Str)) = false := by decide)
    (he : starEach (e :: es) X.env = (false, eval e X.env) :: starEach es X.env := by rfl) (hpl : (backTo pos (starEach es X.env)).any (·.1) = false := by rfl) : PE X (.Call (.Name x p) (e :: es) [] pos) (tCallW sp [] W t) := by
  obtain ⟨f, fd, F, hm, kp, b⟩ := c.ex
  exact ⟨fun pins s σ H Q I h => wpAny_Call_Name_kw (ld_glob I hg hm (PySem.W.callWith_K (h₀ := X.base) I.ok.mod.kin kp (thn (ha.run pos pins s σ H _ I h) fun us s1 ⟨vs, H1, I1, r, q⟩ => ⟨I1.kIn, runA F (hr.mono hk) b .nil (passAt tk) I1 r q⟩) he hpl) hdb)⟩
theorem pe_callX0 (c : CalX X.prog X.w X.K X.mg X.base k x ps sp) (hr : Room j X.A) (ha : PA X (e :: es) t) (hk : k ≤ j := by decide) (hg : Gl X x := by rfl) (hdb : (x == ("__debug__" : Str)) = false := by decide)
    (he : starEach (e :: es) X.env = (false, eval e X.env) :: starEach es X.env := by rfl) (hpl : (backTo pos (starEach es X.env)).any (·.1) = false := by rfl) : PE X (.Call (.Name x p) (e :: es) [] pos) (tCall sp [] E0 t) := by
  obtain ⟨f, fd, F, hm, kp, b⟩ := c.ex
  exact pe_call F (hr.mono hk) hg hm kp b .nil passX0 ha hdb he hpl
theorem pe_makeX (c : CtrX X.prog X.w X.K X.mg X.base k x C ps dvs sp) (hr : Room j X.A) (tk : Takes X W) (ha : PA X (e :: es) t) (hk : k + 1 ≤ j := by decide) (hg : Gl X x := by rfl) (hdb : (x == ("__debug__" : Str)) = false := by decide)
    (he : starEach (e :: es) X.env = (false, eval e X.env) :: starEach es X.env := by rfl) (hpl : (backTo pos (starEach es X.env)).any (·.1) = false := by rfl) : PE X (.Call (.Name x p) (e :: es) [] pos) (tMakeW C sp dvs W t) := by
  obtain ⟨f, fd, ds, M, F, hm, b, hd⟩ := c.ex
  exact ⟨fun pins s σ H Q I h => wpAny_Call_Name_kw (ld_glob I hg hm (PySem.W.callWith_K (h₀ := X.base) I.ok.mod.kin M.kp (thn (ha.run pos pins s σ H _ I h) fun us s1 ⟨vs, H1, I1, r, q⟩ => ⟨I1.kIn, makeA M F (hr.mono hk) b hd (passAt tk) I1 r q⟩) he hpl) hdb)⟩
theorem pe_makeX0 (c : CtrX X.prog X.w X.K X.mg X.base k x C ps dvs sp) (hr : Room j X.A) (ha : PA X (e :: es) t) (hk : k + 1 ≤ j := by decide) (hg : Gl X x := by rfl) (hdb : (x == ("__debug__" : Str)) = false := by decide)
    (he : starEach (e :: es) X.env = (false, eval e X.env) :: starEach es X.env := by rfl) (hpl : (backTo pos (starEach es X.env)).any (·.1) = false := by rfl) : PE X (.Call (.Name x p) (e :: es) [] pos) (tMake C sp dvs E0 t) := by
  obtain ⟨f, fd, ds, M, F, hm, b, hd⟩ := c.ex
  exact pe_make M F (hr.mono hk) hg hm b hd passX0 ha hdb he hpl
theorem pe_methX {pl : Sem Bool} (c : MthX X.prog X.w X.K X.mg X.base k C m ps sp) (hr : Room j X.A) (tk : Takes X W) (ho : PE X o ta) (ha : PA X (e :: es) t) (hk : k ≤ j := by decide)
    (hst : starEach (e :: es) X.env = (false, eval e X.env) :: starEach es X.env := by rfl) (hpl : (backTo pos (starEach es X.env)).any (·.1) = false := by rfl)
    (ht : eval (.Call (.Attribute o m apos) (e :: es) [] pos) X.env = (do
      let ov ← eval o X.env
      standAt apos.atName
      let (f, first) ← holding [ov] (getMethod ov m pl)
      callWith pos f first (backTo pos (starEach (e :: es) X.env)) (backToKw pos (keywordEach [] X.env))) := by rfl) : PE X (.Call (.Attribute o m apos) (e :: es) [] pos) (tMethW C m sp W ta t) := by
  obtain ⟨f, fd, M, F, b⟩ := c.ex
  constructor
  intro pins s σ H Q I h
  refine PySem.W.methodCall_KW (pl := pl) (thn (ho.run pins s σ H _ I h) ?_) ht
  rintro u s1 ⟨x, H1, I1, rx, a, dx, fs, rfl, ea, lk, q⟩
  cases rx
  refine getmeth_ok I1 ea c.cl M lk (PySem.W.callWith_K (first := [.ref a]) (h₀ := X.base) I.ok.mod.kin M.kp (thn (ha.run pos pins s1 σ H1 _ I1 q) fun us s2 ⟨vs, H2, I2, r, q2⟩ => ⟨I2.kIn, ?_⟩) hst hpl)
  exact runA (us := .ref a :: us) (vs := .ref a :: vs) F (hr.mono hk) b .nil (passAt tk) I2 (.cons rfl r) (by rw [List.append_nil]; exact q2)
theorem pe_methX0 {pl : Sem Bool} (c : MthX X.prog X.w X.K X.mg X.base k C m ps sp) (hr : Room j X.A) (ho : PE X o ta) (ha : PA X (e :: es) t) (hk : k ≤ j := by decide)
    (hst : starEach (e :: es) X.env = (false, eval e X.env) :: starEach es X.env := by rfl) (hpl : (backTo pos (starEach es X.env)).any (·.1) = false := by rfl)
    (ht : eval (.Call (.Attribute o m apos) (e :: es) [] pos) X.env = (do
      let ov ← eval o X.env
      standAt apos.atName
      let (f, first) ← holding [ov] (getMethod ov m pl)
      callWith pos f first (backTo pos (starEach (e :: es) X.env)) (backToKw pos (keywordEach [] X.env))) := by rfl) : PE X (.Call (.Attribute o m apos) (e :: es) [] pos) (tMeth C m sp [] E0 ta t) := by
  obtain ⟨f, fd, M, F, b⟩ := c.ex
  exact pe_meth ho c.cl M F (hr.mono hk) b .nil passX0 ha hst hpl ht
/-- raise C(e, ..) -/
theorem ps_raiseX {rpos : Pos} (c : Xcl X.prog X.w X.K X.mg X.base k x C ps sp) (hr : Room j X.A) (tk : Takes X W) (ha : PA X (e :: es) t) (hc : X.calm = true := by rfl) (hk : k + 1 ≤ j := by decide) (hg : Gl X x := by rfl) (hdb : (x == ("__debug__" : Str)) = false := by decide)
    (he : starEach (e :: es) X.env = (false, eval e X.env) :: starEach es X.env := by rfl) (hpl : (backTo pos (starEach es X.env)).any (·.1) = false := by rfl) :
    PS X (.Raise (some (.Call (.Name x p) (e :: es) [] pos)) none rpos) (fun _ σ H => tMkO C sp [] t σ H fun cls d H' => W cls d σ H') := by
  obtain ⟨f, fd, iC, tI, F, hm, b⟩ := c.ex
  exact ps_raise hc tk (pmk_oex c.ox iC tI F (hr.mono hk) b .nil pass0 hg hm ha hdb he hpl)
/-- an own exception without an __init__ -/
structure Xc0 (K : PySem.W.Frag) (mg : Str → Option Value) (x : Str) (C : Addr) : Prop where
  q : ∃ bm, ExcBaseFacts "ValueError" "ValueError.__new__" "ValueError.__init__" bm ∧ PySem.W.excIn K C bm "ValueError.__new__" = true
  g : mg x = some (.ref C)
  kC : PySem.W.keepIn K (.ref C) = true
  exC : PySem.W.subIn K (.ref C) (.type "BaseException") = some true
  tyC : PySem.W.typeIn K (.ref C) = some (.type "type")
/-- raise C() -/
theorem ps_raise0 {rpos : Pos} (c : Xc0 X.K X.mg x C) (tk : Takes X W) (hc : X.calm = true := by rfl) (hg : Gl X x := by rfl) (hdb : (x == ("__debug__" : Str)) = false := by decide) :
    PS X (.Raise (some (.Call (.Name x p) [] [] pos)) none rpos) (fun _ σ H => W (.ref C) none σ H) := by
  obtain ⟨bm, F, q⟩ := c.q
  refine ps_raise (t := fun σ H Q => Q (.ref C) none H) hc tk fun pins s σ H Q I h => ?_
  obtain ⟨_, _, _, _, _, _, _, _, _, _, _, _, _, _, _, _, _, hC, hN, hni, T⟩ := exc_obj I.kIn q
  exact wpAny_Call_Name_kw (ld_glob I hg c.g (PySem.W.callWith_K0 I.kIn c.kC (wpAny_call_exc_subT F T hC hN hni (fun h' e hm => mk_of I hm (raises_own c.exC c.tyC) h (I.hok.gone hm.new)) (Nat.zero_le _))) hdb)
end
end Aq
/-! own exceptions: messages, stores, what is raised -/
namespace Aq
open PySem PySem.Spec PyProof.Rows L2 Evl
/-- what is told in a message -/
def Fmt (y : V) : Prop := (∃ z : Str, y = .str z ∧ z.length ≤ 1000) ∨ ∃ i : Int, y = .int i ∧ i.natAbs.log2 < 1000
section
variable {K : PySem.W.Frag} {σ : L2.St} {H : Hp} {Qs : Str → Hp → Prop} {ts : List TE} {acc z : Str} {n i : Nat} {y : V}
theorem js_c (hn : acc.length ≤ n) (hb : n ≤ 100000) (hz : z.length ≤ 1000) (k : ∀ acc' : Str, acc'.length ≤ n + 1000 → tJs ts acc' σ H Qs) : tJs (tC (.str z) :: ts) acc σ H Qs :=
  ⟨z, rfl, by rw [app_len]; exact Nat.le_trans (show _ ≤ 200000 by omega) (by decide), k _ (by rw [app_len]; omega)⟩
theorem js_f (hv : σ[i]? = some (some y)) (hn : acc.length ≤ n) (hb : n ≤ 100000) (hf : Fmt y) (k : ∀ acc' : Str, acc'.length ≤ n + 1001 → tJs ts acc' σ H Qs) : tJs (tFmt (tVar i) :: ts) acc σ H Qs := by
  refine ⟨y, hv, ?_⟩
  rcases hf with ⟨z, rfl, hz⟩ | ⟨j, rfl, hj⟩
  · exact .inl ⟨z, rfl, Nat.le_trans hz (by decide), z, rfl, by rw [app_len]; exact Nat.le_trans (show _ ≤ 200000 by omega) (by decide), k _ (by rw [app_len]; omega)⟩
  · have hl := int_text_length_le (k := 1000) (by decide) hj
    have hl2 : (Str.ofString (toString j)).length ≤ 1001 := by rw [PySem.ofString_length]; exact hl
    exact .inr ⟨j, rfl, Nat.lt_trans hj (by decide), _, rfl, by rw [app_len]; exact Nat.le_trans (show _ ≤ 200000 by omega) (by decide), k _ (by rw [app_len]; omega)⟩
theorem js_0 (h : Qs acc H) : tJs [] acc σ H Qs := h
/-- self.f = p, the first one; a further one -/
theorem rd_ost1 {f : Str} {x C : Addr} {k : Nat} {D : Ends} (ox : OexC K C) (na : PySem.W.findIn K (.ref C) f = some none) (hy : σ[k]? = some (some y)) (hs : σ[0]? = some (some (.ref x))) (hx : H x = some (exo x C none))
    (q : ∀ dx, H dx = none → dx ≠ x → D.nx σ (upd (upd H dx (exd dx [(f, y)])) x (exo x C (some dx)))) : tOst K f (tVar 0) (tVar k) D σ H := ⟨y, hy, .ref x, hs, x, C, rfl, ox, na, .inl ⟨hx, q⟩⟩
theorem rd_ostN {f : Str} {x C dx : Addr} {k : Nat} {D : Ends} {fs : List (Str × V)} (ox : OexC K C) (na : PySem.W.findIn K (.ref C) f = some none) (hy : σ[k]? = some (some y)) (hs : σ[0]? = some (some (.ref x))) (hx : H x = some (exo x C (some dx))) (hd : H dx = some (exd dx fs)) (hl : fs.length ≤ 900)
    (q : D.nx σ (upd H dx (exd dx ((f, y) :: fs)))) : tOst K f (tVar 0) (tVar k) D σ H := ⟨y, hy, .ref x, hs, x, C, rfl, ox, na, .inr ⟨dx, fs, hx, hd, hl, q⟩⟩
/-- what stands where an exception was made and let go: its dict at d, nothing else is new -/
theorem raised {H1 H2 : Hp} {x d C : Addr} {fs : List (Str × V)} (hx : H1 x = none) (hd : H1 d = none) (ne : d ≠ x) (st : ∀ b, b ≠ x → b ≠ d → H2 b = upd H1 x (exo x C none) b) : Ex H1 (upd (del H2 x) d (.xd fs)) ∧ (upd (del H2 x) d (.xd fs)) d = some (.xd fs) := by
  refine ⟨fun b o h => ?_, upd_same⟩
  have h1 := ne_of_none h hx
  have h2 := ne_of_none h hd
  rw [upd_ne h2, del_ne h1, st b h1 h2, upd_ne h1]
  exact h
end
/-- isinstance(e, c), e a caught error of an own class with a dict -/
def rIsX (K : PySem.W.Frag) (D a : Addr) : List V → Hp → VK → Prop := rIsE K D a
/-- what a handler's class must be -/
structure ExmC (K : PySem.W.Frag) (C : Addr) : Prop where
  sb : PySem.W.subIn K (.ref C) (.type "BaseException") = some true
  hd : PySem.W.hasDictIn K C = true
  ty : PySem.W.typeIn K (.ref C) = some (.type "type")
theorem ExmC.em {K : PySem.W.Frag} {C : Addr} {cls : Value} {b : Bool} (e : ExmC K C) (h : PySem.W.subIn K cls (.ref C) = some b) : PySem.W.exmOne K cls (.ref C) = some b := PySem.W.exm_ref e.sb e.hd e.ty h
theorem kit_own {K : PySem.W.Frag} {C : Addr} {t : String} {b : Bool} (h : PySem.W.subIn K (.ref C) (.type t) = some b) (m : PySem.W.kitMeta t = true := by decide +kernel) : PySem.W.kitOne K (.ref C) (.type t) = some b := by
  show (if PySem.W.kitMeta t = true then PySem.W.subIn K (.ref C) (.type t) else none) = _
  rw [if_pos m]; exact h
end Aq
/-! values of all kinds -/
namespace Aq
open PySem L2 Evl
/-- a plain value: a text, None, a bool, an int, a list, a tuple, a dict -/
inductive Kd (H : Hp) : V → Prop
  | str (z : Str) (h : z.length ≤ 1000) : Kd H (.str z)
  | non : Kd H .non
  | bl (b : Bool) : Kd H (.bl b)
  | int (i : Int) : Kd H (.int i)
  | lst {a : Addr} {xs : List V} (h : H a = some (.lst xs)) : Kd H (.ref a)
  | tup {a : Addr} {xs : List V} (h : H a = some (.tup xs)) : Kd H (.ref a)
  | dK {a : Addr} {kvs : List (Key × V)} (h : H a = some (.dK kvs)) : Kd H (.ref a)
theorem Kd.ex {H H' : Hp} {v : V} (k : Kd H v) (e : Ex H H') : Kd H' v := by
  cases k with
  | str z h => exact .str z h
  | non => exact .non
  | bl b => exact .bl b
  | int i => exact .int i
  | lst h => exact .lst (e _ _ h)
  | tup h => exact .tup (e _ _ h)
  | dK h => exact .dK (e _ _ h)
def isStrV : V → Bool
  | .str _ => true
  | _ => false
theorem isStrV_iff {v : V} : isStrV v = true ↔ ∃ z, v = .str z := by
  cases v <;> simp [isStrV]
section
variable {K : PySem.W.Frag} {H : Hp} {v : V} {Q : VK}
theorem rd_isiKd (k : Kd H v) (q : Q (.bl (isStrV v)) H) : rIsi K [v, .ty "str"] H Q := by
  cases k with
  | str z h => exact rd_isiStr q
  | non => exact rd_isi (a := .type "NoneType") (b := .type "str") (r := false) (.ty _) (.base .non) (kit_ty (by decide +kernel)) q
  | bl b => exact rd_isi (a := .type "bool") (b := .type "str") (r := false) (.ty _) (.base (.bl b)) (kit_ty (by decide +kernel)) q
  | int i => exact rd_isi (a := .type "int") (b := .type "str") (r := false) (.ty _) (.base (.int i)) (kit_ty (by decide +kernel)) q
  | lst h => exact rd_isi (a := .type "list") (b := .type "str") (r := false) (.ty _) (.base (.lst h)) (kit_ty (by decide +kernel)) q
  | tup h => exact rd_isi (a := .type "tuple") (b := .type "str") (r := false) (.ty _) (.base (.tup h)) (kit_ty (by decide +kernel)) q
  | dK h => exact rd_isi (a := .type "dict") (b := .type "str") (r := false) (.ty _) (.base (.dK h)) (kit_ty (by decide +kernel)) q
end
/-! readings of calls that may raise -/
section
variable {σ : L2.St} {H : Hp} {Q : VK} {t : TA} {ta : TE} {W : WX} {sp : Sp} {dvs : List V} {C : Addr} {m : Str}
theorem rd_callW (h : t σ H fun vs H1 => sp (vs ++ dvs) H1 Q fun cls d H' => W cls d σ H') : tCallW sp dvs W t σ H Q := h
theorem rd_makeW (h : t σ H fun vs H1 => ∀ x dx, H1 x = none → H1 dx = none → dx ≠ x → sp (.ref x :: (vs ++ dvs)) (upd (upd H1 dx (.own x)) x (.ins C dx [])) (fun v H2 => v = .non ∧ Q (.ref x) H2) fun cls d H' => W cls d σ H') : tMakeW C sp dvs W t σ H Q := h
theorem rd_methW (h : ta σ H fun x H1 => ∃ a dx fs, x = .ref a ∧ H1 a = some (.ins C dx fs) ∧ fs.lookup m = none ∧ t σ H1 fun vs H2 => sp (x :: vs) H2 Q fun cls d H' => W cls d σ H') : tMethW C m sp W ta t σ H Q := h
end
end Aq
/-! isinstance of a caught error that has fields -/
namespace Aq
open PySem PySem.Spec PyProof.Rows L2
/-- isinstance(e, c), e the caught error at a, of the class D, its dict at dd -/
def rIsXd (K : PySem.W.Frag) (D a : Addr) (cls : Value) (d : Option Addr) : List V → Hp → VK → Prop := fun xs H Q => cls = .ref D ∧ ∃ (dd : Addr) (fs : List (Str × V)) (c : V) (cv : Value) (b : Bool), d = some dd ∧ H dd = some (.xd fs) ∧ xs = [.ref a, c] ∧ (∀ u, L2.RelV c u → u = cv) ∧ PySem.W.kitOne K (.ref D) cv = some b ∧ Q (.bl b) H
theorem call_isX {X : Cx} {a D : Addr} {oe : Obj} {cls : Value} {d : Option Addr} {pn : List (Addr × Obj)} (C : ExcC X.K D) (hz : Zc cls d oe) (hf : ∃ vs, oe.data = .fields vs) : CallR (X.suite a ((a, oe) :: pn)) (.builtin "isinstance") (rIsXd X.K D a cls d) := by
  intro pins s σ H xs us Q I r h
  obtain ⟨rfl, dd, fs, c, cv, b, rfl, hd, rfl, hcv, e, q⟩ := h
  obtain ⟨u1, u2, rfl, ra, rb⟩ := r.two
  cases ra
  have := hcv _ rb
  subst this
  have hget := (I.pin (a, oe) (List.mem_append_left _ List.mem_cons_self)).1
  obtain ⟨vs, hv⟩ := hf
  have hx : ObjOk X.prog X.w H s.heap dd (.xd fs) := I.hok dd _ hd
  obtain ⟨mA, hns, _⟩ := hx
  obtain ⟨od, ho, _⟩ := lookIn_ns hns
  have J : PySem.W.InstAt s.heap a oe D (some od) := ⟨hget, hz.1, by unfold PySem.W.notCls; rw [hv] <;> rfl, by rw [hz.2]; exact ho⟩
  have hcl : (PySem.W.clsIn X.K D).isSome = true := by obtain ⟨cd, hc, _⟩ := PySem.W.any_some C.hd; rw [hc]; rfl
  exact PySem.W.kia_one (PySem.W.kitx_exc hcl C.hg C.hk C.hs C.ha C.hn C.ht C.hm) I.kIn J e (fun z => nomatch z) fun tk => ⟨.bl b, H, I.kept (t' := tk) fun _ _ z => z, rfl, q⟩
end Aq
/-! repr of data; defs that are promised only where no repr is under way -/
namespace Aq
open PySem PySem.Spec PyProof.Rows L2 Evl
/-! ### texts of plain signs -/
def As (z : Str) : Prop := ∀ c ∈ z.cps.toList, c < 128
theorem As.so {z : Str} (h : As z) : PyData.strOk z = true := by
  unfold PyData.strOk
  rw [Array.all_eq_true_iff_forall_mem]
  intro c hc
  have := h c (by simpa using hc)
  exact decide_eq_true (by omega)
theorem As.app {x y : Str} (hx : As x) (hy : As y) : As (x ++ y) := by
  intro c hc
  rw [app_cps] at hc
  exact (List.mem_append.mp hc).elim (hx c) (hy c)
theorem As.cut {z : Str} (h : As z) (lo hi : Option Int) : As (cutS z lo hi) := by
  intro c hc
  unfold cutS at hc
  exact h c (List.mem_of_mem_drop (List.mem_of_mem_take hc))
theorem As.one {d : Nat} (h : d < 128) : As ⟨#[d]⟩ := by
  intro c hc
  rw [one_cps, List.mem_singleton] at hc
  omega
theorem As.upper {z : Str} (h : As z) : As (Txt.upper z) := by
  rw [PyProof.Rows.upper_ascii h]
  intro c hc
  have hc : c ∈ (z.cps.map PyProof.Rows.up1).toList := hc
  rw [Array.toList_map] at hc
  obtain ⟨d, hd, rfl⟩ := List.mem_map.mp hc
  have := h d hd
  unfold PyProof.Rows.up1
  split <;> omega
theorem as_of {z : Str} (h : z.cps.toList.all (fun c => decide (c < 128)) = true) : As z := fun c hc => of_decide_eq_true (List.all_eq_true.mp h c hc)
/-! ### the size of a shown value -/
/-- d can be shown, its depth is at most k, its text has at most n signs -/
structure ShN (d : PyData) (k n : Nat) : Prop where
  s : d.showable = true
  h : d.hasDict = false
  dp : d.depth ≤ k
  l : d.shown.length ≤ n
theorem ShN.mono {d : PyData} {k n k' n' : Nat} (z : ShN d k n) (h1 : k ≤ k') (h2 : n ≤ n') : ShN d k' n' := ⟨z.s, z.h, Nat.le_trans z.dp h1, Nat.le_trans z.l h2⟩
theorem sh_none : ShN .none 1 5 := ⟨rfl, rfl, by simp [PyData.depth], by decide +kernel⟩
theorem sh_bool (b : Bool) : ShN (.bool b) 1 5 := ⟨rfl, rfl, by simp [PyData.depth], by cases b <;> decide +kernel⟩
theorem sh_int {i : Int} (h : i.natAbs.log2 < 1000) : ShN (.int i) 1 1001 := by
  refine ⟨?_, rfl, by simp [PyData.depth], ?_⟩
  · simp only [PyData.showable]; exact decide_eq_true (by omega)
  · have hl := int_text_length_le (k := 1000) (by decide) h
    simp only [PyData.shown]
    rw [PySem.ofString_length]; exact hl
theorem sh_str {x : Str} (h : PyData.strOk x = true) : ShN (.str x) 1 (10 * x.length + 2) := by
  refine ⟨rfl, rfl, by simp [PyData.depth], ?_⟩
  simp only [PyData.shown]
  refine StrLaws.reprText_len x fun c hc => ?_
  unfold PyData.strOk at h
  have := Array.all_eq_true_iff_forall_mem.mp h c (by simpa using hc)
  have := of_decide_eq_true this
  omega
inductive ShAll (k n : Nat) : List PyData → Prop
  | nil : ShAll k n []
  | cons {d : PyData} {ds : List PyData} : ShN d k n → ShAll k n ds → ShAll k n (d :: ds)
theorem ShAll.of {k n : Nat} : ∀ {ds : List PyData}, (∀ d ∈ ds, ShN d k n) → ShAll k n ds
  | [], _ => .nil
  | d :: ds, h => .cons (h d (List.mem_cons_self ..)) (ShAll.of fun x hx => h x (List.mem_cons_of_mem _ hx))
theorem ShAll.facts {k n : Nat} : ∀ {ds : List PyData}, ShAll k n ds → PyData.showableAll ds = true ∧ PyData.hasDictAll ds = false ∧ PyData.depthAll ds ≤ k ∧ piled (PyData.shownAll ds) ≤ ds.length * (n + 2)
  | [], _ => ⟨by simp [PyData.showableAll], by simp [PyData.hasDictAll], by simp [PyData.depthAll], by simp [PyData.shownAll, piled_nil]⟩
  | d :: ds, .cons a b => by
    obtain ⟨h1, h2, h3, h4⟩ := b.facts
    refine ⟨by simp [PyData.showableAll, a.s, h1], by simp [PyData.hasDictAll, a.h, h2], ?_, ?_⟩
    · simp only [PyData.depthAll]
      have := a.dp
      omega
    · simp only [PyData.shownAll]
      rw [piled_cons]
      have := a.l
      rw [List.length_cons, Nat.succ_mul]
      omega
theorem listText_le (ts : List Str) : (listText ts).length ≤ piled ts + 2 := by
  unfold listText
  rw [strLen_append]
  have e1 : (("]" : String) : Str).length = 1 := rfl
  cases ts with
  | nil => show ((("[" : String) : Str)).length + _ ≤ _; have : ((("[" : String) : Str)).length = 1 := rfl; rw [e1, this]; omega
  | cons t r =>
    show (textFrom 1 _ r).length + _ ≤ _
    rw [textFrom_length_pos r 1 _ (by decide), strLen_append, strLen_append, e1, piled_cons]
    have h1 : ((("[" : String) : Str)).length = 1 := rfl
    have h2 : (((if (0 : Nat) > 0 then ", " else "" : String)) : Str).length = 0 := rfl
    omega
theorem tupleText_le (ts : List Str) : (tupleText ts).length ≤ piled ts + 3 := by
  unfold tupleText
  rw [strLen_append, strLen_append]
  have e1 : ((("(" : String) : Str)).length = 1 := rfl
  have e3 : (((if ts.length == 1 then ",)" else ")" : String) : Str)).length ≤ 2 := by split <;> decide +kernel
  have : (Str.join (", " : Str) ts).length ≤ piled ts := by
    by_cases h : ts = []
    · subst h; decide +kernel
    · have := join_length_add ts h
      omega
  omega
theorem sh_list {ds : List PyData} {k n m : Nat} (a : ShAll k n ds) (hm : ds.length ≤ m) : ShN (.list ds) (k + 1) (m * (n + 2) + 2) := by
  obtain ⟨h1, h2, h3, h4⟩ := a.facts
  refine ⟨by simp [PyData.showable, h1], by simp [PyData.hasDict, h2], by simp only [PyData.depth]; omega, ?_⟩
  simp only [PyData.shown]
  have := listText_le (PyData.shownAll ds)
  have := Nat.mul_le_mul_right (n + 2) hm
  omega
theorem sh_tuple {ds : List PyData} {k n m : Nat} (a : ShAll k n ds) (hm : ds.length ≤ m) : ShN (.tuple ds) (k + 1) (m * (n + 2) + 3) := by
  obtain ⟨h1, h2, h3, h4⟩ := a.facts
  refine ⟨by simp [PyData.showable, h1], by simp [PyData.hasDict, h2], by simp only [PyData.depth]; omega, ?_⟩
  simp only [PyData.shown]
  have := tupleText_le (PyData.shownAll ds)
  have := Nat.mul_le_mul_right (n + 2) hm
  omega
theorem sh_strs {ws : List Str} {k m : Nat} (so : ∀ x ∈ ws, PyData.strOk x = true) (hl : ∀ x ∈ ws, x.length ≤ k) : ShAll 1 (10 * k + 2) (ws.map PyData.str) := by
  refine .of fun d hd => ?_
  obtain ⟨x, hx, rfl⟩ := List.mem_map.mp hd
  have := hl x hx
  exact (sh_str (so x hx)).mono (Nat.le_refl _) (by omega)
theorem log2_lt {i : Nat} (h : i < 2 ^ 40) : i.log2 < 1000 := by
  by_cases z : i = 0
  · subst z; decide
  · exact (Nat.log2_lt z).mpr (Nat.lt_trans h (Nat.pow_lt_pow_right (by decide) (by decide)))
theorem fmt_nat {i : Nat} (h : i < 2 ^ 40) : Fmt (.int (i : Nat)) := .inr ⟨i, rfl, log2_lt h⟩
/-- raise C(..) -/
theorem rd_mkO {C : Addr} {sp : Sp} {dvs : List V} {ta : TA} {σ : L2.St} {H : Hp} {Q : XK} (h : ta σ H fun vs H1 => vs.length ≤ 1000 ∧ ∀ x, H1 x = none → sp (.ref x :: (vs ++ dvs)) (upd H1 x (exo x C none)) (fun v H2 => v = .non ∧ ∃ (d : Addr) (fs : List (Str × V)), H2 x = some (exo x C (some d)) ∧ H2 d = some (exd d fs) ∧ H1 d = none ∧ Q (.ref C) (some d) (upd (del H2 x) d (.xd fs))) (fun _ _ _ => False)) : tMkO C sp dvs ta σ H Q := h
/-- xs + ys, lists -/
theorem rd_cat {l1 l2 : Addr} {xs ys : List V} {H : Hp} {Q : VK} (h1 : H l1 = some (.lst xs)) (h2 : H l2 = some (.lst ys)) (hl : xs.length + ys.length ≤ 100000) (q : ∀ p H', H p = none → Ex H H' → H' p = some (.lst (xs ++ ys)) → Q (.ref p) H') : rCat (.ref l1) (.ref l2) H Q :=
  ⟨l1, l2, xs, ys, rfl, rfl, h1, h2, Nat.le_trans hl (by decide), rd_new q⟩
/-! ### repr(v) -/
def rRepr (K : PySem.W.Frag) : List V → Hp → VK → Prop := fun xs H Q => ∃ (v : V) (d : PyData), xs = [v] ∧ Dp K H v d ∧ ShN d 40 1000000 ∧ Q (.str d.shown) H
section
variable {X : Cx}
theorem call_reprD (hg : X.A.guards = some []) (hu : X.A.units + 64 < cLine) : CallR X (.builtin "repr") (rRepr X.K) := by
  intro pins s σ H xs us Q I r h
  obtain ⟨v, d, rfl, hd, sh, q⟩ := h
  obtain ⟨u, rfl, ru⟩ := r.one
  obtain ⟨as, rd⟩ := Dp.reads I d v u hd ru
  have sz : d.shown.length ≤ sizeLine := Nat.le_trans sh.l (by decide)
  have dp := sh.dp
  have one : ∀ (h' : Heap) (t tk : Tok), (∀ b o, s.heap.get? b = some o → h'.get? b = some o) → EP X pins σ Q (.str d.shown t) { s with heap := h', toks := tk } := fun h' t tk kp => ⟨.str d.shown, H, I.kept (t' := tk) kp, ⟨t, rfl⟩, q⟩
  have flat : ∀ (t tk : Tok), EP X pins σ Q (.str d.shown t) { s with toks := tk } := fun t tk => one s.heap t tk fun _ _ z => z
  cases hd with
  | non => cases ru; exact P.repr_of_none (flat _ _)
  | bl b => cases ru; exact P.repr_of_bool (flat _ _)
  | int i =>
    obtain ⟨t, rfl⟩ := ru
    refine P.repr_of_int ?_ (flat _ _)
    have := sh.s
    simp only [PyData.showable] at this
    exact of_decide_eq_true this
  | str x => obtain ⟨t, rfl⟩ := ru; exact P.repr_of_str (flat _ _) sz
  | lst _ _ => cases ru; exact repr_of_reads' rd sh.s (PyData.noDict_hsm sh.h) hg (by omega) (fun _ _ z => z) one sz
  | tup _ _ => cases ru; exact repr_of_reads' rd sh.s (PyData.noDict_hsm sh.h) hg (by omega) (fun _ _ z => z) one sz
theorem rd_repr {K : PySem.W.Frag} {H : Hp} {v : V} {d : PyData} {Q : VK} (h : Dp K H v d) (s : ShN d 40 1000000) (q : Q (.str d.shown) H) : rRepr K [v] H Q := ⟨v, d, rfl, h, s, q⟩
end
theorem units65 {k : Nat} {A : Around} (r : Room k A) : A.units + 65 < cLine := by have := r.un; omega
section
variable {X : Cx}
theorem call_reprDK {K : PySem.W.Frag} (hg : X.A.guards = some []) (hu : X.A.units + 64 < cLine) (hK : X.K = K := by rfl) : CallR X (.builtin "repr") (rRepr K) := hK ▸ call_reprD hg hu
theorem op_inDK {K : PySem.W.Frag} (hu : X.A.units + 65 < cLine) (hK : X.K = K := by rfl) : OpR X (compareOp .In) (rInD K) := hK ▸ op_inD hu
theorem op_notInDK {K : PySem.W.Frag} (hu : X.A.units + 65 < cLine) (hK : X.K = K := by rfl) : OpR X (compareOp .NotIn) (rNotInD K) := hK ▸ op_notInD hu
theorem op_eqDK {K : PySem.W.Frag} (hu : X.A.units + 64 < cLine) (hK : X.K = K := by rfl) : OpR X (compareOp .Eq) (rEqD K) := hK ▸ op_eqD hu
theorem op_neDK {K : PySem.W.Frag} (hu : X.A.units + 64 < cLine) (hK : X.K = K := by rfl) : OpR X (compareOp .NotEq) (rNeD K) := hK ▸ op_neD hu
end
/-! ### defs promised where no repr is under way -/
structure FnOkG (P : Program) (w : World) (K : PySem.W.Frag) (mg : Str → Option Value) (base : Heap) (CX : CXT) (k : Nat) (f : Addr) (fd : FuncData) (ps : List Str) (sp : Sp) : Prop where
  len : ∀ vs H Q E, sp vs H Q E → vs.length = ps.length
  run : ∀ (A : Around) (outer : List Env) (s : Shared) (H : Hp) (args : Args) (us : List Value) (vs : List V) (Q : VK) (E : XK), A.guards = some [] → Room k A → Env0 P w K mg base A outer s H → BindsTo s fd args (ps.zip us) → Vals vs us → sp vs H Q E →
    codeAny (model P w) A (.call (.ref f) args) (CR CX outer P w H s Q E) s
section
variable {P : Program} {w : World} {K : PySem.W.Frag} {mg : Str → Option Value} {base : Heap} {CX : CXT} {k : Nat} {f : Addr} {fd : FuncData} {ps : List Str} {sp : Sp}
theorem fnG (F : FnOk P w K mg base CX k f fd ps sp) : FnOkG P w K mg base CX k f fd ps sp := ⟨F.len, fun A outer s H args us vs Q E _ => F.run A outer s H args us vs Q E⟩
theorem okG {x qual : Str} {st : Stmt} {N : List Str} (F : Fun K x qual st f fd) (S : FnScope N ps (defScope st)) (len : ∀ vs H Q E, sp vs H Q E → vs.length = ps.length)
    (body : ∀ (cdv : Value) (A : Around) (outer : List Env) (s : Shared) (H : Hp) (vs : List V) (Q : VK) (E : XK), (A.deeper (envOfC qual (defScope st) s.heap.objs.size f cdv)).guards = some [] → Room k (A.deeper (envOfC qual (defScope st) s.heap.objs.size f cdv)) → sp vs H Q E →
      ∃ t, PSs (cxOf CX P w K mg base N qual (defScope st) f cdv A outer s H E) (defBody st) t ∧ t { nx := fun _ H' => Q .non H', rt := Q } (start N vs) H) : FnOkG P w K mg base CX (k + 1) f fd ps sp := by
  obtain ⟨c0, c1, c2, c3, c4, c5, cdv, c7, c8, rfl, lk, code⟩ := F.ex
  constructor
  · exact len
  intro A outer s H args us vs Q E gd room e0 bind rel hs
  have old : ∀ b o, base.get? b = some o → s.heap.get? b = some o := fun b o z => (e0.bs b o z).1
  have kin : K.In s.heap := e0.mod.kin.keeps old
  have kinds : ∀ y ∈ ps.zip us, (defScope st).names.lookup y.1 = some .local ∨ ((defScope st).names.lookup y.1 = some .cell ∧ ((cellsFrom (s.heap.objs.size + 1) (defScope st).names []).lookup y.1).isSome = true) := by
    rintro ⟨n, v⟩ hy
    exact (S.par n (List.of_mem_zip hy).1).imp id fun z => ⟨z, PySem.W.cellsFrom_some _ _ _ (.inl z)⟩
  obtain ⟨t, ht, hq⟩ := body cdv A outer s H vs Q E gd (room.deeper _) hs
  refine codeAny_call_function room.depth (kin _ _ lk) rfl S.co S.gen rfl (PySem.W.codeRec_of kin code) (bind _ _ _ _ (wpAny_newFunctionEnv_cells S.kind kinds ?_))
  intro env he s1 inn
  cases he
  refine ⟨(e0.mod.nolimit.keeps old).keeps inn.toInCall.keep, codeAny_func (wpAny_mono (ht.run [] s1 _ H _ (inv_start S room.hd e0 (len _ _ _ _ hs) rel inn) hq) ?_ fun e s' z => z)⟩
  intro fl s' z
  cases fl with
  | ret u => obtain ⟨v, _, H', J, rv, q⟩ := z; exact ⟨v, H', J.os, J.bare, J.base, J.hok, rv, q⟩
  | next => obtain ⟨_, H', J, q⟩ := z; exact ⟨.non, H', J.os, J.bare, J.base, J.hok, rfl, q⟩
  | brk => obtain ⟨_, _, _, q⟩ := z; exact q.elim
  | cont => obtain ⟨_, _, _, q⟩ := z; exact q.elim
/-- the same for a def that lets nothing out -/
theorem okG0 {x qual : Str} {st : Stmt} {N : List Str} (F : Fun K x qual st f fd) (S : FnScope N ps (defScope st)) (len : ∀ vs H Q E, sp vs H Q E → vs.length = ps.length)
    (body : ∀ (cdv : Value) (A : Around) (outer : List Env) (s : Shared) (H : Hp) (vs : List V) (Q : VK) (E : XK), (A.deeper (envOfC qual (defScope st) s.heap.objs.size f cdv)).guards = some [] → Room k (A.deeper (envOfC qual (defScope st) s.heap.objs.size f cdv)) → sp vs H Q E →
      ∃ t, PSs (cxOf CX0 P w K mg base N qual (defScope st) f cdv A outer s H E).nox (defBody st) t ∧ t { nx := fun _ H' => Q .non H', rt := Q } (start N vs) H) : FnOkG P w K mg base CX0 (k + 1) f fd ps sp :=
  okG F S len fun cdv A outer s H vs Q E gd hr hs => let ⟨t, h, q⟩ := body cdv A outer s H vs Q E gd hr hs; ⟨t, h.nox, q⟩
end
/-- a def in one word -/
structure CalG (P : Program) (w : World) (K : PySem.W.Frag) (mg : Str → Option Value) (base : Heap) (k : Nat) (x : Str) (ps : List Str) (sp : Sp) : Prop where
  ex : ∃ (f : Addr) (fd : FuncData), FnOkG P w K mg base CX0 k f fd ps sp ∧ mg x = some (.ref f) ∧ PySem.W.keepIn K (.ref f) = true ∧ Binds K fd ps []
section
variable {X : Cx} {k j : Nat} {x : Str} {ps : List Str} {sp : Sp} {e : Expr} {es : List Expr} {t : TA} {p pos : Pos}
theorem pe_callG (gd : X.A.guards = some []) (c : CalG X.prog X.w X.K X.mg X.base k x ps sp) (hr : Room j X.A) (ha : PA X (e :: es) t) (hk : k ≤ j := by decide) (hg : Gl X x := by rfl) (hdb : (x == ("__debug__" : Str)) = false := by decide)
    (he : starEach (e :: es) X.env = (false, eval e X.env) :: starEach es X.env := by rfl) (hpl : (backTo pos (starEach es X.env)).any (·.1) = false := by rfl) : PE X (.Call (.Name x p) (e :: es) [] pos) (tCall sp [] E0 t) := by
  obtain ⟨f, fd, F, hm, kp, b⟩ := c.ex
  refine ⟨fun pins s σ H Q I h => wpAny_Call_Name_kw (ld_glob I hg hm (PySem.W.callWith_K (h₀ := X.base) I.ok.mod.kin kp (thn (ha.run pos pins s σ H _ I h) fun us s1 ⟨vs, H1, I1, r, q⟩ => ⟨I1.kIn, ?_⟩) he hpl) hdb)⟩
  have q : sp vs H1 Q E0 := by have z : sp (vs ++ []) H1 Q E0 := q; rw [List.append_nil] at z; exact z
  have hl := r.length.symm.trans (F.len _ _ _ _ q)
  have hb := b s1 us I1.kIn (by simpa using hl)
  rw [List.append_nil] at hb
  refine wpAny_call (codeAny_mono (F.run X.A X.stack s1 H1 ⟨us, []⟩ us vs Q E0 gd (hr.mono hk) I1.env0 hb r q) fun out s' hq => ?_)
  match out, hq with
  | .error e, hq => exact pass0 pins σ H1 s1 e s' I1 hq
  | .ok (.ret u), hq => exact I1.after hq
  | .ok .next, hq => exact hq.elim
  | .ok .brk, hq => exact hq.elim
  | .ok .cont, hq => exact hq.elim
end
/-! ### the end of a law whose def is promised so -/
theorem endG {P : Program} {w : World} {K : PySem.W.Frag} {mg mb : Str → Option Value} {k : Nat} {fa a : Addr} {fd : FuncData} {x : Str} {sp : Sp} {s1 : Shared} {vs : List Value} {ns : List Int}
    (KX : K.In s1.heap) (hns : s1.heap.Ns mainGlobals mg) (hb : s1.heap.Ns builtinsNs mb) (hbb : ∀ x : Str, x ≠ "__name__" → mb x = bootBuiltins x) (hlim : s1.heap.NoLimit) (hg : s1.gens = #[])
    (ha : s1.heap.get? a = some { cls := .type "list", data := .seq vs.toArray }) (hi : IntsAre vs ns) (hl : ns.length ≤ sizeLine) (hr : Room k callerA)
    (F : ∀ base : Heap, K.In base → base.Ns mainGlobals mg → FnOkG P w K mg base CX0 k fa fd [x] sp) (hbind : ∀ (s : Shared) (u : Value), BindsTo s fd ⟨[u], []⟩ [(x, u)])
    (hsp : ∀ H : Hp, Only H → SqL K H a (ns.map V.int) → sp [.ref a] H (fun v _ => v = .bl true) fun _ _ _ => False) :
    codeAny (model P w) callerA (.call (.ref fa) ⟨[.ref a], []⟩) (fun r s' => r = .ok (.ret (.bool true)) ∧ OldK s1.heap s'.heap ∧ s'.os = s1.os ∧ AllBare s'.gens) s1 := by
  have rel := vals_ints hi
  have big : (ns.map V.int).length ≤ sizeLine := by rw [List.length_map]; exact hl
  obtain ⟨H, only, sq, hok, isA, notK⟩ : ∃ H : Hp, Only H ∧ SqL K H a (ns.map V.int) ∧ HOk P w H s1.heap ∧ (∀ b, H b ≠ none → b = a) ∧ (H a ≠ none → K.lookup a = none) := by
    cases hk : K.lookup a with
    | some o =>
      have e := KX a o hk
      rw [ha] at e
      cases e
      exact ⟨fun _ => none, fun _ => .inl rfl, .inr ⟨_, vs.toArray, _, hk, rfl, rfl, rfl, by rw [List.size_toArray, hi.length]; exact hl, by simpa using rel⟩, (fun b u (z : (none : Option HO) = some u) => nomatch z), fun b z => absurd rfl z, fun z => absurd rfl z⟩
    | none =>
      refine ⟨fun b => if b = a then some (.frz { cls := .type "list", data := .seq vs.toArray } (.lst (ns.map V.int))) else none, fun b => ?_, .inl (.inr ⟨_, if_pos rfl⟩), fun b u z => ?_, fun b z => ?_, fun _ => rfl⟩
      · exact (Classical.em (b = a)).elim (fun e => .inr ⟨_, _, if_pos e⟩) fun e => .inl (if_neg e)
      · by_cases e : b = a
        · cases (if_pos e).symm.trans z; subst e; exact ⟨ha, big, vs, _, rel, ha⟩
        · cases (if_neg e).symm.trans z
      · exact Classical.byContradiction fun e => z (if_neg e)
  have hid : ∀ {b : Addr} {m : Str → Option Value}, s1.heap.Ns b m → (hidT s1.heap H).Ns b m := by
    rintro b m ⟨o, es, ep, e, d, r⟩
    refine ⟨o, es, ep, hidT_get e ?_, d, r⟩
    cases q : H b with
    | none => rfl
    | some u =>
      have eb := isA b (by rw [q]; exact nofun)
      rw [eb, ha] at e
      cases e
      cases d
  have kin : K.In (hidT s1.heap H) := by
    intro b o e
    refine hidT_get (KX b o e) ?_
    cases q : H b with
    | none => rfl
    | some u =>
      have eb := isA b (by rw [q]; exact nofun)
      subst eb
      rw [notK (by rw [q]; exact nofun)] at e
      cases e
  have mod : Mod K mg (hidT s1.heap H) := ⟨kin, hid hns, ⟨mb, hid hb, hbb⟩, let ⟨mc, q1, q2⟩ := hlim; ⟨mc, hid q1, q2⟩⟩
  have e0 : Env0 P w K mg (hidT s1.heap H) callerA [] s1 H := ⟨rfl, mod, fun b o e => of_hidT e, Nat.le_of_eq (hidT_size _ _), trivial, nofun, hok, .of_eq hg⟩
  refine codeAny_mono ((F _ kin (hid hns)).run callerA [] s1 H _ [.ref a] [.ref a] _ _ rfl hr e0 (hbind s1 (.ref a)) (.cons rfl .nil) (hsp H only sq)) fun out s' z => ?_
  match out, z with
  | .error e, z => exact z.elim
  | .ok .next, z => exact z.elim
  | .ok .brk, z => exact z.elim
  | .ok .cont, z => exact z.elim
  | .ok (.ret u), ⟨v, H', os, bare, un, hok', rv, (q : v = .bl true)⟩ =>
    subst q
    cases rv
    refine ⟨rfl, OldK.of_keep fun b o e => ?_, os, bare⟩
    rcases only b with hn | ⟨ob, xs, hn⟩
    · exact un.keep b o e hn nofun nofun
    · have st := un.frzs b ob _ hn
      obtain ⟨e1, _⟩ := hok b _ hn
      obtain ⟨e2, _⟩ := hok' b _ st
      rw [e] at e1
      cases e1
      exact e2
theorem walkG {l : PySem.W.OpenLaw} {n k : Nat} {q : Program} {loose : List Str} {XP : (Str → Option Value) → Heap → Prop} {YP : World → Heap → Prop} {d : DefRec} {K : Params → PySem.W.Frag} {sp : PySem.W.Frag → Sp} {x : Str}
    (hn : l.most = some n) (hn2 : n ≤ sizeLine) (hdf : d.params.defaults = []) (hr : Room k callerA) (hY : ∀ (w : World) (h : Heap), YP w h → (K w.params).In h)
    (F : ∀ (w : World) (mg : Str → Option Value) (fa : Addr) (h : Heap), (K w.params).In h → h.Ns mainGlobals mg → mg d.name = some (.ref fa) →
      ∃ fd : FuncData, (∀ (s : Shared) (u : Value), BindsTo s fd ⟨[u], []⟩ [(x, u)]) ∧ ∀ base : Heap, (K w.params).In base → base.Ns mainGlobals mg → FnOkG l.prog w (K w.params) mg base CX0 k fa fd [x] (sp (K w.params)))
    (hsp : ∀ (K : PySem.W.Frag) (H : Hp) (a : Addr) (ns : List Int), ns.length ≤ n → Only H → SqL K H a (ns.map V.int) → sp K [.ref a] H (fun v _ => v = .bl true) fun _ _ _ => False) :
    PySem.W.WalkO q loose XP YP l.row.toRowW d [] (fun f vs => PySem.call f vs) :=
  Att.attach_call hn hdf fun w _ _ mg _ fa _ _ _ _ _ _ _ G Y _ _ _ hmg hobj hints hlen hg =>
    let ⟨_, hb, hF⟩ := F w mg fa _ (hY w _ Y) G.T.g hmg
    endG (hY w _ Y) G.T.g G.T.b G.T.builtins G.T.nolimit hg hobj hints (Nat.le_trans hlen hn2) hr hF hb fun H hO hS => hsp (K w.params) H _ _ hlen hO hS
end Aq
/-! own methods called by built-ins: len -/
namespace Aq
open PySem PySem.Spec PyProof.Rows L2 Evl
theorem rd_bm0 {K : PySem.W.Frag} {T : String} {r : V → List V → Hp → VK → Prop} {ta : TE} {σ : L2.St} {H : Hp} {Q : VK} (h : ta σ H fun x H1 => tyV K T x H1 ∧ r x [] H1 Q) : tBM0 K T r ta σ H Q := h
theorem rd_revL {K : PySem.W.Frag} {ta : TE} {σ : L2.St} {H : Hp} {Q : VK} (h : ta σ H fun x H1 => ∃ a xs, x = .ref a ∧ SqL K H1 a xs ∧ ∀ p, H1 p = none → Q (.ref p) (upd H1 p (.lst xs.reverse))) : tRevL K ta σ H Q := h
/-- a, b = .. as a comprehension's target -/
theorem pg_tupK {X : Cx} {K : PySem.W.Frag} {es : List Expr} {k n : Nat} {t : TGs} {pos : Pos} (hc : X.calm = true) (h : PGs X es t) (hn : (assignEach es X.env).length = n := by rfl) (hst : (assignEach es X.env).findIdx? (·.1) = none := by rfl) (hK : X.K = K := by rfl) : PG X (.Tuple es k pos) (gTup K n t) := hK ▸ pg_tup hc h hn hst
section
variable {X : Cx} {k j : Nat} {C : Addr} {ps : List Str} {sp : Sp}
/-- an own def called one unit deeper -/
theorem run_in1 {pins : List (Addr × Obj)} {σ : L2.St} {H : Hp} {s : Shared} {Q : VK} {f : Addr} {fd : FuncData} {us : List Value} {vs : List V} (F : FnOk X.prog X.w X.K X.mg X.base CX0 k f fd ps sp) (hr : Room (k + 1) X.A) (b : Binds X.K fd ps [])
    (I : Inv X pins σ H s) (r : Vals vs us) (h : sp vs H Q E0) : wpAny (model X.prog X.w) X.A.in1 (call (.ref f) us) (fun v s' => EP X pins σ Q v s') X.xe s := by
  have e := I.env0
  have e0 : Env0 X.prog X.w X.K X.mg X.base X.A.in1 X.stack s H := ⟨e.frames, e.mod, e.bs, e.bsz, e.funs, e.frf, e.hok, e.bare⟩
  have hl := r.length.symm.trans (F.len _ _ _ _ h)
  have hb := b s us I.kIn (by simpa using hl)
  rw [List.append_nil] at hb
  refine wpAny_call (codeAny_mono (F.run X.A.in1 X.stack s H ⟨us, []⟩ us vs Q E0 hr.in1 e0 hb r h) fun out s' hq => ?_)
  match out, hq with
  | .error e, hq => exact pass0 pins σ H s e s' I hq
  | .ok (.ret u), hq => exact I.after hq
  | .ok .next, hq => exact hq.elim
  | .ok .brk, hq => exact hq.elim
  | .ok .cont, hq => exact hq.elim
def rLenOwn (C : Addr) (sp : Sp) : List V → Hp → VK → Prop := fun xs H Q => ∃ a dx fs, xs = [.ref a] ∧ H a = some (.ins C dx fs) ∧ sp [.ref a] H (fun v H' => ∃ n : Nat, v = .int (n : Nat) ∧ n < 2 ^ 60 ∧ Q (.int (n : Nat)) H') E0
theorem call_lenOwn (c : Mth X.prog X.w X.K X.mg X.base k C "__len__" ps sp) (hr : Room j X.A) (hk : k + 1 ≤ j := by decide) : CallR X (.builtin "len") (rLenOwn C sp) := by
  intro pins s σ H xs us Q I r h
  obtain ⟨f, fd, M, F, b⟩ := c.ex
  obtain ⟨a, dx, fs, rfl, ha, h⟩ := h
  obtain ⟨u, rfl, ru⟩ := r.one
  cases ru
  obtain ⟨mA, J, _⟩ := ins_get I.hok ha
  obtain ⟨od, J, _⟩ := J.look
  obtain ⟨m, hF⟩ := I.fr
  refine PySem.W.len_K hF I.ok.mod.kin J M.at_ M.fn (wpAny_mono (run_in1 F (hr.mono hk) b I (show Vals [V.ref a] [Value.ref a] from .cons rfl .nil) h) (fun v s' z => ?_) fun _ _ e => e)
  obtain ⟨x, H', I', rx, n, rfl, hn, q⟩ := z
  obtain ⟨t, rfl⟩ := rx
  exact ⟨⟨by omega, by omega⟩, .int (n : Nat), H', I'.tok _, ⟨_, rfl⟩, q⟩
end
/-! C(e, .., k = v, ..) of a class that may raise -/
structure CtrN (P : Program) (w : World) (K : PySem.W.Frag) (mg : Str → Option Value) (base : Heap) (k : Nat) (x : Str) (C : Addr) (n : Nat) (ps ks : List Str) (gV : List V → List V → List V) (sp : Sp) : Prop where
  ex : ∃ (f : Addr) (fd : FuncData) (g : List Value → List Value → List Value), Mk K C f ∧ FnOk P w K mg base (L2.CX P w) k f fd ps sp ∧ mg x = some (.ref C) ∧ KBn K fd ps (n + 1) ks g gV
section
variable {X : Cx} {k j n : Nat} {x : Str} {C : Addr} {ps ks : List Str} {sp : Sp} {gV : List V → List V → List V} {e : Expr} {es : List Expr} {kws : List Keyword} {t tk : TA} {p pos : Pos}
theorem pe_makeNX0 (c : CtrN X.prog X.w X.K X.mg X.base k x C n ps ks gV sp) (hr : Room j X.A) (ha : PA X (e :: es) t) (hkw : PK X kws tk) (hk : k + 1 ≤ j := by decide) (hg : Gl X x := by rfl)
    (hall : (backToKw pos (keywordEach kws X.env)).all (·.1.isSome) = true := by rfl) (hks : (backToKw pos (keywordEach kws X.env)).filterMap (·.1) = ks := by rfl)
    (hdb : (x == ("__debug__" : Str)) = false := by decide) (he : starEach (e :: es) X.env = (false, eval e X.env) :: starEach es X.env := by rfl)
    (hpl : ((backTo pos (starEach (e :: es) X.env)).any (·.1) || (backToKw pos (keywordEach kws X.env)).any (·.1.isNone)) = false := by rfl) : PE X (.Call (.Name x p) (e :: es) kws pos) (tMakeN C n ks.length sp gV E0 t tk) := by
  obtain ⟨f, fd, g, M, F, hm, b⟩ := c.ex
  exact pe_makeN M F (hr.mono hk) hg hm b passX0 ha hkw hall hks hdb he hpl
end
end Aq
/-! runs: pairs of a letter and a count, as they stand in lists and tuples -/
namespace Aq
open PySem PySem.Spec PyProof.Rows L2 Evl
/-- tuples stay -/
def Kt (H H' : Hp) : Prop := ∀ a, (∀ xs, H a = some (.tup xs) → H' a = some (.tup xs)) ∧ (∀ o xs, H a = some (.frz o (.tup xs)) → H' a = some (.frz o (.tup xs)))
theorem Kt.refl (H : Hp) : Kt H H := fun _ => ⟨fun _ h => h, fun _ _ h => h⟩
theorem Kt.trans {H H1 H2 : Hp} (x : Kt H H1) (y : Kt H1 H2) : Kt H H2 := fun a => ⟨fun xs h => (y a).1 xs ((x a).1 xs h), fun o xs h => (y a).2 o xs ((x a).2 o xs h)⟩
theorem Kt.of {H H' : Hp} (e : Ex H H') : Kt H H' := fun a => ⟨fun _ h => e _ _ h, fun _ _ h => e _ _ h⟩
theorem Kt.kx {H H' : Hp} {pd : Addr} {kvs : List (Key × V)} (e : Kx pd H H') (hd : H pd = some (.dK kvs)) : Kt H H' := fun a =>
  ⟨fun _ h => e _ _ (ne_of h hd (by intro z; cases z)) h, fun _ _ h => e _ _ (ne_of h hd (by intro z; cases z)) h⟩
theorem Kt.lst {H : Hp} {l : Addr} {xs : List V} {o : HO} (hl : H l = some (.lst xs)) : Kt H (upd H l o) := fun a =>
  ⟨fun _ h => by rw [upd_ne (ne_of h hl (by intro z; cases z))]; exact h, fun _ _ h => by rw [upd_ne (ne_of h hl (by intro z; cases z))]; exact h⟩
theorem Kt.ins {H : Hp} {l C dx : Addr} {fs : List (Str × V)} {o : HO} (hl : H l = some (.ins C dx fs)) : Kt H (upd H l o) := fun a =>
  ⟨fun _ h => by rw [upd_ne (ne_of h hl (by intro z; cases z))]; exact h, fun _ _ h => by rw [upd_ne (ne_of h hl (by intro z; cases z))]; exact h⟩
theorem sqt_kt {K : PySem.W.Frag} {H H' : Hp} {a : Addr} {xs : List V} (h : SqT K H a xs) (k : Kt H H') : SqT K H' a xs := by
  rcases h with (h | ⟨o, h⟩) | h
  · exact .inl (.inl ((k a).1 _ h))
  · exact .inl (.inr ⟨o, (k a).2 _ _ h⟩)
  · exact .inr h
def pairD (r : Str × Int) : PyData := .tuple [.str r.1, .int r.2]
/-- the values vs are the pairs rs -/
def PR (K : PySem.W.Frag) (H : Hp) (vs : List V) (rs : List (Str × Int)) : Prop := DpAll K H vs (rs.map pairD)
section
variable {K : PySem.W.Frag} {H H' : Hp}
theorem pr_inv {v : V} {r : Str × Int} (h : Dp K H v (pairD r)) : ∃ p, v = .ref p ∧ SqT K H p [.str r.1, .int r.2] := by
  unfold pairD at h
  cases h with
  | tup s d =>
    cases d with
    | cons h1 d =>
      cases d with
      | cons h2 d =>
        cases d
        cases h1
        cases h2
        exact ⟨_, rfl, s⟩
theorem pr_one {p : Addr} {z : Str} {n : Int} (h : SqT K H p [.str z, .int n]) : Dp K H (.ref p) (pairD (z, n)) := .tup h (.cons (.str z) (.cons (.int n) .nil))
theorem PR.nil : PR K H [] [] := DpAll.nil
theorem PR.cons {v : V} {r : Str × Int} {vs : List V} {rs : List (Str × Int)} (h : Dp K H v (pairD r)) (t : PR K H vs rs) : PR K H (v :: vs) (r :: rs) := DpAll.cons h t
theorem PR.inv {v : V} {vs : List V} : ∀ {rs : List (Str × Int)}, PR K H (v :: vs) rs → ∃ r t, rs = r :: t ∧ Dp K H v (pairD r) ∧ PR K H vs t
  | [], h => by cases h
  | r :: t, h => by
    cases h with
    | cons h1 h2 => exact ⟨r, t, rfl, h1, h2⟩
theorem PR.len : ∀ {vs : List V} {rs : List (Str × Int)}, PR K H vs rs → vs.length = rs.length
  | [], [], _ => rfl
  | [], _ :: _, h => by cases h
  | v :: vs, rs, h => by
    obtain ⟨r, t, rfl, _, h⟩ := h.inv
    simp [h.len]
theorem PR.kt : ∀ {vs : List V} {rs : List (Str × Int)}, PR K H vs rs → Kt H H' → PR K H' vs rs
  | [], [], _, _ => .nil
  | [], _ :: _, h, _ => by cases h
  | v :: vs, rs, h, k => by
    obtain ⟨r, t, rfl, h1, h2⟩ := h.inv
    obtain ⟨p, rfl, s⟩ := pr_inv h1
    exact .cons (pr_one (sqt_kt s k)) (PR.kt h2 k)
theorem PR.ex {vs : List V} {rs : List (Str × Int)} (h : PR K H vs rs) (e : Ex H H') : PR K H' vs rs := h.kt (.of e)
theorem PR.app : ∀ {vs ws : List V} {rs ts : List (Str × Int)}, PR K H vs rs → PR K H ws ts → PR K H (vs ++ ws) (rs ++ ts)
  | [], _, [], _, _, h => h
  | [], _, _ :: _, _, h, _ => by cases h
  | v :: vs, ws, rs, ts, h, h2 => by
    obtain ⟨r, t, rfl, h1, h⟩ := h.inv
    exact .cons h1 (h.app h2)
theorem PR.get : ∀ {vs : List V} {rs : List (Str × Int)} {i : Nat} {v : V}, PR K H vs rs → vs[i]? = some v → ∃ r p, rs[i]? = some r ∧ v = .ref p ∧ SqT K H p [.str r.1, .int r.2]
  | [], _, i, v, _, e => by simp at e
  | x :: vs, rs, 0, v, h, e => by
    obtain ⟨r, t, rfl, h1, h⟩ := h.inv
    simp at e
    subst e
    obtain ⟨p, rfl, s⟩ := pr_inv h1
    exact ⟨r, p, rfl, rfl, s⟩
  | x :: vs, rs, i + 1, v, h, e => by
    obtain ⟨r, t, rfl, h1, h⟩ := h.inv
    have := h.get (i := i) (by simpa using e)
    simpa using this
theorem PR.snoc : ∀ {vs : List V} {rs : List (Str × Int)}, PR K H vs rs → vs ≠ [] → ∃ ws v ts r, vs = ws ++ [v] ∧ rs = ts ++ [r] ∧ PR K H ws ts ∧ Dp K H v (pairD r)
  | [], _, _, n => absurd rfl n
  | [x], rs, h, _ => by
    obtain ⟨r, t, rfl, h1, h⟩ := h.inv
    cases t with
    | nil => exact ⟨[], x, [], r, rfl, rfl, .nil, h1⟩
    | cons a b => cases h
  | x :: y :: vs, rs, h, _ => by
    obtain ⟨r, t, rfl, h1, h⟩ := h.inv
    obtain ⟨ws, v, ts, r', e1, e2, h3, h4⟩ := h.snoc (by simp)
    exact ⟨x :: ws, v, r :: ts, r', by rw [e1]; rfl, by rw [e2]; rfl, .cons h1 h3, h4⟩
theorem shaped_pairs (rs : List (Str × Int)) (so : ∀ r ∈ rs, PyData.strOk r.1 = true) : PyData.canLayAll0 (rs.map pairD) = true ∧ PyData.depthAll (rs.map pairD) ≤ 2 := by
  induction rs with
  | nil => simp [PyData.canLayAll0, PyData.depthAll]
  | cons r t ih =>
    obtain ⟨h1, h2⟩ := ih fun x hx => so x (List.mem_cons_of_mem _ hx)
    have := so r (List.mem_cons_self ..)
    simp only [List.map_cons, PyData.canLayAll0, PyData.depthAll]
    refine ⟨by rw [h1]; simp [pairD, PyData.canLay0, PyData.canLayAll0, this], ?_⟩
    have : (pairD r).depth ≤ 2 := by simp [pairD, PyData.depth, PyData.depthAll]
    omega
theorem shaped_pL (rs : List (Str × Int)) (so : ∀ r ∈ rs, PyData.strOk r.1 = true) : SeqAt.shaped (.list (rs.map pairD)) = true := by
  obtain ⟨h1, h2⟩ := shaped_pairs rs so
  unfold SeqAt.shaped
  rw [PyData.canLay0, h1, Bool.true_and]
  apply decide_eq_true
  simp only [PyData.depth]; omega
theorem shaped_pT (rs : List (Str × Int)) (so : ∀ r ∈ rs, PyData.strOk r.1 = true) : SeqAt.shaped (.tuple (rs.map pairD)) = true := by
  obtain ⟨h1, h2⟩ := shaped_pairs rs so
  unfold SeqAt.shaped
  rw [PyData.canLay0, h1, Bool.true_and]
  apply decide_eq_true
  simp only [PyData.depth]; omega
theorem eqv_pair (r s : Str × Int) : PyData.eqv (pairD r) (pairD s) = decide (r = s) := by
  obtain ⟨z, n⟩ := r
  obtain ⟨y, m⟩ := s
  rw [Bool.eq_iff_iff]
  simp [pairD, PyData.eqv, PyData.eqvAll]
theorem eqv_pairs : ∀ rs ts : List (Str × Int), PyData.eqvAll (rs.map pairD) (ts.map pairD) = decide (rs = ts)
  | [], [] => rfl
  | [], _ :: _ => rfl
  | _ :: _, [] => rfl
  | r :: rs, t :: ts => by
    rw [List.map_cons, List.map_cons, PyData.eqvAll, eqv_pairs rs ts, eqv_pair, Bool.eq_iff_iff]
    simp
theorem eqv_pnilL (rs : List (Str × Int)) : PyData.eqv (.list (rs.map pairD)) (.list []) = rs.isEmpty := by cases rs <;> rfl
theorem eqv_pnilT (rs : List (Str × Int)) : PyData.eqv (.tuple (rs.map pairD)) (.tuple []) = rs.isEmpty := by cases rs <;> rfl
end
theorem gT2 {K : PySem.W.Frag} {n i j : Nat} {p : Addr} {x y : V} {σ : L2.St} {H : Hp} {R : L2.St → Hp → Prop} (hn : 2 = n) (h : SqT K H p [x, y]) (q : R ((σ.set i (some x)).set j (some y)) H) : gTup K n (gCons (gName i) (gCons (gName j) gNil)) (.ref p) σ H R :=
  ⟨p, [x, y], rfl, h, hn, x, [y], rfl, y, [], rfl, rfl, q⟩
theorem gT3 {K : PySem.W.Frag} {n i j l : Nat} {p : Addr} {x y z : V} {σ : L2.St} {H : Hp} {R : L2.St → Hp → Prop} (hn : 3 = n) (h : SqT K H p [x, y, z]) (q : R (((σ.set i (some x)).set j (some y)).set l (some z)) H) : gTup K n (gCons (gName i) (gCons (gName j) (gCons (gName l) gNil))) (.ref p) σ H R :=
  ⟨p, [x, y, z], rfl, h, hn, x, [y, z], rfl, y, [z], rfl, z, [], rfl, rfl, q⟩
/-! ### runs joined -/
def joinStep (acc : List (Str × Int)) (r : Str × Int) : List (Str × Int) := match acc.getLast? with
  | some s => if s.1 = r.1 then acc.dropLast ++ [(r.1, s.2 + r.2)] else acc ++ [r]
  | none => [r]
def joinR (rs : List (Str × Int)) : List (Str × Int) := rs.foldl joinStep []
theorem joinStep_nil (r : Str × Int) : joinStep [] r = [r] := rfl
theorem joinStep_snoc (acc : List (Str × Int)) (s r : Str × Int) : joinStep (acc ++ [s]) r = if s.1 = r.1 then acc ++ [(r.1, s.2 + r.2)] else acc ++ [s] ++ [r] := by
  unfold joinStep
  rw [List.getLast?_append, List.getLast?_singleton]
  simp
theorem joinR_snoc (rs : List (Str × Int)) (r : Str × Int) : joinR (rs ++ [r]) = joinStep (joinR rs) r := by
  unfold joinR
  rw [List.foldl_append]; rfl
theorem joinStep_mem {acc : List (Str × Int)} {r x : Str × Int} {C : Str → Prop} (h : ∀ y ∈ acc, C y.1) (hr : C r.1) (hx : x ∈ joinStep acc r) : C x.1 := by
  rcases List.eq_nil_or_concat acc with rfl | ⟨b, s, rfl⟩
  · rw [joinStep_nil, List.mem_singleton] at hx; rw [hx]; exact hr
  · rw [List.concat_eq_append, joinStep_snoc] at hx
    split at hx
    · rcases List.mem_append.mp hx with q | q
      · exact h x (by simp [q])
      · rw [List.mem_singleton] at q; rw [q]; exact hr
    · rcases List.mem_append.mp hx with q | q
      · exact h x (by simpa using q)
      · rw [List.mem_singleton] at q; rw [q]; exact hr
theorem joinR_mem {C : Str → Prop} : ∀ (rs acc : List (Str × Int)), (∀ r ∈ rs, C r.1) → (∀ r ∈ acc, C r.1) → ∀ x ∈ rs.foldl joinStep acc, C x.1
  | [], acc, _, h, x, hx => h x hx
  | r :: t, acc, h1, h2, x, hx => joinR_mem t (joinStep acc r) (fun y hy => h1 y (List.mem_cons_of_mem _ hy)) (fun y hy => joinStep_mem h2 (h1 r (List.mem_cons_self ..)) hy) x hx
theorem joinStep_len (acc : List (Str × Int)) (r : Str × Int) : (joinStep acc r).length ≤ acc.length + 1 := by
  rcases List.eq_nil_or_concat acc with rfl | ⟨b, s, rfl⟩
  · simp [joinStep_nil]
  · rw [List.concat_eq_append, joinStep_snoc]; split <;> simp
theorem joinR_len (rs : List (Str × Int)) : (joinR rs).length ≤ rs.length := by
  have : ∀ (rs acc : List (Str × Int)), (rs.foldl joinStep acc).length ≤ acc.length + rs.length := by
    intro rs
    induction rs with
    | nil => intro acc; simp
    | cons r t ih =>
      intro acc
      have h1 := ih (joinStep acc r)
      have h2 := joinStep_len acc r
      simp only [List.foldl_cons, List.length_cons]
      omega
  have h := this rs []
  unfold joinR
  simpa using h
end Aq
/-! values of all kinds, as data -/
namespace Aq
open PySem PySem.Spec PyProof.Rows L2 Evl
section
variable {K : PySem.W.Frag}
inductive Wv (H : Hp) : V → PyData → Prop
  | str (z : Str) (h : z.length ≤ 50) (s : As z) : Wv H (.str z) (.str z)
  | non : Wv H .non .none
  | bl (b : Bool) : Wv H (.bl b) (.bool b)
  | int (i : Int) (h : i.natAbs < 100) : Wv H (.int i) (.int i)
  | lst {p : Addr} {z : Str} (h : z.length ≤ 50) (s : As z) (hp : H p = some (.lst [.str z])) : Wv H (.ref p) (.list [.str z])
  | tup {p : Addr} {z : Str} (h : z.length ≤ 50) (s : As z) (hp : H p = some (.tup [.str z])) : Wv H (.ref p) (.tuple [.str z])
section
variable {H H' : Hp} {v : V} {d : PyData} {vs : List V}
theorem Wv.kd (x : Wv H v d) : Kd H v := by
  cases x with
  | str z h s => exact .str z (by omega)
  | non => exact .non
  | bl b => exact .bl b
  | int i _ => exact .int i
  | lst _ _ h => exact .lst h
  | tup _ _ h => exact .tup h
theorem Wv.as_ (x : Wv H v d) : ∀ z, v = .str z → As z := by
  cases x with
  | str z h s => intro y e; cases e; exact s
  | _ => intro y e; cases e
theorem Wv.to (x : Wv H v d) (e : ∀ p o, v = .ref p → H p = some o → H' p = some o) : Wv H' v d := by
  cases x with
  | str z h s => exact .str z h s
  | non => exact .non
  | bl b => exact .bl b
  | int i h => exact .int i h
  | lst h s hp => exact .lst h s (e _ _ rfl hp)
  | tup h s hp => exact .tup h s (e _ _ rfl hp)
theorem Wv.ex (x : Wv H v d) (e : Ex H H') : Wv H' v d := x.to fun p o _ h => e p o h
theorem Wv.kx {pd : Addr} (x : Wv H v d) (e : Kx pd H H') (n : v ≠ .ref pd) : Wv H' v d := x.to fun p o q h => e p o (fun z => n (by rw [q, z])) h
theorem Wv.dp (x : Wv H v d) : Dp K H v d := by
  cases x with
  | str z h s => exact .str z
  | non => exact .non
  | bl b => exact .bl b
  | int i _ => exact .int i
  | lst _ _ h => exact .lst (sq_of h) (.cons (.str _) .nil)
  | tup _ _ h => exact .tup (st_of h) (.cons (.str _) .nil)
theorem Wv.sh (x : Wv H v d) : ShN d 2 2000 := by
  cases x with
  | str z h s => exact (sh_str s.so).mono (by decide) (by omega)
  | non => exact sh_none.mono (by decide) (by decide)
  | bl b => exact (sh_bool b).mono (by decide) (by decide)
  | int i h => exact (sh_int (log2_lt (by omega))).mono (by decide) (by decide)
  | lst h s _ => exact (sh_list (m := 1) (.cons (sh_str s.so) .nil) (by simp)).mono (by decide) (by omega)
  | tup h s _ => exact (sh_tuple (m := 1) (.cons (sh_str s.so) .nil) (by simp)).mono (by decide) (by omega)
theorem Wv.lay (x : Wv H v d) : PyData.canLay0 d = true := by
  cases x with
  | str z h s => simp [PyData.canLay0, s.so]
  | non => simp [PyData.canLay0]
  | bl b => simp [PyData.canLay0]
  | int i _ => simp [PyData.canLay0]
  | lst _ s h => simp [PyData.canLay0, PyData.canLayAll0, s.so]
  | tup _ s h => simp [PyData.canLay0, PyData.canLayAll0, s.so]
theorem Wv.eqs (x : Wv H v d) (z : Str) : PyData.eqv d (.str z) = decide (v = .str z) := by
  cases x with
  | str y h s => rw [PyData.eqv, Bool.eq_iff_iff]; simp
  | non => rfl
  | bl b => rfl
  | int i _ => rfl
  | lst _ _ h => rfl
  | tup _ _ h => rfl
theorem wv_all : ∀ {vs : List V}, (∀ v ∈ vs, ∃ d, Wv H v d) → ∃ ds, DpAll K H vs ds ∧ ds.length = vs.length ∧ ShAll 2 2000 ds ∧ PyData.canLayAll0 ds = true ∧ ∀ z : Str, (ds.any fun d => PyData.eqv d (.str z)) = decide (V.str z ∈ vs)
  | [], _ => ⟨[], .nil, rfl, .nil, by simp [PyData.canLayAll0], fun z => by simp⟩
  | v :: r, h => by
    obtain ⟨ds, h1, h2, h3, h4, h5⟩ := wv_all (vs := r) fun x hx => h x (List.mem_cons_of_mem _ hx)
    obtain ⟨d, hd⟩ := h v (List.mem_cons_self ..)
    refine ⟨d :: ds, .cons hd.dp h1, by simp [h2], .cons hd.sh h3, by simp [PyData.canLayAll0, hd.lay, h4], fun z => ?_⟩
    rw [List.any_cons, h5, hd.eqs, Bool.eq_iff_iff]
    simp only [Bool.or_eq_true, decide_eq_true_eq, List.mem_cons]
    exact ⟨fun q => q.elim (fun e => .inl e.symm) .inr, fun q => q.elim (fun e => .inl e.symm) .inr⟩
theorem shaped_all {ds : List PyData} (h1 : ShAll 2 2000 ds) (h2 : PyData.canLayAll0 ds = true) : SeqAt.shaped (.list ds) = true := by
  unfold SeqAt.shaped
  obtain ⟨_, _, h3, _⟩ := h1.facts
  rw [PyData.canLay0, h2, Bool.true_and]
  apply decide_eq_true
  simp only [PyData.depth]; omega
end
end
section
variable {H : Hp} {v : V} {d : PyData}
theorem Wv.eqs' (x : Wv H v d) (z : Str) : PyData.eqv (.str z) d = decide (v = .str z) := by
  cases x with
  | str y h s => rw [PyData.eqv, Bool.eq_iff_iff]; simp; exact eq_comm
  | non => rfl
  | bl b => rfl
  | int i _ => rfl
  | lst _ _ h => rfl
  | tup _ _ h => rfl
theorem Wv.shd (x : Wv H v d) : SeqAt.shaped d = true := by
  unfold SeqAt.shaped
  rw [x.lay, Bool.true_and]
  have := x.sh.dp
  exact decide_eq_true (by omega)
end
/-- x in (a, b, ..), data of any depth -/
def rInDT (K : PySem.W.Frag) : R2 := fun x y H Q => ∃ d ds, Dp K H x d ∧ Dp K H y (.tuple ds) ∧ SeqAt.shaped d = true ∧ SeqAt.shaped (.tuple ds) = true ∧ Q (.bl (ds.any fun z => PyData.eqv z d)) H
def rNotInDT (K : PySem.W.Frag) : R2 := fun x y H Q => ∃ d ds, Dp K H x d ∧ Dp K H y (.tuple ds) ∧ SeqAt.shaped d = true ∧ SeqAt.shaped (.tuple ds) = true ∧ Q (.bl (!ds.any fun z => PyData.eqv z d)) H
theorem op_inDT {X : Cx} (hu : X.A.units + 65 < cLine) : OpR X (compareOp .In) (rInDT X.K) := by
  rintro pins s σ H x y v u Q I rx ry ⟨d, ds, hd, he, sd, se, q⟩
  obtain ⟨as, r1⟩ := Dp.reads I d x v hd rx
  obtain ⟨bs, r2⟩ := Dp.reads I (.tuple ds) y u he ry
  exact SeqAt.in_tuple_reads r2 r1 (SeqAt.canLay_of_shaped se) (SeqAt.canLay_of_shaped sd) (room_in_shaped sd hu) ⟨.bl _, H, I, rfl, q⟩
theorem op_notInDT {X : Cx} (hu : X.A.units + 65 < cLine) : OpR X (compareOp .NotIn) (rNotInDT X.K) := by
  rintro pins s σ H x y v u Q I rx ry ⟨d, ds, hd, he, sd, se, q⟩
  obtain ⟨as, r1⟩ := Dp.reads I d x v hd rx
  obtain ⟨bs, r2⟩ := Dp.reads I (.tuple ds) y u he ry
  exact SeqAt.notIn_tuple_reads r2 r1 (SeqAt.canLay_of_shaped se) (SeqAt.canLay_of_shaped sd) (room_in_shaped sd hu) ⟨.bl _, H, I, rfl, q⟩
end Aq
/-! own operators: o[i], o + xs -/
namespace Aq
open PySem PySem.Spec PyProof.Rows L2 Evl
/-- a method that may raise, with what a subscript asks of it -/
structure Sub1 (K : PySem.W.Frag) (f : Addr) : Prop where
  fn : PySem.W.fnIn K f = true
/-- readings: what leaves the method is wished by W -/
def tIxW (C : Addr) (sp : Sp) (W : WX) (ta tb : TE) : TE := fun σ H Q => ta σ H fun x H1 => tb σ H1 fun y H2 => ∃ p dx fs, x = .ref p ∧ H2 p = some (.ins C dx fs) ∧ sp [x, y] H2 Q fun cls d H' => W cls d σ H'
section
variable {X : Cx} {k j : Nat} {C : Addr} {ps : List Str} {sp : Sp} {W : WX} {o i : Expr} {ta tb : TE} {pos : Pos}
theorem runA1 {pins : List (Addr × Obj)} {σ : L2.St} {H : Hp} {s : Shared} {Q : VK} {us : List Value} {vs : List V} {f : Addr} {fd : FuncData} {E : XK} (F : FnOk X.prog X.w X.K X.mg X.base (L2.CX X.prog X.w) k f fd ps sp) (hr : Room (k + 1) X.A) (b : Binds X.K fd ps []) (hx : PassAt X σ E) (I : Inv X pins σ H s) (r : Vals vs us) (h : sp vs H Q E) :
    wpAny (model X.prog X.w) X.A.in1 (call (.ref f) us) (EP X pins σ Q) X.xe s := by
  have e := I.env0
  have e0 : Env0 X.prog X.w X.K X.mg X.base X.A.in1 X.stack s H := ⟨e.frames, e.mod, e.bs, e.bsz, e.funs, e.frf, e.hok, e.bare⟩
  have hl := r.length.symm.trans (F.len _ _ _ _ h)
  have hb := b s us I.kIn (by simpa using hl)
  rw [List.append_nil] at hb
  refine wpAny_call (codeAny_mono (F.run X.A.in1 X.stack s H ⟨us, []⟩ us vs Q E hr.in1 e0 hb r h) fun out s' hq => ?_)
  match out, hq with
  | .error e, hq => exact hx pins H s e s' I hq
  | .ok (.ret u), hq => exact I.after hq
  | .ok .next, hq => exact hq.elim
  | .ok .brk, hq => exact hq.elim
  | .ok .cont, hq => exact hq.elim
theorem pe_ixOwnX (c : MthX X.prog X.w X.K X.mg X.base k C "__getitem__" ps sp) (s1 : ∀ f, Meth X.K C "__getitem__" f → PySem.W.fnIn X.K f = true) (hr : Room j X.A) (tk : Takes X W) (ho : PE X o ta) (hi : PE X i tb) (hk : k + 1 ≤ j := by decide)
    (hs : ∀ v u, subscripted i true v u = runValue (.builtin "lifetime.subscript" ⟨[v, u], []⟩) := by intros; rfl) : PE X (.Subscript o i pos) (tIxW C sp W ta tb) := by
  obtain ⟨f, fd, M, F, b⟩ := c.ex
  constructor
  intro pins s σ H Q I h
  refine Subscript_ (binT ho hi I h fun v u s2 x y H2 I2 rx ry q => ?_)
  obtain ⟨p, dx, fs, rfl, hp, q⟩ := q
  cases rx
  obtain ⟨mA, J, _⟩ := ins_get I2.hok hp
  obtain ⟨od, J, _⟩ := J.look
  obtain ⟨m, hF⟩ := I2.fr
  exact PySem.W.sub_K hF I2.ok.mod.kin J M.at_ (s1 f M) M.fn (runA1 F (hr.mono hk) b (passAt tk) I2 (show Vals [V.ref p, y] [Value.ref p, u] from .cons rfl (.cons ry .nil)) q) (hs _ _)
end
/-! ### o + xs by an own __add__ -/
/-- what + asks of the class C and of the built-in type T on the right -/
structure AddC (K : PySem.W.Frag) (C : Addr) (T : String) : Prop where
  sf : PySem.W.selfFirst K C = true
  rr : PySem.W.findIn K (.ref C) "__radd__" = some none
  tt : ∃ fo ro, PySem.W.findIn K (.type T) "__add__" = some fo ∧ PySem.W.findIn K (.type T) "__radd__" = some ro
  sb : PySem.W.subIn K (.type T) (.ref C) = some false
section
open PySem.W
variable {prog : Program} {w : World} {A : Around} {E : Value → Shared → Prop} {s : Shared} {K : Frag} {x C f : Addr} {ox : Obj} {od : Option Obj} {T : String}
theorem add_seq {b : Value} {Q : Value → Shared → Prop} (X : K.In s.heap) (I : InstAt s.heap x ox C od) (hb : Looks (model prog w) s.heap (typeOf b) (.type T)) (c : AddC K C T) (hs : findIn K (.ref C) "__add__" = some (some (.ref f))) (hf : isFn K (.ref f) = true)
    (run : wpAny (model prog w) A (call (.ref f) [.ref x, b]) (PySem.W.CmpBack Q) E s) : wpAny (model prog w) A (binaryOp .Add (.ref x) b) Q E s := by
  obtain ⟨cd, rest, hcd, hm⟩ := ksp_first c.sf
  obtain ⟨fo, ro, t1, t2⟩ := c.tt
  have tried := ksp_try X I hs hf run
  obtain ⟨hp, gn, dd, tk, os⟩ := s
  have q1 : Looks (model prog w) hp (typeOf (.ref x)) (.ref C) := I.type
  have q2 : Looks (model prog w) hp (typeOf b) (.type T) := hb
  have q3 : Looks (model prog w) hp (fillsNumberSlot (.ref C) "add") true := fills_K (nm := "add") X hcd hm hs
  have q4 := ksp_fillsT (M := model prog w) (nm := "add") X t1 t2
  have q5 : Looks (model prog w) hp (isSubtype (.type T) (.ref C)) false := looks_subIn X c.sb
  have q6 : Looks (model prog w) hp (numberSlotInPython (.ref C) "add") true := ksp_inPy (nm := "add") X hs c.rr (.inl rfl)
  have q7 : Looks (model prog w) hp (numberSlotInPython (.type T) "add") false := Looks.of_pure rfl
  have q8 : Looks (model prog w) hp (typeLookup (.type T) (dunderR "add")) ro := looks_findIn X t2
  have ne : (Value.ref C == Value.type T) = false := rfl
  generalize ((fo.isSome && !isSeqSlot fo) || (ro.isSome && !isSeqSlot ro)) = right at q4
  have hi : Operator.Add.info = ("+", "add") := rfl
  simp only [binaryOp, hi]
  refine wpAny_holding (wpAny_bind ?_)
  unfold binaryOp1
  refine wpAny_bind (q1.at (wpAny_bind (q2.at (wpAny_bind (q3.at ?_)))))
  simp only [ne, Bool.false_eq_true, if_false]
  cases right
  all_goals
    ksp_lk
    refine wpAny_mono tried (fun r s' z => ?_) fun _ _ e => e
    obtain ⟨v, rfl, hq⟩ := z
    ksp_lk
    exact hq
end
theorem looks_ty {M : Model} {h : Heap} {b : Addr} {T : String} (z : ∃ o, h.get? b = some o ∧ o.cls = .type T) : PySem.W.Looks M h (typeOf (.ref b)) (.type T) := let ⟨_, h1, h2⟩ := z; h2 ▸ (PySem.W.Looks.ld h1).andThen .now
/-- o + xs: xs a list or a tuple of the abstract heap -/
def rAddOwn (K : PySem.W.Frag) (C : Addr) (sp : Sp) : R2 := fun x y H Q => ∃ p dx fs q, x = .ref p ∧ H p = some (.ins C dx fs) ∧ y = .ref q ∧ ((∃ xs, H q = some (.lst xs) ∧ AddC K C "list") ∨ (∃ xs, H q = some (.tup xs) ∧ AddC K C "tuple")) ∧ sp [x, y] H (fun v H' => (∃ b, v = .ref b) ∧ Q v H') E0
theorem op_addOwn {X : Cx} {k j : Nat} {C : Addr} {ps : List Str} {sp : Sp} (c : MthX X.prog X.w X.K X.mg X.base k C "__add__" ps sp) (hr : Room j X.A) (hk : k ≤ j := by decide) : OpR X (binaryOp .Add) (rAddOwn X.K C sp) := by
  intro pins s σ H x y u v Q I rx ry h
  obtain ⟨f, fd, M, F, b⟩ := c.ex
  obtain ⟨p, dx, fs, q, rfl, hp, rfl, hq, h⟩ := h
  cases rx
  cases ry
  obtain ⟨mA, J, _⟩ := ins_get I.hok hp
  obtain ⟨od, J, _⟩ := J.look
  have r2 : Vals [V.ref p, V.ref q] [Value.ref p, Value.ref q] := .cons rfl (.cons rfl .nil)
  have run : wpAny (model X.prog X.w) X.A (call (.ref f) [Value.ref p, Value.ref q]) (PySem.W.CmpBack (EP X pins σ Q)) X.xe s := by
    refine wpAny_mono (runA (E := E0) F (hr.mono hk) b .nil (fun pins H s e s' I z => passX0 pins σ H s e s' I z) I r2 (by rw [List.append_nil]; exact h)) (fun v s' z => ?_) fun _ _ e => e
    obtain ⟨z, H', I', rz, ⟨b', rfl⟩, q⟩ := z
    cases rz
    exact ⟨V.ref b', H', I', rfl, q⟩
  rcases hq with ⟨xs, hq, ac⟩ | ⟨xs, hq, ac⟩
  · obtain ⟨its, _, pl, _⟩ := I.list (sq_of hq)
    exact add_seq I.kIn J (looks_ty pl.isList.typeIs) ac M.at_ M.fn run
  · obtain ⟨its, _, pl, _⟩ := I.tuple (st_of hq)
    exact add_seq I.kIn J (looks_ty pl.typeIs) ac M.at_ M.fn run
/-! ### readings -/
theorem rd_makeN {C : Addr} {n m : Nat} {sp : Sp} {gV : List V → List V → List V} {E : XK} {t tk : TA} {σ : L2.St} {H : Hp} {Q : VK} (h : t σ H fun vs H1 => tk σ H1 fun zs H2 => vs.length = n ∧ zs.length = m ∧
  ∀ x dx, H2 x = none → H2 dx = none → dx ≠ x → sp (gV (.ref x :: vs) zs) (upd (upd H2 dx (.own x)) x (.ins C dx [])) (fun v H3 => v = .non ∧ Q (.ref x) H3) E) : tMakeN C n m sp gV E t tk σ H Q := h
theorem rd_ixW {C : Addr} {sp : Sp} {W : WX} {ta tb : TE} {σ : L2.St} {H : Hp} {Q : VK} (h : ta σ H fun x H1 => tb σ H1 fun y H2 => ∃ p dx fs, x = .ref p ∧ H2 p = some (.ins C dx fs) ∧ sp [x, y] H2 Q fun cls d H' => W cls d σ H') : tIxW C sp W ta tb σ H Q := h
/-! ### runs by place and by size -/
def sumL (rs : List (Str × Int)) : Int := (rs.map (·.2)).sum
theorem sumL_nil : sumL [] = 0 := rfl
theorem sumL_cons (r : Str × Int) (t : List (Str × Int)) : sumL (r :: t) = r.2 + sumL t := by simp [sumL]
theorem sumL_app (x y : List (Str × Int)) : sumL (x ++ y) = sumL x + sumL y := by simp [sumL]
def atR : List (Str × Int) → Int → Option Str
  | [], _ => none
  | r :: t, l => if l < r.2 then some r.1 else atR t (l - r.2)
def takeR : List (Str × Int) → Int → List (Str × Int)
  | [], _ => []
  | r :: t, l => if 0 < l then (r.1, min l r.2) :: takeR t (l - r.2) else takeR t (l - r.2)
theorem takeR_app : ∀ (x y : List (Str × Int)) (l : Int), takeR (x ++ y) l = takeR x l ++ takeR y (l - sumL x)
  | [], y, l => by simp [takeR, sumL_nil]
  | r :: t, y, l => by
    have e : l - r.2 - sumL t = l - (r.2 + sumL t) := by omega
    simp only [List.cons_append, takeR, sumL_cons, takeR_app t y (l - r.2), e]
    split <;> rfl
theorem takeR_snoc (x : List (Str × Int)) (r : Str × Int) (l : Int) : takeR (x ++ [r]) l = if 0 < l - sumL x then takeR x l ++ [(r.1, min (l - sumL x) r.2)] else takeR x l := by
  rw [takeR_app]
  simp only [takeR]
  split <;> simp
theorem takeR_mem {C : Str → Prop} : ∀ (x : List (Str × Int)) (l : Int), (∀ r ∈ x, C r.1) → ∀ r ∈ takeR x l, C r.1
  | [], _, _, r, h => by cases h
  | s :: t, l, hx, r, h => by
    simp only [takeR] at h
    have ih := takeR_mem t (l - s.2) fun y hy => hx y (List.mem_cons_of_mem _ hy)
    split at h
    · rcases List.mem_cons.mp h with q | q
      · rw [q]; exact hx s (List.mem_cons_self ..)
      · exact ih r q
    · exact ih r h
theorem takeR_len : ∀ (x : List (Str × Int)) (l : Int), (takeR x l).length ≤ x.length
  | [], _ => Nat.le_refl _
  | s :: t, l => by
    have ih := takeR_len t (l - s.2)
    simp only [takeR]
    split <;> simp <;> omega
/-! ### counts of nought left out; joining -/
def posR (rs : List (Str × Int)) : List (Str × Int) := rs.filter fun r => decide (0 < r.2)
theorem posR_snoc (x : List (Str × Int)) (z : Str) (n : Int) : posR (x ++ [(z, n)]) = if 0 < n then posR x ++ [(z, n)] else posR x := by
  unfold posR
  rw [List.filter_append]
  split
  · rename_i h; rw [List.filter_cons_of_pos (by simpa using h), List.filter_nil]
  · rename_i h; rw [List.filter_cons_of_neg (by simpa using h), List.filter_nil, List.append_nil]
theorem posR_len (x : List (Str × Int)) : (posR x).length ≤ x.length := List.length_filter_le _ _
theorem posR_id {x : List (Str × Int)} (h : ∀ r ∈ x, 1 ≤ r.2) : posR x = x := by
  unfold posR
  rw [List.filter_eq_self]
  intro r hr
  have := h r hr
  exact decide_eq_true (by omega)
theorem posR_pos {x : List (Str × Int)} {r : Str × Int} (h : r ∈ posR x) : r ∈ x ∧ 1 ≤ r.2 := by
  obtain ⟨h1, h2⟩ := List.mem_filter.mp h
  have := of_decide_eq_true h2
  exact ⟨h1, by omega⟩
theorem step_same (acc : List (Str × Int)) (z : Str) (n m : Int) : joinStep (joinStep acc (z, n)) (z, m) = joinStep acc (z, n + m) := by
  rcases List.eq_nil_or_concat acc with rfl | ⟨b, s, rfl⟩
  · have := joinStep_snoc [] (z, n) (z, m)
    simp only [List.nil_append] at this
    rw [joinStep_nil, joinStep_nil, this]
    simp
  · rw [List.concat_eq_append, joinStep_snoc, joinStep_snoc]
    by_cases h : s.1 = z
    · rw [if_pos h, if_pos h, joinStep_snoc, if_pos rfl]
      simp only [Int.add_assoc]
    · rw [if_neg h, if_neg h, joinStep_snoc, if_pos rfl]
theorem fold_step (acc b : List (Str × Int)) (r : Str × Int) : (joinStep b r).foldl joinStep acc = joinStep (b.foldl joinStep acc) r := by
  rcases List.eq_nil_or_concat b with rfl | ⟨c, s, rfl⟩
  · rfl
  · rw [List.concat_eq_append, joinStep_snoc, List.foldl_append]
    obtain ⟨z, n⟩ := s
    obtain ⟨y, m⟩ := r
    by_cases h : z = y
    · subst h
      rw [if_pos rfl, List.foldl_append]
      show joinStep (c.foldl joinStep acc) (z, n + m) = joinStep (joinStep (c.foldl joinStep acc) (z, n)) (z, m)
      rw [step_same]
    · rw [if_neg h, List.foldl_append, List.foldl_append]
      rfl
theorem fold_join : ∀ (b acc : List (Str × Int)), (joinR b).foldl joinStep acc = b.foldl joinStep acc := by
  intro b acc
  have gen : ∀ (b c : List (Str × Int)), (b.foldl joinStep c).foldl joinStep acc = b.foldl joinStep (c.foldl joinStep acc) := by
    intro b
    induction b with
    | nil => intro c; rfl
    | cons r t ih =>
      intro c
      rw [List.foldl_cons, ih, fold_step, List.foldl_cons]
  exact gen b []
theorem join_join (b : List (Str × Int)) : joinR (joinR b) = joinR b := fold_join b []
theorem join_app (x y : List (Str × Int)) : joinR (joinR x ++ joinR y) = joinR (x ++ y) := by
  unfold joinR
  rw [List.foldl_append, List.foldl_append]
  have h1 := fold_join x []
  have h2 := fold_join y
  unfold joinR at h1 h2
  rw [h1, h2]
theorem sum_step (acc : List (Str × Int)) (r : Str × Int) : sumL (joinStep acc r) = sumL acc + r.2 := by
  rcases List.eq_nil_or_concat acc with rfl | ⟨b, s, rfl⟩
  · rw [joinStep_nil, sumL_cons, sumL_nil]; omega
  · rw [List.concat_eq_append, joinStep_snoc]
    split
    · simp only [sumL_app, sumL_cons, sumL_nil]; omega
    · simp only [sumL_app, sumL_cons, sumL_nil]; omega
theorem sum_join (rs : List (Str × Int)) : sumL (joinR rs) = sumL rs := by
  have : ∀ (rs acc : List (Str × Int)), sumL (rs.foldl joinStep acc) = sumL acc + sumL rs := by
    intro rs
    induction rs with
    | nil => intro acc; rw [List.foldl_nil, sumL_nil]; omega
    | cons r t ih => intro acc; rw [List.foldl_cons, ih, sum_step, sumL_cons]; omega
  have h := this rs []
  rw [sumL_nil] at h
  unfold joinR
  omega
theorem step_pos {acc : List (Str × Int)} {r : Str × Int} (h : ∀ x ∈ acc, 1 ≤ x.2) (hr : 1 ≤ r.2) : ∀ x ∈ joinStep acc r, 1 ≤ x.2 := by
  intro x hx
  rcases List.eq_nil_or_concat acc with rfl | ⟨b, s, rfl⟩
  · rw [joinStep_nil, List.mem_singleton] at hx; rw [hx]; exact hr
  · rw [List.concat_eq_append] at h
    rw [List.concat_eq_append, joinStep_snoc] at hx
    have hs := h s (by simp)
    split at hx
    · rcases List.mem_append.mp hx with q | q
      · exact h x (by simp [q])
      · rw [List.mem_singleton] at q; rw [q]; show 1 ≤ s.2 + r.2; omega
    · rcases List.mem_append.mp hx with q | q
      · exact h x q
      · rw [List.mem_singleton] at q; rw [q]; exact hr
theorem join_pos {rs : List (Str × Int)} (h : ∀ x ∈ rs, 1 ≤ x.2) : ∀ x ∈ joinR rs, 1 ≤ x.2 := by
  have : ∀ (rs acc : List (Str × Int)), (∀ x ∈ rs, 1 ≤ x.2) → (∀ x ∈ acc, 1 ≤ x.2) → ∀ x ∈ rs.foldl joinStep acc, 1 ≤ x.2 := by
    intro rs
    induction rs with
    | nil => intro acc _ h; exact h
    | cons r t ih => intro acc h1 h2; exact ih _ (fun x hx => h1 x (List.mem_cons_of_mem _ hx)) (step_pos h2 (h1 r (List.mem_cons_self ..)))
  exact this rs [] h (by simp)
/-! ### the law's cut -/
def cutA : List (Str × Int) → Int → List (Str × Int)
  | [], _ => []
  | r :: t, l => (r.1, max 0 (min l r.2)) :: cutA t (l - max 0 (min l r.2))
def cutB : List (Str × Int) → Int → List (Str × Int)
  | [], _ => []
  | r :: t, l => (r.1, r.2 - max 0 (min l r.2)) :: cutB t (l - max 0 (min l r.2))
theorem cutA_nought : ∀ (x : List (Str × Int)), (∀ r ∈ x, 1 ≤ r.2) → posR (cutA x 0) = []
  | [], _ => rfl
  | r :: t, h => by
    have h1 := h r (List.mem_cons_self ..)
    have e : max 0 (min 0 r.2) = 0 := by omega
    simp only [cutA, e]
    unfold posR
    rw [List.filter_cons_of_neg (by simp)]
    exact cutA_nought t fun x hx => h x (List.mem_cons_of_mem _ hx)
theorem takeR_nought : ∀ (x : List (Str × Int)) (l : Int), (∀ r ∈ x, 1 ≤ r.2) → l ≤ 0 → takeR x l = []
  | [], _, _, _ => rfl
  | r :: t, l, h, hl => by
    have h1 := h r (List.mem_cons_self ..)
    simp only [takeR]
    rw [if_neg (by omega)]
    exact takeR_nought t _ (fun x hx => h x (List.mem_cons_of_mem _ hx)) (by omega)
theorem cutA_take : ∀ (x : List (Str × Int)) (l : Int), (∀ r ∈ x, 1 ≤ r.2) → 0 ≤ l → posR (cutA x l) = takeR x l
  | [], _, _, _ => rfl
  | r :: t, l, h, hl => by
    have h1 := h r (List.mem_cons_self ..)
    have ht : ∀ x ∈ t, 1 ≤ x.2 := fun x hx => h x (List.mem_cons_of_mem _ hx)
    by_cases h0 : 0 < l
    · have e : max 0 (min l r.2) = min l r.2 := by omega
      simp only [cutA, takeR, e]
      rw [if_pos h0]
      unfold posR
      rw [List.filter_cons_of_pos (by simp; omega)]
      congr 1
      by_cases hn : r.2 ≤ l
      · rw [show l - min l r.2 = l - r.2 by omega]
        exact cutA_take t _ ht (by omega)
      · rw [show l - min l r.2 = 0 by omega, takeR_nought t _ ht (by omega)]
        exact cutA_nought t ht
    · have l0 : l = 0 := by omega
      subst l0
      rw [takeR_nought _ _ h (by omega)]
      exact cutA_nought _ h
theorem cutB_nought : ∀ (x : List (Str × Int)), (∀ r ∈ x, 1 ≤ r.2) → posR (cutB x 0) = x
  | [], _ => rfl
  | r :: t, h => by
    have h1 := h r (List.mem_cons_self ..)
    have e : max 0 (min 0 r.2) = 0 := by omega
    simp only [cutB, e]
    unfold posR
    rw [List.filter_cons_of_pos (by simp; omega), Int.sub_zero]
    congr 1
    exact cutB_nought t fun x hx => h x (List.mem_cons_of_mem _ hx)
theorem cut_fold : ∀ (x : List (Str × Int)) (l : Int) (acc : List (Str × Int)), (∀ r ∈ x, 1 ≤ r.2) → 0 ≤ l → (takeR x l ++ posR (cutB x l)).foldl joinStep acc = x.foldl joinStep acc
  | [], _, _, _, _ => rfl
  | r :: t, l, acc, h, hl => by
    have h1 := h r (List.mem_cons_self ..)
    have ht : ∀ x ∈ t, 1 ≤ x.2 := fun x hx => h x (List.mem_cons_of_mem _ hx)
    obtain ⟨z, n⟩ := r
    have h1 : 1 ≤ n := h1
    by_cases h0 : 0 < l
    · have e : max 0 (min l n) = min l n := by omega
      simp only [cutB, takeR, e]
      rw [if_pos h0]
      by_cases hn : n ≤ l
      · have e1 : posR ((z, n - min l n) :: cutB t (l - min l n)) = posR (cutB t (l - n)) := by
          rw [show l - min l n = l - n by omega]
          unfold posR
          rw [List.filter_cons_of_neg (by simp; omega)]
        rw [e1, show min l n = n by omega]
        show (takeR t (l - n) ++ posR (cutB t (l - n))).foldl joinStep (joinStep acc (z, n)) = _
        rw [cut_fold t (l - n) _ ht (by omega)]
        rfl
      · have e1 : posR ((z, n - min l n) :: cutB t (l - min l n)) = (z, n - l) :: t := by
          rw [show l - min l n = 0 by omega, show n - min l n = n - l by omega]
          have := cutB_nought t ht
          unfold posR at this ⊢
          rw [List.filter_cons_of_pos (by simp; omega), this]
        rw [e1, takeR_nought t _ ht (by omega), show min l n = l by omega]
        show t.foldl joinStep (joinStep (joinStep acc (z, l)) (z, n - l)) = t.foldl joinStep (joinStep acc (z, n))
        rw [step_same, show l + (n - l) = n by omega]
    · have l0 : l = 0 := by omega
      subst l0
      rw [takeR_nought _ _ h (by omega), cutB_nought _ h]
      rfl
theorem take_sum : ∀ (x : List (Str × Int)) (l : Int), (∀ r ∈ x, 1 ≤ r.2) → 0 ≤ l → l ≤ sumL x → sumL (takeR x l) = l
  | [], l, _, h0, h1 => by rw [sumL_nil] at h1; simp only [takeR, sumL_nil]; omega
  | r :: t, l, h, h0, hl => by
    have h1 := h r (List.mem_cons_self ..)
    have ht : ∀ x ∈ t, 1 ≤ x.2 := fun x hx => h x (List.mem_cons_of_mem _ hx)
    rw [sumL_cons] at hl
    simp only [takeR]
    by_cases hp : 0 < l
    · rw [if_pos hp, sumL_cons]
      by_cases hn : r.2 ≤ l
      · rw [take_sum t _ ht (by omega) (by omega)]
        show min l r.2 + _ = l
        omega
      · rw [takeR_nought t _ ht (by omega), sumL_nil]
        show min l r.2 + 0 = l
        omega
    · rw [if_neg hp, takeR_nought t _ ht (by omega), sumL_nil]; omega
theorem take_all : ∀ (x : List (Str × Int)), (∀ r ∈ x, 1 ≤ r.2) → takeR x (sumL x) = x
  | [], _ => rfl
  | r :: t, h => by
    have h1 := h r (List.mem_cons_self ..)
    have ht : ∀ x ∈ t, 1 ≤ x.2 := fun x hx => h x (List.mem_cons_of_mem _ hx)
    have hs : ∀ (y : List (Str × Int)), (∀ r ∈ y, 1 ≤ r.2) → 0 ≤ sumL y := by
      intro y
      induction y with
      | nil => intro _; rw [sumL_nil]; omega
      | cons s u ih => intro g; rw [sumL_cons]; have := ih fun x hx => g x (List.mem_cons_of_mem _ hx); have := g s (List.mem_cons_self ..); omega
    have := hs t ht
    simp only [takeR, sumL_cons]
    rw [if_pos (by omega), show r.2 + sumL t - r.2 = sumL t by omega, take_all t ht, show min (r.2 + sumL t) r.2 = r.2 by omega]
theorem cutA_app : ∀ (x y : List (Str × Int)) (l : Int), cutA (x ++ y) l = cutA x l ++ cutA y (l - sumL (cutA x l))
  | [], y, l => by simp [cutA, sumL_nil]
  | r :: t, y, l => by
    simp only [List.cons_append, cutA, sumL_cons, cutA_app t y]
    rw [show l - max 0 (min l r.2) - sumL (cutA t (l - max 0 (min l r.2))) = l - (max 0 (min l r.2) + sumL (cutA t (l - max 0 (min l r.2)))) by omega]
theorem cutB_app : ∀ (x y : List (Str × Int)) (l : Int), cutB (x ++ y) l = cutB x l ++ cutB y (l - sumL (cutA x l))
  | [], y, l => by simp [cutA, cutB, sumL_nil]
  | r :: t, y, l => by
    simp only [List.cons_append, cutA, cutB, sumL_cons, cutB_app t y]
    rw [show l - max 0 (min l r.2) - sumL (cutA t (l - max 0 (min l r.2))) = l - (max 0 (min l r.2) + sumL (cutA t (l - max 0 (min l r.2)))) by omega]
theorem cutA_len : ∀ (x : List (Str × Int)) (l : Int), (cutA x l).length = x.length
  | [], _ => rfl
  | r :: t, l => by simp [cutA, cutA_len t]
theorem cutB_len : ∀ (x : List (Str × Int)) (l : Int), (cutB x l).length = x.length
  | [], _ => rfl
  | r :: t, l => by simp [cutB, cutB_len t]
theorem cutA_mem {C : Str → Prop} : ∀ (x : List (Str × Int)) (l : Int), (∀ r ∈ x, C r.1) → ∀ r ∈ cutA x l, C r.1
  | [], _, _, r, h => by cases h
  | s :: t, l, hx, r, h => by
    simp only [cutA] at h
    rcases List.mem_cons.mp h with q | q
    · rw [q]; exact hx s (List.mem_cons_self ..)
    · exact cutA_mem t _ (fun y hy => hx y (List.mem_cons_of_mem _ hy)) r q
theorem cutB_mem {C : Str → Prop} : ∀ (x : List (Str × Int)) (l : Int), (∀ r ∈ x, C r.1) → ∀ r ∈ cutB x l, C r.1
  | [], _, _, r, h => by cases h
  | s :: t, l, hx, r, h => by
    simp only [cutB] at h
    rcases List.mem_cons.mp h with q | q
    · rw [q]; exact hx s (List.mem_cons_self ..)
    · exact cutB_mem t _ (fun y hy => hx y (List.mem_cons_of_mem _ hy)) r q
def lawAt : List (Str × Int) → Int → Option Str
  | [], _ => none
  | r :: t, l => if 0 ≤ l ∧ l < r.2 then some r.1 else lawAt t (l - r.2)
theorem lawAt_neg : ∀ (x : List (Str × Int)) (l : Int), (∀ r ∈ x, 1 ≤ r.2) → l < 0 → lawAt x l = none
  | [], _, _, _ => rfl
  | r :: t, l, h, hl => by
    have h1 := h r (List.mem_cons_self ..)
    simp only [lawAt]
    rw [if_neg (by omega)]
    exact lawAt_neg t _ (fun x hx => h x (List.mem_cons_of_mem _ hx)) (by omega)
theorem lawAt_pos : ∀ (x : List (Str × Int)) (l : Int), 0 ≤ l → lawAt x l = atR x l
  | [], _, _ => rfl
  | r :: t, l, hl => by
    simp only [lawAt, atR]
    by_cases h : l < r.2
    · rw [if_pos ⟨hl, h⟩, if_pos h]
    · rw [if_neg (fun q => h q.2), if_neg h]
      exact lawAt_pos t _ (by omega)
def optV : Option Str → V
  | some z => .str z
  | none => .non
end Aq
/-! unpacking a list or a tuple; runs given as lists or tuples -/
namespace Aq
open PySem PySem.Spec PyProof.Rows L2 Evl
def gSq (K : PySem.W.Frag) (n : Nat) (t : TGs) : TG := fun v σ H Q => ∃ a xs, v = .ref a ∧ (SqT K H a xs ∨ SqL K H a xs) ∧ xs.length = n ∧ t xs σ H Q
theorem pg_sqK {X : Cx} {K : PySem.W.Frag} {es : List Expr} {k n : Nat} {t : TGs} {pos : Pos} (hc : X.calm = true) (h : PGs X es t) (hn : (assignEach es X.env).length = n := by rfl) (hst : (assignEach es X.env).findIdx? (·.1) = none := by rfl) (hK : X.K = K := by rfl) : PG X (.Tuple es k pos) (gSq K n t) := by
  subst hK
  refine ⟨fun pins s σ H v u Q I r hw => ?_⟩
  obtain ⟨b, xs, e1, hq, hl, hw⟩ := hw
  rcases hq with hq | hq
  · exact (pg_tup hc h hn hst).run pins s σ H v u Q I r ⟨b, xs, e1, hq, hl, hw⟩
  · exact (pg_lst hc h hn hst).run pins s σ H v u Q I r ⟨b, xs, e1, hq, hl, hw⟩
theorem gS2 {K : PySem.W.Frag} {n i j : Nat} {p : Addr} {x y : V} {σ : L2.St} {H : Hp} {R : L2.St → Hp → Prop} (hn : 2 = n) (h : SqT K H p [x, y] ∨ SqL K H p [x, y]) (q : R ((σ.set i (some x)).set j (some y)) H) : gSq K n (gCons (gName i) (gCons (gName j) gNil)) (.ref p) σ H R :=
  ⟨p, [x, y], rfl, h, hn, x, [y], rfl, y, [], rfl, rfl, q⟩
section
variable {K : PySem.W.Frag} {H H' : Hp}
/-- pairs, each a list or a tuple -/
inductive PS (K : PySem.W.Frag) (H : Hp) : List V → List (Str × Int) → Prop
  | nil : PS K H [] []
  | cons {p : Addr} {z : Str} {n : Int} {vs : List V} {rs : List (Str × Int)} (h : SqT K H p [.str z, .int n] ∨ SqL K H p [.str z, .int n]) (t : PS K H vs rs) : PS K H (.ref p :: vs) ((z, n) :: rs)
theorem sql_ex {p : Addr} {xs : List V} (h : SqL K H p xs) (e : Ex H H') : SqL K H' p xs := h.imp (fun h => h.imp (fun h => e _ _ h) (fun ⟨o, h⟩ => ⟨o, e _ _ h⟩)) id
theorem PS.ex {vs : List V} {rs : List (Str × Int)} (h : PS K H vs rs) (e : Ex H H') : PS K H' vs rs := by
  induction h with
  | nil => exact .nil
  | cons h _ ih => exact .cons (h.imp (fun h => sqt_kt h (.of e)) (fun h => sql_ex h e)) ih
theorem PS.app {vs ws : List V} {rs ts : List (Str × Int)} (h : PS K H vs rs) (k : PS K H ws ts) : PS K H (vs ++ ws) (rs ++ ts) := by
  induction h with
  | nil => exact k
  | cons h _ ih => exact .cons h ih
theorem PS.len {vs : List V} {rs : List (Str × Int)} (h : PS K H vs rs) : vs.length = rs.length := by
  induction h with
  | nil => rfl
  | cons _ _ ih => simp [ih]
theorem PS.get {vs : List V} {rs : List (Str × Int)} (h : PS K H vs rs) : ∀ {i : Nat} {v : V}, vs[i]? = some v → ∃ r p, rs[i]? = some r ∧ v = .ref p ∧ (SqT K H p [.str r.1, .int r.2] ∨ SqL K H p [.str r.1, .int r.2]) := by
  induction h with
  | nil => intro i v e; simp at e
  | @cons p z n vs rs h _ ih =>
    intro i v e
    cases i with
    | zero => simp at e; subst e; exact ⟨(z, n), p, rfl, rfl, h⟩
    | succ i => simpa using ih (by simpa using e)
theorem PR.ps : ∀ {vs : List V} {rs : List (Str × Int)}, PR K H vs rs → PS K H vs rs
  | [], [], _ => .nil
  | [], _ :: _, h => by cases h
  | v :: vs, rs, h => by
    obtain ⟨r, t, rfl, h1, h2⟩ := h.inv
    obtain ⟨p, rfl, s⟩ := pr_inv h1
    exact .cons (.inl s) (PR.ps h2)
end
section
variable {K : PySem.W.Frag} {H H' : Hp}
/-- pairs, each a made tuple -/
inductive PT (H : Hp) : List V → List (Str × Int) → Prop
  | nil : PT H [] []
  | cons {p : Addr} {z : Str} {n : Int} {vs : List V} {rs : List (Str × Int)} (h : H p = some (.tup [.str z, .int n])) (t : PT H vs rs) : PT H (.ref p :: vs) ((z, n) :: rs)
theorem PT.kt {vs : List V} {rs : List (Str × Int)} (h : PT H vs rs) (k : Kt H H') : PT H' vs rs := by
  induction h with
  | nil => exact .nil
  | cons h _ ih => exact .cons ((k _).1 _ h) ih
theorem PT.ex {vs : List V} {rs : List (Str × Int)} (h : PT H vs rs) (e : Ex H H') : PT H' vs rs := h.kt (.of e)
theorem PT.app {vs ws : List V} {rs ts : List (Str × Int)} (h : PT H vs rs) (k : PT H ws ts) : PT H (vs ++ ws) (rs ++ ts) := by
  induction h with
  | nil => exact k
  | cons h _ ih => exact .cons h ih
theorem PT.len {vs : List V} {rs : List (Str × Int)} (h : PT H vs rs) : vs.length = rs.length := by
  induction h with
  | nil => rfl
  | cons _ _ ih => simp [ih]
theorem PT.pr {vs : List V} {rs : List (Str × Int)} (h : PT H vs rs) : PR K H vs rs := by
  induction h with
  | nil => exact .nil
  | cons h _ ih => exact .cons (pr_one (st_of h)) ih
theorem PT.get {vs : List V} {rs : List (Str × Int)} (h : PT H vs rs) : ∀ {i : Nat} {v : V}, vs[i]? = some v → ∃ r p, rs[i]? = some r ∧ v = .ref p ∧ H p = some (.tup [.str r.1, .int r.2]) := by
  induction h with
  | nil => intro i v e; simp at e
  | @cons p z n vs rs h _ ih =>
    intro i v e
    cases i with
    | zero => simp at e; subst e; exact ⟨(z, n), p, rfl, rfl, h⟩
    | succ i => simpa using ih (by simpa using e)
theorem PT.snoc {vs : List V} {rs : List (Str × Int)} (h : PT H vs rs) : vs ≠ [] → ∃ ws p ts r, vs = ws ++ [.ref p] ∧ rs = ts ++ [r] ∧ PT H ws ts ∧ H p = some (.tup [.str r.1, .int r.2]) := by
  induction h with
  | nil => intro n; exact absurd rfl n
  | @cons p z n vs rs h t ih =>
    intro _
    cases t with
    | nil => exact ⟨[], p, [], (z, n), rfl, rfl, .nil, h⟩
    | @cons p2 z2 n2 vs2 rs2 h2 t2 =>
      obtain ⟨ws, q, ts, r, e1, e2, h3, h4⟩ := ih (by simp)
      exact ⟨.ref p :: ws, q, (z, n) :: ts, r, by rw [e1]; rfl, by rw [e2]; rfl, .cons h h3, h4⟩
end
theorem call_list_ofK {X : Cx} {K : PySem.W.Frag} (hK : X.K = K := by rfl) : CallR X (.type "list") (fun xs H Q => ∃ p ys, xs = [.ref p] ∧ (SqL K H p ys ∨ SqT K H p ys) ∧ ∀ l, H l = none → Q (.ref l) (upd H l (.lst ys))) := hK ▸ call_list_of
/-! ### own methods without arguments that may raise -/
section
variable {X : Cx} {k j : Nat} {C : Addr} {m : Str} {ps : List Str} {sp : Sp} {o : Expr} {ta : TE} {apos pos : Pos} {W : WX}
theorem pe_meth0X {pl : Sem Bool} (c : MthX X.prog X.w X.K X.mg X.base k C m ps sp) (hr : Room j X.A) (tk : Takes X W) (ho : PE X o ta) (hk : k ≤ j := by decide)
    (ht : eval (.Call (.Attribute o m apos) [] [] pos) X.env = (do
      let ov ← eval o X.env
      standAt apos.atName
      let (f, first) ← holding [ov] (getMethod ov m pl)
      callWith pos f first (backTo pos (starEach [] X.env)) (backToKw pos (keywordEach [] X.env))) := by rfl) : PE X (.Call (.Attribute o m apos) [] [] pos) (tMethW C m sp W ta tNil) := by
  obtain ⟨f, fd, M, F, b⟩ := c.ex
  constructor
  intro pins s σ H Q I h
  refine PySem.W.methodCall_KW (pl := pl) (thn (ho.run pins s σ H _ I h) ?_) ht
  rintro u s1 ⟨x, H1, I1, rx, a, dx, fs, rfl, ea, lk, q⟩
  cases rx
  refine getmeth_ok I1 ea c.cl M lk (PySem.W.callWith_K0 (first := [.ref a]) I1.kIn M.kp ?_)
  exact runA (us := [.ref a]) (vs := [.ref a]) F (hr.mono hk) b .nil (passAt tk) I1 (.cons rfl .nil) q
theorem pe_meth0X0 {pl : Sem Bool} (c : MthX X.prog X.w X.K X.mg X.base k C m ps sp) (hr : Room j X.A) (ho : PE X o ta) (hk : k ≤ j := by decide)
    (ht : eval (.Call (.Attribute o m apos) [] [] pos) X.env = (do
      let ov ← eval o X.env
      standAt apos.atName
      let (f, first) ← holding [ov] (getMethod ov m pl)
      callWith pos f first (backTo pos (starEach [] X.env)) (backToKw pos (keywordEach [] X.env))) := by rfl) : PE X (.Call (.Attribute o m apos) [] [] pos) (tMeth C m sp [] E0 ta tNil) := by
  obtain ⟨f, fd, M, F, b⟩ := c.ex
  exact pe_meth0 ho c.cl M F (hr.mono hk) b .nil passX0 ht
end
/-! ### comprehensions with two clauses -/
section
variable {J J1 : It} {C C1 : Hp → Prop} {n n1 : Nat} {Y Y1 : Nat → V → Hp → Prop} {σ σ2 : L2.St} {H H1 H4 : Hp} {Q : VK} {g g1 : TG} {wi wi1 : TI} {tt tt1 : TT} {te : TE} {vs vs1 : List Nat}
/-- the inner loop -/
theorem lc_in {D : Addr} {Qd : Hp → Prop} (y : Yl J1 C1 n1 Y1) (Pv : Nat → Hp → Prop) (hC : ∀ i H, i ≤ n1 → Pv i H → C1 H) (h0 : Pv 0 H4)
    (hs : ∀ i x H H', i < n1 → Pv i H → Ex H H' → Y1 i x H' → g1 x (wipe σ2 vs1) H' fun σ3 H5 => wipe σ3 vs1 = wipe σ2 vs1 ∧ tt1 σ3 H5 fun b H6 =>
      if b = true then te σ3 H6 fun y H7 => ∃ acc, H7 D = some (.lst acc) ∧ acc.length < sizeLine ∧ Pv (i + 1) (upd H7 D (.lst (acc ++ [y]))) else Pv (i + 1) H6) (hd : ∀ H, Pv n1 H → Qd H) :
    ∃ W1 : Nat → Nat → Hp → Prop, (∃ m, W1 0 m H4) ∧ ∀ j k H, W1 j k H →
      (J1.stop j H ∧ Qd H) ∨ (J1.go j H ∧ ∃ Nx1 : Hp → Prop, (∀ H', Nx1 H' → ∃ k', k' < k ∧ W1 (j + 1) k' H') ∧ ∀ x H', J1.yld j H x H' → g1 x (wipe σ2 vs1) H' fun σ3 H5 => wipe σ3 vs1 = wipe σ2 vs1 ∧ tt1 σ3 H5 fun b H6 =>
        if b = true then te σ3 H6 fun y H7 => ∃ acc, H7 D = some (.lst acc) ∧ acc.length < sizeLine ∧ Nx1 (upd H7 D (.lst (acc ++ [y]))) else Nx1 H6) := by
  refine ⟨fun i m H => m = n1 - i ∧ i ≤ n1 ∧ Pv i H, ⟨n1, by simp, Nat.zero_le _, h0⟩, ?_⟩
  rintro i m H ⟨rfl, hi, p⟩
  by_cases hlt : i < n1
  · refine .inr ⟨y.go i H (hC i H hi p) hlt, Pv (i + 1), fun H' p' => ⟨n1 - (i + 1), by omega, rfl, hlt, p'⟩, fun x H' q => ?_⟩
    obtain ⟨e, q⟩ := y.yld i H x H' (hC i H hi p) hlt q
    exact hs i x H H' hlt p e q
  · have e : i = n1 := by omega
    subst e
    exact .inl ⟨y.stop H (hC i H hi p), hd H p⟩
theorem rd_lc2Y (hw : ∀ R : It → Hp → Prop, R J H1 → wi σ H R) (y : Yl J C n Y) (Pv : Addr → Nat → Hp → Prop) (hC : ∀ D i H, i ≤ n → Pv D i H → C H) (h0 : ∀ D, H1 D = none → Pv D 0 (upd H1 D (.lst [])))
    (hs : ∀ D i x H H', i < n → Pv D i H → Ex H H' → Y i x H' → g x (wipe σ vs) H' fun σ2 H2 => wipe σ2 vs = wipe σ vs ∧ tt σ2 H2 fun b H3 =>
      if b = true then wi1 σ2 H3 fun J1 H4 => ∃ W1 : Nat → Nat → Hp → Prop, (∃ m, W1 0 m H4) ∧ ∀ j k H, W1 j k H →
        (J1.stop j H ∧ Pv D (i + 1) H) ∨ (J1.go j H ∧ ∃ Nx1 : Hp → Prop, (∀ H', Nx1 H' → ∃ k', k' < k ∧ W1 (j + 1) k' H') ∧ ∀ x H', J1.yld j H x H' → g1 x (wipe σ2 vs1) H' fun σ3 H5 => wipe σ3 vs1 = wipe σ2 vs1 ∧ tt1 σ3 H5 fun b H6 =>
          if b = true then te σ3 H6 fun y H7 => ∃ acc, H7 D = some (.lst acc) ∧ acc.length < sizeLine ∧ Nx1 (upd H7 D (.lst (acc ++ [y]))) else Nx1 H6)
      else Pv D (i + 1) H3) (hd : ∀ D H, Pv D n H → Q (.ref D) H) :
    tLc2 wi g tt wi1 g1 tt1 te vs vs1 σ H Q := hw _ fun D hD => by
  refine ⟨fun i m H => m = n - i ∧ i ≤ n ∧ Pv D i H, ⟨n, by simp, Nat.zero_le _, h0 D hD⟩, ?_⟩
  rintro i m H ⟨rfl, hi, p⟩
  by_cases hlt : i < n
  · refine .inr ⟨y.go i H (hC D i H hi p) hlt, Pv D (i + 1), fun H' p' => ⟨n - (i + 1), by omega, rfl, hlt, p'⟩, fun x H' q => ?_⟩
    obtain ⟨e, q⟩ := y.yld i H x H' (hC D i H hi p) hlt q
    exact hs D i x H H' hlt p e q
  · have e : i = n := by omega
    subst e
    exact .inl ⟨y.stop H (hC D i H hi p), hd D H p⟩
end
/-! ### runs written out -/
def flatR (rs : List (Str × Int)) : List Str := rs.flatMap fun r => List.replicate r.2.toNat r.1
theorem flatR_nil : flatR [] = [] := rfl
theorem flatR_cons (r : Str × Int) (t : List (Str × Int)) : flatR (r :: t) = List.replicate r.2.toNat r.1 ++ flatR t := rfl
theorem flatR_app (x y : List (Str × Int)) : flatR (x ++ y) = flatR x ++ flatR y := by
  induction x with
  | nil => rfl
  | cons r t ih => rw [List.cons_append, flatR_cons, flatR_cons, ih, List.append_assoc]
theorem flat_len : ∀ (x : List (Str × Int)), (∀ r ∈ x, 1 ≤ r.2) → ((flatR x).length : Int) = sumL x
  | [], _ => rfl
  | r :: t, h => by
    have ih := flat_len t fun y hy => h y (List.mem_cons_of_mem _ hy)
    have := h r (List.mem_cons_self ..)
    rw [flatR_cons, List.length_append, List.length_replicate, sumL_cons]
    omega
theorem flat_step {acc : List (Str × Int)} {r : Str × Int} (h : ∀ x ∈ acc, 1 ≤ x.2) (hr : 1 ≤ r.2) : flatR (joinStep acc r) = flatR acc ++ flatR [r] := by
  rcases List.eq_nil_or_concat acc with rfl | ⟨t, s, rfl⟩
  · rfl
  · rw [List.concat_eq_append] at *
    obtain ⟨y, m⟩ := s
    obtain ⟨z, n⟩ := r
    have hm : 1 ≤ m := h (y, m) (by simp)
    have hn : 1 ≤ n := hr
    rw [joinStep_snoc]
    by_cases hy : y = z
    · subst hy
      rw [if_pos rfl, flatR_app, flatR_app, List.append_assoc]
      congr 1
      show List.replicate (m + n).toNat y ++ [] = (List.replicate m.toNat y ++ []) ++ (List.replicate n.toNat y ++ [])
      rw [List.append_nil, List.append_nil, List.append_nil, Int.toNat_add (by omega) (by omega), List.replicate_append_replicate]
    · rw [if_neg hy, flatR_app]
theorem flat_join {rs : List (Str × Int)} (h : ∀ x ∈ rs, 1 ≤ x.2) : flatR (joinR rs) = flatR rs := by
  have : ∀ (rs acc : List (Str × Int)), (∀ x ∈ rs, 1 ≤ x.2) → (∀ x ∈ acc, 1 ≤ x.2) → flatR (rs.foldl joinStep acc) = flatR acc ++ flatR rs := by
    intro rs
    induction rs with
    | nil => intro acc _ _; rw [flatR_nil, List.append_nil]; rfl
    | cons r t ih =>
      intro acc h1 h2
      have hr := h1 r (List.mem_cons_self ..)
      rw [List.foldl_cons, ih _ (fun x hx => h1 x (List.mem_cons_of_mem _ hx)) (step_pos h2 hr), flat_step h2 hr, List.append_assoc, ← flatR_app]
      rfl
  exact this rs [] h (by simp)
def unitR (ws : List Str) : List (Str × Int) := ws.map fun z => (z, 1)
theorem unit_pos (ws : List Str) : ∀ x ∈ unitR ws, 1 ≤ x.2 := fun x hx => by
  obtain ⟨z, _, rfl⟩ := List.mem_map.mp hx
  exact Int.le_refl _
theorem fold_units (z : Str) : ∀ (n : Nat) (acc : List (Str × Int)), (List.replicate (n + 1) (z, (1 : Int))).foldl joinStep acc = joinStep acc (z, ((n + 1 : Nat) : Int))
  | 0, acc => rfl
  | n + 1, acc => by
    rw [List.replicate_succ', List.foldl_append, fold_units z n acc]
    show joinStep (joinStep acc (z, ((n + 1 : Nat) : Int))) (z, 1) = _
    rw [step_same]; rfl
theorem join_unit {rs : List (Str × Int)} (h : ∀ x ∈ rs, 1 ≤ x.2) : joinR (unitR (flatR rs)) = joinR rs := by
  have : ∀ (rs acc : List (Str × Int)), (∀ x ∈ rs, 1 ≤ x.2) → (unitR (flatR rs)).foldl joinStep acc = rs.foldl joinStep acc := by
    intro rs
    induction rs with
    | nil => intro acc _; rfl
    | cons r t ih =>
      intro acc h1
      have hr := h1 r (List.mem_cons_self ..)
      rw [flatR_cons]
      unfold unitR
      rw [List.map_append, List.foldl_append, List.map_replicate]
      obtain ⟨z, n⟩ := r
      have hr : 1 ≤ n := hr
      obtain ⟨k, hk⟩ : ∃ k : Nat, n = ((k + 1 : Nat) : Int) := ⟨n.toNat - 1, by omega⟩
      subst hk
      rw [Int.toNat_natCast, fold_units]
      exact ih _ fun x hx => h1 x (List.mem_cons_of_mem _ hx)
  exact this rs [] h
theorem atR_flat : ∀ (rs : List (Str × Int)) (k : Nat), (∀ x ∈ rs, 1 ≤ x.2) → atR rs (k : Nat) = (flatR rs)[k]?
  | [], k, _ => rfl
  | (z, n) :: t, k, h => by
    have hn : 1 ≤ n := h (z, n) (List.mem_cons_self ..)
    rw [flatR_cons]
    show (if ((k : Nat) : Int) < n then some z else atR t ((k : Nat) - n)) = _
    by_cases c : ((k : Nat) : Int) < n
    · rw [if_pos c, List.getElem?_append_left (by rw [List.length_replicate]; show k < n.toNat; omega), List.getElem?_replicate, if_pos (show k < n.toNat by omega)]
    · rw [if_neg c, List.getElem?_append_right (by rw [List.length_replicate]; show n.toNat ≤ k; omega), List.length_replicate]
      have e : ((k : Nat) : Int) - n = ((k - n.toNat : Nat) : Int) := by omega
      rw [e]
      exact atR_flat t _ fun x hx => h x (List.mem_cons_of_mem _ hx)
end Aq
namespace K03
open PySem L2 Aq Evl
def top (i : Nat) : Stmt := PySem.Challenge.pw_asksmore_k03_histories.main.body.getD i (.Pass ⟨0, 0, 0, 0⟩)
abbrev s_is_list : Stmt := top 16
abbrev N_is_list : List Str := ["value"]
theorem sc_is_list : FnScope N_is_list ["value"] (defScope s_is_list) := ⟨rfl, rfl, rfl, by decide +kernel, rfl, by decide +kernel, by decide +kernel⟩
abbrev s_is_integer : Stmt := top 17
abbrev N_is_integer : List Str := ["value"]
theorem sc_is_integer : FnScope N_is_integer ["value"] (defScope s_is_integer) := ⟨rfl, rfl, rfl, by decide +kernel, rfl, by decide +kernel, by decide +kernel⟩
abbrev s_is_word : Stmt := top 18
abbrev N_is_word : List Str := ["value", "sign"]
theorem sc_is_word : FnScope N_is_word ["value"] (defScope s_is_word) := ⟨rfl, rfl, rfl, by decide +kernel, rfl, by decide +kernel, by decide +kernel⟩
abbrev s_is_beginning : Stmt := top 19
abbrev N_is_beginning : List Str := ["value"]
theorem sc_is_beginning : FnScope N_is_beginning ["value"] (defScope s_is_beginning) := ⟨rfl, rfl, rfl, by decide +kernel, rfl, by decide +kernel, by decide +kernel⟩
abbrev s_is_letter : Stmt := top 20
abbrev N_is_letter : List Str := ["value", "word"]
theorem sc_is_letter : FnScope N_is_letter ["value"] (defScope s_is_letter) := ⟨rfl, rfl, rfl, by decide +kernel, rfl, by decide +kernel, by decide +kernel⟩
abbrev s_Letters___init__ : Stmt := inClass (top 21) 0
abbrev N_Letters___init__ : List Str := ["self", "words", "index", "word"]
theorem sc_Letters___init__ : FnScope N_Letters___init__ ["self", "words"] (defScope s_Letters___init__) := ⟨rfl, rfl, rfl, by decide +kernel, rfl, by decide +kernel, by decide +kernel⟩
abbrev s_Letters___contains__ : Stmt := inClass (top 21) 2
abbrev N_Letters___contains__ : List Str := ["self", "x"]
theorem sc_Letters___contains__ : FnScope N_Letters___contains__ ["self", "x"] (defScope s_Letters___contains__) := ⟨rfl, rfl, rfl, by decide +kernel, rfl, by decide +kernel, by decide +kernel⟩
abbrev s_Letters___eq__ : Stmt := inClass (top 21) 5
abbrev N_Letters___eq__ : List Str := ["self", "other"]
theorem sc_Letters___eq__ : FnScope N_Letters___eq__ ["self", "other"] (defScope s_Letters___eq__) := ⟨rfl, rfl, rfl, by decide +kernel, rfl, by decide +kernel, by decide +kernel⟩
abbrev s_need_beginning : Stmt := top 26
abbrev N_need_beginning : List Str := ["beginning"]
theorem sc_need_beginning : FnScope N_need_beginning ["beginning"] (defScope s_need_beginning) := ⟨rfl, rfl, rfl, by decide +kernel, rfl, by decide +kernel, by decide +kernel⟩
abbrev s_need_runs : Stmt := top 27
abbrev N_need_runs : List Str := ["letters", "runs", "index", "run"]
theorem sc_need_runs : FnScope N_need_runs ["letters", "runs"] (defScope s_need_runs) := ⟨rfl, rfl, rfl, by decide +kernel, rfl, by decide +kernel, by decide +kernel⟩
abbrev s_join_runs : Stmt := top 28
abbrev N_join_runs : List Str := ["runs", "found", "letter", "count"]
theorem sc_join_runs : FnScope N_join_runs ["runs"] (defScope s_join_runs) := ⟨rfl, rfl, rfl, by decide +kernel, rfl, by decide +kernel, by decide +kernel⟩
abbrev s_History___init__ : Stmt := inClass (top 29) 0
abbrev N_History___init__ : List Str := ["self", "letters", "beginning", "runs", "ahead", "joined", "letter", "count"]
theorem sc_History___init__ : FnScope N_History___init__ ["self", "letters", "beginning", "runs", "ahead"] (defScope s_History___init__) := ⟨rfl, rfl, rfl, by decide +kernel, rfl, by decide +kernel, by decide +kernel⟩
abbrev s_History___getitem__ : Stmt := inClass (top 29) 2
abbrev N_History___getitem__ : List Str := ["self", "place", "left", "letter", "count"]
theorem sc_History___getitem__ : FnScope N_History___getitem__ ["self", "place"] (defScope s_History___getitem__) := ⟨rfl, rfl, rfl, by decide +kernel, rfl, by decide +kernel, by decide +kernel⟩
abbrev s_History___eq__ : Stmt := inClass (top 29) 5
abbrev N_History___eq__ : List Str := ["self", "other"]
theorem sc_History___eq__ : FnScope N_History___eq__ ["self", "other"] (defScope s_History___eq__) := ⟨rfl, rfl, rfl, by decide +kernel, rfl, by decide +kernel, by decide +kernel⟩
abbrev s_History_word : Stmt := inClass (top 29) 6
abbrev N_History_word : List Str := ["self", "step", "letter", "count"]
theorem sc_History_word : FnScope N_History_word ["self"] (defScope s_History_word) := ⟨rfl, rfl, rfl, by decide +kernel, rfl, by decide +kernel, by decide +kernel⟩
abbrev s__law_pen : Stmt := top 31
abbrev N__law_pen : List Str := ["_law_script"]
theorem sc__law_pen : FnScope N__law_pen ["_law_script"] (defScope s__law_pen) := ⟨rfl, rfl, rfl, by decide +kernel, rfl, by decide +kernel, by decide +kernel⟩
abbrev s__law_draw : Stmt := top 32
abbrev N__law_draw : List Str := ["_law_pen_here", "_law_many", "_law_told", "_law_blend", "_law_digit", "_law_place", "_law_size"]
theorem sc__law_draw : FnScope N__law_draw ["_law_pen_here", "_law_many"] (defScope s__law_draw) := ⟨rfl, rfl, rfl, by decide +kernel, rfl, by decide +kernel, by decide +kernel⟩
abbrev s__law_pick : Stmt := top 33
abbrev N__law_pick : List Str := ["_law_pen_here", "_law_options"]
theorem sc__law_pick : FnScope N__law_pick ["_law_pen_here", "_law_options"] (defScope s__law_pick) := ⟨rfl, rfl, rfl, by decide +kernel, rfl, by decide +kernel, by decide +kernel⟩
abbrev s__law_letters : Stmt := top 34
abbrev N__law_letters : List Str := ["_law_pen_here", "_law_many", "_law_stem", "_law_choice", "_law_k", "_law_small", "_law_signs", "_law_at_here", "_law_front", "_law_step", "_law_tail", "_law_found", "_law_sign", "_law_word"]
theorem sc__law_letters : FnScope N__law_letters ["_law_pen_here", "_law_many"] (defScope s__law_letters) := ⟨rfl, rfl, rfl, by decide +kernel, rfl, by decide +kernel, by decide +kernel⟩
abbrev s__law_joined : Stmt := top 35
abbrev N__law_joined : List Str := ["_law_runs", "_law_found", "_law_letter", "_law_count"]
theorem sc__law_joined : FnScope N__law_joined ["_law_runs"] (defScope s__law_joined) := ⟨rfl, rfl, rfl, by decide +kernel, rfl, by decide +kernel, by decide +kernel⟩
abbrev s__law_as_runs : Stmt := top 36
abbrev N__law_as_runs : List Str := ["_law_word", "_law_letter"]
theorem sc__law_as_runs : FnScope N__law_as_runs ["_law_word"] (defScope s__law_as_runs) := ⟨rfl, rfl, rfl, by decide +kernel, rfl, by decide +kernel, by decide +kernel⟩
abbrev s__law_beginning : Stmt := top 37
abbrev N__law_beginning : List Str := ["_law_pen_here"]
theorem sc__law_beginning : FnScope N__law_beginning ["_law_pen_here"] (defScope s__law_beginning) := ⟨rfl, rfl, rfl, by decide +kernel, rfl, by decide +kernel, by decide +kernel⟩
abbrev s__law_free : Stmt := top 38
abbrev N__law_free : List Str := ["_law_letters_here", "_law_word", "_law_k"]
theorem sc__law_free : FnScope N__law_free ["_law_letters_here"] (defScope s__law_free) := ⟨rfl, rfl, rfl, by decide +kernel, rfl, by decide +kernel, by decide +kernel⟩
abbrev s__law_at : Stmt := top 39
abbrev N__law_at : List Str := ["_law_made", "_law_place", "e"]
theorem sc__law_at : FnScope N__law_at ["_law_made", "_law_place"] (defScope s__law_at) := ⟨rfl, rfl, rfl, by decide +kernel, rfl, by decide +kernel, by decide +kernel⟩
abbrev s__law_all : Stmt := top 40
abbrev N__law_all : List Str := ["_law_made", "e"]
theorem sc__law_all : FnScope N__law_all ["_law_made"] (defScope s__law_all) := ⟨rfl, rfl, rfl, by decide +kernel, rfl, by decide +kernel, by decide +kernel⟩
abbrev s__law_is_right : Stmt := top 41
abbrev N__law_is_right : List Str := ["_law_made", "_law_letters_here", "_law_beginning_here", "_law_word", "_law_runs", "_law_k", "_law_odd", "_law_value"]
theorem sc__law_is_right : FnScope N__law_is_right ["_law_made", "_law_letters_here", "_law_beginning_here", "_law_word"] (defScope s__law_is_right) := ⟨rfl, rfl, rfl, by decide +kernel, rfl, by decide +kernel, by decide +kernel⟩
abbrev s__law_plain : Stmt := top 42
abbrev N__law_plain : List Str := ["_law_runs", "_law_found", "_law_letter", "_law_count"]
theorem sc__law_plain : FnScope N__law_plain ["_law_runs"] (defScope s__law_plain) := ⟨rfl, rfl, rfl, by decide +kernel, rfl, by decide +kernel, by decide +kernel⟩
abbrev s_law : Stmt := top 43
abbrev N_law : List Str := ["_law_script", "_law_pen_here", "_law_turn", "_law_runs", "_law_made", "_law_twin", "_law_others", "_law_bare", "_law_letters_here", "_law_beginning_here", "_law_given", "_law_word", "_law_k", "_law_run", "_law_other"]
theorem sc_law : FnScope N_law ["_law_script"] (defScope s_law) := ⟨rfl, rfl, rfl, by decide +kernel, rfl, by decide +kernel, by decide +kernel⟩
abbrev s_BadLetters___init__ : Stmt := inClass (top 3) 0
abbrev N_BadLetters___init__ : List Str := ["self", "index", "__class__"]
theorem sc_BadLetters___init__ : NdefX.NScope N_BadLetters___init__ ["self", "index"] ["__class__"] (defScope s_BadLetters___init__) := NdefX.nscope_by (by decide +kernel)
abbrev F_BadLetters (cc c : Addr) : NdefX.NF := ⟨"__init__", "BadLetters.__init__", defArgs s_BadLetters___init__, defBody s_BadLetters___init__, defScope s_BadLetters___init__, [("__class__", cc)], c⟩
abbrev s_BadLetter___init__ : Stmt := inClass (top 4) 0
abbrev N_BadLetter___init__ : List Str := ["self", "index", "__class__"]
theorem sc_BadLetter___init__ : NdefX.NScope N_BadLetter___init__ ["self", "index"] ["__class__"] (defScope s_BadLetter___init__) := NdefX.nscope_by (by decide +kernel)
abbrev F_BadLetter (cc c : Addr) : NdefX.NF := ⟨"__init__", "BadLetter.__init__", defArgs s_BadLetter___init__, defBody s_BadLetter___init__, defScope s_BadLetter___init__, [("__class__", cc)], c⟩
abbrev s_TooMany___init__ : Stmt := inClass (top 10) 0
abbrev N_TooMany___init__ : List Str := ["self", "what", "many", "most", "__class__"]
theorem sc_TooMany___init__ : NdefX.NScope N_TooMany___init__ ["self", "what", "many", "most"] ["__class__"] (defScope s_TooMany___init__) := NdefX.nscope_by (by decide +kernel)
abbrev F_TooMany (cc c : Addr) : NdefX.NF := ⟨"__init__", "TooMany.__init__", defArgs s_TooMany___init__, defBody s_TooMany___init__, defScope s_TooMany___init__, [("__class__", cc)], c⟩
abbrev s_BadRuns___init__ : Stmt := inClass (top 6) 0
abbrev N_BadRuns___init__ : List Str := ["self", "index", "__class__"]
theorem sc_BadRuns___init__ : NdefX.NScope N_BadRuns___init__ ["self", "index"] ["__class__"] (defScope s_BadRuns___init__) := NdefX.nscope_by (by decide +kernel)
abbrev F_BadRuns (cc c : Addr) : NdefX.NF := ⟨"__init__", "BadRuns.__init__", defArgs s_BadRuns___init__, defBody s_BadRuns___init__, defScope s_BadRuns___init__, [("__class__", cc)], c⟩
abbrev s_BadCount___init__ : Stmt := inClass (top 7) 0
abbrev N_BadCount___init__ : List Str := ["self", "index", "__class__"]
theorem sc_BadCount___init__ : NdefX.NScope N_BadCount___init__ ["self", "index"] ["__class__"] (defScope s_BadCount___init__) := NdefX.nscope_by (by decide +kernel)
abbrev F_BadCount (cc c : Addr) : NdefX.NF := ⟨"__init__", "BadCount.__init__", defArgs s_BadCount___init__, defBody s_BadCount___init__, defScope s_BadCount___init__, [("__class__", cc)], c⟩
abbrev s_BadPlace___init__ : Stmt := inClass (top 8) 0
abbrev N_BadPlace___init__ : List Str := ["self", "place", "__class__"]
theorem sc_BadPlace___init__ : NdefX.NScope N_BadPlace___init__ ["self", "place"] ["__class__"] (defScope s_BadPlace___init__) := NdefX.nscope_by (by decide +kernel)
abbrev F_BadPlace (cc c : Addr) : NdefX.NF := ⟨"__init__", "BadPlace.__init__", defArgs s_BadPlace___init__, defBody s_BadPlace___init__, defScope s_BadPlace___init__, [("__class__", cc)], c⟩
abbrev s_TooLong___init__ : Stmt := inClass (top 9) 0
abbrev N_TooLong___init__ : List Str := ["self", "size", "__class__"]
theorem sc_TooLong___init__ : NdefX.NScope N_TooLong___init__ ["self", "size"] ["__class__"] (defScope s_TooLong___init__) := NdefX.nscope_by (by decide +kernel)
abbrev F_TooLong (cc c : Addr) : NdefX.NF := ⟨"__init__", "TooLong.__init__", defArgs s_TooLong___init__, defBody s_TooLong___init__, defScope s_TooLong___init__, [("__class__", cc)], c⟩
structure Ad where
  Letters : Addr
  History : Addr
  BadLetters : Addr
  f_BadLetters___init__ : Addr
  BadLetter : Addr
  f_BadLetter___init__ : Addr
  TooMany : Addr
  f_TooMany___init__ : Addr
  BadBeginning : Addr
  BadRuns : Addr
  f_BadRuns___init__ : Addr
  BadCount : Addr
  f_BadCount___init__ : Addr
  BadPlace : Addr
  f_BadPlace___init__ : Addr
  TooLong : Addr
  f_TooLong___init__ : Addr
  MOST_LETTERS : Tok
  BEGINNINGS : Addr
  SMALL : Tok
  SIGNS : Tok
  MOST_RUNS : Tok
  MOST_COUNT : Tok
  MOST_WORD : Tok
  f_is_list : Addr
  f_is_integer : Addr
  f_is_word : Addr
  f_is_beginning : Addr
  f_is_letter : Addr
  f_Letters___init__ : Addr
  f_Letters___contains__ : Addr
  f_Letters___eq__ : Addr
  f_need_beginning : Addr
  f_need_runs : Addr
  f_join_runs : Addr
  f_History___init__ : Addr
  dp0_History___init__ : Addr
  dk_ahead_History___init__ : Addr
  f_History___getitem__ : Addr
  f_History___eq__ : Addr
  f_History_word : Addr
  f__law_pen : Addr
  f__law_draw : Addr
  f__law_pick : Addr
  f__law_letters : Addr
  f__law_joined : Addr
  f__law_as_runs : Addr
  f__law_beginning : Addr
  f__law_free : Addr
  f__law_at : Addr
  f__law_all : Addr
  f__law_is_right : Addr
  f__law_plain : Addr
  f_law : Addr
structure Txt (P : Program) (K : PySem.W.Frag) (mg : Str → Option Value) (a : Ad) : Prop where
  n_abs : mg "abs" = none
  n_all : mg "all" = none
  n_bool : mg "bool" = none
  n_enumerate : mg "enumerate" = none
  n_int : mg "int" = none
  n_isinstance : mg "isinstance" = none
  n_len : mg "len" = none
  n_list : mg "list" = none
  n_min : mg "min" = none
  n_range : mg "range" = none
  n_repr : mg "repr" = none
  n_str : mg "str" = none
  n_sum : mg "sum" = none
  n_tuple : mg "tuple" = none
  g_MOST_LETTERS : mg "MOST_LETTERS" = some (.int 12 a.MOST_LETTERS)
  g_BEGINNINGS : mg "BEGINNINGS" = some (.ref a.BEGINNINGS)
  k_BEGINNINGS : ∀ H, SqT K H a.BEGINNINGS [.str "new", .str "found"]
  g_SMALL : mg "SMALL" = some (.str "abcdefghijklmnopqrstuvwxyz" a.SMALL)
  g_SIGNS : mg "SIGNS" = some (.str "abcdefghijklmnopqrstuvwxyz0123456789" a.SIGNS)
  g_MOST_RUNS : mg "MOST_RUNS" = some (.int 400 a.MOST_RUNS)
  g_MOST_COUNT : mg "MOST_COUNT" = some (.int 1000000000000000000000000000000 a.MOST_COUNT)
  g_MOST_WORD : mg "MOST_WORD" = some (.int 2000 a.MOST_WORD)
  g_Letters : mg "Letters" = some (.ref a.Letters)
  cl_Letters : Cls K a.Letters
  na_Letters_words : NoAttr K a.Letters "words"
  ne_Letters : NeC K a.Letters
  isi_Letters : IsiC K a.Letters
  mk_Letters : Mk K a.Letters a.f_Letters___init__
  g_History : mg "History" = some (.ref a.History)
  cl_History : Cls K a.History
  na_History_letters : NoAttr K a.History "letters"
  na_History_beginning : NoAttr K a.History "beginning"
  na_History_runs : NoAttr K a.History "runs"
  na_History_size : NoAttr K a.History "size"
  na_History_last : NoAttr K a.History "last"
  ne_History : NeC K a.History
  isi_History : IsiC K a.History
  fn_History___getitem__ : PySem.W.fnIn K a.f_History___getitem__ = true
  mk_History : Mk K a.History a.f_History___init__
  g_BadLetters : mg "BadLetters" = some (.ref a.BadLetters)
  ex_BadLetters : ExmC K a.BadLetters
  em_BadLetters_BadLetters : PySem.W.exmOne K (.ref a.BadLetters) (.ref a.BadLetters) = some true
  em_BadLetter_BadLetters : PySem.W.exmOne K (.ref a.BadLetter) (.ref a.BadLetters) = some false
  em_TooMany_BadLetters : PySem.W.exmOne K (.ref a.TooMany) (.ref a.BadLetters) = some false
  em_BadBeginning_BadLetters : PySem.W.exmOne K (.ref a.BadBeginning) (.ref a.BadLetters) = some false
  em_BadRuns_BadLetters : PySem.W.exmOne K (.ref a.BadRuns) (.ref a.BadLetters) = some false
  em_BadCount_BadLetters : PySem.W.exmOne K (.ref a.BadCount) (.ref a.BadLetters) = some false
  em_BadPlace_BadLetters : PySem.W.exmOne K (.ref a.BadPlace) (.ref a.BadLetters) = some false
  em_TooLong_BadLetters : PySem.W.exmOne K (.ref a.TooLong) (.ref a.BadLetters) = some false
  xf_BadLetters : XfC K a.BadLetters
  xe_BadLetters : ExcC K a.BadLetters
  na_BadLetters_index : NoAttr K a.BadLetters "index"
  xi_BadLetters : ∃ cc c doc pm ctv, XI P K mg (F_BadLetters cc c) a.f_BadLetters___init__ a.BadLetters "self" doc pm ctv ∧ Binds K ((F_BadLetters cc c).fd doc pm ctv) ["self", "index"] []
  kv_BadLetters : PySem.W.kitOne K (.ref a.BadLetters) (.type "ValueError") = some true
  in_BadLetters : PySem.W.findIn K (.ref a.BadLetters) "__init__" = some (some (.ref a.f_BadLetters___init__))
  ty_BadLetters : PySem.W.typeIn K (.ref a.f_BadLetters___init__) = some (.type "function")
  g_BadLetter : mg "BadLetter" = some (.ref a.BadLetter)
  ex_BadLetter : ExmC K a.BadLetter
  em_BadLetters_BadLetter : PySem.W.exmOne K (.ref a.BadLetters) (.ref a.BadLetter) = some false
  em_BadLetter_BadLetter : PySem.W.exmOne K (.ref a.BadLetter) (.ref a.BadLetter) = some true
  em_TooMany_BadLetter : PySem.W.exmOne K (.ref a.TooMany) (.ref a.BadLetter) = some false
  em_BadBeginning_BadLetter : PySem.W.exmOne K (.ref a.BadBeginning) (.ref a.BadLetter) = some false
  em_BadRuns_BadLetter : PySem.W.exmOne K (.ref a.BadRuns) (.ref a.BadLetter) = some false
  em_BadCount_BadLetter : PySem.W.exmOne K (.ref a.BadCount) (.ref a.BadLetter) = some false
  em_BadPlace_BadLetter : PySem.W.exmOne K (.ref a.BadPlace) (.ref a.BadLetter) = some false
  em_TooLong_BadLetter : PySem.W.exmOne K (.ref a.TooLong) (.ref a.BadLetter) = some false
  xf_BadLetter : XfC K a.BadLetter
  xe_BadLetter : ExcC K a.BadLetter
  na_BadLetter_index : NoAttr K a.BadLetter "index"
  xi_BadLetter : ∃ cc c doc pm ctv, XI P K mg (F_BadLetter cc c) a.f_BadLetter___init__ a.BadLetter "self" doc pm ctv ∧ Binds K ((F_BadLetter cc c).fd doc pm ctv) ["self", "index"] []
  kv_BadLetter : PySem.W.kitOne K (.ref a.BadLetter) (.type "ValueError") = some true
  in_BadLetter : PySem.W.findIn K (.ref a.BadLetter) "__init__" = some (some (.ref a.f_BadLetter___init__))
  ty_BadLetter : PySem.W.typeIn K (.ref a.f_BadLetter___init__) = some (.type "function")
  g_TooMany : mg "TooMany" = some (.ref a.TooMany)
  ex_TooMany : ExmC K a.TooMany
  em_BadLetters_TooMany : PySem.W.exmOne K (.ref a.BadLetters) (.ref a.TooMany) = some false
  em_BadLetter_TooMany : PySem.W.exmOne K (.ref a.BadLetter) (.ref a.TooMany) = some false
  em_TooMany_TooMany : PySem.W.exmOne K (.ref a.TooMany) (.ref a.TooMany) = some true
  em_BadBeginning_TooMany : PySem.W.exmOne K (.ref a.BadBeginning) (.ref a.TooMany) = some false
  em_BadRuns_TooMany : PySem.W.exmOne K (.ref a.BadRuns) (.ref a.TooMany) = some false
  em_BadCount_TooMany : PySem.W.exmOne K (.ref a.BadCount) (.ref a.TooMany) = some false
  em_BadPlace_TooMany : PySem.W.exmOne K (.ref a.BadPlace) (.ref a.TooMany) = some false
  em_TooLong_TooMany : PySem.W.exmOne K (.ref a.TooLong) (.ref a.TooMany) = some false
  xf_TooMany : XfC K a.TooMany
  xe_TooMany : ExcC K a.TooMany
  na_TooMany_what : NoAttr K a.TooMany "what"
  na_TooMany_many : NoAttr K a.TooMany "many"
  na_TooMany_most : NoAttr K a.TooMany "most"
  xi_TooMany : ∃ cc c doc pm ctv, XI P K mg (F_TooMany cc c) a.f_TooMany___init__ a.TooMany "self" doc pm ctv ∧ Binds K ((F_TooMany cc c).fd doc pm ctv) ["self", "what", "many", "most"] []
  kv_TooMany : PySem.W.kitOne K (.ref a.TooMany) (.type "ValueError") = some true
  in_TooMany : PySem.W.findIn K (.ref a.TooMany) "__init__" = some (some (.ref a.f_TooMany___init__))
  ty_TooMany : PySem.W.typeIn K (.ref a.f_TooMany___init__) = some (.type "function")
  g_BadBeginning : mg "BadBeginning" = some (.ref a.BadBeginning)
  ex_BadBeginning : ExmC K a.BadBeginning
  em_BadLetters_BadBeginning : PySem.W.exmOne K (.ref a.BadLetters) (.ref a.BadBeginning) = some false
  em_BadLetter_BadBeginning : PySem.W.exmOne K (.ref a.BadLetter) (.ref a.BadBeginning) = some false
  em_TooMany_BadBeginning : PySem.W.exmOne K (.ref a.TooMany) (.ref a.BadBeginning) = some false
  em_BadBeginning_BadBeginning : PySem.W.exmOne K (.ref a.BadBeginning) (.ref a.BadBeginning) = some true
  em_BadRuns_BadBeginning : PySem.W.exmOne K (.ref a.BadRuns) (.ref a.BadBeginning) = some false
  em_BadCount_BadBeginning : PySem.W.exmOne K (.ref a.BadCount) (.ref a.BadBeginning) = some false
  em_BadPlace_BadBeginning : PySem.W.exmOne K (.ref a.BadPlace) (.ref a.BadBeginning) = some false
  em_TooLong_BadBeginning : PySem.W.exmOne K (.ref a.TooLong) (.ref a.BadBeginning) = some false
  x0_BadBeginning : Xc0 K mg "BadBeginning" a.BadBeginning
  g_BadRuns : mg "BadRuns" = some (.ref a.BadRuns)
  ex_BadRuns : ExmC K a.BadRuns
  em_BadLetters_BadRuns : PySem.W.exmOne K (.ref a.BadLetters) (.ref a.BadRuns) = some false
  em_BadLetter_BadRuns : PySem.W.exmOne K (.ref a.BadLetter) (.ref a.BadRuns) = some false
  em_TooMany_BadRuns : PySem.W.exmOne K (.ref a.TooMany) (.ref a.BadRuns) = some false
  em_BadBeginning_BadRuns : PySem.W.exmOne K (.ref a.BadBeginning) (.ref a.BadRuns) = some false
  em_BadRuns_BadRuns : PySem.W.exmOne K (.ref a.BadRuns) (.ref a.BadRuns) = some true
  em_BadCount_BadRuns : PySem.W.exmOne K (.ref a.BadCount) (.ref a.BadRuns) = some false
  em_BadPlace_BadRuns : PySem.W.exmOne K (.ref a.BadPlace) (.ref a.BadRuns) = some false
  em_TooLong_BadRuns : PySem.W.exmOne K (.ref a.TooLong) (.ref a.BadRuns) = some false
  xf_BadRuns : XfC K a.BadRuns
  xe_BadRuns : ExcC K a.BadRuns
  na_BadRuns_index : NoAttr K a.BadRuns "index"
  xi_BadRuns : ∃ cc c doc pm ctv, XI P K mg (F_BadRuns cc c) a.f_BadRuns___init__ a.BadRuns "self" doc pm ctv ∧ Binds K ((F_BadRuns cc c).fd doc pm ctv) ["self", "index"] []
  kv_BadRuns : PySem.W.kitOne K (.ref a.BadRuns) (.type "ValueError") = some true
  in_BadRuns : PySem.W.findIn K (.ref a.BadRuns) "__init__" = some (some (.ref a.f_BadRuns___init__))
  ty_BadRuns : PySem.W.typeIn K (.ref a.f_BadRuns___init__) = some (.type "function")
  g_BadCount : mg "BadCount" = some (.ref a.BadCount)
  ex_BadCount : ExmC K a.BadCount
  em_BadLetters_BadCount : PySem.W.exmOne K (.ref a.BadLetters) (.ref a.BadCount) = some false
  em_BadLetter_BadCount : PySem.W.exmOne K (.ref a.BadLetter) (.ref a.BadCount) = some false
  em_TooMany_BadCount : PySem.W.exmOne K (.ref a.TooMany) (.ref a.BadCount) = some false
  em_BadBeginning_BadCount : PySem.W.exmOne K (.ref a.BadBeginning) (.ref a.BadCount) = some false
  em_BadRuns_BadCount : PySem.W.exmOne K (.ref a.BadRuns) (.ref a.BadCount) = some false
  em_BadCount_BadCount : PySem.W.exmOne K (.ref a.BadCount) (.ref a.BadCount) = some true
  em_BadPlace_BadCount : PySem.W.exmOne K (.ref a.BadPlace) (.ref a.BadCount) = some false
  em_TooLong_BadCount : PySem.W.exmOne K (.ref a.TooLong) (.ref a.BadCount) = some false
  xf_BadCount : XfC K a.BadCount
  xe_BadCount : ExcC K a.BadCount
  na_BadCount_index : NoAttr K a.BadCount "index"
  xi_BadCount : ∃ cc c doc pm ctv, XI P K mg (F_BadCount cc c) a.f_BadCount___init__ a.BadCount "self" doc pm ctv ∧ Binds K ((F_BadCount cc c).fd doc pm ctv) ["self", "index"] []
  kv_BadCount : PySem.W.kitOne K (.ref a.BadCount) (.type "ValueError") = some true
  in_BadCount : PySem.W.findIn K (.ref a.BadCount) "__init__" = some (some (.ref a.f_BadCount___init__))
  ty_BadCount : PySem.W.typeIn K (.ref a.f_BadCount___init__) = some (.type "function")
  g_BadPlace : mg "BadPlace" = some (.ref a.BadPlace)
  ex_BadPlace : ExmC K a.BadPlace
  em_BadLetters_BadPlace : PySem.W.exmOne K (.ref a.BadLetters) (.ref a.BadPlace) = some false
  em_BadLetter_BadPlace : PySem.W.exmOne K (.ref a.BadLetter) (.ref a.BadPlace) = some false
  em_TooMany_BadPlace : PySem.W.exmOne K (.ref a.TooMany) (.ref a.BadPlace) = some false
  em_BadBeginning_BadPlace : PySem.W.exmOne K (.ref a.BadBeginning) (.ref a.BadPlace) = some false
  em_BadRuns_BadPlace : PySem.W.exmOne K (.ref a.BadRuns) (.ref a.BadPlace) = some false
  em_BadCount_BadPlace : PySem.W.exmOne K (.ref a.BadCount) (.ref a.BadPlace) = some false
  em_BadPlace_BadPlace : PySem.W.exmOne K (.ref a.BadPlace) (.ref a.BadPlace) = some true
  em_TooLong_BadPlace : PySem.W.exmOne K (.ref a.TooLong) (.ref a.BadPlace) = some false
  xf_BadPlace : XfC K a.BadPlace
  xe_BadPlace : ExcC K a.BadPlace
  na_BadPlace_place : NoAttr K a.BadPlace "place"
  xi_BadPlace : ∃ cc c doc pm ctv, XI P K mg (F_BadPlace cc c) a.f_BadPlace___init__ a.BadPlace "self" doc pm ctv ∧ Binds K ((F_BadPlace cc c).fd doc pm ctv) ["self", "place"] []
  kv_BadPlace : PySem.W.kitOne K (.ref a.BadPlace) (.type "ValueError") = some true
  in_BadPlace : PySem.W.findIn K (.ref a.BadPlace) "__init__" = some (some (.ref a.f_BadPlace___init__))
  ty_BadPlace : PySem.W.typeIn K (.ref a.f_BadPlace___init__) = some (.type "function")
  g_TooLong : mg "TooLong" = some (.ref a.TooLong)
  ex_TooLong : ExmC K a.TooLong
  em_BadLetters_TooLong : PySem.W.exmOne K (.ref a.BadLetters) (.ref a.TooLong) = some false
  em_BadLetter_TooLong : PySem.W.exmOne K (.ref a.BadLetter) (.ref a.TooLong) = some false
  em_TooMany_TooLong : PySem.W.exmOne K (.ref a.TooMany) (.ref a.TooLong) = some false
  em_BadBeginning_TooLong : PySem.W.exmOne K (.ref a.BadBeginning) (.ref a.TooLong) = some false
  em_BadRuns_TooLong : PySem.W.exmOne K (.ref a.BadRuns) (.ref a.TooLong) = some false
  em_BadCount_TooLong : PySem.W.exmOne K (.ref a.BadCount) (.ref a.TooLong) = some false
  em_BadPlace_TooLong : PySem.W.exmOne K (.ref a.BadPlace) (.ref a.TooLong) = some false
  em_TooLong_TooLong : PySem.W.exmOne K (.ref a.TooLong) (.ref a.TooLong) = some true
  xf_TooLong : XfC K a.TooLong
  xe_TooLong : ExcC K a.TooLong
  na_TooLong_size : NoAttr K a.TooLong "size"
  xi_TooLong : ∃ cc c doc pm ctv, XI P K mg (F_TooLong cc c) a.f_TooLong___init__ a.TooLong "self" doc pm ctv ∧ Binds K ((F_TooLong cc c).fd doc pm ctv) ["self", "size"] []
  kv_TooLong : PySem.W.kitOne K (.ref a.TooLong) (.type "ValueError") = some true
  in_TooLong : PySem.W.findIn K (.ref a.TooLong) "__init__" = some (some (.ref a.f_TooLong___init__))
  ty_TooLong : PySem.W.typeIn K (.ref a.f_TooLong___init__) = some (.type "function")
  F_is_list : ∃ fd, Fun K "is_list" "is_list" s_is_list a.f_is_list fd ∧ Binds K fd ["value"] []
  g_is_list : mg "is_list" = some (.ref a.f_is_list)
  F_is_integer : ∃ fd, Fun K "is_integer" "is_integer" s_is_integer a.f_is_integer fd ∧ Binds K fd ["value"] []
  g_is_integer : mg "is_integer" = some (.ref a.f_is_integer)
  F_is_word : ∃ fd, Fun K "is_word" "is_word" s_is_word a.f_is_word fd ∧ Binds K fd ["value"] []
  g_is_word : mg "is_word" = some (.ref a.f_is_word)
  F_is_beginning : ∃ fd, Fun K "is_beginning" "is_beginning" s_is_beginning a.f_is_beginning fd ∧ Binds K fd ["value"] []
  g_is_beginning : mg "is_beginning" = some (.ref a.f_is_beginning)
  F_is_letter : ∃ fd, Fun K "is_letter" "is_letter" s_is_letter a.f_is_letter fd ∧ Binds K fd ["value"] []
  g_is_letter : mg "is_letter" = some (.ref a.f_is_letter)
  F_Letters___init__ : ∃ fd, Fun K "__init__" "Letters.__init__" s_Letters___init__ a.f_Letters___init__ fd ∧ Binds K fd ["self", "words"] []
  F_Letters___contains__ : ∃ fd, Fun K "__contains__" "Letters.__contains__" s_Letters___contains__ a.f_Letters___contains__ fd ∧ Binds K fd ["self", "x"] []
  m_Letters___contains__ : Meth K a.Letters "__contains__" a.f_Letters___contains__
  F_Letters___eq__ : ∃ fd, Fun K "__eq__" "Letters.__eq__" s_Letters___eq__ a.f_Letters___eq__ fd ∧ Binds K fd ["self", "other"] []
  m_Letters___eq__ : Meth K a.Letters "__eq__" a.f_Letters___eq__
  F_need_beginning : ∃ fd, Fun K "need_beginning" "need_beginning" s_need_beginning a.f_need_beginning fd ∧ Binds K fd ["beginning"] []
  g_need_beginning : mg "need_beginning" = some (.ref a.f_need_beginning)
  F_need_runs : ∃ fd, Fun K "need_runs" "need_runs" s_need_runs a.f_need_runs fd ∧ Binds K fd ["letters", "runs"] []
  g_need_runs : mg "need_runs" = some (.ref a.f_need_runs)
  F_join_runs : ∃ fd, Fun K "join_runs" "join_runs" s_join_runs a.f_join_runs fd ∧ Binds K fd ["runs"] []
  g_join_runs : mg "join_runs" = some (.ref a.f_join_runs)
  F_History___init__ : ∃ fd, FunD K "__init__" "History.__init__" (defArgs s_History___init__) (defBody s_History___init__) (defScope s_History___init__) [.ref a.dp0_History___init__] [("ahead", .ref a.dk_ahead_History___init__)] a.f_History___init__ fd
  k_dp0_History___init__ : ∀ H, SqT K H a.dp0_History___init__ []
  k_dk_ahead_History___init__ : ∀ H, SqT K H a.dk_ahead_History___init__ []
  F_History___getitem__ : ∃ fd, Fun K "__getitem__" "History.__getitem__" s_History___getitem__ a.f_History___getitem__ fd ∧ Binds K fd ["self", "place"] []
  m_History___getitem__ : Meth K a.History "__getitem__" a.f_History___getitem__
  F_History___eq__ : ∃ fd, Fun K "__eq__" "History.__eq__" s_History___eq__ a.f_History___eq__ fd ∧ Binds K fd ["self", "other"] []
  m_History___eq__ : Meth K a.History "__eq__" a.f_History___eq__
  F_History_word : ∃ fd, Fun K "word" "History.word" s_History_word a.f_History_word fd ∧ Binds K fd ["self"] []
  m_History_word : Meth K a.History "word" a.f_History_word
  F__law_pen : ∃ fd, Fun K "_law_pen" "_law_pen" s__law_pen a.f__law_pen fd ∧ Binds K fd ["_law_script"] []
  g__law_pen : mg "_law_pen" = some (.ref a.f__law_pen)
  F__law_draw : ∃ fd, Fun K "_law_draw" "_law_draw" s__law_draw a.f__law_draw fd ∧ Binds K fd ["_law_pen_here", "_law_many"] []
  g__law_draw : mg "_law_draw" = some (.ref a.f__law_draw)
  F__law_pick : ∃ fd, Fun K "_law_pick" "_law_pick" s__law_pick a.f__law_pick fd ∧ Binds K fd ["_law_pen_here", "_law_options"] []
  g__law_pick : mg "_law_pick" = some (.ref a.f__law_pick)
  F__law_letters : ∃ fd, Fun K "_law_letters" "_law_letters" s__law_letters a.f__law_letters fd ∧ Binds K fd ["_law_pen_here", "_law_many"] []
  g__law_letters : mg "_law_letters" = some (.ref a.f__law_letters)
  F__law_joined : ∃ fd, Fun K "_law_joined" "_law_joined" s__law_joined a.f__law_joined fd ∧ Binds K fd ["_law_runs"] []
  g__law_joined : mg "_law_joined" = some (.ref a.f__law_joined)
  F__law_as_runs : ∃ fd, Fun K "_law_as_runs" "_law_as_runs" s__law_as_runs a.f__law_as_runs fd ∧ Binds K fd ["_law_word"] []
  g__law_as_runs : mg "_law_as_runs" = some (.ref a.f__law_as_runs)
  F__law_beginning : ∃ fd, Fun K "_law_beginning" "_law_beginning" s__law_beginning a.f__law_beginning fd ∧ Binds K fd ["_law_pen_here"] []
  g__law_beginning : mg "_law_beginning" = some (.ref a.f__law_beginning)
  F__law_free : ∃ fd, Fun K "_law_free" "_law_free" s__law_free a.f__law_free fd ∧ Binds K fd ["_law_letters_here"] []
  g__law_free : mg "_law_free" = some (.ref a.f__law_free)
  F__law_at : ∃ fd, Fun K "_law_at" "_law_at" s__law_at a.f__law_at fd ∧ Binds K fd ["_law_made", "_law_place"] []
  g__law_at : mg "_law_at" = some (.ref a.f__law_at)
  F__law_all : ∃ fd, Fun K "_law_all" "_law_all" s__law_all a.f__law_all fd ∧ Binds K fd ["_law_made"] []
  g__law_all : mg "_law_all" = some (.ref a.f__law_all)
  F__law_is_right : ∃ fd, Fun K "_law_is_right" "_law_is_right" s__law_is_right a.f__law_is_right fd ∧ Binds K fd ["_law_made", "_law_letters_here", "_law_beginning_here", "_law_word"] []
  g__law_is_right : mg "_law_is_right" = some (.ref a.f__law_is_right)
  F__law_plain : ∃ fd, Fun K "_law_plain" "_law_plain" s__law_plain a.f__law_plain fd ∧ Binds K fd ["_law_runs"] []
  g__law_plain : mg "_law_plain" = some (.ref a.f__law_plain)
  F_law : ∃ fd, Fun K "law" "law" s_law a.f_law fd ∧ Binds K fd ["_law_script"] []
  g_law : mg "law" = some (.ref a.f_law)
section
variable {P : Program} {w : World} {K : PySem.W.Frag} {mg : Str → Option Value} {base : Heap} {a : Ad}
def sp_BadLetters (C : Addr) : Sp := fun vs H Q _ => ∃ (x : Addr) (y0 : V), vs = [.ref x, y0] ∧ Fmt y0 ∧ H x = some (exo x C none) ∧ ∀ (d : Addr) (H' : Hp), H d = none → d ≠ x → H' x = some (exo x C (some d)) → H' d = some (exd d [("index", y0)]) → (∀ b, b ≠ x → b ≠ d → H' b = H b) → Q .non H'
theorem x_BadLetters (T : Txt P K mg a) : Xcl P w K mg base 1 "BadLetters" a.BadLetters ["self", "index"] (sp_BadLetters a.BadLetters) := by
  obtain ⟨cc, c, doc, pm, ctv, xi, b⟩ := T.xi_BadLetters
  refine ⟨xi.ox, T.xf_BadLetters, _, _, T.in_BadLetters, T.ty_BadLetters, fn_exc xi sc_BadLetters___init__ rfl (fun vs H Q E h => ?_) (fun A outer s H vs Q E hr h => ?_), T.g_BadLetters, b⟩
  · obtain ⟨x, y0, rfl, _⟩ := h; rfl
  · obtain ⟨x, y0, rfl, f0, hx, q⟩ := h
    refine ⟨_, _, x, pa_cons (pe_joined (PJ.cons pe_str (PJ.cons (pe_fmt (pv 1)) PJ.nil))) pa_nil, (pss_one (ps_ost (pv 0) (pv 1))), rfl, hx, ?_⟩
    refine js_c (n := 0) ?_ (by decide) (by decide +kernel) fun a0 h0 => ?_
    · exact Nat.zero_le _
    refine js_f (n := 1000) rfl ?_ (by decide) f0 fun a1 h1 => ?_
    · exact h0
    refine js_0 ?_
    refine ⟨by show 1 ≤ 1000; decide, hx, ?_⟩
    refine rd_ost1 xi.ox T.na_BadLetters_index rfl rfl hx fun d hd ne => ?_
    refine q d _ hd ne ?_ ?_ fun b h1 h2 => ?_
    · simp only [upd_same, upd_ne ne, upd_ne ne.symm]
    · simp only [upd_same, upd_ne ne, upd_ne ne.symm]
    · simp only [upd_ne h1, upd_ne h2]
/-- raise BadLetters(..) -/
theorem rz_BadLetters {H : Hp} {y0 : V} {R : Value → Option Addr → Hp → Prop} (f0 : Fmt y0) (q : ∀ d H', H d = none → Ex H H' → H' d = some (.xd [("index", y0)]) → R (.ref a.BadLetters) (some d) H') :
    [y0].length ≤ 1000 ∧ ∀ x, H x = none → sp_BadLetters a.BadLetters (.ref x :: ([y0] ++ [])) (upd H x (exo x a.BadLetters none)) (fun v H2 => v = .non ∧ ∃ (d : Addr) (fs : List (Str × V)), H2 x = some (exo x a.BadLetters (some d)) ∧ H2 d = some (exd d fs) ∧ H d = none ∧ R (.ref a.BadLetters) (some d) (upd (del H2 x) d (.xd fs))) (fun _ _ _ => False) := by
  refine ⟨by show 1 ≤ 1000; decide, fun x hx => ⟨x, y0, rfl, f0, upd_same, fun d H' hd ne h1 h2 st => ⟨rfl, d, _, h1, h2, ?_, ?_⟩⟩⟩
  · rw [upd_ne ne] at hd; exact hd
  · rw [upd_ne ne] at hd
    obtain ⟨e1, e2⟩ := raised (C := a.BadLetters) (fs := [("index", y0)]) hx hd ne st
    exact q d _ hd e1 e2
def sp_BadLetter (C : Addr) : Sp := fun vs H Q _ => ∃ (x : Addr) (y0 : V), vs = [.ref x, y0] ∧ Fmt y0 ∧ H x = some (exo x C none) ∧ ∀ (d : Addr) (H' : Hp), H d = none → d ≠ x → H' x = some (exo x C (some d)) → H' d = some (exd d [("index", y0)]) → (∀ b, b ≠ x → b ≠ d → H' b = H b) → Q .non H'
theorem x_BadLetter (T : Txt P K mg a) : Xcl P w K mg base 1 "BadLetter" a.BadLetter ["self", "index"] (sp_BadLetter a.BadLetter) := by
  obtain ⟨cc, c, doc, pm, ctv, xi, b⟩ := T.xi_BadLetter
  refine ⟨xi.ox, T.xf_BadLetter, _, _, T.in_BadLetter, T.ty_BadLetter, fn_exc xi sc_BadLetter___init__ rfl (fun vs H Q E h => ?_) (fun A outer s H vs Q E hr h => ?_), T.g_BadLetter, b⟩
  · obtain ⟨x, y0, rfl, _⟩ := h; rfl
  · obtain ⟨x, y0, rfl, f0, hx, q⟩ := h
    refine ⟨_, _, x, pa_cons (pe_joined (PJ.cons pe_str (PJ.cons (pe_fmt (pv 1)) PJ.nil))) pa_nil, (pss_one (ps_ost (pv 0) (pv 1))), rfl, hx, ?_⟩
    refine js_c (n := 0) ?_ (by decide) (by decide +kernel) fun a0 h0 => ?_
    · exact Nat.zero_le _
    refine js_f (n := 1000) rfl ?_ (by decide) f0 fun a1 h1 => ?_
    · exact h0
    refine js_0 ?_
    refine ⟨by show 1 ≤ 1000; decide, hx, ?_⟩
    refine rd_ost1 xi.ox T.na_BadLetter_index rfl rfl hx fun d hd ne => ?_
    refine q d _ hd ne ?_ ?_ fun b h1 h2 => ?_
    · simp only [upd_same, upd_ne ne, upd_ne ne.symm]
    · simp only [upd_same, upd_ne ne, upd_ne ne.symm]
    · simp only [upd_ne h1, upd_ne h2]
/-- raise BadLetter(..) -/
theorem rz_BadLetter {H : Hp} {y0 : V} {R : Value → Option Addr → Hp → Prop} (f0 : Fmt y0) (q : ∀ d H', H d = none → Ex H H' → H' d = some (.xd [("index", y0)]) → R (.ref a.BadLetter) (some d) H') :
    [y0].length ≤ 1000 ∧ ∀ x, H x = none → sp_BadLetter a.BadLetter (.ref x :: ([y0] ++ [])) (upd H x (exo x a.BadLetter none)) (fun v H2 => v = .non ∧ ∃ (d : Addr) (fs : List (Str × V)), H2 x = some (exo x a.BadLetter (some d)) ∧ H2 d = some (exd d fs) ∧ H d = none ∧ R (.ref a.BadLetter) (some d) (upd (del H2 x) d (.xd fs))) (fun _ _ _ => False) := by
  refine ⟨by show 1 ≤ 1000; decide, fun x hx => ⟨x, y0, rfl, f0, upd_same, fun d H' hd ne h1 h2 st => ⟨rfl, d, _, h1, h2, ?_, ?_⟩⟩⟩
  · rw [upd_ne ne] at hd; exact hd
  · rw [upd_ne ne] at hd
    obtain ⟨e1, e2⟩ := raised (C := a.BadLetter) (fs := [("index", y0)]) hx hd ne st
    exact q d _ hd e1 e2
def sp_TooMany (C : Addr) : Sp := fun vs H Q _ => ∃ (x : Addr) (y0 y1 y2 : V), vs = [.ref x, y0, y1, y2] ∧ Fmt y0 ∧ Fmt y2 ∧ H x = some (exo x C none) ∧ ∀ (d : Addr) (H' : Hp), H d = none → d ≠ x → H' x = some (exo x C (some d)) → H' d = some (exd d [("most", y2), ("many", y1), ("what", y0)]) → (∀ b, b ≠ x → b ≠ d → H' b = H b) → Q .non H'
theorem x_TooMany (T : Txt P K mg a) : Xcl P w K mg base 1 "TooMany" a.TooMany ["self", "what", "many", "most"] (sp_TooMany a.TooMany) := by
  obtain ⟨cc, c, doc, pm, ctv, xi, b⟩ := T.xi_TooMany
  refine ⟨xi.ox, T.xf_TooMany, _, _, T.in_TooMany, T.ty_TooMany, fn_exc xi sc_TooMany___init__ rfl (fun vs H Q E h => ?_) (fun A outer s H vs Q E hr h => ?_), T.g_TooMany, b⟩
  · obtain ⟨x, y0, y1, y2, rfl, _⟩ := h; rfl
  · obtain ⟨x, y0, y1, y2, rfl, f0, f2, hx, q⟩ := h
    refine ⟨_, _, x, pa_cons (pe_joined (PJ.cons pe_str (PJ.cons (pe_fmt (pv 1)) (PJ.cons pe_str (PJ.cons (pe_fmt (pv 3)) PJ.nil))))) pa_nil, (pss_cons (ps_ost (pv 0) (pv 1)) (pss_cons (ps_ost (pv 0) (pv 2)) (pss_one (ps_ost (pv 0) (pv 3))))), rfl, hx, ?_⟩
    refine js_c (n := 0) ?_ (by decide) (by decide +kernel) fun a0 h0 => ?_
    · exact Nat.zero_le _
    refine js_f (n := 1000) rfl ?_ (by decide) f0 fun a1 h1 => ?_
    · exact h0
    refine js_c (n := 2001) ?_ (by decide) (by decide +kernel) fun a2 h2 => ?_
    · exact h1
    refine js_f (n := 3001) rfl ?_ (by decide) f2 fun a3 h3 => ?_
    · exact h2
    refine js_0 ?_
    refine ⟨by show 1 ≤ 1000; decide, hx, ?_⟩
    refine rd_ost1 xi.ox T.na_TooMany_what rfl rfl hx fun d hd ne => ?_
    refine rd_ostN (dx := d) (fs := [("what", y0)]) xi.ox T.na_TooMany_many rfl rfl (by simp only [upd_same, upd_ne ne, upd_ne ne.symm]) (by simp only [upd_same, upd_ne ne, upd_ne ne.symm]) (by show _ ≤ 900; simp) ?_
    refine rd_ostN (dx := d) (fs := [("many", y1), ("what", y0)]) xi.ox T.na_TooMany_most rfl rfl (by simp only [upd_same, upd_ne ne, upd_ne ne.symm]) (by simp only [upd_same, upd_ne ne, upd_ne ne.symm]) (by show _ ≤ 900; simp) ?_
    refine q d _ hd ne ?_ ?_ fun b h1 h2 => ?_
    · simp only [upd_same, upd_ne ne, upd_ne ne.symm]
    · simp only [upd_same, upd_ne ne, upd_ne ne.symm]
    · simp only [upd_ne h1, upd_ne h2]
/-- raise TooMany(..) -/
theorem rz_TooMany {H : Hp} {y0 y1 y2 : V} {R : Value → Option Addr → Hp → Prop} (f0 : Fmt y0) (f2 : Fmt y2) (q : ∀ d H', H d = none → Ex H H' → H' d = some (.xd [("most", y2), ("many", y1), ("what", y0)]) → R (.ref a.TooMany) (some d) H') :
    [y0, y1, y2].length ≤ 1000 ∧ ∀ x, H x = none → sp_TooMany a.TooMany (.ref x :: ([y0, y1, y2] ++ [])) (upd H x (exo x a.TooMany none)) (fun v H2 => v = .non ∧ ∃ (d : Addr) (fs : List (Str × V)), H2 x = some (exo x a.TooMany (some d)) ∧ H2 d = some (exd d fs) ∧ H d = none ∧ R (.ref a.TooMany) (some d) (upd (del H2 x) d (.xd fs))) (fun _ _ _ => False) := by
  refine ⟨by show 3 ≤ 1000; decide, fun x hx => ⟨x, y0, y1, y2, rfl, f0, f2, upd_same, fun d H' hd ne h1 h2 st => ⟨rfl, d, _, h1, h2, ?_, ?_⟩⟩⟩
  · rw [upd_ne ne] at hd; exact hd
  · rw [upd_ne ne] at hd
    obtain ⟨e1, e2⟩ := raised (C := a.TooMany) (fs := [("most", y2), ("many", y1), ("what", y0)]) hx hd ne st
    exact q d _ hd e1 e2
def sp_BadRuns (C : Addr) : Sp := fun vs H Q _ => ∃ (x : Addr) (y0 : V), vs = [.ref x, y0] ∧ Fmt y0 ∧ H x = some (exo x C none) ∧ ∀ (d : Addr) (H' : Hp), H d = none → d ≠ x → H' x = some (exo x C (some d)) → H' d = some (exd d [("index", y0)]) → (∀ b, b ≠ x → b ≠ d → H' b = H b) → Q .non H'
theorem x_BadRuns (T : Txt P K mg a) : Xcl P w K mg base 1 "BadRuns" a.BadRuns ["self", "index"] (sp_BadRuns a.BadRuns) := by
  obtain ⟨cc, c, doc, pm, ctv, xi, b⟩ := T.xi_BadRuns
  refine ⟨xi.ox, T.xf_BadRuns, _, _, T.in_BadRuns, T.ty_BadRuns, fn_exc xi sc_BadRuns___init__ rfl (fun vs H Q E h => ?_) (fun A outer s H vs Q E hr h => ?_), T.g_BadRuns, b⟩
  · obtain ⟨x, y0, rfl, _⟩ := h; rfl
  · obtain ⟨x, y0, rfl, f0, hx, q⟩ := h
    refine ⟨_, _, x, pa_cons (pe_joined (PJ.cons pe_str (PJ.cons (pe_fmt (pv 1)) PJ.nil))) pa_nil, (pss_one (ps_ost (pv 0) (pv 1))), rfl, hx, ?_⟩
    refine js_c (n := 0) ?_ (by decide) (by decide +kernel) fun a0 h0 => ?_
    · exact Nat.zero_le _
    refine js_f (n := 1000) rfl ?_ (by decide) f0 fun a1 h1 => ?_
    · exact h0
    refine js_0 ?_
    refine ⟨by show 1 ≤ 1000; decide, hx, ?_⟩
    refine rd_ost1 xi.ox T.na_BadRuns_index rfl rfl hx fun d hd ne => ?_
    refine q d _ hd ne ?_ ?_ fun b h1 h2 => ?_
    · simp only [upd_same, upd_ne ne, upd_ne ne.symm]
    · simp only [upd_same, upd_ne ne, upd_ne ne.symm]
    · simp only [upd_ne h1, upd_ne h2]
/-- raise BadRuns(..) -/
theorem rz_BadRuns {H : Hp} {y0 : V} {R : Value → Option Addr → Hp → Prop} (f0 : Fmt y0) (q : ∀ d H', H d = none → Ex H H' → H' d = some (.xd [("index", y0)]) → R (.ref a.BadRuns) (some d) H') :
    [y0].length ≤ 1000 ∧ ∀ x, H x = none → sp_BadRuns a.BadRuns (.ref x :: ([y0] ++ [])) (upd H x (exo x a.BadRuns none)) (fun v H2 => v = .non ∧ ∃ (d : Addr) (fs : List (Str × V)), H2 x = some (exo x a.BadRuns (some d)) ∧ H2 d = some (exd d fs) ∧ H d = none ∧ R (.ref a.BadRuns) (some d) (upd (del H2 x) d (.xd fs))) (fun _ _ _ => False) := by
  refine ⟨by show 1 ≤ 1000; decide, fun x hx => ⟨x, y0, rfl, f0, upd_same, fun d H' hd ne h1 h2 st => ⟨rfl, d, _, h1, h2, ?_, ?_⟩⟩⟩
  · rw [upd_ne ne] at hd; exact hd
  · rw [upd_ne ne] at hd
    obtain ⟨e1, e2⟩ := raised (C := a.BadRuns) (fs := [("index", y0)]) hx hd ne st
    exact q d _ hd e1 e2
def sp_BadCount (C : Addr) : Sp := fun vs H Q _ => ∃ (x : Addr) (y0 : V), vs = [.ref x, y0] ∧ Fmt y0 ∧ H x = some (exo x C none) ∧ ∀ (d : Addr) (H' : Hp), H d = none → d ≠ x → H' x = some (exo x C (some d)) → H' d = some (exd d [("index", y0)]) → (∀ b, b ≠ x → b ≠ d → H' b = H b) → Q .non H'
theorem x_BadCount (T : Txt P K mg a) : Xcl P w K mg base 1 "BadCount" a.BadCount ["self", "index"] (sp_BadCount a.BadCount) := by
  obtain ⟨cc, c, doc, pm, ctv, xi, b⟩ := T.xi_BadCount
  refine ⟨xi.ox, T.xf_BadCount, _, _, T.in_BadCount, T.ty_BadCount, fn_exc xi sc_BadCount___init__ rfl (fun vs H Q E h => ?_) (fun A outer s H vs Q E hr h => ?_), T.g_BadCount, b⟩
  · obtain ⟨x, y0, rfl, _⟩ := h; rfl
  · obtain ⟨x, y0, rfl, f0, hx, q⟩ := h
    refine ⟨_, _, x, pa_cons (pe_joined (PJ.cons pe_str (PJ.cons (pe_fmt (pv 1)) PJ.nil))) pa_nil, (pss_one (ps_ost (pv 0) (pv 1))), rfl, hx, ?_⟩
    refine js_c (n := 0) ?_ (by decide) (by decide +kernel) fun a0 h0 => ?_
    · exact Nat.zero_le _
    refine js_f (n := 1000) rfl ?_ (by decide) f0 fun a1 h1 => ?_
    · exact h0
    refine js_0 ?_
    refine ⟨by show 1 ≤ 1000; decide, hx, ?_⟩
    refine rd_ost1 xi.ox T.na_BadCount_index rfl rfl hx fun d hd ne => ?_
    refine q d _ hd ne ?_ ?_ fun b h1 h2 => ?_
    · simp only [upd_same, upd_ne ne, upd_ne ne.symm]
    · simp only [upd_same, upd_ne ne, upd_ne ne.symm]
    · simp only [upd_ne h1, upd_ne h2]
/-- raise BadCount(..) -/
theorem rz_BadCount {H : Hp} {y0 : V} {R : Value → Option Addr → Hp → Prop} (f0 : Fmt y0) (q : ∀ d H', H d = none → Ex H H' → H' d = some (.xd [("index", y0)]) → R (.ref a.BadCount) (some d) H') :
    [y0].length ≤ 1000 ∧ ∀ x, H x = none → sp_BadCount a.BadCount (.ref x :: ([y0] ++ [])) (upd H x (exo x a.BadCount none)) (fun v H2 => v = .non ∧ ∃ (d : Addr) (fs : List (Str × V)), H2 x = some (exo x a.BadCount (some d)) ∧ H2 d = some (exd d fs) ∧ H d = none ∧ R (.ref a.BadCount) (some d) (upd (del H2 x) d (.xd fs))) (fun _ _ _ => False) := by
  refine ⟨by show 1 ≤ 1000; decide, fun x hx => ⟨x, y0, rfl, f0, upd_same, fun d H' hd ne h1 h2 st => ⟨rfl, d, _, h1, h2, ?_, ?_⟩⟩⟩
  · rw [upd_ne ne] at hd; exact hd
  · rw [upd_ne ne] at hd
    obtain ⟨e1, e2⟩ := raised (C := a.BadCount) (fs := [("index", y0)]) hx hd ne st
    exact q d _ hd e1 e2
def sp_BadPlace (C : Addr) : Sp := fun vs H Q _ => ∃ (x : Addr) (y0 : V), vs = [.ref x, y0] ∧ H x = some (exo x C none) ∧ ∀ (d : Addr) (H' : Hp), H d = none → d ≠ x → H' x = some (exo x C (some d)) → H' d = some (exd d [("place", y0)]) → (∀ b, b ≠ x → b ≠ d → H' b = H b) → Q .non H'
theorem x_BadPlace (T : Txt P K mg a) : Xcl P w K mg base 1 "BadPlace" a.BadPlace ["self", "place"] (sp_BadPlace a.BadPlace) := by
  obtain ⟨cc, c, doc, pm, ctv, xi, b⟩ := T.xi_BadPlace
  refine ⟨xi.ox, T.xf_BadPlace, _, _, T.in_BadPlace, T.ty_BadPlace, fn_exc xi sc_BadPlace___init__ rfl (fun vs H Q E h => ?_) (fun A outer s H vs Q E hr h => ?_), T.g_BadPlace, b⟩
  · obtain ⟨x, y0, rfl, _⟩ := h; rfl
  · obtain ⟨x, y0, rfl, hx, q⟩ := h
    refine ⟨_, _, x, pa_cons pe_str pa_nil, (pss_one (ps_ost (pv 0) (pv 1))), rfl, hx, ?_⟩
    refine ⟨by show 1 ≤ 1000; decide, hx, ?_⟩
    refine rd_ost1 xi.ox T.na_BadPlace_place rfl rfl hx fun d hd ne => ?_
    refine q d _ hd ne ?_ ?_ fun b h1 h2 => ?_
    · simp only [upd_same, upd_ne ne, upd_ne ne.symm]
    · simp only [upd_same, upd_ne ne, upd_ne ne.symm]
    · simp only [upd_ne h1, upd_ne h2]
/-- raise BadPlace(..) -/
theorem rz_BadPlace {H : Hp} {y0 : V} {R : Value → Option Addr → Hp → Prop} (q : ∀ d H', H d = none → Ex H H' → H' d = some (.xd [("place", y0)]) → R (.ref a.BadPlace) (some d) H') :
    [y0].length ≤ 1000 ∧ ∀ x, H x = none → sp_BadPlace a.BadPlace (.ref x :: ([y0] ++ [])) (upd H x (exo x a.BadPlace none)) (fun v H2 => v = .non ∧ ∃ (d : Addr) (fs : List (Str × V)), H2 x = some (exo x a.BadPlace (some d)) ∧ H2 d = some (exd d fs) ∧ H d = none ∧ R (.ref a.BadPlace) (some d) (upd (del H2 x) d (.xd fs))) (fun _ _ _ => False) := by
  refine ⟨by show 1 ≤ 1000; decide, fun x hx => ⟨x, y0, rfl, upd_same, fun d H' hd ne h1 h2 st => ⟨rfl, d, _, h1, h2, ?_, ?_⟩⟩⟩
  · rw [upd_ne ne] at hd; exact hd
  · rw [upd_ne ne] at hd
    obtain ⟨e1, e2⟩ := raised (C := a.BadPlace) (fs := [("place", y0)]) hx hd ne st
    exact q d _ hd e1 e2
def sp_TooLong (C : Addr) : Sp := fun vs H Q _ => ∃ (x : Addr) (y0 : V), vs = [.ref x, y0] ∧ H x = some (exo x C none) ∧ ∀ (d : Addr) (H' : Hp), H d = none → d ≠ x → H' x = some (exo x C (some d)) → H' d = some (exd d [("size", y0)]) → (∀ b, b ≠ x → b ≠ d → H' b = H b) → Q .non H'
theorem x_TooLong (T : Txt P K mg a) : Xcl P w K mg base 1 "TooLong" a.TooLong ["self", "size"] (sp_TooLong a.TooLong) := by
  obtain ⟨cc, c, doc, pm, ctv, xi, b⟩ := T.xi_TooLong
  refine ⟨xi.ox, T.xf_TooLong, _, _, T.in_TooLong, T.ty_TooLong, fn_exc xi sc_TooLong___init__ rfl (fun vs H Q E h => ?_) (fun A outer s H vs Q E hr h => ?_), T.g_TooLong, b⟩
  · obtain ⟨x, y0, rfl, _⟩ := h; rfl
  · obtain ⟨x, y0, rfl, hx, q⟩ := h
    refine ⟨_, _, x, pa_cons pe_str pa_nil, (pss_one (ps_ost (pv 0) (pv 1))), rfl, hx, ?_⟩
    refine ⟨by show 1 ≤ 1000; decide, hx, ?_⟩
    refine rd_ost1 xi.ox T.na_TooLong_size rfl rfl hx fun d hd ne => ?_
    refine q d _ hd ne ?_ ?_ fun b h1 h2 => ?_
    · simp only [upd_same, upd_ne ne, upd_ne ne.symm]
    · simp only [upd_same, upd_ne ne, upd_ne ne.symm]
    · simp only [upd_ne h1, upd_ne h2]
/-- raise TooLong(..) -/
theorem rz_TooLong {H : Hp} {y0 : V} {R : Value → Option Addr → Hp → Prop} (q : ∀ d H', H d = none → Ex H H' → H' d = some (.xd [("size", y0)]) → R (.ref a.TooLong) (some d) H') :
    [y0].length ≤ 1000 ∧ ∀ x, H x = none → sp_TooLong a.TooLong (.ref x :: ([y0] ++ [])) (upd H x (exo x a.TooLong none)) (fun v H2 => v = .non ∧ ∃ (d : Addr) (fs : List (Str × V)), H2 x = some (exo x a.TooLong (some d)) ∧ H2 d = some (exd d fs) ∧ H d = none ∧ R (.ref a.TooLong) (some d) (upd (del H2 x) d (.xd fs))) (fun _ _ _ => False) := by
  refine ⟨by show 1 ≤ 1000; decide, fun x hx => ⟨x, y0, rfl, upd_same, fun d H' hd ne h1 h2 st => ⟨rfl, d, _, h1, h2, ?_, ?_⟩⟩⟩
  · rw [upd_ne ne] at hd; exact hd
  · rw [upd_ne ne] at hd
    obtain ⟨e1, e2⟩ := raised (C := a.TooLong) (fs := [("size", y0)]) hx hd ne st
    exact q d _ hd e1 e2
end
local macro_rules | `(tactic| walk_at "st1") => `(tactic| with_reducible (first
  | refine rd_seq ?_ | refine rd_op ?_ | refine rd_c ?_ | refine rd_cb ?_ | refine rd_cons ?_ | refine rd_nil ?_ | refine rd_B ?_ | refine rd_test ?_ | refine rd_bl ?_ | refine rd_I0 ?_
  | refine rd_not ?_ | refine rd_and ?_ | refine rd_or ?_ | refine rd_andV ?_ | refine rd_orV ?_ | refine rd_notV ?_ | refine rd_if ?_ | refine rd_chain ?_ | refine rd_un ?_ | refine rd_call ?_
  | refine rd_ifS ?_ | refine rd_asg ?_ | refine rd_drop ?_ | refine rd_ret ?_ | refine rd_next ?_ | refine rd_par ?_ | refine rd_two ?_ | refine rd_tup ?_ | refine rd_lst ?_ | refine rd_fld ?_ | refine rd_dget ?_ | refine rd_dput ?_ | refine rd_sfld ?_
  | refine rd_isiStr ?_ | refine rd_sign ?_ | refine rd_intI ?_ | refine rd_intB ?_ | refine rd_abs ?_ | refine rd_isN' ?_ | refine rd_gname ?_ | refine iteT ?_ | refine iteF ?_ | refine rd_nt ?_ | refine rd_nf ?_  | refine rd_yes ?_ | refine rd_sl ?_ | refine rd_noPart ?_ | refine rd_part ?_ | refine rd_partAt ?_ | refine rd_make ?_ | refine rd_meth ?_ | refine rd_bm ?_ | refine rd_m1 ?_ | refine rd_isS ?_ | refine rd_ifT ?_ | refine rd_tupm ?_ | refine rd_iStr ?_ | refine rd_iStrAt ?_ | refine rd_iList ?_ | refine rd_iTup ?_ | refine rd_iRng1 ?_ | refine rd_iEnum ?_ | refine rd_iEnT ?_ | refine rd_mkO ?_ | refine rd_makeW ?_ | refine rd_callW ?_ | refine rd_methW ?_ | refine rd_bm0 ?_ | refine rd_revL ?_ | refine rd_makeN ?_ | refine rd_ixW ?_))
local macro_rules | `(tactic| walk_at "st") => `(tactic| ((repeat (first
  | walk_at "st1"
  | ((with_reducible show L2.tVar _ _ _ _); refine rd_var rfl ?_)
  | ((with_reducible show L2.tAug _ _ _ _ _ _); refine rd_aug rfl ?_)
  | ((with_reducible refine rd_eq ?_ ?_); exact rfl)
  | ((with_reducible refine rd_ne ?_ ?_); exact rfl)))))

section
variable {P : Program} {w : World} {K : PySem.W.Frag} {mg : Str → Option Value} {base : Heap} {a : Ad}
/-! ### is_list, is_integer -/
def isSeqV (H : Hp) : V → Bool
  | .ref p => match H p with
    | some (.lst _) => true
    | some (.tup _) => true
    | _ => false
  | _ => false
def isIntV : V → Bool
  | .int _ => true
  | _ => false
def spIsList : Sp := fun vs H Q _ => ∃ v : V, vs = [v] ∧ Kd H v ∧ ∀ H', Ex H H' → Q (.bl (isSeqV H v)) H'
theorem c_is_list (T : Txt P K mg a) : Cal P w K mg base 1 "is_list" ["value"] spIsList := by
  obtain ⟨fd, F, b⟩ := T.F_is_list
  refine ⟨_, _, F.ok sc_is_list (fun vs H Q E h => ?_) (fun cdv A outer s H vs Q E hr h => ?_), T.g_is_list, F.kp, b⟩
  · obtain ⟨z, rfl, _⟩ := h
    rfl
  · obtain ⟨v, rfl, kd, k⟩ := h
    refine ⟨_, (pss_one (ps_ret (pe_callB call_isiT (by rfl) T.n_isinstance (by decide +kernel) (pa_cons (pv 0) (pa_cons (pe_tup (pa_cons (pe_bty "list" T.n_list (by decide +kernel)) (pa_cons (pe_bty "tuple" T.n_tuple (by decide +kernel)) pa_nil))) pa_nil))))), ?_⟩
    walk_at "st"
    refine ⟨by show 2 ≤ sizeLine; decide, ?_⟩
    intro t1 ht1
    have e1 := Ex.new (o := HO.tup [V.ty "list", V.ty "tuple"]) ht1
    have h1 : upd H t1 (HO.tup [V.ty "list", V.ty "tuple"]) t1 = some (HO.tup [V.ty "list", V.ty "tuple"]) := upd_same
    generalize upd H t1 (HO.tup [V.ty "list", V.ty "tuple"]) = H1 at e1 h1 ⊢
    have k := k H1 e1
    have two : ∀ {a : Value} {r1 r2 : Bool}, PySem.W.kitOne K a (.type "list") = some r1 → PySem.W.kitOne K a (.type "tuple") = some r2 → PySem.W.kitAny K a [.type "list", .type "tuple"] = some (r1 || r2) := fun {a r1 r2} q1 q2 => by
      have inn : PySem.W.kitAny K a [.type "tuple"] = some r2 := by
        cases r2 with
        | true => exact kitAny_cons q2 (fun e => by cases e) (fun _ => rfl)
        | false => exact kitAny_cons q2 (fun _ => kitAny_nil) (fun e => by cases e)
      cases r1 with
      | true => exact kitAny_cons q1 (fun e => by cases e) (fun _ => rfl)
      | false => exact kitAny_cons q1 (fun _ => inn) (fun e => by cases e)
    have cs : Paired ClsV [V.ty "list", V.ty "tuple"] [.type "list", .type "tuple"] := .cons (.ty _) (.cons (.ty _) .nil)
    have go : ∀ {x : Value} {r1 r2 : Bool}, TyX K H1 v x → PySem.W.kitOne K x (.type "list") = some r1 → PySem.W.kitOne K x (.type "tuple") = some r2 → isSeqV H v = (r1 || r2) → rIsiT K [v, .ref t1] H1 Q := fun {x r1 r2} ty q1 q2 e => by
      rw [e] at k
      exact ⟨v, t1, _, x, _, _, rfl, h1, cs, ty, two q1 q2, k⟩
    have hn : ∀ {p : Addr} {o : HO}, H p = some o → H1 p = some o := fun {p o} h => e1 _ _ h
    cases kd with
    | str z h => exact go (r1 := false) (r2 := false) (.base (.str z)) (kit_ty (by decide +kernel)) (kit_ty (by decide +kernel)) rfl
    | non => exact go (r1 := false) (r2 := false) (.base .non) (kit_ty (by decide +kernel)) (kit_ty (by decide +kernel)) rfl
    | bl b => exact go (r1 := false) (r2 := false) (.base (.bl b)) (kit_ty (by decide +kernel)) (kit_ty (by decide +kernel)) rfl
    | int i => exact go (r1 := false) (r2 := false) (.base (.int i)) (kit_ty (by decide +kernel)) (kit_ty (by decide +kernel)) rfl
    | lst h => exact go (r1 := true) (r2 := false) (.base (.lst (hn h))) (kit_ty (by decide +kernel)) (kit_ty (by decide +kernel)) (by simp only [isSeqV, h]; rfl)
    | tup h => exact go (r1 := false) (r2 := true) (.base (.tup (hn h))) (kit_ty (by decide +kernel)) (kit_ty (by decide +kernel)) (by simp only [isSeqV, h]; rfl)
    | dK h => exact go (r1 := false) (r2 := false) (.base (.dK (hn h))) (kit_ty (by decide +kernel)) (kit_ty (by decide +kernel)) (by simp only [isSeqV, h]; rfl)
def spIsInt : Sp := fun vs H Q _ => ∃ v : V, vs = [v] ∧ Kd H v ∧ Q (.bl (isIntV v)) H
theorem c_is_integer (T : Txt P K mg a) : Cal P w K mg base 1 "is_integer" ["value"] spIsInt := by
  obtain ⟨fd, F, b⟩ := T.F_is_integer
  refine ⟨_, _, F.ok sc_is_integer (fun vs H Q E h => ?_) (fun cdv A outer s H vs Q E hr h => ?_), T.g_is_integer, F.kp, b⟩
  · obtain ⟨z, rfl, _⟩ := h
    rfl
  · obtain ⟨v, rfl, kd, k⟩ := h
    refine ⟨_, (pss_one (ps_ret (pe_and (pe_callB call_isi (by rfl) T.n_isinstance (by decide +kernel) (pa_cons (pv 0) (pa_cons (pe_bty "int" T.n_int (by decide +kernel)) pa_nil))) (pe_one (pe_not (pe_callB call_isi (by rfl) T.n_isinstance (by decide +kernel) (pa_cons (pv 0) (pa_cons (pe_bty "bool" T.n_bool (by decide +kernel)) pa_nil)))))))), ?_⟩
    walk_at "st"
    have one : ∀ {a : Value} {r1 r2 : Bool}, TyX K H v a → PySem.W.kitOne K a (.type "int") = some r1 → PySem.W.kitOne K a (.type "bool") = some r2 → isIntV v = (r1 && !r2) → rIsi K [v, .ty "int"] H fun x H1 => ∃ c, x = .bl c ∧ if c = true then tNotV (tCB (rIsi K) (tCons (tVar 0) (tCons (tC (V.ty "bool")) tNil))) (L2.start N_is_integer [v]) H1 Q else Q (.bl false) H1 := fun {a r1 r2} ty q1 q2 e => by
      refine rd_isi (.ty _) ty q1 ⟨r1, rfl, ?_⟩
      cases r1 with
      | false => refine iteF ?_; rw [e] at k; exact k
      | true =>
        walk_at "st"
        refine rd_isi (.ty _) ty q2 ⟨r2, rfl, ?_⟩
        rw [e] at k
        exact k
    cases kd with
    | str z h => exact one (r1 := false) (r2 := false) (.base (.str z)) (kit_ty (by decide +kernel)) (kit_ty (by decide +kernel)) rfl
    | non => exact one (r1 := false) (r2 := false) (.base .non) (kit_ty (by decide +kernel)) (kit_ty (by decide +kernel)) rfl
    | bl b => exact one (r1 := true) (r2 := true) (.base (.bl b)) (kit_ty (by decide +kernel)) (kit_ty (by decide +kernel)) rfl
    | int i => exact one (r1 := true) (r2 := false) (.base (.int i)) (kit_ty (by decide +kernel)) (kit_ty (by decide +kernel)) rfl
    | lst h => exact one (r1 := false) (r2 := false) (.base (.lst h)) (kit_ty (by decide +kernel)) (kit_ty (by decide +kernel)) rfl
    | tup h => exact one (r1 := false) (r2 := false) (.base (.tup h)) (kit_ty (by decide +kernel)) (kit_ty (by decide +kernel)) rfl
    | dK h => exact one (r1 := false) (r2 := false) (.base (.dK h)) (kit_ty (by decide +kernel)) (kit_ty (by decide +kernel)) rfl
/-! ### is_word, is_beginning, is_letter -/
abbrev smallS : Str := "abcdefghijklmnopqrstuvwxyz"
abbrev signsS : Str := "abcdefghijklmnopqrstuvwxyz0123456789"
def isWordB (z : Str) : Bool := decide (1 ≤ z.length) && decide (z.length ≤ 12) && (z.cps.toList.take 1).all (fun c => decide (c ∈ smallS.cps.toList)) && z.cps.toList.all (fun c => decide (c ∈ signsS.cps.toList))
def spIsWord : Sp := fun vs H Q _ => ∃ z : Str, vs = [.str z] ∧ z.length ≤ 1000 ∧ ∀ H', Ex H H' → Q (.bl (isWordB z)) H'
theorem c_is_word (T : Txt P K mg a) : Cal P w K mg base 1 "is_word" ["value"] spIsWord := by
  obtain ⟨fd, F, b⟩ := T.F_is_word
  refine ⟨_, _, F.ok sc_is_word (fun vs H Q E h => ?_) (fun cdv A outer s H vs Q E hr h => ?_), T.g_is_word, F.kp, b⟩
  · obtain ⟨z, rfl, _⟩ := h
    rfl
  · obtain ⟨z, rfl, hz, k⟩ := h
    refine ⟨_, (pss_cons (ps_if (PW.pt (pw_or (pt_not (pt_val (pe_callB call_isi (by rfl) T.n_isinstance (by decide +kernel) (pa_cons (pv 0) (pa_cons (pe_bty "str" T.n_str (by decide +kernel)) pa_nil))))) (pw_or1 (pt_not (pt_chain op_le op_le pe_int (pe_callB call_len_str (by rfl) T.n_len (by decide +kernel) (pa_cons (pv 0) pa_nil)) pe_int))))) (pss_one (ps_ret pe_bl)) pss_nil)
  (pss_one (ps_ret (pe_and (pe_cmpR op_in_sign (pe_ix ix_str (pv 0) pe_int (fun _ _ => rfl)) (pe_gstr T.g_SMALL) (by rfl)) (pe_one (pe_callB (cr_all rfl) (by rfl) T.n_all (by decide +kernel) (pa_cons (pe_lc (own := [("sign", 1)]) (by rfl) sc_is_word.nd (pi_str (pv 0)) (blkOk_by (own := [("sign", 1)]) (N := N_is_word) (sc := defScope s_is_word) (by decide +kernel)) (fun _ _ _ _ _ => (pg_name (i := 1) sc_is_word.nd rfl (by first | exact Or.inl rfl | exact Or.inr rfl))) (fun _ _ _ _ _ => pts_nil) (fun _ _ _ _ _ => (pe_cmpR op_in_sign (pv 1) (pe_gstr T.g_SIGNS) (by rfl)))) pa_nil))))))), ?_⟩
    walk_at "st"
    refine rd_lenS (z := z) (by omega) ?_
    walk_at "st"
    have fin : ∀ {b : Bool} {H'}, Ex H H' → isWordB z = b → Q (.bl b) H' := fun e h => h ▸ k _ e
    refine ite2 (fun h1 => ?_) (fun h1 => ?_)
    · walk_at "st"
      have h1' := of_decide_eq_true h1
      refine ite2 (fun h2 => ?_) (fun h2 => ?_)
      · walk_at "st"
        refine fin (Ex.refl _) ?_
        have : ¬ z.length ≤ 12 := fun h => by simp at h2; omega
        simp [isWordB, this]
      · have h2' : z.length ≤ 12 := by simp at h2; omega
        walk_at "st"
        obtain ⟨c, r, ez⟩ : ∃ c r, z.cps.toList = c :: r := by
          cases e : z.cps.toList with
          | nil => exfalso; have : z.length = z.cps.toList.length := by simp [Str.length]
                   rw [e] at this; simp at this; omega
          | cons c r => exact ⟨c, r, rfl⟩
        refine rd_ixS (c := c) (by omega) (by rw [ez]; exact atI_nat (j := 0) rfl) ?_
        walk_at "st"
        refine ite2 (fun h3 => ?_) (fun h3 => ?_)
        · walk_at "st"
          refine rd_lcPure (k := 1) (fun R r => ⟨_, rfl, _, rfl, r⟩) (f := fun i => .bl (decide (z.cps.toList.getD i 0 ∈ signsS.cps.toList))) (yl_str z) (fun _ _ => trivial) (by have := len_cps z; simp at this; omega) (fun i x H' hi e y Q' q => ?_) (fun p H' hp e hl => ?_)
          · obtain ⟨d, hd, rfl⟩ := y
            walk_at "st"
            have : z.cps.toList.getD i 0 = d := by simp [List.getD, hd]
            rw [this] at q
            exact q H' (Ex.refl _)
          · walk_at "st"
            have el : (List.range z.cps.size).map (fun i => V.bl (decide (z.cps.toList.getD i 0 ∈ signsS.cps.toList))) = (z.cps.toList.map fun d => decide (d ∈ signsS.cps.toList)).map V.bl := by
              apply List.ext_getElem
              · simp
              · intro n h1 h2
                have : n < z.cps.size := by simpa using h1
                simp [List.getD, this]
            rw [el] at hl
            refine rd_all (sq_of hl) (fin e ?_)
            have h3' := of_decide_eq_true h3
            have e1 : decide (1 ≤ z.length) = true := decide_eq_true (by omega)
            have e2 : decide (z.length ≤ 12) = true := decide_eq_true h2'
            unfold isWordB
            rw [e1, e2, ez, List.all_map]
            simp only [List.take, List.all_cons, List.all_nil, h3, Bool.and_true, Bool.true_and]
            rfl
        · refine fin (Ex.refl _) ?_
          have h3' : decide (c ∈ smallS.cps.toList) = false := by simpa using h3
          unfold isWordB
          rw [ez]
          simp only [List.take, List.all_cons, List.all_nil, h3', Bool.and_false, Bool.false_and]
    · walk_at "st"
      refine fin (Ex.refl _) ?_
      have : ¬ 1 ≤ z.length := fun h => by simp at h1; omega
      simp [isWordB, this]
def isBegB (z : Str) : Bool := decide (z = "new") || decide (z = "found")
def isBegV : V → Bool
  | .str z => isBegB z
  | _ => false
theorem isBegV_not {v : V} (h : isStrV v = false) : isBegV v = false := by
  cases v with
  | str z => cases h
  | _ => rfl
def spIsBeg : Sp := fun vs H Q _ => ∃ v : V, vs = [v] ∧ Kd H v ∧ Q (.bl (isBegV v)) H
theorem inV_two (z x y : Str) : inV (.str z) [.str x, .str y] = (decide (z = x) || decide (z = y)) := by
  have e : ∀ u v : Str, (u == v) = decide (v = u) := fun u v => by
    rw [Bool.eq_iff_iff, beq_iff_eq, decide_eq_true_eq]; exact eq_comm
  simp only [inV, eqV, List.any_cons, List.any_nil, Bool.or_false, e]
theorem c_is_beginning (T : Txt P K mg a) : Cal P w K mg base 1 "is_beginning" ["value"] spIsBeg := by
  obtain ⟨fd, F, b⟩ := T.F_is_beginning
  refine ⟨_, _, F.ok sc_is_beginning (fun vs H Q E h => ?_) (fun cdv A outer s H vs Q E hr h => ?_), T.g_is_beginning, F.kp, b⟩
  · obtain ⟨z, rfl, _⟩ := h
    rfl
  · obtain ⟨v, rfl, kd, k⟩ := h
    refine ⟨_, (pss_one (ps_ret (pe_and (pe_callB call_isi (by rfl) T.n_isinstance (by decide +kernel) (pa_cons (pv 0) (pa_cons (pe_bty "str" T.n_str (by decide +kernel)) pa_nil))) (pe_one (pe_cmpR op_in_seq (pv 0) (pe_gref T.g_BEGINNINGS) (by rfl)))))), ?_⟩
    walk_at "st"
    refine rd_isiKd kd ?_
    walk_at "st"
    cases hs : isStrV v with
    | false =>
      refine iteF ?_
      rw [isBegV_not hs] at k
      exact k
    | true =>
      obtain ⟨z, rfl⟩ := isStrV_iff.mp hs
      walk_at "st"
      refine ⟨_, _, rfl, .inr (T.k_BEGINNINGS H), rfl, rfl, ?_⟩
      rw [if_neg Bool.false_ne_true, inV_two]
      exact k
def bareS (z : Str) : Str := if decide (V.str (cutS z none (some 1)) = V.str "~") = true then cutS z (some 1) none else z
def isLetterB (z : Str) : Bool := isWordB (bareS z) && !isBegB (bareS z)
/-- a value is a letter -/
def isLetV : V → Bool
  | .str z => isLetterB z
  | _ => false
theorem isLetV_not {v : V} (h : isStrV v = false) : isLetV v = false := by
  cases v with
  | str z => cases h
  | _ => rfl
def spIsLetter : Sp := fun vs H Q _ => ∃ v : V, vs = [v] ∧ Kd H v ∧ ∀ H', Ex H H' → Q (.bl (isLetV v)) H'
theorem c_is_letter (T : Txt P K mg a) : Cal P w K mg base 2 "is_letter" ["value"] spIsLetter := by
  obtain ⟨fd, F, b⟩ := T.F_is_letter
  refine ⟨_, _, F.ok sc_is_letter (fun vs H Q E h => ?_) (fun cdv A outer s H vs Q E hr h => ?_), T.g_is_letter, F.kp, b⟩
  · obtain ⟨z, rfl, _⟩ := h
    rfl
  · obtain ⟨v, rfl, kd, k⟩ := h
    refine ⟨_, (pss_cons (ps_if (pt_not (pt_val (pe_callB call_isi (by rfl) T.n_isinstance (by decide +kernel) (pa_cons (pv 0) (pa_cons (pe_bty "str" T.n_str (by decide +kernel)) pa_nil))))) (pss_one (ps_ret pe_bl)) pss_nil)
  (pss_cons (ps_set (i := 1) sc_is_letter.nd rfl (by first | exact Or.inl rfl | exact Or.inr rfl) (pe_ifExp (pt_cmpR op_eq (pe_slice sl_str (pv 0) po_none (po_some pe_int)) pe_str (by rfl)) (pe_slice sl_str (pv 0) (po_some pe_int) po_none) (pv 0)))
  (pss_one (ps_ret (pe_and (pe_callC (c_is_word T) hr (pa_cons (pv 1) pa_nil)) (pe_one (pe_not (pe_callC (c_is_beginning T) hr (pa_cons (pv 1) pa_nil))))))))), ?_⟩
    walk_at "st"
    refine rd_isiKd kd ?_
    walk_at "st"
    cases hs : isStrV v with
    | false =>
      walk_at "st"
      have := k H (Ex.refl _)
      rw [isLetV_not hs] at this
      exact this
    | true =>
    obtain ⟨z, rfl⟩ := isStrV_iff.mp hs
    have hz : z.length ≤ 1000 := by cases kd with | str _ h => exact h
    have k : ∀ H', Ex H H' → Q (.bl (isLetterB z)) H' := k
    walk_at "st"
    refine rd_slS (by omega) ?_
    walk_at "st"
    have fin : ∀ (y : Str), bareS z = y → y.length ≤ 1000 → tRet (tAndV (tCall spIsWord [] E0 (tCons (tVar 1) tNil)) (tNotV (tCall spIsBeg [] E0 (tCons (tVar 1) tNil)))) { nx := fun x H' => Q V.non H', rt := Q } [some (.str z), some (.str y)] H := by
      intro y ey ly
      walk_at "st"
      refine ⟨y, rfl, ly, fun H' e => ?_⟩
      walk_at "st"
      refine ite2 (fun h => ?_) (fun h => ?_)
      · walk_at "st"
        refine ⟨.str y, rfl, .str y ly, ?_⟩
        show ∃ c, V.bl (isBegB y) = V.bl c ∧ _
        walk_at "st"
        have : isLetterB z = !isBegB y := by rw [isLetterB, ey, h]; rfl
        rw [← this]
        exact k _ e
      · have : isLetterB z = false := by rw [isLetterB, ey, Bool.eq_false_iff.mpr h]; rfl
        rw [← this]
        exact k _ e
    refine ite2 (fun h => ?_) (fun h => ?_)
    · walk_at "st"
      refine rd_slS (by omega) ?_
      exact fin _ (if_pos h) (Nat.le_trans (cutS_length _ _ _) hz)
    · refine rd_var rfl ?_
      exact fin _ (if_neg h) hz
/-! ### Letters -/
def LetAt (a : Ad) (H : Hp) (p : Addr) (ws : List Str) : Prop := ∃ dx t o, H p = some (.ins a.Letters dx [("words", .ref t)]) ∧ H t = some (.frz o (.tup (ws.map V.str))) ∧ o.dict = none ∧ ∀ x ∈ ws, PyData.strOk x = true
theorem LetAt.ex {a : Ad} {H H' : Hp} {p : Addr} {ws : List Str} (l : LetAt a H p ws) (e : Ex H H') : LetAt a H' p ws := let ⟨dx, t, o, h1, h2, h3⟩ := l; ⟨dx, t, o, e _ _ h1, e _ _ h2, h3⟩
theorem inV_strs (z : Str) : ∀ ws : List Str, inV (.str z) (ws.map V.str) = decide (z ∈ ws)
  | [] => by simp [inV]
  | x :: r => by
    have ih := inV_strs z r
    have e : ∀ u v : Str, (u == v) = decide (v = u) := fun u v => by rw [Bool.eq_iff_iff, beq_iff_eq, decide_eq_true_eq]; exact eq_comm
    show (eqV (.str x) (.str z) || inV (.str z) (r.map V.str)) = _
    rw [ih]
    show ((x == z) || decide (z ∈ r)) = _
    rw [e, Bool.eq_iff_iff]
    simp
theorem flat_strs : ∀ ws : List Str, (ws.map V.str).all flatV = true
  | [] => rfl
  | x :: r => by
    rw [List.map_cons, List.all_cons, flat_strs r]
    rfl
def inWs (v : V) (ws : List Str) : Bool := match v with
  | .str z => decide (z ∈ ws)
  | _ => false
theorem inWs_not {v : V} {ws : List Str} (h : isStrV v = false) : inWs v ws = false := by
  cases v with
  | str z => cases h
  | _ => rfl
end


section
variable {P : Program} {w : World} {K : PySem.W.Frag} {mg : Str → Option Value} {base : Heap} {a : Ad}
/-- a list of letters -/
structure LetOk (ws : List Str) : Prop where
  one : 1 ≤ ws.length
  most : ws.length ≤ 12
  ok : ∀ x ∈ ws, isLetterB x = true
  short : ∀ x ∈ ws, x.length ≤ 1000
  nd : ws.Nodup
  so : ∀ x ∈ ws, PyData.strOk x = true
theorem cutV_to {xs : List V} {i : Nat} (h : i ≤ xs.length) : cutV xs none (some (i : Int)) = xs.take i := by
  unfold cutV
  rw [HT.sIx_none, HT.sIx_nat, Nat.min_eq_left h]
  simp
/-- the element at i is wrong or stands earlier -/
def badAt (vs : List V) (i : Nat) : Bool := !isLetV (vs.getD i .non) || decide (vs.getD i .non ∈ vs.take i)
structure LetX (a : Ad) (vs : List V) (H : Hp) (E : XK) : Prop where
  many : 12 < vs.length → ∀ d H', H d = none → Ex H H' → H' d = some (.xd [("most", .int 12), ("many", .int (vs.length : Nat)), ("what", .str "letters")]) → E (.ref a.TooMany) (some d) H'
  empty : vs.length = 0 → ∀ d H', H d = none → Ex H H' → H' d = some (.xd [("index", .int 0)]) → E (.ref a.BadLetters) (some d) H'
  bad : vs.length ≤ 12 → ∀ j, j < vs.length → badAt vs j = true → (∀ i, i < j → badAt vs i = false) → ∀ d H', H d = none → Ex H H' → H' d = some (.xd [("index", .int (j : Nat))]) → E (.ref a.BadLetters) (some d) H'
def spLetInit (a : Ad) : Sp := fun us H Q E => ∃ x dx l vs, us = [.ref x, .ref l] ∧ H x = some (.ins a.Letters dx []) ∧ (H l = some (.lst vs) ∨ ∃ o, H l = some (.frz o (.tup vs)) ∧ o.dict = none) ∧ (∀ v ∈ vs, Kd H v) ∧ LetX a vs H E ∧
  (1 ≤ vs.length → vs.length ≤ 12 → (∀ i, i < vs.length → badAt vs i = false) → ∀ t o H', o.dict = none → H' t = some (.frz o (.tup vs)) → H' x = some (.ins a.Letters dx [("words", .ref t)]) → Kx x H H' → Q .non H')
theorem strs_of : ∀ {vs : List V}, (∀ v ∈ vs, isLetV v = true) → ∃ ws : List Str, vs = ws.map V.str
  | [], _ => ⟨[], rfl⟩
  | v :: r, h => by
    obtain ⟨ws, e⟩ := strs_of (vs := r) fun x hx => h x (List.mem_cons_of_mem _ hx)
    have hv := h v (List.mem_cons_self ..)
    cases v with
    | str z => exact ⟨z :: ws, by rw [e]; rfl⟩
    | _ => cases hv
theorem bad_let {vs : List V} {i : Nat} (hi : i < vs.length) (h : badAt vs i = false) : isLetV vs[i] = true ∧ vs[i] ∉ vs.take i := by
  unfold badAt at h
  have e : vs.getD i .non = vs[i] := by simp [List.getD, hi]
  rw [e, Bool.or_eq_false_iff] at h
  exact ⟨by simpa using h.1, of_decide_eq_false h.2⟩
theorem take_strs {vs : List V} {i : Nat} (hi : i ≤ vs.length) (h : ∀ j, j < i → badAt vs j = false) : ∃ ws : List Str, vs.take i = ws.map V.str := by
  refine strs_of fun v hv => ?_
  obtain ⟨j, hj, rfl⟩ := List.mem_iff_getElem.mp hv
  rw [List.length_take] at hj
  rw [List.getElem_take]
  exact (bad_let (by omega) (h j (by omega))).1
/-- what follows where no element is at fault -/
theorem good_let {vs : List V} (h1 : 1 ≤ vs.length) (h2 : vs.length ≤ 12) (h : ∀ i, i < vs.length → badAt vs i = false) : ∃ ws : List Str, vs = ws.map V.str ∧ 1 ≤ ws.length ∧ ws.length ≤ 12 ∧ (∀ x ∈ ws, isLetterB x = true) ∧ ws.Nodup := by
  obtain ⟨ws, e⟩ := take_strs (Nat.le_refl _) h
  rw [List.take_length] at e
  subst e
  rw [List.length_map] at h1 h2 h
  refine ⟨ws, rfl, h1, h2, fun x hx => ?_, ?_⟩
  · obtain ⟨j, hj, rfl⟩ := List.mem_iff_getElem.mp hx
    have := (bad_let (vs := ws.map V.str) (by simpa using hj) (h j hj)).1
    simpa [isLetV] using this
  · rw [List.nodup_iff_pairwise_ne, List.pairwise_iff_getElem]
    intro i j hi hj lt e
    have := (bad_let (vs := ws.map V.str) (by simpa using hj) (h j hj)).2
    apply this
    rw [← List.map_take, List.getElem_map, ← e]
    refine List.mem_map_of_mem ?_
    exact List.mem_iff_getElem.mpr ⟨i, by rw [List.length_take]; omega, by rw [List.getElem_take]⟩
theorem let_good {ws : List Str} (O : LetOk ws) : ∀ i, i < (ws.map V.str).length → badAt (ws.map V.str) i = false := by
  intro i hi
  rw [List.length_map] at hi
  unfold badAt
  have e : (ws.map V.str).getD i .non = V.str ws[i] := by simp [List.getD, hi]
  rw [e, Bool.or_eq_false_iff]
  refine ⟨by show (!isLetterB ws[i]) = false; rw [O.ok _ (List.getElem_mem hi)]; rfl, decide_eq_false fun hm => ?_⟩
  rw [← List.map_take] at hm
  obtain ⟨y, hy, ey⟩ := List.mem_map.mp hm
  have ey := V.str.inj ey
  subst ey
  obtain ⟨j, hj, ej⟩ := List.mem_iff_getElem.mp hy
  rw [List.length_take] at hj
  rw [List.getElem_take] at ej
  exact List.pairwise_iff_getElem.mp (List.nodup_iff_pairwise_ne.mp O.nd) j i (by omega) hi (by omega) ej
/-- z in the elements ahead, all of them letters -/
theorem inV_take {vs : List V} {i : Nat} {ws : List Str} {z : Str} (e : vs.take i = ws.map V.str) : inV (.str z) (vs.take i) = decide (V.str z ∈ vs.take i) := by
  rw [e, inV_strs, Bool.eq_iff_iff, decide_eq_true_eq, decide_eq_true_eq, List.mem_map]
  exact ⟨fun h => ⟨z, h, rfl⟩, fun ⟨y, h, q⟩ => V.str.inj q ▸ h⟩
theorem ok_Letters___init__ {fd : FuncData} (F : Fun K "__init__" "Letters.__init__" s_Letters___init__ a.f_Letters___init__ fd) (T : Txt P K mg a) : FnOk P w K mg base (L2.CX P w) 3 a.f_Letters___init__ fd ["self", "words"] (spLetInit a) := by
  refine F.okX sc_Letters___init__ (fun vs H Q E h => ?_) (fun cdv A outer s H us Q E hr h => ?_)
  · obtain ⟨x, dx, l, ws, rfl, _⟩ := h
    rfl
  · obtain ⟨x, dx, l, vs, rfl, hx, hl, kd, LX, k⟩ := h
    have badv : ∀ {i : Nat} {v : V}, vs[i]? = some v → isLetV v = false → badAt vs i = true := fun {i v} hv h => by
      have e : vs.getD i .non = v := by simp [List.getD, hv]
      unfold badAt; rw [e, h]; rfl
    have badm : ∀ {i : Nat} {v : V}, vs[i]? = some v → isLetV v = true → badAt vs i = decide (v ∈ vs.take i) := fun {i v} hv h => by
      have e : vs.getD i .non = v := by simp [List.getD, hv]
      unfold badAt; rw [e, h]; rfl
    rcases hl with hl | ⟨o0, hl, od0⟩
    · refine ⟨_, (pss_cons (ps_if (pt_cmpR op_gt (pe_callB call_len_seq (by rfl) T.n_len (by decide +kernel) (pa_cons (pv 1) pa_nil)) (pe_gint T.g_MOST_LETTERS) (by rfl)) (pss_one (ps_raiseX (x_TooMany T) hr (takes_of rfl rfl rfl rfl) (pa_cons pe_str (pa_cons (pe_callB call_len_seq (by rfl) T.n_len (by decide +kernel) (pa_cons (pv 1) pa_nil)) (pa_cons (pe_gint T.g_MOST_LETTERS) pa_nil))))) pss_nil)
  (pss_cons (ps_if (pt_cmpR op_eq (pe_callB call_len_seq (by rfl) T.n_len (by decide +kernel) (pa_cons (pv 1) pa_nil)) pe_int (by rfl)) (pss_one (ps_raiseX (x_BadLetters T) hr (takes_of rfl rfl rfl rfl) (pa_cons pe_int pa_nil))) pss_nil)
  (pss_cons (ps_for (passes_of rfl) (by rfl) (pi_enum (by rfl) T.n_enumerate (pa_cons (pv 1) pa_nil)) (pg_tup rfl (pgs_cons (pg_name (i := 2) sc_Letters___init__.nd rfl (by first | exact Or.inl rfl | exact Or.inr rfl)) (pgs_cons (pg_name (i := 3) sc_Letters___init__.nd rfl (by first | exact Or.inl rfl | exact Or.inr rfl)) pgs_nil)))
    (pss_one (ps_if (PW.pt (pw_or (pt_not (pt_val (pe_callC (c_is_letter T) hr (pa_cons (pv 3) pa_nil)))) (pw_or1 (pt_cmpR op_in_seq (pv 3) (pe_slice sl_list (pv 1) po_none (po_some (pv 2))) (by rfl))))) (pss_one (ps_raiseX (x_BadLetters T) hr (takes_of rfl rfl rfl rfl) (pa_cons (pv 2) pa_nil))) pss_nil)))
  (pss_one (ps_fld (pv 0) (pe_callTy call_tuple_frz (by rfl) T.n_tuple (by decide +kernel) (pa_cons (pv 1) pa_nil)) rfl))))), ?_⟩
      walk_at "st"
      refine rd_lenL (sq_of hl) ?_
      walk_at "st"
      refine ite2 (fun h => ?_) (fun h1 => ?_)
      · walk_at "st"
        refine rd_lenL (sq_of hl) ?_
        walk_at "st"
        exact rz_TooMany (.inl ⟨_, rfl, by decide +kernel⟩) (.inr ⟨12, rfl, by decide⟩) (LX.many (by have := of_decide_eq_true h; omega))
      have n12 : vs.length ≤ 12 := Nat.le_of_not_lt fun z => h1 (decide_eq_true (by omega))
      walk_at "st"
      refine rd_lenL (sq_of hl) ?_
      walk_at "st"
      refine ite2 (fun h => ?_) (fun h2 => ?_)
      · walk_at "st"
        exact rz_BadLetters (.inr ⟨0, rfl, by decide⟩) (LX.empty (by have := V.int.inj (of_decide_eq_true h); omega))
      have n1 : 1 ≤ vs.length := Nat.pos_of_ne_zero fun z => h2 (decide_eq_true (by rw [z]; rfl))
      walk_at "st"
      refine rd_forYl (J := Ite _ l) (H1 := H) (fun R r => ⟨_, rfl, l, _, rfl, sq_of hl, r⟩) (yl_enum vs) (fun i σ H' => (∀ j, j < i → badAt vs j = false) ∧ ∃ v1 v2, σ = [some (.ref x), some (.ref l), v1, v2] ∧ Ex H H') (fun i σ H' _ p => ?_) ⟨fun j h => absurd h (Nat.not_lt_zero _), none, none, rfl, Ex.refl _⟩ (fun i y σ H1 H2 hi p e yy => ?_) (fun σ H' p => ?_)
      · obtain ⟨_, _, _, _, e⟩ := p
        exact sq_of (e _ _ hl)
      · obtain ⟨pb, v1, v2, rfl, e1⟩ := p
        obtain ⟨t, z, rfl, ht, hz⟩ := yy
        have e2 := e1.trans e
        refine ⟨t, _, rfl, st_of ht, rfl, ?_⟩
        refine ⟨_, _, rfl, _, _, rfl, rfl, ?_⟩
        walk_at "st"
        refine ⟨z, rfl, (kd z (List.mem_of_getElem? hz)).ex e2, fun H3 e3 => ?_⟩
        have e13 := e2.trans e3
        have raise : ∀ {H4 : Hp}, Ex H H4 → badAt vs i = true → ∀ d H', H4 d = none → Ex H4 H' → H' d = some (.xd [("index", .int (i : Nat))]) → E (.ref a.BadLetters) (some d) H' := fun {H4} e4 hb d H' hd e' h => LX.bad n12 i hi hb pb d H' (fresh_back e4 hd) (e4.trans e') h
        have fmt : Fmt (.int (i : Nat)) := fmt_nat (by omega)
        dsimp only
        cases hlt : isLetV z with
        | false =>
          walk_at "st"
          exact rz_BadLetters fmt (raise e13 (badv hz hlt))
        | true =>
        obtain ⟨y, rfl⟩ : ∃ y, z = V.str y := isStrV_iff.mp (by cases hs : isStrV z with | true => rfl | false => rw [isLetV_not hs] at hlt; cases hlt)
        walk_at "st"
        refine rd_slL (sq_of (e13 _ _ hl)) (fun m H4 hm e4 h4 => ?_)
        obtain ⟨ws, ew⟩ := take_strs (Nat.le_of_lt hi) pb
        rw [cutV_to (Nat.le_of_lt hi)] at h4
        refine ⟨_, _, rfl, .inl (sq_of h4), rfl, ?_, ?_⟩
        · rw [ew]; exact flat_strs _
        rw [if_neg Bool.false_ne_true, inV_take ew, ← badm hz hlt]
        cases hb : badAt vs i with
        | true =>
          walk_at "st"
          exact rz_BadLetters fmt (raise (e13.trans e4) hb)
        | false =>
          walk_at "st"
          refine ⟨fun j hj => ?_, _, _, rfl, e13.trans e4⟩
          rcases Nat.lt_succ_iff_lt_or_eq.mp hj with q | q
          · exact pb j q
          · rw [q]; exact hb
      · obtain ⟨pb, v1, v2, rfl, e1⟩ := p
        walk_at "st"
        refine ⟨_, _, rfl, .inl ⟨sq_of (e1 _ _ hl), fun t o ht ho => ?_⟩⟩
        walk_at "st"
        have nx : x ≠ t := ne_of_none (e1 _ _ hx) ht
        refine rd_sfldAt (by rw [upd_ne nx]; exact e1 _ _ hx) T.cl_Letters T.na_Letters_words (by show 0 < 1000; decide) ?_
        refine k n1 n12 pb t o _ ho (by rw [upd_ne nx.symm, upd_same]) upd_same (fun b u nb hb => ?_)
        rw [upd_ne nb, upd_ne (ne_of_none (e1 _ _ hb) ht)]
        exact e1 _ _ hb
    · refine ⟨_, (pss_cons (ps_if (pt_cmpR op_gt (pe_callB call_len_seq (by rfl) T.n_len (by decide +kernel) (pa_cons (pv 1) pa_nil)) (pe_gint T.g_MOST_LETTERS) (by rfl)) (pss_one (ps_raiseX (x_TooMany T) hr (takes_of rfl rfl rfl rfl) (pa_cons pe_str (pa_cons (pe_callB call_len_seq (by rfl) T.n_len (by decide +kernel) (pa_cons (pv 1) pa_nil)) (pa_cons (pe_gint T.g_MOST_LETTERS) pa_nil))))) pss_nil)
  (pss_cons (ps_if (pt_cmpR op_eq (pe_callB call_len_seq (by rfl) T.n_len (by decide +kernel) (pa_cons (pv 1) pa_nil)) pe_int (by rfl)) (pss_one (ps_raiseX (x_BadLetters T) hr (takes_of rfl rfl rfl rfl) (pa_cons pe_int pa_nil))) pss_nil)
  (pss_cons (ps_for (passes_of rfl) (by rfl) (pi_enumT (by rfl) T.n_enumerate (pa_cons (pv 1) pa_nil)) (pg_tup rfl (pgs_cons (pg_name (i := 2) sc_Letters___init__.nd rfl (by first | exact Or.inl rfl | exact Or.inr rfl)) (pgs_cons (pg_name (i := 3) sc_Letters___init__.nd rfl (by first | exact Or.inl rfl | exact Or.inr rfl)) pgs_nil)))
    (pss_one (ps_if (PW.pt (pw_or (pt_not (pt_val (pe_callC (c_is_letter T) hr (pa_cons (pv 3) pa_nil)))) (pw_or1 (pt_cmpR op_in_seq (pv 3) (pe_slice sl_tupA (pv 1) po_none (po_some (pv 2))) (by rfl))))) (pss_one (ps_raiseX (x_BadLetters T) hr (takes_of rfl rfl rfl rfl) (pa_cons (pv 2) pa_nil))) pss_nil)))
  (pss_one (ps_fld (pv 0) (pe_callTy call_tuple_frz (by rfl) T.n_tuple (by decide +kernel) (pa_cons (pv 1) pa_nil)) rfl))))), ?_⟩
      walk_at "st"
      refine rd_lenT (st_frz hl) ?_
      walk_at "st"
      refine ite2 (fun h => ?_) (fun h1 => ?_)
      · walk_at "st"
        refine rd_lenT (st_frz hl) ?_
        walk_at "st"
        exact rz_TooMany (.inl ⟨_, rfl, by decide +kernel⟩) (.inr ⟨12, rfl, by decide⟩) (LX.many (by have := of_decide_eq_true h; omega))
      have n12 : vs.length ≤ 12 := Nat.le_of_not_lt fun z => h1 (decide_eq_true (by omega))
      walk_at "st"
      refine rd_lenT (st_frz hl) ?_
      walk_at "st"
      refine ite2 (fun h => ?_) (fun h2 => ?_)
      · walk_at "st"
        exact rz_BadLetters (.inr ⟨0, rfl, by decide⟩) (LX.empty (by have := V.int.inj (of_decide_eq_true h); omega))
      have n1 : 1 ≤ vs.length := Nat.pos_of_ne_zero fun z => h2 (decide_eq_true (by rw [z]; rfl))
      walk_at "st"
      refine rd_forYl (J := ItE _ l) (H1 := H) (fun R r => ⟨_, rfl, l, _, rfl, st_frz hl, r⟩) (yl_enumT vs) (fun i σ H' => (∀ j, j < i → badAt vs j = false) ∧ ∃ v1 v2, σ = [some (.ref x), some (.ref l), v1, v2] ∧ Ex H H') (fun i σ H' _ p => ?_) ⟨fun j h => absurd h (Nat.not_lt_zero _), none, none, rfl, Ex.refl _⟩ (fun i y σ H1 H2 hi p e yy => ?_) (fun σ H' p => ?_)
      · obtain ⟨_, _, _, _, e⟩ := p
        exact st_frz (e _ _ hl)
      · obtain ⟨pb, v1, v2, rfl, e1⟩ := p
        obtain ⟨t, z, rfl, ht, hz⟩ := yy
        have e2 := e1.trans e
        refine ⟨t, _, rfl, st_of ht, rfl, ?_⟩
        refine ⟨_, _, rfl, _, _, rfl, rfl, ?_⟩
        walk_at "st"
        refine ⟨z, rfl, (kd z (List.mem_of_getElem? hz)).ex e2, fun H3 e3 => ?_⟩
        have e13 := e2.trans e3
        have raise : ∀ {H4 : Hp}, Ex H H4 → badAt vs i = true → ∀ d H', H4 d = none → Ex H4 H' → H' d = some (.xd [("index", .int (i : Nat))]) → E (.ref a.BadLetters) (some d) H' := fun {H4} e4 hb d H' hd e' h => LX.bad n12 i hi hb pb d H' (fresh_back e4 hd) (e4.trans e') h
        have fmt : Fmt (.int (i : Nat)) := fmt_nat (by omega)
        dsimp only
        cases hlt : isLetV z with
        | false =>
          walk_at "st"
          exact rz_BadLetters fmt (raise e13 (badv hz hlt))
        | true =>
        obtain ⟨y, rfl⟩ : ∃ y, z = V.str y := isStrV_iff.mp (by cases hs : isStrV z with | true => rfl | false => rw [isLetV_not hs] at hlt; cases hlt)
        walk_at "st"
        obtain ⟨ws, ew⟩ := take_strs (Nat.le_of_lt hi) pb
        have whole : ¬ (HT.sIx vs.length 0 none = 0 ∧ HT.sIx vs.length vs.length (some (i : Int)) = vs.length) := fun h => by
          have := h.2
          rw [HT.sIx_nat, Nat.min_eq_left (Nat.le_of_lt hi)] at this
          omega
        refine ⟨l, vs, rfl, st_frz (e13 _ _ hl), fun h => absurd h whole, fun _ => ?_⟩
        rw [cutV_to (Nat.le_of_lt hi)]
        intro m hm
        have e4 := Ex.new (o := HO.tup (List.take i vs)) hm
        have h4 : upd H3 m (HO.tup (List.take i vs)) m = some (HO.tup (List.take i vs)) := upd_same
        generalize upd H3 m (HO.tup (List.take i vs)) = H4 at e4 h4 ⊢
        refine ⟨_, _, rfl, .inr (st_of h4), rfl, ?_, ?_⟩
        · rw [ew]; exact flat_strs _
        rw [if_neg Bool.false_ne_true, inV_take ew, ← badm hz hlt]
        cases hb : badAt vs i with
        | true =>
          walk_at "st"
          exact rz_BadLetters fmt (raise (e13.trans e4) hb)
        | false =>
          walk_at "st"
          refine ⟨fun j hj => ?_, _, _, rfl, e13.trans e4⟩
          rcases Nat.lt_succ_iff_lt_or_eq.mp hj with q | q
          · exact pb j q
          · rw [q]; exact hb
      · obtain ⟨pb, v1, v2, rfl, e1⟩ := p
        walk_at "st"
        refine ⟨_, _, rfl, .inr ⟨st_frz (e1 _ _ hl), ?_⟩⟩
        walk_at "st"
        have nx : x ≠ l := ne_of hx hl (by intro z; cases z)
        refine rd_sfldAt (e1 _ _ hx) T.cl_Letters T.na_Letters_words (by show 0 < 1000; decide) ?_
        refine k n1 n12 pb l o0 _ od0 (by rw [upd_ne nx.symm]; exact e1 _ _ hl) upd_same (fun b u nb hb => ?_)
        rw [upd_ne nb]
        exact e1 _ _ hb
theorem c_Letters (T : Txt P K mg a) : CtrX P w K mg base 3 "Letters" a.Letters ["self", "words"] [] (spLetInit a) := by
  obtain ⟨fd, F, b⟩ := T.F_Letters___init__
  exact ⟨_, _, [], T.mk_Letters, ok_Letters___init__ F T, T.g_Letters, b, .nil⟩
end


section
variable {P : Program} {w : World} {K : PySem.W.Frag} {mg : Str → Option Value} {base : Heap} {a : Ad}
/-! ### in, rank, len, == of letters -/
def spContains (a : Ad) : Sp := fun vs H Q _ => ∃ p v ws, vs = [.ref p, v] ∧ LetAt a H p ws ∧ Kd H v ∧ Q (.bl (inWs v ws)) H
theorem c_Letters___contains__ (T : Txt P K mg a) : Mth P w K mg base 1 a.Letters "__contains__" ["self", "x"] (spContains a) := by
  obtain ⟨fd, F, b⟩ := T.F_Letters___contains__
  refine ⟨T.cl_Letters, _, _, T.m_Letters___contains__, F.ok sc_Letters___contains__ (fun vs H Q E h => ?_) (fun cdv A outer s H vs Q E hr h => ?_), b⟩
  · obtain ⟨p, z, ws, rfl, _⟩ := h
    rfl
  · obtain ⟨p, v, ws, rfl, ⟨dx, t, o, h1, h2, h3, h4⟩, kd, k⟩ := h
    refine ⟨_, (pss_one (ps_ret (pe_and (pe_callB call_isi (by rfl) T.n_isinstance (by decide +kernel) (pa_cons (pv 1) (pa_cons (pe_bty "str" T.n_str (by decide +kernel)) pa_nil))) (pe_one (pe_cmpR op_in_seq (pv 1) (pe_fld (pv 0) rfl) (by rfl)))))), ?_⟩
    walk_at "st"
    refine rd_isiKd kd ?_
    walk_at "st"
    cases hs : isStrV v with
    | false =>
      refine iteF ?_
      rw [inWs_not hs] at k
      exact k
    | true =>
      obtain ⟨z, rfl⟩ := isStrV_iff.mp hs
      walk_at "st"
      refine rd_fldAt h1 T.cl_Letters T.na_Letters_words rfl ?_
      refine ⟨_, _, rfl, .inr (st_frz h2), rfl, flat_strs _, ?_⟩
      rw [if_neg Bool.false_ne_true, inV_strs]
      exact k
def spLetEq (a : Ad) : Sp := fun vs H Q _ => ∃ p q ws zs, vs = [.ref p, .ref q] ∧ LetAt a H p ws ∧ LetAt a H q zs ∧ Q (.bl (decide (ws = zs))) H
theorem c_Letters___eq__ (T : Txt P K mg a) : Mth P w K mg base 1 a.Letters "__eq__" ["self", "other"] (spLetEq a) := by
  obtain ⟨fd, F, b⟩ := T.F_Letters___eq__
  refine ⟨T.cl_Letters, _, _, T.m_Letters___eq__, F.ok sc_Letters___eq__ (fun vs H Q E h => ?_) (fun cdv A outer s H vs Q E hr h => ?_), b⟩
  · obtain ⟨p, z, ws, zs, rfl, _⟩ := h
    rfl
  · obtain ⟨p, q, ws, zs, rfl, ⟨dx, t, o, h1, h2, h3, h4⟩, ⟨dy, t', o', g1, g2, g3, g4⟩, k⟩ := h
    refine ⟨_, (pss_one (ps_ret (pe_and (pe_callB call_isi (by rfl) T.n_isinstance (by decide +kernel) (pa_cons (pv 1) (pa_cons (pe_gref T.g_Letters) pa_nil))) (pe_one (pe_cmpR (op_eqD hr.units) (pe_fld (pv 0) rfl) (pe_fld (pv 1) rfl) (by rfl)))))), ?_⟩
    walk_at "st"
    refine rd_isiOwn T.cl_Letters T.isi_Letters g1 ?_
    walk_at "st"
    refine rd_fldAt h1 T.cl_Letters T.na_Letters_words rfl ?_
    walk_at "st"
    refine rd_fldAt g1 T.cl_Letters T.na_Letters_words rfl ?_
    refine ⟨_, _, .tup (st_frz h2) (dp_strs _), .tup (st_frz g2) (dp_strs _), shaped_strs _ h4, shaped_strs _ g4, ?_⟩
    rw [PyData.eqv, eqvAll_strs]
    exact k
end


section
variable {P : Program} {w : World} {K : PySem.W.Frag} {mg : Str → Option Value} {base : Heap} {a : Ad}
/-! ### what a run is -/
inductive RunC
  | shape
  | letter
  | count
  | ok (z : Str) (n : Int)
def isCnt : V → Bool
  | .int n => decide (1 ≤ n) && decide (n ≤ 1000000000000000000000000000000)
  | _ => false
def Away (S : List Addr) (v : V) : Prop := ∀ p ∈ S, v ≠ .ref p
inductive RunIs (S : List Addr) (H : Hp) (ws : List Str) : V → RunC → Prop
  | shape {v : V} (k : Kd H v) (w : Away S v) (h : ∀ p xs, v = .ref p → (H p = some (.lst xs) ∨ H p = some (.tup xs)) → xs.length ≠ 2) : RunIs S H ws v .shape
  | letter {p : Addr} {x y : V} (h : H p = some (.lst [x, y]) ∨ H p = some (.tup [x, y])) (w : Away S (.ref p)) (kx : Kd H x) (wx : Away S x) (b : inWs x ws = false) : RunIs S H ws (.ref p) .letter
  | count {p : Addr} {x y : V} (h : H p = some (.lst [x, y]) ∨ H p = some (.tup [x, y])) (w : Away S (.ref p)) (kx : Kd H x) (wx : Away S x) (ky : Kd H y) (wy : Away S y) (g : inWs x ws = true) (b : isCnt y = false) : RunIs S H ws (.ref p) .count
  | ok {p : Addr} {z : Str} {n : Int} (h : H p = some (.lst [.str z, .int n]) ∨ H p = some (.tup [.str z, .int n])) (w : Away S (.ref p)) (hz : z ∈ ws) (n1 : 1 ≤ n) (n2 : n ≤ 1000000000000000000000000000000) : RunIs S H ws (.ref p) (.ok z n)
section
variable {S S' : List Addr} {H H' : Hp} {ws : List Str} {v : V} {c : RunC}
theorem Away.sub {v : V} (h : Away S v) (s : ∀ p ∈ S', p ∈ S) : Away S' v := fun p hp => h p (s p hp)
theorem Away.ni {p : Addr} (h : Away S (.ref p)) : p ∉ S := fun q => h p q rfl
theorem kd_to {v : V} (k : Kd H v) (w : Away S v) (e : ∀ b o, b ∉ S → H b = some o → H' b = some o) : Kd H' v := by
  cases k with
  | str z h => exact .str z h
  | non => exact .non
  | bl b => exact .bl b
  | int i => exact .int i
  | lst h => exact .lst (e _ _ w.ni h)
  | tup h => exact .tup (e _ _ w.ni h)
  | dK h => exact .dK (e _ _ w.ni h)
theorem RunIs.to (x : RunIs S H ws v c) (e : ∀ b o, b ∉ S → H b = some o → H' b = some o) : RunIs S H' ws v c := by
  cases x with
  | shape k w h =>
    refine .shape (kd_to k w e) w fun p xs ev hx => ?_
    subst ev
    have n := w.ni
    cases k with
    | lst q => rw [e _ _ n q] at hx; rcases hx with hx | hx <;> cases hx; exact h p _ rfl (.inl q)
    | tup q => rw [e _ _ n q] at hx; rcases hx with hx | hx <;> cases hx; exact h p _ rfl (.inr q)
    | dK q => rw [e _ _ n q] at hx; rcases hx with hx | hx <;> cases hx
  | letter h w kx wx b => exact .letter (h.imp (e _ _ w.ni) (e _ _ w.ni)) w (kd_to kx wx e) wx b
  | count h w kx wx ky wy g b => exact .count (h.imp (e _ _ w.ni) (e _ _ w.ni)) w (kd_to kx wx e) wx (kd_to ky wy e) wy g b
  | ok h w hz n1 n2 => exact .ok (h.imp (e _ _ w.ni) (e _ _ w.ni)) w hz n1 n2
theorem RunIs.ex (x : RunIs S H ws v c) (e : Ex H H') : RunIs S H' ws v c := x.to fun b o _ h => e b o h
theorem RunIs.sub (x : RunIs S H ws v c) (s : ∀ p ∈ S', p ∈ S) : RunIs S' H ws v c := by
  cases x with
  | shape k w h => exact .shape k (w.sub s) h
  | letter h w kx wx b => exact .letter h (w.sub s) kx (wx.sub s) b
  | count h w kx wx ky wy g b => exact .count h (w.sub s) kx (wx.sub s) ky (wy.sub s) g b
  | ok h w hz n1 n2 => exact .ok h (w.sub s) hz n1 n2
theorem RunIs.kd (x : RunIs S H ws v c) : Kd H v := by
  cases x with
  | shape k w h => exact k
  | letter h w kx wx b => exact h.elim .lst .tup
  | count h w kx wx ky wy g b => exact h.elim .lst .tup
  | ok h w hz n1 n2 => exact h.elim .lst .tup
end
/-- runs and what each of them is -/
def RunsAre (S : List Addr) (H : Hp) (ws : List Str) (vs : List V) (cs : List RunC) : Prop := vs.length = cs.length ∧ ∀ (i : Nat) (v : V), vs[i]? = some v → ∃ c, cs[i]? = some c ∧ RunIs S H ws v c
structure RunsX (a : Ad) (cs : List RunC) (H : Hp) (E : XK) : Prop where
  shape : ∀ j : Nat, cs[j]? = some .shape → (∀ i, i < j → ∃ z n, cs[i]? = some (.ok z n)) → ∀ d H', H d = none → Ex H H' → H' d = some (.xd [("index", .int (j : Nat))]) → E (.ref a.BadRuns) (some d) H'
  letter : ∀ j : Nat, cs[j]? = some .letter → (∀ i, i < j → ∃ z n, cs[i]? = some (.ok z n)) → ∀ d H', H d = none → Ex H H' → H' d = some (.xd [("index", .int (j : Nat))]) → E (.ref a.BadLetter) (some d) H'
  count : ∀ j : Nat, cs[j]? = some .count → (∀ i, i < j → ∃ z n, cs[i]? = some (.ok z n)) → ∀ d H', H d = none → Ex H H' → H' d = some (.xd [("index", .int (j : Nat))]) → E (.ref a.BadCount) (some d) H'
def spNeedRuns (a : Ad) (K : PySem.W.Frag) : Sp := fun us H Q E => ∃ l r vs ws cs, us = [.ref l, .ref r] ∧ LetAt a H l ws ∧ (∀ z ∈ ws, z.length ≤ 1000) ∧ (H r = some (.lst vs) ∨ SqT K H r vs) ∧ vs.length ≤ 100000 ∧ RunsAre [] H ws vs cs ∧ RunsX a cs H E ∧ ((∀ i, i < cs.length → ∃ z n, cs[i]? = some (.ok z n)) → ∀ H', Ex H H' → Q .non H')
theorem c_need_runs (T : Txt P K mg a) : CalX P w K mg base 3 "need_runs" ["letters", "runs"] (spNeedRuns a K) := by
  obtain ⟨fd, F, b⟩ := T.F_need_runs
  refine ⟨_, _, F.okX sc_need_runs (fun vs H Q E h => ?_) (fun cdv A outer s H us Q E hr h => ?_), T.g_need_runs, F.kp, b⟩
  · obtain ⟨l, r, vs, ws, cs, rfl, _⟩ := h
    rfl
  · obtain ⟨l, r, vs, ws, cs, rfl, L, wl, hr0, big, ⟨len, are⟩, RX, k⟩ := h
    rw [← len] at k
    rcases hr0 with hr0 | hr0
    · refine ⟨_, (pss_one (ps_for (passes_of rfl) (by rfl) (pi_enum (by rfl) T.n_enumerate (pa_cons (pv 1) pa_nil)) (pg_tup rfl (pgs_cons (pg_name (i := 2) sc_need_runs.nd rfl (by first | exact Or.inl rfl | exact Or.inr rfl)) (pgs_cons (pg_name (i := 3) sc_need_runs.nd rfl (by first | exact Or.inl rfl | exact Or.inr rfl)) pgs_nil)))
    (pss_cons (ps_if (PW.pt (pw_or (pt_not (pt_val (pe_callC (c_is_list T) hr (pa_cons (pv 3) pa_nil)))) (pw_or1 (pt_cmpR op_ne (pe_callB (CallR.or call_len_seq call_len_str) (by rfl) T.n_len (by decide +kernel) (pa_cons (pv 3) pa_nil)) pe_int (by rfl))))) (pss_one (ps_raiseX (x_BadRuns T) hr (takes_of rfl rfl rfl rfl) (pa_cons (pv 2) pa_nil))) pss_nil)
      (pss_cons (ps_if (pt_cmpR (op_notInOwn (c_Letters___contains__ T) hr) (pe_ix ix_seq (pv 3) pe_int (fun _ _ => rfl)) (pv 0) (by rfl)) (pss_one (ps_raiseX (x_BadLetter T) hr (takes_of rfl rfl rfl rfl) (pa_cons (pv 2) pa_nil))) pss_nil)
      (pss_one (ps_if (PW.pt (pw_or (pt_not (pt_val (pe_callC (c_is_integer T) hr (pa_cons (pe_ix ix_seq (pv 3) pe_int (fun _ _ => rfl)) pa_nil)))) (pw_or1 (pt_not (pt_chain op_le op_le pe_int (pe_ix ix_seq (pv 3) pe_int (fun _ _ => rfl)) (pe_gint T.g_MOST_COUNT)))))) (pss_one (ps_raiseX (x_BadCount T) hr (takes_of rfl rfl rfl rfl) (pa_cons (pv 2) pa_nil))) pss_nil)))))), ?_⟩
      walk_at "st"
      refine rd_forYl (J := Ite _ r) (H1 := H) (fun R q => ⟨_, rfl, r, _, rfl, sq_of hr0, q⟩) (yl_enum vs) (fun i σ H' => (∀ j, j < i → ∃ z n, cs[j]? = some (.ok z n)) ∧ ∃ v1 v2, σ = [some (.ref l), some (.ref r), v1, v2] ∧ Ex H H') (fun i σ H' _ p => ?_) ⟨fun j h => absurd h (Nat.not_lt_zero _), none, none, rfl, Ex.refl _⟩ (fun i y σ H1 H2 hi p e yy => ?_) (fun σ H' p => ?_)
      · obtain ⟨_, _, _, _, e⟩ := p
        exact sq_of (e _ _ hr0)
      · obtain ⟨pb, v1, v2, rfl, e1⟩ := p
        obtain ⟨t, v, rfl, ht, hz⟩ := yy
        have e2 := e1.trans e
        refine ⟨t, _, rfl, st_of ht, rfl, ?_⟩
        refine ⟨_, _, rfl, _, _, rfl, rfl, ?_⟩
        obtain ⟨c, hc, ri⟩ := are i v hz
        have ri := ri.ex e2
        have L2 := L.ex e2
        have fmt : Fmt (.int (i : Nat)) := fmt_nat (by omega)
        have nxt : ∀ {H' : Hp} {z : Str} {n : Int}, cs[i]? = some (.ok z n) → Ex H H' → (∀ j, j < i + 1 → ∃ z n, cs[j]? = some (.ok z n)) ∧ ∃ v1 v2, [some (.ref l), some (.ref r), some (.int (i : Nat)), some v] = [some (.ref l), some (.ref r), v1, v2] ∧ Ex H H' := fun ok e' => ⟨fun j hj => by
          rcases Nat.lt_succ_iff_lt_or_eq.mp hj with q | q
          · exact pb j q
          · rw [q]; exact ⟨_, _, ok⟩, _, _, rfl, e'⟩
        walk_at "st"
        refine ⟨v, rfl, ri.kd, fun H3 e3 => ?_⟩
        dsimp only
        have e03 := e2.trans e3
        have rsh : ∀ {H4 : Hp}, cs[i]? = some .shape → Ex H H4 → ∀ d H', H4 d = none → Ex H4 H' → H' d = some (.xd [("index", .int (i : Nat))]) → E (.ref a.BadRuns) (some d) H' := fun hs e4 d H' hd e' h => RX.shape i hs pb d H' (fresh_back e4 hd) (e4.trans e') h
        have len2 : ∀ {p : Addr} {xs : List V} {R : List V → Prop}, (H3 p = some (.lst xs) ∨ H3 p = some (.tup xs)) → R xs → ∃ q ys, [V.ref p] = [.ref q] ∧ (SqL K H3 q ys ∨ SqT K H3 q ys) ∧ R ys := fun {p xs R} h q => ⟨p, xs, rfl, h.imp sq_of st_of, q⟩
        have ix : ∀ {p : Addr} {xs : List V} {i : Nat} {x : V} {R : VK}, (H3 p = some (.lst xs) ∨ H3 p = some (.tup xs)) → xs[i]? = some x → R x H3 → rIx K (.ref p) (.int (i : Nat)) H3 R := fun {p xs i x R} h hx q => h.elim (fun h => .inl ⟨p, xs, _, x, rfl, rfl, sq_of h, atI_nat hx, q⟩) (fun h => .inr (.inl ⟨p, xs, _, x, rfl, rfl, st_of h, atI_nat hx, q⟩))
        have seq : ∀ {p : Addr} {xs : List V}, (H2 p = some (.lst xs) ∨ H2 p = some (.tup xs)) → isSeqV H2 (.ref p) = true := fun {p xs} h => by
          rcases h with h | h <;> simp only [isSeqV, h]
        cases ri with
        | shape kd _ sh =>
          cases hs : isSeqV H2 v with
          | false =>
            walk_at "st"
            exact rz_BadRuns fmt (rsh hc e03)
          | true =>
            obtain ⟨p, xs, rfl, hp⟩ : ∃ p xs, v = .ref p ∧ (H2 p = some (.lst xs) ∨ H2 p = some (.tup xs)) := by
              cases kd with
              | lst h => exact ⟨_, _, rfl, .inl h⟩
              | tup h => exact ⟨_, _, rfl, .inr h⟩
              | dK h => simp only [isSeqV, h] at hs; cases hs
              | _ => cases hs
            walk_at "st"
            refine .inl (len2 (hp.imp (e3 _ _) (e3 _ _)) ?_)
            walk_at "st"
            rw [decide_eq_false (show ¬ V.int ((xs.length : Nat) : Int) = V.int 2 from fun q => sh p xs rfl hp (by have := V.int.inj q; omega))]
            walk_at "st"
            exact rz_BadRuns fmt (rsh hc e03)
        | letter h _ kx _ bad =>
          rw [seq h]
          have h3 := h.imp (e3 _ _) (e3 _ _)
          walk_at "st"
          refine .inl (len2 h3 ?_)
          walk_at "st"
          rw [decide_eq_true (show V.int (([_, _] : List V).length : Nat) = V.int 2 from rfl)]
          walk_at "st"
          refine ix (i := 0) h3 rfl ?_
          walk_at "st"
          obtain ⟨dx, t0, o0, q1, q2, q3, q4⟩ := id (L2.ex e3)
          refine ⟨_, _, _, rfl, q1, _, _, _, rfl, L2.ex e3, kx.ex e3, _, rfl, ?_⟩
          rw [bad]
          walk_at "st"
          exact rz_BadLetter fmt (fun d H' hd e' h => RX.letter i hc pb d H' (fresh_back e03 hd) (e03.trans e') h)
        | @count p x y h _ kx _ ky _ good bad =>
          rw [seq h]
          have h3 := h.imp (e3 _ _) (e3 _ _)
          walk_at "st"
          refine .inl (len2 h3 ?_)
          walk_at "st"
          rw [decide_eq_true (show V.int (([_, _] : List V).length : Nat) = V.int 2 from rfl)]
          walk_at "st"
          refine ix (i := 0) h3 rfl ?_
          walk_at "st"
          obtain ⟨dx, t0, o0, q1, q2, q3, q4⟩ := id (L2.ex e3)
          refine ⟨_, _, _, rfl, q1, _, _, _, rfl, L2.ex e3, kx.ex e3, _, rfl, ?_⟩
          rw [good]
          walk_at "st"
          refine ix (i := 1) h3 rfl ?_
          walk_at "st"
          refine ⟨_, rfl, ky.ex e3, ?_⟩
          walk_at "st"
          have fin := fun d H' hd e' h => RX.count i hc pb d H' (fresh_back e03 hd) (e03.trans e') h
          cases hi2 : isIntV y with
          | false =>
            walk_at "st"
            exact rz_BadCount fmt fin
          | true =>
            obtain ⟨n, rfl⟩ : ∃ n, y = V.int n := by
              cases y with
              | int n => exact ⟨n, rfl⟩
              | _ => cases hi2
            walk_at "st"
            refine ix (i := 1) h3 rfl ?_
            walk_at "st"
            have bad : (decide (1 ≤ n) && decide (n ≤ 1000000000000000000000000000000)) = false := bad
            cases c1 : decide (1 ≤ n) with
            | false =>
              walk_at "st"
              exact rz_BadCount fmt fin
            | true =>
              rw [c1, Bool.true_and] at bad
              walk_at "st"
              rw [bad]
              walk_at "st"
              exact rz_BadCount fmt fin
        | @ok p z n h _ hzw n1 n2 =>
          rw [seq h]
          have h3 : H3 p = some (.lst [.str z, .int n]) ∨ H3 p = some (.tup [.str z, .int n]) := h.imp (e3 _ _) (e3 _ _)
          walk_at "st"
          refine .inl (len2 h3 ?_)
          walk_at "st"
          rw [decide_eq_true (show V.int (([_, _] : List V).length : Nat) = V.int 2 from rfl)]
          walk_at "st"
          refine ix (i := 0) h3 rfl ?_
          walk_at "st"
          obtain ⟨dx, t0, o0, q1, q2, q3, q4⟩ := id (L2.ex e3)
          refine ⟨_, _, _, rfl, q1, _, _, _, rfl, L2.ex e3, .str z (wl z hzw), _, rfl, ?_⟩
          rw [show inWs (V.str z) ws = true from decide_eq_true hzw]
          walk_at "st"
          refine ix (i := 1) h3 rfl ?_
          walk_at "st"
          refine ⟨_, rfl, .int n, ?_⟩
          rw [show isIntV (V.int n) = true from rfl]
          walk_at "st"
          refine ix (i := 1) h3 rfl ?_
          walk_at "st"
          rw [decide_eq_true n1]
          walk_at "st"
          rw [decide_eq_true n2]
          walk_at "st"
          exact nxt hc e03
      · obtain ⟨pb, v1, v2, rfl, e1⟩ := p
        exact k (fun i hi => pb i (by omega)) _ e1
    · refine ⟨_, (pss_one (ps_for (passes_of rfl) (by rfl) (pi_enumT (by rfl) T.n_enumerate (pa_cons (pv 1) pa_nil)) (pg_tup rfl (pgs_cons (pg_name (i := 2) sc_need_runs.nd rfl (by first | exact Or.inl rfl | exact Or.inr rfl)) (pgs_cons (pg_name (i := 3) sc_need_runs.nd rfl (by first | exact Or.inl rfl | exact Or.inr rfl)) pgs_nil)))
    (pss_cons (ps_if (PW.pt (pw_or (pt_not (pt_val (pe_callC (c_is_list T) hr (pa_cons (pv 3) pa_nil)))) (pw_or1 (pt_cmpR op_ne (pe_callB (CallR.or call_len_seq call_len_str) (by rfl) T.n_len (by decide +kernel) (pa_cons (pv 3) pa_nil)) pe_int (by rfl))))) (pss_one (ps_raiseX (x_BadRuns T) hr (takes_of rfl rfl rfl rfl) (pa_cons (pv 2) pa_nil))) pss_nil)
      (pss_cons (ps_if (pt_cmpR (op_notInOwn (c_Letters___contains__ T) hr) (pe_ix ix_seq (pv 3) pe_int (fun _ _ => rfl)) (pv 0) (by rfl)) (pss_one (ps_raiseX (x_BadLetter T) hr (takes_of rfl rfl rfl rfl) (pa_cons (pv 2) pa_nil))) pss_nil)
      (pss_one (ps_if (PW.pt (pw_or (pt_not (pt_val (pe_callC (c_is_integer T) hr (pa_cons (pe_ix ix_seq (pv 3) pe_int (fun _ _ => rfl)) pa_nil)))) (pw_or1 (pt_not (pt_chain op_le op_le pe_int (pe_ix ix_seq (pv 3) pe_int (fun _ _ => rfl)) (pe_gint T.g_MOST_COUNT)))))) (pss_one (ps_raiseX (x_BadCount T) hr (takes_of rfl rfl rfl rfl) (pa_cons (pv 2) pa_nil))) pss_nil)))))), ?_⟩
      walk_at "st"
      refine rd_forYl (J := ItE _ r) (H1 := H) (fun R q => ⟨_, rfl, r, _, rfl, hr0, q⟩) (yl_enumT vs) (fun i σ H' => (∀ j, j < i → ∃ z n, cs[j]? = some (.ok z n)) ∧ ∃ v1 v2, σ = [some (.ref l), some (.ref r), v1, v2] ∧ Ex H H') (fun i σ H' _ p => ?_) ⟨fun j h => absurd h (Nat.not_lt_zero _), none, none, rfl, Ex.refl _⟩ (fun i y σ H1 H2 hi p e yy => ?_) (fun σ H' p => ?_)
      · obtain ⟨_, _, _, _, e⟩ := p
        exact sqt_kt hr0 (.of e)
      · obtain ⟨pb, v1, v2, rfl, e1⟩ := p
        obtain ⟨t, v, rfl, ht, hz⟩ := yy
        have e2 := e1.trans e
        refine ⟨t, _, rfl, st_of ht, rfl, ?_⟩
        refine ⟨_, _, rfl, _, _, rfl, rfl, ?_⟩
        obtain ⟨c, hc, ri⟩ := are i v hz
        have ri := ri.ex e2
        have L2 := L.ex e2
        have fmt : Fmt (.int (i : Nat)) := fmt_nat (by omega)
        have nxt : ∀ {H' : Hp} {z : Str} {n : Int}, cs[i]? = some (.ok z n) → Ex H H' → (∀ j, j < i + 1 → ∃ z n, cs[j]? = some (.ok z n)) ∧ ∃ v1 v2, [some (.ref l), some (.ref r), some (.int (i : Nat)), some v] = [some (.ref l), some (.ref r), v1, v2] ∧ Ex H H' := fun ok e' => ⟨fun j hj => by
          rcases Nat.lt_succ_iff_lt_or_eq.mp hj with q | q
          · exact pb j q
          · rw [q]; exact ⟨_, _, ok⟩, _, _, rfl, e'⟩
        walk_at "st"
        refine ⟨v, rfl, ri.kd, fun H3 e3 => ?_⟩
        dsimp only
        have e03 := e2.trans e3
        have rsh : ∀ {H4 : Hp}, cs[i]? = some .shape → Ex H H4 → ∀ d H', H4 d = none → Ex H4 H' → H' d = some (.xd [("index", .int (i : Nat))]) → E (.ref a.BadRuns) (some d) H' := fun hs e4 d H' hd e' h => RX.shape i hs pb d H' (fresh_back e4 hd) (e4.trans e') h
        have len2 : ∀ {p : Addr} {xs : List V} {R : List V → Prop}, (H3 p = some (.lst xs) ∨ H3 p = some (.tup xs)) → R xs → ∃ q ys, [V.ref p] = [.ref q] ∧ (SqL K H3 q ys ∨ SqT K H3 q ys) ∧ R ys := fun {p xs R} h q => ⟨p, xs, rfl, h.imp sq_of st_of, q⟩
        have ix : ∀ {p : Addr} {xs : List V} {i : Nat} {x : V} {R : VK}, (H3 p = some (.lst xs) ∨ H3 p = some (.tup xs)) → xs[i]? = some x → R x H3 → rIx K (.ref p) (.int (i : Nat)) H3 R := fun {p xs i x R} h hx q => h.elim (fun h => .inl ⟨p, xs, _, x, rfl, rfl, sq_of h, atI_nat hx, q⟩) (fun h => .inr (.inl ⟨p, xs, _, x, rfl, rfl, st_of h, atI_nat hx, q⟩))
        have seq : ∀ {p : Addr} {xs : List V}, (H2 p = some (.lst xs) ∨ H2 p = some (.tup xs)) → isSeqV H2 (.ref p) = true := fun {p xs} h => by
          rcases h with h | h <;> simp only [isSeqV, h]
        cases ri with
        | shape kd _ sh =>
          cases hs : isSeqV H2 v with
          | false =>
            walk_at "st"
            exact rz_BadRuns fmt (rsh hc e03)
          | true =>
            obtain ⟨p, xs, rfl, hp⟩ : ∃ p xs, v = .ref p ∧ (H2 p = some (.lst xs) ∨ H2 p = some (.tup xs)) := by
              cases kd with
              | lst h => exact ⟨_, _, rfl, .inl h⟩
              | tup h => exact ⟨_, _, rfl, .inr h⟩
              | dK h => simp only [isSeqV, h] at hs; cases hs
              | _ => cases hs
            walk_at "st"
            refine .inl (len2 (hp.imp (e3 _ _) (e3 _ _)) ?_)
            walk_at "st"
            rw [decide_eq_false (show ¬ V.int ((xs.length : Nat) : Int) = V.int 2 from fun q => sh p xs rfl hp (by have := V.int.inj q; omega))]
            walk_at "st"
            exact rz_BadRuns fmt (rsh hc e03)
        | letter h _ kx _ bad =>
          rw [seq h]
          have h3 := h.imp (e3 _ _) (e3 _ _)
          walk_at "st"
          refine .inl (len2 h3 ?_)
          walk_at "st"
          rw [decide_eq_true (show V.int (([_, _] : List V).length : Nat) = V.int 2 from rfl)]
          walk_at "st"
          refine ix (i := 0) h3 rfl ?_
          walk_at "st"
          obtain ⟨dx, t0, o0, q1, q2, q3, q4⟩ := id (L2.ex e3)
          refine ⟨_, _, _, rfl, q1, _, _, _, rfl, L2.ex e3, kx.ex e3, _, rfl, ?_⟩
          rw [bad]
          walk_at "st"
          exact rz_BadLetter fmt (fun d H' hd e' h => RX.letter i hc pb d H' (fresh_back e03 hd) (e03.trans e') h)
        | @count p x y h _ kx _ ky _ good bad =>
          rw [seq h]
          have h3 := h.imp (e3 _ _) (e3 _ _)
          walk_at "st"
          refine .inl (len2 h3 ?_)
          walk_at "st"
          rw [decide_eq_true (show V.int (([_, _] : List V).length : Nat) = V.int 2 from rfl)]
          walk_at "st"
          refine ix (i := 0) h3 rfl ?_
          walk_at "st"
          obtain ⟨dx, t0, o0, q1, q2, q3, q4⟩ := id (L2.ex e3)
          refine ⟨_, _, _, rfl, q1, _, _, _, rfl, L2.ex e3, kx.ex e3, _, rfl, ?_⟩
          rw [good]
          walk_at "st"
          refine ix (i := 1) h3 rfl ?_
          walk_at "st"
          refine ⟨_, rfl, ky.ex e3, ?_⟩
          walk_at "st"
          have fin := fun d H' hd e' h => RX.count i hc pb d H' (fresh_back e03 hd) (e03.trans e') h
          cases hi2 : isIntV y with
          | false =>
            walk_at "st"
            exact rz_BadCount fmt fin
          | true =>
            obtain ⟨n, rfl⟩ : ∃ n, y = V.int n := by
              cases y with
              | int n => exact ⟨n, rfl⟩
              | _ => cases hi2
            walk_at "st"
            refine ix (i := 1) h3 rfl ?_
            walk_at "st"
            have bad : (decide (1 ≤ n) && decide (n ≤ 1000000000000000000000000000000)) = false := bad
            cases c1 : decide (1 ≤ n) with
            | false =>
              walk_at "st"
              exact rz_BadCount fmt fin
            | true =>
              rw [c1, Bool.true_and] at bad
              walk_at "st"
              rw [bad]
              walk_at "st"
              exact rz_BadCount fmt fin
        | @ok p z n h _ hzw n1 n2 =>
          rw [seq h]
          have h3 : H3 p = some (.lst [.str z, .int n]) ∨ H3 p = some (.tup [.str z, .int n]) := h.imp (e3 _ _) (e3 _ _)
          walk_at "st"
          refine .inl (len2 h3 ?_)
          walk_at "st"
          rw [decide_eq_true (show V.int (([_, _] : List V).length : Nat) = V.int 2 from rfl)]
          walk_at "st"
          refine ix (i := 0) h3 rfl ?_
          walk_at "st"
          obtain ⟨dx, t0, o0, q1, q2, q3, q4⟩ := id (L2.ex e3)
          refine ⟨_, _, _, rfl, q1, _, _, _, rfl, L2.ex e3, .str z (wl z hzw), _, rfl, ?_⟩
          rw [show inWs (V.str z) ws = true from decide_eq_true hzw]
          walk_at "st"
          refine ix (i := 1) h3 rfl ?_
          walk_at "st"
          refine ⟨_, rfl, .int n, ?_⟩
          rw [show isIntV (V.int n) = true from rfl]
          walk_at "st"
          refine ix (i := 1) h3 rfl ?_
          walk_at "st"
          rw [decide_eq_true n1]
          walk_at "st"
          rw [decide_eq_true n2]
          walk_at "st"
          exact nxt hc e03
      · obtain ⟨pb, v1, v2, rfl, e1⟩ := p
        exact k (fun i hi => pb i (by omega)) _ e1
/-! ### need_beginning, join_runs -/
def spNeedBeg (a : Ad) : Sp := fun us H Q E => ∃ v, us = [v] ∧ Kd H v ∧ (isBegV v = false → E (.ref a.BadBeginning) none H) ∧ (isBegV v = true → Q .non H)
theorem c_need_beginning (T : Txt P K mg a) : CalX P w K mg base 2 "need_beginning" ["beginning"] (spNeedBeg a) := by
  obtain ⟨fd, F, b⟩ := T.F_need_beginning
  refine ⟨_, _, F.okX sc_need_beginning (fun vs H Q E h => ?_) (fun cdv A outer s H us Q E hr h => ?_), T.g_need_beginning, F.kp, b⟩
  · obtain ⟨v, rfl, _⟩ := h
    rfl
  · obtain ⟨v, rfl, kd, kE, kQ⟩ := h
    refine ⟨_, (pss_one (ps_if (pt_not (pt_val (pe_callC (c_is_beginning T) hr (pa_cons (pv 0) pa_nil)))) (pss_one (ps_raise0 T.x0_BadBeginning (takes_of rfl rfl rfl rfl))) pss_nil)), ?_⟩
    walk_at "st"
    refine ⟨v, rfl, kd, ?_⟩
    walk_at "st"
    cases hb : isBegV v with
    | false =>
      walk_at "st"
      exact kE hb
    | true =>
      walk_at "st"
      exact kQ hb
def spJoin (K : PySem.W.Frag) : Sp := fun us H Q _ => ∃ r vs rs, us = [.ref r] ∧ H r = some (.lst vs) ∧ PS K H vs rs ∧ vs.length ≤ 10000 ∧ (∀ x ∈ rs, PyData.strOk x.1 = true) ∧
  ∀ t o ts H', Ex H H' → o.dict = none → H' t = some (.frz o (.tup ts)) → PR K H' ts (joinR rs) → Q (.ref t) H'
theorem c_join_runs (T : Txt P K mg a) : Cal P w K mg base 1 "join_runs" ["runs"] (spJoin K) := by
  obtain ⟨fd, F, b⟩ := T.F_join_runs
  refine ⟨_, _, F.ok sc_join_runs (fun vs H Q E h => ?_) (fun cdv A outer s H us Q E hr h => ?_), T.g_join_runs, F.kp, b⟩
  · obtain ⟨r, vs, rs, rfl, _⟩ := h
    rfl
  · obtain ⟨r, vs, rs, rfl, hr0, pr, big, so, k⟩ := h
    refine ⟨_, (pss_cons (ps_set (i := 1) sc_join_runs.nd rfl (by first | exact Or.inl rfl | exact Or.inr rfl) (pe_lst pa_nil))
  (pss_cons (ps_for PassesOwn.never (by rfl) (pi_list (pv 0)) (pg_sqK (K := K) (n := 2) rfl (pgs_cons (pg_name (i := 2) sc_join_runs.nd rfl (by first | exact Or.inl rfl | exact Or.inr rfl)) (pgs_cons (pg_name (i := 3) sc_join_runs.nd rfl (by first | exact Or.inl rfl | exact Or.inr rfl)) pgs_nil)))
    (pss_one (ps_if (PW.pt (pw_and (pt_cmpR (op_neD hr.units) (pv 1) (pe_lst pa_nil) (by rfl)) (pw_and1 (pt_cmpR op_eq (pe_ix ix_tup (pe_ix ix_list (pv 1) (pe_un un_neg pe_int) (fun _ _ => rfl)) pe_int (fun _ _ => rfl)) (pv 2) (by rfl))))) (pss_one (ps_asg (pe_tup (pa_cons (pv 2) (pa_cons (pe_op op_add (pe_ix ix_tup (pe_ix ix_list (pv 1) (pe_un un_neg pe_int) (fun _ _ => rfl)) pe_int (fun _ _ => rfl)) (pv 3)) pa_nil))) (pg_sub (pv 1) (pe_un un_neg pe_int) set_list))) (pss_one (ps_expr (pe_bm PySem.F.plainAttrs_list PySem.F.slot_list_append PySem.F.type_list_append mt_append (pv 1) (pa_cons (pe_tup (pa_cons (pv 2) (pa_cons (pv 3) pa_nil))) pa_nil)))))))
  (pss_one (ps_ret (pe_callTy call_tuple_frz (by rfl) T.n_tuple (by decide +kernel) (pa_cons (pv 1) pa_nil)))))), ?_⟩
    walk_at "st"
    refine ⟨by show 0 ≤ sizeLine; decide, ?_⟩
    intro D hD
    have e1 := Ex.new (o := HO.lst []) hD
    have h1 : upd H D (HO.lst []) D = some (HO.lst []) := upd_same
    generalize upd H D (HO.lst []) = H1 at e1 h1 ⊢
    walk_at "st"
    have lr := pr.len
    refine rd_forYl (J := Itl K r) (H1 := H1) (fun R q => ⟨_, rfl, r, rfl, ⟨_, sq_of (e1 _ _ hr0)⟩, q⟩) (yl_list vs) (fun i σ H' => ∃ v2 v3 ts, σ = [some (.ref r), some (.ref D), v2, v3] ∧ Ex H H' ∧ H' D = some (.lst ts) ∧ PR K H' ts (joinR (rs.take i))) (fun i σ H' _ p => ?_) ⟨none, none, [], rfl, e1, h1, .nil⟩ (fun i y σ H2 H3 hi p e yy => ?_) (fun σ H' p => ?_)
    · obtain ⟨_, _, _, _, e, _⟩ := p
      exact sq_of (e _ _ hr0)
    · obtain ⟨v2, v3, ts, rfl, e2, h2, q2⟩ := p
      have e3 := e2.trans e
      obtain ⟨⟨z, n⟩, p, hri, rfl, sp⟩ := (pr.ex e3).get yy
      have q3 := q2.ex e
      have h3 := e _ _ h2
      have tk : rs.take (i + 1) = rs.take i ++ [(z, n)] := by rw [List.take_add_one, hri]; rfl
      have lts : ts.length ≤ 10000 := by
        have := q2.len
        have h := joinR_len (rs.take i)
        rw [List.length_take] at h
        omega
      refine gS2 rfl sp ?_
      have sots : ∀ x ∈ joinR (rs.take i), PyData.strOk x.1 = true := joinR_mem (C := fun x => PyData.strOk x = true) (rs.take i) [] (fun x hx => so x (List.mem_of_mem_take hx)) (by simp)
      walk_at "st"
      refine ⟨by show 0 ≤ sizeLine; decide, ?_⟩
      intro em hem
      have e4 := Ex.new (o := HO.lst []) hem
      have h4 : upd H3 em (HO.lst []) em = some (HO.lst []) := upd_same
      generalize upd H3 em (HO.lst []) = H4 at e4 h4 ⊢
      have q4 := q3.ex e4
      refine ⟨.list _, .list [], .lst (sq_of (e4 _ _ h3)) q4, .lst (sq_of h4) .nil, shaped_pL _ sots, by decide +kernel, ?_⟩
      rw [eqv_pnilL]
      walk_at "st"
      have e04 := e3.trans e4
      have nD : ∀ {b : Addr} {o : HO}, H b = some o → b ≠ D := fun h => ne_of_none h hD
      have app : joinR (rs.take (i + 1)) = joinR (rs.take i) ++ [(z, n)] → ∀ q, H4 q = none → ∃ v2 v3 ts', [some (V.ref r), some (V.ref D), some (V.str z), some (V.int n)] = [some (.ref r), some (.ref D), v2, v3] ∧ Ex H (upd (upd H4 q (.tup [.str z, .int n])) D (.lst (ts ++ [.ref q]))) ∧ (upd (upd H4 q (.tup [.str z, .int n])) D (.lst (ts ++ [.ref q]))) D = some (.lst ts') ∧ PR K (upd (upd H4 q (.tup [.str z, .int n])) D (.lst (ts ++ [.ref q]))) ts' (joinR (rs.take (i + 1))) := fun ej q hq => by
        have e5 := Ex.new (o := HO.tup [.str z, .int n]) hq
        have hD5 : upd H4 q (.tup [.str z, .int n]) D = some (.lst ts) := e5 _ _ (e4 _ _ h3)
        have k5 : Kt (upd H4 q (.tup [.str z, .int n])) (upd (upd H4 q (.tup [.str z, .int n])) D (.lst (ts ++ [.ref q]))) := Kt.lst hD5
        refine ⟨_, _, ts ++ [.ref q], rfl, Ex.mut (e04.trans e5) hD, upd_same, ?_⟩
        rw [ej]
        exact ((q4.ex e5).kt k5).app (.cons (pr_one (sqt_kt (st_of upd_same) k5)) .nil)
      have lsz : ts.length < sizeLine := Nat.lt_of_le_of_lt lts (by decide)
      by_cases hts : ts = []
      · have hj : joinR (rs.take i) = [] := by
          have := q2.len
          rw [hts] at this
          exact List.length_eq_zero_iff.mp this.symm
        rw [hj, show (!([] : List (Str × Int)).isEmpty) = false from rfl]
        walk_at "st"
        refine rd_tyL (sq_of (e4 _ _ h3)) ?_
        walk_at "st"
        refine ⟨by show 2 ≤ sizeLine; decide, fun q hq => ?_⟩
        have hD5 := (Ex.new (o := HO.tup [.str z, .int n]) hq) _ _ (e4 _ _ h3)
        refine rd_nil ?_
        refine rd_append hD5 lsz ?_
        exact app (by rw [tk, joinR_snoc, hj]; rfl) q hq
      · obtain ⟨ts0, v0, js, ⟨y, m⟩, ets, ejs, pr0, d0⟩ := q4.snoc hts
        obtain ⟨p0, rfl, s0⟩ := pr_inv d0
        have at1 : atI ts (-1) = some (V.ref p0) := by rw [ets]; exact atI_last _ _
        rw [ejs, show (!(js ++ [(y, m)]).isEmpty) = true by simp]
        have g4 := e4 _ _ h3
        walk_at "st"
        refine ⟨1, rfl, D, ts, _, _, rfl, rfl, sq_of g4, at1, ?_⟩
        walk_at "st"
        refine ⟨p0, _, _, _, rfl, rfl, s0, atI_nat (j := 0) rfl, ?_⟩
        walk_at "st"
        by_cases hy : y = z
        · rw [decide_eq_true (congrArg V.str hy)]
          walk_at "st"
          refine rd_asgG ?_
          walk_at "st"
          refine ⟨1, rfl, D, ts, _, _, rfl, rfl, sq_of g4, at1, ?_⟩
          walk_at "st"
          refine ⟨p0, _, _, _, rfl, rfl, s0, atI_nat (j := 1) rfl, ?_⟩
          walk_at "st"
          refine ⟨by show 2 ≤ sizeLine; decide, ?_⟩
          intro q hq
          have e5 := Ex.new (o := HO.tup [V.str z, V.int (m + n)]) hq
          have h5 : upd H4 q (HO.tup [V.str z, V.int (m + n)]) q = some (HO.tup [V.str z, V.int (m + n)]) := upd_same
          generalize upd H4 q (HO.tup [V.str z, V.int (m + n)]) = H5 at e5 h5 ⊢
          show tVar 1 _ _ _
          walk_at "st"
          have g5 := e5 _ _ g4
          have lt : 0 < ts.length := List.length_pos_iff.mpr hts
          refine ⟨1, rfl, D, ts, -1, ts.length - 1, rfl, rfl, g5, ?_, ?_⟩
          · unfold ixN
            rw [if_neg (by decide), if_pos (by omega)]
            congr 1; omega
          have k5 : Kt H5 (upd H5 D (.lst (ts.set (ts.length - 1) (.ref q)))) := Kt.lst g5
          refine ⟨_, _, ts.set (ts.length - 1) (.ref q), rfl, Ex.mut (e04.trans e5) hD, upd_same, ?_⟩
          rw [tk, joinR_snoc, ejs, joinStep_snoc, if_pos hy, ets]
          have : (ts0 ++ [V.ref p0]).set ((ts0 ++ [V.ref p0]).length - 1) (V.ref q) = ts0 ++ [V.ref q] := by simp
          rw [this]
          rw [ets] at k5
          rw [this] at k5
          exact ((pr0.ex e5).kt k5).app (.cons (pr_one (sqt_kt (st_of h5) k5)) .nil)
        · rw [decide_eq_false (fun h => hy (V.str.inj h))]
          walk_at "st"
          refine rd_tyL (sq_of g4) ?_
          walk_at "st"
          refine ⟨by show 2 ≤ sizeLine; decide, fun q hq => ?_⟩
          have hD5 := (Ex.new (o := HO.tup [.str z, .int n]) hq) _ _ g4
          refine rd_nil ?_
          refine rd_append hD5 lsz ?_
          exact app (by rw [tk, joinR_snoc, ejs, joinStep_snoc, if_neg hy]) q hq
    · obtain ⟨v2, v3, ts, rfl, e2, h2, q2⟩ := p
      walk_at "st"
      refine ⟨D, ts, rfl, .inl ⟨sq_of h2, fun t o ht ho => ?_⟩⟩
      rw [List.take_of_length_le (by omega)] at q2
      exact k t o ts _ (e2.trans (Ex.new ht)) ho upd_same (q2.ex (Ex.new ht))
/-! ### History -/
def sumR (rs : List (Str × Int)) : Int := (rs.map (·.2)).sum
def lastR (b : Str) (rs : List (Str × Int)) : Str := match rs.getLast? with
  | some r => r.1
  | none => b
def hfs (l : Addr) (b : Str) (t : Addr) (n : Int) (la : Str) : List (Str × V) := [("letters", .ref l), ("beginning", .str b), ("runs", .ref t), ("size", .int n), ("last", .str la)]
def HisAt (a : Ad) (K : PySem.W.Frag) (H : Hp) (p l : Addr) (b : Str) (rs : List (Str × Int)) : Prop := ∃ dx t o ts, H p = some (.ins a.History dx (hfs l b t (sumR rs) (lastR b rs))) ∧ H t = some (.frz o (.tup ts)) ∧ o.dict = none ∧ PR K H ts rs
theorem HisAt.ex {H H' : Hp} {p l : Addr} {b : Str} {rs : List (Str × Int)} (x : HisAt a K H p l b rs) (e : Ex H H') : HisAt a K H' p l b rs := let ⟨dx, t, o, ts, h1, h2, h3, h4⟩ := x; ⟨dx, t, o, ts, e _ _ h1, e _ _ h2, h3, h4.ex e⟩
def okC (r : Str × Int) : RunC := .ok r.1 r.2
theorem all_ok : ∀ {cs : List RunC}, (∀ i, i < cs.length → ∃ z n, cs[i]? = some (.ok z n)) → ∃ rs : List (Str × Int), cs = rs.map okC
  | [], _ => ⟨[], rfl⟩
  | c :: r, h => by
    obtain ⟨z, n, e⟩ := h 0 (by simp)
    obtain ⟨rs, er⟩ := all_ok (cs := r) fun i hi => by
      have := h (i + 1) (by simp; omega)
      simpa using this
    simp at e
    exact ⟨(z, n) :: rs, by rw [e, er]; rfl⟩
theorem okC_all (rs : List (Str × Int)) : ∀ i, i < (rs.map okC).length → ∃ z n, (rs.map okC)[i]? = some (.ok z n) := fun i hi => by
  rw [List.length_map] at hi
  exact ⟨rs[i].1, rs[i].2, by rw [List.getElem?_map, List.getElem?_eq_getElem hi]; rfl⟩
theorem runs_ps {S : List Addr} {H : Hp} {ws : List Str} : ∀ {vs : List V} {rs : List (Str × Int)}, RunsAre S H ws vs (rs.map okC) → PS K H vs rs ∧ ∀ r ∈ rs, r.1 ∈ ws ∧ 1 ≤ r.2 ∧ r.2 ≤ 1000000000000000000000000000000
  | [], [], _ => ⟨.nil, fun _ h => by cases h⟩
  | [], _ :: _, h => by simp at h; cases h.1
  | _ :: _, [], h => by have := h.1; simp at this
  | v :: vs, r :: rs, ⟨h1, h2⟩ => by
    obtain ⟨p1, p2⟩ := runs_ps (vs := vs) (rs := rs) ⟨by simpa using h1, fun i u hu => by
      have := h2 (i + 1) u (by simpa using hu)
      simpa using this⟩
    obtain ⟨c, hc, ri⟩ := h2 0 v rfl
    have hc : okC r = c := by simpa using hc
    subst hc
    cases ri with
    | ok h w hz n1 n2 =>
      refine ⟨.cons (h.symm.imp st_of sq_of) p1, fun x hx => ?_⟩
      rcases List.mem_cons.mp hx with q | q
      · rw [q]; exact ⟨hz, n1, n2⟩
      · exact p2 x q
structure HisX (a : Ad) (bv : V) (cs : List RunC) (ars : List (Str × Int)) (H : Hp) (E : XK) : Prop where
  beg : isBegV bv = false → E (.ref a.BadBeginning) none H
  runs : isBegV bv = true → RunsX a cs H E
  many : isBegV bv = true → ∀ rs, cs = rs.map okC → 400 < (joinR (ars ++ rs)).length → ∀ d H', H d = none → Ex H H' → H' d = some (.xd [("most", .int 400), ("many", .int ((joinR (ars ++ rs)).length : Nat)), ("what", .str "runs")]) → E (.ref a.TooMany) (some d) H'
def spHisInit (a : Ad) (K : PySem.W.Frag) : Sp := fun us H Q E => ∃ x dx l r ah bv vs avs ws cs ars, us = [.ref x, .ref l, bv, .ref r, .ref ah] ∧ H x = some (.ins a.History dx []) ∧ LetAt a H l ws ∧ (∀ z ∈ ws, z.length ≤ 1000) ∧ Kd H bv ∧ (H r = some (.lst vs) ∨ SqT K H r vs) ∧ vs.length ≤ 4000 ∧ RunsAre [] H ws vs cs ∧
  (H ah = some (.lst avs) ∨ SqT K H ah avs) ∧ avs.length ≤ 4000 ∧ PR K H avs ars ∧ (∀ y ∈ ars, y.1 ∈ ws) ∧ HisX a bv cs ars H E ∧
  (∀ rs b, bv = .str b → isBegB b = true → cs = rs.map okC → (joinR (ars ++ rs)).length ≤ 400 → ∀ H', HisAt a K H' x l b (joinR (ars ++ rs)) → Kx x H H' → Q .non H')
theorem ok_History___init__ {fd : FuncData} (F : FunD K "__init__" "History.__init__" (defArgs s_History___init__) (defBody s_History___init__) (defScope s_History___init__) [.ref a.dp0_History___init__] [("ahead", .ref a.dk_ahead_History___init__)] a.f_History___init__ fd) (T : Txt P K mg a) :
    FnOk P w K mg base (L2.CX P w) 5 a.f_History___init__ fd ["self", "letters", "beginning", "runs", "ahead"] (spHisInit a K) := by
  refine F.ok sc_History___init__ (fun vs H Q E h => ?_) (fun cdv A outer s H us Q E hr h => ?_)
  · obtain ⟨x, dx, l, r, ah, bv, vs, avs, ws, cs, ars, rfl, _⟩ := h
    rfl
  · obtain ⟨x, dx, l, r, ah, bv, vs, avs, ws, cs, ars, rfl, hx, L, wl, kb, hr0, big, are, ha, abig, pra, aw, HX, k⟩ := h
    obtain ⟨dl, tl, ol, l1, l2, l3, so⟩ := id L
    refine ⟨_, (pss_cons (ps_expr (pe_callX (c_need_beginning T) hr (takes_of rfl rfl rfl rfl) (pa_cons (pv 2) pa_nil)))
  (pss_cons (ps_expr (pe_callX (c_need_runs T) hr (takes_of rfl rfl rfl rfl) (pa_cons (pv 1) (pa_cons (pv 3) pa_nil))))
  (pss_cons (ps_set (i := 5) sc_History___init__.nd rfl (by first | exact Or.inl rfl | exact Or.inr rfl) (pe_callC (c_join_runs T) hr (pa_cons (pe_lst (StX.pa_star (pv 4) (StX.pa_star (pv 3) pa_nil))) pa_nil)))
  (pss_cons (ps_if (pt_cmpR op_gt (pe_callB call_len_seq (by rfl) T.n_len (by decide +kernel) (pa_cons (pv 5) pa_nil)) (pe_gint T.g_MOST_RUNS) (by rfl)) (pss_one (ps_raiseX (x_TooMany T) hr (takes_of rfl rfl rfl rfl) (pa_cons pe_str (pa_cons (pe_callB call_len_seq (by rfl) T.n_len (by decide +kernel) (pa_cons (pv 5) pa_nil)) (pa_cons (pe_gint T.g_MOST_RUNS) pa_nil))))) pss_nil)
  (pss_cons (ps_fld (pv 0) (pv 1) rfl)
  (pss_cons (ps_fld (pv 0) (pv 2) rfl)
  (pss_cons (ps_fld (pv 0) (pv 5) rfl)
  (pss_cons (ps_fld (pv 0) (pe_callB (cr_sum rfl) (by rfl) T.n_sum (by decide +kernel) (pa_cons (pe_lc (own := [("letter", 6), ("count", 7)]) (by rfl) sc_History___init__.nd (pi_tup (pv 5)) (blkOk_by (own := [("letter", 6), ("count", 7)]) (N := N_History___init__) (sc := defScope s_History___init__) (by decide +kernel)) (fun _ _ _ _ _ => (pg_tupK (K := K) (n := 2) rfl (pgs_cons (pg_name (i := 6) sc_History___init__.nd rfl (by first | exact Or.inl rfl | exact Or.inr rfl)) (pgs_cons (pg_name (i := 7) sc_History___init__.nd rfl (by first | exact Or.inl rfl | exact Or.inr rfl)) pgs_nil)))) (fun _ _ _ _ _ => pts_nil) (fun _ _ _ _ _ => (pv 7))) pa_nil)) rfl)
  (pss_one (ps_fld (pv 0) (pe_ifExp (pt_cmpR (op_neD hr.units) (pv 5) (pe_tup pa_nil) (by rfl)) (pe_ix ix_tup (pe_ix ix_tup (pv 5) (pe_un un_neg pe_int) (fun _ _ => rfl)) pe_int (fun _ _ => rfl)) (pv 2)) rfl)))))))))), ?_⟩
    walk_at "st"
    refine ⟨bv, rfl, kb, fun hb => HX.beg hb, fun hb => ?_⟩
    walk_at "st"
    refine ⟨l, r, vs, ws, cs, rfl, L, wl, hr0, by omega, are, HX.runs hb, fun hok H1 e1 => ?_⟩
    obtain ⟨rs, rfl⟩ := all_ok hok
    obtain ⟨prs, rw_⟩ := runs_ps (K := K) are
    obtain ⟨b, rfl⟩ : ∃ b, bv = V.str b := isStrV_iff.mp (by cases hs : isStrV bv with | true => rfl | false => rw [isBegV_not hs] at hb; cases hb)
    walk_at "st"
    refine ⟨_, rfl, ah, avs, rfl, (ha.imp (e1 _ _) (fun h => sqt_kt h (.of e1))).symm.imp id sq_of, ?_⟩
    refine ⟨_, rfl, r, vs, rfl, (hr0.imp (e1 _ _) (fun h => sqt_kt h (.of e1))).symm.imp id sq_of, ?_⟩
    refine rd_nil ?_
    rw [List.append_nil]
    refine ⟨Nat.le_trans (show _ ≤ 8000 by rw [List.length_append]; omega) (by decide), ?_⟩
    intro D hD
    have e2 := Ex.new (o := HO.lst (avs ++ vs)) hD
    have h2 : upd H1 D (HO.lst (avs ++ vs)) D = some (HO.lst (avs ++ vs)) := upd_same
    generalize upd H1 D (HO.lst (avs ++ vs)) = H2 at e2 h2 ⊢
    have e02 := e1.trans e2
    have pj : PS K H2 (avs ++ vs) (ars ++ rs) := (PR.ps (pra.ex e02)).app (prs.ex e02)
    have jw : ∀ y ∈ ars ++ rs, y.1 ∈ ws := fun y hy => (List.mem_append.mp hy).elim (aw y) (fun h => (rw_ y h).1)
    walk_at "st"
    refine ⟨D, _, _, rfl, h2, pj, by rw [List.length_append]; omega, fun y hy => so _ (jw y hy), fun t o ts H3 e3 od h3 p3 => ?_⟩
    have e03 := e02.trans e3
    have lts := p3.len
    walk_at "st"
    refine rd_lenT (st_frz h3) ?_
    rw [lts]
    walk_at "st"
    refine ite2 (fun h => ?_) (fun h => ?_)
    · walk_at "st"
      refine rd_lenT (st_frz h3) ?_
      rw [lts]
      walk_at "st"
      exact rz_TooMany (.inl ⟨_, rfl, by decide +kernel⟩) (.inr ⟨400, rfl, by decide⟩) (fun d H' hd e' h' => HX.many hb rs rfl (by have := of_decide_eq_true h; omega) d H' (fresh_back e03 hd) (e03.trans e') h')
    have n400 : (joinR (ars ++ rs)).length ≤ 400 := Nat.le_of_not_lt fun z => h (decide_eq_true (by omega))
    walk_at "st"
    have hx3 := e03 _ _ hx
    refine rd_sfldAt hx3 T.cl_History T.na_History_letters (by show 0 < 1000; decide) ?_
    obtain ⟨m1, n1⟩ := putF_lt (f := "letters") (v := V.ref l) (fs := []) (n := 0) (Nat.le_refl _) (by omega)
    obtain ⟨m2, n2⟩ := putF_lt (f := "beginning") (v := V.str b) m1 (by omega)
    obtain ⟨m3, n3⟩ := putF_lt (f := "runs") (v := V.ref t) m2 (by omega)
    obtain ⟨m4, n4⟩ := putF_lt (f := "size") (v := V.int (sumR (joinR (ars ++ rs)))) m3 (by omega)
    walk_at "st"
    refine rd_sfldAt upd_same T.cl_History T.na_History_beginning n1 ?_
    walk_at "st"
    refine rd_sfldAt upd_same T.cl_History T.na_History_runs n2 ?_
    have kx4 : Kx x H3 (upd (upd (upd H3 x (.ins a.History dx (putF "letters" (V.ref l) []))) x (.ins a.History dx (putF "beginning" (V.str b) (putF "letters" (V.ref l) [])))) x (.ins a.History dx (putF "runs" (V.ref t) (putF "beginning" (V.str b) (putF "letters" (V.ref l) []))))) := fun c u nc hc => by rw [upd_ne nc, upd_ne nc, upd_ne nc]; exact hc
    have hx4 : (upd (upd (upd H3 x (.ins a.History dx (putF "letters" (V.ref l) []))) x (.ins a.History dx (putF "beginning" (V.str b) (putF "letters" (V.ref l) [])))) x (.ins a.History dx (putF "runs" (V.ref t) (putF "beginning" (V.str b) (putF "letters" (V.ref l) []))))) x = some (.ins a.History dx (putF "runs" (V.ref t) (putF "beginning" (V.str b) (putF "letters" (V.ref l) [])))) := upd_same
    generalize upd (upd (upd H3 x (.ins a.History dx (putF "letters" (V.ref l) []))) x (.ins a.History dx (putF "beginning" (V.str b) (putF "letters" (V.ref l) [])))) x (.ins a.History dx (putF "runs" (V.ref t) (putF "beginning" (V.str b) (putF "letters" (V.ref l) [])))) = H4 at kx4 hx4 ⊢
    have kt4 : Kt H3 H4 := fun c => ⟨fun _ h => kx4 _ _ (ne_of h hx3 (by intro z; cases z)) h, fun _ _ h => kx4 _ _ (ne_of h hx3 (by intro z; cases z)) h⟩
    have h4 := (kt4 t).2 _ _ h3
    have p4 := p3.kt kt4
    walk_at "st"
    refine rd_lcYl (J := Itt K t) (H1 := H4) (fun R q => ⟨_, rfl, t, rfl, ⟨_, st_frz h4⟩, q⟩) (yl_tup ts) (fun D i H' => H4 D = none ∧ Ex H4 H' ∧ H' D = some (.lst ((((joinR (ars ++ rs)).take i).map (·.2)).map V.int))) (fun D i H' _ p => st_frz (p.2.1 _ _ h4)) (fun D hD => ⟨hD, Ex.new hD, by rw [upd_same]; rfl⟩) (fun D i y H5 H6 hi p e yy => ?_) (fun D H5 p => ?_)
    · obtain ⟨hD, e5, g5⟩ := p
      have e6 := e5.trans e
      obtain ⟨⟨z, n⟩, q, hri, rfl, sp⟩ := (p4.ex e6).get yy
      refine gT2 rfl sp ?_
      refine ⟨rfl, ?_⟩
      walk_at "st"
      refine ⟨_, e _ _ g5, Nat.lt_of_le_of_lt (show _ ≤ 10000 from ?_) (by decide), hD, Ex.mut e6 hD, ?_⟩
      · rw [List.length_map, List.length_map, List.length_take]; omega
      · rw [upd_same, List.take_add_one, hri, List.map_append, List.map_append]; rfl
    obtain ⟨hD, e5, g5⟩ := p
    rw [List.take_of_length_le (by omega)] at g5
    walk_at "st"
    refine ⟨D, _, rfl, sq_of g5, ?_⟩
    walk_at "st"
    refine rd_sfldAt (e5 _ _ hx4) T.cl_History T.na_History_size n3 ?_
    show (sFld K (tVar 0) _ "last") _ _ _
    have hx6 : (upd H5 x (.ins a.History dx (putF "size" (V.int (((joinR (ars ++ rs)).map (·.2)).sum)) (putF "runs" (V.ref t) (putF "beginning" (V.str b) (putF "letters" (V.ref l) [])))))) x = some (.ins a.History dx (putF "size" (V.int (((joinR (ars ++ rs)).map (·.2)).sum)) (putF "runs" (V.ref t) (putF "beginning" (V.str b) (putF "letters" (V.ref l) []))))) := upd_same
    have kx6 : Kx x H5 (upd H5 x (.ins a.History dx (putF "size" (V.int (((joinR (ars ++ rs)).map (·.2)).sum)) (putF "runs" (V.ref t) (putF "beginning" (V.str b) (putF "letters" (V.ref l) [])))))) := Kx.put
    generalize upd H5 x (.ins a.History dx (putF "size" (V.int (((joinR (ars ++ rs)).map (·.2)).sum)) (putF "runs" (V.ref t) (putF "beginning" (V.str b) (putF "letters" (V.ref l) []))))) = H6 at kx6 hx6 ⊢
    have kt6 : Kt H5 H6 := fun c => ⟨fun _ h => kx6 _ _ (ne_of h (e5 _ _ hx4) (by intro z; cases z)) h, fun _ _ h => kx6 _ _ (ne_of h (e5 _ _ hx4) (by intro z; cases z)) h⟩
    have h6 := (kt6 t).2 _ _ (e5 _ _ h4)
    have p6 := (p4.ex e5).kt kt6
    have kx06 : Kx x H H6 := ((Kx.of e03).trans kx4).trans ((Kx.of e5).trans kx6)
    have sj : ∀ y ∈ joinR (ars ++ rs), PyData.strOk y.1 = true := joinR_mem (C := fun x => PyData.strOk x = true) (ars ++ rs) [] (fun y hy => so _ (jw y hy)) (by simp)
    have last : ∀ H7 (la : Str), Ex H6 H7 → lastR b (joinR (ars ++ rs)) = la → ∃ a_1 C dx fs, V.ref x = .ref a_1 ∧ H7 a_1 = some (.ins C dx fs) ∧ Cls K C ∧ NoAttr K C "last" ∧ fs.length < 1000 ∧ Q .non (upd H7 a_1 (.ins C dx (putF "last" (V.str la) fs))) := fun H7 la e7 el => by
      refine rd_sfldAt (e7 _ _ hx6) T.cl_History T.na_History_last n4 ?_
      have kt7 : Kt H7 (upd H7 x (.ins a.History dx (putF "last" (V.str la) (putF "size" (V.int (((joinR (ars ++ rs)).map (·.2)).sum)) (putF "runs" (V.ref t) (putF "beginning" (V.str b) (putF "letters" (V.ref l) []))))))) := Kt.ins (e7 _ _ hx6)
      refine k rs b rfl hb rfl n400 _ ⟨dx, t, o, ts, ?_, (kt7 t).2 _ _ (e7 _ _ h6), od, (p6.ex e7).kt kt7⟩ (kx06.trans ((Kx.of e7).trans Kx.put))
      rw [upd_same, el]; rfl
    walk_at "st"
    refine ⟨by show 0 ≤ sizeLine; decide, ?_⟩
    intro em hem
    have e7 := Ex.new (o := HO.tup []) hem
    have h7 : upd H6 em (HO.tup []) em = some (HO.tup []) := upd_same
    generalize upd H6 em (HO.tup []) = H7 at e7 h7 ⊢
    refine ⟨.tuple _, .tuple [], .tup (st_frz (e7 _ _ h6)) (p6.ex e7), .tup (st_of h7) .nil, shaped_pT _ sj, by decide +kernel, ?_⟩
    rw [eqv_pnilT]
    walk_at "st"
    by_cases hts : ts = []
    · have hj : joinR (ars ++ rs) = [] := List.length_eq_zero_iff.mp (by rw [← lts, hts]; rfl)
      rw [show (!(joinR (ars ++ rs)).isEmpty) = false by rw [hj]; rfl]
      walk_at "st"
      exact last H7 b e7 (by rw [hj]; rfl)
    · obtain ⟨ts0, v0, js, ⟨y, m⟩, ets, ejs, pr0, d0⟩ := (p6.ex e7).snoc hts
      obtain ⟨p0, rfl, s0⟩ := pr_inv d0
      have at1 : atI ts (-1) = some (V.ref p0) := by rw [ets]; exact atI_last _ _
      rw [show (!(joinR (ars ++ rs)).isEmpty) = true by rw [ejs]; simp]
      walk_at "st"
      refine ⟨1, rfl, t, ts, _, _, rfl, rfl, st_frz (e7 _ _ h6), at1, ?_⟩
      walk_at "st"
      refine ⟨p0, _, _, _, rfl, rfl, s0, atI_nat (j := 0) rfl, ?_⟩
      walk_at "st"
      exact last H7 y e7 (by rw [ejs]; unfold lastR; simp)
end


section
variable {P : Program} {w : World} {K : PySem.W.Frag} {mg : Str → Option Value} {base : Heap} {a : Ad}
theorem c_History1 (T : Txt P K mg a) : CtrX P w K mg base 5 "History" a.History ["self", "letters", "beginning", "runs", "ahead"] [.ref a.dk_ahead_History___init__] (spHisInit a K) := by
  obtain ⟨fd, F⟩ := T.F_History___init__
  obtain ⟨ds, hv, hb⟩ := F.binds (ps := ["self", "letters", "beginning", "runs", "ahead"]) 4 1 (by intro z; cases z) rfl (fun _ _ _ _ _ _ _ us its ks hl hi hk => match us, hl with | [_, _, _, _], _ => match its, hi with | [_], _ => match ks, hk with | [_], _ => ⟨_, rfl, _, _, _, _, _, _, rfl, rfl, rfl⟩) (by intro z; cases z)
  exact ⟨_, _, _, T.mk_History, ok_History___init__ F T, T.g_History, hb, hv⟩
theorem c_History2 (T : Txt P K mg a) : CtrX P w K mg base 5 "History" a.History ["self", "letters", "beginning", "runs", "ahead"] [.ref a.dp0_History___init__, .ref a.dk_ahead_History___init__] (spHisInit a K) := by
  obtain ⟨fd, F⟩ := T.F_History___init__
  obtain ⟨ds, hv, hb⟩ := F.binds (ps := ["self", "letters", "beginning", "runs", "ahead"]) 3 0 (by intro z; cases z) rfl (fun _ _ _ _ _ _ _ us its ks hl hi hk => match us, hl with | [_, _, _], _ => match its, hi with | [_], _ => match ks, hk with | [_], _ => ⟨_, rfl, _, _, _, _, _, _, rfl, rfl, rfl⟩) (by intro z; cases z)
  exact ⟨_, _, _, T.mk_History, ok_History___init__ F T, T.g_History, hb, hv⟩
theorem c_History_ahead (T : Txt P K mg a) : CtrN P w K mg base 5 "History" a.History 3 ["self", "letters", "beginning", "runs", "ahead"] ["ahead"] (fun vs zs => vs ++ zs) (spHisInit a K) := by
  obtain ⟨fd, F⟩ := T.F_History___init__
  obtain ⟨its, mv, hb⟩ := F.kbinds (ps := ["self", "letters", "beginning", "runs", "ahead"]) 4 ["ahead"] [] (fun us _ _ ws => us ++ ws) (by intro z; cases z) (by intro z; cases z) (fun _ h => by cases h) (fun r1 _ _ r4 => r1.append r4) (fun _ _ _ _ _ _ _ us its mv ws hl hi hm hw => match us, hl with | [_, _, _, _], _ => match its, hi with | [_], _ => match mv, hm with | [], _ => match ws, hw with | [_], _ => ⟨_, rfl, rfl⟩)
  exact ⟨_, _, _, T.mk_History, ok_History___init__ F T, T.g_History, hb⟩
/-! ### == -/
def spHisEq (a : Ad) (K : PySem.W.Frag) : Sp := fun us H Q _ => ∃ p q l m b c rs ts ws zs, us = [.ref p, .ref q] ∧ HisAt a K H p l b rs ∧ HisAt a K H q m c ts ∧ LetAt a H l ws ∧ LetAt a H m zs ∧ (∀ y ∈ rs, PyData.strOk y.1 = true) ∧ (∀ y ∈ ts, PyData.strOk y.1 = true) ∧ Q (.bl (decide (ws = zs) && decide (b = c) && decide (rs = ts))) H
theorem c_History___eq__ (T : Txt P K mg a) : Mth P w K mg base 2 a.History "__eq__" ["self", "other"] (spHisEq a K) := by
  obtain ⟨fd, F, b⟩ := T.F_History___eq__
  refine ⟨T.cl_History, _, _, T.m_History___eq__, F.ok sc_History___eq__ (fun vs H Q E h => ?_) (fun cdv A outer s H us Q E hr h => ?_), b⟩
  · obtain ⟨p, q, l, m, b, c, rs, ts, ws, zs, rfl, _⟩ := h
    rfl
  · obtain ⟨p, q, l, m, b, c, rs, ts, ws, zs, rfl, ⟨dp, tp, op, xs, p1, p2, p3, p4⟩, ⟨dq, tq, oq, ys, q1, q2, q3, q4⟩, L, M, sr, st, k⟩ := h
    obtain ⟨dl, tl, ol, l1, l2, l3, l4⟩ := id L
    obtain ⟨dm, tm, om, m1, m2, m3, m4⟩ := id M
    refine ⟨_, (pss_cons (ps_if (pt_not (pt_val (pe_callB call_isi (by rfl) T.n_isinstance (by decide +kernel) (pa_cons (pv 1) (pa_cons (pe_gref T.g_History) pa_nil))))) (pss_one (ps_ret pe_bl)) pss_nil)
  (pss_one (ps_ret (pe_and (pe_cmpR (op_eqOwn (c_Letters___eq__ T) hr) (pe_fld (pv 0) rfl) (pe_fld (pv 1) rfl) (by rfl)) (pe_and (pe_cmpR op_eq (pe_fld (pv 0) rfl) (pe_fld (pv 1) rfl) (by rfl)) (pe_one (pe_cmpR (op_eqD hr.units) (pe_fld (pv 0) rfl) (pe_fld (pv 1) rfl) (by rfl)))))))), ?_⟩
    walk_at "st"
    refine rd_isiOwn T.cl_History T.isi_History q1 ?_
    walk_at "st"
    refine rd_fldAt p1 T.cl_History T.na_History_letters rfl ?_
    walk_at "st"
    refine rd_fldAt q1 T.cl_History T.na_History_letters rfl ?_
    refine ⟨_, _, _, _, _, _, rfl, rfl, l1, m1, _, _, _, _, rfl, L, M, _, rfl, ?_⟩
    dsimp only [id]
    by_cases e1 : ws = zs
    · rw [decide_eq_true e1] at k ⊢
      walk_at "st"
      refine rd_fldAt p1 T.cl_History T.na_History_beginning rfl ?_
      walk_at "st"
      refine rd_fldAt q1 T.cl_History T.na_History_beginning rfl ?_
      walk_at "st"
      by_cases e2 : b = c
      · rw [decide_eq_true e2] at k
        rw [decide_eq_true (congrArg V.str e2)]
        walk_at "st"
        refine rd_fldAt p1 T.cl_History T.na_History_runs rfl ?_
        walk_at "st"
        refine rd_fldAt q1 T.cl_History T.na_History_runs rfl ?_
        refine ⟨.tuple (rs.map pairD), .tuple (ts.map pairD), .tup (st_frz p2) p4, .tup (st_frz q2) q4, shaped_pT _ sr, shaped_pT _ st, ?_⟩
        rw [PyData.eqv, eqv_pairs]
        simpa using k
      · rw [decide_eq_false e2] at k
        rw [decide_eq_false (fun h => e2 (V.str.inj h))]
        walk_at "st"
        exact k
    · rw [decide_eq_false e1] at k ⊢
      walk_at "st"
      exact k
end


section
variable {P : Program} {w : World} {K : PySem.W.Frag} {mg : Str → Option Value} {base : Heap} {a : Ad}
/-- a history that is right, whatever is wished of errors -/
theorem mk_hisE {E : XK} {H : Hp} {l r ah : Addr} {b : Str} {ws : List Str} {vs avs : List V} {rs ars : List (Str × Int)} {R : Addr → Hp → Prop} (L : LetAt a H l ws) (wl : ∀ z ∈ ws, z.length ≤ 1000) (hb : isBegB b = true) (lb : b.length ≤ 1000) (hr : H r = some (.lst vs) ∨ SqT K H r vs) (lv : vs.length ≤ 4000) (are : RunsAre [] H ws vs (rs.map okC))
    (ha : H ah = some (.lst avs) ∨ SqT K H ah avs) (la : avs.length ≤ 4000) (pra : PR K H avs ars) (aw : ∀ y ∈ ars, y.1 ∈ ws) (n : (joinR (ars ++ rs)).length ≤ 400) (q : ∀ x H', H x = none → Ex H H' → HisAt a K H' x l b (joinR (ars ++ rs)) → R x H') :
    ∀ x dx, H x = none → H dx = none → dx ≠ x → spHisInit a K [.ref x, .ref l, .str b, .ref r, .ref ah] (upd (upd H dx (.own x)) x (.ins a.History dx [])) (fun v H2 => v = .non ∧ R x H2) E := by
  intro x dx hx hdx ne
  have e0 : Ex H (upd (upd H dx (.own x)) x (.ins a.History dx [])) := fun b o h => by rw [upd_ne (ne_of_none h hx), upd_ne (ne_of_none h hdx)]; exact h
  have no : ∀ {j : Nat} {c : RunC}, (rs.map okC)[j]? = some c → ∃ z n, c = .ok z n := fun {j c} h => by
    rw [List.getElem?_map] at h
    cases hj : rs[j]? with
    | none => rw [hj] at h; cases h
    | some s => rw [hj] at h; cases h; exact ⟨_, _, rfl⟩
  have e1 : RunsAre [] (upd (upd H dx (.own x)) x (.ins a.History dx [])) ws vs (rs.map okC) := ⟨are.1, fun i v hv => let ⟨c, h1, h2⟩ := are.2 i v hv; ⟨c, h1, h2.ex e0⟩⟩
  refine ⟨x, dx, l, r, ah, .str b, vs, avs, ws, rs.map okC, ars, rfl, upd_same, L.ex e0, wl, .str b lb, hr.imp (e0 _ _) (fun h => sqt_kt h (.of e0)), lv, e1, ha.imp (e0 _ _) (fun h => sqt_kt h (.of e0)), la, pra.ex e0, aw, ⟨?_, fun _ => ⟨?_, ?_, ?_⟩, ?_⟩, ?_⟩
  · intro h; rw [show isBegV (.str b) = isBegB b from rfl, hb] at h; cases h
  · intro j hj; obtain ⟨_, _, q⟩ := no hj; cases q
  · intro j hj; obtain ⟨_, _, q⟩ := no hj; cases q
  · intro j hj; obtain ⟨_, _, q⟩ := no hj; cases q
  · intro _ ts ets hm
    have : rs = ts := by
      refine List.map_inj_right (fun x y e => ?_) |>.mp ets
      unfold okC at e
      injection e with e1 e2
      exact Prod.ext e1 e2
    subst this
    omega
  · intro ts c ec _ ets _ H' hH kx
    cases ec
    have : rs = ts := by
      refine List.map_inj_right (fun x y e => ?_) |>.mp ets
      unfold okC at e
      injection e with e1 e2
      exact Prod.ext e1 e2
    subst this
    exact ⟨rfl, q x H' hx (fun b o h => kx b o (ne_of_none h hx) (e0 b o h)) hH⟩
/-! ### h[i] -/
def placeR (v : V) (rs : List (Str × Int)) : Option Str := match v with
  | .int n => if 0 ≤ n then atR rs n else none
  | _ => none
def spHisGet (a : Ad) (K : PySem.W.Frag) : Sp := fun us H Q E => ∃ p l b rs v, us = [.ref p, v] ∧ HisAt a K H p l b rs ∧ Kd H v ∧ (∀ z, placeR v rs = some z → ∀ H', Ex H H' → Q (.str z) H') ∧ (placeR v rs = none → ∀ d H', H d = none → Ex H H' → H' d = some (.xd [("place", v)]) → E (.ref a.BadPlace) (some d) H')
theorem c_History___getitem__ (T : Txt P K mg a) : MthX P w K mg base 3 a.History "__getitem__" ["self", "place"] (spHisGet a K) := by
  obtain ⟨fd, F, b⟩ := T.F_History___getitem__
  refine ⟨T.cl_History, _, _, T.m_History___getitem__, F.okX sc_History___getitem__ (fun vs H Q E h => ?_) (fun cdv A outer s H us Q E hr h => ?_), b⟩
  · obtain ⟨p, l, b, rs, v, rfl, _⟩ := h
    rfl
  · obtain ⟨p, l, b, rs, v, rfl, ⟨dp, tp, op, xs, p1, p2, p3, p4⟩, kd, kQ, kE⟩ := h
    refine ⟨_, (pss_cons (ps_if (PW.pt (pw_or (pt_not (pt_val (pe_callC (c_is_integer T) hr (pa_cons (pv 1) pa_nil)))) (pw_or1 (pt_cmpR op_lt (pv 1) pe_int (by rfl))))) (pss_one (ps_raiseX (x_BadPlace T) hr (takes_of rfl rfl rfl rfl) (pa_cons (pv 1) pa_nil))) pss_nil)
  (pss_cons (ps_set (i := 2) sc_History___getitem__.nd rfl (by first | exact Or.inl rfl | exact Or.inr rfl) (pv 1))
  (pss_cons (ps_for (passes_of rfl) (by rfl) (pi_tup (pe_fld (pv 0) rfl)) (pg_tup rfl (pgs_cons (pg_name (i := 3) sc_History___getitem__.nd rfl (by first | exact Or.inl rfl | exact Or.inr rfl)) (pgs_cons (pg_name (i := 4) sc_History___getitem__.nd rfl (by first | exact Or.inl rfl | exact Or.inr rfl)) pgs_nil)))
    (pss_cons (ps_if (pt_cmpR op_lt (pv 2) (pv 4) (by rfl)) (pss_one (ps_ret (pv 3))) pss_nil)
      (pss_one (ps_set (i := 2) sc_History___getitem__.nd rfl (by first | exact Or.inl rfl | exact Or.inr rfl) (pe_op op_sub (pv 2) (pv 4))))))
  (pss_one (ps_raiseX (x_BadPlace T) hr (takes_of rfl rfl rfl rfl) (pa_cons (pv 1) pa_nil)))))), ?_⟩
    walk_at "st"
    refine ⟨v, rfl, kd, ?_⟩
    walk_at "st"
    cases hi : isIntV v with
    | false =>
      walk_at "st"
      refine rz_BadPlace (kE ?_)
      cases v with
      | int n => cases hi
      | _ => rfl
    | true =>
    obtain ⟨n, rfl⟩ : ∃ n, v = V.int n := by
      cases v with
      | int n => exact ⟨n, rfl⟩
      | _ => cases hi
    walk_at "st"
    refine ite2 (fun h => ?_) (fun h => ?_)
    · have h0 := of_decide_eq_true h
      walk_at "st"
      refine rz_BadPlace (kE ?_)
      show (if 0 ≤ n then _ else _) = _
      rw [if_neg (by omega)]
    have n0 : 0 ≤ n := by
      have : ¬ n < 0 := fun z => h (decide_eq_true z)
      omega
    have pe : placeR (.int n) rs = atR rs n := by
      show (if 0 ≤ n then _ else _) = _
      rw [if_pos n0]
    rw [pe] at kQ kE
    walk_at "st"
    have lx := p4.len
    refine rd_forYl (J := Itt K tp) (H1 := H) (fun R q => ?_) (yl_tup xs) (fun i σ H' => (∃ v3 v4 m, σ = [some (.ref p), some (.int n), some (.int m), v3, v4] ∧ atR rs n = atR (rs.drop i) m) ∧ Ex H H') (fun i σ H' _ q => st_frz (q.2 _ _ p2)) ⟨⟨_, _, n, rfl, rfl⟩, Ex.refl _⟩ (fun i y σ H1 H2 hi q e yy => ?_) (fun σ H' q => ?_)
    · refine ⟨_, rfl, ?_⟩
      refine rd_fldAt p1 T.cl_History T.na_History_runs rfl ?_
      exact ⟨tp, rfl, ⟨_, st_frz p2⟩, q⟩
    · obtain ⟨⟨v3, v4, m, rfl, ea⟩, e1⟩ := q
      have e2 := e1.trans e
      obtain ⟨⟨z, c⟩, q, hri, rfl, sp⟩ := (p4.ex e2).get yy
      have hl : i < rs.length := by omega
      have ed : rs.drop i = (z, c) :: rs.drop (i + 1) := by
        rw [List.drop_eq_getElem_cons hl]
        rw [List.getElem?_eq_getElem hl] at hri
        rw [Option.some.inj hri]
      rw [ed] at ea
      refine gT2 rfl sp ?_
      walk_at "st"
      refine ite2 (fun h => ?_) (fun h => ?_)
      · walk_at "st"
        refine kQ z ?_ _ e2
        rw [ea]
        show (if m < c then _ else _) = _
        rw [if_pos (of_decide_eq_true h)]
      · walk_at "st"
        refine ⟨⟨_, _, m - c, rfl, ?_⟩, e2⟩
        rw [ea]
        show (if m < c then _ else _) = _
        rw [if_neg (fun z => h (decide_eq_true z))]
    · obtain ⟨⟨v3, v4, m, rfl, ea⟩, e1⟩ := q
      rw [List.drop_of_length_le (by omega)] at ea
      walk_at "st"
      exact rz_BadPlace (fun d H' hd e h => kE (by rw [ea]; rfl) d H' (fresh_back e1 hd) (e1.trans e) h)
theorem sub_History (T : Txt P K mg a) : ∀ f, Meth K a.History "__getitem__" f → PySem.W.fnIn K f = true := fun f M => by
  have := M.at_.symm.trans T.m_History___getitem__.at_
  cases this
  exact T.fn_History___getitem__
end


abbrev PenK (H : Hp) (pd c : Addr) (B : Nat) : Prop := Pen "cells" "begun" "left" H pd c B
theorem d3 : D3 "cells" "begun" "left" := ⟨by decide +kernel, by decide +kernel, by decide +kernel⟩
section
variable {P : Program} {w : World} {K : PySem.W.Frag} {mg : Str → Option Value} {base : Heap} {a : Ad}
def spPen (K : PySem.W.Frag) : Sp := fun vs H Q _ => ∃ (s : Addr) (ns : List Int), vs = [.ref s] ∧ SqL K H s (ns.map V.int) ∧ ∀ pd c H', H pd = none → H c = none → PenK H' pd c 0 → Ex H H' → Q (.ref pd) H'
theorem cutV_ints (ns : List Int) (lo hi : Option Int) : ∃ ms : List Int, cutV (ns.map V.int) lo hi = ms.map V.int := by
  unfold cutV
  rw [← List.map_drop, ← List.map_take]
  exact ⟨_, rfl⟩
theorem c__law_pen (T : Txt P K mg a) : Cal P w K mg base 1 "_law_pen" ["_law_script"] (spPen K) := by
  obtain ⟨fd, F, b⟩ := T.F__law_pen
  refine ⟨_, _, F.ok sc__law_pen (fun vs H Q E h => ?_) (fun cdv A outer s H vs Q E hr h => ?_), T.g__law_pen, F.kp, b⟩
  · obtain ⟨z, ns, rfl, _⟩ := h
    rfl
  · obtain ⟨z, ns, rfl, hz, k⟩ := h
    refine ⟨_, (pss_one (ps_ret (pe_disp (pps_cons pe_str (pe_callTy call_list_of (by rfl) T.n_list (by decide +kernel) (pa_cons (pe_slice sl_list (pv 0) po_none (po_some pe_int)) pa_nil)) (pps_cons pe_str pe_int (pps_cons pe_str pe_int pps_nil))) (by rfl) (by rfl) (fun z => by cases z) (by decide)))), ?_⟩
    walk_at "st"
    intro pd hpd
    have e0 : Ex H (upd H pd (.dK [])) := Ex.new hpd
    obtain ⟨ms, em⟩ := cutV_ints ns none (some 63)
    show tC (V.str "cells") _ _ _
    walk_at "st"
    refine rd_slL (ex_l e0 hz) (fun m H1 hm e1 h1 => ?_)
    rw [em] at h1
    walk_at "st"
    refine ⟨_, _, rfl, .inl (sq_of h1), fun c hc => ?_⟩
    have e2 := Ex.new (o := .lst (ms.map V.int)) hc
    have h2 : upd H1 c (.lst (ms.map V.int)) c = _ := upd_same
    generalize upd H1 c (.lst (ms.map V.int)) = H2 at e2 h2 ⊢
    show tC (V.str "begun") _ _ _
    walk_at "st"
    show tC (V.str "left") _ _ _
    walk_at "st"
    have hp2 : H2 pd = some (.dK []) := e2 _ _ (e1 _ _ upd_same)
    refine ⟨hp2, pd3 "cells" "begun" "left" (.ref c) (.int 0) (.int 0), rfl, by show 3 ≤ 15; decide, ?_⟩
    rw [d3.m]
    have ncp : c ≠ pd := fun e => by rw [e, e1 _ _ upd_same] at hc; cases hc
    refine k pd c _ hpd (fresh_back e0 (fresh_back e1 hc)) ⟨ms, 0, 0, upd_same, by rw [upd_ne ncp]; exact h2, Int.le_refl _, Int.le_refl _, Int.le_refl _⟩ (Ex.mut ((e0.trans e1).trans e2) hpd)
theorem c__law_draw (T : Txt P K mg a) : Cal P w K mg base 1 "_law_draw" ["_law_pen_here", "_law_many"] (spDraw "cells" "begun" "left") := by
  obtain ⟨fd, F, b⟩ := T.F__law_draw
  refine ⟨_, _, F.ok sc__law_draw (fun vs H Q E h => ?_) (fun cdv A outer s H vs Q E hr h => ?_), T.g__law_draw, F.kp, b⟩
  · obtain ⟨z, c, B, m, rfl, _⟩ := h
    rfl
  · obtain ⟨pd, c, B, m, rfl, ⟨ns, i, r, hp, hc, i0, iB, r0⟩, hB, m0, m1, k⟩ := h
    have hu := hu_of hr
    have ncp : c ≠ pd := ne_of hc hp (by intro z; cases z)
    have dw : ∀ {x : Int}, CDivW x m := fun {x} => wide_div (b := 30) m0 (by omega) (by omega) (by omega)
    refine ⟨_, (pss_cons (ps_if (pt_cmpR op_gt (pe_dget hu (pv 0) pe_str (fun _ _ => rfl)) pe_int (by rfl)) (pss_cons (ps_set (i := 4) sc__law_draw.nd rfl (by first | exact Or.inl rfl | exact Or.inr rfl) (pe_op op_mod (pe_callTy call_int1 (by rfl) T.n_int (by decide +kernel) (pa_cons (pe_dget hu (pv 0) pe_str (fun _ _ => rfl)) pa_nil)) (pv 1)))
    (pss_cons (ps_dput hu (pv 0) pe_str (pe_op op_fdivW (pe_dget hu (pv 0) pe_str (fun _ _ => rfl)) (pv 1)) rfl)
    (pss_one (ps_ret (pv 4))))) pss_nil)
  (pss_cons (ps_par (i := 5) (j := 6) (by rfl) sc__law_draw.nd rfl rfl (by decide) rfl rfl (pa_cons (pe_dget hu (pv 0) pe_str (fun _ _ => rfl)) (pa_cons (pe_callB call_len_seq (by rfl) T.n_len (by decide +kernel) (pa_cons (pe_dget hu (pv 0) pe_str (fun _ _ => rfl)) pa_nil)) pa_nil)) (by rfl))
  (pss_cons (ps_dput hu (pv 0) pe_str (pe_op op_add (pv 5) pe_int) rfl)
  (Evl.pss_cut (ps_set (i := 2) sc__law_draw.nd rfl (by first | exact Or.inl rfl | exact Or.inr rfl) (pe_ifExp (pt_cmpR op_gt (pv 6) pe_int (by rfl)) (pe_ix ix_list (pe_dget hu (pv 0) pe_str (fun _ _ => rfl)) (pe_op op_mod (pe_callTy call_int1 (by rfl) T.n_int (by decide +kernel) (pa_cons (pv 5) pa_nil)) (pv 6)) (fun _ _ => rfl)) (pe_op op_add (pe_op op_mul pe_int (pv 5)) pe_int)))
  (Evl.pss_cut (ps_if (PW.pt (pw_and (pt_cmpR op_lt (pv 5) (pv 6) (by rfl)) (pw_and1 (pt_cmpR op_ge (pe_callB call_abs (by rfl) T.n_abs (by decide +kernel) (pa_cons (pv 2) pa_nil)) (pe_op op_pow pe_int pe_int) (by rfl))))) (pss_cons (ps_dput hu (pv 0) pe_str (pe_op op_fdivW (pe_op op_sub (pe_callB call_abs (by rfl) T.n_abs (by decide +kernel) (pa_cons (pv 2) pa_nil)) (pe_op op_pow pe_int pe_int)) (pv 1)) rfl)
    (pss_one (ps_ret (pe_op op_mod (pe_callTy call_int1 (by rfl) T.n_int (by decide +kernel) (pa_cons (pe_op op_sub (pe_callB call_abs (by rfl) T.n_abs (by decide +kernel) (pa_cons (pv 2) pa_nil)) (pe_op op_pow pe_int pe_int)) pa_nil)) (pv 1))))) pss_nil)
  (pss_cons (ps_set (i := 3) sc__law_draw.nd rfl (by first | exact Or.inl rfl | exact Or.inr rfl) (pe_op op_mod (pe_callTy call_int1 (by rfl) T.n_int (by decide +kernel) (pa_cons (pe_op op_add (pe_op op_add (pe_op op_mul (pe_op op_mod (pe_callTy call_int1 (by rfl) T.n_int (by decide +kernel) (pa_cons (pv 2) pa_nil)) pe_int) pe_int) (pe_op op_mul (pe_op op_mul pe_int (pv 5)) (pv 5))) pe_int) pa_nil)) pe_int))
  (pss_cons (ps_set (i := 3) sc__law_draw.nd rfl (by first | exact Or.inl rfl | exact Or.inr rfl) (pe_op op_mod (pe_callTy call_int1 (by rfl) T.n_int (by decide +kernel) (pa_cons (pe_op op_add (pe_op op_add (pe_op op_add (pe_op op_mul (pv 3) (pv 3)) (pe_op op_mul pe_int (pv 3))) (pe_op op_mul pe_int (pv 5))) pe_int) pa_nil)) pe_int))
  (pss_one (ps_ret (pe_op op_mod (pe_callTy call_int1 (by rfl) T.n_int (by decide +kernel) (pa_cons (pe_op op_fdivW (pe_op op_mod (pe_callTy call_int1 (by rfl) T.n_int (by decide +kernel) (pa_cons (pe_op op_mul (pv 3) (pe_op op_add (pv 3) pe_int)) pa_nil)) pe_int) pe_int) pa_nil)) (pv 1))))))))))), ?_⟩
    walk_at "st"
    refine rd_dgetS hp d3.v3 ?_
    walk_at "st"
    refine ite2 (fun h => ?_) (fun h => ?_)
    · walk_at "st"
      refine rd_dgetS hp d3.v3 ?_
      walk_at "st"
      refine rd_I m0 ?_
      walk_at "st"
      refine rd_dgetS hp d3.v3 ?_
      walk_at "st"
      refine rd_I dw ?_
      walk_at "st"
      refine rd_dputS hp (by show 3 < sizeLine; decide) ?_
      walk_at "st"
      rw [d3.p3]
      refine k _ _ (Int.emod_nonneg _ (by omega)) (Int.emod_lt_of_pos _ m0) ⟨ns, i, r / m, upd_same, by rw [upd_ne ncp]; exact hc, i0, by omega, Int.ediv_nonneg r0 (by omega)⟩ Kx.put
    · walk_at "st"
      refine rd_dgetS hp d3.v2 ?_
      walk_at "st"
      refine rd_dgetS hp d3.v1 ?_
      walk_at "st"
      refine rd_lenL (sq_of hc) ?_
      rw [List.length_map]
      walk_at "st"
      refine rd_dputS hp (by show 3 < sizeLine; decide) ?_
      rw [d3.p2]
      have hp1 : (upd H pd (.dK (pd3 "cells" "begun" "left" (.ref c) (.int (i + 1)) (.int r)))) pd = some (.dK (pd3 "cells" "begun" "left" (.ref c) (.int (i + 1)) (.int r))) := upd_same
      have hc1 : (upd H pd (.dK (pd3 "cells" "begun" "left" (.ref c) (.int (i + 1)) (.int r)))) c = some (.lst (ns.map V.int)) := by rw [upd_ne ncp]; exact hc
      have kx1 : Kx pd H (upd H pd (.dK (pd3 "cells" "begun" "left" (.ref c) (.int (i + 1)) (.int r)))) := Kx.put
      generalize upd H pd (.dK (pd3 "cells" "begun" "left" (.ref c) (.int (i + 1)) (.int r))) = H1 at hp1 hc1 kx1 ⊢
      walk_at "st"
      have pw : CPow 10 18 := ⟨by decide, by decide, by decide⟩
      have lt64 : ∀ (x y : Int), 0 < y → y < 2 ^ 40 → -(2 ^ 64) < x % y ∧ x % y < 2 ^ 64 := fun x y h1 h2 => by
        have := Int.emod_nonneg x (show y ≠ 0 by omega)
        have := Int.emod_lt_of_pos x h1
        omega
      refine ⟨fun σ' H' => ∃ told, σ' = [some (.ref pd), some (.int m), some (.int told), none, none, some (.int i), some (.int (ns.length : Nat))] ∧ H' = H1, ?_, ?_⟩
      · walk_at "st"
        refine ite2 (fun hn => ?_) (fun hn => ?_)
        · have hl : (0 : Int) < (ns.length : Nat) := of_decide_eq_true hn
          walk_at "st"
          refine rd_dgetS hp1 d3.v1 ?_
          walk_at "st"
          refine rd_I hl ?_
          have hb := Int.emod_lt_of_pos i hl
          have ha := Int.emod_nonneg i (show (ns.length : Int) ≠ 0 by omega)
          obtain ⟨v, hv, _, hat⟩ := atI_int (xs := ns.map V.int) (i := i % (ns.length : Int)) ha (by rw [List.length_map]; exact hb)
          obtain ⟨x, _, rfl⟩ := List.mem_map.mp hv
          exact ⟨_, _, _, V.int x, rfl, rfl, sq_of hc1, hat, _, rfl, rfl⟩
        · walk_at "st"
          refine rd_I (.inl ⟨by decide, by decide⟩) ?_
          walk_at "st"
          exact ⟨_, rfl, rfl⟩
      · rintro σ' H' ⟨told, rfl, rfl⟩
        walk_at "st"
        refine ⟨fun σ' H'' => σ' = [some (.ref pd), some (.int m), some (.int told), none, none, some (.int i), some (.int (ns.length : Nat))] ∧ H'' = H', ?_, ?_⟩
        · walk_at "st"
          refine ite2 (fun h1 => ?_) (fun h1 => ?_)
          · walk_at "st"
            refine rd_I pw ?_
            walk_at "st"
            refine ite2 (fun h2 => ?_) (fun h2 => ?_)
            · walk_at "st"
              refine rd_I pw ?_
              walk_at "st"
              refine rd_I dw ?_
              walk_at "st"
              refine rd_dputS hp1 (by show 3 < sizeLine; decide) ?_
              rw [d3.p3]
              walk_at "st"
              refine rd_I pw ?_
              walk_at "st"
              refine rd_I m0 ?_
              refine k _ _ (Int.emod_nonneg _ (by omega)) (Int.emod_lt_of_pos _ m0) ⟨ns, i + 1, _, upd_same, by rw [upd_ne ncp]; exact hc1, by omega, by omega, Int.ediv_nonneg ?_ (by omega)⟩ (kx1.trans Kx.put)
              have := of_decide_eq_true h2
              omega
            · walk_at "st"
              exact ⟨rfl, rfl⟩
          · walk_at "st"
            exact ⟨rfl, rfl⟩
        · rintro σ' H'' ⟨rfl, rfl⟩
          walk_at "st"
          refine rd_I (by show (0 : Int) < 4294967279; decide) ?_
          walk_at "st"
          refine rd_I (.inr ⟨by decide, by decide⟩) ?_
          walk_at "st"
          refine rd_I (.inl ⟨by decide, by decide⟩) ?_
          walk_at "st"
          refine rd_I (.inr ⟨by omega, by omega⟩) ?_
          walk_at "st"
          refine rd_I (by show (0 : Int) < 4294967291; decide) ?_
          walk_at "st"
          refine rd_I (.inl (lt64 _ _ (by decide) (by decide))) ?_
          walk_at "st"
          refine rd_I (.inl ⟨by decide, by decide⟩) ?_
          walk_at "st"
          refine rd_I (.inl ⟨by decide, by decide⟩) ?_
          walk_at "st"
          refine rd_I (by show (0 : Int) < 4294967231; decide) ?_
          walk_at "st"
          refine rd_I (.inl (lt64 _ _ (by decide) (by decide))) ?_
          walk_at "st"
          refine rd_I (by show (0 : Int) < 4294967189; decide) ?_
          walk_at "st"
          refine rd_I (wide_div (b := 30) (by decide) (by decide) (by omega) (by omega)) ?_
          walk_at "st"
          refine rd_I m0 ?_
          exact k _ _ (Int.emod_nonneg _ (by omega)) (Int.emod_lt_of_pos _ m0) ⟨ns, i + 1, r, hp1, hc1, by omega, by omega, r0⟩ kx1
/-! ### pick -/
def spPick : Sp := fun vs H Q _ => ∃ (pd c : Addr) (B : Nat), PenK H pd c B ∧ B < 900000000 ∧
  ((∃ (l : Addr) (xs : List V), vs = [.ref pd, .ref l] ∧ H l = some (.lst xs) ∧ 0 < xs.length ∧ xs.length ≤ 1000 ∧ ∀ x H', x ∈ xs → PenK H' pd c (B + 1) → Kx pd H H' → Q x H') ∨
   (∃ z : Str, vs = [.ref pd, .str z] ∧ 0 < z.length ∧ z.length ≤ 1000 ∧ ∀ d H', d ∈ z.cps.toList → PenK H' pd c (B + 1) → Kx pd H H' → Q (.str ⟨#[d]⟩) H'))
theorem c__law_pick (T : Txt P K mg a) : Cal P w K mg base 2 "_law_pick" ["_law_pen_here", "_law_options"] spPick := by
  obtain ⟨fd, F, b⟩ := T.F__law_pick
  refine ⟨_, _, F.ok sc__law_pick (fun vs H Q E h => ?_) (fun cdv A outer s H vs Q E hr h => ?_), T.g__law_pick, F.kp, b⟩
  · obtain ⟨pd, c, B, _, _, ⟨l, xs, rfl, _⟩ | ⟨z, rfl, _⟩⟩ := h <;> rfl
  · obtain ⟨pd, c, B, hp, hB, h⟩ := h
    rcases h with ⟨l, xs, rfl, hl, x0, x1, k⟩ | ⟨z, rfl, x0, x1, k⟩
    all_goals refine ⟨_, (pss_one (ps_ret (pe_ix ix_seq (pv 1) (pe_callC (c__law_draw T) hr (pa_cons (pv 0) (pa_cons (pe_callB (CallR.or call_len_seq call_len_str) (by rfl) T.n_len (by decide +kernel) (pa_cons (pv 1) pa_nil)) pa_nil))) (fun _ _ => rfl)))), ?_⟩
    · walk_at "st"
      refine .inl (rd_lenL (sq_of hl) ?_)
      walk_at "st"
      refine ⟨pd, c, B, _, rfl, hp, by omega, by omega, by omega, fun r H' r0 r1 p' kx => ?_⟩
      obtain ⟨kvs, hd⟩ := hp.dK
      obtain ⟨v, hv, _, hat⟩ := atI_int (xs := xs) r0 r1
      exact .inl ⟨_, _, _, v, rfl, rfl, sq_of (kx.lst hd hl), hat, k v H' hv p' kx⟩
    · walk_at "st"
      refine .inr (rd_lenS (z := z) (by omega) ?_)
      walk_at "st"
      refine ⟨pd, c, B, _, rfl, hp, by omega, by omega, by omega, fun r H' r0 r1 p' kx => ?_⟩
      obtain ⟨v, hv, _, hat⟩ := atI_int (xs := z.cps.toList) r0 (by rw [len_cps]; exact r1)
      exact .inr (.inr ⟨_, _, v, rfl, rfl, sz_of (by omega), hat, k v H' hv p' kx⟩)
end


structure GoodW (w : Str) : Prop where
  wd : isWordB w = true
  nb : isBegB w = false
structure Words (n : Nat) (ws : List Str) : Prop where
  len : ws.length = n
  nd : ws.Nodup
  ok : ∀ w ∈ ws, GoodW w
theorem Words.perm {n : Nat} {ws zs : List Str} (h : Words n ws) (p : zs.Perm ws) : Words n zs := ⟨p.length_eq.trans h.len, p.nodup_iff.mpr h.nd, fun w hw => h.ok w (p.mem_iff.mp hw)⟩
abbrev smallL : List Nat := [97, 98, 99, 100, 101, 102, 103, 104, 105, 106, 107, 108, 109, 110, 111, 112, 113, 114, 115, 116, 117, 118, 119, 120, 121, 122]
abbrev signsL : List Nat := smallL ++ [48, 49, 50, 51, 52, 53, 54, 55, 56, 57]
theorem smallS_cps : smallS.cps.toList = smallL := by decide +kernel
theorem signsS_cps : signsS.cps.toList = signsL := by decide +kernel
theorem small_sub {c : Nat} (h : c ∈ smallL) : c ∈ signsL := List.mem_append_left _ h
theorem signs_lt {c : Nat} (h : c ∈ signsL) : c < 123 := by
  simp only [signsL, smallL, List.mem_append, List.mem_cons, List.not_mem_nil, or_false] at h
  omega
theorem GoodW.cps {w : Str} (h : GoodW w) : 1 ≤ w.length ∧ w.length ≤ 12 ∧ (∀ c ∈ w.cps.toList, c ∈ signsL) ∧ ∃ c r, w.cps.toList = c :: r ∧ c ∈ smallL := by
  have := h.wd
  unfold isWordB at this
  rw [smallS_cps, signsS_cps] at this
  simp only [Bool.and_eq_true, decide_eq_true_eq, List.all_eq_true] at this
  obtain ⟨⟨⟨h1, h2⟩, h3⟩, h4⟩ := this
  refine ⟨h1, h2, h4, ?_⟩
  have hl := len_cps w
  cases e : w.cps.toList with
  | nil => rw [e] at hl; simp at hl; omega
  | cons c r => rw [e] at h3; exact ⟨c, r, rfl, h3 c (by simp)⟩
theorem GoodW.so {w : Str} (h : GoodW w) : PyData.strOk w = true := by
  unfold PyData.strOk
  rw [Array.all_eq_true_iff_forall_mem]
  intro c hc
  have := signs_lt (h.cps.2.2.1 c (by simpa using hc))
  exact decide_eq_true (by omega)
/-- a word out of its codes: goodW of (codes, with a 0 behind new and found) -/
def fix0 (w : Str) : Str := w ++ Txt.mul "0" (if inV (.str w) [.str "new", .str "found"] then 1 else 0)
theorem fix0_cps (w : Str) : (fix0 w).cps.toList = w.cps.toList ++ (if isBegB w then [48] else []) := by
  unfold fix0
  rw [app_cps, inV_two]
  show _ ++ (Txt.mul "0" (if isBegB w = true then 1 else 0)).cps.toList = _
  cases isBegB w with
  | true => rw [if_pos rfl, mul_one]; rfl
  | false => rw [if_neg Bool.false_ne_true, mul_zero]; rfl
theorem new_cps : ("new" : Str).cps.toList = [110, 101, 119] := by decide +kernel
theorem found_cps : ("found" : Str).cps.toList = [102, 111, 117, 110, 100] := by decide +kernel
theorem beg_iff (w : Str) : isBegB w = true ↔ w.cps.toList = [110, 101, 119] ∨ w.cps.toList = [102, 111, 117, 110, 100] := by
  unfold isBegB
  simp only [Bool.or_eq_true, decide_eq_true_eq]
  constructor
  · rintro (h | h)
    · exact .inl (h ▸ new_cps)
    · exact .inr (h ▸ found_cps)
  · rintro (h | h)
    · exact .inl (str_ext (h.trans new_cps.symm))
    · exact .inr (str_ext (h.trans found_cps.symm))
theorem good_fix {w : Str} {c : Nat} {r : List Nat} (e : w.cps.toList = c :: r) (hc : c ∈ smallL) (hr : ∀ d ∈ r, d ∈ signsL) (hl : r.length ≤ 11) : GoodW (fix0 w) := by
  have e1 := fix0_cps w
  have lb : isBegB w = true → r.length ≤ 4 := fun hb => by
    rcases (beg_iff w).mp hb with q | q <;> rw [e] at q <;> have q2 := congrArg List.length q <;> simp at q2 <;> omega
  have lt : (if isBegB w then [48] else ([] : List Nat)).length ≤ 1 := by split <;> simp
  have mt : ∀ d ∈ (if isBegB w then [48] else ([] : List Nat)), d ∈ signsL := by
    split
    · intro d hd; simp at hd; subst hd; decide
    · intro d hd; cases hd
  have ll : (fix0 w).length = 1 + r.length + (if isBegB w then [48] else ([] : List Nat)).length := by
    rw [← len_cps, e1, e, List.length_append, List.length_cons]; omega
  constructor
  · unfold isWordB
    rw [smallS_cps, signsS_cps, e1, e]
    simp only [Bool.and_eq_true, decide_eq_true_eq, List.all_eq_true]
    refine ⟨⟨⟨by omega, ?_⟩, ?_⟩, ?_⟩
    · by_cases b : isBegB w = true
      · have := lb b; omega
      · rw [if_neg b] at ll; simp at ll; omega
    · intro d hd
      rw [List.cons_append, List.take_succ_cons, List.take_zero, List.mem_singleton] at hd
      subst hd
      exact hc
    · intro d hd
      rcases List.mem_append.mp hd with h | h
      · rcases List.mem_cons.mp h with h | h
        · subst h; exact small_sub hc
        · exact hr d h
      · exact mt d h
  · rw [Bool.eq_false_iff]
    intro hb
    rcases (beg_iff _).mp hb with h | h
    all_goals
      rw [e1] at h
      by_cases b : isBegB w = true
      · rw [b, if_pos rfl] at h
        rcases (beg_iff w).mp b with q | q <;> rw [q] at h <;> simp at h
      · rw [if_neg b, List.append_nil] at h
        first | exact b ((beg_iff w).mpr (.inl h)) | exact b ((beg_iff w).mpr (.inr h))
theorem cutS_to (z : Str) (n : Nat) (h : n ≤ z.length) : (cutS z none (some (n : Int))).cps.toList = z.cps.toList.take n := by
  unfold cutS
  rw [HT.sIx_none, HT.sIx_nat, Nat.min_eq_left h]
  simp
theorem cutS_from (z : Str) (n : Nat) (h : n ≤ z.length) : (cutS z (some (n : Int)) none).cps.toList = z.cps.toList.drop n := by
  unfold cutS
  rw [HT.sIx_none, HT.sIx_nat, Nat.min_eq_left h]
  have := len_cps z
  simp
  rw [← this]
  rw [List.take_of_length_le (by simp)]
theorem getD_mem {l : List Nat} {i : Nat} (h : i < l.length) : l.getD i 0 ∈ l := by
  simp only [List.getD, List.getElem?_eq_getElem h, Option.getD_some]; exact List.getElem_mem h
/-! ### letters out of words -/
theorem tilde_cps : ("~" : Str).cps.toList = [126] := by decide +kernel
theorem tilde_len : ("~" : Str).length = 1 := by decide +kernel
theorem bare_of {z : Str} {c : Nat} {r : List Nat} (e : z.cps.toList = c :: r) : (bareS z).cps.toList = if c = 126 then r else c :: r := by
  have hl : 1 ≤ z.length := by rw [← len_cps, e]; simp
  have h1 : (cutS z none (some 1)).cps.toList = [c] := by
    have := cutS_to z 1 hl
    rw [e] at this
    exact this
  have h2 : (cutS z (some 1) none).cps.toList = r := by
    have := cutS_from z 1 hl
    rw [e] at this
    exact this
  unfold bareS
  by_cases hc : c = 126
  · have : cutS z none (some 1) = "~" := str_ext (by rw [h1, tilde_cps, hc])
    rw [this, if_pos (by decide +kernel), if_pos hc, h2]
  · have : ¬ V.str (cutS z none (some 1)) = V.str "~" := fun q => hc (by
      have := V.str.inj q
      rw [this, tilde_cps] at h1
      simpa using h1.symm)
    rw [if_neg (by simpa using this), if_neg hc, e]
/-- a word or the way back over it -/
def Mk1 (z : Str) : Prop := ∃ w, GoodW w ∧ (z = w ∨ z = "~" ++ w)
theorem GoodW.bare {w : Str} (h : GoodW w) : bareS w = w ∧ bareS ("~" ++ w) = w := by
  obtain ⟨_, _, _, c, r, e, hc⟩ := h.cps
  have nc : c ≠ 126 := by have := signs_lt (small_sub hc); omega
  refine ⟨str_ext ?_, str_ext ?_⟩
  · rw [bare_of e, if_neg nc, e]
  · have : ("~" ++ w : Str).cps.toList = 126 :: w.cps.toList := by rw [app_cps, tilde_cps]; rfl
    rw [bare_of this, if_pos rfl]
theorem Mk1.good {z : Str} (h : Mk1 z) : GoodW (bareS z) := by
  obtain ⟨w, g, rfl | rfl⟩ := h
  · rw [g.bare.1]; exact g
  · rw [g.bare.2]; exact g
theorem Mk1.eq {z : Str} (h : Mk1 z) : z = bareS z ∨ z = "~" ++ bareS z := by
  obtain ⟨w, g, rfl | rfl⟩ := h
  · rw [g.bare.1]; exact .inl rfl
  · rw [g.bare.2]; exact .inr rfl
theorem Mk1.ok {z : Str} (h : Mk1 z) : isLetterB z = true := by
  have g := h.good
  rw [isLetterB, g.wd, g.nb]; rfl
theorem Mk1.len {z : Str} (h : Mk1 z) : 1 ≤ z.length ∧ z.length ≤ 13 := by
  have g := h.good.cps
  rcases h.eq with e | e
  · rw [e]; omega
  · rw [e, app_len, tilde_len]; omega
theorem Mk1.so {z : Str} (h : Mk1 z) : PyData.strOk z = true := by
  have g := h.good
  unfold PyData.strOk
  rw [Array.all_eq_true_iff_forall_mem]
  intro c hc
  have hc' : c ∈ z.cps.toList := by simpa using hc
  have : c < 127 := by
    rcases h.eq with e | e
    · rw [e] at hc'
      have := signs_lt (g.cps.2.2.1 c hc'); omega
    · rw [e, app_cps, tilde_cps] at hc'
      rcases List.mem_append.mp hc' with q | q
      · simp at q; omega
      · have := signs_lt (g.cps.2.2.1 c q); omega
  exact decide_eq_true (by omega)
theorem take_snoc {α : Type} {l : List α} {i : Nat} {x : α} (h : l[i]? = some x) : l.take (i + 1) = l.take i ++ [x] := by
  rw [List.take_add_one, h]; rfl
/-! ### the drawn letters -/
/-- a row of letters: words of the stock bw, each at most once, each with its way back at most once -/
structure Row (bw : Nat → Str) (zs : List Str) : Prop where
  nd : zs.Nodup
  each : ∀ z ∈ zs, ∃ j, j < zs.length ∧ (z = bw j ∨ z = "~" ++ bw j)
  last : ∀ z, zs.getLast? = some z → cutS z none (some 1) ≠ "~" → ("~" ++ z : Str) ∉ zs
structure Stock (n : Nat) (bw : Nat → Str) : Prop where
  good : ∀ j, j < n → GoodW (bw j)
  inj : ∀ i j, i < n → j < n → bw i = bw j → i = j
variable {n : Nat} {bw : Nat → Str} {zs : List Str}
theorem Stock.back (S : Stock n bw) {i j : Nat} (hi : i < n) (hj : j < n) : (bw i = "~" ++ bw j → False) ∧ ("~" ++ bw i = "~" ++ bw j → i = j) := by
  have bi := (S.good i hi).bare
  have bj := (S.good j hj).bare
  refine ⟨fun e => ?_, fun e => ?_⟩
  · have := congrArg Str.length e
    have h2 : bw i = bw j := by
      have q := congrArg bareS e
      rw [bi.1, bj.2] at q
      exact q
    rw [h2, app_len, tilde_len] at this
    omega
  · have q := congrArg bareS e
    rw [bi.2, bj.2] at q
    exact S.inj i j hi hj q
theorem cut_back (w : Str) : cutS ("~" ++ w) none (some 1) = "~" := by
  have hl : 1 ≤ ("~" ++ w : Str).length := by rw [app_len, tilde_len]; omega
  have := cutS_to ("~" ++ w) 1 hl
  rw [app_cps, tilde_cps] at this
  exact str_ext (this.trans tilde_cps.symm)
theorem Row.nil : Row bw [] := ⟨List.nodup_nil, (fun z h => by cases h), (fun z h => by cases h)⟩
theorem Row.fresh (S : Stock n bw) (R : Row bw zs) (hk : zs.length < n) : bw zs.length ∉ zs ∧ ("~" ++ bw zs.length : Str) ∉ zs := by
  refine ⟨fun h => ?_, fun h => ?_⟩
  · obtain ⟨j, hj, q | q⟩ := R.each _ h
    · have := S.inj _ _ hk (by omega) q; omega
    · exact (S.back hk (by omega)).1 q
  · obtain ⟨j, hj, q | q⟩ := R.each _ h
    · exact (S.back (by omega) hk).1 q.symm
    · have := (S.back hk (by omega)).2 q; omega
theorem Row.plain (S : Stock n bw) (R : Row bw zs) (hk : zs.length < n) : Row bw (zs ++ [bw zs.length]) := by
  have fr := R.fresh S hk
  refine ⟨?_, fun z hz => ?_, fun z hz hb => ?_⟩
  · rw [List.nodup_append]; exact ⟨R.nd, by simp, fun x hx y hy => by rw [List.mem_singleton] at hy; subst hy; exact fun e => fr.1 (e ▸ hx)⟩
  · rw [List.length_append, List.length_singleton]
    rcases List.mem_append.mp hz with h | h
    · obtain ⟨j, hj, q⟩ := R.each z h; exact ⟨j, by omega, q⟩
    · rw [List.mem_singleton] at h; exact ⟨zs.length, by omega, .inl h⟩
  · rw [List.getLast?_concat] at hz
    cases hz
    intro h
    rcases List.mem_append.mp h with h | h
    · exact fr.2 h
    · rw [List.mem_singleton] at h; exact (S.back hk hk).1 h.symm
theorem Row.back (S : Stock n bw) (R : Row bw zs) (hk : zs.length < n) : Row bw (zs ++ ["~" ++ bw zs.length]) := by
  have fr := R.fresh S hk
  refine ⟨?_, fun z hz => ?_, fun z hz hb => ?_⟩
  · rw [List.nodup_append]; exact ⟨R.nd, by simp, fun x hx y hy => by rw [List.mem_singleton] at hy; subst hy; exact fun e => fr.2 (e ▸ hx)⟩
  · rw [List.length_append, List.length_singleton]
    rcases List.mem_append.mp hz with h | h
    · obtain ⟨j, hj, q⟩ := R.each z h; exact ⟨j, by omega, q⟩
    · rw [List.mem_singleton] at h; exact ⟨zs.length, by omega, .inr h⟩
  · rw [List.getLast?_concat] at hz
    cases hz
    exact absurd (cut_back _) hb
/-- the last one again, as its way back -/
theorem Row.again (S : Stock n bw) (R : Row bw zs) (hk : zs.length < n) {z : Str} (hz : zs.getLast? = some z) (hb : cutS z none (some 1) ≠ "~") : Row bw (zs ++ ["~" ++ z]) := by
  have fr := R.last z hz hb
  refine ⟨?_, fun y hy => ?_, fun y hy hc => ?_⟩
  · rw [List.nodup_append]; exact ⟨R.nd, by simp, fun x hx y hy => by rw [List.mem_singleton] at hy; subst hy; exact fun e => fr (e ▸ hx)⟩
  · rw [List.length_append, List.length_singleton]
    rcases List.mem_append.mp hy with h | h
    · obtain ⟨j, hj, q⟩ := R.each y h; exact ⟨j, by omega, q⟩
    · rw [List.mem_singleton] at h
      obtain ⟨j, hj, q | q⟩ := R.each z (List.mem_of_getLast? hz)
      · exact ⟨j, by omega, .inr (by rw [h, q])⟩
      · exact absurd (by rw [q]; exact cut_back _) hb
  · rw [List.getLast?_concat] at hy
    cases hy
    exact absurd (cut_back _) hc
theorem Row.mk1 (S : Stock n bw) (R : Row bw zs) (hk : zs.length ≤ n) : ∀ z ∈ zs, Mk1 z := fun z hz => by
  obtain ⟨j, hj, q⟩ := R.each z hz
  exact ⟨bw j, S.good j (by omega), q⟩
/-- the k-th word ahead of fix0: the stem up to at, a sign, the tail -/
def rawL (at_ : Nat) (f st : Int) (stem : Str) (k : Nat) : Str :=
  (cutS stem none (some (at_ : Int)) ++ ⟨#[if 0 < at_ then signsL.getD ((f + st * k) % 36).toNat 0 else smallL.getD ((f + st * k) % 26).toNat 0]⟩) ++ cutS (cutS stem (some (at_ : Int)) none) none (some (((cutS stem (some (at_ : Int)) none).length : Int) - k * (if decide ((k : Int) < 2) = true then 1 else 0)))
structure LOk (at_ : Nat) (f st : Int) (stem : Str) : Prop where
  f0 : 0 ≤ f
  f1 : f < 36
  s : st = 1 ∨ st = 5 ∨ st = 7 ∨ st = 11 ∨ st = 17 ∨ st = 19 ∨ st = 23 ∨ st = 25
  hd : ∀ c r, stem.cps.toList = c :: r → c ∈ smallL
  sg : ∀ c ∈ stem.cps.toList, c ∈ signsL
  sl : stem.length ≤ 11
  al : at_ ≤ stem.length
theorem cut_sub (z : Str) (lo hi : Option Int) : (∀ c ∈ (cutS z lo hi).cps.toList, c ∈ z.cps.toList) ∧ (cutS z lo hi).length ≤ z.length := by
  refine ⟨fun c hc => ?_, cutS_length z lo hi⟩
  have hc' : c ∈ (z.cps.toList.drop (HT.sIx z.length 0 lo)).take (HT.sIx z.length z.length hi - HT.sIx z.length 0 lo) := by simpa [cutS] using hc
  exact List.mem_of_mem_drop (List.mem_of_mem_take hc')
theorem rawL_cps {at_ : Nat} {f st : Int} {stem : Str} (h : LOk at_ f st stem) (k : Nat) : ∃ c r, (rawL at_ f st stem k).cps.toList = c :: r ∧ c ∈ smallL ∧ (∀ d ∈ r, d ∈ signsL) ∧ r.length ≤ 11 ∧
    (rawL at_ f st stem k).cps.toList[at_]? = some (if 0 < at_ then signsL.getD ((f + st * k) % 36).toNat 0 else smallL.getD ((f + st * k) % 26).toNat 0) := by
  have m36 : ((f + st * k) % 36).toNat < signsL.length := by have : signsL.length = 36 := rfl; omega
  have m26 : ((f + st * k) % 26).toNat < smallL.length := by have : smallL.length = 26 := rfl; omega
  have ls := len_cps stem
  have h2 := h.sl
  have h3 := h.al
  have eA := cutS_to stem at_ h.al
  have eT := cutS_from stem at_ h.al
  have lT : (cutS stem (some (at_ : Int)) none).length = stem.length - at_ := by rw [← len_cps, eT, List.length_drop, ls]
  obtain ⟨sB, lB⟩ := cut_sub (cutS stem (some (at_ : Int)) none) none (some (((cutS stem (some (at_ : Int)) none).length : Int) - k * (if decide ((k : Int) < 2) = true then 1 else 0)))
  unfold rawL
  generalize cutS (cutS stem (some (at_ : Int)) none) none (some (((cutS stem (some (at_ : Int)) none).length : Int) - k * (if decide ((k : Int) < 2) = true then 1 else 0))) = Bt at sB lB ⊢
  have sB2 : ∀ c ∈ Bt.cps.toList, c ∈ signsL := fun c hc => h.sg c (List.mem_of_mem_drop (eT ▸ sB c hc))
  have lB2 := len_cps Bt
  have lA : (stem.cps.toList.take at_).length = at_ := by rw [List.length_take]; omega
  by_cases h0 : 0 < at_
  · simp only [if_pos h0]
    have ms := getD_mem m36
    generalize signsL.getD ((f + st * (k : Int)) % 36).toNat 0 = x at ms ⊢
    have ec : ((cutS stem none (some (at_ : Int)) ++ ⟨#[x]⟩) ++ Bt : Str).cps.toList = stem.cps.toList.take at_ ++ [x] ++ Bt.cps.toList := by rw [app_cps, app_cps, eA]
    obtain ⟨c, r, es⟩ : ∃ c r, stem.cps.toList = c :: r := by
      cases e : stem.cps.toList with
      | nil => rw [e] at ls; simp at ls; omega
      | cons c r => exact ⟨c, r, rfl⟩
    obtain ⟨m, rfl⟩ : ∃ m, at_ = m + 1 := ⟨at_ - 1, by omega⟩
    have lr : r.length + 1 = stem.length := by rw [← ls, es, List.length_cons]
    refine ⟨c, r.take m ++ [x] ++ Bt.cps.toList, ?_, h.hd c r es, fun d hd => ?_, ?_, ?_⟩
    · rw [ec, es]; simp
    · rcases List.mem_append.mp hd with q | q
      · rcases List.mem_append.mp q with q | q
        · exact h.sg d (by rw [es]; exact List.mem_cons_of_mem _ (List.mem_of_mem_take q))
        · rw [List.mem_singleton] at q; rw [q]; exact ms
      · exact sB2 d q
    · simp only [List.length_append, List.length_take, List.length_singleton]; omega
    · rw [ec, List.append_assoc, List.getElem?_append_right (by omega), lA, Nat.sub_self]; rfl
  · have ez : at_ = 0 := by omega
    subst ez
    simp only [Nat.lt_irrefl, if_false]
    have ms := getD_mem m26
    generalize smallL.getD ((f + st * (k : Int)) % 26).toNat 0 = x at ms ⊢
    have ec : ((cutS stem none (some ((0 : Nat) : Int)) ++ ⟨#[x]⟩) ++ Bt : Str).cps.toList = x :: Bt.cps.toList := by rw [app_cps, app_cps, eA]; rfl
    refine ⟨x, Bt.cps.toList, ec, ms, sB2, by omega, ?_⟩
    rw [ec]; rfl
theorem rawL_inj {at_ : Nat} {f st : Int} {stem : Str} (h : LOk at_ f st stem) {k l : Nat} (hk : k < 26) (hl : l < 26) (e : fix0 (rawL at_ f st stem k) = fix0 (rawL at_ f st stem l)) : k = l := by
  have nd36 : signsL.Nodup := by decide
  have nd26 : smallL.Nodup := by decide
  have inj : ∀ (L : List Nat) (i j : Nat), L.Nodup → i < L.length → j < L.length → L.getD i 0 = L.getD j 0 → i = j := fun L i j nd hi hj e => by
    simp only [List.getD, List.getElem?_eq_getElem hi, List.getElem?_eq_getElem hj, Option.getD_some] at e
    rcases Nat.lt_trichotomy i j with c | c | c
    · exact absurd e (List.pairwise_iff_getElem.mp nd i j hi hj c)
    · exact c
    · exact absurd e.symm (List.pairwise_iff_getElem.mp nd j i hj hi c)
  obtain ⟨_, _, _, _, _, _, gk⟩ := rawL_cps h k
  obtain ⟨_, _, _, _, _, _, gl⟩ := rawL_cps h l
  have ge := congrArg (fun z : Str => z.cps.toList[at_]?) e
  simp only [fix0_cps] at ge
  rw [List.getElem?_append_left (List.getElem?_eq_some_iff.mp gk).1, List.getElem?_append_left (List.getElem?_eq_some_iff.mp gl).1, gk, gl] at ge
  have ge := Option.some.inj ge
  have h36 : signsL.length = 36 := rfl
  have h26 : smallL.length = 26 := rfl
  have := h.s
  by_cases h0 : 0 < at_
  · simp only [if_pos h0] at ge
    have q := inj signsL _ _ nd36 (by omega) (by omega) ge
    rcases h.s with s | s | s | s | s | s | s | s <;> subst s <;> omega
  · simp only [if_neg h0] at ge
    have q := inj smallL _ _ nd26 (by omega) (by omega) ge
    rcases h.s with s | s | s | s | s | s | s | s <;> subst s <;> omega
theorem rawL_stock {at_ : Nat} {f st : Int} {stem : Str} (h : LOk at_ f st stem) : Stock 26 fun k => fix0 (rawL at_ f st stem k) :=
  ⟨fun j hj => by obtain ⟨c, r, e, hc, hr, hl, _⟩ := rawL_cps h j; exact good_fix e hc hr hl, fun i j hi hj e => rawL_inj h hi hj e⟩


section
variable {P : Program} {w : World} {K : PySem.W.Frag} {mg : Str → Option Value} {base : Heap} {a : Ad}
theorem rd_gTup2 {n i j : Nat} {p : Addr} {x y : V} {σ : L2.St} {H : Hp} {R : L2.St → Hp → Prop} (hn : 2 = n) (h : SqT K H p [x, y]) (q : R ((σ.set i (some x)).set j (some y)) H) : gTup K n (gCons (gName i) (gCons (gName j) gNil)) (.ref p) σ H R :=
  ⟨p, [x, y], rfl, h, hn, x, [y], rfl, y, [], rfl, rfl, q⟩
theorem rd_iteVar {b : Bool} {i j : Nat} {u v : V} {σ : L2.St} {H : Hp} {R : V → Hp → Prop} (hi : σ[i]? = some (some u)) (hj : σ[j]? = some (some v)) (r : R (if b = true then u else v) H) : if b = true then tVar i σ H R else tVar j σ H R := by
  cases b with
  | true => exact ⟨u, hi, r⟩
  | false => exact ⟨v, hj, r⟩
theorem rd_par3 {i j l : Nat} {ts : TA} {nx bk ct : L2.St → Hp → Prop} {rt : VK} {σ : L2.St} {H : Hp} (h : ts σ H fun vs H1 => ∃ u v w, vs = [u, v, w] ∧ nx (((σ.set i (some u)).set j (some v)).set l (some w)) H1) : tPar3 i j l ts ⟨nx, rt, bk, ct⟩ σ H := h
theorem rd_three {a b c : V} {R : V → V → V → Prop} (q : R a b c) : ∃ u v w, [a, b, c] = [u, v, w] ∧ R u v w := ⟨a, b, c, rfl, q⟩
theorem fix0_of (w : Str) : fix0 w = if isBegB w = true then w ++ "0" else w := by
  apply str_ext
  rw [fix0_cps]
  by_cases h : isBegB w = true
  · rw [if_pos h, if_pos h, app_cps]; rfl
  · rw [if_neg h, if_neg h, List.append_nil]
/-- [pick(pen, z) for k in range(m)] -/
theorem lc_pick {z0 : Str} {m B0 j : Nat} {H6 : Hp} {σ : L2.St} {pd c : Addr} {Qd : Addr → Hp → Prop} (h0 : 0 < z0.length) (hz : z0.length ≤ 1000) (hm : m ≤ 100) (hB : B0 < 800000000) (p6 : PenK H6 pd c B0)
    (s0 : ∀ x, ((wipe σ [4]).set 4 (some x))[0]? = some (some (.ref pd))) (sj : ∀ x, ((wipe σ [4]).set 4 (some x))[j]? = some (some (.str z0)))
    (q : ∀ D (cs : List Nat) H7, cs.length = m → (∀ x ∈ cs, x ∈ z0.cps.toList) → H6 D = none → H7 D = some (.lst ((cs.map fun x => (⟨#[x]⟩ : Str)).map V.str)) → PenK H7 pd c (B0 + m) → Kx pd H6 H7 → Qd D H7) :
    ∀ D, H6 D = none → ∃ W : Nat → Nat → Hp → Prop, (∃ m, W 0 m (upd H6 D (.lst []))) ∧ ∀ i mm H, W i mm H →
      ((Itr 0 m).stop i H ∧ Qd D H) ∨ ((Itr 0 m).go i H ∧ ∃ Nx : Hp → Prop, (∀ H', Nx H' → ∃ m', m' < mm ∧ W (i + 1) m' H') ∧ ∀ x H', (Itr 0 m).yld i H x H' → gName 4 x (wipe σ [4]) H' fun σ2 H2 => wipe σ2 [4] = wipe σ [4] ∧ tYes σ2 H2 fun b H3 =>
        if b = true then tCall spPick [] E0 (tCons (tVar 0) (tCons (tVar j) tNil)) σ2 H3 fun y H4 => ∃ acc, H4 D = some (.lst acc) ∧ acc.length < sizeLine ∧ Nx (upd H4 D (.lst (acc ++ [y]))) else Nx H3) := by
  intro D hD
  refine lc_yl (yl_range 0 m) (fun i H' => ∃ cs : List Nat, cs.length = i ∧ (∀ x ∈ cs, x ∈ z0.cps.toList) ∧ H' D = some (.lst ((cs.map fun x => (⟨#[x]⟩ : Str)).map V.str)) ∧ PenK H' pd c (B0 + i) ∧ Kx pd H6 H') (fun _ _ _ _ => trivial) ⟨[], rfl, (fun x hx => by cases hx), upd_same, p6.ex (Ex.new hD), Kx.of (Ex.new hD)⟩ (fun i x H7 H8 hi hv e8 yy => ?_) (fun H7 hv => ?_)
  · obtain ⟨cs, lc, hcs, hD7, p7, kx7⟩ := hv
    show wipe ((wipe σ [4]).set 4 (some x)) [4] = wipe σ [4] ∧ _
    refine ⟨wipe1 _, rd_yes (iteT ?_)⟩
    refine rd_call (rd_cons (rd_var (s0 x) (rd_cons (rd_var (sj x) (rd_nil ?_)))))
    have p8 := p7.ex e8
    refine ⟨pd, c, B0 + i, p8, by omega, .inr ⟨_, rfl, h0, hz, fun x H9 hx p9 kx9 => ?_⟩⟩
    obtain ⟨kvs, hk8⟩ := p8.dK
    have hD9 := kx9.lst hk8 (e8 _ _ hD7)
    refine ⟨_, hD9, Nat.lt_of_le_of_lt (show _ ≤ 100 by simp; omega) (by decide), cs ++ [x], by simp [lc], ?_, ?_, ?_, ?_⟩
    · intro y hy
      rcases List.mem_append.mp hy with h | h
      · exact hcs y h
      · rw [List.mem_singleton] at h; subst h; exact hx
    · rw [upd_same, List.map_append, List.map_append]; rfl
    · exact p9.wr (p6.np hD) (p6.nc hD)
    · exact ((kx7.trans (Kx.of e8)).trans kx9).mut hD
  · obtain ⟨cs, lc, hcs, hD7, p7, kx7⟩ := hv
    exact q D cs H7 lc hcs hD hD7 p7 kx7
def spLetters : Sp := fun vs H Q _ => ∃ (pd c : Addr) (B n : Nat), vs = [.ref pd, .int n] ∧ PenK H pd c B ∧ B < 700000000 ∧ n ≤ 14 ∧
  ∀ (zs : List Str) (p : Addr) (H' : Hp), (zs.length = n ∧ zs.Nodup ∧ ∀ z ∈ zs, Mk1 z) → H p = none → H' p = some (.lst (zs.map V.str)) → PenK H' pd c (B + 100) → Kx pd H H' → Q (.ref p) H'
theorem c__law_letters (T : Txt P K mg a) : Cal P w K mg base 3 "_law_letters" ["_law_pen_here", "_law_many"] spLetters := by
  obtain ⟨fd, F, b⟩ := T.F__law_letters
  refine ⟨_, _, F.ok sc__law_letters (fun vs H Q E h => ?_) (fun cdv A outer s H vs Q E hr h => ?_), T.g__law_letters, F.kp, b⟩
  · obtain ⟨pd, c, B, n, rfl, _⟩ := h; rfl
  · obtain ⟨pd, c, B, n, rfl, hp, hB, n2, k⟩ := h
    refine ⟨_, (pss_cons (ps_asg (pe_tup (pa_cons pe_str (pa_cons pe_str pa_nil))) (pg_tup rfl (pgs_cons (pg_name (i := 5) sc__law_letters.nd rfl (by first | exact Or.inl rfl | exact Or.inr rfl)) (pgs_cons (pg_name (i := 6) sc__law_letters.nd rfl (by first | exact Or.inl rfl | exact Or.inr rfl)) pgs_nil))))
  (pss_cons (ps_set (i := 2) sc__law_letters.nd rfl (by first | exact Or.inl rfl | exact Or.inr rfl) (pe_join pe_str (pe_lc (own := [("_law_k", 4)]) (by rfl) sc__law_letters.nd (pi_range1 (by rfl) T.n_range (pa_cons (pe_callB (call_min2 rfl) (by rfl) T.n_min (by decide +kernel) (pa_cons pe_int (pa_cons (pe_callC (c__law_draw T) hr (pa_cons (pv 0) (pa_cons pe_int pa_nil))) pa_nil))) pa_nil)) (blkOk_by (own := [("_law_k", 4)]) (N := N__law_letters) (sc := defScope s__law_letters) (by decide +kernel)) (fun _ _ _ _ _ => (pg_name (i := 4) sc__law_letters.nd rfl (by first | exact Or.inl rfl | exact Or.inr rfl))) (fun _ _ _ _ _ => pts_nil) (fun _ _ _ _ _ => (pe_callC (c__law_pick T) hr (pa_cons (pv 0) (pa_cons (pv 5) pa_nil)))))))
  (pss_cons (ps_set (i := 2) sc__law_letters.nd rfl (by first | exact Or.inl rfl | exact Or.inr rfl) (pe_op op_add_str (pv 2) (pe_join pe_str (pe_lc (own := [("_law_k", 4)]) (by rfl) sc__law_letters.nd (pi_range1 (by rfl) T.n_range (pa_cons (pe_op op_mul (pe_callC (c__law_draw T) hr (pa_cons (pv 0) (pa_cons pe_int pa_nil))) (pe_callB call_len_str (by rfl) T.n_len (by decide +kernel) (pa_cons (pv 2) pa_nil))) pa_nil)) (blkOk_by (own := [("_law_k", 4)]) (N := N__law_letters) (sc := defScope s__law_letters) (by decide +kernel)) (fun _ _ _ _ _ => (pg_name (i := 4) sc__law_letters.nd rfl (by first | exact Or.inl rfl | exact Or.inr rfl))) (fun _ _ _ _ _ => pts_nil) (fun _ _ _ _ _ => (pe_callC (c__law_pick T) hr (pa_cons (pv 0) (pa_cons (pv 6) pa_nil))))))))
  (pss_cons (ps_par (i := 7) (j := 8) (by rfl) sc__law_letters.nd rfl rfl (by decide) rfl rfl (pa_cons (pe_callC (c__law_draw T) hr (pa_cons (pv 0) (pa_cons (pe_op op_add (pe_callB call_len_str (by rfl) T.n_len (by decide +kernel) (pa_cons (pv 2) pa_nil)) pe_int) pa_nil))) (pa_cons (pe_callC (c__law_draw T) hr (pa_cons (pv 0) (pa_cons pe_int pa_nil))) pa_nil)) (by rfl))
  (pss_cons (ps_set (i := 3) sc__law_letters.nd rfl (by first | exact Or.inl rfl | exact Or.inr rfl) (pe_ifExp (pt_cmpR op_gt (pv 7) pe_int (by rfl)) (pv 6) (pv 5)))
  (pss_cons (ps_par3 (i := 9) (j := 10) (l := 11) (by rfl) sc__law_letters.nd rfl rfl rfl (by decide) (by decide) (by decide) rfl rfl rfl (pa_cons (pe_callC (c__law_pick T) hr (pa_cons (pv 0) (pa_cons (pe_lst (pa_cons pe_int (pa_cons pe_int (pa_cons pe_int (pa_cons pe_int (pa_cons pe_int (pa_cons pe_int (pa_cons pe_int (pa_cons pe_int pa_nil))))))))) pa_nil))) (pa_cons (pe_slice sl_str (pv 2) (po_some (pv 7)) po_none) (pa_cons (pe_lst pa_nil) pa_nil))) (by rfl))
  (pss_cons (ps_for PassesOwn.never (by rfl) (pi_range1 (by rfl) T.n_range (pa_cons (pv 1) pa_nil)) (pg_name (i := 4) sc__law_letters.nd rfl (by first | exact Or.inl rfl | exact Or.inr rfl))
    (pss_cons (ps_set (i := 12) sc__law_letters.nd rfl (by first | exact Or.inl rfl | exact Or.inr rfl) (pe_ix ix_str (pv 3) (pe_op op_mod (pe_callTy call_int1 (by rfl) T.n_int (by decide +kernel) (pa_cons (pe_op op_add (pv 8) (pe_op op_mul (pv 9) (pv 4))) pa_nil)) (pe_callB call_len_str (by rfl) T.n_len (by decide +kernel) (pa_cons (pv 3) pa_nil))) (fun _ _ => rfl)))
      (pss_cons (ps_set (i := 13) sc__law_letters.nd rfl (by first | exact Or.inl rfl | exact Or.inr rfl) (pe_op op_add_str (pe_op op_add_str (pe_slice sl_str (pv 2) po_none (po_some (pv 7))) (pv 12)) (pe_slice sl_str (pv 10) po_none (po_some (pe_op op_sub (pe_callB call_len_str (by rfl) T.n_len (by decide +kernel) (pa_cons (pv 10) pa_nil)) (pe_op op_mul (pv 4) (pe_callTy call_int1 (by rfl) T.n_int (by decide +kernel) (pa_cons (pe_cmpR op_lt (pv 4) pe_int (by rfl)) pa_nil))))))))
      (Evl.pss_cut (ps_if (pt_cmpR op_in_seq (pv 13) (pe_tup (pa_cons pe_str (pa_cons pe_str pa_nil))) (by rfl)) (pss_one (ps_set (i := 13) sc__law_letters.nd rfl (by first | exact Or.inl rfl | exact Or.inr rfl) (pe_op op_add_str (pv 13) pe_str))) pss_nil)
      (Evl.pss_cut (ps_if (PW.pt (pw_and (pt_cmpR op_gt (pv 4) pe_int (by rfl)) (pw_and (pt_cmpR op_ne (pe_slice sl_str (pe_ix ix_list (pv 11) (pe_un un_neg pe_int) (fun _ _ => rfl)) po_none (po_some pe_int)) pe_str (by rfl)) (pw_and1 (pt_cmpR op_eq (pe_callC (c__law_draw T) hr (pa_cons (pv 0) (pa_cons pe_int pa_nil))) pe_int (by rfl)))))) (pss_one (ps_set (i := 13) sc__law_letters.nd rfl (by first | exact Or.inl rfl | exact Or.inr rfl) (pe_ix ix_list (pv 11) (pe_un un_neg pe_int) (fun _ _ => rfl)))) pss_nil)
      (pss_one (ps_expr (pe_bm PySem.F.plainAttrs_list PySem.F.slot_list_append PySem.F.type_list_append mt_append (pv 11) (pa_cons (pe_ifExp (PW.pt (pw_and (pt_cmpR op_notIn_seq (pv 13) (pv 11) (by rfl)) (pw_and1 (pt_cmpR op_gt (pe_callC (c__law_draw T) hr (pa_cons (pv 0) (pa_cons pe_int pa_nil))) pe_int (by rfl))))) (pv 13) (pe_op op_add_str pe_str (pv 13))) pa_nil)))))))))
  (pss_one (ps_ret (pv 11)))))))))), ?_⟩
    refine rd_seq (rd_asgG ?_)
    walk_at "st"
    refine ⟨by show 2 ≤ sizeLine; decide, ?_⟩
    intro t ht
    have e1 := Ex.new (o := HO.tup [V.str "abcdefghijklmnopqrstuvwxyz", V.str "abcdefghijklmnopqrstuvwxyz0123456789"]) ht
    have h1 : upd H t (HO.tup [V.str "abcdefghijklmnopqrstuvwxyz", V.str "abcdefghijklmnopqrstuvwxyz0123456789"]) t = some (HO.tup [V.str "abcdefghijklmnopqrstuvwxyz", V.str "abcdefghijklmnopqrstuvwxyz0123456789"]) := upd_same
    generalize upd H t (HO.tup [V.str "abcdefghijklmnopqrstuvwxyz", V.str "abcdefghijklmnopqrstuvwxyz0123456789"]) = H1 at e1 h1 ⊢
    refine rd_gTup2 rfl (st_of h1) ?_
    have p1 := hp.ex e1
    have kx1 : Kx pd H H1 := Kx.of e1
    -- stem, first sign
    walk_at "st"
    refine rd_lc ?_
    walk_at "st"
    refine ⟨pd, c, B, _, rfl, p1, by omega, by decide, by decide, fun q H2 q0 q1 p2 kx2 => ?_⟩
    have kx2' := kx1.trans kx2
    walk_at "st"
    refine ⟨1, q, rfl, ?_⟩
    dsimp only
    walk_at "st"
    obtain ⟨m, em, hm⟩ : ∃ m : Nat, (if q < 1 then q else 1 : Int) = (m : Int) ∧ m ≤ 1 := by
      by_cases h : q < 1
      · exact ⟨0, by rw [if_pos h]; omega, by omega⟩
      · exact ⟨1, by rw [if_neg h]; rfl, Nat.le_refl _⟩
    rw [em]
    refine ⟨by omega, by omega, ?_⟩
    rw [Int.toNat_natCast]
    refine lc_pick (j := 5) (by decide +kernel) (by decide +kernel) (by omega) (by omega) p2 (fun _ => rfl) (fun _ => rfl) (fun D cs H3 lc hcs hD h3 p3 kx3 => ?_)
    have e1j := join_ones cs
    refine ⟨_, _, cs.map (fun x => (⟨#[x]⟩ : Str)), rfl, rfl, .inl (sq_of h3), by rw [ones_len, show ("" : Str).length = 0 by decide +kernel, Nat.mul_zero]; omega, ?_⟩
    generalize Txt.join "" (cs.map fun x => (⟨#[x]⟩ : Str)) = stem1 at e1j ⊢
    have ls1 : stem1.length = m := by rw [← len_cps, e1j, lc]
    have kx3' := kx2'.trans kx3
    -- the further signs
    walk_at "st"
    refine rd_lc ?_
    walk_at "st"
    refine ⟨pd, c, _, _, rfl, p3, by omega, by decide, by decide, fun q2 H4 q20 q21 p4 kx4 => ?_⟩
    have kx4' := kx3'.trans kx4
    walk_at "st"
    refine rd_lenS (z := stem1) (by omega) ?_
    refine rd_I (.inl ⟨by omega, by omega⟩) ?_
    walk_at "st"
    obtain ⟨m2, em2, hm2⟩ : ∃ m2 : Nat, q2 * (stem1.length : Int) = (m2 : Int) ∧ m2 ≤ 10 ∧ (m = 0 → m2 = 0) := by
      rw [ls1]
      rcases Nat.le_one_iff_eq_zero_or_eq_one.mp hm with h | h
      · exact ⟨0, by rw [h]; simp, by omega, fun _ => rfl⟩
      · exact ⟨q2.toNat, by rw [h]; simp; omega, by omega, fun h' => by omega⟩
    rw [em2]
    refine ⟨by omega, by omega, ?_⟩
    rw [Int.toNat_natCast]
    refine lc_pick (j := 6) (by decide +kernel) (by decide +kernel) (by omega) (by omega) p4 (fun _ => rfl) (fun _ => rfl) (fun D2 cs2 H5 lc2 hcs2 hD2 h5 p5 kx5 => ?_)
    have e2j := join_ones cs2
    refine ⟨_, _, cs2.map (fun x => (⟨#[x]⟩ : Str)), rfl, rfl, .inl (sq_of h5), by rw [ones_len, show ("" : Str).length = 0 by decide +kernel, Nat.mul_zero]; omega, ?_⟩
    generalize Txt.join "" (cs2.map fun x => (⟨#[x]⟩ : Str)) = stem2 at e2j ⊢
    have ls2 : stem2.length = m2 := by rw [← len_cps, e2j, lc2]
    have kx5' := kx4'.trans kx5
    refine rd_strs (by omega) ?_
    have esc : (stem1 ++ stem2 : Str).cps.toList = cs ++ cs2 := by rw [app_cps, e1j, e2j]
    have lst : (stem1 ++ stem2 : Str).length = m + m2 := by rw [app_len, ls1, ls2]
    generalize (stem1 ++ stem2 : Str) = stem at esc lst ⊢
    -- at, front
    walk_at "st"
    refine rd_lenS (z := stem) (by omega) ?_
    walk_at "st"
    refine ⟨pd, c, _, _, rfl, p5, by omega, by omega, by omega, fun at_ H6 a0 a1 p6 kx6 => ?_⟩
    walk_at "st"
    refine ⟨pd, c, _, _, rfl, p6, by omega, by decide, by decide, fun f H7 f0 f1 p7 kx7 => ?_⟩
    have kx7' := (kx5'.trans kx6).trans kx7
    obtain ⟨at', rfl⟩ : ∃ n : Nat, at_ = (n : Int) := ⟨at_.toNat, by omega⟩
    walk_at "st"
    refine rd_iteVar rfl rfl ?_
    obtain ⟨ch, ech, cch⟩ : ∃ ch : Str, (if decide ((0 : Int) < (at' : Int)) = true then V.str "abcdefghijklmnopqrstuvwxyz0123456789" else V.str "abcdefghijklmnopqrstuvwxyz") = V.str ch ∧ ch.cps.toList = (if 0 < at' then signsL else smallL) := by
      by_cases h : 0 < at'
      · exact ⟨signsS, by rw [if_pos (decide_eq_true (by omega))], by rw [if_pos h]; exact signsS_cps⟩
      · exact ⟨smallS, by rw [if_neg (by simp; omega)], by rw [if_neg h]; exact smallS_cps⟩
    rw [ech]
    have lch : ch.length = if 0 < at' then 36 else 26 := by rw [← len_cps, cch]; split <;> rfl
    walk_at "st"
    refine rd_par3 ?_
    walk_at "st"
    refine ⟨by show 8 ≤ sizeLine; decide, ?_⟩
    intro l hl
    have e8 := Ex.new (o := HO.lst [V.int 1, V.int 5, V.int 7, V.int 11, V.int 17, V.int 19, V.int 23, V.int 25]) hl
    have h8 : upd H7 l (HO.lst [V.int 1, V.int 5, V.int 7, V.int 11, V.int 17, V.int 19, V.int 23, V.int 25]) l = some (HO.lst [V.int 1, V.int 5, V.int 7, V.int 11, V.int 17, V.int 19, V.int 23, V.int 25]) := upd_same
    generalize upd H7 l (HO.lst [V.int 1, V.int 5, V.int 7, V.int 11, V.int 17, V.int 19, V.int 23, V.int 25]) = H8 at e8 h8 ⊢
    walk_at "st"
    refine ⟨pd, c, _, p7.ex e8, by omega, .inl ⟨l, _, rfl, h8, by decide, by decide, fun sv H9 hsv p9 kx9 => ?_⟩⟩
    obtain ⟨st, rfl, hst⟩ : ∃ st : Int, sv = V.int st ∧ (st = 1 ∨ st = 5 ∨ st = 7 ∨ st = 11 ∨ st = 17 ∨ st = 19 ∨ st = 23 ∨ st = 25) := by
      simp only [List.mem_cons, List.not_mem_nil, or_false] at hsv
      rcases hsv with rfl | rfl | rfl | rfl | rfl | rfl | rfl | rfl
      all_goals exact ⟨_, rfl, by simp⟩
    have kx9' := (kx7'.trans (Kx.of e8)).trans kx9
    walk_at "st"
    refine rd_slS (by omega) ?_
    walk_at "st"
    refine ⟨by show 0 ≤ sizeLine; decide, ?_⟩
    intro G hG
    have e10 := Ex.new (o := HO.lst []) hG
    have h10 : upd H9 G (HO.lst []) G = some (HO.lst []) := upd_same
    generalize upd H9 G (HO.lst []) = H10 at e10 h10 ⊢
    walk_at "st"
    refine rd_three ?_
    have LO : LOk at' f st stem := by
      refine ⟨f0, f1, hst, fun x r es => ?_, fun x hx => ?_, by omega, by omega⟩
      · rw [esc] at es
        have : m = 1 := by
          rcases Nat.le_one_iff_eq_zero_or_eq_one.mp hm with h | h
          · have := hm2.2 h
            have : (cs ++ cs2).length = 0 := by rw [List.length_append, lc, lc2, h, this]
            rw [es] at this; simp at this
          · exact h
        rw [this] at lc
        obtain ⟨y, ey⟩ := List.length_eq_one_iff.mp lc
        rw [ey] at es
        have : x = y := by simp at es; exact es.1.symm
        rw [this]
        exact smallS_cps ▸ hcs y (by rw [ey]; simp)
      · rw [esc] at hx
        rcases List.mem_append.mp hx with h | h
        · exact small_sub (smallS_cps ▸ hcs x h)
        · exact signsS_cps ▸ hcs2 x h
    have SK := rawL_stock LO
    have p10 := p9.ex e10
    have kx10' := kx9'.trans (Kx.of e10)
    have nGd : pd ≠ G := p9.np hG
    have nGc : c ≠ G := p9.nc hG
    obtain ⟨kv9, hd9⟩ := p9.dK
    walk_at "st"
    refine rd_forYl (J := Itr 0 n) (H1 := H10) (fun R r => ⟨_, rfl, _, rfl, by omega, by omega, r⟩) (yl_range 0 n) (fun i σ H' => (∃ v4 v12 v13, σ = [some (.ref pd), some (.int n), some (.str stem), some (.str ch), v4, some (.str "abcdefghijklmnopqrstuvwxyz"), some (.str "abcdefghijklmnopqrstuvwxyz0123456789"), some (.int (at' : Int)), some (.int f), some (.int st), some (.str (cutS stem (some (at' : Int)) none)), some (.ref G), v12, v13]) ∧ ∃ zs : List Str, zs.length = i ∧ Row (fun k => fix0 (rawL at' f st stem k)) zs ∧ H' G = some (.lst (zs.map V.str)) ∧ PenK H' pd c (B + 30 + 2 * i) ∧ Kx pd H9 H') (fun _ _ _ _ _ => trivial) ⟨⟨_, _, _, rfl⟩, [], rfl, .nil, h10, p10.mono (by omega), Kx.of e10⟩ (fun i x σ H11 H12 hi hv e yy => ?_) (fun σ H11 hv => ?_)
    · obtain ⟨⟨v4, v12, v13, rfl⟩, zs, lz, R, g11, p11, kx11⟩ := hv
      subst yy
      rw [Int.zero_add]
      refine rd_gname ?_
      have g12 := e _ _ g11
      have p12 := p11.ex e
      have kx12 := kx11.trans (Kx.of e)
      have st64 : CMul st (i : Int) := .inl (by rcases hst with s | s | s | s | s | s | s | s <;> subst s <;> decide)
      have l0 : (0 : Int) < (ch.length : Nat) := by rw [lch]; split <;> omega
      have ml := Int.emod_lt_of_pos (f + st * (i : Int)) l0
      have mn := Int.emod_nonneg (f + st * (i : Int)) (show ((ch.length : Nat) : Int) ≠ 0 by omega)
      walk_at "st"
      refine rd_I st64 ?_
      walk_at "st"
      refine rd_lenS (z := ch) (by rw [lch]; split <;> omega) ?_
      refine rd_I l0 ?_
      obtain ⟨y, hy, gy, hat⟩ := atI_int (xs := ch.cps.toList) mn (by rw [len_cps]; exact ml)
      refine rd_ixS (by rw [lch]; split <;> omega) hat ?_
      have ey : y = if 0 < at' then signsL.getD ((f + st * (i : Int)) % 36).toNat 0 else smallL.getD ((f + st * (i : Int)) % 26).toNat 0 := by
        rw [cch, lch] at gy
        by_cases h : 0 < at'
        · simp only [if_pos h] at gy ⊢
          have g2 : signsL[((f + st * (i : Int)) % 36).toNat]? = some y := gy
          rw [List.getD, g2]; rfl
        · simp only [if_neg h] at gy ⊢
          have g2 : smallL[((f + st * (i : Int)) % 26).toNat]? = some y := gy
          rw [List.getD, g2]; rfl
      have c1 := cutS_length stem none (some (at' : Int))
      have c2 := cutS_length stem (some (at' : Int)) none
      walk_at "st"
      refine rd_slS (by omega) ?_
      walk_at "st"
      refine rd_strs (by rw [one_len]; omega) ?_
      walk_at "st"
      refine rd_lenS (z := cutS stem (some (at' : Int)) none) (by omega) ?_
      walk_at "st"
      refine rd_I (.inl ⟨by omega, by omega⟩) ?_
      walk_at "st"
      refine rd_slS (by omega) ?_
      have c3 := cutS_length (cutS stem (some (at' : Int)) none) none (some (((cutS stem (some (at' : Int)) none).length : Int) - (i : Int) * (if decide ((i : Int) < 2) = true then 1 else 0)))
      refine rd_strs (by rw [app_len, one_len]; omega) ?_
      have er : (cutS stem none (some (at' : Int)) ++ ⟨#[y]⟩) ++ cutS (cutS stem (some (at' : Int)) none) none (some (((cutS stem (some (at' : Int)) none).length : Int) - (i : Int) * (if decide ((i : Int) < 2) = true then 1 else 0))) = rawL at' f st stem i := by rw [ey]; rfl
      rw [er]
      obtain ⟨rc, rr, erc, _, _, rl, _⟩ := rawL_cps LO i
      have lraw : (rawL at' f st stem i).length ≤ 12 := by rw [← len_cps, erc, List.length_cons]; omega
      dsimp only
      generalize hraw : rawL at' f st stem i = raw at lraw ⊢
      refine ⟨fun σ' H' => σ' = [some (.ref pd), some (.int n), some (.str stem), some (.str ch), some (.int i), some (.str "abcdefghijklmnopqrstuvwxyz"), some (.str "abcdefghijklmnopqrstuvwxyz0123456789"), some (.int (at' : Int)), some (.int f), some (.int st), some (.str (cutS stem (some (at' : Int)) none)), some (.ref G), some (.str ⟨#[y]⟩), some (.str (fix0 raw))] ∧ Ex H12 H', ?_, ?_⟩
      · walk_at "st"
        refine ⟨by show 2 ≤ sizeLine; decide, ?_⟩
        intro t2 ht2
        have e13 := Ex.new (o := HO.tup [V.str "new", V.str "found"]) ht2
        have h13 : upd H12 t2 (HO.tup [V.str "new", V.str "found"]) t2 = some (HO.tup [V.str "new", V.str "found"]) := upd_same
        generalize upd H12 t2 (HO.tup [V.str "new", V.str "found"]) = H13 at e13 h13 ⊢
        refine ⟨_, _, rfl, .inr (st_of h13), rfl, rfl, ?_⟩
        rw [if_neg Bool.false_ne_true, inV_two]
        walk_at "st"
        refine ite2 (fun h => ?_) (fun h => ?_)
        · walk_at "st"
          refine rd_strs (by rw [show ("0" : Str).length = 1 by decide +kernel]; omega) ?_
          refine ⟨?_, e13⟩
          rw [fix0_of, if_pos (show isBegB raw = true from h)]
          rfl
        · walk_at "st"
          refine ⟨?_, e13⟩
          rw [fix0_of, if_neg (show ¬ isBegB raw = true from h)]
          rfl
      · rintro σ' H13 ⟨rfl, e13⟩
        have g13 := e13 _ _ g12
        have p13 := p12.ex e13
        have kx13 := kx12.trans (Kx.of e13)
        walk_at "st"
        refine ⟨fun σ' H' => ∃ W : Str, σ' = [some (.ref pd), some (.int n), some (.str stem), some (.str ch), some (.int i), some (.str "abcdefghijklmnopqrstuvwxyz"), some (.str "abcdefghijklmnopqrstuvwxyz0123456789"), some (.int (at' : Int)), some (.int f), some (.int st), some (.str (cutS stem (some (at' : Int)) none)), some (.ref G), some (.str ⟨#[y]⟩), some (.str W)] ∧ (W = fix0 raw ∨ (zs.getLast? = some W ∧ cutS W none (some 1) ≠ "~")) ∧ H' G = some (.lst (zs.map V.str)) ∧ PenK H' pd c (B + 30 + 2 * i + 1) ∧ Kx pd H9 H', ?_, ?_⟩
        · have stay : ∀ H14, PenK H14 pd c (B + 30 + 2 * i + 1) → Kx pd H13 H14 → ∃ W : Str, ([some (.ref pd), some (.int n), some (.str stem), some (.str ch), some (.int i), some (.str "abcdefghijklmnopqrstuvwxyz"), some (.str "abcdefghijklmnopqrstuvwxyz0123456789"), some (.int (at' : Int)), some (.int f), some (.int st), some (.str (cutS stem (some (at' : Int)) none)), some (.ref G), some (.str ⟨#[y]⟩), some (.str (fix0 raw))] : L2.St) = [some (.ref pd), some (.int n), some (.str stem), some (.str ch), some (.int i), some (.str "abcdefghijklmnopqrstuvwxyz"), some (.str "abcdefghijklmnopqrstuvwxyz0123456789"), some (.int (at' : Int)), some (.int f), some (.int st), some (.str (cutS stem (some (at' : Int)) none)), some (.ref G), some (.str ⟨#[y]⟩), some (.str W)] ∧ (W = fix0 raw ∨ (zs.getLast? = some W ∧ cutS W none (some 1) ≠ "~")) ∧ H14 G = some (.lst (zs.map V.str)) ∧ PenK H14 pd c (B + 30 + 2 * i + 1) ∧ Kx pd H9 H14 := fun H14 p14 kx14 => by
            obtain ⟨kvs, hk⟩ := p13.dK
            exact ⟨_, rfl, .inl rfl, kx14.lst hk g13, p14, kx13.trans kx14⟩
          walk_at "st"
          refine ite2 (fun h1 => ?_) (fun h1 => ?_)
          · obtain ⟨z, hz⟩ : ∃ z, zs.getLast? = some z := by
              have h1' : (0 : Int) < (i : Int) := of_decide_eq_true h1
              cases e : zs.getLast? with
              | none => rw [List.getLast?_eq_none_iff] at e; rw [e] at lz; simp at lz; omega
              | some z => exact ⟨z, rfl⟩
            have hzm := List.mem_of_getLast? hz
            have lz13 := (R.mk1 SK (by omega) z hzm).len
            have hat2 : atI (zs.map V.str) (-1) = some (V.str z) := by
              obtain ⟨ys, rfl⟩ := List.getLast?_eq_some_iff.mp hz
              rw [List.map_append]
              exact atI_last _ _
            walk_at "st"
            refine ⟨1, rfl, _, _, _, _, rfl, rfl, sq_of g13, hat2, ?_⟩
            walk_at "st"
            refine rd_slS (by omega) ?_
            walk_at "st"
            refine ite2 (fun h2 => ?_) (fun h2 => ?_)
            · walk_at "st"
              refine ⟨pd, c, _, _, rfl, p13, by omega, by decide, by decide, fun r H14 r0 r1 p14 kx14 => ?_⟩
              obtain ⟨kvs, hk⟩ := p13.dK
              have g14 := kx14.lst hk g13
              walk_at "st"
              refine ite2 (fun h3 => ?_) (fun h3 => ?_)
              · walk_at "st"
                refine ⟨1, rfl, _, _, _, _, rfl, rfl, sq_of g14, hat2, ?_⟩
                refine ⟨z, rfl, .inr ⟨hz, fun q => ?_⟩, g14, p14, kx13.trans kx14⟩
                rw [q] at h2
                exact absurd h2 (by decide +kernel)
              · walk_at "st"
                exact stay _ p14 kx14
            · walk_at "st"
              exact stay _ (p13.mono (by omega)) (Kx.refl _ _)
          · walk_at "st"
            exact stay _ (p13.mono (by omega)) (Kx.refl _ _)
        · rintro σ' H14 ⟨W, rfl, hW, g14, p14, kx14⟩
          have S14 : Row (fun k => fix0 (rawL at' f st stem k)) zs := R
          have hk26 : zs.length < 26 := by omega
          have ebw : fix0 (rawL at' f st stem zs.length) = fix0 raw := by rw [lz, hraw]
          have fr : fix0 (rawL at' f st stem zs.length) ∉ zs ∧ ("~" ++ fix0 (rawL at' f st stem zs.length) : Str) ∉ zs := R.fresh SK hk26
          rw [ebw] at fr
          have WL : W.length ≤ 13 := by
            rcases hW with h | ⟨h, _⟩
            · have g := SK.good i (by omega)
              have := g.cps.2.1
              rw [h, ← hraw]; omega
            · have := (R.mk1 SK (by omega) W (List.mem_of_getLast? h)).len
              omega
          have lzs : (zs.map V.str).length < sizeLine := Nat.lt_of_le_of_lt (show _ ≤ 100 by rw [List.length_map]; omega) (by decide)
          have done : ∀ (H15 : Hp) (z : Str), H15 G = some (.lst (zs.map V.str)) → PenK H15 pd c (B + 30 + 2 * i + 2) → Kx pd H9 H15 → Row (fun k => fix0 (rawL at' f st stem k)) (zs ++ [z]) →
              ∃ zs' : List Str, zs'.length = i + 1 ∧ Row (fun k => fix0 (rawL at' f st stem k)) zs' ∧ upd H15 G (.lst (zs.map V.str ++ [V.str z])) G = some (.lst (zs'.map V.str)) ∧ PenK (upd H15 G (.lst (zs.map V.str ++ [V.str z]))) pd c (B + 30 + 2 * (i + 1)) ∧ Kx pd H9 (upd H15 G (.lst (zs.map V.str ++ [V.str z]))) := fun H15 z g15 p15 kx15 R15 =>
            ⟨zs ++ [z], by simp [lz], R15, by rw [upd_same, List.map_append]; rfl, (p15.wr nGd nGc).mono (by omega), kx15.mut hG⟩
          have tl : ("~" : Str).length + W.length ≤ 100000 := by rw [tilde_len]; omega
          walk_at "st"
          refine rd_tyL (sq_of g14) ?_
          walk_at "st"
          refine ⟨_, _, rfl, .inl (sq_of g14), rfl, flat_strs _, ?_⟩
          rw [inV_strs, if_pos rfl]
          walk_at "st"
          by_cases hin : W ∈ zs
          · rw [decide_eq_true hin]
            walk_at "st"
            refine rd_strs tl ?_
            dsimp only
            walk_at "st"
            refine rd_append g14 lzs ?_
            refine ⟨⟨_, _, _, rfl⟩, done _ _ g14 (p14.mono (by omega)) kx14 ?_⟩
            rcases hW with h | ⟨h, h2⟩
            · exact absurd (h ▸ hin) fr.1
            · exact R.again SK hk26 h h2
          · have hWf : W = fix0 raw := by
              rcases hW with h | ⟨h, _⟩
              · exact h
              · exact absurd (List.mem_of_getLast? h) hin
            rw [decide_eq_false hin]
            walk_at "st"
            refine ⟨pd, c, _, _, rfl, p14, by omega, by decide, by decide, fun r H15 r0 r1 p15 kx15 => ?_⟩
            obtain ⟨kvs, hk⟩ := p14.dK
            have g15 := kx15.lst hk g14
            walk_at "st"
            refine ite2 (fun h3 => ?_) (fun h3 => ?_)
            · walk_at "st"
              refine rd_append g15 lzs ?_
              refine ⟨⟨_, _, _, rfl⟩, done _ _ g15 p15 (kx14.trans kx15) ?_⟩
              rw [hWf, ← ebw]
              exact R.plain SK hk26
            · walk_at "st"
              refine rd_strs tl ?_
              dsimp only
              walk_at "st"
              refine rd_append g15 lzs ?_
              refine ⟨⟨_, _, _, rfl⟩, done _ _ g15 p15 (kx14.trans kx15) ?_⟩
              rw [hWf, ← ebw]
              exact R.back SK hk26
    · obtain ⟨⟨v4, v12, v13, rfl⟩, zs, lz, R, g11, p11, kx11⟩ := hv
      walk_at "st"
      have hG0 : H G = none := by
        refine kx9'.free ?_ hG
        intro e; exact nGd e.symm
      refine k zs G H11 ⟨lz, R.nd, R.mk1 SK (by omega)⟩ hG0 g11 (p11.mono (by omega)) (kx9'.trans kx11)
end


section
variable {P : Program} {w : World} {K : PySem.W.Frag} {mg : Str → Option Value} {base : Heap} {a : Ad}
/-! ### counts -/
def spBeg : Sp := fun us H Q _ => ∃ (pd c : Addr) (B : Nat), us = [.ref pd] ∧ PenK H pd c B ∧ B < 600000000 ∧ ∀ b H', isBegB b = true → PenK H' pd c (B + 1) → Kx pd H H' → Q (.str b) H'
theorem c__law_beginning (T : Txt P K mg a) : Cal P w K mg base 2 "_law_beginning" ["_law_pen_here"] spBeg := by
  obtain ⟨fd, F, b⟩ := T.F__law_beginning
  refine ⟨_, _, F.ok sc__law_beginning (fun vs H Q E h => ?_) (fun cdv A outer s H us Q E hr h => ?_), T.g__law_beginning, F.kp, b⟩
  · obtain ⟨pd, c, B, rfl, _⟩ := h; rfl
  · obtain ⟨pd, c, B, rfl, hp, hB, k⟩ := h
    refine ⟨_, (pss_one (ps_ret (pe_ix ix_list (pe_lst (pa_cons pe_str (pa_cons pe_str pa_nil))) (pe_callC (c__law_draw T) hr (pa_cons (pv 0) (pa_cons pe_int pa_nil))) (fun _ _ => rfl)))), ?_⟩
    walk_at "st"
    refine ⟨by show 2 ≤ sizeLine; decide, ?_⟩
    intro o1 ho1
    have e2 := Ex.new (o := HO.lst [V.str "new", V.str "found"]) ho1
    have h2 : upd H o1 (HO.lst [V.str "new", V.str "found"]) o1 = some (HO.lst [V.str "new", V.str "found"]) := upd_same
    generalize upd H o1 (HO.lst [V.str "new", V.str "found"]) = H2 at e2 h2 ⊢
    walk_at "st"
    have p2 := hp.ex e2
    refine ⟨pd, c, _, _, rfl, p2, by omega, by decide, by decide, fun r H1 r0 r1 p1 kx1 => ?_⟩
    obtain ⟨kv, hd⟩ := p2.dK
    obtain ⟨v, hv, _, hat⟩ := atI_int (xs := [V.str "new", V.str "found"]) r0 (by show r < 2; exact r1)
    refine ⟨o1, _, _, _, rfl, rfl, sq_of (kx1.lst hd h2), hat, ?_⟩
    simp only [List.mem_cons, List.not_mem_nil, or_false] at hv
    rcases hv with rfl | rfl
    · exact k _ _ (by decide +kernel) p1 ((Kx.of e2).trans kx1)
    · exact k _ _ (by decide +kernel) p1 ((Kx.of e2).trans kx1)
end


section
variable {P : Program} {w : World} {K : PySem.W.Frag} {mg : Str → Option Value} {base : Heap} {a : Ad}
def spJoined (K : PySem.W.Frag) : Sp := fun us H Q _ => ∃ r vs rs, us = [.ref r] ∧ H r = some (.lst vs) ∧ PR K H vs rs ∧ vs.length ≤ 10000 ∧ (∀ x ∈ rs, PyData.strOk x.1 = true) ∧
  ∀ D ts H', H D = none → Ex H H' → H' D = some (.lst ts) → PT H' ts (joinR (posR rs)) → Q (.ref D) H'
theorem c__law_joined (T : Txt P K mg a) : Cal P w K mg base 1 "_law_joined" ["_law_runs"] (spJoined K) := by
  obtain ⟨fd, F, b⟩ := T.F__law_joined
  refine ⟨_, _, F.ok sc__law_joined (fun vs H Q E h => ?_) (fun cdv A outer s H us Q E hr h => ?_), T.g__law_joined, F.kp, b⟩
  · obtain ⟨r, vs, rs, rfl, _⟩ := h
    rfl
  · obtain ⟨r, vs, rs, rfl, hr0, pr, big, so, k⟩ := h
    have lr := pr.len
    · refine ⟨_, (pss_cons (ps_set (i := 1) sc__law_joined.nd rfl (by first | exact Or.inl rfl | exact Or.inr rfl) (pe_lst pa_nil))
  (pss_cons (ps_for PassesOwn.never (by rfl) (pi_list (pv 0)) (pg_tup rfl (pgs_cons (pg_name (i := 2) sc__law_joined.nd rfl (by first | exact Or.inl rfl | exact Or.inr rfl)) (pgs_cons (pg_name (i := 3) sc__law_joined.nd rfl (by first | exact Or.inl rfl | exact Or.inr rfl)) pgs_nil)))
    (pss_one (ps_if (PW.pt (pw_and (pt_cmpR op_gt (pv 3) pe_int (by rfl)) (pw_and (pt_cmpR (op_neD hr.units) (pv 1) (pe_lst pa_nil) (by rfl)) (pw_and1 (pt_cmpR op_eq (pe_ix ix_tup (pe_ix ix_list (pv 1) (pe_un un_neg pe_int) (fun _ _ => rfl)) pe_int (fun _ _ => rfl)) (pv 2) (by rfl)))))) (pss_one (ps_asg (pe_tup (pa_cons (pv 2) (pa_cons (pe_op op_add (pe_ix ix_tup (pe_ix ix_list (pv 1) (pe_un un_neg pe_int) (fun _ _ => rfl)) pe_int (fun _ _ => rfl)) (pv 3)) pa_nil))) (pg_sub (pv 1) (pe_un un_neg pe_int) set_list))) (pss_one (ps_if (pt_cmpR op_gt (pv 3) pe_int (by rfl)) (pss_one (ps_expr (pe_bm PySem.F.plainAttrs_list PySem.F.slot_list_append PySem.F.type_list_append mt_append (pv 1) (pa_cons (pe_tup (pa_cons (pv 2) (pa_cons (pv 3) pa_nil))) pa_nil)))) pss_nil)))))
  (pss_one (ps_ret (pv 1))))), ?_⟩
      walk_at "st"
      refine ⟨by show 0 ≤ sizeLine; decide, ?_⟩
      intro D hD
      have e1 := Ex.new (o := HO.lst []) hD
      have h1 : upd H D (HO.lst []) D = some (HO.lst []) := upd_same
      generalize upd H D (HO.lst []) = H1 at e1 h1 ⊢
      walk_at "st"
      refine rd_forYl (J := Itl K r) (H1 := H1) (fun R q => ⟨_, rfl, r, rfl, ⟨_, sq_of (e1 _ _ hr0)⟩, q⟩) (yl_list vs) (fun i σ H' => ∃ v2 v3 ts, σ = [some (.ref r), some (.ref D), v2, v3] ∧ Ex H H' ∧ H' D = some (.lst ts) ∧ PT H' ts (joinR (posR (rs.take i)))) (fun i σ H' _ p => ?_) ⟨none, none, [], rfl, e1, h1, .nil⟩ (fun i y σ H2 H3 hi p e yy => ?_) (fun σ H' p => ?_)
      · obtain ⟨_, _, _, _, e, _⟩ := p
        exact sq_of (e _ _ hr0)
      · obtain ⟨v2, v3, ts, rfl, e2, h2, q2⟩ := p
        have e3 := e2.trans e
        obtain ⟨⟨z, n⟩, p, hri, rfl, sp⟩ := (pr.ex e3).get yy
        have q3 := q2.ex e
        have h3 := e _ _ h2
        have tk0 : rs.take (i + 1) = rs.take i ++ [(z, n)] := by rw [List.take_add_one, hri]; rfl
        have lts : ts.length ≤ 10000 := by
          have := q2.len
          have h := joinR_len (posR (rs.take i))
          have h' := posR_len (rs.take i)
          rw [List.length_take] at h'
          omega
        refine gT2 rfl sp ?_
        have sots : ∀ x ∈ joinR (posR (rs.take i)), PyData.strOk x.1 = true := joinR_mem (C := fun x => PyData.strOk x = true) (posR (rs.take i)) [] (fun x hx => so x (List.mem_of_mem_take (List.mem_filter.mp hx).1)) (by simp)
        walk_at "st"
        by_cases n1 : 0 < n
        case neg =>
          rw [decide_eq_false n1]
          walk_at "st"
          rw [decide_eq_false n1]
          walk_at "st"
          refine ⟨_, _, ts, rfl, e3, h3, ?_⟩
          rw [tk0, posR_snoc, if_neg n1]
          exact q3
        have tk : posR (rs.take (i + 1)) = posR (rs.take i) ++ [(z, n)] := by rw [tk0, posR_snoc, if_pos n1]
        rw [decide_eq_true n1]
        walk_at "st"
        refine ⟨by show 0 ≤ sizeLine; decide, ?_⟩
        intro em hem
        have e4 := Ex.new (o := HO.lst []) hem
        have h4 : upd H3 em (HO.lst []) em = some (HO.lst []) := upd_same
        generalize upd H3 em (HO.lst []) = H4 at e4 h4 ⊢
        have q4 := q3.ex e4
        refine ⟨.list _, .list [], .lst (sq_of (e4 _ _ h3)) q4.pr, .lst (sq_of h4) .nil, shaped_pL _ sots, by decide +kernel, ?_⟩
        rw [eqv_pnilL]
        walk_at "st"
        have e04 := e3.trans e4
        have app : joinR (posR (rs.take (i + 1))) = joinR (posR (rs.take i)) ++ [(z, n)] → ∀ q, H4 q = none → ∃ v2 v3 ts', [some (V.ref r), some (V.ref D), some (V.str z), some (V.int n)] = [some (.ref r), some (.ref D), v2, v3] ∧ Ex H (upd (upd H4 q (.tup [.str z, .int n])) D (.lst (ts ++ [.ref q]))) ∧ (upd (upd H4 q (.tup [.str z, .int n])) D (.lst (ts ++ [.ref q]))) D = some (.lst ts') ∧ PT (upd (upd H4 q (.tup [.str z, .int n])) D (.lst (ts ++ [.ref q]))) ts' (joinR (posR (rs.take (i + 1)))) := fun ej q hq => by
          have e5 := Ex.new (o := HO.tup [.str z, .int n]) hq
          have hD5 : upd H4 q (.tup [.str z, .int n]) D = some (.lst ts) := e5 _ _ (e4 _ _ h3)
          have k5 : Kt (upd H4 q (.tup [.str z, .int n])) (upd (upd H4 q (.tup [.str z, .int n])) D (.lst (ts ++ [.ref q]))) := Kt.lst hD5
          refine ⟨_, _, ts ++ [.ref q], rfl, Ex.mut (e04.trans e5) hD, upd_same, ?_⟩
          rw [ej]
          exact ((q4.ex e5).kt k5).app (.cons ((k5 _).1 _ upd_same) .nil)
        have lsz : ts.length < sizeLine := Nat.lt_of_le_of_lt lts (by decide)
        by_cases hts : ts = []
        · have hj : joinR (posR (rs.take i)) = [] := by
            have := q2.len
            rw [hts] at this
            exact List.length_eq_zero_iff.mp this.symm
          rw [hj, show (!([] : List (Str × Int)).isEmpty) = false from rfl]
          walk_at "st"
          rw [decide_eq_true n1]
          walk_at "st"
          refine rd_tyL (sq_of (e4 _ _ h3)) ?_
          walk_at "st"
          refine ⟨by show 2 ≤ sizeLine; decide, fun q hq => ?_⟩
          have hD5 := (Ex.new (o := HO.tup [.str z, .int n]) hq) _ _ (e4 _ _ h3)
          refine rd_nil ?_
          refine rd_append hD5 lsz ?_
          exact app (by rw [tk, joinR_snoc, hj]; rfl) q hq
        · obtain ⟨ts0, p0, js, ⟨y, m⟩, ets, ejs, pr0, d0⟩ := q4.snoc hts
          have s0 := st_of (K := K) d0
          have at1 : atI ts (-1) = some (V.ref p0) := by rw [ets]; exact atI_last _ _
          rw [ejs, show (!(js ++ [(y, m)]).isEmpty) = true by simp]
          have g4 := e4 _ _ h3
          walk_at "st"
          refine ⟨1, rfl, D, ts, _, _, rfl, rfl, sq_of g4, at1, ?_⟩
          walk_at "st"
          refine ⟨p0, _, _, _, rfl, rfl, s0, atI_nat (j := 0) rfl, ?_⟩
          walk_at "st"
          by_cases hy : y = z
          · rw [decide_eq_true (congrArg V.str hy)]
            walk_at "st"
            refine rd_asgG ?_
            walk_at "st"
            refine ⟨1, rfl, D, ts, _, _, rfl, rfl, sq_of g4, at1, ?_⟩
            walk_at "st"
            refine ⟨p0, _, _, _, rfl, rfl, s0, atI_nat (j := 1) rfl, ?_⟩
            walk_at "st"
            refine ⟨by show 2 ≤ sizeLine; decide, ?_⟩
            intro q hq
            have e5 := Ex.new (o := HO.tup [V.str z, V.int (m + n)]) hq
            have h5 : upd H4 q (HO.tup [V.str z, V.int (m + n)]) q = some (HO.tup [V.str z, V.int (m + n)]) := upd_same
            generalize upd H4 q (HO.tup [V.str z, V.int (m + n)]) = H5 at e5 h5 ⊢
            show tVar 1 _ _ _
            walk_at "st"
            have g5 := e5 _ _ g4
            have lt : 0 < ts.length := List.length_pos_iff.mpr hts
            refine ⟨1, rfl, D, ts, -1, ts.length - 1, rfl, rfl, g5, ?_, ?_⟩
            · unfold ixN
              rw [if_neg (by decide), if_pos (by omega)]
              congr 1; omega
            have k5 : Kt H5 (upd H5 D (.lst (ts.set (ts.length - 1) (.ref q)))) := Kt.lst g5
            refine ⟨_, _, ts.set (ts.length - 1) (.ref q), rfl, Ex.mut (e04.trans e5) hD, upd_same, ?_⟩
            rw [tk, joinR_snoc, ejs, joinStep_snoc, if_pos hy, ets]
            have : (ts0 ++ [V.ref p0]).set ((ts0 ++ [V.ref p0]).length - 1) (V.ref q) = ts0 ++ [V.ref q] := by simp
            rw [this]
            rw [ets] at k5
            rw [this] at k5
            exact ((pr0.ex e5).kt k5).app (.cons ((k5 _).1 _ h5) .nil)
          · rw [decide_eq_false (fun h => hy (V.str.inj h))]
            walk_at "st"
            rw [decide_eq_true n1]
            walk_at "st"
            refine rd_tyL (sq_of g4) ?_
            walk_at "st"
            refine ⟨by show 2 ≤ sizeLine; decide, fun q hq => ?_⟩
            have hD5 := (Ex.new (o := HO.tup [.str z, .int n]) hq) _ _ g4
            refine rd_nil ?_
            refine rd_append hD5 lsz ?_
            exact app (by rw [tk, joinR_snoc, ejs, joinStep_snoc, if_neg hy]) q hq
      · obtain ⟨v2, v3, ts, rfl, e2, h2, q2⟩ := p
        walk_at "st"
        rw [List.take_of_length_le (by omega)] at q2
        exact k D ts _ hD e2 h2 q2
end


section
variable {P : Program} {w : World} {K : PySem.W.Frag} {mg : Str → Option Value} {base : Heap} {a : Ad}
theorem flat_at {rs : List (Str × Int)} {i : Nat} {z : Str} {n : Int} (h : rs[i]? = some (z, n)) : (flatR (rs.take i)).length + n.toNat ≤ (flatR rs).length := by
  have tk : rs.take (i + 1) = rs.take i ++ [(z, n)] := by rw [List.take_add_one, h]; rfl
  have h1 : (flatR (rs.take (i + 1))).length ≤ (flatR rs).length := by
    have : flatR rs = flatR (rs.take (i + 1)) ++ flatR (rs.drop (i + 1)) := by rw [← flatR_app, List.take_append_drop]
    rw [this, List.length_append]; omega
  rw [tk, flatR_app, List.length_append] at h1
  have : (flatR [(z, n)]).length = n.toNat := by simp [flatR]
  omega
theorem nd_le : ∀ (xs ws : List Str), xs.Nodup → (∀ x ∈ xs, x ∈ ws) → xs.length ≤ ws.length
  | [], _, _, _ => Nat.zero_le _
  | x :: xs, ws, h, m => by
    obtain ⟨h1, h2⟩ := List.nodup_cons.mp h
    have ih := nd_le xs (ws.erase x) h2 fun y hy => (List.mem_erase_of_ne (fun q : y = x => h1 (by rw [← q]; exact hy))).mpr (m y (List.mem_cons_of_mem _ hy))
    have mx := m x (List.mem_cons_self ..)
    rw [List.length_erase_of_mem mx] at ih
    have : 0 < ws.length := List.length_pos_of_mem mx
    simp only [List.length_cons]
    omega
def qz (i : Nat) : Str := "~q" ++ Str.ofString (toString (0 + (i : Int)))
def qzs : List Str := (List.range 13).map qz
theorem qz_ok : (qzs.all fun z => isLetterB z && PyData.strOk z && decide (z.length ≤ 100)) = true ∧ qzs.Nodup := by decide +kernel
/-! ### word, as_runs, plain, free, at, all -/
def spWord (a : Ad) (K : PySem.W.Frag) : Sp := fun us H Q E => ∃ p l b rs, us = [.ref p] ∧ HisAt a K H p l b rs ∧ (∀ r ∈ rs, 1 ≤ r.2) ∧ rs.length ≤ 400 ∧
  (sumL rs ≤ 2000 → ∀ t o H', Ex H H' → o.dict = none → H' t = some (.frz o (.tup ((flatR rs).map V.str))) → Q (.ref t) H') ∧ (2000 < sumL rs → ∀ d H', H d = none → Ex H H' → H' d = some (.xd [("size", .int (sumL rs))]) → E (.ref a.TooLong) (some d) H')
theorem c_History_word (T : Txt P K mg a) : MthX P w K mg base 3 a.History "word" ["self"] (spWord a K) := by
  obtain ⟨fd, F, b⟩ := T.F_History_word
  refine ⟨T.cl_History, _, _, T.m_History_word, F.okX sc_History_word (fun vs H Q E h => ?_) (fun cdv A outer s H us Q E hr h => ?_), b⟩
  · obtain ⟨p, l, b, rs, rfl, _⟩ := h
    rfl
  · obtain ⟨p, l, b, rs, rfl, ⟨dp, tp, op, xs, p1, p2, p3, p4⟩, pos, lrs, kQ, kE⟩ := h
    refine ⟨_, (pss_cons (ps_if (pt_cmpR op_gt (pe_fld (pv 0) rfl) (pe_gint T.g_MOST_WORD) (by rfl)) (pss_one (ps_raiseX (x_TooLong T) hr (takes_of rfl rfl rfl rfl) (pa_cons (pe_fld (pv 0) rfl) pa_nil))) pss_nil)
  (pss_one (ps_ret (pe_callTy call_tuple_frz (by rfl) T.n_tuple (by decide +kernel) (pa_cons (pe_lc2 (own := [("letter", 2), ("count", 3), ("step", 1)]) (vs1 := [1]) (by rfl) sc_History_word.nd (pi_tup (pe_fld (pv 0) rfl)) (blkOk_by (own := [("letter", 2), ("count", 3), ("step", 1)]) (N := N_History_word) (sc := defScope s_History_word) (by decide +kernel)) (by decide) (fun _ _ _ _ _ => (pg_tupK (K := K) (n := 2) rfl (pgs_cons (pg_name (i := 2) sc_History_word.nd rfl (by first | exact Or.inl rfl | exact Or.inr rfl)) (pgs_cons (pg_name (i := 3) sc_History_word.nd rfl (by first | exact Or.inl rfl | exact Or.inr rfl)) pgs_nil)))) (fun _ _ _ _ _ => pts_nil) (fun _ _ _ _ _ => (pi_range1 (by rfl) T.n_range (pa_cons (pv 3) pa_nil))) (fun _ _ _ _ _ => (pg_name (i := 1) sc_History_word.nd rfl (by first | exact Or.inl rfl | exact Or.inr rfl))) (fun _ _ _ _ _ => pts_nil) (fun _ _ _ _ _ => (pv 2))) pa_nil))))), ?_⟩
    have lx := p4.len
    have fl := flat_len rs pos
    walk_at "st"
    refine rd_fldAt p1 T.cl_History T.na_History_size rfl ?_
    walk_at "st"
    refine ite2 (fun h => ?_) (fun h => ?_)
    · have h0 := of_decide_eq_true h
      walk_at "st"
      refine rd_fldAt p1 T.cl_History T.na_History_size rfl ?_
      walk_at "st"
      exact rz_TooLong (kE h0)
    have h0 : sumL rs ≤ 2000 := Int.not_lt.mp fun z => h (decide_eq_true z)
    walk_at "st"
    refine rd_lc2Y (J := Itt K tp) (H1 := H) (fun R q => ?_) (yl_tup xs) (fun D i H' => H D = none ∧ Ex H H' ∧ H' D = some (.lst ((flatR (rs.take i)).map V.str))) (fun D i H' _ p => st_frz (p.2.1 _ _ p2)) (fun D hD => ⟨hD, Ex.new hD, upd_same⟩) (fun D i y H5 H6 hi p e yy => ?_) (fun D H5 p => ?_)
    · refine ⟨_, rfl, ?_⟩
      refine rd_fldAt p1 T.cl_History T.na_History_runs rfl ?_
      exact ⟨tp, rfl, ⟨_, st_frz p2⟩, q⟩
    · obtain ⟨hD, e5, g5⟩ := p
      have e6 := e5.trans e
      obtain ⟨⟨z, n⟩, q, hri, rfl, sp⟩ := (p4.ex e6).get yy
      have hn : 1 ≤ n := pos _ (List.mem_of_getElem? hri)
      have tk : rs.take (i + 1) = rs.take i ++ [(z, n)] := by rw [List.take_add_one, hri]; rfl
      have fb := flat_at hri
      refine gT2 rfl sp ⟨rfl, ?_⟩
      walk_at "st"
      refine ⟨by show _ ≤ n; omega, by show n < _; omega, ?_⟩
      refine lc_in (yl_range 0 n.toNat) (fun j H' => H D = none ∧ Ex H H' ∧ H' D = some (.lst ((flatR (rs.take i) ++ List.replicate j z).map V.str))) (fun _ _ _ _ => trivial) ⟨hD, e6, by rw [List.replicate_zero, List.append_nil]; exact e _ _ g5⟩ (fun j x H7 H8 hj p e8 yy8 => ?_) (fun H7 p => ?_)
      · obtain ⟨_, e7, g7⟩ := p
        refine rd_gname ?_
        refine ⟨rfl, ?_⟩
        walk_at "st"
        refine ⟨_, e8 _ _ g7, Nat.lt_of_le_of_lt (show _ ≤ 10000 from ?_) (by decide), hD, Ex.mut (e7.trans e8) hD, ?_⟩
        · rw [List.length_map, List.length_append, List.length_replicate]; omega
        · rw [upd_same, List.replicate_succ', ← List.append_assoc, List.map_append (l₁ := flatR (rs.take i) ++ List.replicate j z)]; rfl
      · obtain ⟨_, e7, g7⟩ := p
        refine ⟨hD, e7, ?_⟩
        rw [g7, tk, flatR_app]
        show _ = some (HO.lst ((_ ++ (List.replicate n.toNat z ++ [])).map V.str))
        rw [List.append_nil]
    · obtain ⟨hD, e5, g5⟩ := p
      rw [List.take_of_length_le (by omega)] at g5
      walk_at "st"
      refine ⟨D, _, rfl, .inl ⟨sq_of g5, fun t o ht ho => ?_⟩⟩
      exact kQ h0 t o _ (e5.trans (Ex.new ht)) ho upd_same
def spAsRuns (K : PySem.W.Frag) : Sp := fun us H Q _ => ∃ r ws, us = [.ref r] ∧ H r = some (.lst (ws.map V.str)) ∧ ws.length ≤ 10000 ∧ (∀ x ∈ ws, PyData.strOk x = true) ∧
  ∀ D ts H', H D = none → Ex H H' → H' D = some (.lst ts) → PT H' ts (joinR (unitR ws)) → Q (.ref D) H'
theorem c__law_as_runs (T : Txt P K mg a) : Cal P w K mg base 2 "_law_as_runs" ["_law_word"] (spAsRuns K) := by
  obtain ⟨fd, F, b⟩ := T.F__law_as_runs
  refine ⟨_, _, F.ok sc__law_as_runs (fun vs H Q E h => ?_) (fun cdv A outer s H us Q E hr h => ?_), T.g__law_as_runs, F.kp, b⟩
  · obtain ⟨r, ws, rfl, _⟩ := h; rfl
  · obtain ⟨r, ws, rfl, hr0, big, so, k⟩ := h
    refine ⟨_, (pss_one (ps_ret (pe_callC (c__law_joined T) hr (pa_cons (pe_lc (own := [("_law_letter", 1)]) (by rfl) sc__law_as_runs.nd (pi_list (pv 0)) (blkOk_by (own := [("_law_letter", 1)]) (N := N__law_as_runs) (sc := defScope s__law_as_runs) (by decide +kernel)) (fun _ _ _ _ _ => (pg_name (i := 1) sc__law_as_runs.nd rfl (by first | exact Or.inl rfl | exact Or.inr rfl))) (fun _ _ _ _ _ => pts_nil) (fun _ _ _ _ _ => (pe_tup (pa_cons (pv 1) (pa_cons pe_int pa_nil))))) pa_nil)))), ?_⟩
    walk_at "st"
    refine rd_lcYl (J := Itl K r) (H1 := H) (fun R q => ⟨_, rfl, r, rfl, ⟨_, sq_of hr0⟩, q⟩) (yl_list (ws.map V.str)) (fun D i H' => H D = none ∧ Ex H H' ∧ ∃ ts, H' D = some (.lst ts) ∧ PR K H' ts (unitR (ws.take i))) (fun D i H' _ p => sq_of (p.2.1 _ _ hr0)) (fun D hD => ⟨hD, Ex.new hD, [], upd_same, .nil⟩) (fun D i y H5 H6 hi p e yy => ?_) (fun D H5 p => ?_)
    · obtain ⟨hD, e5, ts, g5, pt⟩ := p
      have e6 := e5.trans e
      rw [List.getElem?_map] at yy
      obtain ⟨z, hz, rfl⟩ := Option.map_eq_some_iff.mp yy
      refine ⟨rfl, ?_⟩
      walk_at "st"
      refine ⟨by show 2 ≤ sizeLine; decide, ?_⟩
      intro q hq
      have e7 := Ex.new (o := HO.tup [V.str z, V.int 1]) hq
      have h7 : upd H6 q (HO.tup [V.str z, V.int 1]) q = some (HO.tup [V.str z, V.int 1]) := upd_same
      generalize upd H6 q (HO.tup [V.str z, V.int 1]) = H7 at e7 h7 ⊢
      have g7 := e7 _ _ (e _ _ g5)
      have lt := pt.len
      unfold unitR at lt
      rw [List.length_map, List.length_take] at lt
      have k8 : Kt H7 (upd H7 D (.lst (ts ++ [.ref q]))) := Kt.lst g7
      refine ⟨_, g7, Nat.lt_of_le_of_lt (show _ ≤ 10000 by omega) (by decide), hD, Ex.mut (e6.trans e7) hD, _, upd_same, ?_⟩
      rw [List.take_add_one, hz]
      show PR K _ _ (unitR (ws.take i ++ [z]))
      unfold unitR
      rw [List.map_append]
      exact (((pt.ex e).ex e7).kt k8).app (.cons (pr_one (sqt_kt (st_of h7) k8)) .nil)
    · obtain ⟨hD, e5, ts, g5, pt⟩ := p
      rw [List.length_map, List.take_of_length_le (Nat.le_refl _)] at pt
      have lt := pt.len
      unfold unitR at lt
      rw [List.length_map] at lt
      walk_at "st"
      refine ⟨D, ts, _, rfl, g5, pt, by omega, fun x hx => ?_, fun D2 us H6 hD2 e6 h6 p6 => ?_⟩
      · obtain ⟨z, hz, rfl⟩ := List.mem_map.mp hx
        exact so z hz
      · rw [posR_id (unit_pos ws)] at p6
        exact k D2 us H6 (fresh_back e5 hD2) (e5.trans e6) h6 p6
def spPlain (K : PySem.W.Frag) : Sp := fun us H Q _ => ∃ r vs rs, us = [.ref r] ∧ H r = some (.lst vs) ∧ PR K H vs rs ∧ (∀ r ∈ rs, 1 ≤ r.2) ∧ sumL rs ≤ 5000 ∧ ∀ D H', H D = none → Ex H H' → H' D = some (.lst ((flatR rs).map V.str)) → Q (.ref D) H'
theorem c__law_plain (T : Txt P K mg a) : Cal P w K mg base 1 "_law_plain" ["_law_runs"] (spPlain K) := by
  obtain ⟨fd, F, b⟩ := T.F__law_plain
  refine ⟨_, _, F.ok sc__law_plain (fun vs H Q E h => ?_) (fun cdv A outer s H us Q E hr h => ?_), T.g__law_plain, F.kp, b⟩
  · obtain ⟨r, vs, rs, rfl, _⟩ := h; rfl
  · obtain ⟨r, vs, rs, rfl, hr0, pr, bd, sm, k⟩ := h
    refine ⟨_, (pss_cons (ps_set (i := 1) sc__law_plain.nd rfl (by first | exact Or.inl rfl | exact Or.inr rfl) (pe_lst pa_nil))
  (pss_cons (ps_for PassesOwn.never (by rfl) (pi_list (pv 0)) (pg_tup rfl (pgs_cons (pg_name (i := 2) sc__law_plain.nd rfl (by first | exact Or.inl rfl | exact Or.inr rfl)) (pgs_cons (pg_name (i := 3) sc__law_plain.nd rfl (by first | exact Or.inl rfl | exact Or.inr rfl)) pgs_nil)))
    (pss_one (ps_set (i := 1) sc__law_plain.nd rfl (by first | exact Or.inl rfl | exact Or.inr rfl) (pe_op op_cat (pv 1) (pe_op op_rep (pe_lst (pa_cons (pv 2) pa_nil)) (pv 3))))))
  (pss_one (ps_ret (pv 1))))), ?_⟩
    have fl := flat_len rs bd
    have lr := pr.len
    walk_at "st"
    refine ⟨by show 0 ≤ sizeLine; decide, ?_⟩
    intro D hD
    have e1 := Ex.new (o := HO.lst []) hD
    have h1 : upd H D (HO.lst []) D = some (HO.lst []) := upd_same
    generalize upd H D (HO.lst []) = H1 at e1 h1 ⊢
    walk_at "st"
    refine rd_forYl (J := Itl K r) (H1 := H1) (fun R q => ⟨_, rfl, r, rfl, ⟨_, sq_of (e1 _ _ hr0)⟩, q⟩) (yl_list vs) (fun i σ H' => ∃ (D : Addr) (v2 v3 : Option V), σ = [some (.ref r), some (.ref D), v2, v3] ∧ H D = none ∧ Ex H H' ∧ H' D = some (.lst ((flatR (rs.take i)).map V.str))) (fun i σ H' _ p => ?_) ⟨D, none, none, rfl, hD, e1, h1⟩ (fun i y σ H2 H3 hi p e yy => ?_) (fun σ H' p => ?_)
    · obtain ⟨_, _, _, _, _, e, _⟩ := p
      exact sq_of (e _ _ hr0)
    · obtain ⟨D, v2, v3, rfl, hD, e2, h2⟩ := p
      have e3 := e2.trans e
      obtain ⟨⟨z, c⟩, q, hri, rfl, sp⟩ := (pr.ex e3).get yy
      have tk : rs.take (i + 1) = rs.take i ++ [(z, c)] := by rw [List.take_add_one, hri]; rfl
      have h3 := e _ _ h2
      refine gT2 rfl sp ?_
      walk_at "st"
      refine ⟨by show 1 ≤ sizeLine; decide, ?_⟩
      intro o1 ho1
      have e4 := Ex.new (o := HO.lst [V.str z]) ho1
      have h4 : upd H3 o1 (HO.lst [V.str z]) o1 = some (HO.lst [V.str z]) := upd_same
      generalize upd H3 o1 (HO.lst [V.str z]) = H4 at e4 h4 ⊢
      walk_at "st"
      have b1 : 1 ≤ c := bd _ (List.mem_of_getElem? hri)
      have fb := flat_at hri
      have b2 : c ≤ 10000 := by omega
      refine ⟨o1, c, [V.str z], rfl, rfl, h4, by show _ ≤ c; omega, by show c < _; omega, by show 1 * c.toNat ≤ sizeLine; exact Nat.le_trans (show _ ≤ 10000 by omega) (by decide), ?_⟩
      intro o2 ho2
      have e5 := Ex.new (o := HO.lst (List.replicate c.toNat [V.str z]).flatten) ho2
      have h5 : upd H4 o2 (HO.lst (List.replicate c.toNat [V.str z]).flatten) o2 = some (HO.lst (List.replicate c.toNat [V.str z]).flatten) := upd_same
      generalize upd H4 o2 (HO.lst (List.replicate c.toNat [V.str z]).flatten) = H5 at e5 h5 ⊢
      refine rd_cat ((e4.trans e5) _ _ h3) h5 (by simp; omega) fun E H6 hE e6 h6 => ?_
      walk_at "st"
      have e36 := (e4.trans e5).trans e6
      refine ⟨E, _, _, rfl, fresh_back (e3.trans (e4.trans e5)) hE, e3.trans e36, ?_⟩
      rw [h6, tk, flatR_app, List.map_append]
      show _ = some (HO.lst (_ ++ List.map V.str (List.replicate c.toNat z ++ [])))
      rw [List.append_nil, List.map_replicate]
      congr 2
      simp
    · obtain ⟨D, v2, v3, rfl, hD, e2, h2⟩ := p
      rw [List.take_of_length_le (by omega)] at h2
      walk_at "st"
      exact k D _ hD e2 h2
def spFree : Sp := fun us H Q _ => ∃ (r : Addr) (ws : List Str), us = [.ref r] ∧ H r = some (.lst (ws.map V.str)) ∧ ws.length ≤ 12 ∧ ∀ z H', z ∉ ws → isLetterB z = true → PyData.strOk z = true → z.length ≤ 100 → Ex H H' → Q (.str z) H'
theorem c__law_free (T : Txt P K mg a) : Cal P w K mg base 1 "_law_free" ["_law_letters_here"] spFree := by
  obtain ⟨fd, F, b⟩ := T.F__law_free
  refine ⟨_, _, F.ok sc__law_free (fun vs H Q E h => ?_) (fun cdv A outer s H us Q E hr h => ?_), T.g__law_free, F.kp, b⟩
  · obtain ⟨r, ws, rfl, _⟩ := h; rfl
  · obtain ⟨r, ws, rfl, hr0, big, k⟩ := h
    refine ⟨_, (pss_one (ps_ret (pe_ix ix_list (pe_lc (own := [("_law_word", 1)]) (by rfl) sc__law_free.nd (pi_list (pe_lc (own := [("_law_k", 2)]) (by rfl) sc__law_free.nd (pi_range1 (by rfl) T.n_range (pa_cons pe_int pa_nil)) (blkOk_by (own := [("_law_k", 2)]) (N := N__law_free) (sc := defScope s__law_free) (by decide +kernel)) (fun _ _ _ _ _ => (pg_name (i := 2) sc__law_free.nd rfl (by first | exact Or.inl rfl | exact Or.inr rfl))) (fun _ _ _ _ _ => pts_nil) (fun _ _ _ _ _ => (pe_op op_add_str pe_str (pe_callTy call_str_int (by rfl) T.n_str (by decide +kernel) (pa_cons (pv 2) pa_nil)))))) (blkOk_by (own := [("_law_word", 1)]) (N := N__law_free) (sc := defScope s__law_free) (by decide +kernel)) (fun _ _ _ _ _ => (pg_name (i := 1) sc__law_free.nd rfl (by first | exact Or.inl rfl | exact Or.inr rfl))) (fun _ _ _ _ _ => pts_one (pt_cmpR (op_notIn_seqK (K := K)) (pv 1) (pv 0) (by rfl))) (fun _ _ _ _ _ => (pv 1))) pe_int (fun _ _ => rfl)))), ?_⟩
    walk_at "st"
    refine rd_lc ?_
    walk_at "st"
    refine rd_lcPure (k := 2) (f := fun i => V.str (qz i)) (J := Itr 0 13) (H1 := H) (fun R q => ⟨_, rfl, by decide, by decide, q⟩) (yl_range 0 13) (fun _ _ => trivial) (by decide) (fun i x H1 hi e1 yy Q' q' => ?_) (fun p H1 hp e1 h1 => ?_)
    · obtain rfl : x = .int (0 + (i : Nat)) := yy
      have l1 : ((0 : Int) + (i : Nat)).natAbs.log2 < 1000 := log2_lt (by omega)
      have l2 := int_text_length_le (k := 1000) (by decide) l1
      walk_at "st"
      refine ⟨by omega, ?_⟩
      refine ⟨_, _, rfl, rfl, ?_, q' _ (Ex.refl _)⟩
      rw [show (Str.ofString (toString ((0 : Int) + (i : Nat)))).length = (toString ((0 : Int) + (i : Nat))).length from PySem.ofString_length _]
      exact Nat.le_trans (show _ ≤ 2000 by show 2 + _ ≤ 2000; omega) (by decide)
    refine ⟨p, rfl, ⟨_, sq_of h1⟩, fun D hD => ?_⟩
    have eqs : (List.range 13).map (fun i => V.str (qz i)) = qzs.map V.str := by unfold qzs; rw [List.map_map]; rfl
    rw [eqs] at h1
    refine lc_yl (yl_list (qzs.map V.str)) (fun i H' => Ex H1 H' ∧ H' D = some (.lst (((qzs.take i).filter fun z => !decide (z ∈ ws)).map V.str))) (fun i H' _ p => sq_of (p.1 _ _ h1)) ⟨Ex.new hD, upd_same⟩ (fun i x H2 H3 hi p e3 yy => ?_) (fun H2 p => ?_)
    · obtain ⟨e2, g2⟩ := p
      rw [List.getElem?_map] at yy
      obtain ⟨z, hz, rfl⟩ := Option.map_eq_some_iff.mp yy
      refine ⟨rfl, ?_⟩
      walk_at "st"
      have tk : qzs.take (i + 1) = qzs.take i ++ [z] := by rw [List.take_add_one, hz]; rfl
      refine ⟨r, _, rfl, .inl (sq_of (e3 _ _ (e2 _ _ (e1 _ _ hr0)))), rfl, by simp [flatV], ?_⟩
      show ∃ c, V.bl (!inV (V.str z) (ws.map V.str)) = V.bl c ∧ _
      rw [inV_strs]
      walk_at "st"
      by_cases m : z ∈ ws
      · rw [decide_eq_true m]
        refine ⟨e2.trans e3, ?_⟩
        rw [e3 _ _ g2, tk, List.filter_append, List.filter_cons_of_neg (by simp [m]), List.filter_nil, List.append_nil]
      · rw [decide_eq_false m]
        walk_at "st"
        refine ⟨_, e3 _ _ g2, Nat.lt_of_le_of_lt (show _ ≤ 13 from ?_) (by decide), Ex.mut (e2.trans e3) hD, ?_⟩
        · rw [List.length_map]
          refine Nat.le_trans (List.length_filter_le _ _) ?_
          rw [List.length_take]
          exact Nat.min_le_right _ _
        · rw [upd_same, tk, List.filter_append, List.filter_cons_of_pos (by simp [m]), List.filter_nil, List.map_append]; rfl
    · obtain ⟨e2, g2⟩ := p
      rw [List.length_map, List.take_of_length_le (Nat.le_refl _)] at g2
      walk_at "st"
      cases hf : qzs.filter (fun z => !decide (z ∈ ws)) with
      | nil =>
        exfalso
        have : qzs.length ≤ ws.length := nd_le qzs ws qz_ok.2 fun x hx => by
          rcases Decidable.em (x ∈ ws) with h | h
          · exact h
          · have : x ∈ qzs.filter (fun z => !decide (z ∈ ws)) := List.mem_filter.mpr ⟨hx, by simp [h]⟩
            rw [hf] at this; cases this
        have l13 : qzs.length = 13 := by unfold qzs; simp
        omega
      | cons z t =>
        rw [hf] at g2
        have hz : z ∈ qzs.filter (fun z => !decide (z ∈ ws)) := by rw [hf]; exact List.mem_cons_self ..
        obtain ⟨hz1, hz2⟩ := List.mem_filter.mp hz
        have ok := List.all_eq_true.mp qz_ok.1 z hz1
        rw [Bool.and_eq_true, Bool.and_eq_true] at ok
        refine ⟨D, _, _, _, rfl, rfl, sq_of g2, atI_nat (j := 0) rfl, ?_⟩
        exact k z H2 (by simpa using hz2) ok.1.1 ok.1.2 (of_decide_eq_true ok.2) (e1.trans e2)
/-! ### h[i] and word, told -/
def spAt (a : Ad) (K : PySem.W.Frag) : Sp := fun us H Q _ => ∃ p l b rs v d, us = [.ref p, v] ∧ HisAt a K H p l b rs ∧ Kd H v ∧ (∀ H1, Ex H H1 → Dp K H1 v d) ∧ ShN d 40 1000000 ∧
  (∀ z, placeR v rs = some z → ∀ t H', Ex H H' → H' t = some (.tup [.str "at", .str z]) → Q (.ref t) H') ∧ (placeR v rs = none → ∀ t H', Ex H H' → H' t = some (.tup [.str "none", .str d.shown]) → Q (.ref t) H')
theorem c__law_at (T : Txt P K mg a) : CalG P w K mg base 5 "_law_at" ["_law_made", "_law_place"] (spAt a K) := by
  obtain ⟨fd, F, b⟩ := T.F__law_at
  refine ⟨_, _, okG0 F sc__law_at (fun vs H Q E h => ?_) (fun cdv A outer s H us Q E gd hr h => ?_), T.g__law_at, F.kp, b⟩
  · obtain ⟨p, l, b, rs, v, d, rfl, _⟩ := h; rfl
  · obtain ⟨p, l, b, rs, v, d, rfl, hp, kd, dp, sh, k1, k2⟩ := h
    refine ⟨_, (pss_one (ps_try_asM rfl rfl sc__law_at.nd takes_none5 (fun W pn xe tk pw => (pss_one (ps_ret (pe_tup (pa_cons pe_str (pa_cons (pe_ixOwnX (c_History___getitem__ T) (sub_History T) hr tk (pv 0) (pv 1)) pa_nil))))))
    (HdsA.cons (i := 2) ⟨by rfl, by decide, .inl T.g_BadPlace⟩ rfl rfl (fun xa oe cls d pn hz hd => (pss_one (ps_ret (pe_tup (pa_cons pe_str (pa_cons (pe_callB (call_reprDK (K := K) gd hr.units) (by rfl) T.n_repr (by decide +kernel) (pa_cons (pe_xf T.xf_BadPlace T.na_BadPlace_place hz hd (pv 2)) pa_nil)) pa_nil)))))) HdsA.nil))), ?_⟩
    have hp' := hp
    obtain ⟨dq, tp, op, xs, p1, p2, p3, p4⟩ := hp'
    walk_at "st"
    refine ⟨p, _, _, rfl, p1, p, l, b, rs, v, rfl, hp, kd, fun z hz H' e => ?_, fun hz d' H' hd e h => ?_⟩
    · refine rd_nil ⟨by show 2 ≤ sizeLine; decide, ?_⟩
      intro t ht
      have e6 := Ex.new (o := HO.tup [V.str "at", V.str z]) ht
      have h6 : upd H' t (HO.tup [V.str "at", V.str z]) t = some (HO.tup [V.str "at", V.str z]) := upd_same
      generalize upd H' t (HO.tup [V.str "at", V.str z]) = H6 at e6 h6 ⊢
      exact k1 z hz t _ (e.trans e6) h6
    · refine ⟨true, T.em_BadPlace_BadPlace, fun _ ea hea => ?_, fun h => by cases h⟩
      walk_at "st"
      refine ⟨_, rfl, rfl, rfl, d', _, _, rfl, h, rfl, ?_⟩
      walk_at "st"
      refine rd_repr (dp _ e) sh ?_
      refine rd_nil ⟨by show 2 ≤ sizeLine; decide, ?_⟩
      intro t ht
      have e6 := Ex.new (o := HO.tup [V.str "none", V.str d.shown]) ht
      have h6 : upd H' t (HO.tup [V.str "none", V.str d.shown]) t = some (HO.tup [V.str "none", V.str d.shown]) := upd_same
      generalize upd H' t (HO.tup [V.str "none", V.str d.shown]) = H6 at e6 h6 ⊢
      exact k2 hz t _ (e.trans e6) h6
def spAll (a : Ad) (K : PySem.W.Frag) : Sp := fun us H Q _ => ∃ p l b rs, us = [.ref p] ∧ HisAt a K H p l b rs ∧ (∀ r ∈ rs, 1 ≤ r.2) ∧ rs.length ≤ 400 ∧
  (sumL rs ≤ 2000 → ∀ t u H', Ex H H' → SqT K H' u ((flatR rs).map V.str) → H' t = some (.tup [.str "word", .ref u]) → Q (.ref t) H') ∧ (2000 < sumL rs → ∀ t H', Ex H H' → H' t = some (.tup [.str "long", .int (sumL rs)]) → Q (.ref t) H')
theorem c__law_all (T : Txt P K mg a) : Cal P w K mg base 4 "_law_all" ["_law_made"] (spAll a K) := by
  obtain ⟨fd, F, b⟩ := T.F__law_all
  refine ⟨_, _, F.ok sc__law_all (fun vs H Q E h => ?_) (fun cdv A outer s H us Q E hr h => ?_), T.g__law_all, F.kp, b⟩
  · obtain ⟨p, l, b, rs, rfl, _⟩ := h; rfl
  · obtain ⟨p, l, b, rs, rfl, hp, pos, lrs, k1, k2⟩ := h
    refine ⟨_, (pss_one (ps_try_asM rfl rfl sc__law_all.nd takes_none5 (fun W pn xe tk pw => (pss_one (ps_ret (pe_tup (pa_cons pe_str (pa_cons (pe_meth0X (c_History_word T) hr tk (pv 0)) pa_nil))))))
    (HdsA.cons (i := 1) ⟨by rfl, by decide, .inl T.g_TooLong⟩ rfl rfl (fun xa oe cls d pn hz hd => (pss_one (ps_ret (pe_tup (pa_cons pe_str (pa_cons (pe_xf T.xf_TooLong T.na_TooLong_size hz hd (pv 1)) pa_nil)))))) HdsA.nil))), ?_⟩
    have hp' := hp
    obtain ⟨dq, tp, op, xs, p1, p2, p3, p4⟩ := hp'
    walk_at "st"
    refine ⟨p, _, _, rfl, p1, rfl, ?_⟩
    walk_at "st"
    refine ⟨p, l, b, rs, rfl, hp, pos, lrs, fun hs u o H' e ho h => ?_, fun hs d H' hd e h => ?_⟩
    · refine rd_nil ⟨by show 2 ≤ sizeLine; decide, ?_⟩
      intro t ht
      have e6 := Ex.new (o := HO.tup [V.str "word", V.ref u]) ht
      have h6 : upd H' t (HO.tup [V.str "word", V.ref u]) t = some (HO.tup [V.str "word", V.ref u]) := upd_same
      generalize upd H' t (HO.tup [V.str "word", V.ref u]) = H6 at e6 h6 ⊢
      exact k1 hs t u _ (e.trans e6) (st_frz (e6 _ _ h)) h6
    · refine ⟨true, T.em_TooLong_TooLong, fun _ ea hea => ?_, fun h => by cases h⟩
      walk_at "st"
      refine ⟨_, rfl, rfl, rfl, d, _, _, rfl, h, rfl, ?_⟩
      walk_at "st"
      refine ⟨by show 2 ≤ sizeLine; decide, ?_⟩
      intro t ht
      have e6 := Ex.new (o := HO.tup [V.str "long", V.int (sumL rs)]) ht
      have h6 : upd H' t (HO.tup [V.str "long", V.int (sumL rs)]) t = some (HO.tup [V.str "long", V.int (sumL rs)]) := upd_same
      generalize upd H' t (HO.tup [V.str "long", V.int (sumL rs)]) = H6 at e6 h6 ⊢
      exact k2 hs t _ (e.trans e6) h6
end


section
variable {P : Program} {w : World} {K : PySem.W.Frag} {mg : Str → Option Value} {base : Heap} {a : Ad}
theorem so_of (s : String) : PyData.strOk (Str.ofString s) = true := by
  rw [Str.ofString_eq_toList]
  unfold PyData.strOk
  rw [Array.all_eq_true']
  intro x hx
  rw [List.mem_toArray, List.mem_map] at hx
  obtain ⟨c, _, rfl⟩ := hx
  have := c.valid
  apply decide_eq_true
  show c.val.toNat < 1114112
  rcases this with h | h <;> omega
theorem log2_big {i : Nat} (h : i < 2 ^ 110) : i.log2 < 1000 := by
  by_cases z : i = 0
  · subst z; decide
  · exact (Nat.log2_lt z).mpr (Nat.lt_trans h (Nat.pow_lt_pow_right (by decide) (by decide)))
theorem shaped_two {x y : Str} (hx : PyData.strOk x = true) (hy : PyData.strOk y = true) : SeqAt.shaped (.tuple [.str x, .str y]) = true := by
  unfold SeqAt.shaped
  simp [PyData.canLay0, PyData.canLayAll0, hx, hy, PyData.depth, PyData.depthAll]
theorem eqv_two (x y : Str) : PyData.eqv (.tuple [.str x, .str y]) (.tuple [.str x, .str y]) = true := by
  simp [PyData.eqv, PyData.eqvAll]
theorem beg_len {b : Str} (h : isBegB b = true) : b.length ≤ 1000 := by
  unfold isBegB at h
  rcases Bool.or_eq_true _ _ ▸ h with q | q
  · rw [of_decide_eq_true q]; decide
  · rw [of_decide_eq_true q]; decide
/-- Letters of a list or a tuple that is right, whatever is wished of errors -/
theorem mk_letE {E : XK} {H : Hp} {l : Addr} {ws : List Str} {R : Addr → Hp → Prop} (h : H l = some (.lst (ws.map V.str)) ∨ ∃ o, H l = some (.frz o (.tup (ws.map V.str))) ∧ o.dict = none) (O : LetOk ws) (q : ∀ x H', H x = none → Ex H H' → LetAt a H' x ws → R x H') :
    ∀ x dx, H x = none → H dx = none → dx ≠ x → spLetInit a [.ref x, .ref l] (upd (upd H dx (.own x)) x (.ins a.Letters dx [])) (fun v H2 => v = .non ∧ R x H2) E := by
  intro x dx hx hdx ne
  have e0 : Ex H (upd (upd H dx (.own x)) x (.ins a.Letters dx [])) := fun b o h => by rw [upd_ne (ne_of_none h hx), upd_ne (ne_of_none h hdx)]; exact h
  have m := O.most
  have n := O.one
  refine ⟨x, dx, l, _, rfl, upd_same, h.imp (e0 _ _) (fun ⟨o, z, d⟩ => ⟨o, e0 _ _ z, d⟩), fun v hv => ?_, ⟨?_, ?_, ?_⟩, fun _ _ _ t o H' ho h1 h2 kx => ⟨rfl, q x H' hx (fun b o h => kx b o (ne_of_none h hx) (e0 b o h)) ⟨dx, t, o, h2, h1, ho, O.so⟩⟩⟩
  · obtain ⟨z, hz, rfl⟩ := List.mem_map.mp hv
    exact .str z (O.short z hz)
  · intro h; rw [List.length_map] at h; omega
  · intro h; rw [List.length_map] at h; omega
  · intro _ j hj hb
    rw [let_good O j hj] at hb; cases hb
theorem last_flat (b : Str) {J : List (Str × Int)} (h : ∀ r ∈ J, 1 ≤ r.2) : ∃ pre, b :: flatR J = pre ++ [lastR b J] := by
  rcases List.eq_nil_or_concat J with rfl | ⟨t, ⟨z, n⟩, rfl⟩
  · exact ⟨[], rfl⟩
  · rw [List.concat_eq_append] at *
    have hn : 1 ≤ n := h (z, n) (by simp)
    have el : lastR b (t ++ [(z, n)]) = z := by unfold lastR; simp
    rw [el, flatR_app]
    obtain ⟨k, hk⟩ : ∃ k : Nat, n.toNat = k + 1 := ⟨n.toNat - 1, by omega⟩
    refine ⟨b :: (flatR t ++ List.replicate k z), ?_⟩
    show b :: (flatR t ++ (List.replicate n.toNat z ++ [])) = _
    rw [hk, List.append_nil, List.replicate_succ']
    simp
theorem lay_strs {ws : List Str} (h : ∀ x ∈ ws, PyData.strOk x = true) : PyData.canLayAll0 (ws.map PyData.str) = true := by
  induction ws with
  | nil => rfl
  | cons w t ih => simp [PyData.canLayAll0, PyData.canLay0, h w (by simp), ih fun x hx => h x (List.mem_cons_of_mem _ hx)]
theorem depth_strs (ws : List Str) : PyData.depthAll (ws.map PyData.str) ≤ 1 := by
  induction ws with
  | nil => simp [PyData.depthAll]
  | cons w t ih => simp [PyData.depthAll, PyData.depth]; exact ih
theorem shaped_word {x : Str} {ws : List Str} (hx : PyData.strOk x = true) (h : ∀ x ∈ ws, PyData.strOk x = true) : SeqAt.shaped (.tuple [.str x, .tuple (ws.map PyData.str)]) = true := by
  have := depth_strs ws
  unfold SeqAt.shaped
  simp [PyData.canLay0, PyData.canLayAll0, hx, lay_strs h, PyData.depth, PyData.depthAll]
  omega
theorem eqv_word {x : Str} {ws : List Str} (hx : PyData.strOk x = true) (h : ∀ x ∈ ws, PyData.strOk x = true) : PyData.eqv (.tuple [.str x, .tuple (ws.map PyData.str)]) (.tuple [.str x, .tuple (ws.map PyData.str)]) = true :=
  SeqAt.eqv_refl _ (by simp [PyData.canLay0, PyData.canLayAll0, hx, lay_strs h])
theorem sh_runs {J : List (Str × Int)} {bb : Str} {n : Int} (lJ : J.length ≤ 20) (hb : isBegB bb = true) (so : ∀ r ∈ J, PyData.strOk r.1 = true ∧ r.1.length ≤ 20 ∧ r.2.natAbs < 2 ^ 40) (hn : n.natAbs < 2 ^ 40) : ShN (.list [.tuple (J.map pairD), .str bb, .int n]) 40 1000000 := by
  have lb : bb.length ≤ 10 ∧ PyData.strOk bb = true := by
    unfold isBegB at hb
    rcases Bool.or_eq_true _ _ ▸ hb with q | q
    · rw [of_decide_eq_true q]; exact ⟨by decide, so_of _⟩
    · rw [of_decide_eq_true q]; exact ⟨by decide, so_of _⟩
  have pr : ShAll 2 2009 (J.map pairD) := ShAll.of fun d hd => by
    obtain ⟨r, hr, rfl⟩ := List.mem_map.mp hd
    obtain ⟨s1, s2, s3⟩ := so r hr
    exact (sh_tuple (m := 2) (k := 1) (n := 1001) (.cons ((sh_str s1).mono (Nat.le_refl _) (by omega)) (.cons (sh_int (log2_lt s3)) .nil)) (by simp)).mono (by decide) (by decide)
  have tp : ShN (.tuple (J.map pairD)) 3 40223 := (sh_tuple (m := 20) pr (by rw [List.length_map]; exact lJ)).mono (by decide) (by decide)
  exact (sh_list (m := 3) (k := 3) (n := 40223) (.cons tp (.cons ((sh_str lb.2).mono (by decide) (by omega)) (.cons ((sh_int (log2_lt hn)).mono (by decide) (by decide)) .nil))) (by simp)).mono (by decide) (by decide)
theorem rd_falsy {tt : TT} {σ : L2.St} {H : Hp} {R : Bool → Hp → Prop} (h : ∀ R' : Bool → Hp → Prop, (∀ H9, Ex H H9 → R' false H9) → tt σ H R') (k : ∀ H9, Ex H H9 → R false H9) : tt σ H R := h R k
theorem rd_lstRg {ta : TE} {σ : L2.St} {H : Hp} {Q : VK} (h : ta σ H fun x H1 => ∃ n, x = .int n ∧ RgOk 0 n ∧ ∀ q, H1 q = none → Q (.ref q) (upd H1 q (.lst (rgV 0 n)))) : tLstRg (tRg1 ta) σ H Q := h
def spRight (a : Ad) (K : PySem.W.Frag) : Sp := fun us H Q _ => ∃ mp lp Li Wd bb J ws fs, us = [.ref mp, .ref Li, .str bb, .ref Wd] ∧ HisAt a K H mp lp bb J ∧ LetAt a H lp ws ∧ H Li = some (.lst (ws.map V.str)) ∧ LetOk ws ∧ (∀ z ∈ ws, z.length ≤ 20) ∧ isBegB bb = true ∧ H Wd = some (.lst (fs.map V.str)) ∧ fs = flatR J ∧ J = joinR (unitR fs) ∧ (∀ r ∈ J, 1 ≤ r.2 ∧ r.1 ∈ ws) ∧ J.length ≤ 20 ∧ fs.length ≤ 5000 ∧ (∀ z ∈ fs, z ∈ ws) ∧
  ∀ H', Ex H H' → Q (.bl true) H'
theorem c__law_is_right (T : Txt P K mg a) : CalG P w K mg base 7 "_law_is_right" ["_law_made", "_law_letters_here", "_law_beginning_here", "_law_word"] (spRight a K) := by
  obtain ⟨fd, F, b⟩ := T.F__law_is_right
  refine ⟨_, _, okG0 F sc__law_is_right (fun vs H Q E h => ?_) (fun cdv A outer s H us Q E gd hr h => ?_), T.g__law_is_right, F.kp, b⟩
  · obtain ⟨mp, lp, Li, Wd, bb, J, ws, fs, rfl, _⟩ := h; rfl
  · obtain ⟨mp, lp, Li, Wd, bb, J, ws, fs, rfl, M0, L0, li0, O, w20, hbb, w0, efs, eJ, okJ, lJ, lfs, mfs, k⟩ := h
    have posJ : ∀ r ∈ J, 1 ≤ r.2 := fun r hr => (okJ r hr).1
    have soJ : ∀ r ∈ J, PyData.strOk r.1 = true := fun r hr => O.so _ (okJ r hr).2
    have sofs : ∀ z ∈ fs, PyData.strOk z = true := fun z hz => O.so _ (mfs z hz)
    have fl := flat_len J posJ
    rw [← efs] at fl
    have lbb := beg_len hbb
    refine ⟨_, (pss_cons (ps_set (i := 4) sc__law_is_right.nd rfl (by first | exact Or.inl rfl | exact Or.inr rfl) (pe_callTy call_tuple_frz (by rfl) T.n_tuple (by decide +kernel) (pa_cons (pe_callC (c__law_as_runs T) hr (pa_cons (pv 3) pa_nil)) pa_nil)))
  (pss_cons (ps_if (pt_cmpR op_ne (pe_callB (call_reprDK (K := K) gd hr.units) (by rfl) T.n_repr (by decide +kernel) (pa_cons (pe_lst (pa_cons (pe_fld (pv 0) rfl) (pa_cons (pe_fld (pv 0) rfl) (pa_cons (pe_fld (pv 0) rfl) pa_nil)))) pa_nil)) (pe_callB (call_reprDK (K := K) gd hr.units) (by rfl) T.n_repr (by decide +kernel) (pa_cons (pe_lst (pa_cons (pv 4) (pa_cons (pv 2) (pa_cons (pe_callB call_len_seq (by rfl) T.n_len (by decide +kernel) (pa_cons (pv 3) pa_nil)) pa_nil)))) pa_nil)) (by rfl)) (pss_one (ps_ret pe_bl)) pss_nil)
  (pss_cons (ps_if (PW.pt (pw_or (pt_cmpR (op_neOwn T.ne_Letters (c_Letters___eq__ T) hr) (pe_fld (pv 0) rfl) (pe_makeX0 (c_Letters T) hr (pa_cons (pv 1) pa_nil)) (by rfl)) (pw_or1 (pt_cmpR op_ne (pe_fld (pv 0) rfl) (pe_ix ix_list (pe_op op_cat (pe_lst (pa_cons (pv 2) pa_nil)) (pv 3)) (pe_un un_neg pe_int) (fun _ _ => rfl)) (by rfl))))) (pss_one (ps_ret pe_bl)) pss_nil)
  (pss_cons (ps_if (pt_cmpR (op_neD hr.units) (pe_callC (c__law_all T) hr (pa_cons (pv 0) pa_nil)) (pe_ifExp (pt_cmpR op_le (pe_callB call_len_seq (by rfl) T.n_len (by decide +kernel) (pa_cons (pv 3) pa_nil)) pe_int (by rfl)) (pe_tup (pa_cons pe_str (pa_cons (pe_callTy call_tuple_frz (by rfl) T.n_tuple (by decide +kernel) (pa_cons (pv 3) pa_nil)) pa_nil))) (pe_tup (pa_cons pe_str (pa_cons (pe_callB call_len_seq (by rfl) T.n_len (by decide +kernel) (pa_cons (pv 3) pa_nil)) pa_nil)))) (by rfl)) (pss_one (ps_ret pe_bl)) pss_nil)
  (pss_cons (ps_for PassesOwn.never (by rfl) (pi_list (pe_op op_cat (pe_listRg (by rfl) (by rfl) T.n_list (prg_1 (by rfl) T.n_range (pe_callB (call_min2 rfl) (by rfl) T.n_min (by decide +kernel) (pa_cons (pe_callB call_len_seq (by rfl) T.n_len (by decide +kernel) (pa_cons (pv 3) pa_nil)) (pa_cons pe_int pa_nil))))) (pe_op op_rep (pe_lst (pa_cons (pe_op op_sub (pe_callB call_len_seq (by rfl) T.n_len (by decide +kernel) (pa_cons (pv 3) pa_nil)) pe_int) pa_nil)) (pe_callTy call_int1 (by rfl) T.n_int (by decide +kernel) (pa_cons (pe_cmpR op_gt (pe_callB call_len_seq (by rfl) T.n_len (by decide +kernel) (pa_cons (pv 3) pa_nil)) pe_int (by rfl)) pa_nil))))) (pg_name (i := 5) sc__law_is_right.nd rfl (by first | exact Or.inl rfl | exact Or.inr rfl))
    (pss_one (ps_if (pt_cmpR (op_neD hr.units) (pe_callG gd (c__law_at T) hr (pa_cons (pv 0) (pa_cons (pv 5) pa_nil))) (pe_tup (pa_cons pe_str (pa_cons (pe_ix ix_list (pv 3) (pv 5) (fun _ _ => rfl)) pa_nil))) (by rfl)) (pss_one (ps_ret pe_bl)) pss_nil)))
  (pss_cons (ps_set (i := 6) sc__law_is_right.nd rfl (by first | exact Or.inl rfl | exact Or.inr rfl) (pe_lst (pa_cons (pe_un un_neg pe_int) (pa_cons (pe_callB call_len_seq (by rfl) T.n_len (by decide +kernel) (pa_cons (pv 3) pa_nil)) (pa_cons (pe_op op_add (pe_callB call_len_seq (by rfl) T.n_len (by decide +kernel) (pa_cons (pv 3) pa_nil)) (pe_op op_pow pe_int pe_int)) (pa_cons pe_non (pa_cons pe_bl (pa_cons pe_str (pa_cons (pe_tup (pa_cons pe_int pa_nil)) (pa_cons (pe_lst (pa_cons pe_int pa_nil)) pa_nil))))))))))
  (pss_one (ps_ret (pe_cmpR (op_eqD hr.units) (pe_lc (own := [("_law_value", 7)]) (by rfl) sc__law_is_right.nd (pi_list (pv 6)) (blkOk_by (own := [("_law_value", 7)]) (N := N__law_is_right) (sc := defScope s__law_is_right) (by decide +kernel)) (fun _ _ _ _ _ => (pg_name (i := 7) sc__law_is_right.nd rfl (by first | exact Or.inl rfl | exact Or.inr rfl))) (fun _ _ _ _ _ => pts_one (pt_cmpR (op_neDK (K := K) hr.units) (pe_callG gd (c__law_at T) hr (pa_cons (pv 0) (pa_cons (pv 7) pa_nil))) (pe_tup (pa_cons pe_str (pa_cons (pe_callB (call_reprDK (K := K) gd hr.units) (by rfl) T.n_repr (by decide +kernel) (pa_cons (pv 7) pa_nil)) pa_nil))) (by rfl))) (fun _ _ _ _ _ => (pv 7))) (pe_lst pa_nil) (by rfl)))))))))), ?_⟩
    walk_at "st"
    refine ⟨Wd, fs, rfl, w0, by omega, sofs, fun P0 ts H1 hP0 e1 h1 pts => ?_⟩
    rw [← eJ] at pts
    walk_at "st"
    refine ⟨P0, ts, rfl, .inl ⟨sq_of h1, fun l o hl ho => ?_⟩⟩
    have e2 := Ex.new (o := HO.frz o (.tup ts)) hl
    have h2 : upd H1 l (HO.frz o (.tup ts)) l = some (.frz o (.tup ts)) := upd_same
    generalize upd H1 l (HO.frz o (.tup ts)) = H2 at e2 h2 ⊢
    have e02 := e1.trans e2
    have M2 := M0.ex e02
    obtain ⟨dp, tp, op, xs, m1, m2, m3, m4⟩ := id M2
    walk_at "st"
    refine rd_fldAt m1 T.cl_History T.na_History_runs rfl ?_
    walk_at "st"
    refine rd_fldAt m1 T.cl_History T.na_History_beginning rfl ?_
    walk_at "st"
    refine rd_fldAt m1 T.cl_History T.na_History_size rfl ?_
    walk_at "st"
    refine ⟨by show 3 ≤ sizeLine; decide, ?_⟩
    intro q3 hq3
    have e3 := Ex.new (o := HO.lst [V.ref tp, V.str bb, V.int (sumR J)]) hq3
    have h3 : upd H2 q3 (HO.lst [V.ref tp, V.str bb, V.int (sumR J)]) q3 = some (HO.lst [V.ref tp, V.str bb, V.int (sumR J)]) := upd_same
    generalize upd H2 q3 (HO.lst [V.ref tp, V.str bb, V.int (sumR J)]) = H3 at e3 h3 ⊢
    have cJ : ∀ r ∈ J, PyData.strOk r.1 = true ∧ r.1.length ≤ 20 ∧ r.2.natAbs < 2 ^ 40 := fun r hr => by
      refine ⟨soJ r hr, w20 _ (okJ r hr).2, ?_⟩
      have h1 := posJ r hr
      obtain ⟨i, hi⟩ := List.getElem?_of_mem hr
      have := flat_at (z := r.1) (n := r.2) hi
      rw [← efs] at this
      omega
    have esz : sumR J = (fs.length : Nat) := fl.symm
    have shJ : ShN (.list [.tuple (J.map pairD), .str bb, .int (fs.length : Nat)]) 40 1000000 := sh_runs lJ hbb cJ (by omega)
    refine rd_nil ?_
    refine rd_repr (d := .list [.tuple (J.map pairD), .str bb, .int (fs.length : Nat)]) (.lst (sq_of h3) (.cons (.tup (st_frz (e3 _ _ m2)) (m4.ex e3)) (.cons (.str _) (.cons (by rw [esz]; exact .int _) .nil)))) shJ ?_
    walk_at "st"
    have e03 := e02.trans e3
    refine rd_lenL (sq_of (e03 _ _ w0)) ?_
    rw [List.length_map]
    walk_at "st"
    refine ⟨by show 3 ≤ sizeLine; decide, ?_⟩
    intro q4 hq4
    have e4 := Ex.new (o := HO.lst [V.ref l, V.str bb, V.int (fs.length : Nat)]) hq4
    have h4 : upd H3 q4 (HO.lst [V.ref l, V.str bb, V.int (fs.length : Nat)]) q4 = some (HO.lst [V.ref l, V.str bb, V.int (fs.length : Nat)]) := upd_same
    generalize upd H3 q4 (HO.lst [V.ref l, V.str bb, V.int (fs.length : Nat)]) = H4 at e4 h4 ⊢
    refine rd_nil ?_
    refine rd_repr (d := .list [.tuple (J.map pairD), .str bb, .int (fs.length : Nat)]) (.lst (sq_of h4) (.cons (.tup (st_frz ((e3.trans e4) _ _ h2)) ((pts.ex e2).ex (e3.trans e4)).pr) (.cons (.str _) (.cons (.int _) .nil)))) shJ ?_
    walk_at "st"
    rw [decide_eq_true rfl]
    walk_at "st"
    have e04 := e03.trans e4
    obtain ⟨dp, tp, op, xs, m1, m2, m3, m4⟩ := M0.ex e04
    refine rd_fldAt m1 T.cl_History T.na_History_letters rfl ?_
    walk_at "st"
    refine mk_letE (.inl (e04 _ _ li0)) O fun l5 H5 hl5 e5 L5 => ?_
    have e05 := e04.trans e5
    have L0' := L0.ex e05
    obtain ⟨_, _, _, la1, _⟩ := id L0'
    obtain ⟨_, _, _, la2, _⟩ := id L5
    refine ⟨lp, l5, _, _, _, _, rfl, rfl, la1, la2, lp, l5, ws, ws, rfl, L0', L5, _, rfl, ?_⟩
    rw [decide_eq_true rfl]
    walk_at "st"
    refine rd_fldAt (e5 _ _ m1) T.cl_History T.na_History_last rfl ?_
    walk_at "st"
    refine ⟨by show 1 ≤ sizeLine; decide, ?_⟩
    intro q6 hq6
    have e6 := Ex.new (o := HO.lst [V.str bb]) hq6
    have h6 : upd H5 q6 (HO.lst [V.str bb]) q6 = some (HO.lst [V.str bb]) := upd_same
    generalize upd H5 q6 (HO.lst [V.str bb]) = H6 at e6 h6 ⊢
    have e06 := e05.trans e6
    walk_at "st"
    refine rd_cat h6 (e06 _ _ w0) (by simp; omega) fun E7 H7 hE7 e7 h7 => ?_
    have e07 := e06.trans e7
    walk_at "st"
    refine ⟨1, rfl, ?_⟩
    obtain ⟨pre, epre⟩ := last_flat bb posJ
    rw [← efs] at epre
    have eat : [V.str bb] ++ fs.map V.str = pre.map V.str ++ [V.str (lastR bb J)] := by
      show (bb :: fs).map V.str = _
      rw [epre, List.map_append]; rfl
    rw [eat] at h7
    refine ⟨E7, _, _, _, rfl, rfl, sq_of h7, atI_last _ _, ?_⟩
    refine rd_ne rfl ?_
    rw [decide_eq_true rfl]
    iterate 5 walk_at "st1"
    refine rd_falsy (fun R' kR => ?_) (fun H9 e9 => ?_)
    · walk_at "st"
      refine ⟨mp, lp, bb, J, rfl, M0.ex e07, posJ, by omega, fun hs t u H8 e8 su h8 => ?_, fun hs t H8 e8 h8 => ?_⟩
      · have e08 := e07.trans e8
        walk_at "st"
        refine rd_lenL (sq_of (e08 _ _ w0)) ?_
        rw [List.length_map]
        walk_at "st"
        rw [decide_eq_true (show ((fs.length : Nat) : Int) ≤ 2000 by omega)]
        walk_at "st"
        refine ⟨Wd, _, rfl, .inl ⟨sq_of (e08 _ _ w0), fun l o hl ho => ?_⟩⟩
        have e9 := Ex.new (o := HO.frz o (.tup (fs.map V.str))) hl
        have h9 : upd H8 l (HO.frz o (.tup (fs.map V.str))) l = some (.frz o (.tup (fs.map V.str))) := upd_same
        generalize upd H8 l (HO.frz o (.tup (fs.map V.str))) = H9 at e9 h9 ⊢
        refine rd_nil ⟨by show 2 ≤ sizeLine; decide, ?_⟩
        intro q10 hq10
        have e10 := Ex.new (o := HO.tup [V.str "word", V.ref l]) hq10
        have h10 : upd H9 q10 (HO.tup [V.str "word", V.ref l]) q10 = some (HO.tup [V.str "word", V.ref l]) := upd_same
        generalize upd H9 q10 (HO.tup [V.str "word", V.ref l]) = H10 at e10 h10 ⊢
        rw [← efs] at su
        refine ⟨.tuple [.str "word", .tuple (fs.map PyData.str)], .tuple [.str "word", .tuple (fs.map PyData.str)], .tup (st_of ((e9.trans e10) _ _ h8)) (.cons (.str _) (.cons (.tup (sqt_kt su (.of (e9.trans e10))) (dp_strs _)) .nil)), .tup (st_of h10) (.cons (.str _) (.cons (.tup (st_frz (e10 _ _ h9)) (dp_strs _)) .nil)), shaped_word (so_of _) sofs, shaped_word (so_of _) sofs, ?_⟩
        rw [eqv_word (so_of _) sofs]
        exact ⟨_, rfl, kR _ ((e8.trans e9).trans e10)⟩
      · have e08 := e07.trans e8
        walk_at "st"
        refine rd_lenL (sq_of (e08 _ _ w0)) ?_
        rw [List.length_map]
        walk_at "st"
        rw [decide_eq_false (show ¬ ((fs.length : Nat) : Int) ≤ 2000 by omega)]
        walk_at "st"
        refine rd_lenL (sq_of (e08 _ _ w0)) ?_
        rw [List.length_map]
        refine rd_nil ⟨by show 2 ≤ sizeLine; decide, ?_⟩
        intro q10 hq10
        have e10 := Ex.new (o := HO.tup [V.str "long", V.int (fs.length : Nat)]) hq10
        have h10 : upd H8 q10 (HO.tup [V.str "long", V.int (fs.length : Nat)]) q10 = some (HO.tup [V.str "long", V.int (fs.length : Nat)]) := upd_same
        generalize upd H8 q10 (HO.tup [V.str "long", V.int (fs.length : Nat)]) = H10 at e10 h10 ⊢
        rw [← fl] at h8
        have shp : SeqAt.shaped (.tuple [.str "long", .int (fs.length : Nat)]) = true := by
          unfold SeqAt.shaped
          simp [PyData.canLay0, PyData.canLayAll0, PyData.depth, PyData.depthAll]
          exact so_of _
        have eqs : PyData.eqv (.tuple [.str "long", .int (fs.length : Nat)]) (.tuple [.str "long", .int (fs.length : Nat)]) = true := by simp [PyData.eqv, PyData.eqvAll]
        refine ⟨.tuple [.str "long", .int (fs.length : Nat)], .tuple [.str "long", .int (fs.length : Nat)], .tup (st_of (e10 _ _ h8)) (.cons (.str _) (.cons (.int _) .nil)), .tup (st_of h10) (.cons (.str _) (.cons (.int _) .nil)), shp, shp, ?_⟩
        rw [eqs]
        exact ⟨_, rfl, kR _ (e8.trans e10)⟩
    have e09 := e07.trans e9
    walk_at "st"
    refine rd_for ?_
    walk_at "st"
    refine rd_lstRg ?_
    walk_at "st"
    refine rd_lenL (sq_of (e09 _ _ w0)) ?_
    rw [List.length_map]
    walk_at "st"
    refine ⟨_, _, rfl, ?_⟩
    obtain ⟨n0, en0, n1, n2⟩ : ∃ n0 : Nat, (if (40 : Int) < (fs.length : Nat) then (40 : Int) else (fs.length : Nat)) = (n0 : Nat) ∧ n0 ≤ 40 ∧ n0 ≤ fs.length := by
      by_cases c : (40 : Int) < (fs.length : Nat)
      · rw [if_pos c]; exact ⟨40, rfl, by omega, by omega⟩
      · rw [if_neg c]; exact ⟨fs.length, rfl, by omega, by omega⟩
    rw [en0]
    refine ⟨_, rfl, RgOk.of_le (by omega) (by omega) (by omega) (by omega), ?_⟩
    intro g0 hg0
    have e10 := Ex.new (o := HO.lst (rgV 0 (n0 : Nat))) hg0
    have h10 : upd H9 g0 (HO.lst (rgV 0 (n0 : Nat))) g0 = some (HO.lst (rgV 0 (n0 : Nat))) := upd_same
    generalize upd H9 g0 (HO.lst (rgV 0 (n0 : Nat))) = H10 at e10 h10 ⊢
    have e010 := e09.trans e10
    walk_at "st"
    refine rd_lenL (sq_of (e010 _ _ w0)) ?_
    rw [List.length_map]
    walk_at "st"
    refine ⟨by show 1 ≤ sizeLine; decide, ?_⟩
    intro g1 hg1
    have e11 := Ex.new (o := HO.lst [V.int ((fs.length : Nat) - 1)]) hg1
    have h11 : upd H10 g1 (HO.lst [V.int ((fs.length : Nat) - 1)]) g1 = some (HO.lst [V.int ((fs.length : Nat) - 1)]) := upd_same
    generalize upd H10 g1 (HO.lst [V.int ((fs.length : Nat) - 1)]) = H11 at e11 h11 ⊢
    have e011 := e010.trans e11
    walk_at "st"
    refine rd_lenL (sq_of (e011 _ _ w0)) ?_
    rw [List.length_map]
    walk_at "st"
    obtain ⟨kk, ekk, k1, k2⟩ : ∃ kk : Nat, (if decide ((0 : Int) < (fs.length : Nat)) = true then (1 : Int) else 0) = (kk : Nat) ∧ kk ≤ 1 ∧ (0 < kk → 0 < fs.length) := by
      by_cases c : (0 : Int) < (fs.length : Nat)
      · rw [decide_eq_true c]; exact ⟨1, rfl, Nat.le_refl _, fun _ => by omega⟩
      · rw [decide_eq_false c]; exact ⟨0, rfl, Nat.zero_le _, fun h => absurd h (Nat.lt_irrefl _)⟩
    rw [ekk]
    refine ⟨g1, (kk : Nat), _, rfl, rfl, h11, by omega, by omega, by show 1 * ((kk : Nat) : Int).toNat ≤ sizeLine; exact Nat.le_trans (show _ ≤ 1 by omega) (by decide), ?_⟩
    rw [Int.toNat_natCast]
    intro g2 hg2
    have e12 := Ex.new (o := HO.lst (List.replicate kk [V.int ((fs.length : Nat) - 1)]).flatten) hg2
    have h12 : upd H11 g2 (HO.lst (List.replicate kk [V.int ((fs.length : Nat) - 1)]).flatten) g2 = some (HO.lst (List.replicate kk [V.int ((fs.length : Nat) - 1)]).flatten) := upd_same
    generalize upd H11 g2 (HO.lst (List.replicate kk [V.int ((fs.length : Nat) - 1)]).flatten) = H12 at e12 h12 ⊢
    refine rd_cat ((e11.trans e12) _ _ h10) h12 (by rw [rgV_length]; simp; omega) fun E13 H13 hE13 e13 h13 => ?_
    have e013 := (e011.trans e12).trans e13
    have els : ∀ y ∈ rgV 0 (n0 : Nat) ++ (List.replicate kk [V.int ((fs.length : Nat) - 1)]).flatten, ∃ k : Nat, y = V.int (k : Nat) ∧ k < fs.length := fun y hy => by
      rcases List.mem_append.mp hy with h | h
      · unfold rgV at h
        obtain ⟨i, hi, rfl⟩ := List.mem_map.mp h
        rw [List.mem_range] at hi
        exact ⟨i, by rw [Int.zero_add], by omega⟩
      · obtain ⟨x, hx, hy⟩ := List.mem_flatten.mp h
        obtain ⟨h1, rfl⟩ := List.mem_replicate.mp hx
        rw [List.mem_singleton] at hy
        have := k2 (by omega)
        exact ⟨fs.length - 1, by rw [hy]; congr 1; omega, by omega⟩
    generalize rgV 0 (n0 : Nat) ++ (List.replicate kk [V.int ((fs.length : Nat) - 1)]).flatten = ks at h13 els ⊢
    refine ⟨E13, rfl, ⟨_, sq_of h13⟩, ?_⟩
    refine for_yl (yl_list ks) (fun j σ' H' => (∃ t', σ' = [some (.ref mp), some (.ref Li), some (.str bb), some (.ref Wd), some (.ref l), t', none, none]) ∧ Ex H13 H') (fun j σ' H' _ q => sq_of (q.2 _ _ h13)) ⟨⟨_, rfl⟩, Ex.refl _⟩ (fun j y σ' H14 H15 hj hv e15 yy => ?_) (fun σ' H14 hv => ?_)
    · obtain ⟨⟨t', rfl⟩, e14⟩ := hv
      obtain ⟨kq, rfl, kl⟩ := els y (List.mem_of_getElem? yy)
      have e015 := (e013.trans e14).trans e15
      refine rd_gname ?_
      walk_at "st"
      have atk : placeR (.int (kq : Nat)) J = some fs[kq] := by
        show (if (0 : Int) ≤ (kq : Nat) then atR J (kq : Nat) else none) = _
        rw [if_pos (by omega), atR_flat J kq posJ, ← efs, List.getElem?_eq_getElem kl]
      have shk : ShN (.int (kq : Nat)) 40 1000000 := (sh_int (log2_lt (by omega))).mono (by decide) (by decide)
      refine ⟨mp, lp, bb, J, .int (kq : Nat), .int (kq : Nat), rfl, M0.ex e015, .int _, fun _ _ => .int _, shk, fun z hz t16 H16 e16 h16 => ?_, (fun hz => by rw [atk] at hz; cases hz)⟩
      rw [atk] at hz
      obtain rfl := Option.some.inj hz
      walk_at "st"
      refine ⟨Wd, _, _, _, rfl, rfl, sq_of ((e015.trans e16) _ _ w0), atI_nat (j := kq) (v := V.str fs[kq]) (by rw [List.getElem?_map, List.getElem?_eq_getElem kl]; rfl), ?_⟩
      refine rd_nil ⟨by show 2 ≤ sizeLine; decide, ?_⟩
      intro q17 hq17
      have e17 := Ex.new (o := HO.tup [V.str "at", V.str fs[kq]]) hq17
      have h17 : upd H16 q17 (HO.tup [V.str "at", V.str fs[kq]]) q17 = some (HO.tup [V.str "at", V.str fs[kq]]) := upd_same
      generalize upd H16 q17 (HO.tup [V.str "at", V.str fs[kq]]) = H17 at e17 h17 ⊢
      have sk := sofs fs[kq] (List.getElem_mem kl)
      refine ⟨.tuple [.str "at", .str fs[kq]], .tuple [.str "at", .str fs[kq]], .tup (st_of (e17 _ _ h16)) (.cons (.str _) (.cons (.str _) .nil)), .tup (st_of h17) (.cons (.str _) (.cons (.str _) .nil)), shaped_two (so_of _) sk, shaped_two (so_of _) sk, ?_⟩
      rw [eqv_two]
      walk_at "st"
      exact ⟨⟨_, rfl⟩, ((e14.trans e15).trans e16).trans e17⟩
    · obtain ⟨⟨t', rfl⟩, e14⟩ := hv
      have e014 := e013.trans e14
      walk_at "st"
      refine ⟨1, rfl, ?_⟩
      walk_at "st"
      refine rd_lenL (sq_of (e014 _ _ w0)) ?_
      rw [List.length_map]
      walk_at "st"
      refine rd_lenL (sq_of (e014 _ _ w0)) ?_
      rw [List.length_map]
      walk_at "st"
      refine rd_I ⟨by decide, by decide, by decide⟩ ?_
      rw [show (10 : Int) ^ Int.toNat 20 = 100000000000000000000 by decide]
      walk_at "st"
      refine ⟨by show 1 ≤ sizeLine; decide, ?_⟩
      intro q0 hq0
      have e15 := Ex.new (o := HO.tup [V.int 0]) hq0
      have h15 : upd H14 q0 (HO.tup [V.int 0]) q0 = some (HO.tup [V.int 0]) := upd_same
      generalize upd H14 q0 (HO.tup [V.int 0]) = H15 at e15 h15 ⊢
      walk_at "st"
      refine ⟨by show 1 ≤ sizeLine; decide, ?_⟩
      intro q1 hq1
      have e16 := Ex.new (o := HO.lst [V.int 0]) hq1
      have h16 : upd H15 q1 (HO.lst [V.int 0]) q1 = some (HO.lst [V.int 0]) := upd_same
      generalize upd H15 q1 (HO.lst [V.int 0]) = H16 at e16 h16 ⊢
      walk_at "st"
      refine ⟨by show 8 ≤ sizeLine; decide, ?_⟩
      intro q2 hq2
      have e17 := Ex.new (o := HO.lst [V.int (-1), V.int (fs.length : Nat), V.int ((fs.length : Nat) + 100000000000000000000), V.non, V.bl true, V.str "0", V.ref q0, V.ref q1]) hq2
      have h17 : upd H16 q2 (HO.lst [V.int (-1), V.int (fs.length : Nat), V.int ((fs.length : Nat) + 100000000000000000000), V.non, V.bl true, V.str "0", V.ref q0, V.ref q1]) q2 = some (HO.lst [V.int (-1), V.int (fs.length : Nat), V.int ((fs.length : Nat) + 100000000000000000000), V.non, V.bl true, V.str "0", V.ref q0, V.ref q1]) := upd_same
      generalize upd H16 q2 (HO.lst [V.int (-1), V.int (fs.length : Nat), V.int ((fs.length : Nat) + 100000000000000000000), V.non, V.bl true, V.str "0", V.ref q0, V.ref q1]) = H17 at e17 h17 ⊢
      have e017 := ((e014.trans e15).trans e16).trans e17
      have odd : ∀ y ∈ [V.int (-1), V.int (fs.length : Nat), V.int ((fs.length : Nat) + 100000000000000000000), V.non, V.bl true, V.str "0", V.ref q0, V.ref q1], ∃ d, (∀ H1, Ex H17 H1 → Kd H1 y ∧ Dp K H1 y d) ∧ ShN d 40 1000000 ∧ PyData.strOk d.shown = true ∧ placeR y J = none := by
        have no : ∀ n : Nat, fs.length ≤ n → placeR (.int (n : Nat)) J = none := fun n hn => by
          show (if (0 : Int) ≤ (n : Nat) then atR J (n : Nat) else none) = _
          rw [if_pos (by omega), atR_flat J n posJ, ← efs, List.getElem?_eq_none hn]
        intro y hy
        simp only [List.mem_cons, List.not_mem_nil, or_false] at hy
        rcases hy with rfl | rfl | rfl | rfl | rfl | rfl | rfl | rfl
        · exact ⟨.int (-1), fun _ _ => ⟨.int _, .int _⟩, (sh_int (by decide)).mono (by decide) (by decide), so_of _, rfl⟩
        · exact ⟨.int (fs.length : Nat), fun _ _ => ⟨.int _, .int _⟩, (sh_int (log2_lt (by omega))).mono (by decide) (by decide), so_of _, no _ (Nat.le_refl _)⟩
        · exact ⟨.int ((fs.length : Nat) + 100000000000000000000), fun _ _ => ⟨.int _, .int _⟩, (sh_int (log2_big (by omega))).mono (by decide) (by decide), so_of _, no (fs.length + 100000000000000000000) (by omega)⟩
        · exact ⟨.none, fun _ _ => ⟨.non, .non⟩, sh_none.mono (by decide) (by decide), so_of _, rfl⟩
        · exact ⟨.bool true, fun _ _ => ⟨.bl _, .bl _⟩, (sh_bool true).mono (by decide) (by decide), so_of _, rfl⟩
        · exact ⟨.str "0", fun _ _ => ⟨.str _ (by decide), .str _⟩, (sh_str (so_of _)).mono (by decide) (by decide), by decide +kernel, rfl⟩
        · exact ⟨.tuple [.int 0], fun H1 e => ⟨.tup (e _ _ ((e16.trans e17) _ _ h15)), .tup (st_of (e _ _ ((e16.trans e17) _ _ h15))) (.cons (.int _) .nil)⟩, (sh_tuple (m := 1) (.cons (sh_int (i := 0) (by decide)) .nil) (by simp)).mono (by decide) (by decide), by decide +kernel, rfl⟩
        · exact ⟨.list [.int 0], fun H1 e => ⟨.lst (e _ _ (e17 _ _ h16)), .lst (sq_of (e _ _ (e17 _ _ h16))) (.cons (.int _) .nil)⟩, (sh_list (m := 1) (.cons (sh_int (i := 0) (by decide)) .nil) (by simp)).mono (by decide) (by decide), by decide +kernel, rfl⟩
      generalize [V.int (-1), V.int (fs.length : Nat), V.int ((fs.length : Nat) + 100000000000000000000), V.non, V.bl true, V.str "0", V.ref q0, V.ref q1] = od at h17 odd
      walk_at "st"
      refine rd_lcYl (J := Itl K q2) (H1 := H17) (fun R q => ⟨_, rfl, q2, rfl, ⟨_, sq_of h17⟩, q⟩) (yl_list od) (fun D i H' => H17 D = none ∧ Ex H17 H' ∧ H' D = some (.lst [])) (fun D i H' _ p => sq_of (p.2.1 _ _ h17)) (fun D hD => ⟨hD, Ex.new hD, upd_same⟩) (fun D i y H18 H19 hi p e19 yy => ?_) (fun D H18 p => ?_)
      · obtain ⟨hD, e18, g18⟩ := p
        obtain ⟨d, kdp, sh, so, no⟩ := odd y (List.mem_of_getElem? yy)
        have e1719 := e18.trans e19
        refine ⟨rfl, ?_⟩
        walk_at "st"
        refine ⟨mp, lp, bb, J, y, d, rfl, M0.ex (e017.trans e1719), (kdp _ e1719).1, fun H1 e => (kdp _ (e1719.trans e)).2, sh, (fun z hz => by rw [no] at hz; cases hz), fun hz t20 H20 e20 h20 => ?_⟩
        have e1720 := e1719.trans e20
        walk_at "st"
        refine rd_repr (kdp _ e1720).2 sh ?_
        refine rd_nil ⟨by show 2 ≤ sizeLine; decide, ?_⟩
        intro q21 hq21
        have e21 := Ex.new (o := HO.tup [V.str "none", V.str d.shown]) hq21
        have h21 : upd H20 q21 (HO.tup [V.str "none", V.str d.shown]) q21 = some (HO.tup [V.str "none", V.str d.shown]) := upd_same
        generalize upd H20 q21 (HO.tup [V.str "none", V.str d.shown]) = H21 at e21 h21 ⊢
        refine ⟨.tuple [.str "none", .str d.shown], .tuple [.str "none", .str d.shown], .tup (st_of (e21 _ _ h20)) (.cons (.str _) (.cons (.str _) .nil)), .tup (st_of h21) (.cons (.str _) (.cons (.str _) .nil)), shaped_two (so_of _) so, shaped_two (so_of _) so, ?_⟩
        rw [eqv_two]
        walk_at "st"
        exact ⟨hD, e1720.trans e21, e21 _ _ (e20 _ _ (e19 _ _ g18))⟩
      · obtain ⟨hD, e18, g18⟩ := p
        walk_at "st"
        refine ⟨by show 0 ≤ sizeLine; decide, ?_⟩
        intro q22 hq22
        have e22 := Ex.new (o := HO.lst []) hq22
        have h22 : upd H18 q22 (HO.lst []) q22 = some (HO.lst []) := upd_same
        generalize upd H18 q22 (HO.lst []) = H22 at e22 h22 ⊢
        refine ⟨.list [], .list [], .lst (sq_of (e22 _ _ g18)) .nil, .lst (sq_of h22) .nil, by decide +kernel, by decide +kernel, ?_⟩
        exact k _ ((e017.trans e18).trans e22)
end


section
variable {P : Program} {w : World} {K : PySem.W.Frag} {mg : Str → Option Value} {base : Heap} {a : Ad}
theorem RunsAre.ex {S : List Addr} {H H' : Hp} {ws : List Str} {vs : List V} {cs : List RunC} (x : RunsAre S H ws vs cs) (e : Ex H H') : RunsAre S H' ws vs cs := ⟨x.1, fun i v hv => let ⟨c, h1, h2⟩ := x.2 i v hv; ⟨c, h1, h2.ex e⟩⟩
section
variable {S S' : List Addr} {H H' : Hp} {ws : List Str} {vs : List V} {cs : List RunC}
theorem RunsAre.to (x : RunsAre S H ws vs cs) (e : ∀ b o, b ∉ S → H b = some o → H' b = some o) : RunsAre S H' ws vs cs := ⟨x.1, fun i v hv => let ⟨c, h1, h2⟩ := x.2 i v hv; ⟨c, h1, h2.to e⟩⟩
theorem RunsAre.sub (x : RunsAre S H ws vs cs) (s : ∀ p ∈ S', p ∈ S) : RunsAre S' H ws vs cs := ⟨x.1, fun i v hv => let ⟨c, h1, h2⟩ := x.2 i v hv; ⟨c, h1, h2.sub s⟩⟩
theorem RunsAre.nil : RunsAre S H ws [] [] := ⟨rfl, fun i v hv => by simp at hv⟩
theorem RunsAre.app {us : List V} {ds : List RunC} (x : RunsAre S H ws vs cs) (y : RunsAre S H ws us ds) : RunsAre S H ws (vs ++ us) (cs ++ ds) := by
  refine ⟨by simp [x.1, y.1], fun i v hv => ?_⟩
  by_cases hi : i < vs.length
  · rw [List.getElem?_append_left hi] at hv
    obtain ⟨c, h1, h2⟩ := x.2 i v hv
    exact ⟨c, by rw [List.getElem?_append_left (by rw [← x.1]; exact hi)]; exact h1, h2⟩
  · rw [List.getElem?_append_right (by omega)] at hv
    obtain ⟨c, h1, h2⟩ := y.2 _ v hv
    exact ⟨c, by rw [List.getElem?_append_right (by rw [← x.1]; omega), ← x.1]; exact h1, h2⟩
theorem RunsAre.one {v : V} {c : RunC} (x : RunIs S H ws v c) : RunsAre S H ws [v] [c] := ⟨rfl, fun i u hu => by
  cases i with
  | zero => simp at hu; subst hu; exact ⟨c, rfl, x⟩
  | succ i => simp at hu⟩
end
/-- what stands in a turn -/
structure Rn (pd c Li L : Addr) (ws : List Str) (B : Nat) (vs : List V) (cs : List RunC) (H : Hp) : Prop where
  pen : PenK H pd c B
  hli : H Li = some (.lst (ws.map V.str))
  hL : H L = some (.lst vs)
  are : RunsAre [pd, L] H ws vs cs
section
variable {pd c Li L : Addr} {ws : List Str} {B B' : Nat} {vs : List V} {cs : List RunC} {H H' : Hp}
theorem Rn.ex (x : Rn pd c Li L ws B vs cs H) (e : Ex H H') : Rn pd c Li L ws B vs cs H' := ⟨x.pen.ex e, e _ _ x.hli, e _ _ x.hL, x.are.ex e⟩
theorem Rn.mono (x : Rn pd c Li L ws B vs cs H) (h : B ≤ B') : Rn pd c Li L ws B' vs cs H := ⟨x.pen.mono h, x.hli, x.hL, x.are⟩
theorem Rn.kx (x : Rn pd c Li L ws B vs cs H) (e : Kx pd H H') (p : PenK H' pd c B') : Rn pd c Li L ws B' vs cs H' :=
  let ⟨_, hd⟩ := x.pen.dK
  ⟨p, e.lst hd x.hli, e.lst hd x.hL, x.are.to fun b o hb h => e b o (fun q => hb (by rw [q]; simp)) h⟩
theorem Rn.put {us : List V} {ds : List RunC} (x : Rn pd c Li L ws B vs cs H) (n1 : Li ≠ L) (n2 : c ≠ L) (y : RunsAre [pd, L] H ws us ds) : Rn pd c Li L ws B us ds (upd H L (.lst us)) :=
  let ⟨_, hd⟩ := x.pen.dK
  ⟨x.pen.wr (ne_of hd x.hL (by intro z; cases z)) n2, by rw [upd_ne n1]; exact x.hli, upd_same, y.to fun b o hb h => by rw [upd_ne (fun q => hb (by rw [q]; simp))]; exact h⟩
end
theorem HisAt.kl {H : Hp} {p l D : Addr} {b : Str} {rs : List (Str × Int)} {xs : List V} {u : HO} (x : HisAt a K H p l b rs) (hD : H D = some (.lst xs)) : HisAt a K (upd H D u) p l b rs :=
  let ⟨dx, t, o, ts, h1, h2, h3, h4⟩ := x
  ⟨dx, t, o, ts, by rw [upd_ne (ne_of h1 hD (by intro z; cases z))]; exact h1, by rw [upd_ne (ne_of h2 hD (by intro z; cases z))]; exact h2, h3, h4.kt (Kt.lst hD)⟩
theorem LetAt.kl {H : Hp} {p D : Addr} {ws : List Str} {xs : List V} {u : HO} (l : LetAt a H p ws) (hD : H D = some (.lst xs)) : LetAt a (upd H D u) p ws :=
  let ⟨dx, t, o, h1, h2, h3⟩ := l
  ⟨dx, t, o, by rw [upd_ne (ne_of h1 hD (by intro z; cases z))]; exact h1, by rw [upd_ne (ne_of h2 hD (by intro z; cases z))]; exact h2, h3⟩
theorem pt_runs {H : Hp} {ws : List Str} {vs : List V} {rs : List (Str × Int)} (h : PT H vs rs) : (∀ r ∈ rs, r.1 ∈ ws ∧ 1 ≤ r.2 ∧ r.2 ≤ 1000000000000000000000000000000) → RunsAre [] H ws vs (rs.map okC) := by
  induction h with
  | nil => intro _; exact .nil
  | @cons p z n vs rs h t ih =>
    intro g
    have g0 := g (z, n) (List.mem_cons_self ..)
    exact RunsAre.app (vs := [.ref p]) (cs := [okC (z, n)]) (.one (.ok (.inr h) (fun q hq => by cases hq) g0.1 g0.2.1 g0.2.2)) (ih fun r hr => g r (List.mem_cons_of_mem _ hr))
theorem rd_hisCmp {f : Bool → Bool} {H : Hp} {p q l m : Addr} {b c : Str} {rs ts : List (Str × Int)} {ws zs : List Str} {Q : VK} (h1 : HisAt a K H p l b rs) (h2 : HisAt a K H q m c ts) (L1 : LetAt a H l ws) (L2 : LetAt a H m zs) (so : ∀ y ∈ rs, PyData.strOk y.1 = true) (so2 : ∀ y ∈ ts, PyData.strOk y.1 = true) (k : Q (.bl (f (decide (ws = zs) && decide (b = c) && decide (rs = ts)))) H) : rEqOwn a.History (spHisEq a K) f (.ref p) (.ref q) H Q := by
  have h1' := h1
  have h2' := h2
  obtain ⟨_, _, _, _, x1, _⟩ := h1'
  obtain ⟨_, _, _, _, y1, _⟩ := h2'
  exact ⟨p, q, _, _, _, _, rfl, rfl, x1, y1, p, q, l, m, b, c, rs, ts, ws, zs, rfl, h1, h2, L1, L2, so, so2, _, rfl, k⟩
/-- a history that differs -/
def Ot (a : Ad) (K : PySem.W.Frag) (ws : List Str) (bb : Str) (J : List (Str × Int)) (H : Hp) (v : V) : Prop := ∃ q m c ts zs, v = .ref q ∧ HisAt a K H q m c ts ∧ LetAt a H m zs ∧ (∀ y ∈ ts, PyData.strOk y.1 = true) ∧ ¬ (ws = zs ∧ bb = c ∧ J = ts)
section
variable {ws : List Str} {bb : Str} {J : List (Str × Int)} {H H' : Hp} {v : V}
theorem Ot.ex (x : Ot a K ws bb J H v) (e : Ex H H') : Ot a K ws bb J H' v :=
  let ⟨q, m, c, ts, zs, h0, h1, h2, h3, h4⟩ := x
  ⟨q, m, c, ts, zs, h0, h1.ex e, h2.ex e, h3, h4⟩
theorem Ot.kl {D : Addr} {xs : List V} {u : HO} (x : Ot a K ws bb J H v) (hD : H D = some (.lst xs)) : Ot a K ws bb J (upd H D u) v :=
  let ⟨q, m, c, ts, zs, h0, h1, h2, h3, h4⟩ := x
  ⟨q, m, c, ts, zs, h0, h1.kl hD, h2.kl hD, h3, h4⟩
end
theorem dec_no {ws zs : List Str} {b c : Str} {J ts : List (Str × Int)} (h : ¬ (ws = zs ∧ b = c ∧ J = ts)) : (decide (ws = zs) && decide (b = c) && decide (J = ts)) = false := by
  rw [Bool.eq_false_iff]
  intro q
  rw [Bool.and_eq_true, Bool.and_eq_true] at q
  exact h ⟨of_decide_eq_true q.1.1, of_decide_eq_true q.1.2, of_decide_eq_true q.2⟩
theorem dec_yes {ws : List Str} {b : Str} {J : List (Str × Int)} : (decide (ws = ws) && decide (b = b) && decide (J = J)) = true := by simp
/-- what stands while runs are drawn -/
structure Rp (pd c Li L : Addr) (ws : List Str) (B : Nat) (vs : List V) (rs : List (Str × Int)) (H : Hp) : Prop where
  pen : PenK H pd c B
  hli : H Li = some (.lst (ws.map V.str))
  hL : H L = some (.lst vs)
  pt : PT H vs rs
  g : ∀ r ∈ rs, r.1 ∈ ws ∧ 1 ≤ r.2 ∧ r.2 ≤ 3000
section
variable {pd c Li L : Addr} {ws : List Str} {B B' : Nat} {vs : List V} {rs : List (Str × Int)} {H H' : Hp}
theorem Rp.ex (x : Rp pd c Li L ws B vs rs H) (e : Ex H H') : Rp pd c Li L ws B vs rs H' := ⟨x.pen.ex e, e _ _ x.hli, e _ _ x.hL, x.pt.ex e, x.g⟩
theorem Rp.mono (x : Rp pd c Li L ws B vs rs H) (h : B ≤ B') : Rp pd c Li L ws B' vs rs H := ⟨x.pen.mono h, x.hli, x.hL, x.pt, x.g⟩
theorem Rp.kx (x : Rp pd c Li L ws B vs rs H) (e : Kx pd H H') (p : PenK H' pd c B') : Rp pd c Li L ws B' vs rs H' :=
  let ⟨_, hd⟩ := x.pen.dK
  ⟨p, e.lst hd x.hli, e.lst hd x.hL, x.pt.kt (Kt.kx e hd), x.g⟩
theorem Rp.put {q : Addr} {z : Str} {n : Int} (x : Rp pd c Li L ws B vs rs H) (n1 : Li ≠ L) (n2 : c ≠ L) (hq : H q = some (.tup [.str z, .int n])) (hz : z ∈ ws) (h1 : 1 ≤ n) (h2 : n ≤ 3000) : Rp pd c Li L ws B (vs ++ [.ref q]) (rs ++ [(z, n)]) (upd H L (.lst (vs ++ [.ref q]))) :=
  let ⟨_, hd⟩ := x.pen.dK
  have k : Kt H (upd H L (.lst (vs ++ [.ref q]))) := Kt.lst x.hL
  ⟨x.pen.wr (ne_of hd x.hL (by intro z; cases z)) n2, by rw [upd_ne n1]; exact x.hli, upd_same, (x.pt.kt k).app (.cons ((k _).1 _ hq) .nil), fun r hr => by
    rcases List.mem_append.mp hr with h | h
    · exact x.g r h
    · rw [List.mem_singleton] at h; subst h; exact ⟨hz, h1, h2⟩⟩
end
theorem sum_le12 : ∀ (rs : List (Str × Int)), (∀ y ∈ rs, y.2 ≤ 12) → sumL rs ≤ 12 * (rs.length : Int)
  | [], _ => by simp [sumL_nil]
  | r :: t, h => by
    have ih := sum_le12 t fun y hy => h y (List.mem_cons_of_mem _ hy)
    have := h r (List.mem_cons_self ..)
    rw [sumL_cons, List.length_cons]
    omega
theorem sum_app : ∀ (x y : List (Str × Int)), sumL (x ++ y) = sumL x + sumL y
  | [], y => by simp [sumL_nil]
  | r :: t, y => by rw [List.cons_append, sumL_cons, sumL_cons, sum_app t y]; omega
theorem sum_unit : ∀ (ws : List Str), sumL (unitR ws) = (ws.length : Nat)
  | [] => rfl
  | w :: t => by
    show sumL ((w, 1) :: unitR t) = _
    rw [sumL_cons, sum_unit t, List.length_cons]; simp; omega
theorem cutV_tail {xs : List V} (h : xs ≠ []) : cutV xs (some 1) none = xs.tail := by
  have hp := List.length_pos_iff.mpr h
  unfold cutV
  have e : HT.sIx xs.length 0 (some 1) = 1 := by
    rw [show (1 : Int) = ((1 : Nat) : Int) from rfl, HT.sIx_nat]; omega
  rw [e, HT.sIx_none, List.drop_one]
  exact List.take_of_length_le (by simp)
theorem tail_flat : ∀ {rs : List (Str × Int)}, (∀ x ∈ rs, 1 ≤ x.2) → ∃ ts : List (Str × Int), (∀ x ∈ ts, 1 ≤ x.2) ∧ ts.length ≤ rs.length ∧ (flatR rs).tail = flatR ts
  | [], _ => ⟨[], (fun _ h => by cases h), Nat.le_refl _, rfl⟩
  | (z, n) :: t, h => by
    have hn : 1 ≤ n := h (z, n) (List.mem_cons_self ..)
    have ht : ∀ x ∈ t, 1 ≤ x.2 := fun x hx => h x (List.mem_cons_of_mem _ hx)
    obtain ⟨k, hk⟩ : ∃ k : Nat, n.toNat = k + 1 := ⟨n.toNat - 1, by omega⟩
    rw [flatR_cons]
    show ∃ ts : List (Str × Int), _ ∧ _ ∧ (List.replicate n.toNat z ++ flatR t).tail = _
    rw [hk, List.replicate_succ]
    by_cases q : n = 1
    · refine ⟨t, ht, by simp, ?_⟩
      have : k = 0 := by omega
      subst this
      rfl
    · refine ⟨(z, n - 1) :: t, ?_, by simp, ?_⟩
      · intro x hx
        rcases List.mem_cons.mp hx with rfl | hx
        · show 1 ≤ n - 1; omega
        · exact ht x hx
      · rw [flatR_cons]
        show List.replicate k z ++ flatR t = List.replicate (n - 1).toNat z ++ flatR t
        rw [show (n - 1).toNat = k by omega]
theorem rd_ifC {b : Bool} {A B : V} {σ : L2.St} {H : Hp} {Q : VK} (h : Q (if b = true then A else B) H) : (if b = true then tC A σ H Q else tC B σ H Q) := by
  cases b with
  | true => exact h
  | false => exact h
theorem beg_other {b : Str} (h : isBegB b = true) : ∃ c, (if decide (V.str b = V.str (Str.ofString "found")) = true then V.str (Str.ofString "new") else V.str (Str.ofString "found")) = V.str c ∧ isBegB c = true ∧ b ≠ c ∧ c.length ≤ 1000 := by
  by_cases q : b = "found"
  · rw [decide_eq_true (congrArg V.str q)]
    exact ⟨"new", rfl, by decide +kernel, by rw [q]; decide +kernel, by decide +kernel⟩
  · rw [decide_eq_false (fun z => q (V.str.inj z))]
    exact ⟨"found", rfl, by decide +kernel, q, by decide +kernel⟩
def spLaw (K : PySem.W.Frag) : Sp := fun vs H Q _ => ∃ (s : Addr) (ns : List Int), vs = [.ref s] ∧ SqL K H s (ns.map V.int) ∧ ∀ H', Q (.bl true) H'
theorem ok_law (T : Txt P K mg a) {fd : FuncData} (F : Fun K "law" "law" s_law a.f_law fd) : FnOkG P w K mg base CX0 9 a.f_law fd ["_law_script"] (spLaw K) := by
  refine okG0 F sc_law (fun vs H Q E h => ?_) (fun cdv A outer s H vs Q E gd hr h => ?_)
  · obtain ⟨z, ns, rfl, _⟩ := h; rfl
  · obtain ⟨z, ns, rfl, hz, k⟩ := h
    refine ⟨_, (pss_cons (ps_set (i := 1) sc_law.nd rfl (by first | exact Or.inl rfl | exact Or.inr rfl) (pe_callC (c__law_pen T) hr (pa_cons (pv 0) pa_nil)))
  (pss_cons (ps_for PassesOwn.never (by rfl) (pi_range1 (by rfl) T.n_range (pa_cons pe_int pa_nil)) (pg_name (i := 2) sc_law.nd rfl (by first | exact Or.inl rfl | exact Or.inr rfl))
    (pss_cons (ps_asg (pe_tup (pa_cons (pe_callC (c__law_letters T) hr (pa_cons (pv 1) (pa_cons (pe_op op_add pe_int (pe_callC (c__law_draw T) hr (pa_cons (pv 1) (pa_cons pe_int pa_nil)))) pa_nil))) (pa_cons (pe_callC (c__law_beginning T) hr (pa_cons (pv 1) pa_nil)) pa_nil))) (pg_tup rfl (pgs_cons (pg_name (i := 8) sc_law.nd rfl (by first | exact Or.inl rfl | exact Or.inr rfl)) (pgs_cons (pg_name (i := 9) sc_law.nd rfl (by first | exact Or.inl rfl | exact Or.inr rfl)) pgs_nil))))
      (pss_cons (ps_setLc (own := [("_law_k", 12)]) (i := 3) (by rfl) sc_law.nd rfl rfl (sw_true rfl rfl rfl (by decide +kernel)) (pi_range1 (by rfl) T.n_range (pa_cons (pe_callC (c__law_draw T) hr (pa_cons (pv 1) (pa_cons pe_int pa_nil))) pa_nil)) (blkOk_by (own := [("_law_k", 12)]) (N := N_law) (sc := defScope s_law) (by decide +kernel)) (fun _ _ _ _ _ => (pg_name (i := 12) sc_law.nd rfl (by first | exact Or.inl rfl | exact Or.inr rfl))) (fun _ _ _ _ _ => pts_nil) (fun _ _ _ _ _ => (pe_tup (pa_cons (pe_callC (c__law_pick T) hr (pa_cons (pv 1) (pa_cons (pv 8) pa_nil))) (pa_cons (pe_op op_add pe_int (pe_callC (c__law_draw T) hr (pa_cons (pv 1) (pa_cons pe_int pa_nil)))) pa_nil)))))
      (Evl.pss_cut (ps_if (pt_cmpR op_eq (pe_callC (c__law_draw T) hr (pa_cons (pv 1) (pa_cons pe_int pa_nil))) pe_int (by rfl)) (pss_one (ps_expr (pe_bm PySem.F.plainAttrs_list PySem.F.slot_list_append PySem.F.type_list_append mt_append (pv 3) (pa_cons (pe_tup (pa_cons (pe_callC (c__law_pick T) hr (pa_cons (pv 1) (pa_cons (pv 8) pa_nil))) (pa_cons (pe_op op_add pe_int (pe_callC (c__law_draw T) hr (pa_cons (pv 1) (pa_cons pe_int pa_nil)))) pa_nil))) pa_nil)))) pss_nil)
      (pss_cons (ps_par (i := 10) (j := 11) (by rfl) sc_law.nd rfl rfl (by decide) rfl rfl (pa_cons (pe_lc (own := [("_law_run", 13)]) (by rfl) sc_law.nd (pi_list (pv 3)) (blkOk_by (own := [("_law_run", 13)]) (N := N_law) (sc := defScope s_law) (by decide +kernel)) (fun _ _ _ _ _ => (pg_name (i := 13) sc_law.nd rfl (by first | exact Or.inl rfl | exact Or.inr rfl))) (fun _ _ _ _ _ => pts_nil) (fun _ _ _ _ _ => (pe_callTy (call_list_ofK (K := K)) (by rfl) T.n_list (by decide +kernel) (pa_cons (pv 13) pa_nil)))) (pa_cons (pe_callC (c__law_plain T) hr (pa_cons (pv 3) pa_nil)) pa_nil)) (by rfl))
      (pss_cons (ps_set (i := 4) sc_law.nd rfl (by first | exact Or.inl rfl | exact Or.inr rfl) (pe_makeX0 (c_History1 T) hr (pa_cons (pe_makeX0 (c_Letters T) hr (pa_cons (pv 8) pa_nil)) (pa_cons (pv 9) (pa_cons (pv 10) pa_nil)))))
      (pss_cons (ps_expr (pe_bm PySem.F.plainAttrs_list PySem.F.slot_list_append PySem.F.type_list_append mt_append (pv 10) (pa_cons (pe_lst (pa_cons (pe_ix ix_list (pv 8) pe_int (fun _ _ => rfl)) (pa_cons pe_int pa_nil))) pa_nil)))
      (pss_cons (ps_if (pt_not (pt_val (pe_callG gd (c__law_is_right T) hr (pa_cons (pv 4) (pa_cons (pv 8) (pa_cons (pv 9) (pa_cons (pv 11) pa_nil))))))) (pss_one (ps_ret pe_bl)) pss_nil)
      (pss_cons (ps_set (i := 5) sc_law.nd rfl (by first | exact Or.inl rfl | exact Or.inr rfl) (pe_makeX0 (c_History1 T) hr (pa_cons (pe_makeX0 (c_Letters T) hr (pa_cons (pe_callTy call_tuple_frz (by rfl) T.n_tuple (by decide +kernel) (pa_cons (pv 8) pa_nil)) pa_nil)) (pa_cons (pv 9) (pa_cons (pe_callTy call_tuple_frz (by rfl) T.n_tuple (by decide +kernel) (pa_cons (pe_callC (c__law_as_runs T) hr (pa_cons (pv 11) pa_nil)) pa_nil)) pa_nil)))))
      (pss_cons (ps_if (PW.pt (pw_or (pt_cmpR (op_neOwn T.ne_History (c_History___eq__ T) hr) (pv 4) (pv 5) (by rfl)) (pw_or1 (pt_not (pt_cmpR (op_eqOwn (c_History___eq__ T) hr) (pv 5) (pv 4) (by rfl)))))) (pss_one (ps_ret pe_bl)) pss_nil)
      (pss_cons (ps_set (i := 6) sc_law.nd rfl (by first | exact Or.inl rfl | exact Or.inr rfl) (pe_lst (pa_cons (pe_makeX0 (c_History1 T) hr (pa_cons (pe_makeX0 (c_Letters T) hr (pa_cons (pe_op op_cat (pv 8) (pe_lst (pa_cons (pe_callC (c__law_free T) hr (pa_cons (pv 8) pa_nil)) pa_nil))) pa_nil)) (pa_cons (pv 9) (pa_cons (pv 3) pa_nil)))) pa_nil)))
      (pss_cons (ps_expr (pe_bm PySem.F.plainAttrs_list PySem.F.slot_list_append PySem.F.type_list_append mt_append (pv 6) (pa_cons (pe_makeX0 (c_History1 T) hr (pa_cons (pe_makeX0 (c_Letters T) hr (pa_cons (pv 8) pa_nil)) (pa_cons (pv 9) (pa_cons (pv 10) pa_nil)))) pa_nil)))
      (pss_cons (ps_expr (pe_bm PySem.F.plainAttrs_list PySem.F.slot_list_append PySem.F.type_list_append mt_append (pv 6) (pa_cons (pe_makeX0 (c_History1 T) hr (pa_cons (pe_makeX0 (c_Letters T) hr (pa_cons (pv 8) pa_nil)) (pa_cons (pe_ifExp (pt_cmpR op_eq (pv 9) pe_str (by rfl)) pe_str pe_str) (pa_cons (pv 3) pa_nil)))) pa_nil)))
      (Evl.pss_cut (ps_if (pt_cmpR (op_neD hr.units) (pv 11) (pe_lst pa_nil) (by rfl)) (pss_one (ps_expr (pe_bm PySem.F.plainAttrs_list PySem.F.slot_list_append PySem.F.type_list_append mt_append (pv 6) (pa_cons (pe_makeX0 (c_History1 T) hr (pa_cons (pe_makeX0 (c_Letters T) hr (pa_cons (pv 8) pa_nil)) (pa_cons (pv 9) (pa_cons (pe_callC (c__law_as_runs T) hr (pa_cons (pe_slice sl_list (pv 11) (po_some pe_int) po_none) pa_nil)) pa_nil)))) pa_nil)))) pss_nil)
      (pss_cons (ps_if (pt_cmpR (op_neD hr.units) (pe_lc (own := [("_law_other", 14)]) (by rfl) sc_law.nd (pi_list (pv 6)) (blkOk_by (own := [("_law_other", 14)]) (N := N_law) (sc := defScope s_law) (by decide +kernel)) (fun _ _ _ _ _ => (pg_name (i := 14) sc_law.nd rfl (by first | exact Or.inl rfl | exact Or.inr rfl))) (fun _ _ _ _ _ => pts_one (PW.pt (pw_or (pt_cmpR (op_eqOwn (c_History___eq__ T) hr) (pv 4) (pv 14) (by rfl)) (pw_or1 (pt_not (pt_cmpR (op_neOwn T.ne_History (c_History___eq__ T) hr) (pv 14) (pv 4) (by rfl))))))) (fun _ _ _ _ _ => (pv 14))) (pe_lst pa_nil) (by rfl)) (pss_one (ps_ret pe_bl)) pss_nil)
      (pss_cons (ps_set (i := 7) sc_law.nd rfl (by first | exact Or.inl rfl | exact Or.inr rfl) (pe_makeX0 (c_History2 T) hr (pa_cons (pe_makeX0 (c_Letters T) hr (pa_cons (pv 8) pa_nil)) (pa_cons (pv 9) pa_nil))))
      (pss_one (ps_if (PW.pt (pw_or (pt_cmpR (op_neOwn T.ne_History (c_History___eq__ T) hr) (pv 7) (pe_makeX0 (c_History1 T) hr (pa_cons (pe_makeX0 (c_Letters T) hr (pa_cons (pv 8) pa_nil)) (pa_cons (pv 9) (pa_cons (pe_lst pa_nil) pa_nil)))) (by rfl)) (pw_or (pt_cmpR op_ne (pe_fld (pv 7) rfl) (pv 9) (by rfl)) (pw_or1 (pt_cmpR (op_neD hr.units) (pe_meth0X0 (c_History_word T) hr (pv 7)) (pe_tup pa_nil) (by rfl)))))) (pss_one (ps_ret pe_bl)) pss_nil))))))))))))))))))
  (pss_one (ps_ret pe_bl)))), ?_⟩
    walk_at "st"
    refine ⟨z, ns, rfl, hz, fun pd c H1 hpd hc p1 e1 => ?_⟩
    walk_at "st"
    refine rd_forYl (J := Itr 0 4) (H1 := H1) (fun R r => ⟨_, rfl, by decide, by decide, r⟩) (yl_range 0 4) (fun i σ H' => (∃ t, t.length = 13 ∧ σ = some (.ref z) :: some (.ref pd) :: t) ∧ PenK H' pd c (3000 * i)) (fun _ _ _ _ _ => trivial) ⟨⟨_, rfl, rfl⟩, p1⟩ (fun i x σ H2 H3 hi hv e yy => ?_) (fun σ H2 hv => ?_)
    · obtain ⟨⟨t, lt, rfl⟩, p2⟩ := hv
      obtain ⟨v2, t, rfl⟩ := List.exists_cons_of_length_eq_add_one lt
      obtain ⟨v3, t, rfl⟩ := List.exists_cons_of_length_eq_add_one (n := 11) (by simpa using lt)
      obtain ⟨v4, t, rfl⟩ := List.exists_cons_of_length_eq_add_one (n := 10) (by simpa using lt)
      obtain ⟨v5, t, rfl⟩ := List.exists_cons_of_length_eq_add_one (n := 9) (by simpa using lt)
      obtain ⟨v6, t, rfl⟩ := List.exists_cons_of_length_eq_add_one (n := 8) (by simpa using lt)
      obtain ⟨v7, t, rfl⟩ := List.exists_cons_of_length_eq_add_one (n := 7) (by simpa using lt)
      obtain ⟨v8, t, rfl⟩ := List.exists_cons_of_length_eq_add_one (n := 6) (by simpa using lt)
      obtain ⟨v9, t, rfl⟩ := List.exists_cons_of_length_eq_add_one (n := 5) (by simpa using lt)
      obtain ⟨v10, t, rfl⟩ := List.exists_cons_of_length_eq_add_one (n := 4) (by simpa using lt)
      obtain ⟨v11, t, rfl⟩ := List.exists_cons_of_length_eq_add_one (n := 3) (by simpa using lt)
      obtain ⟨v12, t, rfl⟩ := List.exists_cons_of_length_eq_add_one (n := 2) (by simpa using lt)
      obtain ⟨v13, t, rfl⟩ := List.exists_cons_of_length_eq_add_one (n := 1) (by simpa using lt)
      obtain ⟨v14, t, rfl⟩ := List.exists_cons_of_length_eq_add_one (n := 0) (by simpa using lt)
      obtain rfl : t = [] := List.length_eq_zero_iff.mp (by simpa using lt)
      clear lt
      refine rd_gname ?_
      walk_at "st"
      refine rd_asgG ?_
      walk_at "st"
      refine ⟨pd, c, _, _, rfl, p2.ex e, by omega, by decide, by decide, fun r H4 r0 r1 p4 kx4 => ?_⟩
      walk_at "st"
      obtain ⟨n, en, n1, n2⟩ : ∃ n : Nat, 1 + r = (n : Int) ∧ 1 ≤ n ∧ n ≤ 4 := ⟨(1 + r).toNat, by omega, by omega, by omega⟩
      rw [en]
      refine ⟨pd, c, _, n, rfl, p4, by omega, by omega, fun ws Li H5 hws hLi h5 p5 kx5 => ?_⟩
      obtain ⟨lw, ndw, mkw⟩ := hws
      have O : LetOk ws := ⟨by omega, by omega, fun x hx => (mkw x hx).ok, fun x hx => by have := (mkw x hx).len; omega, ndw, fun x hx => (mkw x hx).so⟩
      have w20 : ∀ z ∈ ws, z.length ≤ 20 := fun x hx => by have := (mkw x hx).len; omega
      walk_at "st"
      refine ⟨pd, c, _, rfl, p5, by omega, fun bb H6 hbb p6 kx6 => ?_⟩
      have lbb := beg_len hbb
      obtain ⟨_, hd5⟩ := p5.dK
      have h6 := kx6.lst hd5 h5
      walk_at "st"
      refine ⟨by show 2 ≤ sizeLine; decide, ?_⟩
      intro tq htq
      have e6b := Ex.new (o := HO.tup [V.ref Li, V.str bb]) htq
      have h6b : upd H6 tq (HO.tup [V.ref Li, V.str bb]) tq = some (HO.tup [V.ref Li, V.str bb]) := upd_same
      generalize upd H6 tq (HO.tup [V.ref Li, V.str bb]) = H6b at e6b h6b ⊢
      have h6 := e6b _ _ h6
      have p6 := p6.ex e6b
      refine gT2 rfl (st_of h6b) ?_
      walk_at "st"
      refine rd_lc ?_
      walk_at "st"
      refine ⟨pd, c, _, _, rfl, p6, by omega, by omega, by omega, fun r2 H7 r20 r21 p7 kx7 => ?_⟩
      obtain ⟨_, hd6⟩ := p6.dK
      have h7 := kx7.lst hd6 h6
      obtain ⟨m, em, m12⟩ : ∃ m : Nat, r2 = (m : Int) ∧ m ≤ 12 := ⟨r2.toNat, by omega, by omega⟩
      subst em
      walk_at "st"
      refine ⟨by omega, by omega, ?_⟩
      intro D hD
      refine lc_yl (yl_range 0 m) (fun j H' => ∃ vs rs, vs.length = j ∧ (∀ r ∈ rs, r.2 ≤ 12) ∧ Rp pd c Li D ws (3000 * i + 600 + 50 * j) vs rs H') (fun _ _ _ _ => trivial) ⟨[], [], rfl, (fun _ h => by cases h), ⟨(p7.ex (Ex.new hD)).mono (by omega), (Ex.new hD) _ _ h7, upd_same, .nil, fun _ h => by cases h⟩⟩ (fun j y H7 H8 hj hv e8 yy => ?_) (fun H7 hv => ?_)
      · obtain ⟨vs, rs, lv, b12, R7⟩ := hv
        have R8 := R7.ex e8
        refine ⟨rfl, ?_⟩
        walk_at "st"
        refine ⟨pd, c, _, R8.pen, by omega, .inl ⟨Li, _, rfl, R8.hli, by rw [List.length_map]; omega, by rw [List.length_map]; omega, fun xv H9 hxv p9 kx9 => ?_⟩⟩
        obtain ⟨zz, hzz, rfl⟩ := List.mem_map.mp hxv
        have R9 := R8.kx kx9 p9
        walk_at "st"
        refine ⟨pd, c, _, _, rfl, R9.pen, by omega, by decide, by decide, fun nn H10 nn1 nn2 p10 kx10 => ?_⟩
        have R10 := R9.kx kx10 p10
        walk_at "st"
        refine ⟨by show 2 ≤ sizeLine; decide, ?_⟩
        intro q hq
        have e11 := Ex.new (o := HO.tup [V.str zz, V.int (1 + nn)]) hq
        have h11 : upd H10 q (HO.tup [V.str zz, V.int (1 + nn)]) q = some (HO.tup [V.str zz, V.int (1 + nn)]) := upd_same
        generalize upd H10 q (HO.tup [V.str zz, V.int (1 + nn)]) = H11 at e11 h11 ⊢
        have R11 := R10.ex e11
        refine ⟨vs, R11.hL, Nat.lt_of_le_of_lt (show _ ≤ 100 by omega) (by decide), vs ++ [.ref q], rs ++ [(zz, 1 + nn)], by simp [lv], ?_, (R11.put (ne_of_none h7 hD) (p7.nc hD) h11 hzz (by omega) (by omega)).mono (by omega)⟩
        intro r hr
        rcases List.mem_append.mp hr with h | h
        · exact b12 r h
        · rw [List.mem_singleton] at h; subst h; show 1 + nn ≤ 12; omega
      · obtain ⟨vs, rs, lv, b12, R7⟩ := hv
        have lrs := R7.pt.len
        have s12 := sum_le12 rs b12
        walk_at "st"
        refine ⟨fun σ' H' => ∃ vs rs, σ' = [some (.ref z), some (.ref pd), some x, some (.ref D), v4, v5, v6, v7, some (.ref Li), some (.str bb), v10, v11, v12, v13, v14] ∧ Rp pd c Li D ws (3000 * i + 1500) vs rs H' ∧ rs.length ≤ 13 ∧ sumL rs ≤ 4000, ?_, ?_⟩
        · walk_at "st"
          refine ⟨pd, c, _, _, rfl, R7.pen, by omega, by decide, by decide, fun r3 H8 r30 r31 p8 kx8 => ?_⟩
          have R8 := R7.kx kx8 p8
          walk_at "st"
          refine ite2 (fun h => ?_) (fun h => ?_)
          · walk_at "st"
            refine rd_tyL (sq_of R8.hL) ?_
            walk_at "st"
            refine ⟨pd, c, _, R8.pen, by omega, .inl ⟨Li, _, rfl, R8.hli, by rw [List.length_map]; omega, by rw [List.length_map]; omega, fun xv H9 hxv p9 kx9 => ?_⟩⟩
            obtain ⟨zz, hzz, rfl⟩ := List.mem_map.mp hxv
            have R9 := R8.kx kx9 p9
            walk_at "st"
            refine ⟨pd, c, _, _, rfl, R9.pen, by omega, by decide, by decide, fun nn H10 nn1 nn2 p10 kx10 => ?_⟩
            have R10 := R9.kx kx10 p10
            walk_at "st"
            refine ⟨by show 2 ≤ sizeLine; decide, ?_⟩
            intro q hq
            have e11 := Ex.new (o := HO.tup [V.str zz, V.int (1998 + nn)]) hq
            have h11 : upd H10 q (HO.tup [V.str zz, V.int (1998 + nn)]) q = some (HO.tup [V.str zz, V.int (1998 + nn)]) := upd_same
            generalize upd H10 q (HO.tup [V.str zz, V.int (1998 + nn)]) = H11 at e11 h11 ⊢
            have R11 := R10.ex e11
            refine rd_nil ?_
            refine rd_append R11.hL (Nat.lt_of_le_of_lt (show _ ≤ 100 by omega) (by decide)) ?_
            refine ⟨_, _, rfl, (R11.put (ne_of_none h7 hD) (p7.nc hD) h11 hzz (by omega) (by omega)).mono (by omega), by simp; omega, ?_⟩
            rw [sum_app]
            show sumL rs + sumL [(zz, 1998 + nn)] ≤ _
            rw [sumL_cons, sumL_nil]
            show sumL rs + (1998 + nn + 0) ≤ _
            omega
          · walk_at "st"
            exact ⟨vs, rs, rfl, R8.mono (by omega), by omega, by omega⟩
        clear R7 lv b12 lrs s12 vs rs H7
        rintro σ' H7 ⟨vs, rs, rfl, R7, lrs, srs⟩
        have lvs := R7.pt.len
        walk_at "st"
        have srcs : ∀ r ∈ rs, PyData.strOk r.1 = true := fun r hr => O.so _ (R7.g r hr).1
        have posrs : ∀ r ∈ rs, 1 ≤ r.2 := fun r hr => (R7.g r hr).2.1
        have grs : ∀ r ∈ rs, r.1 ∈ ws ∧ 1 ≤ r.2 ∧ r.2 ≤ 1000000000000000000000000000000 := fun r hr => by have := R7.g r hr; exact ⟨this.1, this.2.1, by omega⟩
        refine rd_lcYl (J := Itl K D) (H1 := H7) (fun R q => ⟨_, rfl, D, rfl, ⟨_, sq_of R7.hL⟩, q⟩) (yl_list vs) (fun G j H' => H7 G = none ∧ Ex H7 H' ∧ ∃ gs, H' G = some (.lst gs) ∧ RunsAre [G] H' ws gs ((rs.take j).map okC)) (fun G j H' _ q => sq_of (q.2.1 _ _ R7.hL)) (fun G hG => ⟨hG, Ex.new hG, [], upd_same, .nil⟩) (fun G j y H8 H9 hj pv e9 yy => ?_) (fun G H8 pv => ?_)
        · obtain ⟨hG, e8, gs, hg, ar⟩ := pv
          have e79 := e8.trans e9
          obtain ⟨⟨zz, cc⟩, pp, hri, rfl, sp⟩ := (R7.pt.ex e79).get yy
          have g0 := grs _ (List.mem_of_getElem? hri)
          have tk : rs.take (j + 1) = rs.take j ++ [(zz, cc)] := by rw [List.take_add_one, hri]; rfl
          refine ⟨rfl, ?_⟩
          walk_at "st"
          refine ⟨pp, _, rfl, .inr (st_of sp), ?_⟩
          intro np hnp
          have e10 := Ex.new (o := HO.lst [V.str zz, V.int cc]) hnp
          have h10 : upd H9 np (HO.lst [V.str zz, V.int cc]) np = some (HO.lst [V.str zz, V.int cc]) := upd_same
          generalize upd H9 np (HO.lst [V.str zz, V.int cc]) = H10 at e10 h10 ⊢
          have hg10 := e10 _ _ (e9 _ _ hg)
          have npG : np ≠ G := fun q => by rw [q, e9 _ _ hg] at hnp; cases hnp
          have lgs := ar.1
          rw [List.length_map, List.length_take] at lgs
          refine ⟨gs, hg10, Nat.lt_of_le_of_lt (show _ ≤ 100 by omega) (by decide), hG, Ex.mut (e79.trans e10) hG, _, upd_same, ?_⟩
          rw [tk, List.map_append]
          refine (((ar.ex e9).ex e10).app (.one (RunIs.ok (.inl h10) (fun q hq e => ?_) g0.1 g0.2.1 g0.2.2))).to (fun b o hb h => by rw [upd_ne (fun q => hb (by rw [q]; simp))]; exact h)
          cases e
          rw [List.mem_singleton] at hq
          exact npG hq
        obtain ⟨hG, e8, gs, hg, ar⟩ := pv
        rw [List.take_of_length_le (by omega)] at ar
        have R8 := R7.ex e8
        walk_at "st"
        refine ⟨D, vs, rs, rfl, R8.hL, R8.pt.pr, posrs, by omega, fun Wd H9 hWd e9 h9 => ?_⟩
        have R9 := R8.ex e9
        have hg9 := e9 _ _ hg
        have ar9 := ar.ex e9
        walk_at "st"
        refine mk_letE (.inl R9.hli) O fun lp H10 hlp e10 L10 => ?_
        walk_at "st"
        have lgs := ar.1
        rw [List.length_map] at lgs
        have lJ : (joinR rs).length ≤ 13 := Nat.le_trans (joinR_len rs) lrs
        refine mk_hisE L10 O.short hbb lbb (.inl (e10 _ _ hg9)) (by omega) ((ar9.ex e10).sub (fun _ h => by cases h)) (.inr (T.k_dk_ahead_History___init__ H10)) (by decide) .nil (fun y hy => by cases hy) (by show (joinR rs).length ≤ 400; omega) fun mp H11 hmp e11 M11 => ?_
        have M11 : HisAt a K H11 mp lp bb (joinR rs) := M11
        have e911 := e10.trans e11
        have L11 := L10.ex e11
        have R11 := R9.ex e911
        have hg11 := e911 _ _ hg9
        have hW11 := e911 _ _ h9
        have ar11 := ar9.ex e911
        obtain ⟨w0, wt, ews⟩ : ∃ w0 wt, ws = w0 :: wt := by
          cases hws : ws with
          | nil => rw [hws] at lw; simp at lw; omega
          | cons w0 wt => exact ⟨w0, wt, rfl⟩
        have hw0 : w0 ∈ ws := by rw [ews]; exact List.mem_cons_self ..
        walk_at "st"
        refine rd_tyL (sq_of hg11) ?_
        walk_at "st"
        refine ⟨Li, _, _, _, rfl, rfl, sq_of R11.hli, atI_nat (j := 0) (v := V.str w0) (by rw [ews]; rfl), ?_⟩
        walk_at "st"
        refine ⟨by show 2 ≤ sizeLine; decide, ?_⟩
        intro gq hgq
        have e12 := Ex.new (o := HO.lst [V.str w0, V.int 1]) hgq
        have h12 : upd H11 gq (HO.lst [V.str w0, V.int 1]) gq = some (HO.lst [V.str w0, V.int 1]) := upd_same
        generalize upd H11 gq (HO.lst [V.str w0, V.int 1]) = H12 at e12 h12 ⊢
        have hg12 := e12 _ _ hg11
        refine rd_nil ?_
        refine rd_append hg12 (Nat.lt_of_le_of_lt (show _ ≤ 100 by omega) (by decide)) ?_
        have gqG : gq ≠ G := fun q => by rw [q, hg11] at hgq; cases hgq
        have LiG : Li ≠ G := ne_of_none R7.hli hG
        have DG : D ≠ G := ne_of_none R7.hL hG
        have WG : Wd ≠ G := fun q => by rw [q, hg] at hWd; cases hWd
        have kG : Kt H12 (upd H12 G (.lst (gs ++ [.ref gq]))) := Kt.lst hg12
        have M13 : HisAt a K (upd H12 G (.lst (gs ++ [.ref gq]))) mp lp bb (joinR rs) := (M11.ex e12).kl hg12
        have L13 : LetAt a (upd H12 G (.lst (gs ++ [.ref gq]))) lp ws := (L11.ex e12).kl hg12
        have Li13 : upd H12 G (.lst (gs ++ [.ref gq])) Li = some (.lst (ws.map V.str)) := by rw [upd_ne LiG]; exact e12 _ _ R11.hli
        have D13 : upd H12 G (.lst (gs ++ [.ref gq])) D = some (.lst vs) := by rw [upd_ne DG]; exact e12 _ _ R11.hL
        have W13 : upd H12 G (.lst (gs ++ [.ref gq])) Wd = some (.lst ((flatR rs).map V.str)) := by rw [upd_ne WG]; exact e12 _ _ hW11
        have G13 : upd H12 G (.lst (gs ++ [.ref gq])) G = some (.lst (gs ++ [.ref gq])) := upd_same
        have pt13 := (R11.pt.ex e12).kt kG
        have p13 : PenK (upd H12 G (.lst (gs ++ [.ref gq]))) pd c (3000 * i + 1500) := (R11.pen.ex e12).wr (R7.pen.np hG) (R7.pen.nc hG)
        have ar13 : RunsAre [] (upd H12 G (.lst (gs ++ [.ref gq]))) ws (gs ++ [.ref gq]) ((rs ++ [(w0, 1)]).map okC) := by
          rw [List.map_append]
          refine (((ar11.ex e12).app (.one (RunIs.ok (.inl h12) (fun q hq e => ?_) hw0 (by decide) (by decide)))).to (fun b o hb h => by rw [upd_ne (fun q => hb (by rw [q]; simp))]; exact h)).sub (fun _ h => by cases h)
          cases e
          rw [List.mem_singleton] at hq
          exact gqG hq
        generalize upd H12 G (.lst (gs ++ [.ref gq])) = H13 at M13 L13 Li13 D13 W13 G13 pt13 p13 ar13 ⊢
        clear M11 L11 L10 R11 R9 R8 hg11 hW11 ar11 ar9 hg12 kG h12 e12 e911 e10 e11 hg9 h9 e9 ar hg
        have memJ : ∀ y ∈ joinR rs, y.1 ∈ ws := joinR_mem (C := fun x => x ∈ ws) rs [] (fun y hy => (grs y hy).1) (by simp)
        have posJ := join_pos posrs
        have sumJ := sum_join rs
        have soJ : ∀ y ∈ joinR rs, PyData.strOk y.1 = true := fun y hy => O.so _ (memJ y hy)
        have flJ := flat_join posrs
        have unJ := join_unit posrs
        have fl := flat_len rs posrs
        have mfs : ∀ y ∈ flatR rs, y ∈ ws := fun y hy => by
          unfold flatR at hy
          obtain ⟨r, hr, hy⟩ := List.mem_flatMap.mp hy
          rw [(List.mem_replicate.mp hy).2]
          exact (grs r hr).1
        walk_at "st"
        refine ⟨mp, lp, Li, Wd, bb, joinR rs, ws, flatR rs, rfl, M13, L13, Li13, O, w20, hbb, W13, flJ.symm, unJ.symm, fun r hr => ⟨posJ r hr, memJ r hr⟩, by omega, by omega, mfs, fun H14 e14 => ?_⟩
        walk_at "st"
        refine ⟨Li, _, rfl, .inl ⟨sq_of (e14 _ _ Li13), fun l o hl ho => ?_⟩⟩
        have e15 := Ex.new (o := HO.frz o (.tup (ws.map V.str))) hl
        have h15 : upd H14 l (HO.frz o (.tup (ws.map V.str))) l = some (.frz o (.tup (ws.map V.str))) := upd_same
        generalize upd H14 l (HO.frz o (.tup (ws.map V.str))) = H15 at e15 h15 ⊢
        walk_at "st"
        refine mk_letE (.inr ⟨o, h15, ho⟩) O fun l2 H16 hl2 e16 L16 => ?_
        walk_at "st"
        have e1316 := (e14.trans e15).trans e16
        have sofs : ∀ y ∈ flatR rs, PyData.strOk y = true := fun y hy => O.so _ (mfs y hy)
        refine ⟨Wd, flatR rs, rfl, e1316 _ _ W13, by omega, sofs, fun P0 ts H17 hP0 e17 h17 pts => ?_⟩
        rw [unJ] at pts
        walk_at "st"
        refine ⟨P0, ts, rfl, .inl ⟨sq_of h17, fun l3 o3 hl3 ho3 => ?_⟩⟩
        have e18 := Ex.new (o := HO.frz o3 (.tup ts)) hl3
        have h18 : upd H17 l3 (HO.frz o3 (.tup ts)) l3 = some (.frz o3 (.tup ts)) := upd_same
        generalize upd H17 l3 (HO.frz o3 (.tup ts)) = H18 at e18 h18 ⊢
        have lts := pts.len
        have gJ : ∀ r ∈ joinR rs, r.1 ∈ ws ∧ 1 ≤ r.2 ∧ r.2 ≤ 1000000000000000000000000000000 := fun r hr => by
          refine ⟨memJ r hr, posJ r hr, ?_⟩
          obtain ⟨i, hi⟩ := List.getElem?_of_mem hr
          have := flat_at (z := r.1) (n := r.2) hi
          rw [flJ] at this
          omega
        refine rd_nil ?_
        refine mk_hisE (L16.ex (e17.trans e18)) O.short hbb lbb (.inr (st_frz h18)) (by omega) (pt_runs (pts.ex e18) gJ) (.inr (T.k_dk_ahead_History___init__ H18)) (by decide) .nil (fun y hy => by cases hy) (by show (joinR (joinR rs)).length ≤ 400; rw [join_join]; omega) fun tw H19 htw e19 T19 => ?_
        have T19 : HisAt a K H19 tw l2 bb (joinR (joinR rs)) := T19
        rw [join_join] at T19
        have e1319 := e1316.trans ((e17.trans e18).trans e19)
        have M19 := M13.ex e1319
        have L19 := L13.ex e1319
        have L19b := (L16.ex (e17.trans e18)).ex e19
        walk_at "st"
        refine rd_hisCmp M19 T19 L19 L19b soJ soJ ?_
        rw [dec_yes]
        walk_at "st"
        refine rd_hisCmp T19 M19 L19b L19 soJ soJ ?_
        rw [dec_yes]
        dsimp only [id]
        walk_at "st"
        have Li19 := e1319 _ _ Li13
        have D19 := e1319 _ _ D13
        have W19 := e1319 _ _ W13
        have G19 := e1319 _ _ G13
        have pt19 := pt13.ex e1319
        have p19 := p13.ex e1319
        have ar19 := ar13.ex e1319
        clear M13 L13 Li13 D13 W13 G13 pt13 p13 ar13 e1319 e1316 e14 e15 e16 e17 e18 e19
        refine ⟨Li, ws, rfl, Li19, by omega, fun fz H20 fz1 fz2 fz3 fz4 e20 => ?_⟩
        walk_at "st"
        refine ⟨by show 1 ≤ sizeLine; decide, ?_⟩
        intro f1 hf1
        have e21 := Ex.new (o := HO.lst [V.str fz]) hf1
        have h21 : upd H20 f1 (HO.lst [V.str fz]) f1 = some (HO.lst [V.str fz]) := upd_same
        generalize upd H20 f1 (HO.lst [V.str fz]) = H21 at e21 h21 ⊢
        refine rd_cat ((e20.trans e21) _ _ Li19) h21 (by simp; omega) fun f2 H22 hf2 e22 h22 => ?_
        have e1922 := (e20.trans e21).trans e22
        have O2 : LetOk (ws ++ [fz]) := ⟨by simp, by simp; omega, fun x hx => ?_, fun x hx => ?_, ?_, fun x hx => ?_⟩
        rotate_left
        · rcases List.mem_append.mp hx with h | h
          · exact O.ok x h
          · rw [List.mem_singleton] at h; subst h; exact fz2
        · rcases List.mem_append.mp hx with h | h
          · exact O.short x h
          · rw [List.mem_singleton] at h; subst h; omega
        · rw [List.nodup_append]
          refine ⟨O.nd, by simp, fun x hx y hy q => ?_⟩
          rw [List.mem_singleton] at hy
          rw [q, hy] at hx
          exact fz1 hx
        · rcases List.mem_append.mp hx with h | h
          · exact O.so x h
          · rw [List.mem_singleton] at h; subst h; exact fz3
        have h22' : H22 f2 = some (.lst ((ws ++ [fz]).map V.str)) := by rw [h22, List.map_append]; rfl
        refine rd_nil ?_
        refine mk_letE (.inl h22') O2 fun l3 H23 hl3 e23 L23 => ?_
        walk_at "st"
        have e1923 := e1922.trans e23
        refine mk_hisE L23 O2.short hbb lbb (.inl (e1923 _ _ D19)) (by omega) (pt_runs (pt19.ex e1923) fun r hr => ⟨List.mem_append_left _ (grs r hr).1, (grs r hr).2⟩) (.inr (T.k_dk_ahead_History___init__ H23)) (by decide) .nil (fun y hy => by cases hy) (by show (joinR rs).length ≤ 400; omega) fun x1 H24 hx1 e24 X24 => ?_
        have X24 : HisAt a K H24 x1 l3 bb (joinR rs) := X24
        have e1924 := e1923.trans e24
        have o24 : Ot a K ws bb (joinR rs) H24 (.ref x1) := ⟨x1, l3, bb, joinR rs, ws ++ [fz], rfl, X24, L23.ex e24, soJ, fun q => by have := congrArg List.length q.1; simp at this⟩
        refine rd_nil ⟨by show 1 ≤ sizeLine; decide, ?_⟩
        intro Ob hOb
        have e25 := Ex.new (o := HO.lst [V.ref x1]) hOb
        have h25 : upd H24 Ob (HO.lst [V.ref x1]) Ob = some (HO.lst [V.ref x1]) := upd_same
        generalize upd H24 Ob (HO.lst [V.ref x1]) = H25 at e25 h25 ⊢
        have e1925 := e1924.trans e25
        have nOb : ∀ {q : Addr} {o : HO}, H19 q = some o → q ≠ Ob := fun {q o} h => ne_of_none (e1924 _ _ h) hOb
        have p25 := p19.ex e1925
        have o25 := o24.ex e25
        walk_at "st"
        refine rd_tyL (sq_of h25) ?_
        walk_at "st"
        refine mk_letE (.inl (e1925 _ _ Li19)) O fun l4 H26 hl4 e26 L26 => ?_
        walk_at "st"
        have e1926 := e1925.trans e26
        have lgg : (gs ++ [V.ref gq]).length ≤ 4000 := by simp; omega
        refine mk_hisE L26 O.short hbb lbb (.inl (e1926 _ _ G19)) lgg (ar19.ex e1926) (.inr (T.k_dk_ahead_History___init__ H26)) (by decide) .nil (fun y hy => by cases hy) (by
          show (joinR (rs ++ [(w0, 1)])).length ≤ 400
          have := joinR_len (rs ++ [(w0, 1)])
          rw [List.length_append, List.length_singleton] at this
          omega) fun x2 H27 hx2 e27 X27 => ?_
        have X27 : HisAt a K H27 x2 l4 bb (joinR (rs ++ [(w0, 1)])) := X27
        have so2 : ∀ y ∈ joinR (rs ++ [(w0, 1)]), PyData.strOk y.1 = true := fun y hy => O.so _ (joinR_mem (C := fun x => x ∈ ws) (rs ++ [(w0, 1)]) [] (fun y hy => by
          rcases List.mem_append.mp hy with h | h
          · exact (grs y h).1
          · rw [List.mem_singleton] at h; rw [h]; exact hw0) (by simp) y hy)
        have o27 : Ot a K ws bb (joinR rs) H27 (.ref x2) := ⟨x2, l4, bb, _, ws, rfl, X27, L26.ex e27, so2, fun q => by
          have := congrArg sumL q.2.2
          rw [sum_join, sum_join, sum_app, sumL_cons, sumL_nil] at this
          have : sumL rs = sumL rs + (1 + 0) := this
          omega⟩
        have o27b := (o25.ex e26).ex e27
        have e1927 := e1926.trans e27
        have h27 := (e26.trans e27) _ _ h25
        refine rd_nil ?_
        refine rd_append h27 (by show 1 < sizeLine; decide) ?_
        have M28 : HisAt a K (upd H27 Ob (.lst ([V.ref x1] ++ [V.ref x2]))) mp lp bb (joinR rs) := (M19.ex e1927).kl h27
        have L28 : LetAt a (upd H27 Ob (.lst ([V.ref x1] ++ [V.ref x2]))) lp ws := (L19.ex e1927).kl h27
        have Li28 : upd H27 Ob (.lst ([V.ref x1] ++ [V.ref x2])) Li = some (.lst (ws.map V.str)) := by rw [upd_ne (nOb Li19)]; exact e1927 _ _ Li19
        have D28 : upd H27 Ob (.lst ([V.ref x1] ++ [V.ref x2])) D = some (.lst vs) := by rw [upd_ne (nOb D19)]; exact e1927 _ _ D19
        have W28 : upd H27 Ob (.lst ([V.ref x1] ++ [V.ref x2])) Wd = some (.lst ((flatR rs).map V.str)) := by rw [upd_ne (nOb W19)]; exact e1927 _ _ W19
        have pt28 := (pt19.ex e1927).kt (Kt.lst (o := .lst ([V.ref x1] ++ [V.ref x2])) h27)
        have p28 : PenK (upd H27 Ob (.lst ([V.ref x1] ++ [V.ref x2]))) pd c (3000 * i + 1500) := (p19.ex e1927).wr ((p19.ex e1924).np hOb) ((p19.ex e1924).nc hOb)
        have o28a : Ot a K ws bb (joinR rs) (upd H27 Ob (.lst ([V.ref x1] ++ [V.ref x2]))) (.ref x1) := o27b.kl h27
        have o28b : Ot a K ws bb (joinR rs) (upd H27 Ob (.lst ([V.ref x1] ++ [V.ref x2]))) (.ref x2) := o27.kl h27
        have h28 : upd H27 Ob (.lst ([V.ref x1] ++ [V.ref x2])) Ob = some (.lst [V.ref x1, V.ref x2]) := upd_same
        generalize upd H27 Ob (.lst ([V.ref x1] ++ [V.ref x2])) = H28 at M28 L28 Li28 D28 W28 pt28 p28 o28a o28b h28 ⊢
        have n1 := nOb Li19
        have n2 := nOb D19
        have n3 := nOb W19
        have n4 := (p19.ex e1924).np hOb
        have n5 := (p19.ex e1924).nc hOb
        clear nOb M19 L19 T19 L19b Li19 D19 W19 G19 pt19 p19 ar19 e1922 e1923 e1924 e1925 e1926 e1927 o24 o25 o27 o27b h27 X24 X27 L23 L26 e20 e21 e22 e23 e24 e25 e26 e27 h25 h22 h22' h21 p25
        walk_at "st"
        refine rd_tyL (sq_of h28) ?_
        walk_at "st"
        refine mk_letE (.inl Li28) O fun l5 H29 hl5 e29 L29 => ?_
        walk_at "st"
        obtain ⟨cb, ecb, hcb, ncb, lcb⟩ := beg_other hbb
        refine rd_ifC ?_
        rw [ecb]
        walk_at "st"
        refine mk_hisE L29 O.short hcb lcb (.inl (e29 _ _ D28)) (by omega) (pt_runs (pt28.ex e29) grs) (.inr (T.k_dk_ahead_History___init__ H29)) (by decide) .nil (fun y hy => by cases hy) (by show (joinR rs).length ≤ 400; omega) fun x3 H30 hx3 e30 X30 => ?_
        have X30 : HisAt a K H30 x3 l5 cb (joinR rs) := X30
        have e2830 := e29.trans e30
        have o30 : Ot a K ws bb (joinR rs) H30 (.ref x3) := ⟨x3, l5, cb, joinR rs, ws, rfl, X30, L29.ex e30, soJ, fun q => ncb q.2.1⟩
        have h30 := e2830 _ _ h28
        refine rd_nil ?_
        refine rd_append h30 (by show 2 < sizeLine; decide) ?_
        have M31 : HisAt a K (upd H30 Ob (.lst ([V.ref x1, V.ref x2] ++ [V.ref x3]))) mp lp bb (joinR rs) := (M28.ex e2830).kl h30
        have L31 : LetAt a (upd H30 Ob (.lst ([V.ref x1, V.ref x2] ++ [V.ref x3]))) lp ws := (L28.ex e2830).kl h30
        have Li31 : upd H30 Ob (.lst ([V.ref x1, V.ref x2] ++ [V.ref x3])) Li = some (.lst (ws.map V.str)) := by rw [upd_ne n1]; exact e2830 _ _ Li28
        have W31 : upd H30 Ob (.lst ([V.ref x1, V.ref x2] ++ [V.ref x3])) Wd = some (.lst ((flatR rs).map V.str)) := by rw [upd_ne n3]; exact e2830 _ _ W28
        have p31 : PenK (upd H30 Ob (.lst ([V.ref x1, V.ref x2] ++ [V.ref x3]))) pd c (3000 * i + 1500) := (p28.ex e2830).wr n4 n5
        have o31 : ∀ v ∈ [V.ref x1, V.ref x2, V.ref x3], Ot a K ws bb (joinR rs) (upd H30 Ob (.lst ([V.ref x1, V.ref x2] ++ [V.ref x3]))) v := fun v hv => by
          simp only [List.mem_cons, List.not_mem_nil, or_false] at hv
          rcases hv with rfl | rfl | rfl
          · exact (o28a.ex e2830).kl h30
          · exact (o28b.ex e2830).kl h30
          · exact o30.kl h30
        have h31 : upd H30 Ob (.lst ([V.ref x1, V.ref x2] ++ [V.ref x3])) Ob = some (.lst [V.ref x1, V.ref x2, V.ref x3]) := upd_same
        generalize upd H30 Ob (.lst ([V.ref x1, V.ref x2] ++ [V.ref x3])) = H31 at M31 L31 Li31 W31 p31 o31 h31 ⊢
        clear M28 L28 Li28 D28 W28 pt28 p28 o28a o28b h28 e29 e30 e2830 o30 h30 X30 L29
        refine ⟨fun σ' H' => σ' = [some (.ref z), some (.ref pd), some x, some (.ref D), some (.ref mp), some (.ref tw), some (.ref Ob), v7, some (.ref Li), some (.str bb), some (.ref G), some (.ref Wd), v12, v13, v14] ∧ HisAt a K H' mp lp bb (joinR rs) ∧ LetAt a H' lp ws ∧ H' Li = some (.lst (ws.map V.str)) ∧ PenK H' pd c (3000 * i + 1500) ∧ ∃ os, os.length ≤ 10 ∧ H' Ob = some (.lst os) ∧ ∀ v ∈ os, Ot a K ws bb (joinR rs) H' v, ?_, ?_⟩
        · walk_at "st"
          refine ⟨by show 0 ≤ sizeLine; decide, ?_⟩
          intro em hem
          have e32 := Ex.new (o := HO.lst []) hem
          have h32 : upd H31 em (HO.lst []) em = some (HO.lst []) := upd_same
          generalize upd H31 em (HO.lst []) = H32 at e32 h32 ⊢
          refine ⟨.list ((flatR rs).map PyData.str), .list [], .lst (sq_of (e32 _ _ W31)) (dp_strs _), .lst (sq_of h32) .nil, ?_, by decide +kernel, ?_⟩
          · have := depth_strs (flatR rs)
            unfold SeqAt.shaped
            rw [PyData.canLay0, lay_strs sofs, Bool.true_and]
            apply decide_eq_true
            simp only [PyData.depth]; omega
          rw [show PyData.eqv (.list ((flatR rs).map PyData.str)) (.list []) = (flatR rs).isEmpty by cases flatR rs <;> rfl]
          cases hfe : (flatR rs).isEmpty with
          | true =>
            walk_at "st"
            exact ⟨rfl, M31.ex e32, L31.ex e32, e32 _ _ Li31, p31.ex e32, _, by simp, e32 _ _ h31, fun v hv => (o31 v hv).ex e32⟩
          | false =>
            walk_at "st"
            refine rd_tyL (sq_of (e32 _ _ h31)) ?_
            walk_at "st"
            refine mk_letE (.inl (e32 _ _ Li31)) O fun l6 H33 hl6 e33 L33 => ?_
            walk_at "st"
            refine rd_slL (sq_of ((e32.trans e33) _ _ W31)) (fun sw H34 hsw e34 h34 => ?_)
            have nfe : (flatR rs).map V.str ≠ [] := fun q => by
              have : flatR rs = [] := List.map_eq_nil_iff.mp q
              rw [this] at hfe; cases hfe
            rw [cutV_tail nfe, ← List.map_tail] at h34
            have lft : (flatR rs).tail.length + 1 = (flatR rs).length := by
              cases hq : flatR rs with
              | nil => rw [hq] at hfe; cases hfe
              | cons y t => rfl
            have mtl : ∀ y ∈ (flatR rs).tail, y ∈ ws := fun y hy => mfs y (List.mem_of_mem_tail hy)
            walk_at "st"
            refine ⟨sw, (flatR rs).tail, rfl, h34, by omega, fun y hy => O.so _ (mtl y hy), fun P1 us H35 hP1 e35 h35 pus => ?_⟩
            have e3135 := ((e32.trans e33).trans e34).trans e35
            have memU : ∀ y ∈ joinR (unitR (flatR rs).tail), y.1 ∈ ws := joinR_mem (C := fun x => x ∈ ws) _ [] (fun y hy => by
              obtain ⟨q, hq, rfl⟩ := List.mem_map.mp hy
              exact mtl q hq) (by simp)
            have posU := join_pos (unit_pos (flatR rs).tail)
            have lus := pus.len
            have lU : (joinR (unitR (flatR rs).tail)).length ≤ 400 := by
              obtain ⟨ts', t1, t2, t3⟩ := tail_flat posrs
              rw [t3, join_unit t1]
              have := joinR_len ts'
              omega
            have gU : ∀ r ∈ joinR (unitR (flatR rs).tail), r.1 ∈ ws ∧ 1 ≤ r.2 ∧ r.2 ≤ 1000000000000000000000000000000 := fun r hr => by
              refine ⟨memU r hr, posU r hr, ?_⟩
              obtain ⟨i, hi⟩ := List.getElem?_of_mem hr
              have := flat_at (z := r.1) (n := r.2) hi
              have l2 := flat_len _ posU
              rw [sum_join, sum_unit] at l2
              omega
            walk_at "st"
            refine mk_hisE (L33.ex (e34.trans e35)) O.short hbb lbb (.inl h35) (by omega) (pt_runs pus gU) (.inr (T.k_dk_ahead_History___init__ H35)) (by decide) .nil (fun y hy => by cases hy) (by show (joinR (joinR (unitR (flatR rs).tail))).length ≤ 400; rw [join_join]; omega) fun x4 H36 hx4 e36 X36 => ?_
            have X36 : HisAt a K H36 x4 l6 bb (joinR (joinR (unitR (flatR rs).tail))) := X36
            rw [join_join] at X36
            have e3136 := e3135.trans e36
            have o36 : Ot a K ws bb (joinR rs) H36 (.ref x4) := ⟨x4, l6, bb, _, ws, rfl, X36, (L33.ex (e34.trans e35)).ex e36, fun y hy => O.so _ (memU y hy), fun q => by
              have := congrArg sumL q.2.2
              rw [sum_join, sum_join, sum_unit] at this
              omega⟩
            have h36 := e3136 _ _ h31
            refine rd_nil ?_
            refine rd_append h36 (by show 3 < sizeLine; decide) ?_
            refine ⟨rfl, (M31.ex e3136).kl h36, (L31.ex e3136).kl h36, by rw [upd_ne n1]; exact e3136 _ _ Li31, (p31.ex e3136).wr n4 n5, _, ?_, upd_same, fun v hv => ?_⟩
            · simp
            · rcases List.mem_append.mp hv with h | h
              · exact ((o31 v h).ex e3136).kl h36
              · rw [List.mem_singleton] at h; subst h; exact o36.kl h36
        clear M31 L31 Li31 W31 p31 o31 h31 H31
        rintro σ' H31 ⟨rfl, M31, L31, Li31, p31, os, los, h31, o31⟩
        walk_at "st"
        refine rd_lcYl (J := Itl K Ob) (H1 := H31) (fun R q => ⟨_, rfl, Ob, rfl, ⟨_, sq_of h31⟩, q⟩) (yl_list os) (fun D i H' => H31 D = none ∧ Ex H31 H' ∧ H' D = some (.lst [])) (fun D i H' _ p => sq_of (p.2.1 _ _ h31)) (fun D hD => ⟨hD, Ex.new hD, upd_same⟩) (fun E1 j y H32 H33 hj pv e33 yy => ?_) (fun E1 H32 pv => ?_)
        · obtain ⟨hE1, e32, g32⟩ := pv
          have e3133 := e32.trans e33
          obtain ⟨q, m, cb2, ts2, zs, rfl, Q1, Q2, Q3, Q4⟩ := (o31 y (List.mem_of_getElem? yy)).ex e3133
          refine ⟨rfl, ?_⟩
          walk_at "st"
          refine rd_hisCmp (M31.ex e3133) Q1 (L31.ex e3133) Q2 soJ Q3 ?_
          rw [dec_no Q4]
          dsimp only [id]
          walk_at "st"
          refine rd_hisCmp Q1 (M31.ex e3133) Q2 (L31.ex e3133) Q3 soJ ?_
          rw [dec_no fun q => Q4 ⟨q.1.symm, q.2.1.symm, q.2.2.symm⟩]
          walk_at "st"
          exact ⟨hE1, e3133, e33 _ _ g32⟩
        · obtain ⟨hE1, e32, g32⟩ := pv
          walk_at "st"
          refine ⟨by show 0 ≤ sizeLine; decide, ?_⟩
          intro q22 hq22
          have e33 := Ex.new (o := HO.lst []) hq22
          have h33 : upd H32 q22 (HO.lst []) q22 = some (HO.lst []) := upd_same
          generalize upd H32 q22 (HO.lst []) = H33 at e33 h33 ⊢
          refine ⟨.list [], .list [], .lst (sq_of (e33 _ _ g32)) .nil, .lst (sq_of h33) .nil, by decide +kernel, by decide +kernel, ?_⟩
          rw [show PyData.eqv (.list []) (.list []) = true from rfl]
          walk_at "st"
          have e3133 := e32.trans e33
          refine mk_letE (.inl (e3133 _ _ Li31)) O fun l7 H34 hl7 e34 L34 => ?_
          walk_at "st"
          refine mk_hisE L34 O.short hbb lbb (.inr (T.k_dp0_History___init__ H34)) (by decide) (rs := []) .nil (.inr (T.k_dk_ahead_History___init__ H34)) (by decide) .nil (fun y hy => by cases hy) (by decide) fun b1 H35 hb1 e35 B35 => ?_
          have e3135 := e3133.trans (e34.trans e35)
          walk_at "st"
          refine mk_letE (.inl (e3135 _ _ Li31)) O fun l8 H36 hl8 e36 L36 => ?_
          walk_at "st"
          refine ⟨by show 0 ≤ sizeLine; decide, ?_⟩
          intro q23 hq23
          have e37 := Ex.new (o := HO.lst []) hq23
          have h37 : upd H36 q23 (HO.lst []) q23 = some (HO.lst []) := upd_same
          generalize upd H36 q23 (HO.lst []) = H37 at e37 h37 ⊢
          refine rd_nil ?_
          refine mk_hisE (L36.ex e37) O.short hbb lbb (.inl h37) (by decide) (rs := []) .nil (.inr (T.k_dk_ahead_History___init__ H37)) (by decide) .nil (fun y hy => by cases hy) (by decide) fun b2 H38 hb2 e38 B38 => ?_
          have e3538 := (e36.trans e37).trans e38
          have B1 := B35.ex e3538
          refine rd_hisCmp B1 B38 ((L34.ex e35).ex e3538) ((L36.ex e37).ex e38) (fun y hy => by cases hy) (fun y hy => by cases hy) ?_
          rw [dec_yes]
          walk_at "st"
          obtain ⟨dp, tp, op, xs, m1, m2, m3, m4⟩ := id B1
          refine rd_fldAt m1 T.cl_History T.na_History_last rfl ?_
          walk_at "st"
          rw [show lastR bb (joinR ([] ++ [])) = bb from rfl, decide_eq_true rfl]
          walk_at "st"
          refine ⟨b1, _, _, rfl, m1, rfl, ?_⟩
          refine ⟨b1, l7, bb, [], rfl, B1, (fun _ h => by cases h), by decide, fun _ wt o H39 e39 ho h39 => ?_, fun h => by cases h⟩
          walk_at "st"
          refine ⟨by show 0 ≤ sizeLine; decide, ?_⟩
          intro q40 hq40
          have e40 := Ex.new (o := HO.tup []) hq40
          have h40 : upd H39 q40 (HO.tup []) q40 = some (HO.tup []) := upd_same
          generalize upd H39 q40 (HO.tup []) = H40 at e40 h40 ⊢
          refine ⟨.tuple [], .tuple [], .tup (st_frz (e40 _ _ h39)) .nil, .tup (st_of h40) .nil, by decide +kernel, by decide +kernel, ?_⟩
          rw [show PyData.eqv (.tuple []) (.tuple []) = true from rfl]
          walk_at "st"
          exact ⟨⟨_, rfl, rfl⟩, (p31.ex (e3135.trans (e3538.trans (e39.trans e40)))).mono (by omega)⟩
    · walk_at "st"
      exact k _
end
theorem all_mk {l : PySem.W.OpenLaw} {w : World} {K : PySem.W.Frag} {h : Heap} {mg : Str → Option Value} {fa : Addr} (X : K.In h) (G : h.Ns mainGlobals mg) (hfa : mg "law" = some (.ref fa))
    {MOST_LETTERS : Tok}
    {BEGINNINGS : Addr} {od_BEGINNINGS : Option Addr} {sl_BEGINNINGS : Array (Option Value)} {sn_BEGINNINGS : Nat} {t0_BEGINNINGS t1_BEGINNINGS : Tok}
    {SMALL : Tok}
    {SIGNS : Tok}
    {MOST_RUNS : Tok}
    {MOST_COUNT : Tok}
    {MOST_WORD : Tok}
    {Letters : Addr}
    {History : Addr}
    {f_is_list : Addr} {od_is_list an_is_list : Option Addr} {sl_is_list : Array (Option Value)} {oc_is_list kV_is_list dc_is_list pm_is_list cd_is_list ct_is_list : Value}
    {f_is_integer : Addr} {od_is_integer an_is_integer : Option Addr} {sl_is_integer : Array (Option Value)} {oc_is_integer kV_is_integer dc_is_integer pm_is_integer cd_is_integer ct_is_integer : Value}
    {f_is_word : Addr} {od_is_word an_is_word : Option Addr} {sl_is_word : Array (Option Value)} {oc_is_word kV_is_word dc_is_word pm_is_word cd_is_word ct_is_word : Value}
    {f_is_beginning : Addr} {od_is_beginning an_is_beginning : Option Addr} {sl_is_beginning : Array (Option Value)} {oc_is_beginning kV_is_beginning dc_is_beginning pm_is_beginning cd_is_beginning ct_is_beginning : Value}
    {f_is_letter : Addr} {od_is_letter an_is_letter : Option Addr} {sl_is_letter : Array (Option Value)} {oc_is_letter kV_is_letter dc_is_letter pm_is_letter cd_is_letter ct_is_letter : Value}
    {f_Letters___init__ : Addr} {od_Letters___init__ an_Letters___init__ : Option Addr} {sl_Letters___init__ : Array (Option Value)} {oc_Letters___init__ kV_Letters___init__ dc_Letters___init__ pm_Letters___init__ cd_Letters___init__ ct_Letters___init__ : Value}
    {f_Letters___contains__ : Addr} {od_Letters___contains__ an_Letters___contains__ : Option Addr} {sl_Letters___contains__ : Array (Option Value)} {oc_Letters___contains__ kV_Letters___contains__ dc_Letters___contains__ pm_Letters___contains__ cd_Letters___contains__ ct_Letters___contains__ : Value}
    {f_Letters___eq__ : Addr} {od_Letters___eq__ an_Letters___eq__ : Option Addr} {sl_Letters___eq__ : Array (Option Value)} {oc_Letters___eq__ kV_Letters___eq__ dc_Letters___eq__ pm_Letters___eq__ cd_Letters___eq__ ct_Letters___eq__ : Value}
    {f_need_beginning : Addr} {od_need_beginning an_need_beginning : Option Addr} {sl_need_beginning : Array (Option Value)} {oc_need_beginning kV_need_beginning dc_need_beginning pm_need_beginning cd_need_beginning ct_need_beginning : Value}
    {f_need_runs : Addr} {od_need_runs an_need_runs : Option Addr} {sl_need_runs : Array (Option Value)} {oc_need_runs kV_need_runs dc_need_runs pm_need_runs cd_need_runs ct_need_runs : Value}
    {f_join_runs : Addr} {od_join_runs an_join_runs : Option Addr} {sl_join_runs : Array (Option Value)} {oc_join_runs kV_join_runs dc_join_runs pm_join_runs cd_join_runs ct_join_runs : Value}
    {f_History___init__ : Addr} {od_History___init__ an_History___init__ : Option Addr} {sl_History___init__ : Array (Option Value)} {oc_History___init__  dc_History___init__ pm_History___init__ cd_History___init__ ct_History___init__ : Value}
    {df_History___init__ : Addr} {dod_History___init__ : Option Addr} {doc_History___init__ : Value} {dn_History___init__ : Nat} {dsl_History___init__ : Array (Option Value)}
    {kd_History___init__ : Addr}
    {dp0_History___init__ : Addr} {od_dp0_History___init__ : Option Addr} {sn_dp0_History___init__ : Nat} {sl_dp0_History___init__ : Array (Option Value)}
    {dk_ahead_History___init__ : Addr} {od_dk_ahead_History___init__ : Option Addr} {sn_dk_ahead_History___init__ : Nat} {sl_dk_ahead_History___init__ : Array (Option Value)}
    {f_History___getitem__ : Addr} {od_History___getitem__ an_History___getitem__ : Option Addr} {sl_History___getitem__ : Array (Option Value)} {oc_History___getitem__ kV_History___getitem__ dc_History___getitem__ pm_History___getitem__ cd_History___getitem__ ct_History___getitem__ : Value}
    {f_History___eq__ : Addr} {od_History___eq__ an_History___eq__ : Option Addr} {sl_History___eq__ : Array (Option Value)} {oc_History___eq__ kV_History___eq__ dc_History___eq__ pm_History___eq__ cd_History___eq__ ct_History___eq__ : Value}
    {f_History_word : Addr} {od_History_word an_History_word : Option Addr} {sl_History_word : Array (Option Value)} {oc_History_word kV_History_word dc_History_word pm_History_word cd_History_word ct_History_word : Value}
    {f__law_pen : Addr} {od__law_pen an__law_pen : Option Addr} {sl__law_pen : Array (Option Value)} {oc__law_pen kV__law_pen dc__law_pen pm__law_pen cd__law_pen ct__law_pen : Value}
    {f__law_draw : Addr} {od__law_draw an__law_draw : Option Addr} {sl__law_draw : Array (Option Value)} {oc__law_draw kV__law_draw dc__law_draw pm__law_draw cd__law_draw ct__law_draw : Value}
    {f__law_pick : Addr} {od__law_pick an__law_pick : Option Addr} {sl__law_pick : Array (Option Value)} {oc__law_pick kV__law_pick dc__law_pick pm__law_pick cd__law_pick ct__law_pick : Value}
    {f__law_letters : Addr} {od__law_letters an__law_letters : Option Addr} {sl__law_letters : Array (Option Value)} {oc__law_letters kV__law_letters dc__law_letters pm__law_letters cd__law_letters ct__law_letters : Value}
    {f__law_joined : Addr} {od__law_joined an__law_joined : Option Addr} {sl__law_joined : Array (Option Value)} {oc__law_joined kV__law_joined dc__law_joined pm__law_joined cd__law_joined ct__law_joined : Value}
    {f__law_as_runs : Addr} {od__law_as_runs an__law_as_runs : Option Addr} {sl__law_as_runs : Array (Option Value)} {oc__law_as_runs kV__law_as_runs dc__law_as_runs pm__law_as_runs cd__law_as_runs ct__law_as_runs : Value}
    {f__law_beginning : Addr} {od__law_beginning an__law_beginning : Option Addr} {sl__law_beginning : Array (Option Value)} {oc__law_beginning kV__law_beginning dc__law_beginning pm__law_beginning cd__law_beginning ct__law_beginning : Value}
    {f__law_free : Addr} {od__law_free an__law_free : Option Addr} {sl__law_free : Array (Option Value)} {oc__law_free kV__law_free dc__law_free pm__law_free cd__law_free ct__law_free : Value}
    {f__law_at : Addr} {od__law_at an__law_at : Option Addr} {sl__law_at : Array (Option Value)} {oc__law_at kV__law_at dc__law_at pm__law_at cd__law_at ct__law_at : Value}
    {f__law_all : Addr} {od__law_all an__law_all : Option Addr} {sl__law_all : Array (Option Value)} {oc__law_all kV__law_all dc__law_all pm__law_all cd__law_all ct__law_all : Value}
    {f__law_is_right : Addr} {od__law_is_right an__law_is_right : Option Addr} {sl__law_is_right : Array (Option Value)} {oc__law_is_right kV__law_is_right dc__law_is_right pm__law_is_right cd__law_is_right ct__law_is_right : Value}
    {f__law_plain : Addr} {od__law_plain an__law_plain : Option Addr} {sl__law_plain : Array (Option Value)} {oc__law_plain kV__law_plain dc__law_plain pm__law_plain cd__law_plain ct__law_plain : Value}
    {f_law : Addr} {od_law an_law : Option Addr} {sl_law : Array (Option Value)} {oc_law kV_law dc_law pm_law cd_law ct_law : Value}
    {AsksError : Addr}
    {BadLetters : Addr}
    {f_BadLetters___init__ cc_BadLetters c_BadLetters N_BadLetters : Addr} {nm_BadLetters q_BadLetters : Str} {bs_BadLetters sub_BadLetters : List Value} {sn_BadLetters : List Str} {ab_BadLetters : Bool} {col_BadLetters : Option Bool} {dd_BadLetters : Option Addr} {m0_BadLetters m1_BadLetters m2_BadLetters m3_BadLetters m5_BadLetters : Option Value} {oc_BadLetters doc_BadLetters pm_BadLetters ctv_BadLetters e1_BadLetters e3_BadLetters : Value} {od_BadLetters e2_BadLetters e4_BadLetters : Option Addr} {osl_BadLetters e5_BadLetters e6_BadLetters : Array (Option Value)} {vs_BadLetters : Array Value} {file_BadLetters : Str} {tf_BadLetters : Tok}
    {BadLetter : Addr}
    {f_BadLetter___init__ cc_BadLetter c_BadLetter N_BadLetter : Addr} {nm_BadLetter q_BadLetter : Str} {bs_BadLetter sub_BadLetter : List Value} {sn_BadLetter : List Str} {ab_BadLetter : Bool} {col_BadLetter : Option Bool} {dd_BadLetter : Option Addr} {m0_BadLetter m1_BadLetter m2_BadLetter m3_BadLetter m5_BadLetter : Option Value} {oc_BadLetter doc_BadLetter pm_BadLetter ctv_BadLetter e1_BadLetter e3_BadLetter : Value} {od_BadLetter e2_BadLetter e4_BadLetter : Option Addr} {osl_BadLetter e5_BadLetter e6_BadLetter : Array (Option Value)} {vs_BadLetter : Array Value} {file_BadLetter : Str} {tf_BadLetter : Tok}
    {TooMany : Addr}
    {f_TooMany___init__ cc_TooMany c_TooMany N_TooMany : Addr} {nm_TooMany q_TooMany : Str} {bs_TooMany sub_TooMany : List Value} {sn_TooMany : List Str} {ab_TooMany : Bool} {col_TooMany : Option Bool} {dd_TooMany : Option Addr} {m0_TooMany m1_TooMany m2_TooMany m3_TooMany m5_TooMany : Option Value} {oc_TooMany doc_TooMany pm_TooMany ctv_TooMany e1_TooMany e3_TooMany : Value} {od_TooMany e2_TooMany e4_TooMany : Option Addr} {osl_TooMany e5_TooMany e6_TooMany : Array (Option Value)} {vs_TooMany : Array Value} {file_TooMany : Str} {tf_TooMany : Tok}
    {BadBeginning : Addr}
    {BadRuns : Addr}
    {f_BadRuns___init__ cc_BadRuns c_BadRuns N_BadRuns : Addr} {nm_BadRuns q_BadRuns : Str} {bs_BadRuns sub_BadRuns : List Value} {sn_BadRuns : List Str} {ab_BadRuns : Bool} {col_BadRuns : Option Bool} {dd_BadRuns : Option Addr} {m0_BadRuns m1_BadRuns m2_BadRuns m3_BadRuns m5_BadRuns : Option Value} {oc_BadRuns doc_BadRuns pm_BadRuns ctv_BadRuns e1_BadRuns e3_BadRuns : Value} {od_BadRuns e2_BadRuns e4_BadRuns : Option Addr} {osl_BadRuns e5_BadRuns e6_BadRuns : Array (Option Value)} {vs_BadRuns : Array Value} {file_BadRuns : Str} {tf_BadRuns : Tok}
    {BadCount : Addr}
    {f_BadCount___init__ cc_BadCount c_BadCount N_BadCount : Addr} {nm_BadCount q_BadCount : Str} {bs_BadCount sub_BadCount : List Value} {sn_BadCount : List Str} {ab_BadCount : Bool} {col_BadCount : Option Bool} {dd_BadCount : Option Addr} {m0_BadCount m1_BadCount m2_BadCount m3_BadCount m5_BadCount : Option Value} {oc_BadCount doc_BadCount pm_BadCount ctv_BadCount e1_BadCount e3_BadCount : Value} {od_BadCount e2_BadCount e4_BadCount : Option Addr} {osl_BadCount e5_BadCount e6_BadCount : Array (Option Value)} {vs_BadCount : Array Value} {file_BadCount : Str} {tf_BadCount : Tok}
    {BadPlace : Addr}
    {f_BadPlace___init__ cc_BadPlace c_BadPlace N_BadPlace : Addr} {nm_BadPlace q_BadPlace : Str} {bs_BadPlace sub_BadPlace : List Value} {sn_BadPlace : List Str} {ab_BadPlace : Bool} {col_BadPlace : Option Bool} {dd_BadPlace : Option Addr} {m0_BadPlace m1_BadPlace m2_BadPlace m3_BadPlace m5_BadPlace : Option Value} {oc_BadPlace doc_BadPlace pm_BadPlace ctv_BadPlace e1_BadPlace e3_BadPlace : Value} {od_BadPlace e2_BadPlace e4_BadPlace : Option Addr} {osl_BadPlace e5_BadPlace e6_BadPlace : Array (Option Value)} {vs_BadPlace : Array Value} {file_BadPlace : Str} {tf_BadPlace : Tok}
    {TooLong : Addr}
    {f_TooLong___init__ cc_TooLong c_TooLong N_TooLong : Addr} {nm_TooLong q_TooLong : Str} {bs_TooLong sub_TooLong : List Value} {sn_TooLong : List Str} {ab_TooLong : Bool} {col_TooLong : Option Bool} {dd_TooLong : Option Addr} {m0_TooLong m1_TooLong m2_TooLong m3_TooLong m5_TooLong : Option Value} {oc_TooLong doc_TooLong pm_TooLong ctv_TooLong e1_TooLong e3_TooLong : Value} {od_TooLong e2_TooLong e4_TooLong : Option Addr} {osl_TooLong e5_TooLong e6_TooLong : Array (Option Value)} {vs_TooLong : Array Value} {file_TooLong : Str} {tf_TooLong : Tok}
    (z_abs : PySem.W.nsIn K mainGlobals "abs" = some none)
    (z_all : PySem.W.nsIn K mainGlobals "all" = some none)
    (z_bool : PySem.W.nsIn K mainGlobals "bool" = some none)
    (z_enumerate : PySem.W.nsIn K mainGlobals "enumerate" = some none)
    (z_int : PySem.W.nsIn K mainGlobals "int" = some none)
    (z_isinstance : PySem.W.nsIn K mainGlobals "isinstance" = some none)
    (z_len : PySem.W.nsIn K mainGlobals "len" = some none)
    (z_list : PySem.W.nsIn K mainGlobals "list" = some none)
    (z_min : PySem.W.nsIn K mainGlobals "min" = some none)
    (z_range : PySem.W.nsIn K mainGlobals "range" = some none)
    (z_repr : PySem.W.nsIn K mainGlobals "repr" = some none)
    (z_str : PySem.W.nsIn K mainGlobals "str" = some none)
    (z_sum : PySem.W.nsIn K mainGlobals "sum" = some none)
    (z_tuple : PySem.W.nsIn K mainGlobals "tuple" = some none)
    (h_MOST_LETTERS : PySem.W.nsIn K mainGlobals "MOST_LETTERS" = some (some (.int 12 MOST_LETTERS)))
    (h_BEGINNINGS : PySem.W.nsIn K mainGlobals "BEGINNINGS" = some (some (.ref BEGINNINGS)))
    (lk_BEGINNINGS : K.lookup BEGINNINGS = some ⟨.type "tuple", od_BEGINNINGS, .seq #[.str "new" t0_BEGINNINGS, .str "found" t1_BEGINNINGS] sn_BEGINNINGS, sl_BEGINNINGS⟩)
    (h_SMALL : PySem.W.nsIn K mainGlobals "SMALL" = some (some (.str "abcdefghijklmnopqrstuvwxyz" SMALL)))
    (h_SIGNS : PySem.W.nsIn K mainGlobals "SIGNS" = some (some (.str "abcdefghijklmnopqrstuvwxyz0123456789" SIGNS)))
    (h_MOST_RUNS : PySem.W.nsIn K mainGlobals "MOST_RUNS" = some (some (.int 400 MOST_RUNS)))
    (h_MOST_COUNT : PySem.W.nsIn K mainGlobals "MOST_COUNT" = some (some (.int 1000000000000000000000000000000 MOST_COUNT)))
    (h_MOST_WORD : PySem.W.nsIn K mainGlobals "MOST_WORD" = some (some (.int 2000 MOST_WORD)))
    (h_Letters : PySem.W.nsIn K mainGlobals "Letters" = some (some (.ref Letters)))
    (pg_Letters : PySem.W.plainGet K Letters Str.empty = true)
    (hd_Letters : PySem.W.hasDictIn K Letters = true)
    (po_Letters : PySem.W.plainOver K Letters = true)
    (sa_Letters : PySem.W.findIn K (.ref Letters) "__setattr__" = some (some (.builtin "object.__setattr__")))
    (na_Letters_words : PySem.W.findIn K (.ref Letters) "words" = some none)
    (ne_Letters : PySem.W.findIn K (.ref Letters) "__ne__" = some (some (.builtin "object.__ne__")))
    (ob_Letters : PySem.W.subIn K (.ref Letters) (.type "object") = some true)
    (ia_Letters : PySem.W.findIn K (.ref Letters) "__class__" = some (some (.builtin "object.__class__")))
    (in_Letters : PySem.W.specialIn K (.builtin "object.__class__") "__get__" = some (some (.builtin "getset_descriptor.__get__")))
    (it_Letters : PySem.W.takesIn K (.builtin "object.__class__") = some true)
    (im_Letters : PySem.W.mroIn K Letters (.type "object") = some true)
    (h_History : PySem.W.nsIn K mainGlobals "History" = some (some (.ref History)))
    (pg_History : PySem.W.plainGet K History Str.empty = true)
    (hd_History : PySem.W.hasDictIn K History = true)
    (po_History : PySem.W.plainOver K History = true)
    (sa_History : PySem.W.findIn K (.ref History) "__setattr__" = some (some (.builtin "object.__setattr__")))
    (na_History_letters : PySem.W.findIn K (.ref History) "letters" = some none)
    (na_History_beginning : PySem.W.findIn K (.ref History) "beginning" = some none)
    (na_History_runs : PySem.W.findIn K (.ref History) "runs" = some none)
    (na_History_size : PySem.W.findIn K (.ref History) "size" = some none)
    (na_History_last : PySem.W.findIn K (.ref History) "last" = some none)
    (ne_History : PySem.W.findIn K (.ref History) "__ne__" = some (some (.builtin "object.__ne__")))
    (ob_History : PySem.W.subIn K (.ref History) (.type "object") = some true)
    (ia_History : PySem.W.findIn K (.ref History) "__class__" = some (some (.builtin "object.__class__")))
    (in_History : PySem.W.specialIn K (.builtin "object.__class__") "__get__" = some (some (.builtin "getset_descriptor.__get__")))
    (it_History : PySem.W.takesIn K (.builtin "object.__class__") = some true)
    (im_History : PySem.W.mroIn K History (.type "object") = some true)
    (a_is_list : PySem.W.nsIn K mainGlobals "is_list" = some (some (.ref f_is_list)))
    (l_is_list : K.lookup f_is_list = some ⟨oc_is_list, od_is_list, .func (PySem.W.fnOf "is_list" "is_list" (defArgs s_is_list) (defBody s_is_list) (defScope s_is_list) .none kV_is_list dc_is_list pm_is_list an_is_list cd_is_list ct_is_list), sl_is_list⟩)
    (c_is_list : PySem.W.codeIn K cd_is_list "is_list" = true)
    (k_is_list : PySem.W.keepIn K (.ref f_is_list) = true)
    (a_is_integer : PySem.W.nsIn K mainGlobals "is_integer" = some (some (.ref f_is_integer)))
    (l_is_integer : K.lookup f_is_integer = some ⟨oc_is_integer, od_is_integer, .func (PySem.W.fnOf "is_integer" "is_integer" (defArgs s_is_integer) (defBody s_is_integer) (defScope s_is_integer) .none kV_is_integer dc_is_integer pm_is_integer an_is_integer cd_is_integer ct_is_integer), sl_is_integer⟩)
    (c_is_integer : PySem.W.codeIn K cd_is_integer "is_integer" = true)
    (k_is_integer : PySem.W.keepIn K (.ref f_is_integer) = true)
    (a_is_word : PySem.W.nsIn K mainGlobals "is_word" = some (some (.ref f_is_word)))
    (l_is_word : K.lookup f_is_word = some ⟨oc_is_word, od_is_word, .func (PySem.W.fnOf "is_word" "is_word" (defArgs s_is_word) (defBody s_is_word) (defScope s_is_word) .none kV_is_word dc_is_word pm_is_word an_is_word cd_is_word ct_is_word), sl_is_word⟩)
    (c_is_word : PySem.W.codeIn K cd_is_word "is_word" = true)
    (k_is_word : PySem.W.keepIn K (.ref f_is_word) = true)
    (a_is_beginning : PySem.W.nsIn K mainGlobals "is_beginning" = some (some (.ref f_is_beginning)))
    (l_is_beginning : K.lookup f_is_beginning = some ⟨oc_is_beginning, od_is_beginning, .func (PySem.W.fnOf "is_beginning" "is_beginning" (defArgs s_is_beginning) (defBody s_is_beginning) (defScope s_is_beginning) .none kV_is_beginning dc_is_beginning pm_is_beginning an_is_beginning cd_is_beginning ct_is_beginning), sl_is_beginning⟩)
    (c_is_beginning : PySem.W.codeIn K cd_is_beginning "is_beginning" = true)
    (k_is_beginning : PySem.W.keepIn K (.ref f_is_beginning) = true)
    (a_is_letter : PySem.W.nsIn K mainGlobals "is_letter" = some (some (.ref f_is_letter)))
    (l_is_letter : K.lookup f_is_letter = some ⟨oc_is_letter, od_is_letter, .func (PySem.W.fnOf "is_letter" "is_letter" (defArgs s_is_letter) (defBody s_is_letter) (defScope s_is_letter) .none kV_is_letter dc_is_letter pm_is_letter an_is_letter cd_is_letter ct_is_letter), sl_is_letter⟩)
    (c_is_letter : PySem.W.codeIn K cd_is_letter "is_letter" = true)
    (k_is_letter : PySem.W.keepIn K (.ref f_is_letter) = true)
    (a_Letters___init__ : PySem.W.findIn K (.ref Letters) "__init__" = some (some (.ref f_Letters___init__)))
    (i_Letters___init__ : PySem.W.isFn K (.ref f_Letters___init__) = true)
    (l_Letters___init__ : K.lookup f_Letters___init__ = some ⟨oc_Letters___init__, od_Letters___init__, .func (PySem.W.fnOf "__init__" "Letters.__init__" (defArgs s_Letters___init__) (defBody s_Letters___init__) (defScope s_Letters___init__) .none kV_Letters___init__ dc_Letters___init__ pm_Letters___init__ an_Letters___init__ cd_Letters___init__ ct_Letters___init__), sl_Letters___init__⟩)
    (c_Letters___init__ : PySem.W.codeIn K cd_Letters___init__ "Letters.__init__" = true)
    (k_Letters___init__ : PySem.W.keepIn K (.ref f_Letters___init__) = true)
    (a_Letters___contains__ : PySem.W.findIn K (.ref Letters) "__contains__" = some (some (.ref f_Letters___contains__)))
    (i_Letters___contains__ : PySem.W.isFn K (.ref f_Letters___contains__) = true)
    (l_Letters___contains__ : K.lookup f_Letters___contains__ = some ⟨oc_Letters___contains__, od_Letters___contains__, .func (PySem.W.fnOf "__contains__" "Letters.__contains__" (defArgs s_Letters___contains__) (defBody s_Letters___contains__) (defScope s_Letters___contains__) .none kV_Letters___contains__ dc_Letters___contains__ pm_Letters___contains__ an_Letters___contains__ cd_Letters___contains__ ct_Letters___contains__), sl_Letters___contains__⟩)
    (c_Letters___contains__ : PySem.W.codeIn K cd_Letters___contains__ "Letters.__contains__" = true)
    (k_Letters___contains__ : PySem.W.keepIn K (.ref f_Letters___contains__) = true)
    (a_Letters___eq__ : PySem.W.findIn K (.ref Letters) "__eq__" = some (some (.ref f_Letters___eq__)))
    (i_Letters___eq__ : PySem.W.isFn K (.ref f_Letters___eq__) = true)
    (l_Letters___eq__ : K.lookup f_Letters___eq__ = some ⟨oc_Letters___eq__, od_Letters___eq__, .func (PySem.W.fnOf "__eq__" "Letters.__eq__" (defArgs s_Letters___eq__) (defBody s_Letters___eq__) (defScope s_Letters___eq__) .none kV_Letters___eq__ dc_Letters___eq__ pm_Letters___eq__ an_Letters___eq__ cd_Letters___eq__ ct_Letters___eq__), sl_Letters___eq__⟩)
    (c_Letters___eq__ : PySem.W.codeIn K cd_Letters___eq__ "Letters.__eq__" = true)
    (k_Letters___eq__ : PySem.W.keepIn K (.ref f_Letters___eq__) = true)
    (a_need_beginning : PySem.W.nsIn K mainGlobals "need_beginning" = some (some (.ref f_need_beginning)))
    (l_need_beginning : K.lookup f_need_beginning = some ⟨oc_need_beginning, od_need_beginning, .func (PySem.W.fnOf "need_beginning" "need_beginning" (defArgs s_need_beginning) (defBody s_need_beginning) (defScope s_need_beginning) .none kV_need_beginning dc_need_beginning pm_need_beginning an_need_beginning cd_need_beginning ct_need_beginning), sl_need_beginning⟩)
    (c_need_beginning : PySem.W.codeIn K cd_need_beginning "need_beginning" = true)
    (k_need_beginning : PySem.W.keepIn K (.ref f_need_beginning) = true)
    (a_need_runs : PySem.W.nsIn K mainGlobals "need_runs" = some (some (.ref f_need_runs)))
    (l_need_runs : K.lookup f_need_runs = some ⟨oc_need_runs, od_need_runs, .func (PySem.W.fnOf "need_runs" "need_runs" (defArgs s_need_runs) (defBody s_need_runs) (defScope s_need_runs) .none kV_need_runs dc_need_runs pm_need_runs an_need_runs cd_need_runs ct_need_runs), sl_need_runs⟩)
    (c_need_runs : PySem.W.codeIn K cd_need_runs "need_runs" = true)
    (k_need_runs : PySem.W.keepIn K (.ref f_need_runs) = true)
    (a_join_runs : PySem.W.nsIn K mainGlobals "join_runs" = some (some (.ref f_join_runs)))
    (l_join_runs : K.lookup f_join_runs = some ⟨oc_join_runs, od_join_runs, .func (PySem.W.fnOf "join_runs" "join_runs" (defArgs s_join_runs) (defBody s_join_runs) (defScope s_join_runs) .none kV_join_runs dc_join_runs pm_join_runs an_join_runs cd_join_runs ct_join_runs), sl_join_runs⟩)
    (c_join_runs : PySem.W.codeIn K cd_join_runs "join_runs" = true)
    (k_join_runs : PySem.W.keepIn K (.ref f_join_runs) = true)
    (a_History___init__ : PySem.W.findIn K (.ref History) "__init__" = some (some (.ref f_History___init__)))
    (i_History___init__ : PySem.W.isFn K (.ref f_History___init__) = true)
    (l_History___init__ : K.lookup f_History___init__ = some ⟨oc_History___init__, od_History___init__, .func (PySem.W.fnOf "__init__" "History.__init__" (defArgs s_History___init__) (defBody s_History___init__) (defScope s_History___init__) (.ref df_History___init__) (.ref kd_History___init__) dc_History___init__ pm_History___init__ an_History___init__ cd_History___init__ ct_History___init__), sl_History___init__⟩)
    (c_History___init__ : PySem.W.codeIn K cd_History___init__ "History.__init__" = true)
    (k_History___init__ : PySem.W.keepIn K (.ref f_History___init__) = true)
    (d_History___init__ : K.lookup df_History___init__ = some ⟨doc_History___init__, dod_History___init__, .seq [Value.ref dp0_History___init__].toArray dn_History___init__, dsl_History___init__⟩)
    (dn_ahead_History___init__ : PySem.W.nsIn K kd_History___init__ "ahead" = some (some (Value.ref dk_ahead_History___init__)))
    (lk_dp0_History___init__ : K.lookup dp0_History___init__ = some ⟨.type "tuple", od_dp0_History___init__, .seq #[] sn_dp0_History___init__, sl_dp0_History___init__⟩)
    (lk_dk_ahead_History___init__ : K.lookup dk_ahead_History___init__ = some ⟨.type "tuple", od_dk_ahead_History___init__, .seq #[] sn_dk_ahead_History___init__, sl_dk_ahead_History___init__⟩)
    (a_History___getitem__ : PySem.W.findIn K (.ref History) "__getitem__" = some (some (.ref f_History___getitem__)))
    (i_History___getitem__ : PySem.W.isFn K (.ref f_History___getitem__) = true)
    (l_History___getitem__ : K.lookup f_History___getitem__ = some ⟨oc_History___getitem__, od_History___getitem__, .func (PySem.W.fnOf "__getitem__" "History.__getitem__" (defArgs s_History___getitem__) (defBody s_History___getitem__) (defScope s_History___getitem__) .none kV_History___getitem__ dc_History___getitem__ pm_History___getitem__ an_History___getitem__ cd_History___getitem__ ct_History___getitem__), sl_History___getitem__⟩)
    (c_History___getitem__ : PySem.W.codeIn K cd_History___getitem__ "History.__getitem__" = true)
    (k_History___getitem__ : PySem.W.keepIn K (.ref f_History___getitem__) = true)
    (a_History___eq__ : PySem.W.findIn K (.ref History) "__eq__" = some (some (.ref f_History___eq__)))
    (i_History___eq__ : PySem.W.isFn K (.ref f_History___eq__) = true)
    (l_History___eq__ : K.lookup f_History___eq__ = some ⟨oc_History___eq__, od_History___eq__, .func (PySem.W.fnOf "__eq__" "History.__eq__" (defArgs s_History___eq__) (defBody s_History___eq__) (defScope s_History___eq__) .none kV_History___eq__ dc_History___eq__ pm_History___eq__ an_History___eq__ cd_History___eq__ ct_History___eq__), sl_History___eq__⟩)
    (c_History___eq__ : PySem.W.codeIn K cd_History___eq__ "History.__eq__" = true)
    (k_History___eq__ : PySem.W.keepIn K (.ref f_History___eq__) = true)
    (a_History_word : PySem.W.findIn K (.ref History) "word" = some (some (.ref f_History_word)))
    (i_History_word : PySem.W.isFn K (.ref f_History_word) = true)
    (l_History_word : K.lookup f_History_word = some ⟨oc_History_word, od_History_word, .func (PySem.W.fnOf "word" "History.word" (defArgs s_History_word) (defBody s_History_word) (defScope s_History_word) .none kV_History_word dc_History_word pm_History_word an_History_word cd_History_word ct_History_word), sl_History_word⟩)
    (c_History_word : PySem.W.codeIn K cd_History_word "History.word" = true)
    (k_History_word : PySem.W.keepIn K (.ref f_History_word) = true)
    (a__law_pen : PySem.W.nsIn K mainGlobals "_law_pen" = some (some (.ref f__law_pen)))
    (l__law_pen : K.lookup f__law_pen = some ⟨oc__law_pen, od__law_pen, .func (PySem.W.fnOf "_law_pen" "_law_pen" (defArgs s__law_pen) (defBody s__law_pen) (defScope s__law_pen) .none kV__law_pen dc__law_pen pm__law_pen an__law_pen cd__law_pen ct__law_pen), sl__law_pen⟩)
    (c__law_pen : PySem.W.codeIn K cd__law_pen "_law_pen" = true)
    (k__law_pen : PySem.W.keepIn K (.ref f__law_pen) = true)
    (a__law_draw : PySem.W.nsIn K mainGlobals "_law_draw" = some (some (.ref f__law_draw)))
    (l__law_draw : K.lookup f__law_draw = some ⟨oc__law_draw, od__law_draw, .func (PySem.W.fnOf "_law_draw" "_law_draw" (defArgs s__law_draw) (defBody s__law_draw) (defScope s__law_draw) .none kV__law_draw dc__law_draw pm__law_draw an__law_draw cd__law_draw ct__law_draw), sl__law_draw⟩)
    (c__law_draw : PySem.W.codeIn K cd__law_draw "_law_draw" = true)
    (k__law_draw : PySem.W.keepIn K (.ref f__law_draw) = true)
    (a__law_pick : PySem.W.nsIn K mainGlobals "_law_pick" = some (some (.ref f__law_pick)))
    (l__law_pick : K.lookup f__law_pick = some ⟨oc__law_pick, od__law_pick, .func (PySem.W.fnOf "_law_pick" "_law_pick" (defArgs s__law_pick) (defBody s__law_pick) (defScope s__law_pick) .none kV__law_pick dc__law_pick pm__law_pick an__law_pick cd__law_pick ct__law_pick), sl__law_pick⟩)
    (c__law_pick : PySem.W.codeIn K cd__law_pick "_law_pick" = true)
    (k__law_pick : PySem.W.keepIn K (.ref f__law_pick) = true)
    (a__law_letters : PySem.W.nsIn K mainGlobals "_law_letters" = some (some (.ref f__law_letters)))
    (l__law_letters : K.lookup f__law_letters = some ⟨oc__law_letters, od__law_letters, .func (PySem.W.fnOf "_law_letters" "_law_letters" (defArgs s__law_letters) (defBody s__law_letters) (defScope s__law_letters) .none kV__law_letters dc__law_letters pm__law_letters an__law_letters cd__law_letters ct__law_letters), sl__law_letters⟩)
    (c__law_letters : PySem.W.codeIn K cd__law_letters "_law_letters" = true)
    (k__law_letters : PySem.W.keepIn K (.ref f__law_letters) = true)
    (a__law_joined : PySem.W.nsIn K mainGlobals "_law_joined" = some (some (.ref f__law_joined)))
    (l__law_joined : K.lookup f__law_joined = some ⟨oc__law_joined, od__law_joined, .func (PySem.W.fnOf "_law_joined" "_law_joined" (defArgs s__law_joined) (defBody s__law_joined) (defScope s__law_joined) .none kV__law_joined dc__law_joined pm__law_joined an__law_joined cd__law_joined ct__law_joined), sl__law_joined⟩)
    (c__law_joined : PySem.W.codeIn K cd__law_joined "_law_joined" = true)
    (k__law_joined : PySem.W.keepIn K (.ref f__law_joined) = true)
    (a__law_as_runs : PySem.W.nsIn K mainGlobals "_law_as_runs" = some (some (.ref f__law_as_runs)))
    (l__law_as_runs : K.lookup f__law_as_runs = some ⟨oc__law_as_runs, od__law_as_runs, .func (PySem.W.fnOf "_law_as_runs" "_law_as_runs" (defArgs s__law_as_runs) (defBody s__law_as_runs) (defScope s__law_as_runs) .none kV__law_as_runs dc__law_as_runs pm__law_as_runs an__law_as_runs cd__law_as_runs ct__law_as_runs), sl__law_as_runs⟩)
    (c__law_as_runs : PySem.W.codeIn K cd__law_as_runs "_law_as_runs" = true)
    (k__law_as_runs : PySem.W.keepIn K (.ref f__law_as_runs) = true)
    (a__law_beginning : PySem.W.nsIn K mainGlobals "_law_beginning" = some (some (.ref f__law_beginning)))
    (l__law_beginning : K.lookup f__law_beginning = some ⟨oc__law_beginning, od__law_beginning, .func (PySem.W.fnOf "_law_beginning" "_law_beginning" (defArgs s__law_beginning) (defBody s__law_beginning) (defScope s__law_beginning) .none kV__law_beginning dc__law_beginning pm__law_beginning an__law_beginning cd__law_beginning ct__law_beginning), sl__law_beginning⟩)
    (c__law_beginning : PySem.W.codeIn K cd__law_beginning "_law_beginning" = true)
    (k__law_beginning : PySem.W.keepIn K (.ref f__law_beginning) = true)
    (a__law_free : PySem.W.nsIn K mainGlobals "_law_free" = some (some (.ref f__law_free)))
    (l__law_free : K.lookup f__law_free = some ⟨oc__law_free, od__law_free, .func (PySem.W.fnOf "_law_free" "_law_free" (defArgs s__law_free) (defBody s__law_free) (defScope s__law_free) .none kV__law_free dc__law_free pm__law_free an__law_free cd__law_free ct__law_free), sl__law_free⟩)
    (c__law_free : PySem.W.codeIn K cd__law_free "_law_free" = true)
    (k__law_free : PySem.W.keepIn K (.ref f__law_free) = true)
    (a__law_at : PySem.W.nsIn K mainGlobals "_law_at" = some (some (.ref f__law_at)))
    (l__law_at : K.lookup f__law_at = some ⟨oc__law_at, od__law_at, .func (PySem.W.fnOf "_law_at" "_law_at" (defArgs s__law_at) (defBody s__law_at) (defScope s__law_at) .none kV__law_at dc__law_at pm__law_at an__law_at cd__law_at ct__law_at), sl__law_at⟩)
    (c__law_at : PySem.W.codeIn K cd__law_at "_law_at" = true)
    (k__law_at : PySem.W.keepIn K (.ref f__law_at) = true)
    (a__law_all : PySem.W.nsIn K mainGlobals "_law_all" = some (some (.ref f__law_all)))
    (l__law_all : K.lookup f__law_all = some ⟨oc__law_all, od__law_all, .func (PySem.W.fnOf "_law_all" "_law_all" (defArgs s__law_all) (defBody s__law_all) (defScope s__law_all) .none kV__law_all dc__law_all pm__law_all an__law_all cd__law_all ct__law_all), sl__law_all⟩)
    (c__law_all : PySem.W.codeIn K cd__law_all "_law_all" = true)
    (k__law_all : PySem.W.keepIn K (.ref f__law_all) = true)
    (a__law_is_right : PySem.W.nsIn K mainGlobals "_law_is_right" = some (some (.ref f__law_is_right)))
    (l__law_is_right : K.lookup f__law_is_right = some ⟨oc__law_is_right, od__law_is_right, .func (PySem.W.fnOf "_law_is_right" "_law_is_right" (defArgs s__law_is_right) (defBody s__law_is_right) (defScope s__law_is_right) .none kV__law_is_right dc__law_is_right pm__law_is_right an__law_is_right cd__law_is_right ct__law_is_right), sl__law_is_right⟩)
    (c__law_is_right : PySem.W.codeIn K cd__law_is_right "_law_is_right" = true)
    (k__law_is_right : PySem.W.keepIn K (.ref f__law_is_right) = true)
    (a__law_plain : PySem.W.nsIn K mainGlobals "_law_plain" = some (some (.ref f__law_plain)))
    (l__law_plain : K.lookup f__law_plain = some ⟨oc__law_plain, od__law_plain, .func (PySem.W.fnOf "_law_plain" "_law_plain" (defArgs s__law_plain) (defBody s__law_plain) (defScope s__law_plain) .none kV__law_plain dc__law_plain pm__law_plain an__law_plain cd__law_plain ct__law_plain), sl__law_plain⟩)
    (c__law_plain : PySem.W.codeIn K cd__law_plain "_law_plain" = true)
    (k__law_plain : PySem.W.keepIn K (.ref f__law_plain) = true)
    (a_law : PySem.W.nsIn K mainGlobals "law" = some (some (.ref f_law)))
    (l_law : K.lookup f_law = some ⟨oc_law, od_law, .func (PySem.W.fnOf "law" "law" (defArgs s_law) (defBody s_law) (defScope s_law) .none kV_law dc_law pm_law an_law cd_law ct_law), sl_law⟩)
    (c_law : PySem.W.codeIn K cd_law "law" = true)
    (k_law : PySem.W.keepIn K (.ref f_law) = true)
    (fn_History___getitem__ : PySem.W.fnIn K f_History___getitem__ = true)
    (mk_Letters : PySem.W.makesIn K Letters = true)
    (kc_Letters : PySem.W.keepIn K (.ref Letters) = true)
    (mk_History : PySem.W.makesIn K History = true)
    (kc_History : PySem.W.keepIn K (.ref History) = true)
    (h_AsksError : PySem.W.nsIn K mainGlobals "AsksError" = some (some (.ref AsksError)))
    (op_ : PySem.W.nsIn K cStatics "thirdparty.any" = some none)
    (z_super : PySem.W.nsIn K mainGlobals "super" = some none)
    (hst_ : (l.prog.main.scope.names.lookup ("super" : Str)).isSome = false)
    (h_BadLetters : PySem.W.nsIn K mainGlobals "BadLetters" = some (some (.ref BadLetters)))
    (sb_BadLetters : PySem.W.subIn K (.ref BadLetters) (.type "BaseException") = some true)
    (xd_BadLetters : PySem.W.hasDictIn K BadLetters = true)
    (tt_BadLetters : PySem.W.typeIn K (.ref BadLetters) = some (.type "type"))
    (kc_BadLetters : PySem.W.keepIn K (.ref BadLetters) = true)
    (su_BadLetters_BadLetters : PySem.W.subIn K (.ref BadLetters) (.ref BadLetters) = some true)
    (su_BadLetter_BadLetters : PySem.W.subIn K (.ref BadLetter) (.ref BadLetters) = some false)
    (su_TooMany_BadLetters : PySem.W.subIn K (.ref TooMany) (.ref BadLetters) = some false)
    (su_BadBeginning_BadLetters : PySem.W.subIn K (.ref BadBeginning) (.ref BadLetters) = some false)
    (su_BadRuns_BadLetters : PySem.W.subIn K (.ref BadRuns) (.ref BadLetters) = some false)
    (su_BadCount_BadLetters : PySem.W.subIn K (.ref BadCount) (.ref BadLetters) = some false)
    (su_BadPlace_BadLetters : PySem.W.subIn K (.ref BadPlace) (.ref BadLetters) = some false)
    (su_TooLong_BadLetters : PySem.W.subIn K (.ref TooLong) (.ref BadLetters) = some false)
    (a_BadLetters___init__ : PySem.W.findIn K (.ref BadLetters) "__init__" = some (some (.ref f_BadLetters___init__)))
    (xl_BadLetters : K.lookup BadLetters = some (excClassObj nm_BadLetters q_BadLetters BadLetters N_BadLetters bs_BadLetters [.ref AsksError, .type "ValueError", .type "Exception", .type "BaseException", .type "object"] true sn_BadLetters sub_BadLetters ab_BadLetters col_BadLetters dd_BadLetters m0_BadLetters m1_BadLetters m2_BadLetters m3_BadLetters m5_BadLetters "ValueError.__new__"))
    (xs_BadLetters : PySem.W.findIn K (.ref BadLetters) "__setattr__" = some (some (.builtin "object.__setattr__")))
    (ga_BadLetters : PySem.W.findIn K (.ref BadLetters) "__getattribute__" = some (some (.builtin "BaseException.__getattribute__")))
    (gg_BadLetters : PySem.W.findIn K (.ref BadLetters) "__getattr__" = some none)
    (xa_BadLetters : PySem.W.findIn K (.ref BadLetters) "__class__" = some (some (.builtin "object.__class__")))
    (xn_BadLetters : PySem.W.specialIn K (.builtin "object.__class__") "__get__" = some (some (.builtin "getset_descriptor.__get__")))
    (xt_BadLetters : PySem.W.takesIn K (.builtin "object.__class__") = some true)
    (xm_BadLetters : PySem.W.mroIn K BadLetters (.type "object") = some true)
    (na_BadLetters_index : PySem.W.findIn K (.ref BadLetters) "index" = some none)
    (l_BadLetters___init__ : K.lookup f_BadLetters___init__ = some ⟨oc_BadLetters, od_BadLetters, .func ((F_BadLetters cc_BadLetters c_BadLetters).fd doc_BadLetters pm_BadLetters ctv_BadLetters), osl_BadLetters⟩)
    (cd_BadLetters : PySem.W.codeIn K (.ref c_BadLetters) "BadLetters.__init__" = true)
    (cl_BadLetters : K.lookup cc_BadLetters = some ⟨e1_BadLetters, e2_BadLetters, .cell (some (.ref BadLetters)), e5_BadLetters⟩)
    (fl_BadLetters : K.lookup c_BadLetters = some ⟨e3_BadLetters, e4_BadLetters, .fields vs_BadLetters, e6_BadLetters⟩)
    (rv_BadLetters : vs_BadLetters[2]? = some (.str file_BadLetters tf_BadLetters))
    (rf_BadLetters : ((l.prog.main.file : Str) == file_BadLetters) = true)
    (me_BadLetters : PySem.W.mroIn K BadLetters (.ref BadLetters) = some true)
    (up_BadLetters : PySem.W.ks_superIn K BadLetters BadLetters "__init__" = some (some (.builtin "ValueError.__init__")))
    (ve_BadLetters : PySem.W.subIn K (.ref BadLetters) (.type "ValueError") = some true)
    (ty_BadLetters : PySem.W.typeIn K (.ref f_BadLetters___init__) = some (.type "function"))
    (h_BadLetter : PySem.W.nsIn K mainGlobals "BadLetter" = some (some (.ref BadLetter)))
    (sb_BadLetter : PySem.W.subIn K (.ref BadLetter) (.type "BaseException") = some true)
    (xd_BadLetter : PySem.W.hasDictIn K BadLetter = true)
    (tt_BadLetter : PySem.W.typeIn K (.ref BadLetter) = some (.type "type"))
    (kc_BadLetter : PySem.W.keepIn K (.ref BadLetter) = true)
    (su_BadLetters_BadLetter : PySem.W.subIn K (.ref BadLetters) (.ref BadLetter) = some false)
    (su_BadLetter_BadLetter : PySem.W.subIn K (.ref BadLetter) (.ref BadLetter) = some true)
    (su_TooMany_BadLetter : PySem.W.subIn K (.ref TooMany) (.ref BadLetter) = some false)
    (su_BadBeginning_BadLetter : PySem.W.subIn K (.ref BadBeginning) (.ref BadLetter) = some false)
    (su_BadRuns_BadLetter : PySem.W.subIn K (.ref BadRuns) (.ref BadLetter) = some false)
    (su_BadCount_BadLetter : PySem.W.subIn K (.ref BadCount) (.ref BadLetter) = some false)
    (su_BadPlace_BadLetter : PySem.W.subIn K (.ref BadPlace) (.ref BadLetter) = some false)
    (su_TooLong_BadLetter : PySem.W.subIn K (.ref TooLong) (.ref BadLetter) = some false)
    (a_BadLetter___init__ : PySem.W.findIn K (.ref BadLetter) "__init__" = some (some (.ref f_BadLetter___init__)))
    (xl_BadLetter : K.lookup BadLetter = some (excClassObj nm_BadLetter q_BadLetter BadLetter N_BadLetter bs_BadLetter [.ref AsksError, .type "ValueError", .type "Exception", .type "BaseException", .type "object"] true sn_BadLetter sub_BadLetter ab_BadLetter col_BadLetter dd_BadLetter m0_BadLetter m1_BadLetter m2_BadLetter m3_BadLetter m5_BadLetter "ValueError.__new__"))
    (xs_BadLetter : PySem.W.findIn K (.ref BadLetter) "__setattr__" = some (some (.builtin "object.__setattr__")))
    (ga_BadLetter : PySem.W.findIn K (.ref BadLetter) "__getattribute__" = some (some (.builtin "BaseException.__getattribute__")))
    (gg_BadLetter : PySem.W.findIn K (.ref BadLetter) "__getattr__" = some none)
    (xa_BadLetter : PySem.W.findIn K (.ref BadLetter) "__class__" = some (some (.builtin "object.__class__")))
    (xn_BadLetter : PySem.W.specialIn K (.builtin "object.__class__") "__get__" = some (some (.builtin "getset_descriptor.__get__")))
    (xt_BadLetter : PySem.W.takesIn K (.builtin "object.__class__") = some true)
    (xm_BadLetter : PySem.W.mroIn K BadLetter (.type "object") = some true)
    (na_BadLetter_index : PySem.W.findIn K (.ref BadLetter) "index" = some none)
    (l_BadLetter___init__ : K.lookup f_BadLetter___init__ = some ⟨oc_BadLetter, od_BadLetter, .func ((F_BadLetter cc_BadLetter c_BadLetter).fd doc_BadLetter pm_BadLetter ctv_BadLetter), osl_BadLetter⟩)
    (cd_BadLetter : PySem.W.codeIn K (.ref c_BadLetter) "BadLetter.__init__" = true)
    (cl_BadLetter : K.lookup cc_BadLetter = some ⟨e1_BadLetter, e2_BadLetter, .cell (some (.ref BadLetter)), e5_BadLetter⟩)
    (fl_BadLetter : K.lookup c_BadLetter = some ⟨e3_BadLetter, e4_BadLetter, .fields vs_BadLetter, e6_BadLetter⟩)
    (rv_BadLetter : vs_BadLetter[2]? = some (.str file_BadLetter tf_BadLetter))
    (rf_BadLetter : ((l.prog.main.file : Str) == file_BadLetter) = true)
    (me_BadLetter : PySem.W.mroIn K BadLetter (.ref BadLetter) = some true)
    (up_BadLetter : PySem.W.ks_superIn K BadLetter BadLetter "__init__" = some (some (.builtin "ValueError.__init__")))
    (ve_BadLetter : PySem.W.subIn K (.ref BadLetter) (.type "ValueError") = some true)
    (ty_BadLetter : PySem.W.typeIn K (.ref f_BadLetter___init__) = some (.type "function"))
    (h_TooMany : PySem.W.nsIn K mainGlobals "TooMany" = some (some (.ref TooMany)))
    (sb_TooMany : PySem.W.subIn K (.ref TooMany) (.type "BaseException") = some true)
    (xd_TooMany : PySem.W.hasDictIn K TooMany = true)
    (tt_TooMany : PySem.W.typeIn K (.ref TooMany) = some (.type "type"))
    (kc_TooMany : PySem.W.keepIn K (.ref TooMany) = true)
    (su_BadLetters_TooMany : PySem.W.subIn K (.ref BadLetters) (.ref TooMany) = some false)
    (su_BadLetter_TooMany : PySem.W.subIn K (.ref BadLetter) (.ref TooMany) = some false)
    (su_TooMany_TooMany : PySem.W.subIn K (.ref TooMany) (.ref TooMany) = some true)
    (su_BadBeginning_TooMany : PySem.W.subIn K (.ref BadBeginning) (.ref TooMany) = some false)
    (su_BadRuns_TooMany : PySem.W.subIn K (.ref BadRuns) (.ref TooMany) = some false)
    (su_BadCount_TooMany : PySem.W.subIn K (.ref BadCount) (.ref TooMany) = some false)
    (su_BadPlace_TooMany : PySem.W.subIn K (.ref BadPlace) (.ref TooMany) = some false)
    (su_TooLong_TooMany : PySem.W.subIn K (.ref TooLong) (.ref TooMany) = some false)
    (a_TooMany___init__ : PySem.W.findIn K (.ref TooMany) "__init__" = some (some (.ref f_TooMany___init__)))
    (xl_TooMany : K.lookup TooMany = some (excClassObj nm_TooMany q_TooMany TooMany N_TooMany bs_TooMany [.ref AsksError, .type "ValueError", .type "Exception", .type "BaseException", .type "object"] true sn_TooMany sub_TooMany ab_TooMany col_TooMany dd_TooMany m0_TooMany m1_TooMany m2_TooMany m3_TooMany m5_TooMany "ValueError.__new__"))
    (xs_TooMany : PySem.W.findIn K (.ref TooMany) "__setattr__" = some (some (.builtin "object.__setattr__")))
    (ga_TooMany : PySem.W.findIn K (.ref TooMany) "__getattribute__" = some (some (.builtin "BaseException.__getattribute__")))
    (gg_TooMany : PySem.W.findIn K (.ref TooMany) "__getattr__" = some none)
    (xa_TooMany : PySem.W.findIn K (.ref TooMany) "__class__" = some (some (.builtin "object.__class__")))
    (xn_TooMany : PySem.W.specialIn K (.builtin "object.__class__") "__get__" = some (some (.builtin "getset_descriptor.__get__")))
    (xt_TooMany : PySem.W.takesIn K (.builtin "object.__class__") = some true)
    (xm_TooMany : PySem.W.mroIn K TooMany (.type "object") = some true)
    (na_TooMany_what : PySem.W.findIn K (.ref TooMany) "what" = some none)
    (na_TooMany_many : PySem.W.findIn K (.ref TooMany) "many" = some none)
    (na_TooMany_most : PySem.W.findIn K (.ref TooMany) "most" = some none)
    (l_TooMany___init__ : K.lookup f_TooMany___init__ = some ⟨oc_TooMany, od_TooMany, .func ((F_TooMany cc_TooMany c_TooMany).fd doc_TooMany pm_TooMany ctv_TooMany), osl_TooMany⟩)
    (cd_TooMany : PySem.W.codeIn K (.ref c_TooMany) "TooMany.__init__" = true)
    (cl_TooMany : K.lookup cc_TooMany = some ⟨e1_TooMany, e2_TooMany, .cell (some (.ref TooMany)), e5_TooMany⟩)
    (fl_TooMany : K.lookup c_TooMany = some ⟨e3_TooMany, e4_TooMany, .fields vs_TooMany, e6_TooMany⟩)
    (rv_TooMany : vs_TooMany[2]? = some (.str file_TooMany tf_TooMany))
    (rf_TooMany : ((l.prog.main.file : Str) == file_TooMany) = true)
    (me_TooMany : PySem.W.mroIn K TooMany (.ref TooMany) = some true)
    (up_TooMany : PySem.W.ks_superIn K TooMany TooMany "__init__" = some (some (.builtin "ValueError.__init__")))
    (ve_TooMany : PySem.W.subIn K (.ref TooMany) (.type "ValueError") = some true)
    (ty_TooMany : PySem.W.typeIn K (.ref f_TooMany___init__) = some (.type "function"))
    (h_BadBeginning : PySem.W.nsIn K mainGlobals "BadBeginning" = some (some (.ref BadBeginning)))
    (sb_BadBeginning : PySem.W.subIn K (.ref BadBeginning) (.type "BaseException") = some true)
    (xd_BadBeginning : PySem.W.hasDictIn K BadBeginning = true)
    (tt_BadBeginning : PySem.W.typeIn K (.ref BadBeginning) = some (.type "type"))
    (kc_BadBeginning : PySem.W.keepIn K (.ref BadBeginning) = true)
    (su_BadLetters_BadBeginning : PySem.W.subIn K (.ref BadLetters) (.ref BadBeginning) = some false)
    (su_BadLetter_BadBeginning : PySem.W.subIn K (.ref BadLetter) (.ref BadBeginning) = some false)
    (su_TooMany_BadBeginning : PySem.W.subIn K (.ref TooMany) (.ref BadBeginning) = some false)
    (su_BadBeginning_BadBeginning : PySem.W.subIn K (.ref BadBeginning) (.ref BadBeginning) = some true)
    (su_BadRuns_BadBeginning : PySem.W.subIn K (.ref BadRuns) (.ref BadBeginning) = some false)
    (su_BadCount_BadBeginning : PySem.W.subIn K (.ref BadCount) (.ref BadBeginning) = some false)
    (su_BadPlace_BadBeginning : PySem.W.subIn K (.ref BadPlace) (.ref BadBeginning) = some false)
    (su_TooLong_BadBeginning : PySem.W.subIn K (.ref TooLong) (.ref BadBeginning) = some false)
    (xq_BadBeginning : PySem.W.excIn K BadBeginning [.type "ValueError", .type "Exception", .type "BaseException", .type "object"] "ValueError.__new__" = true)
    (h_BadRuns : PySem.W.nsIn K mainGlobals "BadRuns" = some (some (.ref BadRuns)))
    (sb_BadRuns : PySem.W.subIn K (.ref BadRuns) (.type "BaseException") = some true)
    (xd_BadRuns : PySem.W.hasDictIn K BadRuns = true)
    (tt_BadRuns : PySem.W.typeIn K (.ref BadRuns) = some (.type "type"))
    (kc_BadRuns : PySem.W.keepIn K (.ref BadRuns) = true)
    (su_BadLetters_BadRuns : PySem.W.subIn K (.ref BadLetters) (.ref BadRuns) = some false)
    (su_BadLetter_BadRuns : PySem.W.subIn K (.ref BadLetter) (.ref BadRuns) = some false)
    (su_TooMany_BadRuns : PySem.W.subIn K (.ref TooMany) (.ref BadRuns) = some false)
    (su_BadBeginning_BadRuns : PySem.W.subIn K (.ref BadBeginning) (.ref BadRuns) = some false)
    (su_BadRuns_BadRuns : PySem.W.subIn K (.ref BadRuns) (.ref BadRuns) = some true)
    (su_BadCount_BadRuns : PySem.W.subIn K (.ref BadCount) (.ref BadRuns) = some false)
    (su_BadPlace_BadRuns : PySem.W.subIn K (.ref BadPlace) (.ref BadRuns) = some false)
    (su_TooLong_BadRuns : PySem.W.subIn K (.ref TooLong) (.ref BadRuns) = some false)
    (a_BadRuns___init__ : PySem.W.findIn K (.ref BadRuns) "__init__" = some (some (.ref f_BadRuns___init__)))
    (xl_BadRuns : K.lookup BadRuns = some (excClassObj nm_BadRuns q_BadRuns BadRuns N_BadRuns bs_BadRuns [.ref AsksError, .type "ValueError", .type "Exception", .type "BaseException", .type "object"] true sn_BadRuns sub_BadRuns ab_BadRuns col_BadRuns dd_BadRuns m0_BadRuns m1_BadRuns m2_BadRuns m3_BadRuns m5_BadRuns "ValueError.__new__"))
    (xs_BadRuns : PySem.W.findIn K (.ref BadRuns) "__setattr__" = some (some (.builtin "object.__setattr__")))
    (ga_BadRuns : PySem.W.findIn K (.ref BadRuns) "__getattribute__" = some (some (.builtin "BaseException.__getattribute__")))
    (gg_BadRuns : PySem.W.findIn K (.ref BadRuns) "__getattr__" = some none)
    (xa_BadRuns : PySem.W.findIn K (.ref BadRuns) "__class__" = some (some (.builtin "object.__class__")))
    (xn_BadRuns : PySem.W.specialIn K (.builtin "object.__class__") "__get__" = some (some (.builtin "getset_descriptor.__get__")))
    (xt_BadRuns : PySem.W.takesIn K (.builtin "object.__class__") = some true)
    (xm_BadRuns : PySem.W.mroIn K BadRuns (.type "object") = some true)
    (na_BadRuns_index : PySem.W.findIn K (.ref BadRuns) "index" = some none)
    (l_BadRuns___init__ : K.lookup f_BadRuns___init__ = some ⟨oc_BadRuns, od_BadRuns, .func ((F_BadRuns cc_BadRuns c_BadRuns).fd doc_BadRuns pm_BadRuns ctv_BadRuns), osl_BadRuns⟩)
    (cd_BadRuns : PySem.W.codeIn K (.ref c_BadRuns) "BadRuns.__init__" = true)
    (cl_BadRuns : K.lookup cc_BadRuns = some ⟨e1_BadRuns, e2_BadRuns, .cell (some (.ref BadRuns)), e5_BadRuns⟩)
    (fl_BadRuns : K.lookup c_BadRuns = some ⟨e3_BadRuns, e4_BadRuns, .fields vs_BadRuns, e6_BadRuns⟩)
    (rv_BadRuns : vs_BadRuns[2]? = some (.str file_BadRuns tf_BadRuns))
    (rf_BadRuns : ((l.prog.main.file : Str) == file_BadRuns) = true)
    (me_BadRuns : PySem.W.mroIn K BadRuns (.ref BadRuns) = some true)
    (up_BadRuns : PySem.W.ks_superIn K BadRuns BadRuns "__init__" = some (some (.builtin "ValueError.__init__")))
    (ve_BadRuns : PySem.W.subIn K (.ref BadRuns) (.type "ValueError") = some true)
    (ty_BadRuns : PySem.W.typeIn K (.ref f_BadRuns___init__) = some (.type "function"))
    (h_BadCount : PySem.W.nsIn K mainGlobals "BadCount" = some (some (.ref BadCount)))
    (sb_BadCount : PySem.W.subIn K (.ref BadCount) (.type "BaseException") = some true)
    (xd_BadCount : PySem.W.hasDictIn K BadCount = true)
    (tt_BadCount : PySem.W.typeIn K (.ref BadCount) = some (.type "type"))
    (kc_BadCount : PySem.W.keepIn K (.ref BadCount) = true)
    (su_BadLetters_BadCount : PySem.W.subIn K (.ref BadLetters) (.ref BadCount) = some false)
    (su_BadLetter_BadCount : PySem.W.subIn K (.ref BadLetter) (.ref BadCount) = some false)
    (su_TooMany_BadCount : PySem.W.subIn K (.ref TooMany) (.ref BadCount) = some false)
    (su_BadBeginning_BadCount : PySem.W.subIn K (.ref BadBeginning) (.ref BadCount) = some false)
    (su_BadRuns_BadCount : PySem.W.subIn K (.ref BadRuns) (.ref BadCount) = some false)
    (su_BadCount_BadCount : PySem.W.subIn K (.ref BadCount) (.ref BadCount) = some true)
    (su_BadPlace_BadCount : PySem.W.subIn K (.ref BadPlace) (.ref BadCount) = some false)
    (su_TooLong_BadCount : PySem.W.subIn K (.ref TooLong) (.ref BadCount) = some false)
    (a_BadCount___init__ : PySem.W.findIn K (.ref BadCount) "__init__" = some (some (.ref f_BadCount___init__)))
    (xl_BadCount : K.lookup BadCount = some (excClassObj nm_BadCount q_BadCount BadCount N_BadCount bs_BadCount [.ref AsksError, .type "ValueError", .type "Exception", .type "BaseException", .type "object"] true sn_BadCount sub_BadCount ab_BadCount col_BadCount dd_BadCount m0_BadCount m1_BadCount m2_BadCount m3_BadCount m5_BadCount "ValueError.__new__"))
    (xs_BadCount : PySem.W.findIn K (.ref BadCount) "__setattr__" = some (some (.builtin "object.__setattr__")))
    (ga_BadCount : PySem.W.findIn K (.ref BadCount) "__getattribute__" = some (some (.builtin "BaseException.__getattribute__")))
    (gg_BadCount : PySem.W.findIn K (.ref BadCount) "__getattr__" = some none)
    (xa_BadCount : PySem.W.findIn K (.ref BadCount) "__class__" = some (some (.builtin "object.__class__")))
    (xn_BadCount : PySem.W.specialIn K (.builtin "object.__class__") "__get__" = some (some (.builtin "getset_descriptor.__get__")))
    (xt_BadCount : PySem.W.takesIn K (.builtin "object.__class__") = some true)
    (xm_BadCount : PySem.W.mroIn K BadCount (.type "object") = some true)
    (na_BadCount_index : PySem.W.findIn K (.ref BadCount) "index" = some none)
    (l_BadCount___init__ : K.lookup f_BadCount___init__ = some ⟨oc_BadCount, od_BadCount, .func ((F_BadCount cc_BadCount c_BadCount).fd doc_BadCount pm_BadCount ctv_BadCount), osl_BadCount⟩)
    (cd_BadCount : PySem.W.codeIn K (.ref c_BadCount) "BadCount.__init__" = true)
    (cl_BadCount : K.lookup cc_BadCount = some ⟨e1_BadCount, e2_BadCount, .cell (some (.ref BadCount)), e5_BadCount⟩)
    (fl_BadCount : K.lookup c_BadCount = some ⟨e3_BadCount, e4_BadCount, .fields vs_BadCount, e6_BadCount⟩)
    (rv_BadCount : vs_BadCount[2]? = some (.str file_BadCount tf_BadCount))
    (rf_BadCount : ((l.prog.main.file : Str) == file_BadCount) = true)
    (me_BadCount : PySem.W.mroIn K BadCount (.ref BadCount) = some true)
    (up_BadCount : PySem.W.ks_superIn K BadCount BadCount "__init__" = some (some (.builtin "ValueError.__init__")))
    (ve_BadCount : PySem.W.subIn K (.ref BadCount) (.type "ValueError") = some true)
    (ty_BadCount : PySem.W.typeIn K (.ref f_BadCount___init__) = some (.type "function"))
    (h_BadPlace : PySem.W.nsIn K mainGlobals "BadPlace" = some (some (.ref BadPlace)))
    (sb_BadPlace : PySem.W.subIn K (.ref BadPlace) (.type "BaseException") = some true)
    (xd_BadPlace : PySem.W.hasDictIn K BadPlace = true)
    (tt_BadPlace : PySem.W.typeIn K (.ref BadPlace) = some (.type "type"))
    (kc_BadPlace : PySem.W.keepIn K (.ref BadPlace) = true)
    (su_BadLetters_BadPlace : PySem.W.subIn K (.ref BadLetters) (.ref BadPlace) = some false)
    (su_BadLetter_BadPlace : PySem.W.subIn K (.ref BadLetter) (.ref BadPlace) = some false)
    (su_TooMany_BadPlace : PySem.W.subIn K (.ref TooMany) (.ref BadPlace) = some false)
    (su_BadBeginning_BadPlace : PySem.W.subIn K (.ref BadBeginning) (.ref BadPlace) = some false)
    (su_BadRuns_BadPlace : PySem.W.subIn K (.ref BadRuns) (.ref BadPlace) = some false)
    (su_BadCount_BadPlace : PySem.W.subIn K (.ref BadCount) (.ref BadPlace) = some false)
    (su_BadPlace_BadPlace : PySem.W.subIn K (.ref BadPlace) (.ref BadPlace) = some true)
    (su_TooLong_BadPlace : PySem.W.subIn K (.ref TooLong) (.ref BadPlace) = some false)
    (a_BadPlace___init__ : PySem.W.findIn K (.ref BadPlace) "__init__" = some (some (.ref f_BadPlace___init__)))
    (xl_BadPlace : K.lookup BadPlace = some (excClassObj nm_BadPlace q_BadPlace BadPlace N_BadPlace bs_BadPlace [.ref AsksError, .type "ValueError", .type "Exception", .type "BaseException", .type "object"] true sn_BadPlace sub_BadPlace ab_BadPlace col_BadPlace dd_BadPlace m0_BadPlace m1_BadPlace m2_BadPlace m3_BadPlace m5_BadPlace "ValueError.__new__"))
    (xs_BadPlace : PySem.W.findIn K (.ref BadPlace) "__setattr__" = some (some (.builtin "object.__setattr__")))
    (ga_BadPlace : PySem.W.findIn K (.ref BadPlace) "__getattribute__" = some (some (.builtin "BaseException.__getattribute__")))
    (gg_BadPlace : PySem.W.findIn K (.ref BadPlace) "__getattr__" = some none)
    (xa_BadPlace : PySem.W.findIn K (.ref BadPlace) "__class__" = some (some (.builtin "object.__class__")))
    (xn_BadPlace : PySem.W.specialIn K (.builtin "object.__class__") "__get__" = some (some (.builtin "getset_descriptor.__get__")))
    (xt_BadPlace : PySem.W.takesIn K (.builtin "object.__class__") = some true)
    (xm_BadPlace : PySem.W.mroIn K BadPlace (.type "object") = some true)
    (na_BadPlace_place : PySem.W.findIn K (.ref BadPlace) "place" = some none)
    (l_BadPlace___init__ : K.lookup f_BadPlace___init__ = some ⟨oc_BadPlace, od_BadPlace, .func ((F_BadPlace cc_BadPlace c_BadPlace).fd doc_BadPlace pm_BadPlace ctv_BadPlace), osl_BadPlace⟩)
    (cd_BadPlace : PySem.W.codeIn K (.ref c_BadPlace) "BadPlace.__init__" = true)
    (cl_BadPlace : K.lookup cc_BadPlace = some ⟨e1_BadPlace, e2_BadPlace, .cell (some (.ref BadPlace)), e5_BadPlace⟩)
    (fl_BadPlace : K.lookup c_BadPlace = some ⟨e3_BadPlace, e4_BadPlace, .fields vs_BadPlace, e6_BadPlace⟩)
    (rv_BadPlace : vs_BadPlace[2]? = some (.str file_BadPlace tf_BadPlace))
    (rf_BadPlace : ((l.prog.main.file : Str) == file_BadPlace) = true)
    (me_BadPlace : PySem.W.mroIn K BadPlace (.ref BadPlace) = some true)
    (up_BadPlace : PySem.W.ks_superIn K BadPlace BadPlace "__init__" = some (some (.builtin "ValueError.__init__")))
    (ve_BadPlace : PySem.W.subIn K (.ref BadPlace) (.type "ValueError") = some true)
    (ty_BadPlace : PySem.W.typeIn K (.ref f_BadPlace___init__) = some (.type "function"))
    (h_TooLong : PySem.W.nsIn K mainGlobals "TooLong" = some (some (.ref TooLong)))
    (sb_TooLong : PySem.W.subIn K (.ref TooLong) (.type "BaseException") = some true)
    (xd_TooLong : PySem.W.hasDictIn K TooLong = true)
    (tt_TooLong : PySem.W.typeIn K (.ref TooLong) = some (.type "type"))
    (kc_TooLong : PySem.W.keepIn K (.ref TooLong) = true)
    (su_BadLetters_TooLong : PySem.W.subIn K (.ref BadLetters) (.ref TooLong) = some false)
    (su_BadLetter_TooLong : PySem.W.subIn K (.ref BadLetter) (.ref TooLong) = some false)
    (su_TooMany_TooLong : PySem.W.subIn K (.ref TooMany) (.ref TooLong) = some false)
    (su_BadBeginning_TooLong : PySem.W.subIn K (.ref BadBeginning) (.ref TooLong) = some false)
    (su_BadRuns_TooLong : PySem.W.subIn K (.ref BadRuns) (.ref TooLong) = some false)
    (su_BadCount_TooLong : PySem.W.subIn K (.ref BadCount) (.ref TooLong) = some false)
    (su_BadPlace_TooLong : PySem.W.subIn K (.ref BadPlace) (.ref TooLong) = some false)
    (su_TooLong_TooLong : PySem.W.subIn K (.ref TooLong) (.ref TooLong) = some true)
    (a_TooLong___init__ : PySem.W.findIn K (.ref TooLong) "__init__" = some (some (.ref f_TooLong___init__)))
    (xl_TooLong : K.lookup TooLong = some (excClassObj nm_TooLong q_TooLong TooLong N_TooLong bs_TooLong [.ref AsksError, .type "ValueError", .type "Exception", .type "BaseException", .type "object"] true sn_TooLong sub_TooLong ab_TooLong col_TooLong dd_TooLong m0_TooLong m1_TooLong m2_TooLong m3_TooLong m5_TooLong "ValueError.__new__"))
    (xs_TooLong : PySem.W.findIn K (.ref TooLong) "__setattr__" = some (some (.builtin "object.__setattr__")))
    (ga_TooLong : PySem.W.findIn K (.ref TooLong) "__getattribute__" = some (some (.builtin "BaseException.__getattribute__")))
    (gg_TooLong : PySem.W.findIn K (.ref TooLong) "__getattr__" = some none)
    (xa_TooLong : PySem.W.findIn K (.ref TooLong) "__class__" = some (some (.builtin "object.__class__")))
    (xn_TooLong : PySem.W.specialIn K (.builtin "object.__class__") "__get__" = some (some (.builtin "getset_descriptor.__get__")))
    (xt_TooLong : PySem.W.takesIn K (.builtin "object.__class__") = some true)
    (xm_TooLong : PySem.W.mroIn K TooLong (.type "object") = some true)
    (na_TooLong_size : PySem.W.findIn K (.ref TooLong) "size" = some none)
    (l_TooLong___init__ : K.lookup f_TooLong___init__ = some ⟨oc_TooLong, od_TooLong, .func ((F_TooLong cc_TooLong c_TooLong).fd doc_TooLong pm_TooLong ctv_TooLong), osl_TooLong⟩)
    (cd_TooLong : PySem.W.codeIn K (.ref c_TooLong) "TooLong.__init__" = true)
    (cl_TooLong : K.lookup cc_TooLong = some ⟨e1_TooLong, e2_TooLong, .cell (some (.ref TooLong)), e5_TooLong⟩)
    (fl_TooLong : K.lookup c_TooLong = some ⟨e3_TooLong, e4_TooLong, .fields vs_TooLong, e6_TooLong⟩)
    (rv_TooLong : vs_TooLong[2]? = some (.str file_TooLong tf_TooLong))
    (rf_TooLong : ((l.prog.main.file : Str) == file_TooLong) = true)
    (me_TooLong : PySem.W.mroIn K TooLong (.ref TooLong) = some true)
    (up_TooLong : PySem.W.ks_superIn K TooLong TooLong "__init__" = some (some (.builtin "ValueError.__init__")))
    (ve_TooLong : PySem.W.subIn K (.ref TooLong) (.type "ValueError") = some true)
    (ty_TooLong : PySem.W.typeIn K (.ref f_TooLong___init__) = some (.type "function"))
    : ∃ fd : FuncData, (∀ (s : Shared) (v : Value), BindsTo s fd ⟨[v], []⟩ [("_law_script", v)]) ∧ ∀ base : Heap, K.In base → base.Ns mainGlobals mg → FnOkG l.prog w K mg base CX0 9 fa fd ["_law_script"] (spLaw K) := by
  have e := hfa.symm.trans (PySem.W.mg_of X G a_law)
  cases e
  have T : Txt l.prog K mg ⟨Letters, History, BadLetters, f_BadLetters___init__, BadLetter, f_BadLetter___init__, TooMany, f_TooMany___init__, BadBeginning, BadRuns, f_BadRuns___init__, BadCount, f_BadCount___init__, BadPlace, f_BadPlace___init__, TooLong, f_TooLong___init__, MOST_LETTERS, BEGINNINGS, SMALL, SIGNS, MOST_RUNS, MOST_COUNT, MOST_WORD, f_is_list, f_is_integer, f_is_word, f_is_beginning, f_is_letter, f_Letters___init__, f_Letters___contains__, f_Letters___eq__, f_need_beginning, f_need_runs, f_join_runs, f_History___init__, dp0_History___init__, dk_ahead_History___init__, f_History___getitem__, f_History___eq__, f_History_word, f__law_pen, f__law_draw, f__law_pick, f__law_letters, f__law_joined, f__law_as_runs, f__law_beginning, f__law_free, f__law_at, f__law_all, f__law_is_right, f__law_plain, fa⟩ := {
    n_abs := PySem.W.mg_none_of X G z_abs,
    n_all := PySem.W.mg_none_of X G z_all,
    n_bool := PySem.W.mg_none_of X G z_bool,
    n_enumerate := PySem.W.mg_none_of X G z_enumerate,
    n_int := PySem.W.mg_none_of X G z_int,
    n_isinstance := PySem.W.mg_none_of X G z_isinstance,
    n_len := PySem.W.mg_none_of X G z_len,
    n_list := PySem.W.mg_none_of X G z_list,
    n_min := PySem.W.mg_none_of X G z_min,
    n_range := PySem.W.mg_none_of X G z_range,
    n_repr := PySem.W.mg_none_of X G z_repr,
    n_str := PySem.W.mg_none_of X G z_str,
    n_sum := PySem.W.mg_none_of X G z_sum,
    n_tuple := PySem.W.mg_none_of X G z_tuple,
    g_MOST_LETTERS := PySem.W.mg_of X G h_MOST_LETTERS,
    g_BEGINNINGS := PySem.W.mg_of X G h_BEGINNINGS,
    k_BEGINNINGS := fun H => .inr ⟨_, _, _, lk_BEGINNINGS, rfl, rfl, by show 2 ≤ sizeLine; decide, (.cons ⟨_, rfl⟩ (.cons ⟨_, rfl⟩ .nil))⟩,
    g_SMALL := PySem.W.mg_of X G h_SMALL,
    g_SIGNS := PySem.W.mg_of X G h_SIGNS,
    g_MOST_RUNS := PySem.W.mg_of X G h_MOST_RUNS,
    g_MOST_COUNT := PySem.W.mg_of X G h_MOST_COUNT,
    g_MOST_WORD := PySem.W.mg_of X G h_MOST_WORD,
    g_Letters := PySem.W.mg_of X G h_Letters,
    cl_Letters := ⟨pg_Letters, hd_Letters, po_Letters, sa_Letters⟩,
    na_Letters_words := na_Letters_words,
    ne_Letters := ⟨ne_Letters, ob_Letters⟩,
    isi_Letters := ⟨ia_Letters, in_Letters, it_Letters, im_Letters, if_pos (beq_self_eq_true _)⟩,
    g_History := PySem.W.mg_of X G h_History,
    cl_History := ⟨pg_History, hd_History, po_History, sa_History⟩,
    na_History_letters := na_History_letters,
    na_History_beginning := na_History_beginning,
    na_History_runs := na_History_runs,
    na_History_size := na_History_size,
    na_History_last := na_History_last,
    ne_History := ⟨ne_History, ob_History⟩,
    isi_History := ⟨ia_History, in_History, it_History, im_History, if_pos (beq_self_eq_true _)⟩,
    F_is_list := ⟨_, fun_mk (st := s_is_list) l_is_list c_is_list k_is_list, (fun_mk (st := s_is_list) l_is_list c_is_list k_is_list).binds (ps := ["value"]) fun _ _ _ _ _ _ us hl => match us, hl with | [_], _ => rfl⟩,
    g_is_list := PySem.W.mg_of X G a_is_list,
    F_is_integer := ⟨_, fun_mk (st := s_is_integer) l_is_integer c_is_integer k_is_integer, (fun_mk (st := s_is_integer) l_is_integer c_is_integer k_is_integer).binds (ps := ["value"]) fun _ _ _ _ _ _ us hl => match us, hl with | [_], _ => rfl⟩,
    g_is_integer := PySem.W.mg_of X G a_is_integer,
    F_is_word := ⟨_, fun_mk (st := s_is_word) l_is_word c_is_word k_is_word, (fun_mk (st := s_is_word) l_is_word c_is_word k_is_word).binds (ps := ["value"]) fun _ _ _ _ _ _ us hl => match us, hl with | [_], _ => rfl⟩,
    g_is_word := PySem.W.mg_of X G a_is_word,
    F_is_beginning := ⟨_, fun_mk (st := s_is_beginning) l_is_beginning c_is_beginning k_is_beginning, (fun_mk (st := s_is_beginning) l_is_beginning c_is_beginning k_is_beginning).binds (ps := ["value"]) fun _ _ _ _ _ _ us hl => match us, hl with | [_], _ => rfl⟩,
    g_is_beginning := PySem.W.mg_of X G a_is_beginning,
    F_is_letter := ⟨_, fun_mk (st := s_is_letter) l_is_letter c_is_letter k_is_letter, (fun_mk (st := s_is_letter) l_is_letter c_is_letter k_is_letter).binds (ps := ["value"]) fun _ _ _ _ _ _ us hl => match us, hl with | [_], _ => rfl⟩,
    g_is_letter := PySem.W.mg_of X G a_is_letter,
    F_Letters___init__ := ⟨_, fun_mk (st := s_Letters___init__) l_Letters___init__ c_Letters___init__ k_Letters___init__, (fun_mk (st := s_Letters___init__) l_Letters___init__ c_Letters___init__ k_Letters___init__).binds (ps := ["self", "words"]) fun _ _ _ _ _ _ us hl => match us, hl with | [_, _], _ => rfl⟩,
    F_Letters___contains__ := ⟨_, fun_mk (st := s_Letters___contains__) l_Letters___contains__ c_Letters___contains__ k_Letters___contains__, (fun_mk (st := s_Letters___contains__) l_Letters___contains__ c_Letters___contains__ k_Letters___contains__).binds (ps := ["self", "x"]) fun _ _ _ _ _ _ us hl => match us, hl with | [_, _], _ => rfl⟩,
    m_Letters___contains__ := ⟨a_Letters___contains__, i_Letters___contains__, k_Letters___contains__⟩,
    F_Letters___eq__ := ⟨_, fun_mk (st := s_Letters___eq__) l_Letters___eq__ c_Letters___eq__ k_Letters___eq__, (fun_mk (st := s_Letters___eq__) l_Letters___eq__ c_Letters___eq__ k_Letters___eq__).binds (ps := ["self", "other"]) fun _ _ _ _ _ _ us hl => match us, hl with | [_, _], _ => rfl⟩,
    m_Letters___eq__ := ⟨a_Letters___eq__, i_Letters___eq__, k_Letters___eq__⟩,
    F_need_beginning := ⟨_, fun_mk (st := s_need_beginning) l_need_beginning c_need_beginning k_need_beginning, (fun_mk (st := s_need_beginning) l_need_beginning c_need_beginning k_need_beginning).binds (ps := ["beginning"]) fun _ _ _ _ _ _ us hl => match us, hl with | [_], _ => rfl⟩,
    g_need_beginning := PySem.W.mg_of X G a_need_beginning,
    F_need_runs := ⟨_, fun_mk (st := s_need_runs) l_need_runs c_need_runs k_need_runs, (fun_mk (st := s_need_runs) l_need_runs c_need_runs k_need_runs).binds (ps := ["letters", "runs"]) fun _ _ _ _ _ _ us hl => match us, hl with | [_, _], _ => rfl⟩,
    g_need_runs := PySem.W.mg_of X G a_need_runs,
    F_join_runs := ⟨_, fun_mk (st := s_join_runs) l_join_runs c_join_runs k_join_runs, (fun_mk (st := s_join_runs) l_join_runs c_join_runs k_join_runs).binds (ps := ["runs"]) fun _ _ _ _ _ _ us hl => match us, hl with | [_], _ => rfl⟩,
    g_join_runs := PySem.W.mg_of X G a_join_runs,
    k_dp0_History___init__ := fun H => .inr ⟨_, _, _, lk_dp0_History___init__, rfl, rfl, by show 0 ≤ sizeLine; decide, .nil⟩,
    k_dk_ahead_History___init__ := fun H => .inr ⟨_, _, _, lk_dk_ahead_History___init__, rfl, rfl, by show 0 ≤ sizeLine; decide, .nil⟩,
    F_History___init__ := ⟨_, ⟨_, _, _, _, _, _, _, _, _, _, rfl, l_History___init__, c_History___init__, .inr ⟨(by intro z; cases z), _, _, _, _, rfl, d_History___init__, rfl, (.cons rfl .nil)⟩, .inr ⟨_, rfl, fun q hq => by simp only [List.mem_cons, List.not_mem_nil, or_false] at hq; subst hq; exact ⟨_, dn_ahead_History___init__, rfl⟩⟩⟩, k_History___init__⟩,
    F_History___getitem__ := ⟨_, fun_mk (st := s_History___getitem__) l_History___getitem__ c_History___getitem__ k_History___getitem__, (fun_mk (st := s_History___getitem__) l_History___getitem__ c_History___getitem__ k_History___getitem__).binds (ps := ["self", "place"]) fun _ _ _ _ _ _ us hl => match us, hl with | [_, _], _ => rfl⟩,
    m_History___getitem__ := ⟨a_History___getitem__, i_History___getitem__, k_History___getitem__⟩,
    F_History___eq__ := ⟨_, fun_mk (st := s_History___eq__) l_History___eq__ c_History___eq__ k_History___eq__, (fun_mk (st := s_History___eq__) l_History___eq__ c_History___eq__ k_History___eq__).binds (ps := ["self", "other"]) fun _ _ _ _ _ _ us hl => match us, hl with | [_, _], _ => rfl⟩,
    m_History___eq__ := ⟨a_History___eq__, i_History___eq__, k_History___eq__⟩,
    F_History_word := ⟨_, fun_mk (st := s_History_word) l_History_word c_History_word k_History_word, (fun_mk (st := s_History_word) l_History_word c_History_word k_History_word).binds (ps := ["self"]) fun _ _ _ _ _ _ us hl => match us, hl with | [_], _ => rfl⟩,
    m_History_word := ⟨a_History_word, i_History_word, k_History_word⟩,
    F__law_pen := ⟨_, fun_mk (st := s__law_pen) l__law_pen c__law_pen k__law_pen, (fun_mk (st := s__law_pen) l__law_pen c__law_pen k__law_pen).binds (ps := ["_law_script"]) fun _ _ _ _ _ _ us hl => match us, hl with | [_], _ => rfl⟩,
    g__law_pen := PySem.W.mg_of X G a__law_pen,
    F__law_draw := ⟨_, fun_mk (st := s__law_draw) l__law_draw c__law_draw k__law_draw, (fun_mk (st := s__law_draw) l__law_draw c__law_draw k__law_draw).binds (ps := ["_law_pen_here", "_law_many"]) fun _ _ _ _ _ _ us hl => match us, hl with | [_, _], _ => rfl⟩,
    g__law_draw := PySem.W.mg_of X G a__law_draw,
    F__law_pick := ⟨_, fun_mk (st := s__law_pick) l__law_pick c__law_pick k__law_pick, (fun_mk (st := s__law_pick) l__law_pick c__law_pick k__law_pick).binds (ps := ["_law_pen_here", "_law_options"]) fun _ _ _ _ _ _ us hl => match us, hl with | [_, _], _ => rfl⟩,
    g__law_pick := PySem.W.mg_of X G a__law_pick,
    F__law_letters := ⟨_, fun_mk (st := s__law_letters) l__law_letters c__law_letters k__law_letters, (fun_mk (st := s__law_letters) l__law_letters c__law_letters k__law_letters).binds (ps := ["_law_pen_here", "_law_many"]) fun _ _ _ _ _ _ us hl => match us, hl with | [_, _], _ => rfl⟩,
    g__law_letters := PySem.W.mg_of X G a__law_letters,
    F__law_joined := ⟨_, fun_mk (st := s__law_joined) l__law_joined c__law_joined k__law_joined, (fun_mk (st := s__law_joined) l__law_joined c__law_joined k__law_joined).binds (ps := ["_law_runs"]) fun _ _ _ _ _ _ us hl => match us, hl with | [_], _ => rfl⟩,
    g__law_joined := PySem.W.mg_of X G a__law_joined,
    F__law_as_runs := ⟨_, fun_mk (st := s__law_as_runs) l__law_as_runs c__law_as_runs k__law_as_runs, (fun_mk (st := s__law_as_runs) l__law_as_runs c__law_as_runs k__law_as_runs).binds (ps := ["_law_word"]) fun _ _ _ _ _ _ us hl => match us, hl with | [_], _ => rfl⟩,
    g__law_as_runs := PySem.W.mg_of X G a__law_as_runs,
    F__law_beginning := ⟨_, fun_mk (st := s__law_beginning) l__law_beginning c__law_beginning k__law_beginning, (fun_mk (st := s__law_beginning) l__law_beginning c__law_beginning k__law_beginning).binds (ps := ["_law_pen_here"]) fun _ _ _ _ _ _ us hl => match us, hl with | [_], _ => rfl⟩,
    g__law_beginning := PySem.W.mg_of X G a__law_beginning,
    F__law_free := ⟨_, fun_mk (st := s__law_free) l__law_free c__law_free k__law_free, (fun_mk (st := s__law_free) l__law_free c__law_free k__law_free).binds (ps := ["_law_letters_here"]) fun _ _ _ _ _ _ us hl => match us, hl with | [_], _ => rfl⟩,
    g__law_free := PySem.W.mg_of X G a__law_free,
    F__law_at := ⟨_, fun_mk (st := s__law_at) l__law_at c__law_at k__law_at, (fun_mk (st := s__law_at) l__law_at c__law_at k__law_at).binds (ps := ["_law_made", "_law_place"]) fun _ _ _ _ _ _ us hl => match us, hl with | [_, _], _ => rfl⟩,
    g__law_at := PySem.W.mg_of X G a__law_at,
    F__law_all := ⟨_, fun_mk (st := s__law_all) l__law_all c__law_all k__law_all, (fun_mk (st := s__law_all) l__law_all c__law_all k__law_all).binds (ps := ["_law_made"]) fun _ _ _ _ _ _ us hl => match us, hl with | [_], _ => rfl⟩,
    g__law_all := PySem.W.mg_of X G a__law_all,
    F__law_is_right := ⟨_, fun_mk (st := s__law_is_right) l__law_is_right c__law_is_right k__law_is_right, (fun_mk (st := s__law_is_right) l__law_is_right c__law_is_right k__law_is_right).binds (ps := ["_law_made", "_law_letters_here", "_law_beginning_here", "_law_word"]) fun _ _ _ _ _ _ us hl => match us, hl with | [_, _, _, _], _ => rfl⟩,
    g__law_is_right := PySem.W.mg_of X G a__law_is_right,
    F__law_plain := ⟨_, fun_mk (st := s__law_plain) l__law_plain c__law_plain k__law_plain, (fun_mk (st := s__law_plain) l__law_plain c__law_plain k__law_plain).binds (ps := ["_law_runs"]) fun _ _ _ _ _ _ us hl => match us, hl with | [_], _ => rfl⟩,
    g__law_plain := PySem.W.mg_of X G a__law_plain,
    F_law := ⟨_, fun_mk (st := s_law) l_law c_law k_law, (fun_mk (st := s_law) l_law c_law k_law).binds (ps := ["_law_script"]) fun _ _ _ _ _ _ us hl => match us, hl with | [_], _ => rfl⟩,
    g_law := PySem.W.mg_of X G a_law,
    fn_History___getitem__ := fn_History___getitem__,
    mk_Letters := ⟨mk_Letters, a_Letters___init__, i_Letters___init__, kc_Letters⟩,
    mk_History := ⟨mk_History, a_History___init__, i_History___init__, kc_History⟩,
    g_BadLetters := PySem.W.mg_of X G h_BadLetters,
    ex_BadLetters := ⟨sb_BadLetters, xd_BadLetters, tt_BadLetters⟩,
    em_BadLetters_BadLetters := ExmC.em ⟨sb_BadLetters, xd_BadLetters, tt_BadLetters⟩ su_BadLetters_BadLetters,
    em_BadLetter_BadLetters := ExmC.em ⟨sb_BadLetters, xd_BadLetters, tt_BadLetters⟩ su_BadLetter_BadLetters,
    em_TooMany_BadLetters := ExmC.em ⟨sb_BadLetters, xd_BadLetters, tt_BadLetters⟩ su_TooMany_BadLetters,
    em_BadBeginning_BadLetters := ExmC.em ⟨sb_BadLetters, xd_BadLetters, tt_BadLetters⟩ su_BadBeginning_BadLetters,
    em_BadRuns_BadLetters := ExmC.em ⟨sb_BadLetters, xd_BadLetters, tt_BadLetters⟩ su_BadRuns_BadLetters,
    em_BadCount_BadLetters := ExmC.em ⟨sb_BadLetters, xd_BadLetters, tt_BadLetters⟩ su_BadCount_BadLetters,
    em_BadPlace_BadLetters := ExmC.em ⟨sb_BadLetters, xd_BadLetters, tt_BadLetters⟩ su_BadPlace_BadLetters,
    em_TooLong_BadLetters := ExmC.em ⟨sb_BadLetters, xd_BadLetters, tt_BadLetters⟩ su_TooLong_BadLetters,
    xf_BadLetters := ⟨ga_BadLetters, gg_BadLetters, sb_BadLetters, xd_BadLetters⟩,
    xe_BadLetters := ⟨ga_BadLetters, gg_BadLetters, sb_BadLetters, xd_BadLetters, xa_BadLetters, xn_BadLetters, xt_BadLetters, xm_BadLetters⟩,
    na_BadLetters_index := na_BadLetters_index,
    xi_BadLetters := ⟨cc_BadLetters, c_BadLetters, doc_BadLetters, pm_BadLetters, ctv_BadLetters, ⟨⟨_, _, _, l_BadLetters___init__⟩, cd_BadLetters, ⟨cc_BadLetters, _, _, _, rfl, cl_BadLetters⟩, ⟨_, rfl, rfl⟩, ⟨_, _, _, _, _, _, fl_BadLetters, rv_BadLetters, rf_BadLetters⟩, me_BadLetters, PySem.W.mg_none_of X G z_super, rfl, hst_, op_, up_BadLetters, ve_BadLetters, ⟨⟨_, _, _, _, _, _, _, _, _, _, _, _, _, _, _, xl_BadLetters, rfl⟩, xs_BadLetters, sb_BadLetters, tt_BadLetters, kc_BadLetters⟩⟩, fun s us _ hl => match us, hl with | [_, _], _ => .of_eq rfl⟩,
    kv_BadLetters := kit_own ve_BadLetters,
    in_BadLetters := a_BadLetters___init__,
    ty_BadLetters := ty_BadLetters,
    g_BadLetter := PySem.W.mg_of X G h_BadLetter,
    ex_BadLetter := ⟨sb_BadLetter, xd_BadLetter, tt_BadLetter⟩,
    em_BadLetters_BadLetter := ExmC.em ⟨sb_BadLetter, xd_BadLetter, tt_BadLetter⟩ su_BadLetters_BadLetter,
    em_BadLetter_BadLetter := ExmC.em ⟨sb_BadLetter, xd_BadLetter, tt_BadLetter⟩ su_BadLetter_BadLetter,
    em_TooMany_BadLetter := ExmC.em ⟨sb_BadLetter, xd_BadLetter, tt_BadLetter⟩ su_TooMany_BadLetter,
    em_BadBeginning_BadLetter := ExmC.em ⟨sb_BadLetter, xd_BadLetter, tt_BadLetter⟩ su_BadBeginning_BadLetter,
    em_BadRuns_BadLetter := ExmC.em ⟨sb_BadLetter, xd_BadLetter, tt_BadLetter⟩ su_BadRuns_BadLetter,
    em_BadCount_BadLetter := ExmC.em ⟨sb_BadLetter, xd_BadLetter, tt_BadLetter⟩ su_BadCount_BadLetter,
    em_BadPlace_BadLetter := ExmC.em ⟨sb_BadLetter, xd_BadLetter, tt_BadLetter⟩ su_BadPlace_BadLetter,
    em_TooLong_BadLetter := ExmC.em ⟨sb_BadLetter, xd_BadLetter, tt_BadLetter⟩ su_TooLong_BadLetter,
    xf_BadLetter := ⟨ga_BadLetter, gg_BadLetter, sb_BadLetter, xd_BadLetter⟩,
    xe_BadLetter := ⟨ga_BadLetter, gg_BadLetter, sb_BadLetter, xd_BadLetter, xa_BadLetter, xn_BadLetter, xt_BadLetter, xm_BadLetter⟩,
    na_BadLetter_index := na_BadLetter_index,
    xi_BadLetter := ⟨cc_BadLetter, c_BadLetter, doc_BadLetter, pm_BadLetter, ctv_BadLetter, ⟨⟨_, _, _, l_BadLetter___init__⟩, cd_BadLetter, ⟨cc_BadLetter, _, _, _, rfl, cl_BadLetter⟩, ⟨_, rfl, rfl⟩, ⟨_, _, _, _, _, _, fl_BadLetter, rv_BadLetter, rf_BadLetter⟩, me_BadLetter, PySem.W.mg_none_of X G z_super, rfl, hst_, op_, up_BadLetter, ve_BadLetter, ⟨⟨_, _, _, _, _, _, _, _, _, _, _, _, _, _, _, xl_BadLetter, rfl⟩, xs_BadLetter, sb_BadLetter, tt_BadLetter, kc_BadLetter⟩⟩, fun s us _ hl => match us, hl with | [_, _], _ => .of_eq rfl⟩,
    kv_BadLetter := kit_own ve_BadLetter,
    in_BadLetter := a_BadLetter___init__,
    ty_BadLetter := ty_BadLetter,
    g_TooMany := PySem.W.mg_of X G h_TooMany,
    ex_TooMany := ⟨sb_TooMany, xd_TooMany, tt_TooMany⟩,
    em_BadLetters_TooMany := ExmC.em ⟨sb_TooMany, xd_TooMany, tt_TooMany⟩ su_BadLetters_TooMany,
    em_BadLetter_TooMany := ExmC.em ⟨sb_TooMany, xd_TooMany, tt_TooMany⟩ su_BadLetter_TooMany,
    em_TooMany_TooMany := ExmC.em ⟨sb_TooMany, xd_TooMany, tt_TooMany⟩ su_TooMany_TooMany,
    em_BadBeginning_TooMany := ExmC.em ⟨sb_TooMany, xd_TooMany, tt_TooMany⟩ su_BadBeginning_TooMany,
    em_BadRuns_TooMany := ExmC.em ⟨sb_TooMany, xd_TooMany, tt_TooMany⟩ su_BadRuns_TooMany,
    em_BadCount_TooMany := ExmC.em ⟨sb_TooMany, xd_TooMany, tt_TooMany⟩ su_BadCount_TooMany,
    em_BadPlace_TooMany := ExmC.em ⟨sb_TooMany, xd_TooMany, tt_TooMany⟩ su_BadPlace_TooMany,
    em_TooLong_TooMany := ExmC.em ⟨sb_TooMany, xd_TooMany, tt_TooMany⟩ su_TooLong_TooMany,
    xf_TooMany := ⟨ga_TooMany, gg_TooMany, sb_TooMany, xd_TooMany⟩,
    xe_TooMany := ⟨ga_TooMany, gg_TooMany, sb_TooMany, xd_TooMany, xa_TooMany, xn_TooMany, xt_TooMany, xm_TooMany⟩,
    na_TooMany_what := na_TooMany_what,
    na_TooMany_many := na_TooMany_many,
    na_TooMany_most := na_TooMany_most,
    xi_TooMany := ⟨cc_TooMany, c_TooMany, doc_TooMany, pm_TooMany, ctv_TooMany, ⟨⟨_, _, _, l_TooMany___init__⟩, cd_TooMany, ⟨cc_TooMany, _, _, _, rfl, cl_TooMany⟩, ⟨_, rfl, rfl⟩, ⟨_, _, _, _, _, _, fl_TooMany, rv_TooMany, rf_TooMany⟩, me_TooMany, PySem.W.mg_none_of X G z_super, rfl, hst_, op_, up_TooMany, ve_TooMany, ⟨⟨_, _, _, _, _, _, _, _, _, _, _, _, _, _, _, xl_TooMany, rfl⟩, xs_TooMany, sb_TooMany, tt_TooMany, kc_TooMany⟩⟩, fun s us _ hl => match us, hl with | [_, _, _, _], _ => .of_eq rfl⟩,
    kv_TooMany := kit_own ve_TooMany,
    in_TooMany := a_TooMany___init__,
    ty_TooMany := ty_TooMany,
    g_BadBeginning := PySem.W.mg_of X G h_BadBeginning,
    ex_BadBeginning := ⟨sb_BadBeginning, xd_BadBeginning, tt_BadBeginning⟩,
    em_BadLetters_BadBeginning := ExmC.em ⟨sb_BadBeginning, xd_BadBeginning, tt_BadBeginning⟩ su_BadLetters_BadBeginning,
    em_BadLetter_BadBeginning := ExmC.em ⟨sb_BadBeginning, xd_BadBeginning, tt_BadBeginning⟩ su_BadLetter_BadBeginning,
    em_TooMany_BadBeginning := ExmC.em ⟨sb_BadBeginning, xd_BadBeginning, tt_BadBeginning⟩ su_TooMany_BadBeginning,
    em_BadBeginning_BadBeginning := ExmC.em ⟨sb_BadBeginning, xd_BadBeginning, tt_BadBeginning⟩ su_BadBeginning_BadBeginning,
    em_BadRuns_BadBeginning := ExmC.em ⟨sb_BadBeginning, xd_BadBeginning, tt_BadBeginning⟩ su_BadRuns_BadBeginning,
    em_BadCount_BadBeginning := ExmC.em ⟨sb_BadBeginning, xd_BadBeginning, tt_BadBeginning⟩ su_BadCount_BadBeginning,
    em_BadPlace_BadBeginning := ExmC.em ⟨sb_BadBeginning, xd_BadBeginning, tt_BadBeginning⟩ su_BadPlace_BadBeginning,
    em_TooLong_BadBeginning := ExmC.em ⟨sb_BadBeginning, xd_BadBeginning, tt_BadBeginning⟩ su_TooLong_BadBeginning,
    x0_BadBeginning := ⟨⟨_, PySem.F.excBase_ValueError, xq_BadBeginning⟩, PySem.W.mg_of X G h_BadBeginning, kc_BadBeginning, sb_BadBeginning, tt_BadBeginning⟩,
    g_BadRuns := PySem.W.mg_of X G h_BadRuns,
    ex_BadRuns := ⟨sb_BadRuns, xd_BadRuns, tt_BadRuns⟩,
    em_BadLetters_BadRuns := ExmC.em ⟨sb_BadRuns, xd_BadRuns, tt_BadRuns⟩ su_BadLetters_BadRuns,
    em_BadLetter_BadRuns := ExmC.em ⟨sb_BadRuns, xd_BadRuns, tt_BadRuns⟩ su_BadLetter_BadRuns,
    em_TooMany_BadRuns := ExmC.em ⟨sb_BadRuns, xd_BadRuns, tt_BadRuns⟩ su_TooMany_BadRuns,
    em_BadBeginning_BadRuns := ExmC.em ⟨sb_BadRuns, xd_BadRuns, tt_BadRuns⟩ su_BadBeginning_BadRuns,
    em_BadRuns_BadRuns := ExmC.em ⟨sb_BadRuns, xd_BadRuns, tt_BadRuns⟩ su_BadRuns_BadRuns,
    em_BadCount_BadRuns := ExmC.em ⟨sb_BadRuns, xd_BadRuns, tt_BadRuns⟩ su_BadCount_BadRuns,
    em_BadPlace_BadRuns := ExmC.em ⟨sb_BadRuns, xd_BadRuns, tt_BadRuns⟩ su_BadPlace_BadRuns,
    em_TooLong_BadRuns := ExmC.em ⟨sb_BadRuns, xd_BadRuns, tt_BadRuns⟩ su_TooLong_BadRuns,
    xf_BadRuns := ⟨ga_BadRuns, gg_BadRuns, sb_BadRuns, xd_BadRuns⟩,
    xe_BadRuns := ⟨ga_BadRuns, gg_BadRuns, sb_BadRuns, xd_BadRuns, xa_BadRuns, xn_BadRuns, xt_BadRuns, xm_BadRuns⟩,
    na_BadRuns_index := na_BadRuns_index,
    xi_BadRuns := ⟨cc_BadRuns, c_BadRuns, doc_BadRuns, pm_BadRuns, ctv_BadRuns, ⟨⟨_, _, _, l_BadRuns___init__⟩, cd_BadRuns, ⟨cc_BadRuns, _, _, _, rfl, cl_BadRuns⟩, ⟨_, rfl, rfl⟩, ⟨_, _, _, _, _, _, fl_BadRuns, rv_BadRuns, rf_BadRuns⟩, me_BadRuns, PySem.W.mg_none_of X G z_super, rfl, hst_, op_, up_BadRuns, ve_BadRuns, ⟨⟨_, _, _, _, _, _, _, _, _, _, _, _, _, _, _, xl_BadRuns, rfl⟩, xs_BadRuns, sb_BadRuns, tt_BadRuns, kc_BadRuns⟩⟩, fun s us _ hl => match us, hl with | [_, _], _ => .of_eq rfl⟩,
    kv_BadRuns := kit_own ve_BadRuns,
    in_BadRuns := a_BadRuns___init__,
    ty_BadRuns := ty_BadRuns,
    g_BadCount := PySem.W.mg_of X G h_BadCount,
    ex_BadCount := ⟨sb_BadCount, xd_BadCount, tt_BadCount⟩,
    em_BadLetters_BadCount := ExmC.em ⟨sb_BadCount, xd_BadCount, tt_BadCount⟩ su_BadLetters_BadCount,
    em_BadLetter_BadCount := ExmC.em ⟨sb_BadCount, xd_BadCount, tt_BadCount⟩ su_BadLetter_BadCount,
    em_TooMany_BadCount := ExmC.em ⟨sb_BadCount, xd_BadCount, tt_BadCount⟩ su_TooMany_BadCount,
    em_BadBeginning_BadCount := ExmC.em ⟨sb_BadCount, xd_BadCount, tt_BadCount⟩ su_BadBeginning_BadCount,
    em_BadRuns_BadCount := ExmC.em ⟨sb_BadCount, xd_BadCount, tt_BadCount⟩ su_BadRuns_BadCount,
    em_BadCount_BadCount := ExmC.em ⟨sb_BadCount, xd_BadCount, tt_BadCount⟩ su_BadCount_BadCount,
    em_BadPlace_BadCount := ExmC.em ⟨sb_BadCount, xd_BadCount, tt_BadCount⟩ su_BadPlace_BadCount,
    em_TooLong_BadCount := ExmC.em ⟨sb_BadCount, xd_BadCount, tt_BadCount⟩ su_TooLong_BadCount,
    xf_BadCount := ⟨ga_BadCount, gg_BadCount, sb_BadCount, xd_BadCount⟩,
    xe_BadCount := ⟨ga_BadCount, gg_BadCount, sb_BadCount, xd_BadCount, xa_BadCount, xn_BadCount, xt_BadCount, xm_BadCount⟩,
    na_BadCount_index := na_BadCount_index,
    xi_BadCount := ⟨cc_BadCount, c_BadCount, doc_BadCount, pm_BadCount, ctv_BadCount, ⟨⟨_, _, _, l_BadCount___init__⟩, cd_BadCount, ⟨cc_BadCount, _, _, _, rfl, cl_BadCount⟩, ⟨_, rfl, rfl⟩, ⟨_, _, _, _, _, _, fl_BadCount, rv_BadCount, rf_BadCount⟩, me_BadCount, PySem.W.mg_none_of X G z_super, rfl, hst_, op_, up_BadCount, ve_BadCount, ⟨⟨_, _, _, _, _, _, _, _, _, _, _, _, _, _, _, xl_BadCount, rfl⟩, xs_BadCount, sb_BadCount, tt_BadCount, kc_BadCount⟩⟩, fun s us _ hl => match us, hl with | [_, _], _ => .of_eq rfl⟩,
    kv_BadCount := kit_own ve_BadCount,
    in_BadCount := a_BadCount___init__,
    ty_BadCount := ty_BadCount,
    g_BadPlace := PySem.W.mg_of X G h_BadPlace,
    ex_BadPlace := ⟨sb_BadPlace, xd_BadPlace, tt_BadPlace⟩,
    em_BadLetters_BadPlace := ExmC.em ⟨sb_BadPlace, xd_BadPlace, tt_BadPlace⟩ su_BadLetters_BadPlace,
    em_BadLetter_BadPlace := ExmC.em ⟨sb_BadPlace, xd_BadPlace, tt_BadPlace⟩ su_BadLetter_BadPlace,
    em_TooMany_BadPlace := ExmC.em ⟨sb_BadPlace, xd_BadPlace, tt_BadPlace⟩ su_TooMany_BadPlace,
    em_BadBeginning_BadPlace := ExmC.em ⟨sb_BadPlace, xd_BadPlace, tt_BadPlace⟩ su_BadBeginning_BadPlace,
    em_BadRuns_BadPlace := ExmC.em ⟨sb_BadPlace, xd_BadPlace, tt_BadPlace⟩ su_BadRuns_BadPlace,
    em_BadCount_BadPlace := ExmC.em ⟨sb_BadPlace, xd_BadPlace, tt_BadPlace⟩ su_BadCount_BadPlace,
    em_BadPlace_BadPlace := ExmC.em ⟨sb_BadPlace, xd_BadPlace, tt_BadPlace⟩ su_BadPlace_BadPlace,
    em_TooLong_BadPlace := ExmC.em ⟨sb_BadPlace, xd_BadPlace, tt_BadPlace⟩ su_TooLong_BadPlace,
    xf_BadPlace := ⟨ga_BadPlace, gg_BadPlace, sb_BadPlace, xd_BadPlace⟩,
    xe_BadPlace := ⟨ga_BadPlace, gg_BadPlace, sb_BadPlace, xd_BadPlace, xa_BadPlace, xn_BadPlace, xt_BadPlace, xm_BadPlace⟩,
    na_BadPlace_place := na_BadPlace_place,
    xi_BadPlace := ⟨cc_BadPlace, c_BadPlace, doc_BadPlace, pm_BadPlace, ctv_BadPlace, ⟨⟨_, _, _, l_BadPlace___init__⟩, cd_BadPlace, ⟨cc_BadPlace, _, _, _, rfl, cl_BadPlace⟩, ⟨_, rfl, rfl⟩, ⟨_, _, _, _, _, _, fl_BadPlace, rv_BadPlace, rf_BadPlace⟩, me_BadPlace, PySem.W.mg_none_of X G z_super, rfl, hst_, op_, up_BadPlace, ve_BadPlace, ⟨⟨_, _, _, _, _, _, _, _, _, _, _, _, _, _, _, xl_BadPlace, rfl⟩, xs_BadPlace, sb_BadPlace, tt_BadPlace, kc_BadPlace⟩⟩, fun s us _ hl => match us, hl with | [_, _], _ => .of_eq rfl⟩,
    kv_BadPlace := kit_own ve_BadPlace,
    in_BadPlace := a_BadPlace___init__,
    ty_BadPlace := ty_BadPlace,
    g_TooLong := PySem.W.mg_of X G h_TooLong,
    ex_TooLong := ⟨sb_TooLong, xd_TooLong, tt_TooLong⟩,
    em_BadLetters_TooLong := ExmC.em ⟨sb_TooLong, xd_TooLong, tt_TooLong⟩ su_BadLetters_TooLong,
    em_BadLetter_TooLong := ExmC.em ⟨sb_TooLong, xd_TooLong, tt_TooLong⟩ su_BadLetter_TooLong,
    em_TooMany_TooLong := ExmC.em ⟨sb_TooLong, xd_TooLong, tt_TooLong⟩ su_TooMany_TooLong,
    em_BadBeginning_TooLong := ExmC.em ⟨sb_TooLong, xd_TooLong, tt_TooLong⟩ su_BadBeginning_TooLong,
    em_BadRuns_TooLong := ExmC.em ⟨sb_TooLong, xd_TooLong, tt_TooLong⟩ su_BadRuns_TooLong,
    em_BadCount_TooLong := ExmC.em ⟨sb_TooLong, xd_TooLong, tt_TooLong⟩ su_BadCount_TooLong,
    em_BadPlace_TooLong := ExmC.em ⟨sb_TooLong, xd_TooLong, tt_TooLong⟩ su_BadPlace_TooLong,
    em_TooLong_TooLong := ExmC.em ⟨sb_TooLong, xd_TooLong, tt_TooLong⟩ su_TooLong_TooLong,
    xf_TooLong := ⟨ga_TooLong, gg_TooLong, sb_TooLong, xd_TooLong⟩,
    xe_TooLong := ⟨ga_TooLong, gg_TooLong, sb_TooLong, xd_TooLong, xa_TooLong, xn_TooLong, xt_TooLong, xm_TooLong⟩,
    na_TooLong_size := na_TooLong_size,
    xi_TooLong := ⟨cc_TooLong, c_TooLong, doc_TooLong, pm_TooLong, ctv_TooLong, ⟨⟨_, _, _, l_TooLong___init__⟩, cd_TooLong, ⟨cc_TooLong, _, _, _, rfl, cl_TooLong⟩, ⟨_, rfl, rfl⟩, ⟨_, _, _, _, _, _, fl_TooLong, rv_TooLong, rf_TooLong⟩, me_TooLong, PySem.W.mg_none_of X G z_super, rfl, hst_, op_, up_TooLong, ve_TooLong, ⟨⟨_, _, _, _, _, _, _, _, _, _, _, _, _, _, _, xl_TooLong, rfl⟩, xs_TooLong, sb_TooLong, tt_TooLong, kc_TooLong⟩⟩, fun s us _ hl => match us, hl with | [_, _], _ => .of_eq rfl⟩,
    kv_TooLong := kit_own ve_TooLong,
    in_TooLong := a_TooLong___init__,
    ty_TooLong := ty_TooLong }
  refine ⟨PySem.W.fnOf "law" "law" (defArgs s_law) (defBody s_law) (defScope s_law) .none kV_law dc_law pm_law an_law cd_law ct_law, fun s v => .of_eq rfl, fun base _ _ => ?_⟩
  exact ok_law T (fun_mk (st := s_law) l_law c_law k_law)
theorem walk {l : PySem.W.OpenLaw} {q : Program} {loose : List Str} {XP : (Str → Option Value) → Heap → Prop} {YP : World → Heap → Prop} {d : DefRec} {K : Params → PySem.W.Frag} (hn : l.most = some 63) (hdf : d.params.defaults = [])
    (hY : ∀ (w : World) (h : Heap), YP w h → (K w.params).In h)
    (F : ∀ (w : World) (mg : Str → Option Value) (fa : Addr) (h : Heap), (K w.params).In h → h.Ns mainGlobals mg → mg d.name = some (.ref fa) →
      ∃ fd : FuncData, (∀ (s : Shared) (u : Value), BindsTo s fd ⟨[u], []⟩ [("_law_script", u)]) ∧ ∀ base : Heap, (K w.params).In base → base.Ns mainGlobals mg → FnOkG l.prog w (K w.params) mg base CX0 9 fa fd ["_law_script"] (spLaw (K w.params))) :
    PySem.W.WalkO q loose XP YP l.row.toRowW d [] (fun f vs => PySem.call f vs) :=
  Aq.walkG (n := 63) (k := 9) (x := "_law_script") (sp := spLaw) hn (by decide) hdf ⟨rfl, by decide, by decide⟩ hY F (fun K H a ns hl _ hS => ⟨a, ns, rfl, hS, fun _ => rfl⟩)
end K03
open PySem PySem.W PyProof.Rows
set_option maxRecDepth 100000 in
set_option maxHeartbeats 0 in
theorem PySem.Challenge.cw_asksmore_k03_histories_holds : PySem.Challenge.rw_asksmore_k03_histories.Holds := by
  w_on; o_law; k_head; (case hw => w_witness2)
  k_fill
  refine K03.walk (l := PySem.Challenge.rw_asksmore_k03_histories) rfl rfl (fun w h Y => PySem.W.kIn_of Y) ?F
  case F =>
    intro w mg fa h KX G hmg
    refine' K03.all_mk KX G hmg ?z_abs ?z_all ?z_bool ?z_enumerate ?z_int ?z_isinstance ?z_len ?z_list ?z_min ?z_range ?z_repr ?z_str ?z_sum ?z_tuple ?h_MOST_LETTERS ?h_BEGINNINGS ?lk_BEGINNINGS ?h_SMALL ?h_SIGNS ?h_MOST_RUNS ?h_MOST_COUNT ?h_MOST_WORD ?h_Letters ?pg_Letters ?hd_Letters ?po_Letters ?sa_Letters ?na_Letters_words ?ne_Letters ?ob_Letters ?ia_Letters ?in_Letters ?it_Letters ?im_Letters ?h_History ?pg_History ?hd_History ?po_History ?sa_History ?na_History_letters ?na_History_beginning ?na_History_runs ?na_History_size ?na_History_last ?ne_History ?ob_History ?ia_History ?in_History ?it_History ?im_History ?a_is_list ?l_is_list ?c_is_list ?k_is_list ?a_is_integer ?l_is_integer ?c_is_integer ?k_is_integer ?a_is_word ?l_is_word ?c_is_word ?k_is_word ?a_is_beginning ?l_is_beginning ?c_is_beginning ?k_is_beginning ?a_is_letter ?l_is_letter ?c_is_letter ?k_is_letter ?a_Letters___init__ ?i_Letters___init__ ?l_Letters___init__ ?c_Letters___init__ ?k_Letters___init__ ?a_Letters___contains__ ?i_Letters___contains__ ?l_Letters___contains__ ?c_Letters___contains__ ?k_Letters___contains__ ?a_Letters___eq__ ?i_Letters___eq__ ?l_Letters___eq__ ?c_Letters___eq__ ?k_Letters___eq__ ?a_need_beginning ?l_need_beginning ?c_need_beginning ?k_need_beginning ?a_need_runs ?l_need_runs ?c_need_runs ?k_need_runs ?a_join_runs ?l_join_runs ?c_join_runs ?k_join_runs ?a_History___init__ ?i_History___init__ ?l_History___init__ ?c_History___init__ ?k_History___init__ ?d_History___init__ ?dn_ahead_History___init__ ?lk_dp0_History___init__ ?lk_dk_ahead_History___init__ ?a_History___getitem__ ?i_History___getitem__ ?l_History___getitem__ ?c_History___getitem__ ?k_History___getitem__ ?a_History___eq__ ?i_History___eq__ ?l_History___eq__ ?c_History___eq__ ?k_History___eq__ ?a_History_word ?i_History_word ?l_History_word ?c_History_word ?k_History_word ?a__law_pen ?l__law_pen ?c__law_pen ?k__law_pen ?a__law_draw ?l__law_draw ?c__law_draw ?k__law_draw ?a__law_pick ?l__law_pick ?c__law_pick ?k__law_pick ?a__law_letters ?l__law_letters ?c__law_letters ?k__law_letters ?a__law_joined ?l__law_joined ?c__law_joined ?k__law_joined ?a__law_as_runs ?l__law_as_runs ?c__law_as_runs ?k__law_as_runs ?a__law_beginning ?l__law_beginning ?c__law_beginning ?k__law_beginning ?a__law_free ?l__law_free ?c__law_free ?k__law_free ?a__law_at ?l__law_at ?c__law_at ?k__law_at ?a__law_all ?l__law_all ?c__law_all ?k__law_all ?a__law_is_right ?l__law_is_right ?c__law_is_right ?k__law_is_right ?a__law_plain ?l__law_plain ?c__law_plain ?k__law_plain ?a_law ?l_law ?c_law ?k_law ?fn_History___getitem__ ?mk_Letters ?kc_Letters ?mk_History ?kc_History ?h_AsksError ?op_ ?z_super ?hst_ ?h_BadLetters ?sb_BadLetters ?xd_BadLetters ?tt_BadLetters ?kc_BadLetters ?su_BadLetters_BadLetters ?su_BadLetter_BadLetters ?su_TooMany_BadLetters ?su_BadBeginning_BadLetters ?su_BadRuns_BadLetters ?su_BadCount_BadLetters ?su_BadPlace_BadLetters ?su_TooLong_BadLetters ?a_BadLetters___init__ ?xl_BadLetters ?xs_BadLetters ?ga_BadLetters ?gg_BadLetters ?xa_BadLetters ?xn_BadLetters ?xt_BadLetters ?xm_BadLetters ?na_BadLetters_index ?l_BadLetters___init__ ?cd_BadLetters ?cl_BadLetters ?fl_BadLetters ?rv_BadLetters ?rf_BadLetters ?me_BadLetters ?up_BadLetters ?ve_BadLetters ?ty_BadLetters ?h_BadLetter ?sb_BadLetter ?xd_BadLetter ?tt_BadLetter ?kc_BadLetter ?su_BadLetters_BadLetter ?su_BadLetter_BadLetter ?su_TooMany_BadLetter ?su_BadBeginning_BadLetter ?su_BadRuns_BadLetter ?su_BadCount_BadLetter ?su_BadPlace_BadLetter ?su_TooLong_BadLetter ?a_BadLetter___init__ ?xl_BadLetter ?xs_BadLetter ?ga_BadLetter ?gg_BadLetter ?xa_BadLetter ?xn_BadLetter ?xt_BadLetter ?xm_BadLetter ?na_BadLetter_index ?l_BadLetter___init__ ?cd_BadLetter ?cl_BadLetter ?fl_BadLetter ?rv_BadLetter ?rf_BadLetter ?me_BadLetter ?up_BadLetter ?ve_BadLetter ?ty_BadLetter ?h_TooMany ?sb_TooMany ?xd_TooMany ?tt_TooMany ?kc_TooMany ?su_BadLetters_TooMany ?su_BadLetter_TooMany ?su_TooMany_TooMany ?su_BadBeginning_TooMany ?su_BadRuns_TooMany ?su_BadCount_TooMany ?su_BadPlace_TooMany ?su_TooLong_TooMany ?a_TooMany___init__ ?xl_TooMany ?xs_TooMany ?ga_TooMany ?gg_TooMany ?xa_TooMany ?xn_TooMany ?xt_TooMany ?xm_TooMany ?na_TooMany_what ?na_TooMany_many ?na_TooMany_most ?l_TooMany___init__ ?cd_TooMany ?cl_TooMany ?fl_TooMany ?rv_TooMany ?rf_TooMany ?me_TooMany ?up_TooMany ?ve_TooMany ?ty_TooMany ?h_BadBeginning ?sb_BadBeginning ?xd_BadBeginning ?tt_BadBeginning ?kc_BadBeginning ?su_BadLetters_BadBeginning ?su_BadLetter_BadBeginning ?su_TooMany_BadBeginning ?su_BadBeginning_BadBeginning ?su_BadRuns_BadBeginning ?su_BadCount_BadBeginning ?su_BadPlace_BadBeginning ?su_TooLong_BadBeginning ?xq_BadBeginning ?h_BadRuns ?sb_BadRuns ?xd_BadRuns ?tt_BadRuns ?kc_BadRuns ?su_BadLetters_BadRuns ?su_BadLetter_BadRuns ?su_TooMany_BadRuns ?su_BadBeginning_BadRuns ?su_BadRuns_BadRuns ?su_BadCount_BadRuns ?su_BadPlace_BadRuns ?su_TooLong_BadRuns ?a_BadRuns___init__ ?xl_BadRuns ?xs_BadRuns ?ga_BadRuns ?gg_BadRuns ?xa_BadRuns ?xn_BadRuns ?xt_BadRuns ?xm_BadRuns ?na_BadRuns_index ?l_BadRuns___init__ ?cd_BadRuns ?cl_BadRuns ?fl_BadRuns ?rv_BadRuns ?rf_BadRuns ?me_BadRuns ?up_BadRuns ?ve_BadRuns ?ty_BadRuns ?h_BadCount ?sb_BadCount ?xd_BadCount ?tt_BadCount ?kc_BadCount ?su_BadLetters_BadCount ?su_BadLetter_BadCount ?su_TooMany_BadCount ?su_BadBeginning_BadCount ?su_BadRuns_BadCount ?su_BadCount_BadCount ?su_BadPlace_BadCount ?su_TooLong_BadCount ?a_BadCount___init__ ?xl_BadCount ?xs_BadCount ?ga_BadCount ?gg_BadCount ?xa_BadCount ?xn_BadCount ?xt_BadCount ?xm_BadCount ?na_BadCount_index ?l_BadCount___init__ ?cd_BadCount ?cl_BadCount ?fl_BadCount ?rv_BadCount ?rf_BadCount ?me_BadCount ?up_BadCount ?ve_BadCount ?ty_BadCount ?h_BadPlace ?sb_BadPlace ?xd_BadPlace ?tt_BadPlace ?kc_BadPlace ?su_BadLetters_BadPlace ?su_BadLetter_BadPlace ?su_TooMany_BadPlace ?su_BadBeginning_BadPlace ?su_BadRuns_BadPlace ?su_BadCount_BadPlace ?su_BadPlace_BadPlace ?su_TooLong_BadPlace ?a_BadPlace___init__ ?xl_BadPlace ?xs_BadPlace ?ga_BadPlace ?gg_BadPlace ?xa_BadPlace ?xn_BadPlace ?xt_BadPlace ?xm_BadPlace ?na_BadPlace_place ?l_BadPlace___init__ ?cd_BadPlace ?cl_BadPlace ?fl_BadPlace ?rv_BadPlace ?rf_BadPlace ?me_BadPlace ?up_BadPlace ?ve_BadPlace ?ty_BadPlace ?h_TooLong ?sb_TooLong ?xd_TooLong ?tt_TooLong ?kc_TooLong ?su_BadLetters_TooLong ?su_BadLetter_TooLong ?su_TooMany_TooLong ?su_BadBeginning_TooLong ?su_BadRuns_TooLong ?su_BadCount_TooLong ?su_BadPlace_TooLong ?su_TooLong_TooLong ?a_TooLong___init__ ?xl_TooLong ?xs_TooLong ?ga_TooLong ?gg_TooLong ?xa_TooLong ?xn_TooLong ?xt_TooLong ?xm_TooLong ?na_TooLong_size ?l_TooLong___init__ ?cd_TooLong ?cl_TooLong ?fl_TooLong ?rv_TooLong ?rf_TooLong ?me_TooLong ?up_TooLong ?ve_TooLong ?ty_TooLong
    (case h_MOST_LETTERS => k_is)
    (case h_BEGINNINGS => k_is)
    (case h_SMALL => k_is)
    (case h_SIGNS => k_is)
    (case h_MOST_RUNS => k_is)
    (case h_MOST_COUNT => k_is)
    (case h_MOST_WORD => k_is)
    (case h_Letters => k_is)
    (case h_History => k_is)
    (case h_AsksError => k_is)
    (case h_BadLetters => k_is)
    (case h_BadLetter => k_is)
    (case h_TooMany => k_is)
    (case h_BadBeginning => k_is)
    (case h_BadRuns => k_is)
    (case h_BadCount => k_is)
    (case h_BadPlace => k_is)
    (case h_TooLong => k_is)
    (case a_is_list => k_is)
    (case a_is_integer => k_is)
    (case a_is_word => k_is)
    (case a_is_beginning => k_is)
    (case a_is_letter => k_is)
    (case a_Letters___init__ => k_is)
    (case a_Letters___contains__ => k_is)
    (case a_Letters___eq__ => k_is)
    (case a_need_beginning => k_is)
    (case a_need_runs => k_is)
    (case a_join_runs => k_is)
    (case a_History___init__ => k_is)
    (case a_History___getitem__ => k_is)
    (case a_History___eq__ => k_is)
    (case a_History_word => k_is)
    (case a__law_pen => k_is)
    (case a__law_draw => k_is)
    (case a__law_pick => k_is)
    (case a__law_letters => k_is)
    (case a__law_joined => k_is)
    (case a__law_as_runs => k_is)
    (case a__law_beginning => k_is)
    (case a__law_free => k_is)
    (case a__law_at => k_is)
    (case a__law_all => k_is)
    (case a__law_is_right => k_is)
    (case a__law_plain => k_is)
    (case a_law => k_is)
    (case a_BadLetters___init__ => k_is)
    (case a_BadLetter___init__ => k_is)
    (case a_TooMany___init__ => k_is)
    (case a_BadRuns___init__ => k_is)
    (case a_BadCount___init__ => k_is)
    (case a_BadPlace___init__ => k_is)
    (case a_TooLong___init__ => k_is)
    (case l_is_list => k_is)
    (case l_is_integer => k_is)
    (case l_is_word => k_is)
    (case l_is_beginning => k_is)
    (case l_is_letter => k_is)
    (case l_Letters___init__ => k_is)
    (case l_Letters___contains__ => k_is)
    (case l_Letters___eq__ => k_is)
    (case l_need_beginning => k_is)
    (case l_need_runs => k_is)
    (case l_join_runs => k_is)
    (case l_History___init__ => k_is)
    (case l_History___getitem__ => k_is)
    (case l_History___eq__ => k_is)
    (case l_History_word => k_is)
    (case l__law_pen => k_is)
    (case l__law_draw => k_is)
    (case l__law_pick => k_is)
    (case l__law_letters => k_is)
    (case l__law_joined => k_is)
    (case l__law_as_runs => k_is)
    (case l__law_beginning => k_is)
    (case l__law_free => k_is)
    (case l__law_at => k_is)
    (case l__law_all => k_is)
    (case l__law_is_right => k_is)
    (case l__law_plain => k_is)
    (case l_law => k_is)
    (case l_BadLetters___init__ => k_is)
    (case l_BadLetter___init__ => k_is)
    (case l_TooMany___init__ => k_is)
    (case l_BadRuns___init__ => k_is)
    (case l_BadCount___init__ => k_is)
    (case l_BadPlace___init__ => k_is)
    (case l_TooLong___init__ => k_is)
    (case d_History___init__ => k_is)
    (case dn_ahead_History___init__ => k_is)
    (case z_abs => k_is)
    (case z_all => k_is)
    (case z_bool => k_is)
    (case z_enumerate => k_is)
    (case z_int => k_is)
    (case z_isinstance => k_is)
    (case z_len => k_is)
    (case z_list => k_is)
    (case z_min => k_is)
    (case z_range => k_is)
    (case z_repr => k_is)
    (case z_str => k_is)
    (case z_sum => k_is)
    (case z_tuple => k_is)
    (case lk_BEGINNINGS => k_is)
    (case pg_Letters => k_is)
    (case hd_Letters => k_is)
    (case po_Letters => k_is)
    (case sa_Letters => k_is)
    (case na_Letters_words => k_is)
    (case ne_Letters => k_is)
    (case ob_Letters => k_is)
    (case ia_Letters => k_is)
    (case in_Letters => k_is)
    (case it_Letters => k_is)
    (case im_Letters => k_is)
    (case pg_History => k_is)
    (case hd_History => k_is)
    (case po_History => k_is)
    (case sa_History => k_is)
    (case na_History_letters => k_is)
    (case na_History_beginning => k_is)
    (case na_History_runs => k_is)
    (case na_History_size => k_is)
    (case na_History_last => k_is)
    (case ne_History => k_is)
    (case ob_History => k_is)
    (case ia_History => k_is)
    (case in_History => k_is)
    (case it_History => k_is)
    (case im_History => k_is)
    (case c_is_list => k_is)
    (case k_is_list => k_is)
    (case c_is_integer => k_is)
    (case k_is_integer => k_is)
    (case c_is_word => k_is)
    (case k_is_word => k_is)
    (case c_is_beginning => k_is)
    (case k_is_beginning => k_is)
    (case c_is_letter => k_is)
    (case k_is_letter => k_is)
    (case i_Letters___init__ => k_is)
    (case c_Letters___init__ => k_is)
    (case k_Letters___init__ => k_is)
    (case i_Letters___contains__ => k_is)
    (case c_Letters___contains__ => k_is)
    (case k_Letters___contains__ => k_is)
    (case i_Letters___eq__ => k_is)
    (case c_Letters___eq__ => k_is)
    (case k_Letters___eq__ => k_is)
    (case c_need_beginning => k_is)
    (case k_need_beginning => k_is)
    (case c_need_runs => k_is)
    (case k_need_runs => k_is)
    (case c_join_runs => k_is)
    (case k_join_runs => k_is)
    (case i_History___init__ => k_is)
    (case c_History___init__ => k_is)
    (case k_History___init__ => k_is)
    (case lk_dp0_History___init__ => k_is)
    (case lk_dk_ahead_History___init__ => k_is)
    (case i_History___getitem__ => k_is)
    (case c_History___getitem__ => k_is)
    (case k_History___getitem__ => k_is)
    (case i_History___eq__ => k_is)
    (case c_History___eq__ => k_is)
    (case k_History___eq__ => k_is)
    (case i_History_word => k_is)
    (case c_History_word => k_is)
    (case k_History_word => k_is)
    (case c__law_pen => k_is)
    (case k__law_pen => k_is)
    (case c__law_draw => k_is)
    (case k__law_draw => k_is)
    (case c__law_pick => k_is)
    (case k__law_pick => k_is)
    (case c__law_letters => k_is)
    (case k__law_letters => k_is)
    (case c__law_joined => k_is)
    (case k__law_joined => k_is)
    (case c__law_as_runs => k_is)
    (case k__law_as_runs => k_is)
    (case c__law_beginning => k_is)
    (case k__law_beginning => k_is)
    (case c__law_free => k_is)
    (case k__law_free => k_is)
    (case c__law_at => k_is)
    (case k__law_at => k_is)
    (case c__law_all => k_is)
    (case k__law_all => k_is)
    (case c__law_is_right => k_is)
    (case k__law_is_right => k_is)
    (case c__law_plain => k_is)
    (case k__law_plain => k_is)
    (case c_law => k_is)
    (case k_law => k_is)
    (case fn_History___getitem__ => k_is)
    (case mk_Letters => k_is)
    (case kc_Letters => k_is)
    (case mk_History => k_is)
    (case kc_History => k_is)
    (case op_ => k_is)
    (case z_super => k_is)
    (case hst_ => rfl)
    (case sb_BadLetters => k_is)
    (case xd_BadLetters => k_is)
    (case tt_BadLetters => k_is)
    (case kc_BadLetters => k_is)
    (case su_BadLetters_BadLetters => k_is)
    (case su_BadLetter_BadLetters => k_is)
    (case su_TooMany_BadLetters => k_is)
    (case su_BadBeginning_BadLetters => k_is)
    (case su_BadRuns_BadLetters => k_is)
    (case su_BadCount_BadLetters => k_is)
    (case su_BadPlace_BadLetters => k_is)
    (case su_TooLong_BadLetters => k_is)
    (case xl_BadLetters => k_is)
    (case xs_BadLetters => k_is)
    (case ga_BadLetters => k_is)
    (case gg_BadLetters => k_is)
    (case xa_BadLetters => k_is)
    (case xn_BadLetters => k_is)
    (case xt_BadLetters => k_is)
    (case xm_BadLetters => k_is)
    (case na_BadLetters_index => k_is)
    (case cd_BadLetters => k_is)
    (case cl_BadLetters => k_is)
    (case fl_BadLetters => k_is)
    (case rv_BadLetters => rfl)
    (case rf_BadLetters => decide +kernel)
    (case me_BadLetters => k_is)
    (case up_BadLetters => ks_is)
    (case ve_BadLetters => k_is)
    (case ty_BadLetters => k_is)
    (case sb_BadLetter => k_is)
    (case xd_BadLetter => k_is)
    (case tt_BadLetter => k_is)
    (case kc_BadLetter => k_is)
    (case su_BadLetters_BadLetter => k_is)
    (case su_BadLetter_BadLetter => k_is)
    (case su_TooMany_BadLetter => k_is)
    (case su_BadBeginning_BadLetter => k_is)
    (case su_BadRuns_BadLetter => k_is)
    (case su_BadCount_BadLetter => k_is)
    (case su_BadPlace_BadLetter => k_is)
    (case su_TooLong_BadLetter => k_is)
    (case xl_BadLetter => k_is)
    (case xs_BadLetter => k_is)
    (case ga_BadLetter => k_is)
    (case gg_BadLetter => k_is)
    (case xa_BadLetter => k_is)
    (case xn_BadLetter => k_is)
    (case xt_BadLetter => k_is)
    (case xm_BadLetter => k_is)
    (case na_BadLetter_index => k_is)
    (case cd_BadLetter => k_is)
    (case cl_BadLetter => k_is)
    (case fl_BadLetter => k_is)
    (case rv_BadLetter => rfl)
    (case rf_BadLetter => decide +kernel)
    (case me_BadLetter => k_is)
    (case up_BadLetter => ks_is)
    (case ve_BadLetter => k_is)
    (case ty_BadLetter => k_is)
    (case sb_TooMany => k_is)
    (case xd_TooMany => k_is)
    (case tt_TooMany => k_is)
    (case kc_TooMany => k_is)
    (case su_BadLetters_TooMany => k_is)
    (case su_BadLetter_TooMany => k_is)
    (case su_TooMany_TooMany => k_is)
    (case su_BadBeginning_TooMany => k_is)
    (case su_BadRuns_TooMany => k_is)
    (case su_BadCount_TooMany => k_is)
    (case su_BadPlace_TooMany => k_is)
    (case su_TooLong_TooMany => k_is)
    (case xl_TooMany => k_is)
    (case xs_TooMany => k_is)
    (case ga_TooMany => k_is)
    (case gg_TooMany => k_is)
    (case xa_TooMany => k_is)
    (case xn_TooMany => k_is)
    (case xt_TooMany => k_is)
    (case xm_TooMany => k_is)
    (case na_TooMany_what => k_is)
    (case na_TooMany_many => k_is)
    (case na_TooMany_most => k_is)
    (case cd_TooMany => k_is)
    (case cl_TooMany => k_is)
    (case fl_TooMany => k_is)
    (case rv_TooMany => rfl)
    (case rf_TooMany => decide +kernel)
    (case me_TooMany => k_is)
    (case up_TooMany => ks_is)
    (case ve_TooMany => k_is)
    (case ty_TooMany => k_is)
    (case sb_BadBeginning => k_is)
    (case xd_BadBeginning => k_is)
    (case tt_BadBeginning => k_is)
    (case kc_BadBeginning => k_is)
    (case su_BadLetters_BadBeginning => k_is)
    (case su_BadLetter_BadBeginning => k_is)
    (case su_TooMany_BadBeginning => k_is)
    (case su_BadBeginning_BadBeginning => k_is)
    (case su_BadRuns_BadBeginning => k_is)
    (case su_BadCount_BadBeginning => k_is)
    (case su_BadPlace_BadBeginning => k_is)
    (case su_TooLong_BadBeginning => k_is)
    (case xq_BadBeginning => k_exc)
    (case sb_BadRuns => k_is)
    (case xd_BadRuns => k_is)
    (case tt_BadRuns => k_is)
    (case kc_BadRuns => k_is)
    (case su_BadLetters_BadRuns => k_is)
    (case su_BadLetter_BadRuns => k_is)
    (case su_TooMany_BadRuns => k_is)
    (case su_BadBeginning_BadRuns => k_is)
    (case su_BadRuns_BadRuns => k_is)
    (case su_BadCount_BadRuns => k_is)
    (case su_BadPlace_BadRuns => k_is)
    (case su_TooLong_BadRuns => k_is)
    (case xl_BadRuns => k_is)
    (case xs_BadRuns => k_is)
    (case ga_BadRuns => k_is)
    (case gg_BadRuns => k_is)
    (case xa_BadRuns => k_is)
    (case xn_BadRuns => k_is)
    (case xt_BadRuns => k_is)
    (case xm_BadRuns => k_is)
    (case na_BadRuns_index => k_is)
    (case cd_BadRuns => k_is)
    (case cl_BadRuns => k_is)
    (case fl_BadRuns => k_is)
    (case rv_BadRuns => rfl)
    (case rf_BadRuns => decide +kernel)
    (case me_BadRuns => k_is)
    (case up_BadRuns => ks_is)
    (case ve_BadRuns => k_is)
    (case ty_BadRuns => k_is)
    (case sb_BadCount => k_is)
    (case xd_BadCount => k_is)
    (case tt_BadCount => k_is)
    (case kc_BadCount => k_is)
    (case su_BadLetters_BadCount => k_is)
    (case su_BadLetter_BadCount => k_is)
    (case su_TooMany_BadCount => k_is)
    (case su_BadBeginning_BadCount => k_is)
    (case su_BadRuns_BadCount => k_is)
    (case su_BadCount_BadCount => k_is)
    (case su_BadPlace_BadCount => k_is)
    (case su_TooLong_BadCount => k_is)
    (case xl_BadCount => k_is)
    (case xs_BadCount => k_is)
    (case ga_BadCount => k_is)
    (case gg_BadCount => k_is)
    (case xa_BadCount => k_is)
    (case xn_BadCount => k_is)
    (case xt_BadCount => k_is)
    (case xm_BadCount => k_is)
    (case na_BadCount_index => k_is)
    (case cd_BadCount => k_is)
    (case cl_BadCount => k_is)
    (case fl_BadCount => k_is)
    (case rv_BadCount => rfl)
    (case rf_BadCount => decide +kernel)
    (case me_BadCount => k_is)
    (case up_BadCount => ks_is)
    (case ve_BadCount => k_is)
    (case ty_BadCount => k_is)
    (case sb_BadPlace => k_is)
    (case xd_BadPlace => k_is)
    (case tt_BadPlace => k_is)
    (case kc_BadPlace => k_is)
    (case su_BadLetters_BadPlace => k_is)
    (case su_BadLetter_BadPlace => k_is)
    (case su_TooMany_BadPlace => k_is)
    (case su_BadBeginning_BadPlace => k_is)
    (case su_BadRuns_BadPlace => k_is)
    (case su_BadCount_BadPlace => k_is)
    (case su_BadPlace_BadPlace => k_is)
    (case su_TooLong_BadPlace => k_is)
    (case xl_BadPlace => k_is)
    (case xs_BadPlace => k_is)
    (case ga_BadPlace => k_is)
    (case gg_BadPlace => k_is)
    (case xa_BadPlace => k_is)
    (case xn_BadPlace => k_is)
    (case xt_BadPlace => k_is)
    (case xm_BadPlace => k_is)
    (case na_BadPlace_place => k_is)
    (case cd_BadPlace => k_is)
    (case cl_BadPlace => k_is)
    (case fl_BadPlace => k_is)
    (case rv_BadPlace => rfl)
    (case rf_BadPlace => decide +kernel)
    (case me_BadPlace => k_is)
    (case up_BadPlace => ks_is)
    (case ve_BadPlace => k_is)
    (case ty_BadPlace => k_is)
    (case sb_TooLong => k_is)
    (case xd_TooLong => k_is)
    (case tt_TooLong => k_is)
    (case kc_TooLong => k_is)
    (case su_BadLetters_TooLong => k_is)
    (case su_BadLetter_TooLong => k_is)
    (case su_TooMany_TooLong => k_is)
    (case su_BadBeginning_TooLong => k_is)
    (case su_BadRuns_TooLong => k_is)
    (case su_BadCount_TooLong => k_is)
    (case su_BadPlace_TooLong => k_is)
    (case su_TooLong_TooLong => k_is)
    (case xl_TooLong => k_is)
    (case xs_TooLong => k_is)
    (case ga_TooLong => k_is)
    (case gg_TooLong => k_is)
    (case xa_TooLong => k_is)
    (case xn_TooLong => k_is)
    (case xt_TooLong => k_is)
    (case xm_TooLong => k_is)
    (case na_TooLong_size => k_is)
    (case cd_TooLong => k_is)
    (case cl_TooLong => k_is)
    (case fl_TooLong => k_is)
    (case rv_TooLong => rfl)
    (case rf_TooLong => decide +kernel)
    (case me_TooLong => k_is)
    (case up_TooLong => ks_is)
    (case ve_TooLong => k_is)
    (case ty_TooLong => k_is)
