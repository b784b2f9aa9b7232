import PyProof.Rows.All
import Wide.All
import OpenK.AllK
import Wide.FinOn
import HandS.ForMost
import HandS.Star
import HandS.ClsMeth
import HandS.OwnEq
import HandS.IsInst
import PyProof.InstNe
import HandS.Defaults
import HandS.Wide
import HandS.Style
import HandS.Flow
import HandS.RaiseMore
import HandS.Set
import HandS.SetFor
import HandS.SetKeys
import HandS.SortInts
import HandS.Small
import HandS.TupAny
import KE.DatumIndex
import KE.KSuper
import KE.DataMinKey
import HandS.Head0
import HandS.Head1
import HandS.Head2
import HandS.HeadEnd
import HandS.HeadHook1
import HandS.HeadHook2
import KE.KStateDown
import PySem.Challenge.RW_onelongturn_k60_whole_stairs_of_great_an
import HandS.Strs
import PyProof.Rows.SortShellAny
import HandS.SortKw
import KE.DataMinMax
import PyProof.ReprBulk
import PyProof.ReprRoads
import KE.GoesMore
import HandS.Iter
import HandS.Walk
import HandS.AnyAll
set_option Elab.async false
set_option linter.all false
set_option maxRecDepth 100000
set_option maxHeartbeats 4000000
namespace K6
open PySem PySem.Spec PyProof.Rows L2

/-! ### promises by position: calls -/
def tCal (sp : Sp) (E : XK) (t : TA) : TE := fun σ H Q => t σ H fun vs H1 => sp vs H1 Q E
section
variable {X : Cx} {CX : CXT} {k : Nat} {f C : Addr} {sp : Sp} {E : XK} {x m : Str} {p pos apos : Pos} {a b e o : Expr} {es : List Expr} {ta tb te : TE} {t : TA}
/-- f(e, ..), f a def of the module -/
theorem pe_cal (F : FnR X.prog X.w X.K X.mg X.base CX k f sp) (hr : Room k X.A) (hk : PySem.W.keepIn X.K (.ref f) = true) (hg : Gl X x) (hm : X.mg x = some (.ref f)) (hx : Passes CX X E)
    (ha : PA X (e :: es) t) (hdb : (x == ("__debug__" : Str)) = false := by decide) (he : starEach (e :: es) X.env = (false, eval e X.env) :: starEach es X.env := by rfl) (hpl : (backTo pos (starEach es X.env)).any (·.1) = false := by rfl) :
    PE X (.Call (.Name x p) (e :: es) [] pos) (tCal sp E t) := by
  refine ⟨fun pins s σ H Q I h => ?_⟩
  refine wpAny_Call_Name_kw (ld_glob I hg hm ?_ hdb)
  refine PySem.W.callWith_K (h₀ := X.base) I.ok.mod.kin hk (thn (ha.run pos pins s σ H _ I h) fun us s1 ⟨vs, H1, I1, r, q⟩ => ⟨I1.kIn, ?_⟩) he hpl
  exact wpAny_call (run_fnR F hr hx I1 r q)
theorem pe_cal0 (F : FnR X.prog X.w X.K X.mg X.base CX k f sp) (hr : Room k X.A) (hk : PySem.W.keepIn X.K (.ref f) = true) (hg : Gl X x) (hm : X.mg x = some (.ref f)) (hx : Passes CX X E)
    (hdb : (x == ("__debug__" : Str)) = false := by decide) : PE X (.Call (.Name x p) [] [] pos) (tCal sp E tNil) := by
  refine ⟨fun pins s σ H Q I h => ?_⟩
  refine wpAny_Call_Name_kw (ld_glob I hg hm ?_ hdb)
  exact PySem.W.callWith_K0 I.kIn hk (wpAny_call (run_fnR (us := []) (vs := []) F hr hx I .nil h))
/-- the callee runs under another around that shows the same frames -/
theorem run_under {A : Around} {pins : List (Addr × Obj)} {σ : L2.St} {H : Hp} {s : Shared} {Q : VK} {us : List Value} {vs : List V} (F : FnR X.prog X.w X.K X.mg X.base CX k f sp) (hr : Room k A) (hfr : A.frames = X.A.frames) (hx : Passes CX X E) (I : Inv X pins σ H s) (r : Vals vs us) (h : sp vs H Q E) :
    wpAny (model X.prog X.w) A (call (.ref f) us) (EP X pins σ Q) X.xe s := by
  have e := I.env0
  have e0 : Env0 X.prog X.w X.K X.mg X.base A X.stack s H := ⟨by rw [hfr]; exact e.frames, e.mod, e.bs, e.bsz, e.funs, e.frf, e.hok, e.bare⟩
  refine wpAny_call (codeAny_mono (F A X.stack s H us vs Q E hr e0 r h) fun res s' hq => ?_)
  cases res with
  | error e => exact hx pins σ H s e s' I hq
  | ok fl =>
    cases fl with
    | ret u => exact I.after hq
    | next => exact False.elim hq
    | brk => exact False.elim hq
    | cont => exact False.elim hq
/-- an instance read off the abstract heap -/
theorem inst_of {pins : List (Addr × Obj)} {σ : L2.St} {H : Hp} {s : Shared} {q dx : Addr} {fs : List (Str × V)} (I : Inv X pins σ H s) (h : H q = some (.ins C dx fs)) : ∃ ox od, PySem.W.InstAt s.heap q ox C (some od) := by
  obtain ⟨mA, J, _⟩ := ins_get I.hok h
  obtain ⟨od, J, _⟩ := J.look
  exact ⟨_, od, J⟩
/-- a binary operator of an own class, both sides of that class -/
def rOwn2 (C : Addr) (sp : Sp) (E : XK) : R2 := fun x y H Q => ∃ a b dx dy fs gs, x = .ref a ∧ y = .ref b ∧ H a = some (.ins C dx fs) ∧ H b = some (.ins C dy gs) ∧ sp [.ref a, .ref b] H Q E
theorem op_own {op : Operator} (F : FnR X.prog X.w X.K X.mg X.base CX k f sp) (hr : Room k X.A) (hx : Passes CX X E) (hc : PySem.W.selfFirst X.K C = true)
    (hs : PySem.W.findIn X.K (.ref C) (PySem.dunder op.info.2) = some (some (.ref f))) (hf : PySem.W.isFn X.K (.ref f) = true) : OpR X (binaryOp op) (rOwn2 C sp E) := by
  intro pins s σ H x y u v Q I rx ry d
  obtain ⟨a, b, dx, dy, fs, gs, rfl, rfl, ha, hb, hsp⟩ := d
  cases rx
  cases ry
  obtain ⟨ox, od, J⟩ := inst_of I ha
  obtain ⟨oy, od', J'⟩ := inst_of I hb
  obtain ⟨m, hF⟩ := I.fr
  refine PySem.W.binop_K (C := C) hF I.ok.mod.kin J J'.type hc hs hf ?_
  have r2 : Vals [V.ref a, V.ref b] [Value.ref a, Value.ref b] := .cons rfl (.cons rfl .nil)
  refine wpAny_mono (run_under F hr rfl hx I r2 hsp) (fun u' s' hq => ?_) (fun _ _ z => z)
  obtain ⟨v', H', I', rv, hv⟩ := hq
  have hq : EP X pins σ Q u' s' := ⟨v', H', I', rv, hv⟩
  cases u' with
  | notImplemented => cases v' <;> simp [L2.RelV] at rv
  | _ => exact hq
/-- o[i], o an instance with the text's own __getitem__ -/
theorem pe_ixO (F : FnR X.prog X.w X.K X.mg X.base CX k f sp) (hr : Room (k + 1) X.A) (hx : Passes CX X E)
    (hs : PySem.W.findIn X.K (.ref C) "__getitem__" = some (some (.ref f))) (hf : PySem.W.fnIn X.K f = true) (hfn : PySem.W.isFn X.K (.ref f) = true) (ha : PE X a ta) (hb : PE X b tb)
    (hsl : ∀ o i, subscripted b true o i = runValue (.builtin "lifetime.subscript" ⟨[o, i], []⟩) := by intro _ _; with_unfolding_all rfl) :
    PE X (.Subscript a b pos) (tOp (fun x y H Q => ∃ q dx fs, x = .ref q ∧ H q = some (.ins C dx fs) ∧ sp [.ref q, y] H Q E) ta tb) := by
  refine ⟨fun pins s σ H Q I h => ?_⟩
  refine Subscript_ (binT ha hb I h fun v u s2 x y H2 I2 rx ry q => ?_)
  obtain ⟨q, dx, fs, rfl, hq, hsp⟩ := q
  cases rx
  obtain ⟨ox, od, J⟩ := inst_of I2 hq
  obtain ⟨m, hF⟩ := I2.fr
  refine PySem.W.sub_K hF I2.ok.mod.kin J hs hf hfn ?_ (hsl _ _)
  exact run_under F hr.in1 rfl hx I2 (vs := [.ref q, y]) (.cons rfl (.cons ry .nil)) hsp
/-! ### a != b of an own class that has an __eq__ and no __ne__ -/
theorem ifBound_ne {M : Model} {A : Around} {W : Value → Shared → Prop} {K : PySem.W.Frag} {s : Shared} {q : Addr} {ox : Obj} {od : Option Obj} {args : List Value} {Q : Option Value → Shared → Prop} (hK : K.In s.heap) (I : PySem.W.InstAt s.heap q ox C od)
    (hs : PySem.W.findIn K (.ref C) "__ne__" = some (some (.builtin "object.__ne__")))
    (h : wpAny M A (call (.builtin "object.__ne__") (.ref q :: args)) (fun v => Q (some v)) W s) : wpAny M A (callSpecialIfBound? (.ref q) "__ne__" args) Q W s := by
  have tl : wpAny M A (call (.builtin "object.__ne__") ([.ref q] ++ args) >>= fun v => pure (some v)) Q W s := wpAny_bind (wpAny_mono h (fun v s' h' => wpAny_pure h') fun _ _ h' => h')
  simp only [callSpecialIfBound?, bindSpecialIfBound?]
  refine wpAny_holding (wpAny_bind (wpAny_bind (wpAny_bind (I.type.here ((PySem.W.looks_findIn hK hs).here ?_)))))
  refine wpAny_bind (wpAny_askSetting (wpAny_ite ?_))
  split
  · exact wpAny_bind (wpAny_of_eq (F.cmp_object.ne.bind _) (wpAny_pure (by exact tl)))
  · exact wpAny_tryCatch (wpAny_bind (wpAny_of_eq (F.cmp_object.ne.bind _) (wpAny_pure (by exact tl))))
theorem ifBound_own {M : Model} {A : Around} {W : Value → Shared → Prop} {K : PySem.W.Frag} {s : Shared} {q g : Addr} {ox : Obj} {od : Option Obj} {name : Str} {args : List Value} {Q : Option Value → Shared → Prop} (hK : K.In s.heap) (I : PySem.W.InstAt s.heap q ox C od)
    (hs : PySem.W.findIn K (.ref C) name = some (some (.ref g))) (hf : PySem.W.isFn K (.ref g) = true)
    (h : wpAny M A (call (.ref g) (.ref q :: args)) (fun v => Q (some v)) W s) : wpAny M A (callSpecialIfBound? (.ref q) name args) Q W s := PySem.W.ifBound_K hK I hs hf h
/-- what the class must have -/
structure NeC (K : PySem.W.Frag) (C f : Addr) : Prop where
  ne : PySem.W.findIn K (.ref C) "__ne__" = some (some (.builtin "object.__ne__"))
  eq : PySem.W.findIn K (.ref C) "__eq__" = some (some (.ref f))
  fn : PySem.W.isFn K (.ref f) = true
  top : PySem.W.mroIn K C (.type "object") = some true
def rNeO (C : Addr) (sp : Sp) (E : XK) : R2 := fun x y H Q => ∃ a b dx dy fs gs, x = .ref a ∧ y = .ref b ∧ H a = some (.ins C dx fs) ∧ H b = some (.ins C dy gs) ∧ sp [.ref a, .ref b] H (fun v H' => ∃ c, v = .bl c ∧ Q (.bl (!c)) H') E
theorem op_neO (F : FnR X.prog X.w X.K X.mg X.base CX k f sp) (hr : Room (k + 1) X.A) (hx : Passes CX X E) (c : NeC X.K C f) : OpR X (compareOp .NotEq) (rNeO C sp E) := by
  intro pins s σ H x y u v Q I rx ry d
  obtain ⟨a, b, dx, dy, fs, gs, rfl, rfl, ha, hb, hsp⟩ := d
  cases rx
  cases ry
  obtain ⟨ox, od, J⟩ := inst_of I ha
  obtain ⟨oy, od', J'⟩ := inst_of I hb
  have hu : X.A.units + 64 < cLine := hr.units
  have inner : wpAny (model X.prog X.w) X.A.in1 (call (.ref f) [.ref a, .ref b]) (EP X pins σ (fun v H' => ∃ c, v = .bl c ∧ Q (.bl (!c)) H')) X.xe s :=
    run_under F hr.in1 rfl hx I (vs := [.ref a, .ref b]) (.cons rfl (.cons rfl .nil)) hsp
  have body : wpAny (model X.prog X.w) X.A.in1 (Builtin.«object.__ne__» ⟨[.ref a, .ref b], []⟩)
      (fun fin s' => ∃ c : Bool, fin = PySem.Fin.done (.ret (.bool (!c))) ∧ EP X pins σ Q (.bool (!c)) s') X.xe s := by
    unfold Builtin.«object.__ne__»
    repeat (first
      | with_reducible refine wpAny_cRoomFor (show X.A.in1.units < cLine by show X.A.units + 1 < cLine; omega) ?_
      | (refine wpAny_bind (m := callSpecialIfBound? (.ref a) (Str.ofString "__eq__") [.ref b]) (ifBound_own I.kIn J c.eq c.fn (wpAny_mono inner (fun r s' hr => by
          obtain ⟨v', H', I', rv, d, rfl, hq⟩ := hr
          cases rv
          repeat (first | exact ⟨_, rfl, .bl _, H', I', rfl, hq⟩ | exact wpAny_pure ⟨_, rfl, .bl _, H', I', rfl, hq⟩ | (refine wpAny_bind (m := truthy (.bool _)) (wpAny_truthy_bool ?_)) | wp_step)) fun _ _ e => e)))
      | wp_step)
  have one : wpAny (model X.prog X.w) X.A (tryCompare (.ref a) "__ne__" (.ref b)) (fun r s' => ∃ c : Bool, r = some (.bool (!c)) ∧ EP X pins σ Q (.bool (!c)) s') X.xe s := by
    unfold tryCompare
    refine wpAny_bind (ifBound_ne I.kIn J c.ne (wpAny_call (codeAny_call_builtin PySem.F.cmp_object.ne.plain PySem.F.cmpEntry_ne
      (PySem.W.check_slot PySem.F.cmpKind_ne PySem.F.cmpSplit_ne (J.type.andThen (PySem.W.looks_mroIn I.kIn c.top)) (PySem.F.cmpArgs_ne _ _) (wpAny_mono body (fun fin s' hfin => ?_) fun _ _ z => z)))))
    obtain ⟨c', rfl, hq⟩ := hfin
    first | exact wpAny_pure ⟨c', rfl, hq⟩ | exact ⟨c', rfl, hq⟩
  show wpAny _ _ (richCompare .NotEq (.ref a) (.ref b)) _ _ _
  unfold richCompare
  simp only [oneThing_ref]
  refine wpAny_holding (wpAny_bind (wpAny_cRoomFor (by omega) ?_))
  rw [cmpInfo_NotEq]
  dsimp only
  refine wpAny_bind (J.type.here (wpAny_bind (J'.type.here ?_)))
  rw [show (Value.ref C != Value.ref C) = false from by simp]
  simp only [Bool.false_eq_true, if_false]
  refine wpAny_bind (wpAny_pure ?_)
  simp only [Bool.false_eq_true, if_false]
  refine wpAny_bind (wpAny_mono one (fun r s' hr => ?_) fun _ _ e => e)
  obtain ⟨c', rfl, hq⟩ := hr
  first | exact wpAny_pure hq | exact wpAny_pure (wpAny_pure hq)
/-! ### C.m(..), m a staticmethod of the class at C -/
structure CSta (K : PySem.W.Frag) (C : Addr) (mc : Value) (m : Str) (p g : Addr) : Prop where
  rd : PySem.W.readsIn K C mc = true
  ga : PySem.W.specialIn K (.ref C) "__getattribute__" = some (some (.builtin "type.__getattribute__"))
  at_ : PySem.W.findCls K (.ref C) mc m = some (.get (.builtin "staticmethod.__get__") (.ref p) .none (.ref C))
  rc : ∃ rest, PySem.W.recIn K p "staticmethod" = some (.ref g :: rest)
  kp : PySem.W.keepIn K (.ref g) = true
theorem pe_sta {mc : Value} {q g : Addr} {pl : Sem Bool} (he : PE X o ta) (c : CSta X.K C mc m q g) (F : FnR X.prog X.w X.K X.mg X.base CX k g sp) (hr : Room k X.A) (hx : Passes CX X E) (ha : PA X (e :: es) t)
    (hst : starEach (e :: es) X.env = (false, eval e X.env) :: starEach es X.env := by rfl) (hpl : (backTo pos (starEach es X.env)).any (·.1) = false := by rfl)
    (ht : eval (.Call (.Attribute o m apos) (e :: es) [] pos) X.env = (do
      let ov ← eval o X.env
      standAt apos.atName
      let (f, first) ← holding [ov] (getMethod ov m pl)
      callWith pos f first (backTo pos (starEach (e :: es) X.env)) (backToKw pos (keywordEach [] X.env))) := by rfl) :
    PE X (.Call (.Attribute o m apos) (e :: es) [] pos) (fun σ H Q => ta σ H fun x H1 => x = .ref C ∧ t σ H1 fun vs H2 => sp vs H2 Q E) := by
  refine ⟨fun pins s σ H Q I h => ?_⟩
  rw [ht]
  refine wpAny_bind (thn (he.run pins s σ H _ I h) fun v s1 ⟨y, H1, I1, ry, ey, q1⟩ => ?_)
  subst ey
  obtain rfl : v = Value.ref C := ry
  obtain ⟨rest, hp⟩ := c.rc
  refine wpAny_bind (wpAny_standAt (wpAny_bind (wpAny_holding (PySem.W.method_cls I1.kIn c.ga (PySem.W.cls_bind I1.kIn c.rd c.at_ (wpAny_call (PySem.W.sm_get (s := { s1 with toks := s1.toks + 1 }) I1.kIn hp (PySem.W.handed_on rfl ?_))))))))
  have I2 := I1.tok (s1.toks + 1)
  refine PySem.W.callWith_K (h₀ := X.base) (first := []) I.ok.mod.kin c.kp (thn (ha.run pos pins _ σ H1 _ I2 q1) fun us s3 ⟨vs, H3, I3, r, q⟩ => ⟨I3.kIn, ?_⟩) hst hpl
  exact wpAny_call (run_fnR F hr hx I3 r q)
end
end K6
set_option Elab.async false
set_option linter.all false
set_option maxRecDepth 100000
set_option maxHeartbeats 4000000
namespace K6
open PySem PySem.Spec PyProof.Rows L2

/-! ### walking an instance whose __iter__ hands back iter(self.f), f a tuple -/
theorem entry_iterF : entryFor table "iter" = some Builtin.«iter» := PySem.W.kdk_entry_iter
theorem call_iterT {prog : Program} {w : World} {A : Around} {E : Value → Shared → Prop} {s : Shared} {q : Addr} {items : Array Value} {Q : Value → Shared → Prop} (hl : s.heap.IsTuple q items)
    (h : Q (.ref s.heap.objs.size) { s with heap := s.heap.push { cls := .type "tuple_iterator", data := .fields #[.ref q, .int 0 0] } }) : wpAny (model prog w) A (call (.builtin "iter") [.ref q]) Q E s := by
  refine Calls.call_function_entry (by decide +kernel) (by decide +kernel) entry_iterF (PySem.W.kdk_args_iter _) ?_
  unfold Builtin.«iter»
  refine wpAny_bind (m := someArgs "iter" 1 2 _) (wpAny_of_eq (a := [Value.ref q]) (by first | rfl | kernel_rfl!) ?_)
  show wpAny _ _ (pyIter (.ref q) >>= _) _ _ _
  exact wpAny_bind (wpAny_pyIter_tuple hl (wpAny_pure ⟨_, rfl, h⟩))
/-- an instance of the class at C whose field f is the tuple rr -/
def HasT (K : PySem.W.Frag) (C : Addr) (fld : Str) (a rr : Addr) (H : Hp) : Prop := ∃ dx fs xs, H a = some (.ins C dx fs) ∧ fs.lookup fld = some (.ref rr) ∧ SqT K H rr xs
/-- the def at f, called with such an instance, hands back a new iterator of the tuple and leaves all else -/
def ItFn (P : Program) (w : World) (K : PySem.W.Frag) (mg : Str → Option Value) (base : Heap) (k : Nat) (f C : Addr) (fld : Str) : Prop :=
  ∀ (A : Around) (outer : List Env) (s : Shared) (H : Hp) (a rr : Addr) (W : Value → Shared → Prop), Room k A → Env0 P w K mg base A outer s H → HasT K C fld a rr H →
    codeAny (model P w) A (.call (.ref f) ⟨[.ref a], []⟩) (fun r s' => ∃ it, r = .ok (.ret (.ref it)) ∧ s.heap.objs.size ≤ it ∧ s'.heap.IsTupleIter it rr 0 ∧ s'.os = s.os ∧ AllBare s'.gens ∧
      Un (frs outer) [] H H s.heap s'.heap ∧ HOk P w H s'.heap) s
theorem itFn_of {P : Program} {w : World} {K : PySem.W.Frag} {mg : Str → Option Value} {base : Heap} {k : Nat} {f C : Addr} {fld name qual : Str} {params : Arguments} {scope : Scope} {fd : FuncData} {p1 p2 p3 p4 p5 : Pos}
    (F : FunD K name qual params [.Return (some (.Call (.Name "iter" p1) [.Attribute (.Name "self" p2) fld p3] [] p4)) p5] scope [] [] f fd)
    (S : FnScope ["self"] ["self"] scope) (hb : Binds K fd ["self"] []) (hsl : scope.names.lookup ("self" : Str) = some .local) (hit : scope.names.lookup ("iter" : Str) = some .globalImplicit) (hm : mg "iter" = none) (cl : Cls K C) (na : NoAttr K C fld)
    (hbs : ∀ env : Env, attributeBase (.Name "self" p2) fld env (eval (.Name "self" p2) env) = eval (.Name "self" p2) env) :
    ItFn P w K mg base (k + 1) f C fld := by
  intro A outer s H a rr W hr e0 ⟨dx, fs, xs, ha, hl, hq⟩
  obtain ⟨oc, od, dV, kV, doc, pm, an, cdv, ct, osl, hfd, lk, hcd, _, _⟩ := F.ex
  have KX : K.In s.heap := e0.mod.kin.keeps fun b o e => (e0.bs b o e).1
  have lim : s.heap.NoLimit := e0.mod.nolimit.keeps fun b o e => (e0.bs b o e).1
  have hkind : ∀ y ∈ (["self"] : List Str).zip [Value.ref a], scope.names.lookup y.1 = some .local ∨ (scope.names.lookup y.1 = some .cell ∧ ((cellsFrom (s.heap.objs.size + 1) scope.names []).lookup y.1).isSome = true) := fun y hy => by
    rcases List.mem_cons.mp hy with rfl | hy
    · exact .inl hsl
    · cases hy
  have hbind : BindsTo s fd ⟨[.ref a], []⟩ ((["self"] : List Str).zip [Value.ref a]) := hb s [.ref a] KX rfl
  subst hfd
  refine codeAny_call_function hr.depth (KX _ _ lk) rfl S.co S.gen rfl (PySem.W.codeRec_of KX hcd) (hbind _ _ _ _ ?_)
  refine wpAny_newFunctionEnv_cells S.kind hkind fun env he s1 x => ?_
  subst he
  refine ⟨lim.keeps x.toInCall.keep, codeAny_func ?_⟩
  have I : Inv (cxOf (fun _ _ _ _ _ _ => False) P w K mg base ["self"] qual scope f cdv A outer s H (fun _ _ _ => False)) [] (start ["self"] [.ref a]) H s1 := inv_start S hr.hd e0 rfl (.cons rfl .nil) x
  have hself : PE (cxOf (fun _ _ _ _ _ _ => False) P w K mg base ["self"] qual scope f cdv A outer s H (fun _ _ _ => False)) (.Attribute (.Name "self" p2) fld p3) (tFld K (tVar 0) fld) :=
    pe_fld (pe_var rfl (.inl hsl)) (hbs _)
  have hgl : Gl (cxOf (fun _ _ _ _ _ _ => False) P w K mg base ["self"] qual scope f cdv A outer s H (fun _ _ _ => False)) "iter" := hit
  refine wpAny_execs_cons ?_
  refine wpAny_Return_some ?_
  refine wpAny_Call_Name_kw (ld_blt I hgl hm PyProof.Rows.boot_iter ?_)
  refine PyProof.Rows.callWith_builtin1 ?_ rfl rfl
  refine wpAny_mono ((pa_cons hself pa_nil).run p4 [] s1 _ H (fun vs H1 => vs = [.ref rr] ∧ H1 = H) I ⟨_, rfl, a, C, dx, fs, _, rfl, ha, cl, na, hl, rfl, rfl⟩) (fun us s2 hu => ?_) (fun e s' z => wpAny_mono z (fun _ _ q => False.elim q) (fun _ _ q => False.elim q))
  obtain ⟨vs, H1, I2, rv, rfl, rfl⟩ := hu
  cases rv with
  | cons r1 r2 =>
    cases r1
    cases r2
    obtain ⟨its, rv2, pt, hz⟩ := I2.tuple hq
    refine call_iterT (show s2.heap.IsTuple rr its.toArray from pt) ?_
    have I3 := I2.kept (h' := s2.heap.push { cls := .type "tuple_iterator", data := .fields #[.ref rr, .int 0 0] }) (t' := s2.toks) (fun b o e => Heap.get?_push_of_some _ e)
    refine ⟨s2.heap.objs.size, rfl, I2.sz, ⟨_, Heap.get?_push_size _ rfl, rfl, rfl⟩, I3.os, I3.bare, I3.base, I3.hok⟩
/-- for x in o, o such an instance -/
structure ItC6 (K : PySem.W.Frag) (C f : Addr) : Prop where
  at_ : PySem.W.findIn K (.ref C) "__iter__" = some (some (.ref f))
  fn : PySem.W.isFn K (.ref f) = true
def iOwn (K : PySem.W.Frag) (C : Addr) (fld : Str) (tl : TE) : TI := fun σ H R => tl σ H fun x H1 => ∃ a rr, x = .ref a ∧ HasT K C fld a rr H1 ∧ R (Itt K rr) H1
theorem pi_own {X : Cx} {tg l : Expr} {tl : TE} {k : Nat} {f C : Addr} {fld : Str} (F : ItFn X.prog X.w X.K X.mg X.base k f C fld) (hr : Room k X.A) (c : ItC6 X.K C f) (hl : PE X l tl) : PI X tg l (iOwn X.K C fld tl) := by
  refine ⟨fun pins s σ H R I h => ?_⟩
  refine thn (hl.run pins s σ H _ I h) fun v s1 ⟨x, H1, I1, r1, q1⟩ => ?_
  obtain ⟨a, rr, e, hq, q⟩ := q1
  subst e
  cases r1
  obtain ⟨dx, fs, xs, ha, _⟩ := id hq
  obtain ⟨ox, od, J⟩ := inst_of I1 ha
  obtain ⟨m, hF⟩ := I1.fr
  refine PySem.W.owit_iter hF I1.ok.mod.kin J c.at_ c.fn (wpAny_call (codeAny_mono (F X.A X.stack s1 H1 a rr (fun _ _ => False) hr I1.env0 hq) fun r s' hres => ?_))
  obtain ⟨it, rfl, hge, hti, hos, hbare, hun, hok⟩ := hres
  show PySem.W.OwitIt _ _ _ _ (.ref it) s'
  unfold PySem.W.OwitIt
  obtain ⟨hh, g, d, t, os'⟩ := s'
  obtain rfl : os' = s1.os := hos
  have I2 : Inv X pins σ H1 ⟨hh, g, d, t, s1.os⟩ := I1.call (h' := hh) (g' := g) (d' := d) (t' := t) (ch := []) hun hok hbare (fun b z => absurd z (by simp))
  refine wpAny_specialOf (T := "tuple_iterator") hti.typeIs PySem.F.slot_tuple_iterator_next.lookup ?_
  refine ⟨it, [it], _, Itt X.K rr, H1, rfl, I2, turn_tuple rr it, hti, fun b hb => ?_, q⟩
  have e : b = it := by simpa using hb
  subst e
  exact I1.fpOk hge (I1.hok.fresh hge)
end K6
set_option Elab.async false
set_option linter.all false
set_option maxRecDepth 100000
set_option maxHeartbeats 4000000
namespace K6
open PySem PySem.Spec PyProof.Rows L2

/-! ### def __init__(self, ..): super().__init__(..) in an own class -/
/-- how the def stands: its cell holds its class -/
structure SupF (P : Program) (K : PySem.W.Frag) (mg : Str → Option Value) (name qual : Str) (params : Arguments) (body : List Stmt) (scope : Scope) (f D cc cda : Addr) (fd : FuncData) : Prop where
  ex : ∃ (oc kV doc pm : Value) (od an : Option Addr) (ct : Value) (osl : Array (Option Value)), fd = PySem.W.ksFn name qual params body scope .none kV doc pm an (.ref cda) ct cc ∧ K.lookup f = some ⟨oc, od, .func fd, osl⟩ ∧ PySem.W.codeIn K (.ref cda) qual = true
  code : ∃ (ccl : Value) (cdd : Option Addr) (vs : Array Value) (ccs : Array (Option Value)) (file : Str) (tf : Tok), K.lookup cda = some ⟨ccl, cdd, .fields vs, ccs⟩ ∧ vs[2]? = some (.str file tf) ∧ ((P.main.file : Str) == file) = true
  cell : ∃ (cl : Value) (cld : Option Addr) (csl : Array (Option Value)), K.lookup cc = some ⟨cl, cld, .cell (some (.ref D)), csl⟩
  cls : ∃ cd, PySem.W.clsIn K D = some cd
  sup : mg "super" = none
  top : (P.main.scope.names.lookup ("super" : Str)).isSome = false
  any : PySem.W.nsIn K cStatics "thirdparty.any" = some none
/-- and the class of the instance: the next __init__ along its classes stands at f2 -/
structure SupC (K : PySem.W.Frag) (C D f2 : Addr) (m : Str) : Prop where
  nx : PySem.W.ks_superIn K C D m = some (some (.ref f2))
  ty : PySem.W.typeIn K (.ref f2) = some (.type "function")
  mro : PySem.W.mroIn K C (.ref D) = some true
  fi : PySem.W.fnIn K f2 = true
/-- the context of such a body: the def's cell is one of the written part -/
def cxSup (P : Program) (w : World) (K : PySem.W.Frag) (mg : Str → Option Value) (base : Heap) (N : List Str) (qual : Str) (scope : Scope) (f cda cc : Addr) (A : Around) (outer : List Env) (s : Shared) (H : Hp) (Ex : Value → Shared → Prop) : Cx where
  prog := P
  w := w
  K := K
  mg := mg
  base := base
  A := A.deeper (PySem.W.ksEnv qual scope s.heap.objs.size f (.ref cda) cc)
  N := N
  s_0 := s
  H_0 := H
  env := PySem.W.ksEnv qual scope s.heap.objs.size f (.ref cda) cc
  outer := outer
  stack := PySem.W.ksEnv qual scope s.heap.objs.size f (.ref cda) cc :: outer
  ex := []
  fn := fun _ => false
  calm := true
  pn := []
  xe := Ex
theorem inv_sup {P : Program} {w : World} {K : PySem.W.Frag} {mg : Str → Option Value} {base : Heap} {N : List Str} {qual : Str} {scope : Scope} {f cda cc D : Addr} {A : Around} {outer : List Env} {s : Shared} {h1 : Heap} {H : Hp} {us : List Value} {vs : List V} {tk : Nat} {Ex : Value → Shared → Prop}
    (hk : scope.kind = .function) (nd : N.Nodup) (hloc : ∀ y ∈ N, scope.names.lookup y = some .local) (hcf : ∀ y ∈ scope.names, (y.2 = .cell ∨ y.2 = .free) → y.1 = "__class__") (hcell : ∃ (cl : Value) (cld : Option Addr) (csl : Array (Option Value)), K.lookup cc = some ⟨cl, cld, .cell (some (.ref D)), csl⟩)
    (hd : A.handled = none) (e0 : Env0 P w K mg base A outer s H) (hl : vs.length = N.length) (r : Vals vs us)
    (hn : h1.Ns s.heap.objs.size (fun x => (N.zip us).reverse.lookup x)) (k : ∀ b o, s.heap.get? b = some o → h1.get? b = some o) :
    Inv (cxSup P w K mg base N qual scope f cda cc A outer s H Ex) [] (vs.map some) H { s with heap := h1, toks := tk } := by
  obtain ⟨cl, cld, csl, hc0⟩ := hcell
  have hcb := e0.mod.kin _ _ hc0
  obtain ⟨hcs, hcn⟩ := e0.bs _ _ hcb
  have noA : ∀ b : Addr, b ∉ (cxSup P w K mg base N qual scope f cda cc A outer s H Ex).ex := fun b z => absurd (show b ∈ ([] : List Addr) from z) (by simp)
  have only : ∀ y c, (cxSup P w K mg base N qual scope f cda cc A outer s H Ex).env.cells.lookup y = some c → y = "__class__" ∧ c = cc := fun y c e => by
    have q := PySem.mem_of_lookup e
    have q2 : (y, c) ∈ [(("__class__" : Str), cc)] := q
    rcases List.mem_singleton.mp q2 with z
    cases z
    exact ⟨rfl, rfl⟩
  have nl : cc < s.heap.objs.size := Heap.lt_size hcs
  have lkup : (cxSup P w K mg base N qual scope f cda cc A outer s H Ex).env.cells.lookup ("__class__" : Str) = some cc := by
    show List.lookup ("__class__" : Str) [(("__class__" : Str), cc)] = some cc
    simp
  refine ⟨⟨e0.mod, hk, rfl, rfl, Nat.le_refl _, fun y z c h1 h2 => (only y c h1).1.trans (only z c h2).1.symm, fun y hy => ?_, fun y c hf _ => absurd (show (false : Bool) = true from hf) Bool.false_ne_true, fun _ => hd, Around.frames_deeper e0.frames, .inr ⟨rfl, rfl⟩, fun b z => absurd z (noA b), e0.bs, e0.bsz, fun b _ _ => noA b, fun b z => absurd z (noA b), e0.funs, e0.frf⟩,
    rfl, e0.bare, Un.kept k, ⟨_, hn, fun i y v h1 h2 h3 => ?_⟩, fun y c e => ?_, e0.hok.fresh (Nat.le_refl _), fun y c e => ?_, fun p hp => absurd (show p ∈ ([] : List (Addr × Obj)) from hp) (by simp), e0.hok.kept k, ?_⟩
  · have hy : scope.names.lookup y = some .cell ∨ scope.names.lookup y = some .free := hy
    have e : y = "__class__" := by
      rcases hy with hy | hy
      · exact hcf _ (PySem.mem_of_lookup hy) (.inl rfl)
      · exact hcf _ (PySem.mem_of_lookup hy) (.inr rfl)
    exact ⟨cc, by rw [e]; exact lkup⟩
  · have hv : vs[i]? = some v := by
      rw [List.getElem?_map] at h2
      cases e : vs[i]? with
      | none => rw [e] at h2; cases h2
      | some a => rw [e] at h2; cases h2; rfl
    obtain ⟨u, hu, ru⟩ := r.get hv
    have hy : scope.names.lookup y = some .local := hloc y (List.mem_of_getElem? h1)
    refine ⟨u, ru, .inl ⟨hy, ?_⟩⟩
    have hul : us.length = N.length := by rw [← r.length]; exact hl
    have hmem : (y, u) ∈ (N.zip us).reverse := by
      rw [List.mem_reverse]
      refine List.mem_of_getElem? (i := i) ?_
      rw [List.getElem?_zip_eq_some]
      exact ⟨h1, hu⟩
    have hndz : ((N.zip us).reverse.map (·.1)).Nodup := by
      rw [List.map_reverse, List.map_fst_zip (by omega)]
      exact List.pairwise_reverse.mpr (nd.imp Ne.symm)
    have gen : ∀ (l : List (Str × Value)), (l.map (·.1)).Nodup → (y, u) ∈ l → l.lookup y = some u := by
      intro l
      induction l with
      | nil => intro _ h; cases h
      | cons p l ih =>
        intro nd2 h
        obtain ⟨k, v2⟩ := p
        rw [List.map_cons, List.nodup_cons] at nd2
        rw [List.lookup_cons]
        rcases List.mem_cons.mp h with e | e
        · cases e
          simp
        · have ne : y ≠ k := fun z => nd2.1 (by rw [← z]; exact List.mem_map_of_mem (f := (·.1)) e)
          rw [beq_eq_false_iff_ne.mpr ne]
          exact ih nd2.2 e
    exact gen _ hndz hmem
  · obtain ⟨_, e2⟩ := only y c e
    subst e2
    exact ⟨_, _, k _ _ hcs, rfl⟩
  · obtain ⟨_, e2⟩ := only y c e
    subst e2
    exact hcn
  · show (vs.map some).length = N.length
    rw [List.length_map]
    exact hl
/-- the new super object, then the new method: two more objects that nothing tracks -/
theorem fn_super {P : Program} {w : World} {K : PySem.W.Frag} {mg : Str → Option Value} {base : Heap} {N : List Str} {name qual m : Str} {params : Arguments} {scope : Scope} {f D C f2 cc cda : Addr} {fd : FuncData} {k : Nat} {sp : Sp} {e : Expr} {es : List Expr} {p0 p1 p2 p3 p4 p5 : Pos} {ar : Arg} {t : TA} {pl : Sem Bool}
    (SF : SupF P K mg name qual params [.Expr (.Call (.Attribute (.Call (.Name "super" p0) [] [] p1) m p2) (e :: es) [] p3) p4] scope f D cc cda fd) (SC : SupC K C D f2 m) (F : FnR P w K mg base CX0 k f2 sp)
    (hk : scope.kind = .function) (hco : scope.isCoroutine = false) (hgen : scope.isGenerator = false) (nd : N.Nodup) (hloc : ∀ y ∈ N, scope.names.lookup y = some .local) (hcf : ∀ y ∈ scope.names, (y.2 = .cell ∨ y.2 = .free) → y.1 = "__class__") (hnc : ∀ y ∈ scope.names, y.2 ≠ .cell)
    (hsu : scope.names.lookup ("super" : Str) = some .globalImplicit) (hcl : scope.names.lookup ("__class__" : Str) = some .free)
    (hp : (params.posonlyargs ++ params.args).head? = some ar) (har : N[0]? = some ar.arg)
    (hbind : ∀ (kV doc pm : Value) (an : Option Addr) (ct : Value) (us : List Value), us.length = N.length → bindArgs (PySem.W.ksFn name qual params [.Expr (.Call (.Attribute (.Call (.Name "super" p0) [] [] p1) m p2) (e :: es) [] p3) p4] scope .none kV doc pm an (.ref cda) ct cc) ⟨us, []⟩ = pure (N.zip us))
    (hm : (m == ("__class__" : Str)) = false)
    (hargs : ∀ X : Cx, X.N = N → X.env.scope = scope → PA X (e :: es) t)
    (htree : ∀ env : Env, eval (.Call (.Attribute (.Call (.Name "super" p0) [] [] p1) m p2) (e :: es) [] p3) env = (do
      let ov ← attributeBase (.Call (.Name "super" p0) [] [] p1) m env (eval (.Call (.Name "super" p0) [] [] p1) env)
      standAt p2.atName
      let (f, first) ← holding [ov] (getMethod ov m pl)
      callWith p3 f first (backTo p3 (starEach (e :: es) env)) []))
    (hst : ∀ env : Env, starEach (e :: es) env = (false, eval e env) :: starEach es env) (hpl : ∀ env : Env, (backTo p3 (starEach es env)).any (·.1) = false)
    (hsw : ∀ env : Env, swapsWith (.Call (.Attribute (.Call (.Name "super" p0) [] [] p1) m p2) (e :: es) [] p3) none p4.line env = pure false) :
    FnR P w K mg base CX0 (k + 2) f (fun vs H Q E => ∃ a rest dx fs, vs = V.ref a :: rest ∧ vs.length = N.length ∧ H a = some (.ins C dx fs) ∧ t (vs.map some) H (fun ws H1 => H1 = H ∧ sp (V.ref a :: ws) H (fun v H' => Q .non H') E)) := by
  intro A outer s H us vs Q E hr e0 r ⟨a, rest, dx, fs, hvs, hlen, hH, ht⟩
  obtain ⟨oc, kV, doc, pm, od, an, ct, osl, hfd, lk, hcd⟩ := SF.ex
  obtain ⟨ccl, cdd, cvs, ccs, file, tf, hcode, hv2, hfile⟩ := SF.code
  obtain ⟨cl, cld, csl, hcell⟩ := id SF.cell
  obtain ⟨cdD, hclsD⟩ := SF.cls
  have KX : K.In s.heap := e0.mod.kin.keeps fun b o e => (e0.bs b o e).1
  have lim : s.heap.NoLimit := e0.mod.nolimit.keeps fun b o e => (e0.bs b o e).1
  have hul : us.length = N.length := by rw [← r.length]; exact hlen
  subst hfd
  refine PySem.ks_codeAny_call_defAt (binds := N.zip us) hr.depth (KX _ _ lk) rfl lim (PySem.W.codeRec_of KX hcd) rfl (.of_eq (hbind _ _ _ _ _ us hul)) hnc (fun y hy => hloc y.1 (List.of_mem_zip hy).1) (fun h1 hns hk1 => ?_) hco hgen hk
  have I : Inv (cxSup P w K mg base N qual scope f cda cc A outer s H (fun _ _ => False)) [] (vs.map some) H { s with heap := h1, toks := s.toks + (N.zip us).length } := inv_sup hk nd hloc hcf SF.cell hr.hd e0 hlen r hns hk1
  refine PySem.ks_wpAt_mono (E := fun _ _ => False) ?_ (fun fl s' q => q) (fun _ _ q => False.elim q)
  refine PySem.ks_wpAt_execs_cons ?_
  refine PySem.ks_wpAt_Expr_any ?_ I.quiet (hsw _)
  refine PySem.ks_wpAt_MethodCall (pl := pl) ?_ (htree _)
  have K1 : K.In h1 := KX.keeps hk1
  refine PySem.ks_wpAt_super_base hsu hcl hm rfl (K1 _ _ lk) rfl hp rfl (K1 _ _ hcode) rfl hv2 hfile SF.top ?_
  obtain ⟨mb, hb1, hb2⟩ := I.mod.blt
  refine PySem.W.ks_loadName_global hk hsu (Calls.loadGlobal_builtin (I.mod.glob.keeps I.bk) SF.sup (hb1.keeps I.bk) ((hb2 _ (by decide)).trans (show bootBuiltins ("super" : Str) = some (.type "super") by decide +kernel)) ⟨rfl, ?_⟩)
  refine wpAny_loadName_free hk hcl rfl ⟨_, K1 _ _ hcell, rfl⟩ ?_
  have hself : ∃ m', h1.Ns s.heap.objs.size m' ∧ m' ar.arg = some (.ref a) := by
    obtain ⟨m', hn', hl'⟩ := I.loc
    have hla : scope.names.lookup ar.arg = some .local := hloc _ (List.mem_of_getElem? har)
    obtain ⟨u, ru, lu⟩ := hl' 0 ar.arg (.ref a) har (by rw [hvs]; rfl) (.inl hla)
    cases ru
    rcases lu with ⟨_, q⟩ | ⟨q, _⟩
    · exact ⟨m', hn', q⟩
    · have q' : scope.names.lookup ar.arg = some .cell ∨ scope.names.lookup ar.arg = some .free := q
      rw [hla] at q'
      rcases q' with z | z <;> cases z
  obtain ⟨m', hn', hma⟩ := hself
  refine wpAny_loadName_local hk (hloc _ (List.mem_of_getElem? har)) hn' hma ?_
  obtain ⟨oD, hD1, hD2⟩ : ∃ oD, h1.get? D = some oD ∧ oD.data = .cls cdD := by
    unfold PySem.W.clsIn at hclsD
    split at hclsD
    · rename_i c d cd' sl ho
      cases hclsD
      exact ⟨_, K1 _ _ ho, rfl⟩
    · cases hclsD
  refine PySem.ks_wpAny_isType_cls hD1 hD2 ⟨rfl, ?_⟩
  obtain ⟨ox, odx, J⟩ := inst_of I hH
  refine PySem.ks_wpAny_call_super hD1 hD2 J.at_ J.cls (fun c e => ?_) (PySem.W.looks_mroIn K1 SC.mro) (fun h2 e2 k2 => ?_)
  · have := J.no
    unfold PySem.W.notCls at this
    rw [e] at this
    exact Bool.noConfusion this
  have I2 := I.kept (h' := h2) (t' := s.toks + (N.zip us).length) k2
  have K2 : K.In h2 := K1.keeps k2
  obtain ⟨ox2, odx2, J2⟩ := inst_of I2 hH
  have hxC : a ≠ C := by
    rintro rfl
    have q := SC.mro
    unfold PySem.W.mroIn at q
    cases z : PySem.W.clsIn K a with
    | none => rw [z] at q; cases q
    | some cd =>
      unfold PySem.W.clsIn at z
      split at z
      · rename_i c d cd' sl ho
        have e := K2 _ _ ho
        rw [J2.at_] at e
        cases e
        exact Bool.noConfusion J2.no
      · cases z
  obtain ⟨of, hof, hofc⟩ : ∃ of, h2.get? f2 = some of ∧ of.cls = .type "function" := by
    have ht' : (K.lookup f2).map (·.cls) = some (.type "function") := SC.ty
    cases z : K.lookup f2 with
    | none => rw [z] at ht'; cases ht'
    | some of => rw [z] at ht'; exact ⟨of, K2 _ _ z, Option.some.inj ht'⟩
  have hnx := SC.nx
  unfold PySem.W.ks_superIn at hnx
  cases hc : PySem.W.clsIn K C with
  | none => rw [hc] at hnx; cases hnx
  | some cdC =>
    rw [hc] at hnx
    refine PySem.ks_wpAny_getMethod_super e2 (PySem.W.looks_opaque K2 SF.any) (l₀ := cdC.mro) (fun A Q E s k q => wpAny_bind ((PySem.W.looks_clsIn K2 hc) A _ E s k (wpAny_pure q))) rfl K2 hnx hof hofc hxC hm ?_
    have I3 := ClX.pin_new (o := PySem.W.methodObj (.ref f2) (.ref a)) I2 (h' := h2.push (PySem.W.methodObj (.ref f2) (.ref a))) (t' := s.toks + (N.zip us).length + 1) (fun _ _ z => Heap.get?_push_of_some _ z) (Nat.le_refl _) (Heap.get?_push_size _ rfl) (fun v z => nomatch z)
    dsimp only
    rw [hst]
    refine PySem.W.callWith_of (P := PySem.W.MethP K h2.objs.size f2 (.ref a)) (by show ((false || (backTo p3 (starEach es _)).any (·.1)) || false) = false; rw [hpl]; rfl) (PySem.W.keeps_M SC.fi) ?_
    have hrun := (hargs (cxSup P w K mg base N qual scope f cda cc A outer s H (fun _ _ => False)) rfl rfl).run p3 _ _ _ H _ I3 ht
    rw [hst] at hrun
    refine Calls.evalArgs_plain (wpAny_mono hrun (fun ws s3 hz => ?_) (fun _ _ q => False.elim q))
    obtain ⟨zs, H3, I4, rz, eH, hsp⟩ := hz
    subst eH
    have hq := ClX.pin_at I4
    refine ⟨⟨hq, I4.kIn⟩, ?_⟩
    have I5 := ClX.unpin I4
    have hroom : Room k (cxSup P w K mg base N qual scope f cda cc A outer s H3 (fun _ _ => False)).A := (hr.mono (by omega : k + 1 ≤ k + 2)).deeper _
    refine wpAny_call (PySem.W.method_call hq (codeAny_mono (run_fnR (us := .ref a :: ws) (vs := .ref a :: zs) F hroom (E := E) (fun _ _ _ _ _ _ _ h => h.elim) I5 (.cons rfl rz) hsp) fun res s' hres => ?_))
    cases res with
    | error er => exact hres
    | ok fl =>
      cases fl with
      | ret u =>
        obtain ⟨v, H', J, rv, q⟩ := hres
        exact wpAt_of_wpAny (wpAny_execs_nil ⟨V.non, H', J.os, J.bare, J.base, J.hok, rfl, q⟩)
      | next => exact False.elim hres
      | brk => exact False.elim hres
      | cont => exact False.elim hres
end K6
set_option Elab.async false
set_option linter.all false
set_option maxRecDepth 100000
set_option maxHeartbeats 0
namespace K6
open PySem PySem.Spec PyProof.Rows L2
open He (ga ma fAd eqO eqO_ok ba frG frG_in growD)
/-- the def that a staticmethod holds -/
def sa (K : PySem.W.Frag) (C : Addr) (m : Str) : Addr := match PySem.W.recIn K (ma K C m) "staticmethod" with
  | some (.ref g :: _) => g
  | _ => 0
/-! ### the part of the heap that is looked at -/
def nsOf (g : Addr → Option Obj) (c : Addr) : Addr := match g c with
  | some ⟨_, _, .cls cd, _⟩ => cd.ns
  | _ => 0
def refN (g : Addr → Option Obj) (d : Addr) (m : Str) : Addr := match g d with
  | some ⟨_, _, .dict es _, _⟩ => (match es.find? (·.key.isStr m) with
    | some e => (match e.val with
      | .ref a => a
      | _ => 0)
    | none => 0)
  | _ => 0
def heldBy (g : Addr → Option Obj) (p : Addr) : List Addr := match g p with
  | some ⟨_, _, .fields vs, _⟩ => (match vs.toList with
    | .ref f :: _ => [f]
    | _ => [])
  | _ => []
def codesOf (g : Addr → Option Obj) (f : Addr) : List Addr := match g f with
  | some ⟨_, _, .func fd, _⟩ => (match fd.code with
    | .ref c => c :: fd.closure.map (·.2)
    | _ => [])
  | _ => []
def asX (fs : List Str) (cs : List (Str × List Str)) (g : Addr → Option Obj) : List Addr :=
  (fs.flatMap fun x => [refN g mainGlobals x].flatMap fun f => f :: codesOf g f) ++
  (cs.flatMap fun c => [refN g mainGlobals c.1].flatMap fun a => a :: [nsOf g a].flatMap fun n => n :: c.2.flatMap fun m => [refN g n m].flatMap fun p => p :: (codesOf g p ++ (heldBy g p).flatMap fun f => f :: codesOf g f))
/-! ### a def as it stands -/
structure Df where
  ad : PySem.W.Frag → Addr
  name : Str
  qual : Str
  st : Stmt
  clo : List Str := []
abbrev FnX : Type := Option (Str × Str × Arguments × FuncBody × Scope × Addr × List Str × Value × Addr)
def fnX (K : PySem.W.Frag) (d : Df) : FnX := match K.lookup (d.ad K) with
  | some ⟨_, _, .func fd, _⟩ => some (fd.name, fd.qualname, fd.params, fd.body, fd.scope, fd.globals, fd.closure.map (·.1), fd.defaults, fd.builtins)
  | _ => none
def Df.val (d : Df) : FnX := some (d.name, d.qual, defArgs d.st, .stmts (defBody d.st), defScope d.st, mainGlobals, d.clo, .none, builtinsNs)
def Df.ok (K : PySem.W.Frag) (d : Df) : Bool := PySem.W.keepIn K (.ref (d.ad K)) && (match K.lookup (d.ad K) with
  | some ⟨_, _, .func fd, _⟩ => PySem.W.codeIn K fd.code d.qual
  | _ => false)
theorem Df.fun_ {K : PySem.W.Frag} {d : Df} (hc : d.clo = []) (e : fnX K d = d.val) (c : d.ok K = true) : ∃ fd, Fun K d.name d.qual d.st (d.ad K) fd := by
  obtain ⟨kp, c2⟩ := ba c
  unfold fnX at e
  unfold Df.val at e
  rw [hc] at e
  cases q : K.lookup (d.ad K) with
  | none =>
    rw [q] at c2
    cases c2
  | some o =>
    obtain ⟨oc, od, dt, osl⟩ := o
    rw [q] at c2 e
    cases dt with
    | func fd =>
      obtain ⟨n1, n2, n3, n4, n5, n6, n7, n8, n9, n10, n11, n12, n13, n14, n15⟩ := fd
      have e2 : (some (n1, n2, n3, n4, n5, n6, n7.map (·.1), n8, n15) : FnX) = some (d.name, d.qual, defArgs d.st, .stmts (defBody d.st), defScope d.st, mainGlobals, [], .none, builtinsNs) := e
      simp only [Option.some.injEq, Prod.mk.injEq, List.map_eq_nil_iff] at e2
      obtain ⟨h1, h2, h3, h4, h5, h6, h7, h8, h9⟩ := e2
      subst h1 h2 h3 h4 h5 h6 h7 h8 h9
      exact ⟨_, ⟨oc, od, n9, n10, n11, n12, n13, n14, osl, rfl, q, c2⟩, kp⟩
    | _ => cases c2
/-! ### super().__init__ in the class named D -/
def supB (mf : Str) (K : PySem.W.Frag) (d : Df) (D : Str) : Bool := match K.lookup (d.ad K) with
  | some ⟨_, _, .func fd, _⟩ => (match fd.closure with
    | [(n, cc)] => decide (n = "__class__") && ((match K.lookup cc with
      | some ⟨_, _, .cell (some (.ref a)), _⟩ => decide (a = ga K D)
      | _ => false) && (match fd.code with
      | .ref cda => PySem.W.codeIn K (.ref cda) d.qual && (match K.lookup cda with
        | some ⟨_, _, .fields vs, _⟩ => (match (vs[2]? : Option Value) with
          | some (.str file _) => mf == file
          | _ => false)
        | _ => false)
      | _ => false))
    | _ => false)
  | _ => false
theorem sup_ok {P : Program} {K : PySem.W.Frag} {mg : Str → Option Value} {d : Df} {D mf : Str} (hP : P.main.file = mf) (e : fnX K d = d.val) (c : d.ok K = true) (s : supB mf K d D = true) (hcl : (PySem.W.clsIn K (ga K D)).isSome = true) (hs : mg "super" = none)
    (ht : (P.main.scope.names.lookup ("super" : Str)).isSome = false) (ha : PySem.W.nsIn K cStatics "thirdparty.any" = some none) :
    ∃ cc cda fd, SupF P K mg d.name d.qual (defArgs d.st) (defBody d.st) (defScope d.st) (d.ad K) (ga K D) cc cda fd := by
  obtain ⟨kp, c2⟩ := ba c
  unfold fnX at e
  unfold Df.val at e
  unfold supB at s
  cases q : K.lookup (d.ad K) with
  | none =>
    rw [q] at c2
    cases c2
  | some o =>
    obtain ⟨oc, od, dt, osl⟩ := o
    rw [q] at c2 e s
    cases dt with
    | func fd =>
      obtain ⟨n1, n2, n3, n4, n5, n6, n7, n8, n9, n10, n11, n12, n13, n14, n15⟩ := fd
      have e2 : (some (n1, n2, n3, n4, n5, n6, n7.map (·.1), n8, n15) : FnX) = some (d.name, d.qual, defArgs d.st, .stmts (defBody d.st), defScope d.st, mainGlobals, d.clo, .none, builtinsNs) := e
      simp only [Option.some.injEq, Prod.mk.injEq] at e2
      obtain ⟨h1, h2, h3, h4, h5, h6, h7, h8, h9⟩ := e2
      dsimp only at s
      match n7, s with
      | [(n, cc)], s =>
        obtain ⟨s1, s5⟩ := ba s
        obtain ⟨s2, s3⟩ := ba s5
        clear s5
        have en : n = "__class__" := of_decide_eq_true s1
        match n13, s3 with
        | .ref cda, s3 =>
          obtain ⟨s6, s4⟩ := ba s3
          subst h1 h2 h3 h4 h5 h6 h8 h9 en hP
          refine ⟨cc, cda, _, ⟨⟨oc, n9, n10, n11, od, n12, n14, osl, rfl, q, s6⟩, ?_, ?_, Option.isSome_iff_exists.mp hcl, hs, ht, ha⟩⟩
          · cases q2 : K.lookup cda with
            | none =>
              rw [q2] at s4
              cases s4
            | some o =>
              obtain ⟨x1, x2, x3, x4⟩ := o
              rw [q2] at s4
              cases x3 with
              | fields vs =>
                dsimp only at s4
                cases q3 : vs[2]? with
                | none =>
                  rw [q3] at s4
                  cases s4
                | some u =>
                  rw [q3] at s4
                  cases u with
                  | str file t => exact ⟨x1, x2, vs, x4, file, t, rfl, q3, s4⟩
                  | _ => cases s4
              | _ => cases s4
          · cases q2 : K.lookup cc with
            | none =>
              rw [q2] at s2
              cases s2
            | some o =>
              obtain ⟨x1, x2, x3, x4⟩ := o
              rw [q2] at s2
              cases x3 with
              | cell v =>
                cases v with
                | none => cases s2
                | some v =>
                  cases v with
                  | ref a =>
                    have ea : a = ga K D := of_decide_eq_true s2
                    subst ea
                    exact ⟨x1, x2, x4, rfl⟩
                  | _ => cases s2
              | _ => cases s2
    | _ => cases c2
/-! ### C.m, a staticmethod -/
def staB (K : PySem.W.Frag) (C : Addr) (m : Str) : Bool := PySem.W.readsIn K C (.type "type") && (eqO (PySem.W.specialIn K (.ref C) "__getattribute__") (some (some (.builtin "type.__getattribute__"))) && ((match PySem.W.findCls K (.ref C) (.type "type") m with
  | some (.get g p z c) => decide (g = .builtin "staticmethod.__get__") && (decide (p = .ref (ma K C m)) && (decide (z = .none) && decide (c = .ref C)))
  | _ => false) && ((match PySem.W.recIn K (ma K C m) "staticmethod" with
  | some (.ref _ :: _) => true
  | _ => false) && PySem.W.keepIn K (.ref (sa K C m)))))
theorem sta_ok {K : PySem.W.Frag} {C : Addr} {m : Str} (h : staB K C m = true) : CSta K C (.type "type") m (ma K C m) (sa K C m) := by
  obtain ⟨h1, h⟩ := ba h
  obtain ⟨h2, h⟩ := ba h
  obtain ⟨h3, h⟩ := ba h
  obtain ⟨h4, h5⟩ := ba h
  refine ⟨h1, eqO_ok h2, ?_, ?_, h5⟩
  · cases q : PySem.W.findCls K (.ref C) (.type "type") m with
    | none =>
      rw [q] at h3
      cases h3
    | some f =>
      rw [q] at h3
      cases f with
      | get g p z c =>
        obtain ⟨a1, a2⟩ := ba h3
        obtain ⟨a2, a3⟩ := ba a2
        obtain ⟨a3, a4⟩ := ba a3
        rw [show g = _ from of_decide_eq_true a1, show p = _ from of_decide_eq_true a2, show z = _ from of_decide_eq_true a3, show c = _ from of_decide_eq_true a4]
      | _ => cases h3
  · unfold sa
    cases q : PySem.W.recIn K (ma K C m) "staticmethod" with
    | none =>
      rw [q] at h4
      cases h4
    | some l =>
      rw [q] at h4
      cases l with
      | nil => cases h4
      | cons v rest =>
        cases v with
        | ref g => exact ⟨rest, rfl⟩
        | _ => cases h4
/-! ### the Hook -/
abbrev AlX : Type := Bool × List FnX
def obsX (fa : List (PySem.W.Frag → Bool)) (fn : List Df) (K : PySem.W.Frag) : AlX := ((fa.all fun f => f K) && fn.all fun d => d.ok K, fn.map fun d => fnX K d)
def valX (fn : List Df) : AlX := (true, fn.map Df.val)
def SaysX (fa : List (PySem.W.Frag → Bool)) (fn : List Df) (K : PySem.W.Frag) : Prop := obsX fa fn K = valX fn
def obsXG (fs : List Str) (cs : List (Str × List Str)) (fa : List (PySem.W.Frag → Bool)) (fn : List Df) (g : Addr → Option Obj) : AlX := obsX fa fn (frG g (mainGlobals :: cStatics :: asX fs cs g))
def hookX (fs : List Str) (cs : List (Str × List Str)) (fa : List (PySem.W.Frag → Bool)) (fn : List Df) : PySem.W.Hook where
  α := AlX
  obs := fun s => obsXG fs cs fa fn s.heap.get?
  val := fun _ => valX fn
  says := fun _ h => ∃ K : PySem.W.Frag, K.In h ∧ SaysX fa fn K
  of := fun _ _ e => ⟨_, frG_in, e⟩
  keeps := fun _ _ _ ⟨K, hK, c⟩ k => ⟨K, PySem.W.Frag.In.keeps hK k, c⟩
theorem obsXG_eq {fs : List Str} {cs : List (Str × List Str)} {fa : List (PySem.W.Frag → Bool)} {fn : List Df} {g : Addr → Option Obj} {s : Shared} (h : ∀ a, g a = s.heap.get? a) : obsXG fs cs fa fn g = (hookX fs cs fa fn).obs s := by
  have e : g = s.heap.get? := funext h
  rw [e] <;> rfl
section
variable {fa : List (PySem.W.Frag → Bool)} {fn : List Df} {K : PySem.W.Frag}
theorem SaysX.fact (c : SaysX fa fn K) (i : Nat) {f : PySem.W.Frag → Bool} (h : fa[i]? = some f := by rfl) : f K = true := by
  have c1 := (ba (show ((fa.all fun f => f K) && fn.all fun d => d.ok K) = true from congrArg (fun z : AlX => z.1) c)).1
  exact List.all_eq_true.mp c1 f (List.mem_of_getElem? h)
theorem SaysX.at_ (c : SaysX fa fn K) (i : Nat) {d : Df} (h : fn[i]? = some d := by rfl) : fnX K d = d.val ∧ d.ok K = true := by
  have c2 := (ba (show ((fa.all fun f => f K) && fn.all fun d => d.ok K) = true from congrArg (fun z : AlX => z.1) c)).2
  have e : fn.map (fun d => fnX K d) = fn.map Df.val := congrArg (fun z : AlX => z.2) c
  have e2 : (fn.map fun d => fnX K d)[i]? = (fn.map Df.val)[i]? := by rw [e]
  rw [List.getElem?_map, List.getElem?_map, h] at e2
  exact ⟨Option.some.inj e2, List.all_eq_true.mp c2 d (List.mem_of_getElem? h)⟩
end
end K6
set_option Elab.async false
set_option linter.all false
set_option maxRecDepth 100000
set_option maxHeartbeats 0
namespace K6
open PySem PySem.Spec PyProof.Rows L2
open He (ga ma fAd eqO eqO_ok ba frG frG_in growD)
def prg : Program := PySem.Challenge.pw_onelongturn_k60_whole_stairs_of_great_an
def top (i : Nat) : Stmt := prg.main.body.getD i (.Pass ⟨0, 0, 0, 0⟩)
/-! ### the defs of the text -/
abbrev s_is_integer : Stmt := top 4
def d_is_integer : Df := ⟨fun K => ga K "is_integer", "is_integer", "is_integer", s_is_integer, []⟩
abbrev s_is_between : Stmt := top 5
def d_is_between : Df := ⟨fun K => ga K "is_between", "is_between", "is_between", s_is_between, []⟩
abbrev s_is_number : Stmt := top 6
def d_is_number : Df := ⟨fun K => ga K "is_number", "is_number", "is_number", s_is_number, []⟩
abbrev s_is_name : Stmt := top 8
def d_is_name : Df := ⟨fun K => ga K "is_name", "is_name", "is_name", s_is_name, []⟩
abbrev s_is_row : Stmt := top 9
def d_is_row : Df := ⟨fun K => ga K "is_row", "is_row", "is_row", s_is_row, []⟩
abbrev s_need_all_trips : Stmt := top 46
def d_need_all_trips : Df := ⟨fun K => ga K "need_all_trips", "need_all_trips", "need_all_trips", s_need_all_trips, []⟩
abbrev s_places_of : Stmt := top 47
def d_places_of : Df := ⟨fun K => ga K "places_of", "places_of", "places_of", s_places_of, []⟩
abbrev s_need_few : Stmt := top 48
def d_need_few : Df := ⟨fun K => ga K "need_few", "need_few", "need_few", s_need_few, []⟩
abbrev s_unbalanced : Stmt := top 49
def d_unbalanced : Df := ⟨fun K => ga K "unbalanced", "unbalanced", "unbalanced", s_unbalanced, []⟩
abbrev s_need_names_alone : Stmt := top 51
def d_need_names_alone : Df := ⟨fun K => ga K "need_names_alone", "need_names_alone", "need_names_alone", s_need_names_alone, []⟩
abbrev s_need_table : Stmt := top 54
def d_need_table : Df := ⟨fun K => ga K "need_table", "need_table", "need_table", s_need_table, []⟩
abbrev s_needed_pauses : Stmt := top 55
def d_needed_pauses : Df := ⟨fun K => ga K "needed_pauses", "needed_pauses", "needed_pauses", s_needed_pauses, []⟩
abbrev s_need_place : Stmt := top 56
def d_need_place : Df := ⟨fun K => ga K "need_place", "need_place", "need_place", s_need_place, []⟩
abbrev s_under : Stmt := top 58
def d_under : Df := ⟨fun K => ga K "under", "under", "under", s_under, []⟩
abbrev s_stair_of : Stmt := top 64
def d_stair_of : Df := ⟨fun K => ga K "stair_of", "stair_of", "stair_of", s_stair_of, []⟩
abbrev s_stair : Stmt := top 65
def d_stair : Df := ⟨fun K => ga K "stair", "stair", "stair", s_stair, []⟩
abbrev s_need_two : Stmt := top 66
def d_need_two : Df := ⟨fun K => ga K "need_two", "need_two", "need_two", s_need_two, []⟩
abbrev s_above : Stmt := top 67
def d_above : Df := ⟨fun K => ga K "above", "above", "above", s_above, []⟩
abbrev s_never_above : Stmt := top 68
def d_never_above : Df := ⟨fun K => ga K "never_above", "never_above", "never_above", s_never_above, []⟩
abbrev s_alike : Stmt := top 69
def d_alike : Df := ⟨fun K => ga K "alike", "alike", "alike", s_alike, []⟩
abbrev s_need_stocks : Stmt := top 70
def d_need_stocks : Df := ⟨fun K => ga K "need_stocks", "need_stocks", "need_stocks", s_need_stocks, []⟩
abbrev s_lateness : Stmt := top 71
def d_lateness : Df := ⟨fun K => ga K "lateness", "lateness", "lateness", s_lateness, []⟩
abbrev s_law_pen : Stmt := top 73
def d_law_pen : Df := ⟨fun K => ga K "_law_pen", "_law_pen", "_law_pen", s_law_pen, []⟩
abbrev s_law_draw : Stmt := top 74
def d_law_draw : Df := ⟨fun K => ga K "_law_draw", "_law_draw", "_law_draw", s_law_draw, []⟩
abbrev s_law_pick : Stmt := top 75
def d_law_pick : Df := ⟨fun K => ga K "_law_pick", "_law_pick", "_law_pick", s_law_pick, []⟩
abbrev s_law_takes : Stmt := top 76
def d_law_takes : Df := ⟨fun K => ga K "_law_takes", "_law_takes", "_law_takes", s_law_takes, []⟩
abbrev s_law_plain : Stmt := top 77
def d_law_plain : Df := ⟨fun K => ga K "_law_plain", "_law_plain", "_law_plain", s_law_plain, []⟩
abbrev s_law_table : Stmt := top 78
def d_law_table : Df := ⟨fun K => ga K "_law_table", "_law_table", "_law_table", s_law_table, []⟩
abbrev s_law_scaled_right : Stmt := top 80
def d_law_scaled_right : Df := ⟨fun K => ga K "_law_scaled_right", "_law_scaled_right", "_law_scaled_right", s_law_scaled_right, []⟩
abbrev s_law_moved_right : Stmt := top 81
def d_law_moved_right : Df := ⟨fun K => ga K "_law_moved_right", "_law_moved_right", "_law_moved_right", s_law_moved_right, []⟩
abbrev s_law_renamed : Stmt := top 82
def d_law_renamed : Df := ⟨fun K => ga K "_law_renamed", "_law_renamed", "_law_renamed", s_law_renamed, []⟩
abbrev s_law_joined_right : Stmt := top 83
def d_law_joined_right : Df := ⟨fun K => ga K "_law_joined_right", "_law_joined_right", "_law_joined_right", s_law_joined_right, []⟩
abbrev s_law : Stmt := top 84
def d_law : Df := ⟨fun K => ga K "law", "law", "law", s_law, []⟩
abbrev s_Day_init : Stmt := inClass (top 33) 1
def d_Day_init : Df := ⟨fun K => ma K (ga K "Day") "__init__", "__init__", "Day.__init__", s_Day_init, []⟩
abbrev s_Day_eq : Stmt := inClass (top 33) 8
def d_Day_eq : Df := ⟨fun K => ma K (ga K "Day") "__eq__", "__eq__", "Day.__eq__", s_Day_eq, []⟩
abbrev s_Trip_init : Stmt := inClass (top 37) 1
def d_Trip_init : Df := ⟨fun K => ma K (ga K "Trip") "__init__", "__init__", "Trip.__init__", s_Trip_init, []⟩
abbrev s_Run_init : Stmt := inClass (top 39) 1
def d_Run_init : Df := ⟨fun K => ma K (ga K "Run") "__init__", "__init__", "Run.__init__", s_Run_init, ["__class__"]⟩
abbrev s_Run_timed : Stmt := inClass (top 39) 2
def d_Run_timed : Df := ⟨fun K => ma K (ga K "Run") "timed", "timed", "Run.timed", s_Run_timed, []⟩
abbrev s_Stay_init : Stmt := inClass (top 40) 1
def d_Stay_init : Df := ⟨fun K => ma K (ga K "Stay") "__init__", "__init__", "Stay.__init__", s_Stay_init, ["__class__"]⟩
abbrev s_Stay_timed : Stmt := inClass (top 40) 2
def d_Stay_timed : Df := ⟨fun K => ma K (ga K "Stay") "timed", "timed", "Stay.timed", s_Stay_timed, []⟩
abbrev s_Table_init : Stmt := inClass (top 50) 0
def d_Table_init : Df := ⟨fun K => ma K (ga K "Table") "__init__", "__init__", "Table.__init__", s_Table_init, []⟩
abbrev s_Table_of : Stmt := inClass (top 50) 1
def d_Table_of : Df := ⟨fun K => sa K (ga K "Table") "of", "of", "Table.of", s_Table_of, []⟩
abbrev s_Table_need_names : Stmt := inClass (top 50) 4
def d_Table_need_names : Df := ⟨fun K => ma K (ga K "Table") "need_names", "need_names", "Table.need_names", s_Table_need_names, []⟩
abbrev s_Table_moved : Stmt := inClass (top 50) 6
def d_Table_moved : Df := ⟨fun K => ma K (ga K "Table") "moved", "moved", "Table.moved", s_Table_moved, []⟩
abbrev s_Table_scaled : Stmt := inClass (top 50) 7
def d_Table_scaled : Df := ⟨fun K => ma K (ga K "Table") "scaled", "scaled", "Table.scaled", s_Table_scaled, []⟩
abbrev s_Table_iter : Stmt := inClass (top 50) 10
def d_Table_iter : Df := ⟨fun K => ma K (ga K "Table") "__iter__", "__iter__", "Table.__iter__", s_Table_iter, []⟩
abbrev s_Table_add : Stmt := inClass (top 50) 12
def d_Table_add : Df := ⟨fun K => ma K (ga K "Table") "__add__", "__add__", "Table.__add__", s_Table_add, []⟩
abbrev s_Pauses_init : Stmt := inClass (top 52) 0
def d_Pauses_init : Df := ⟨fun K => ma K (ga K "Pauses") "__init__", "__init__", "Pauses.__init__", s_Pauses_init, []⟩
abbrev s_Pauses_of : Stmt := inClass (top 52) 1
def d_Pauses_of : Df := ⟨fun K => sa K (ga K "Pauses") "of", "of", "Pauses.of", s_Pauses_of, []⟩
abbrev s_Pauses_getitem : Stmt := inClass (top 52) 6
def d_Pauses_getitem : Df := ⟨fun K => ma K (ga K "Pauses") "__getitem__", "__getitem__", "Pauses.__getitem__", s_Pauses_getitem, []⟩
abbrev s_Stair_init : Stmt := inClass (top 60) 0
def d_Stair_init : Df := ⟨fun K => ma K (ga K "Stair") "__init__", "__init__", "Stair.__init__", s_Stair_init, []⟩
abbrev s_Stair_call : Stmt := inClass (top 60) 1
def d_Stair_call : Df := ⟨fun K => ma K (ga K "Stair") "__call__", "__call__", "Stair.__call__", s_Stair_call, []⟩
abbrev s_Stair_longest_pause : Stmt := inClass (top 60) 2
def d_Stair_longest_pause : Df := ⟨fun K => ma K (ga K "Stair") "longest_pause", "longest_pause", "Stair.longest_pause", s_Stair_longest_pause, []⟩
abbrev s_Stair_need_like : Stmt := inClass (top 60) 3
def d_Stair_need_like : Df := ⟨fun K => ma K (ga K "Stair") "need_like", "need_like", "Stair.need_like", s_Stair_need_like, []⟩
abbrev s_Stair_over : Stmt := inClass (top 60) 4
def d_Stair_over : Df := ⟨fun K => ma K (ga K "Stair") "over", "over", "Stair.over", s_Stair_over, []⟩
abbrev s_Stair_sub : Stmt := inClass (top 60) 5
def d_Stair_sub : Df := ⟨fun K => ma K (ga K "Stair") "__sub__", "__sub__", "Stair.__sub__", s_Stair_sub, []⟩
abbrev s_Stair_eq : Stmt := inClass (top 60) 7
def d_Stair_eq : Df := ⟨fun K => ma K (ga K "Stair") "__eq__", "__eq__", "Stair.__eq__", s_Stair_eq, []⟩
abbrev s_Above_init : Stmt := inClass (top 61) 0
def d_Above_init : Df := ⟨fun K => ma K (ga K "Above") "__init__", "__init__", "Above.__init__", s_Above_init, []⟩
abbrev s_Place_init : Stmt := inClass (top 63) 0
def d_Place_init : Df := ⟨fun K => ma K (ga K "Place") "__init__", "__init__", "Place.__init__", s_Place_init, []⟩
abbrev s_Place_came_by : Stmt := inClass (top 63) 1
def d_Place_came_by : Df := ⟨fun K => ma K (ga K "Place") "came_by", "came_by", "Place.came_by", s_Place_came_by, []⟩
abbrev s_Place_wanted : Stmt := inClass (top 63) 2
def d_Place_wanted : Df := ⟨fun K => ma K (ga K "Place") "wanted", "wanted", "Place.wanted", s_Place_wanted, []⟩
abbrev s_Place_stock : Stmt := inClass (top 63) 3
def d_Place_stock : Df := ⟨fun K => ma K (ga K "Place") "stock", "stock", "Place.stock", s_Place_stock, []⟩
abbrev s_Place_spots : Stmt := inClass (top 63) 4
def d_Place_spots : Df := ⟨fun K => ma K (ga K "Place") "spots", "spots", "Place.spots", s_Place_spots, []⟩
def fn0 : List Df := [d_is_integer, d_is_between, d_is_number, d_is_name, d_is_row, d_need_all_trips, d_places_of, d_need_few, d_unbalanced, d_need_names_alone, d_need_table, d_needed_pauses]
def fn1 : List Df := [d_need_place, d_under, d_stair_of, d_stair, d_need_two, d_above, d_never_above, d_alike, d_need_stocks, d_lateness, d_law_pen, d_law_draw]
def fn2 : List Df := [d_law_pick, d_law_takes, d_law_plain, d_law_table, d_law_scaled_right, d_law_moved_right, d_law_renamed, d_law_joined_right, d_law, d_Day_init, d_Day_eq, d_Trip_init]
def fn3 : List Df := [d_Run_init, d_Run_timed, d_Stay_init, d_Stay_timed, d_Table_init, d_Table_of, d_Table_need_names, d_Table_moved, d_Table_scaled, d_Table_iter, d_Table_add, d_Pauses_init]
def fn4 : List Df := [d_Pauses_of, d_Pauses_getitem, d_Stair_init, d_Stair_call, d_Stair_longest_pause, d_Stair_need_like, d_Stair_over, d_Stair_sub, d_Stair_eq, d_Above_init, d_Place_init, d_Place_came_by]
def fn5 : List Df := [d_Place_wanted, d_Place_stock, d_Place_spots]
def fn : List Df := fn0 ++ fn1 ++ fn2 ++ fn3 ++ fn4 ++ fn5
def fa0 : List (PySem.W.Frag → Bool) := [fun K => (He.Fa.glo "is_integer").ok K, fun K => (He.Fa.glo "is_between").ok K, fun K => (He.Fa.glo "is_number").ok K, fun K => (He.Fa.glo "is_name").ok K, fun K => (He.Fa.glo "is_row").ok K, fun K => (He.Fa.glo "need_all_trips").ok K, fun K => (He.Fa.glo "places_of").ok K, fun K => (He.Fa.glo "need_few").ok K, fun K => (He.Fa.glo "unbalanced").ok K, fun K => (He.Fa.glo "need_names_alone").ok K, fun K => (He.Fa.glo "need_table").ok K, fun K => (He.Fa.glo "needed_pauses").ok K, fun K => (He.Fa.glo "need_place").ok K, fun K => (He.Fa.glo "under").ok K, fun K => (He.Fa.glo "stair_of").ok K]
def fa1 : List (PySem.W.Frag → Bool) := [fun K => (He.Fa.glo "stair").ok K, fun K => (He.Fa.glo "need_two").ok K, fun K => (He.Fa.glo "above").ok K, fun K => (He.Fa.glo "never_above").ok K, fun K => (He.Fa.glo "alike").ok K, fun K => (He.Fa.glo "need_stocks").ok K, fun K => (He.Fa.glo "lateness").ok K, fun K => (He.Fa.glo "_law_pen").ok K, fun K => (He.Fa.glo "_law_draw").ok K, fun K => (He.Fa.glo "_law_pick").ok K, fun K => (He.Fa.glo "_law_takes").ok K, fun K => (He.Fa.glo "_law_plain").ok K, fun K => (He.Fa.glo "_law_table").ok K, fun K => (He.Fa.glo "_law_scaled_right").ok K, fun K => (He.Fa.glo "_law_moved_right").ok K]
def fa2 : List (PySem.W.Frag → Bool) := [fun K => (He.Fa.glo "_law_renamed").ok K, fun K => (He.Fa.glo "_law_joined_right").ok K, fun K => (He.Fa.glo "law").ok K, fun K => (He.Fa.glo "Day").ok K, fun K => (He.Fa.glo "Trip").ok K, fun K => (He.Fa.glo "Paused").ok K, fun K => (He.Fa.glo "Run").ok K, fun K => (He.Fa.glo "Stay").ok K, fun K => (He.Fa.glo "Table").ok K, fun K => (He.Fa.glo "Pauses").ok K, fun K => (He.Fa.glo "Stair").ok K, fun K => (He.Fa.glo "Above").ok K, fun K => (He.Fa.glo "Place").ok K, fun K => (He.Fa.free "isinstance").ok K, fun K => (He.Fa.free "int").ok K]
def fa3 : List (PySem.W.Frag → Bool) := [fun K => (He.Fa.free "bool").ok K, fun K => (He.Fa.free "abs").ok K, fun K => (He.Fa.free "len").ok K, fun K => (He.Fa.free "str").ok K, fun K => (He.Fa.free "all").ok K, fun K => (He.Fa.free "list").ok K, fun K => (He.Fa.free "tuple").ok K, fun K => (He.Fa.free "sorted").ok K, fun K => (He.Fa.free "set").ok K, fun K => (He.Fa.free "sum").ok K, fun K => (He.Fa.free "max").ok K, fun K => (He.Fa.free "enumerate").ok K, fun K => (He.Fa.free "range").ok K, fun K => (He.Fa.free "dict").ok K, fun K => (He.Fa.free "repr").ok K]
def fa4 : List (PySem.W.Frag → Bool) := [fun K => (He.Fa.free "iter").ok K, fun K => (He.Fa.free "super").ok K, fun K => (He.Fa.int "MOST_NUMBER" 1000000000000).ok K, fun K => (He.Fa.int "MOST_LENGTH" 1000000000000).ok K, fun K => (He.Fa.int "MOST_TRIPS" 40).ok K, fun K => (He.Fa.int "MOST_PLACES" 8).ok K, fun K => (He.Fa.str "LETTERS" "abcdefghijklmnopqrstuvwxyz").ok K, fun K => (He.Fa.cls "Day").ok K, fun K => (He.Fa.noat "Day" "length").ok K, fun K => (He.Fa.cls "Run").ok K, fun K => (He.Fa.noat "Run" "name").ok K, fun K => (He.Fa.noat "Run" "start").ok K, fun K => (He.Fa.noat "Run" "leaves").ok K, fun K => (He.Fa.noat "Run" "takes").ok K, fun K => (He.Fa.noat "Run" "goal").ok K]
def fa5 : List (PySem.W.Frag → Bool) := [fun K => (He.Fa.cls "Stay").ok K, fun K => (He.Fa.noat "Stay" "name").ok K, fun K => (He.Fa.noat "Stay" "start").ok K, fun K => (He.Fa.noat "Stay" "leaves").ok K, fun K => (He.Fa.noat "Stay" "takes").ok K, fun K => (He.Fa.noat "Stay" "goal").ok K, fun K => (He.Fa.cls "Table").ok K, fun K => (He.Fa.noat "Table" "day").ok K, fun K => (He.Fa.noat "Table" "names").ok K, fun K => (He.Fa.noat "Table" "places").ok K, fun K => (He.Fa.noat "Table" "rows").ok K, fun K => (He.Fa.cls "Pauses").ok K, fun K => (He.Fa.noat "Pauses" "numbers").ok K, fun K => (He.Fa.noat "Pauses" "rows").ok K, fun K => (He.Fa.cls "Stair").ok K]
def fa6 : List (PySem.W.Frag → Bool) := [fun K => (He.Fa.noat "Stair" "length").ok K, fun K => (He.Fa.noat "Stair" "base").ok K, fun K => (He.Fa.noat "Stair" "rises").ok K, fun K => (He.Fa.noat "Stair" "step").ok K, fun K => (He.Fa.cls "Above").ok K, fun K => (He.Fa.noat "Above" "number").ok K, fun K => (He.Fa.noat "Above" "pauses").ok K, fun K => (He.Fa.cls "Place").ok K, fun K => (He.Fa.noat "Place" "length").ok K, fun K => (He.Fa.noat "Place" "leavings").ok K, fun K => (He.Fa.noat "Place" "ends").ok K, fun K => (He.Fa.noat "Place" "comings").ok K, fun K => (He.Fa.meth "Table" "need_names").ok K, fun K => (He.Fa.meth "Table" "moved").ok K, fun K => (He.Fa.meth "Table" "scaled").ok K]
def fa7 : List (PySem.W.Frag → Bool) := [fun K => (He.Fa.meth "Run" "timed").ok K, fun K => (He.Fa.meth "Stay" "timed").ok K, fun K => (He.Fa.meth "Stair" "longest_pause").ok K, fun K => (He.Fa.meth "Stair" "need_like").ok K, fun K => (He.Fa.meth "Stair" "over").ok K, fun K => (He.Fa.meth "Place" "came_by").ok K, fun K => (He.Fa.meth "Place" "wanted").ok K, fun K => (He.Fa.meth "Place" "stock").ok K, fun K => (He.Fa.meth "Place" "spots").ok K, fun K => (He.Fa.mkr "Day").ok K, fun K => (He.Fa.mkr "Run").ok K, fun K => (He.Fa.mkr "Stay").ok K, fun K => (He.Fa.mkr "Table").ok K, fun K => (He.Fa.mkr "Pauses").ok K, fun K => (He.Fa.mkr "Stair").ok K]
def fa8 : List (PySem.W.Frag → Bool) := [fun K => (He.Fa.mkr "Above").ok K, fun K => (He.Fa.mkr "Place").ok K, fun K => decide (PySem.W.kitOne K (.ref (ga K "Run")) (.ref (ga K "Trip")) = some true), fun K => decide (PySem.W.kitOne K (.ref (ga K "Stay")) (.ref (ga K "Trip")) = some true), fun K => decide (PySem.W.kitOne K (.ref (ga K "Run")) (.ref (ga K "Paused")) = some true), fun K => decide (PySem.W.kitOne K (.ref (ga K "Stay")) (.ref (ga K "Paused")) = some false), fun K => staB K (ga K "Pauses") "of", fun K => staB K (ga K "Table") "of", fun K => eqO (PySem.W.findIn K (.ref (ga K "Day")) "__eq__") (some (some (.ref (ma K (ga K "Day") "__eq__")))), fun K => PySem.W.isFn K (.ref (ma K (ga K "Day") "__eq__")), fun K => PySem.W.fnIn K (ma K (ga K "Day") "__eq__"), fun K => eqO (PySem.W.findIn K (.ref (ga K "Table")) "__iter__") (some (some (.ref (ma K (ga K "Table") "__iter__")))), fun K => PySem.W.isFn K (.ref (ma K (ga K "Table") "__iter__")), fun K => PySem.W.fnIn K (ma K (ga K "Table") "__iter__"), fun K => eqO (PySem.W.findIn K (.ref (ga K "Table")) "__add__") (some (some (.ref (ma K (ga K "Table") "__add__"))))]
def fa9 : List (PySem.W.Frag → Bool) := [fun K => PySem.W.isFn K (.ref (ma K (ga K "Table") "__add__")), fun K => PySem.W.fnIn K (ma K (ga K "Table") "__add__"), fun K => eqO (PySem.W.findIn K (.ref (ga K "Pauses")) "__getitem__") (some (some (.ref (ma K (ga K "Pauses") "__getitem__")))), fun K => PySem.W.isFn K (.ref (ma K (ga K "Pauses") "__getitem__")), fun K => PySem.W.fnIn K (ma K (ga K "Pauses") "__getitem__"), fun K => eqO (PySem.W.findIn K (.ref (ga K "Stair")) "__call__") (some (some (.ref (ma K (ga K "Stair") "__call__")))), fun K => PySem.W.isFn K (.ref (ma K (ga K "Stair") "__call__")), fun K => PySem.W.fnIn K (ma K (ga K "Stair") "__call__"), fun K => eqO (PySem.W.findIn K (.ref (ga K "Stair")) "__sub__") (some (some (.ref (ma K (ga K "Stair") "__sub__")))), fun K => PySem.W.isFn K (.ref (ma K (ga K "Stair") "__sub__")), fun K => PySem.W.fnIn K (ma K (ga K "Stair") "__sub__"), fun K => eqO (PySem.W.findIn K (.ref (ga K "Stair")) "__eq__") (some (some (.ref (ma K (ga K "Stair") "__eq__")))), fun K => PySem.W.isFn K (.ref (ma K (ga K "Stair") "__eq__")), fun K => PySem.W.fnIn K (ma K (ga K "Stair") "__eq__"), fun K => PySem.W.selfFirst K (ga K "Table")]
def fa10 : List (PySem.W.Frag → Bool) := [fun K => PySem.W.selfFirst K (ga K "Stair"), fun K => eqO (PySem.W.findIn K (.ref (ga K "Day")) "__ne__") (some (some (.builtin "object.__ne__"))), fun K => decide (PySem.W.mroIn K (ga K "Day") (.type "object") = some true), fun K => supB "/claim/cut.py" K d_Run_init "Run", fun K => (PySem.W.clsIn K (ga K "Run")).isSome, fun K => eqO (PySem.W.ks_superIn K (ga K "Run") (ga K "Run") "__init__") (some (some (.ref (ma K (ga K "Trip") "__init__")))), fun K => decide (PySem.W.mroIn K (ga K "Run") (.ref (ga K "Run")) = some true), fun K => supB "/claim/cut.py" K d_Stay_init "Stay", fun K => (PySem.W.clsIn K (ga K "Stay")).isSome, fun K => eqO (PySem.W.ks_superIn K (ga K "Stay") (ga K "Stay") "__init__") (some (some (.ref (ma K (ga K "Trip") "__init__")))), fun K => decide (PySem.W.mroIn K (ga K "Stay") (.ref (ga K "Stay")) = some true), fun K => decide (PySem.W.typeIn K (.ref (ma K (ga K "Trip") "__init__")) = some (.type "function")), fun K => PySem.W.fnIn K (ma K (ga K "Trip") "__init__"), fun K => eqO (PySem.W.findIn K (.ref (ga K "Day")) "__class__") (some (some (.builtin "object.__class__"))), fun K => decide (PySem.W.mroIn K (ga K "Day") (.type "object") = some true)]
def fa11 : List (PySem.W.Frag → Bool) := [fun K => eqO (PySem.W.findIn K (.ref (ga K "Run")) "__class__") (some (some (.builtin "object.__class__"))), fun K => decide (PySem.W.mroIn K (ga K "Run") (.type "object") = some true), fun K => eqO (PySem.W.findIn K (.ref (ga K "Stay")) "__class__") (some (some (.builtin "object.__class__"))), fun K => decide (PySem.W.mroIn K (ga K "Stay") (.type "object") = some true), fun K => eqO (PySem.W.findIn K (.ref (ga K "Table")) "__class__") (some (some (.builtin "object.__class__"))), fun K => decide (PySem.W.mroIn K (ga K "Table") (.type "object") = some true), fun K => eqO (PySem.W.findIn K (.ref (ga K "Pauses")) "__class__") (some (some (.builtin "object.__class__"))), fun K => decide (PySem.W.mroIn K (ga K "Pauses") (.type "object") = some true), fun K => eqO (PySem.W.findIn K (.ref (ga K "Stair")) "__class__") (some (some (.builtin "object.__class__"))), fun K => decide (PySem.W.mroIn K (ga K "Stair") (.type "object") = some true), fun K => eqO (PySem.W.findIn K (.ref (ga K "Above")) "__class__") (some (some (.builtin "object.__class__"))), fun K => decide (PySem.W.mroIn K (ga K "Above") (.type "object") = some true), fun K => eqO (PySem.W.specialIn K (.builtin "object.__class__") "__get__") (some (some (.builtin "getset_descriptor.__get__"))), fun K => decide (PySem.W.takesIn K (.builtin "object.__class__") = some true), fun K => eqO (PySem.W.nsIn K cStatics "thirdparty.any") (some none)]
def fa : List (PySem.W.Frag → Bool) := fa0 ++ fa1 ++ fa2 ++ fa3 ++ fa4 ++ fa5 ++ fa6 ++ fa7 ++ fa8 ++ fa9 ++ fa10 ++ fa11
def fs0 : List Str := ["is_integer", "is_between", "is_number", "is_name", "is_row", "need_all_trips", "places_of", "need_few", "unbalanced", "need_names_alone", "need_table", "needed_pauses"]
def fs1 : List Str := ["need_place", "under", "stair_of", "stair", "need_two", "above", "never_above", "alike", "need_stocks", "lateness", "_law_pen", "_law_draw"]
def fs2 : List Str := ["_law_pick", "_law_takes", "_law_plain", "_law_table", "_law_scaled_right", "_law_moved_right", "_law_renamed", "_law_joined_right", "law"]
def fs : List Str := fs0 ++ fs1 ++ fs2
def cs : List (Str × List Str) := [("Day", ["__init__", "__eq__"]), ("Trip", ["__init__"]), ("Run", ["__init__", "timed"]), ("Stay", ["__init__", "timed"]), ("Table", ["__init__", "of", "need_names", "moved", "scaled", "__iter__", "__add__"]), ("Pauses", ["__init__", "of", "__getitem__"]), ("Stair", ["__init__", "__call__", "longest_pause", "need_like", "over", "__sub__", "__eq__"]), ("Above", ["__init__"]), ("Place", ["__init__", "came_by", "wanted", "stock", "spots"]), ("Paused", [])]
end K6
set_option Elab.async false
set_option linter.all false
set_option maxRecDepth 100000
set_option maxHeartbeats 0
namespace K6
open PySem PySem.W PySem.Calls PyProof.Rows
abbrev R : OpenRow := OpenLaw.row PySem.Challenge.rw_onelongturn_k60_whole_stairs_of_great_an
abbrev qv : Program := view R.prog [84]
def names0 : List PySem.Str := ["_wall", "__name__", "MOST_NUMBER", "LETTERS", "is_integer", "is_between", "is_number", "is_moment", "is_name", "is_row", "number_in", "TurnError", "BadInput", "Refused", "BadDay"]
def names1 : List PySem.Str := ["BadName", "BadNumber", "BadTrip", "BadTable", "BadPauses", "BadAsk", "BadText", "NoTrip", "NoPlace", "Twice", "OutOfDay", "Unbalanced", "Unlike", "TooMany", "MOST_LENGTH"]
def names2 : List PySem.Str := ["long_by", "Day", "Words", "Trip", "Paused", "Run", "Stay", "trip_in", "in_order", "MOST_TRIPS", "MOST_PLACES", "need_all_trips", "places_of", "need_few", "unbalanced"]
def names3 : List PySem.Str := ["Table", "need_names_alone", "Pauses", "need_table", "needed_pauses", "need_place", "under", "Stair", "Above", "Endless", "Place", "stair_of", "stair", "need_two", "above"]
def names4 : List PySem.Str := ["never_above", "alike", "need_stocks", "lateness", "_law_pen", "_law_draw", "_law_pick", "_law_takes", "_law_plain", "_law_table", "_law_places", "_law_scaled_right", "_law_moved_right", "_law_renamed", "_law_joined_right"]
def names : List PySem.Str := names0 ++ names1 ++ names2 ++ names3 ++ names4
abbrev hk : Hook := hookX fs cs fa (fn : List Df)
def ob (s : SharedT) : AlX := obsXG fs cs fa (fn : List Df) (HandSHeadRun.getT s)
theorem ob_eq (s : SharedT) : ob s = hk.obs s.abs := obsXG_eq (HandSHeadRun.getT_eq s)
theorem run (w : World) : HandSHeadRun.RunEq R qv hk ob 12000 names w := by
  intro os
  kernel_rfl
end K6
set_option Elab.async false
set_option linter.all false
set_option maxRecDepth 100000
set_option maxHeartbeats 8000000
namespace K6
open PySem PySem.Spec PyProof.Rows L2

/-! ### sets of ints and texts, made of a list, sorted -/
def keyM (e : Int × Value) : Key := match e.2 with
  | .int k _ => .inl k
  | .str x _ => .inr x
  | _ => .inl 0
def GoodM (w : World) (e : Int × Value) : Prop := ∃ k, keyIs k e.2 = true ∧ e.1 = keyH w k
theorem keyM_of {w : World} {e : Int × Value} {k : Key} (h : keyIs k e.2 = true) : keyM e = k := by
  rcases keyIs_shape h with ⟨i, t, rfl, e1⟩ | ⟨y, t, rfl, e1⟩
  · unfold keyM
    rw [e1]
  · unfold keyM
    rw [e1]
theorem key_scans {e : Int × Value} {k : Key} (h : keyIs k e.2 = true) : e.2.scannable = true := by
  rcases keyIs_shape h with ⟨i, t, rfl, e1⟩ | ⟨y, t, rfl, e1⟩ <;> rw [e1] <;> rfl
/-- the set at a: S its members, n their number; its table can be walked -/
def SetM (w : World) (h : Heap) (a : Addr) (S : Key → Bool) (n : Nat) : Prop :=
  ∃ o es ep t, h.get? a = some o ∧ o.ExactSet ∧ o.data = .set es ep t ∧ ((∀ e ∈ es.toList, GoodM w e) ∧ (es.toList.map keyM).Nodup ∧ (∀ k, S k = true ↔ k ∈ es.toList.map keyM)) ∧
    (es.size < scanBound ∧ t.fits es.size = true ∧ es.size = n ∧ Ris t.place.toList ∧ (w.params.followText "set-order" = true ∨ t.led = true))
section
variable {P : Program} {w : World} {h h' : Heap} {a : Addr} {S : Key → Bool} {n : Nat}
theorem SetM.at (R : SetM w h a S n) (k : ∀ o, h.get? a = some o → h'.get? a = some o) : SetM w h' a S n :=
  let ⟨o, es, ep, t, ho, r⟩ := R
  ⟨o, es, ep, t, k o ho, r⟩
theorem SetM.lt (R : SetM w h a S n) : a < h.objs.size := let ⟨_, _, _, _, ho, _⟩ := R; Heap.lt_size ho
theorem SetM.congr {S' : Key → Bool} (R : SetM w h a S n) (e : ∀ k, S' k = S k) : SetM w h a S' n := by
  obtain rfl : S' = S := funext e
  exact R
theorem goodM_elems {l : List (Int × Value)} (g : ∀ e ∈ l, GoodM w e) : ElemsOf (mixKind P w) l := fun e he =>
  let ⟨k, h1, h2⟩ := g e he
  ⟨⟨k, h1, h2⟩, key_scans h1⟩
theorem goodM_is {e : Int × Value} (g : GoodM w e) (k : Key) : (mixKind P w).is k e.2 = true ↔ keyM e = k := by
  obtain ⟨k0, h1, _⟩ := g
  constructor
  · intro q
    exact keyM_of (w := w) (show keyIs k e.2 = true from q)
  · intro q
    rw [keyM_of (w := w) h1] at q
    rw [← q]
    exact h1
theorem goodM_mem {l : List (Int × Value)} (g : ∀ e ∈ l, GoodM w e) (k : Key) : k ∈ l.map keyM ↔ ∃ e ∈ l, (mixKind P w).is k e.2 = true := by
  rw [List.mem_map]
  exact ⟨fun ⟨e, he, q⟩ => ⟨e, he, (goodM_is (g e he) k).2 q⟩, fun ⟨e, he, q⟩ => ⟨e, he, (goodM_is (g e he) k).1 q⟩⟩
end
section
variable {P : Program} {w : World} {A : Around} {E : Value → Shared → Prop} {s : Shared} {a : Addr} {S : Key → Bool} {n : Nat}
/-- the new element lies in the table, which may be laid anew -/
theorem setM_tail {g : Bool → Sem Unit} (hg : ∀ (b : Bool) (s₁ : Shared) (Q' : Unit → Shared → Prop), Q' () s₁ → wpAny (model P w) A (g b) Q' E s₁)
    {o : Obj} {es : Array (Int × Value)} {ep : Nat} {t : SetTable} (ho : s.heap.get? a = some o) (hex : o.ExactSet) (hd : o.data = .set es ep t)
    {es1 : Array (Int × Value)} {t2 : SetTable} {S' : Key → Bool} (g1 : ∀ e ∈ es1.toList, GoodM w e) (nd1 : (es1.toList.map keyM).Nodup) (m1 : ∀ k, S' k = true ↔ k ∈ es1.toList.map keyM)
    (hb1 : es1.size < scanBound) (hf2 : t2.fits es1.size = true) (hr : Ris t2.place.toList) (hl : w.params.followText "set-order" = true ∨ t2.led = true) {wasDummy : Bool} {R : Option Bool → Shared → Prop}
    (hR : ∀ h', Heap.SameBut a s.heap h' → SetM w h' a S' es1.size → R (some true) { s with heap := h' }) :
    wpAny (model P w) A (do
        storeSet a es1 t2
        if (!wasDummy && t2.tooFull) = true then do
            g (relayAll t2 es1 (SetTable.grown es1.size)).2.2
            storeSet a (relayAll t2 es1 (SetTable.grown es1.size)).1 (relayAll t2 es1 (SetTable.grown es1.size)).2.1
            pure (some true)
          else pure (some true)) R E s := by
  refine wpAny_bind (wpAny_storeSet_of ho hd ?_ (fits_of_scanBound hb1))
  have ho1 := store_at (es' := es1) (t' := t2) ho hd
  have sb1 := Heap.SameBut.update s.heap a (Obj.putSet es1 t2)
  by_cases hfull : (!wasDummy && t2.tooFull) = true
  · rw [if_pos hfull]
    obtain ⟨es2, t3, gave, hz⟩ : ∃ es2 t3 gave, relayAll t2 es1 (SetTable.grown es1.size) = (es2, t3, gave) := ⟨_, _, _, rfl⟩
    have pm := relayAll_perm t2 es1 (SetTable.grown es1.size)
    have hf3 := relayAll_fits t2 es1 (SetTable.grown es1.size)
    have hr3 := relayAll_ris t2 es1 (SetTable.grown es1.size)
    have hl3 := relayAll_led t2 es1 (SetTable.grown es1.size)
    rw [hz] at pm hf3 hr3 hl3 ⊢
    have hsz : es2.size = es1.size := by have q := pm.length_eq; simpa using q
    have hb2 : es2.size < scanBound := by rw [hsz]; exact hb1
    refine wpAny_bind (hg _ _ _ (wpAny_bind (wpAny_storeSet_of ho1 rfl ?_ (fits_of_scanBound hb2))))
    have ho2 := store_at (es' := es2) (t' := t3) ho1 rfl
    exact wpAny_pure (hR _ (sb1.trans (Heap.SameBut.update _ a _)) ⟨_, es2, _, t3, ho2, hex, rfl, ⟨fun e he => g1 e (pm.mem_iff.mp he), (pm.map keyM).nodup_iff.mpr nd1, fun k => (m1 k).trans (pm.map keyM).mem_iff.symm⟩,
      hb2, hf3, hsz, hr3, hl.imp id fun z => hl3.trans z⟩)
  · rw [if_neg hfull]
    exact wpAny_pure (hR _ sb1 ⟨_, es1, _, t2, ho1, hex, rfl, ⟨g1, nd1, m1⟩, hb1, hf2, rfl, hr, hl⟩)
theorem setM_add {k : Key} {x : Value} {Q : Bool → Shared → Prop} (hkey : keyIs k x = true) (R : SetM w s.heap a S n) (room : n + 1 < scanBound)
    (hQ : ∀ h', Heap.SameBut a s.heap h' → SetM w h' a (fun j => S j || decide (j = k)) (if S k = true then n else n + 1) → Q (!S k) { s with heap := h' }) :
    wpAny (model P w) A (setAddHashed a x ((mixKind P w).hash k)) Q E s := by
  obtain ⟨o, es, ep, t, ho, hex, hd, ⟨g, nd, hm⟩, hb, hf, hn, hr, hl⟩ := R
  have hsc : x.scannable = true := key_scans (e := (0, x)) hkey
  have hel : ElemsOf (mixKind P w) es.toList := goodM_elems g
  have hkey' : (mixKind P w).is k x = true := hkey
  unfold setAddHashed setAddHashedIn
  refine wpAny_holding (wpAny_bind (wpAny_setState_of ho hd hf ?_))
  dsimp only
  rw [byScan_of hsc hb hel]
  simp only [↓reduceIte]
  unfold setAddByScan
  refine wpAny_bind (wpAny_bind (wpAny_rule (wpAny_bind (wpAny_setScan_of hkey' ho hd hf hel ?_))))
  cases hfi : List.findIdx? (fun e => (mixKind P w).is k e.2) es.toList with
  | some j =>
    dsimp only
    obtain ⟨hj, pj, _⟩ := List.findIdx?_eq_some_iff_getElem.mp hfi
    have hSk : S k = true := (hm k).2 ((goodM_mem (P := P) g k).2 ⟨es.toList[j], List.getElem_mem hj, pj⟩)
    have q := hQ s.heap (Heap.SameBut.refl a s.heap) ⟨o, es, ep, t, ho, hex, hd, ⟨g, nd, fun i => by
      rw [Bool.or_eq_true, decide_eq_true_eq, ← hm i]
      exact ⟨fun z => z.elim id fun e => by rw [e]; exact hSk, .inl⟩⟩, hb, hf, by rw [if_pos hSk]; exact hn, hr, hl⟩
    rw [hSk] at q
    exact wpAny_pure (wpAny_pure q)
  | none =>
    dsimp only
    have hnk : k ∉ es.toList.map keyM := fun z => by
      obtain ⟨e, he, q⟩ := (goodM_mem (P := P) g k).1 z
      rw [List.findIdx?_eq_none_iff.mp hfi e he] at q
      cases q
    have hSk : S k = false := Bool.eq_false_iff.mpr fun q => hnk ((hm k).1 q)
    obtain ⟨es1, t1, wasDummy, gave, hz⟩ : ∃ es1 t1 wd gv, layNew t es ((mixKind P w).hash k) x = (es1, t1, wd, gv) := ⟨_, _, _, _, rfl⟩
    have pm := layNew_perm t es ((mixKind P w).hash k) x
    have hf1 := layNew_fits t es ((mixKind P w).hash k) x
    have hr1 := layNew_ris t es ((mixKind P w).hash k) x hr
    have hl1 := layNew_led t es ((mixKind P w).hash k) x
    rw [hz] at pm hf1 hr1 hl1 ⊢
    dsimp only at pm hf1 hr1 hl1 ⊢
    rw [Array.toList_push] at pm
    have pc : es1.toList.Perm (((mixKind P w).hash k, x) :: es.toList) := pm.trans (List.perm_append_singleton _ _)
    have pk : (es1.toList.map keyM).Perm (k :: es.toList.map keyM) := by
      have q := pc.map keyM
      rw [List.map_cons, show keyM ((mixKind P w).hash k, x) = k from keyM_of (w := w) (e := ((mixKind P w).hash k, x)) hkey] at q
      exact q
    have g1 : ∀ e ∈ es1.toList, GoodM w e := fun e he => by
      rcases List.mem_cons.mp (pc.mem_iff.mp he) with z | z
      · rw [z]; exact ⟨k, hkey, rfl⟩
      · exact g e z
    have nd1 : (es1.toList.map keyM).Nodup := pk.nodup_iff.mpr (List.nodup_cons.mpr ⟨hnk, nd⟩)
    have m1 : ∀ i, (S i || decide (i = k)) = true ↔ i ∈ es1.toList.map keyM := fun i => by
      rw [Bool.or_eq_true, decide_eq_true_eq, hm i, pk.mem_iff, List.mem_cons]
      exact Or.comm
    have hsz : es1.size = n + 1 := by
      have q := pc.length_eq
      simp only [Array.length_toList, List.length_cons] at q
      omega
    have hb1 : es1.size < scanBound := by rw [hsz]; exact room
    have hled : w.params.followText "set-order" = true ∨ t1.led = true := hl.imp id fun z => hl1.trans z
    have fin : ∀ h', Heap.SameBut a s.heap h' → SetM w h' a (fun j => S j || decide (j = k)) es1.size → Q true { s with heap := h' } := fun h' sb r => by
      have q := hQ h' sb
      rw [hSk] at q
      rw [hsz] at r
      exact q r
    have gw : ∀ (b : Bool) (s₁ : Shared) (Q' : Unit → Shared → Prop), Q' () s₁ → wpAny (model P w) A (match b with | true => rule "set.scan.the-table-gave-way" | false => pure ()) Q' E s₁ :=
      fun b s₁ Q' q => by cases b <;> first | exact wpAny_pure q | exact wpAny_rule q
    refine wpAny_bind (gw _ _ _ ?_)
    split
    · refine wpAny_bind ?_
      rw [hashByValue_scannable 8 hsc]
      refine wpAny_pure ?_
      refine setM_tail ?_ ho hex hd g1 nd1 m1 hb1 ?_ ?_ ?_ (fun h' sb r => by dsimp only; exact wpAny_pure (fin h' sb r))
      · intro b s₁ Q' q; cases b <;> first | exact wpAny_pure q | exact wpAny_rule q
      · first | (split <;> first | exact hf1 | exact SetTable.fits_plain_off hf1) | exact hf1
      · first | (split <;> exact hr1) | exact hr1
      · first | (split <;> exact hled) | exact hled
    · refine wpAny_bind (wpAny_pure ?_)
      simp only [↓reduceIte]
      refine setM_tail ?_ ho hex hd g1 nd1 m1 hb1 hf1 hr1 hled (fun h' sb r => by dsimp only; exact wpAny_pure (fin h' sb r))
      intro b s₁ Q' q; cases b <;> first | exact wpAny_pure q | exact wpAny_rule q
theorem setM_new {h : Heap} {q : Addr} (ho : h.get? q = some { cls := .type "set", dict := none, data := .set #[] 0 (.fresh 0 0 (!w.params.followText "set-order")) }) : SetM w h q (fun _ => false) 0 :=
  ⟨_, #[], 0, _, ho, ⟨rfl, rfl, rfl⟩, rfl, ⟨(fun e he => by simp at he), (by simp), (fun k => by simp)⟩, (by decide), (by rfl), rfl, List.Pairwise.nil, by
    show _ ∨ (!w.params.followText "set-order") = true
    cases w.params.followText "set-order"
    · exact .inr rfl
    · exact .inl rfl⟩
end
end K6
set_option Elab.async false
set_option linter.all false
set_option maxRecDepth 100000
set_option maxHeartbeats 8000000
namespace K6
open PySem PySem.Spec PyProof.Rows L2

def memK (ks : List Key) (j : Key) : Bool := ks.any fun k => decide (j = k)
theorem memK_iff {ks : List Key} {j : Key} : memK ks j = true ↔ j ∈ ks := by
  unfold memK
  rw [List.any_eq_true]
  exact ⟨fun ⟨k, hk, e⟩ => by rw [of_decide_eq_true e]; exact hk, fun h => ⟨j, h, decide_eq_true rfl⟩⟩
section
variable {P : Program} {w : World} {A : Around} {E : Value → Shared → Prop} {s : Shared}
/-- the update loop over anything that is walked -/
theorem setM_loop {I : Addr} {fp wr : List Addr} {G : Array GenState → Array GenState → Prop} {n : Nat} {Pv : Nat → Value → Prop} {St : Nat → Shared → Prop} {R : Result → Shared → Prop}
    (W : WalksS P w A.in1 I fp wr G n Pv St) (T : Addr) (hSf : T ∉ fp) (ks : List Key) (hn : n = ks.length) (hb : ks.length + 1 < scanBound) (hval : ∀ i v, Pv i v → ∃ k, ks[i]? = some k ∧ keyIs k v = true) :
    ∀ (k i : Nat) (s : Shared), n - i = k → i ≤ n → St i s → (∃ c, c ≤ i ∧ SetM w s.heap T (memK (ks.take i)) c) →
      (∀ s' c, Moved (T :: wr) G s s' → c ≤ n → SetM w s'.heap T (memK ks) c → R (.ok (.ret .none)) s') →
      codeAny (model P w) A (.builtin "set.update.loop" ⟨[.ref T, .ref I], []⟩) R s := by
  have hSw : T ∉ wr := fun h => hSf (W.sub _ h)
  have hsub : ∀ b ∈ wr, b ∈ T :: wr := fun b hb => List.mem_cons_of_mem _ hb
  intro k
  induction k with
  | zero =>
    intro i s hk' hi hst ⟨c, hc, hS⟩ hR
    obtain rfl : i = n := by omega
    refine codeAny_builtin PyProof.Rows.F.entry_set_update_loop ?_
    rw [Around.under_plainId PyProof.Rows.F.plain_set_update_loop _]
    show wpAny _ A.in1 (pyNext (.ref I) >>= _) _ _ s
    refine wpAny_bind (W.done s _ _ hst fun s' hm => ?_)
    have hS2 := hS.at fun o e => hm.heap T o hSw e
    rw [List.take_of_length_le (by omega)] at hS2
    show wpAny _ A.in1 (ret Value.none) _ _ s'
    exact wpAny_pure (hR s' c (hm.mono hsub) hc hS2)
  | succ k ih =>
    intro i s hk' hi hst ⟨c, hc, hS⟩ hR
    have hlt : i < n := by omega
    refine codeAny_builtin PyProof.Rows.F.entry_set_update_loop ?_
    rw [Around.under_plainId PyProof.Rows.F.plain_set_update_loop _]
    show wpAny _ A.in1 (pyNext (.ref I) >>= _) _ _ s
    refine wpAny_bind (W.item i s _ _ hlt hst fun v s' hP hst' hm => ?_)
    obtain ⟨z, hz, hkv⟩ := hval i v hP
    have hS' : SetM w s'.heap T (memK (ks.take i)) c := hS.at fun o e => hm.heap T o hSw e
    show wpAny _ A.in1 (holding [v] (setAdd T v) >>= _) _ _ s'
    refine wpAny_bind (wpAny_holding ?_)
    unfold setAdd
    refine wpAny_holding ?_
    refine wpAny_bind ((mixKind P w).pyHash (k := z) hkv ?_)
    refine setM_add (s := { s' with toks := s'.toks + 1 }) hkv hS' (by omega) fun h' hsb hS2 => ?_
    have hS3 : SetM w h' T (memK (ks.take (i + 1))) (if memK (ks.take i) z = true then c else c + 1) := hS2.congr fun j => by
      unfold memK
      rw [List.take_add_one, hz]
      simp [List.any_append]
    have hc3 : (if memK (ks.take i) z = true then c else c + 1) ≤ i + 1 := by
      split <;> omega
    have still : ∀ b o, b ≠ T → s'.heap.get? b = some o → h'.get? b = some o := fun b o hb e => (hsb.2 b hb).trans e
    refine wpAny_pure ⟨plainId_quiet PyProof.Rows.F.plain_set_update_loop _, ih (i + 1) _ (by omega) hlt (W.frame _ s' _ _ hst' (Nat.le_succ _) fun b hb o e => still b o (fun z => hSf (z ▸ hb)) e) ⟨_, hc3, hS3⟩ fun s'' c2 hm'' hc'' hS'' => ?_⟩
    exact hR s'' c2 (Moved.trans W.gtrans ((hm.mono hsub).then_heap (Nat.le_succ _) fun b o hb e => still b o (fun z => hb (by rw [z]; exact List.mem_cons_self)) e) hm'') hc'' hS''

/-- set(xs), xs a list of keys -/
theorem call_setM {l : Addr} {items : Array Value} (ks : List Key) {Q : Value → Shared → Prop} (hh : A.handled = none) (hl : s.heap.IsList l items) (hsz : items.size = ks.length) (hit : ∀ (i : Nat) v, items[i]? = some v → ∃ k, ks[i]? = some k ∧ keyIs k v = true) (hb : ks.length + 1 < scanBound)
    (h : ∀ (h' : Heap) (tk c : Nat), SetM w h' s.heap.objs.size (memK ks) c → c ≤ ks.length → (∀ b o, s.heap.get? b = some o → h'.get? b = some o) → Q (.ref s.heap.objs.size) { s with heap := h', toks := tk }) :
    wpAny (model P w) A (call (.type "set") [.ref l]) Q E s := by
  obtain ⟨c, tl, hmro⟩ := PySem.F.called_set.mro
  have hmade := PySem.F.called_set.made
  have hsub := PySem.F.called_set.sub
  refine wpAny_call (codeAny_of_tree ?_)
  show wpAny _ _ (callAny (.type "set") _) _ _ _
  refine wpAny_pure ⟨Code.quiet_builtin _ (by decide +kernel), codeAny_builtin PySem.F.entry_type_call ?_⟩
  rw [Around.under_plain (weight_type_call_type "set" [.ref l] []) rfl]
  have h1 := PySem.F.called_set.notType
  have h2 := PySem.F.called_set.canCreate
  have hct := PySem.F.typeCall_set_1 (.ref l)
  repeat (any_goals (first | assumption | wp_step))
  refine codeAny_mono (code_set_led1 (.ref l) (E := E) (Q₁ := fun obj s₁ => obj = .ref s.heap.objs.size ∧ s₁ = { s with heap := s.heap.push { cls := .type "set", dict := none, data := .set #[] 0 (.fresh 0 0 (!w.params.followText "set-order")) } }) ⟨rfl, rfl⟩) fun r s₁ hr => ?_
  cases r with
  | error e => exact hr
  | ok fl =>
    cases fl with
    | ret obj =>
      obtain ⟨rfl, rfl⟩ := hr
      have hS : (s.heap.push { cls := .type "set", dict := none, data := .set #[] 0 (.fresh 0 0 (!w.params.followText "set-order")) }).get? s.heap.objs.size = some { cls := .type "set", dict := none, data := .set #[] 0 (.fresh 0 0 (!w.params.followText "set-order")) } := Heap.get?_push_size _ rfl
      have hT : Shared.TypeIs { s with heap := s.heap.push { cls := .type "set", dict := none, data := .set #[] 0 (.fresh 0 0 (!w.params.followText "set-order")) } } (.ref s.heap.objs.size) "set" := ⟨_, hS, rfl⟩
      have hli := PySem.F.called_set.init.lookup
      have hbi := PySem.F.called_set.init.bind (.ref s.heap.objs.size)
      repeat (any_goals (first | assumption | wp_step))
      refine codeAny_mono (codeAny_call_builtin (R := wants (fun r s₂ => r = .none ∧ ∃ h' tk c, s₂ = { s with heap := h', toks := tk } ∧ SetM w h' s.heap.objs.size (memK ks) c ∧ c ≤ ks.length ∧
          (∀ b o, s.heap.get? b = some o → h'.get? b = some o)) E) PySem.F.called_set.init.plain PySem.F.entry_set_init (check_set_init_1 hT ?_)) fun r₂ s₂ hr₂ => ?_
      · obtain ⟨ol, hol, hcl, nl, hdl⟩ := hl
        obtain ⟨ocls, odict, odata, oslots⟩ := ol
        simp only at hcl hdl
        subst hcl; subst hdl
        have hol' : (s.heap.push { cls := .type "set", dict := none, data := .set #[] 0 (.fresh 0 0 (!w.params.followText "set-order")) }).get? l = some { cls := .type "list", dict := odict, data := .seq items nl, slots := oslots } := Heap.get?_push_of_some _ hol
        have hsls := PySem.F.sub_list_set
        have hslf := PySem.F.sub_list_frozenset
        have hne : (Value.type "list" == Value.type "dict") = false := by decide
        have hl1 : (s.heap.push { cls := .type "set", dict := none, data := .set #[] 0 (.fresh 0 0 (!w.params.followText "set-order")) }).IsList l items := ⟨_, hol', rfl, nl, rfl⟩
        unfold Builtin.«set.__init__» noKeywords Builtin.Frozenset.updateFrom
        generalize hPI : pyIter = PI
        wp_walk
        subst hPI
        refine wpAny_pyIter_list hl1 (wpAny_bind (wpAny_runValue ?_))
        have hlS : l < s.heap.objs.size := Heap.lt_size hol
        have hh3 : A.in1.in1.in1.handled = none := by simp [hh]
        have hneI : l ≠ (s.heap.push { cls := .type "set", dict := none, data := .set #[] 0 (.fresh 0 0 (!w.params.followText "set-order")) }).objs.size := by
          rw [Heap.size_push]; exact Nat.ne_of_lt (Nat.lt_succ_of_lt hlS)
        have hSf : s.heap.objs.size ∉ [(s.heap.push { cls := .type "set", dict := none, data := .set #[] 0 (.fresh 0 0 (!w.params.followText "set-order")) }).objs.size, l] := by
          rw [Heap.size_push]
          intro z
          rcases List.mem_cons.mp z with z | z
          · exact absurd z (Nat.ne_of_lt (Nat.lt_succ_self _))
          · exact absurd (List.mem_singleton.mp z) (Nat.ne_of_gt hlS)
        refine setM_loop ((Walks.list hh3 _ l hneI items).toS) s.heap.objs.size hSf ks hsz hb hit (items.size - 0) 0 _ (by omega) (Nat.zero_le _) ⟨⟨_, Heap.get?_push_size _ rfl, rfl, rfl⟩, (hl1.push _)⟩ ?hS0 ?hR
        case hS0 =>
          exact ⟨0, Nat.le_refl 0, (setM_new (w := w) (Heap.get?_push_of_some _ hS)).congr fun k => by simp [memK]⟩
        case hR =>
          intro s' c' hm hc' hS'
          obtain ⟨h', g2, d', tk', os'⟩ := s'
          obtain rfl : g2 = s.gens := hm.gens
          obtain rfl : d' = s.drawn := hm.drawn
          obtain rfl : os' = s.os := hm.os
          show wpAny _ _ _ _ _ _
          refine wpAny_pure ?_
          show wpAny _ _ (ret Value.none) _ _ _
          rw [hsz] at hc'
          refine wpAny_pure ⟨rfl, h', tk', c', rfl, hS', hc', fun b o e => ?_⟩
          have hb0 : b < s.heap.objs.size := Heap.lt_size e
          refine hm.heap b o (fun z => ?_) (Heap.get?_push_of_some _ (Heap.get?_push_of_some _ e))
          rcases List.mem_cons.mp z with z | z
          · exact absurd z (Nat.ne_of_lt hb0)
          · rw [List.mem_singleton.mp z, Heap.size_push] at hb0
            exact absurd hb0 (Nat.not_lt.mpr (Nat.le_succ _))
      · cases r₂ with
        | error e => exact hr₂
        | ok fl₂ =>
          cases fl₂ with
          | ret r =>
            obtain ⟨rfl, h', tk, c', rfl, hS', hc', hk'⟩ := hr₂
            repeat (any_goals (first | assumption | wp_step))
            exact h _ _ _ hS' hc' hk'
          | _ => exact hr₂.elim
    | _ => exact hr.elim
end
/-! ### over the abstract heap -/
def SetMO (w : World) (a : Addr) (S : Key → Bool) (n : Nat) : HO := .ext fun h => SetM w h a S n
theorem setMO_new {w : World} {P : Program} {H : Hp} {h : Heap} {a : Addr} {S : Key → Bool} {n : Nat} (R : SetM w h a S n) : ObjOk P w H h a (SetMO w a S n) :=
  ⟨R, let ⟨o, _, _, _, e, _⟩ := R; ⟨o, e⟩, fun _ _ p k => p.at k⟩
theorem setMO_get {X : Cx} {pins : List (Addr × Obj)} {σ : L2.St} {H : Hp} {s : Shared} {a : Addr} {S : Key → Bool} {n : Nat} (I : Inv X pins σ H s) (ha : H a = some (SetMO X.w a S n)) : SetM X.w s.heap a S n := (I.hok a _ ha).1
theorem vals_keys {ks : List Key} {us : List Value} (r : Vals (ks.map kV) us) (i : Nat) (v : Value) (hv : us[i]? = some v) : ∃ k, ks[i]? = some k ∧ keyIs k v = true := by
  have hl := r.length
  rw [List.length_map] at hl
  have hi : i < ks.length := by
    rw [hl]
    exact (List.getElem?_eq_some_iff.mp hv).1
  obtain ⟨u, hu, ru⟩ := r.get (i := i) (x := kV ks[i]) (by rw [List.getElem?_map, List.getElem?_eq_getElem hi]; rfl)
  rw [hv] at hu
  cases hu
  refine ⟨ks[i], List.getElem?_eq_getElem hi, ?_⟩
  cases hk : ks[i] with
  | inl z =>
    rw [hk] at ru
    obtain ⟨t, rfl⟩ := ru
    exact keyIs_int z t
  | inr z =>
    rw [hk] at ru
    obtain ⟨t, rfl⟩ := ru
    exact keyIs_str z t
/-- set(xs) -/
def rSetL (K : PySem.W.Frag) (w : World) : List V → Hp → VK → Prop := fun xs H Q => ∃ (p : Addr) (ks : List Key), xs = [.ref p] ∧ SqL K H p (ks.map kV) ∧ ks.length + 1 < scanBound ∧
  ∀ (q : Addr) (S : Key → Bool) (n : Nat), H q = none → (∀ k, S k = true ↔ k ∈ ks) → Q (.ref q) (upd H q (SetMO w q S n))
theorem cr_setL {X : Cx} (hc : X.calm = true) : CallR X (.type "set") (rSetL X.K X.w) := by
  intro pins s σ H vs us Q I r h
  obtain ⟨p, ks, rfl, hs, hb, q⟩ := h
  obtain ⟨its, rv, hl, _⟩ := I.list hs
  rw [Vals.ref1 r]
  have hlen := rv.length
  rw [List.length_map] at hlen
  refine call_setM ks (I.ok.hd hc) hl.isList (by rw [List.size_toArray]; exact hlen.symm) (fun i v hv => vals_keys rv i v (by simpa using hv)) hb fun h' tk c R hc' k => ?_
  have hn : H s.heap.objs.size = none := I.hok.fresh (Nat.le_refl _)
  exact ⟨.ref _, _, I.laid (t' := tk) k (Nat.le_refl _) (setMO_new R), rfl, q _ (memK ks) c hn fun k => memK_iff⟩
end K6
set_option Elab.async false
set_option linter.all false
set_option maxRecDepth 100000
set_option maxHeartbeats 8000000
namespace K6
open PySem PySem.Spec PyProof.Rows L2

theorem ints_vals : ∀ (l : List Value) (ks : List Key), l.length = ks.length → (∀ (i : Nat) v k, l[i]? = some v → ks[i]? = some k → keyIs k v = true) → (∀ k ∈ ks, ∃ z : Int, k = .inl z) → ∃ ns : List Int, IntsAre l ns ∧ ks = ns.map Sum.inl
  | [], [], _, _, _ => ⟨[], .nil, rfl⟩
  | [], _ :: _, h, _, _ => by cases h
  | _ :: _, [], h, _, _ => by cases h
  | v :: l, k :: ks, h, hk, hi => by
    obtain ⟨z, rfl⟩ := hi k (List.mem_cons_self)
    obtain ⟨ns, h1, h2⟩ := ints_vals l ks (by simpa using h) (fun i v' k' a b => hk (i + 1) v' k' (by simpa using a) (by simpa using b)) (fun k' hk' => hi k' (List.mem_cons_of_mem _ hk'))
    obtain ⟨t, rfl⟩ := Value.isInt_shape (k := z) (v := v) (hk 0 v _ rfl rfl)
    exact ⟨z :: ns, .cons z t h1, by rw [h2, List.map_cons]⟩
theorem strs_vals : ∀ (l : List Value) (ks : List Key), l.length = ks.length → (∀ (i : Nat) v k, l[i]? = some v → ks[i]? = some k → keyIs k v = true) → (∀ k ∈ ks, ∃ z : Str, k = .inr z) → ∃ ns : List Str, StrsAre l ns ∧ ks = ns.map Sum.inr
  | [], [], _, _, _ => ⟨[], .nil, rfl⟩
  | [], _ :: _, h, _, _ => by cases h
  | _ :: _, [], h, _, _ => by cases h
  | v :: l, k :: ks, h, hk, hi => by
    obtain ⟨z, rfl⟩ := hi k (List.mem_cons_self)
    obtain ⟨ns, h1, h2⟩ := strs_vals l ks (by simpa using h) (fun i v' k' a b => hk (i + 1) v' k' (by simpa using a) (by simpa using b)) (fun k' hk' => hi k' (List.mem_cons_of_mem _ hk'))
    obtain ⟨t, rfl⟩ := Value.isStrOf_shape (x := z) (v := v) (hk 0 v _ rfl rfl)
    exact ⟨z :: ns, .cons z t h1, by rw [h2, List.map_cons]⟩
section
variable {P : Program} {w : World} {A : Around} {E : Value → Shared → Prop} {s : Shared} {a : Addr} {S : Key → Bool} {n : Nat}
/-- the members, gathered -/
theorem gatherM {Q : List Value → Shared → Prop} (R : SetM w s.heap a S n) (hh : A.handled = none)
    (hQ : ∀ s' (vs : List Value) (ks : List Key), (∀ b o, s.heap.get? b = some o → s'.heap.get? b = some o) → s.heap.objs.size ≤ s'.heap.objs.size → s'.gens = s.gens → s'.os = s.os → vs.length = ks.length → vs.length < scanBound →
      (∀ (i : Nat) v k, vs[i]? = some v → ks[i]? = some k → keyIs k v = true) → ks.Nodup → (∀ k, k ∈ ks ↔ S k = true) → Q vs s') : wpAny (model P w) A (collect (.ref a)) Q E s := by
  obtain ⟨o, es, ep, t, ho, hex, hd, ⟨g, nd, hm⟩, hb, hf, hn, hr, hl⟩ := R
  refine collect_set hh ⟨o, ho, hex.1, hd⟩ hf hb hr hl fun s' vs k1 hz g1 o1 pm => ?_
  -- the values' keys, read off the values
  have hkey : ∀ v ∈ vs, keyIs (keyM (0, v)) v = true := fun v hv => by
    obtain ⟨e, he, q⟩ := List.mem_map.mp (pm.mem_iff.mp hv)
    obtain ⟨k, h1, _⟩ := g e he
    rw [← q]
    rw [show keyM (0, e.2) = k from keyM_of (w := w) (e := (0, e.2)) h1]
    exact h1
  have pk : (vs.map fun v => keyM (0, v)).Perm (es.toList.map keyM) := by
    have q := pm.map fun v => keyM (0, v)
    rw [List.map_map] at q
    exact q
  refine hQ s' vs (vs.map fun v => keyM (0, v)) k1 hz g1 o1 (by rw [List.length_map]) ?_ (fun i v k hv hk => ?_) (pk.nodup_iff.mpr nd) (fun k => by rw [pk.mem_iff, ← hm k])
  · rw [pm.length_eq, List.length_map, Array.length_toList]
    exact hb
  · rw [List.getElem?_map, hv] at hk
    obtain rfl := Option.some.inj hk
    exact hkey v (List.mem_of_getElem? hv)
theorem sorted_setI {Q : Value → Shared → Prop} (R : SetM w s.heap a S n) (hh : A.handled = none) (hi : ∀ k, S k = true → ∃ z : Int, k = .inl z)
    (hQ : ∀ s' p (out : Array Value) (c : Nat) (ns : List Int), (∀ b o, s.heap.get? b = some o → s'.heap.get? b = some o) → s'.gens = s.gens → s'.os = s.os → s.heap.objs.size ≤ p →
      s'.heap.get? p = some (seqObj "list" out c) → IntsAre out.toList ns → ns.length ≤ sizeLine → ns.Pairwise (· < ·) → (∀ z, z ∈ ns ↔ S (.inl z) = true) → Q (.ref p) s') :
    wpAny (model P w) A (call (.builtin "sorted") [.ref a]) Q E s := by
  refine Calls.call_function_entry kind_sorted plain_sorted entry_sorted (args_sorted1 _) ?_
  unfold Builtin.«sorted»
  refine wpAny_bind (m := checkCount "sorted" 1 1 _) (wpAny_pure ?_)
  refine wpAny_bind (gatherM (A := A.in1) R hh fun s1 vs ks k1 hz g1 o1 hlen hlt hkv nd hmem => ?_)
  have hsz : vs.length ≤ sizeLine := fits_of_scanBound hlt
  obtain ⟨ns, hI, hks⟩ := ints_vals vs ks hlen hkv fun k hk => hi k ((hmem k).1 hk)
  refine wpAny_bind (wpAny_newList ?_ hsz)
  have hoL : (s1.heap.push (seqObj "list" vs.toArray 0)).get? s1.heap.objs.size = some (seqObj "list" vs.toArray 0) := Heap.get?_push_size _ rfl
  refine wpAny_bind (wpAny_holding (wpAny_call_entry slot_list_sort ⟨_, hoL, rfl⟩ entry_list_sort (list_sort_treeAny hoL hI hsz fun out ns' a1 a2 a3 => ⟨_, rfl, ?_⟩) (args_list_sort _)))
  obtain ⟨c, hc⟩ := sortedHeap_at (vs := vs) (out := out) hoL
  have nd' : ns.Nodup := by
    have q : (ns.map (Sum.inl : Int → Key)).Nodup := hks ▸ nd
    exact List.Pairwise.of_map (S := (· ≠ ·)) Sum.inl (fun x y h z => h (by rw [z])) q
  have hln : ns'.length ≤ sizeLine := by rw [a2.length_eq, ← hI.length]; exact hsz
  refine wpAny_pure ⟨_, rfl, hQ _ s1.heap.objs.size out c ns' (fun b u e => ?_) g1 o1 hz hc a1 hln (lt_of_le_nodup ns' a3 (a2.nodup_iff.mpr nd')) (fun z => ?_)⟩
  · have q := k1 b u e
    have hlt := Heap.lt_size q
    show (sortedHeap (s1.heap.push (seqObj "list" vs.toArray 0)) s1.heap.objs.size vs out).get? b = some u
    rw [sortedHeap_old (Nat.ne_of_lt hlt) (by rw [size_push']; exact Nat.lt_succ_of_lt hlt)]
    exact Heap.get?_push_of_some _ q
  · rw [a2.mem_iff, ← hmem (.inl z), hks, List.mem_map]
    exact ⟨fun h => ⟨z, h, rfl⟩, fun ⟨y, hy, e⟩ => by cases e; exact hy⟩
theorem sorted_setS {Q : Value → Shared → Prop} (R : SetM w s.heap a S n) (hh : A.handled = none) (hi : ∀ k, S k = true → ∃ z : Str, k = .inr z)
    (hQ : ∀ s' p (out : Array Value) (c : Nat) (ns : List Str), (∀ b o, s.heap.get? b = some o → s'.heap.get? b = some o) → s'.gens = s.gens → s'.os = s.os → s.heap.objs.size ≤ p →
      s'.heap.get? p = some (seqObj "list" out c) → StrsAre out.toList ns → ns.length ≤ sizeLine → ns.Nodup → (∀ z, z ∈ ns ↔ S (.inr z) = true) → Q (.ref p) s') :
    wpAny (model P w) A (call (.builtin "sorted") [.ref a]) Q E s := by
  refine Calls.call_function_entry kind_sorted plain_sorted entry_sorted (args_sorted1 _) ?_
  unfold Builtin.«sorted»
  refine wpAny_bind (m := checkCount "sorted" 1 1 _) (wpAny_pure ?_)
  refine wpAny_bind (gatherM (A := A.in1) R hh fun s1 vs ks k1 hz g1 o1 hlen hlt hkv nd hmem => ?_)
  have hsz : vs.length ≤ sizeLine := fits_of_scanBound hlt
  obtain ⟨ns, hI, hks⟩ := strs_vals vs ks hlen hkv fun k hk => hi k ((hmem k).1 hk)
  refine wpAny_bind (wpAny_newList ?_ hsz)
  have hoL : (s1.heap.push (seqObj "list" vs.toArray 0)).get? s1.heap.objs.size = some (seqObj "list" vs.toArray 0) := Heap.get?_push_size _ rfl
  refine wpAny_bind (wpAny_holding (wpAny_call_entry slot_list_sort ⟨_, hoL, rfl⟩ entry_list_sort (list_sort_treeKAny strKind_oneLt hoL hI.keysOf (fun v₁ v₂ rest e => keyKind_strs (by rw [← e]; exact hI)) hsz fun st' hp hs => ⟨_, rfl, ?_⟩) (args_list_sort _)))
  obtain ⟨ns', a1, a2, a3⟩ := sorted_out_str hI hp hs
  obtain ⟨c, hc⟩ := sortedHeap_at (vs := vs) (out := (arrOf st').map (·.2)) hoL
  have nd' : ns.Nodup := by
    have q : (ns.map (Sum.inr : Str → Key)).Nodup := hks ▸ nd
    exact List.Pairwise.of_map (S := (· ≠ ·)) Sum.inr (fun x y h z => h (by rw [z])) q
  have hln : ns'.length ≤ sizeLine := by
    rw [a2.length_eq]
    have q := StrsAre.len_eq hI
    omega
  refine wpAny_pure ⟨_, rfl, hQ _ s1.heap.objs.size _ c ns' (fun b u e => ?_) g1 o1 hz hc a1 hln (a2.nodup_iff.mpr nd') (fun z => ?_)⟩
  · have q := k1 b u e
    have hlt := Heap.lt_size q
    show (sortedHeap (s1.heap.push (seqObj "list" vs.toArray 0)) s1.heap.objs.size vs _).get? b = some u
    rw [sortedHeap_old (Nat.ne_of_lt hlt) (by rw [size_push']; exact Nat.lt_succ_of_lt hlt)]
    exact Heap.get?_push_of_some _ q
  · rw [a2.mem_iff, ← hmem (.inr z), hks, List.mem_map]
    exact ⟨fun h => ⟨z, h, rfl⟩, fun ⟨y, hy, e⟩ => by cases e; exact hy⟩
end
/-- sorted(a set of ints), (a set of texts) -/
def rSortSI (w : World) : List V → Hp → VK → Prop := fun xs H Q => ∃ (a : Addr) (S : Key → Bool) (n : Nat), xs = [.ref a] ∧ H a = some (SetMO w a S n) ∧ (∀ k, S k = true → ∃ z : Int, k = .inl z) ∧
  ∀ (p : Addr) (ns : List Int), H p = none → ns.Pairwise (· < ·) → (∀ z, z ∈ ns ↔ S (.inl z) = true) → Q (.ref p) (upd H p (.lst (ns.map V.int)))
def rSortSS (w : World) : List V → Hp → VK → Prop := fun xs H Q => ∃ (a : Addr) (S : Key → Bool) (n : Nat), xs = [.ref a] ∧ H a = some (SetMO w a S n) ∧ (∀ k, S k = true → ∃ z : Str, k = .inr z) ∧
  ∀ (p : Addr) (ns : List Str), H p = none → ns.Nodup → (∀ z, z ∈ ns ↔ S (.inr z) = true) → Q (.ref p) (upd H p (.lst (ns.map V.str)))
section
variable {X : Cx}
theorem cr_sortSI (hc : X.calm = true) : CallR X (.builtin "sorted") (rSortSI X.w) := by
  intro pins s σ H vs us Q I r h
  obtain ⟨a, S, n, rfl, ha, hi, q⟩ := h
  rw [Vals.ref1 r]
  refine sorted_setI (setMO_get I ha) (I.ok.hd hc) hi fun s' p out c ns k g o hp hg hI hl hs hm => ?_
  have hlen : (ns.map V.int).length ≤ sizeLine := by rw [List.length_map]; exact hl
  have hn : H p = none := I.hok.fresh hp
  obtain ⟨h', g', d', t', o'⟩ := s'
  obtain rfl : o' = s.os := o
  obtain rfl : g' = s.gens := g
  exact ⟨.ref p, _, I.call (g' := s.gens) (t' := t') (d' := d') (ch := []) (Un.laid k hp hn) (I.hok.laid (o := .lst (ns.map V.int)) k hp ⟨hlen, out.toList, c, vals_of_ints hI, hg⟩) I.bare (fun _ z => nomatch z), rfl, q p ns hn hs hm⟩
theorem cr_sortSS (hc : X.calm = true) : CallR X (.builtin "sorted") (rSortSS X.w) := by
  intro pins s σ H vs us Q I r h
  obtain ⟨a, S, n, rfl, ha, hi, q⟩ := h
  rw [Vals.ref1 r]
  refine sorted_setS (setMO_get I ha) (I.ok.hd hc) hi fun s' p out c ns k g o hp hg hI hl hs hm => ?_
  have hlen : (ns.map V.str).length ≤ sizeLine := by rw [List.length_map]; exact hl
  have hn : H p = none := I.hok.fresh hp
  obtain ⟨h', g', d', t', o'⟩ := s'
  obtain rfl : o' = s.os := o
  obtain rfl : g' = s.gens := g
  exact ⟨.ref p, _, I.call (g' := s.gens) (t' := t') (d' := d') (ch := []) (Un.laid k hp hn) (I.hok.laid (o := .lst (ns.map V.str)) k hp ⟨hlen, out.toList, c, vals_of_strs hI, hg⟩) I.bare (fun _ z => nomatch z), rfl, q p ns hn hs hm⟩
end
end K6
set_option Elab.async false
set_option linter.all false
set_option maxRecDepth 100000
set_option maxHeartbeats 4000000
namespace K6
open PySem PySem.Spec PyProof.Rows L2

/-! ### f(**d), d a plain dict whose keys are texts -/
abbrev dObj (es : Array DictEntry) (ep : Nat) : Obj := { cls := .type "dict", dict := none, data := .dict es ep, slots := #[] }
/-- entries of texts, each stored under its own hash, none twice -/
structure TxtD (P : Program) (w : World) (es : Array DictEntry) : Prop where
  keys : KeysOf (mixKind P w) es
  txt : ∀ e ∈ es, ∃ x t, e.key = Value.str x t
  nd : ∀ (i j : Nat) (hi : i < es.size) (hj : j < es.size) (k : Key), keyIs k es[i].key = true → keyIs k es[j].key = true → i = j
  few : es.size ≤ sizeLine
section
variable {P : Program} {w : World} {A : Around} {E : Value → Shared → Prop} {s : Shared} {a d : Addr} {es : Array DictEntry} {ep : Nat}
theorem at_push {h : Heap} {n ep' : Nat} {e : DictEntry} (hd : h.get? d = some (dObj (es.take n) ep')) (he : es[n]? = some e) :
    (h.update d (Obj.mapDictKeys (·.push ⟨e.hash, e.key, e.val⟩))).get? d = some (dObj (es.take (n + 1)) (ep' + 1)) := by
  have q := Heap.get?_update_self (Obj.mapDictKeys (·.push ⟨e.hash, e.key, e.val⟩)) hd rfl
  rw [q]
  show some (dObj ((es.take n).push e) (ep' + 1)) = _
  have hn : n < es.size := (Array.getElem?_eq_some_iff.mp he).1
  have e2 : (es.take n).push e = es.take (n + 1) := by
    have := (Array.getElem?_eq_some_iff.mp he).2
    apply Array.toList_inj.mp
    rw [Array.toList_push]
    simp only [Array.take_eq_extract, Array.toList_extract, List.extract_eq_take_drop, Nat.sub_zero, List.drop_zero]
    rw [List.take_add_one]
    simp [Array.getElem?_toList, he]
  rw [e2]
theorem merge_new {e0 : Nat} {Q : Unit → Shared → Prop} (T : TxtD P w es) (ha : s.heap.get? a = some (dObj es ep)) (hd : s.heap.get? d = some (dObj #[] e0)) (hne : d ≠ a) (hsys : (a == sysModules) = false)
    (hQ : ∀ h' ep', (∀ b, b ≠ d → h'.get? b = s.heap.get? b) → h'.get? d = some (dObj es ep') → Q () { s with heap := h' }) : wpAny (model P w) A (mergeMapping d (.ref a) true) Q E s := by
  have hT : s.TypeIs (.ref a) "dict" := ⟨_, ha, rfl⟩
  unfold mergeMapping
  refine wpAny_bind (wpAny_isInstance hT PySem.F.sub_dict_dict ?_)
  rw [if_pos rfl]
  refine wpAny_bind (wpAny_specialOf hT PySem.F.slot_dict_iter.lookup (wpAny_bind (wpAny_pure ?_)))
  rw [show (some (Value.builtin "dict.__iter__") == some (Value.builtin "dict.__iter__")) = true from by decide]
  dsimp only
  rw [if_neg (by rw [hsys]; exact Bool.false_ne_true)]
  refine wpAny_bind (wpAny_dictEntries hd rfl ?_)
  rw [if_pos (show (#[] : Array DictEntry).isEmpty = true from rfl)]
  refine wpAny_bind (wpAny_dictEntries ha rfl ?_)
  refine wpAny_bind (MeetsSeq2.wpAny_forIn_array _ (fun rest _ s' => s' = s ∧ ∀ e ∈ rest, e ∈ es) _ ?_ ?_ _ _ ⟨rfl, fun e he => by simpa using he⟩)
  · rintro e rest b s' ⟨rfl, hm⟩
    obtain ⟨x, t, hx⟩ := T.txt e (hm e List.mem_cons_self)
    rw [hx]
    exact wpAny_pure ⟨rfl, fun e' he' => hm e' (List.mem_cons_of_mem _ he')⟩
  rintro b s' ⟨rfl, _⟩
  refine wpAny_bind (wpAny_dictEntries ha rfl (wpAny_bind (wpAny_dictEpoch ha rfl ?_)))
  refine wpAny_bind (wpAny_forIn_list _ (fun rest _ s2 => ∃ i h' ep', i ≤ es.size ∧ rest = List.range' i (es.size - i) ∧ s2 = { s' with heap := h' } ∧ (∀ b, b ≠ d → h'.get? b = s'.heap.get? b) ∧ h'.get? d = some (dObj (es.take i) ep')) _ ?_ ?_ _ _
    ⟨0, s'.heap, e0, Nat.zero_le _, by rw [List.range_eq_range', Nat.sub_zero], rfl, fun _ _ => rfl, by rw [hd]; simp⟩)
  · rintro j rest b s2 ⟨i, h', ep', hi, hr, rfl, hsame, hd'⟩
    have hlt : i < es.size := by
      rcases Nat.lt_or_ge i es.size with h | h
      · exact h
      · rw [show es.size - i = 0 by omega] at hr
        cases hr
    rw [show es.size - i = (es.size - (i + 1)) + 1 by omega, List.range'_succ] at hr
    obtain ⟨e0, hrest⟩ := List.cons.inj hr
    have e1 := e0.symm
    subst e1
    have ha' : h'.get? a = some (dObj es ep) := (hsame a (Ne.symm hne)).trans ha
    refine wpAny_bind (wpAny_dictEntries ha' rfl ?_)
    have hej : es[i]? = some es[i] := Array.getElem?_eq_getElem hlt
    rw [hej]
    dsimp only
    obtain ⟨k, hk, hh⟩ := T.keys es[i] (Array.getElem_mem hlt)
    have kTake : KeysOf (mixKind P w) (es.take i) := fun e he => T.keys e (by
      rw [Array.take_eq_extract] at he
      obtain ⟨m, hm, rfl⟩ := Array.mem_iff_getElem.mp he
      rw [Array.getElem_extract]
      exact Array.getElem_mem _)
    have hfind : ((es.take i).findIdx? fun e => (mixKind P w).is k e.key) = none := by
      rw [Array.findIdx?_eq_none_iff]
      intro e he
      rw [Array.take_eq_extract] at he
      obtain ⟨m, hm, rfl⟩ := Array.mem_iff_getElem.mp he
      rw [Array.getElem_extract]
      have hms : m < i := by simp only [Array.size_extract] at hm; omega
      cases q : (mixKind P w).is k es[0 + m].key with
      | false => rfl
      | true =>
        have z := T.nd (0 + m) i (by omega) hlt k q hk
        omega
    rw [if_pos rfl]
    have gone : ∀ (W : Option Nat → Shared → Prop), W none { s' with heap := h' } → wpAny (model P w) A (dictFind d es[i].key es[i].hash) W E { s' with heap := h' } := fun W hW => by
      rw [hh]
      exact wpAny_dictFind_of hk hd' rfl kTake (by rw [hfind]; exact hW)
    refine wpAny_bind (wpAny_holding (wpAny_bind (gone _ ?_)))
    rw [if_neg (by simp)]
    unfold dictPut
    refine wpAny_bind (gone _ ?_)
    refine wpAny_updateDictKeys hd' rfl ?_ (by rw [Array.take_eq_extract, Array.size_extract]; have := T.few; omega) (by simp)
    have hold : ∀ b, b ≠ d → (h'.update d (Obj.mapDictKeys (·.push ⟨es[i].hash, es[i].key, es[i].val⟩))).get? b = s'.heap.get? b := fun b hb => (Heap.get?_update_other _ _ (Ne.symm hb)).trans (hsame b hb)
    refine wpAny_bind (wpAny_dictEpoch (o := dObj es ep) ((hold a (Ne.symm hne)).trans ha) rfl ?_)
    rw [if_neg (by simp)]
    exact wpAny_pure ⟨i + 1, _, _, hlt, hrest, rfl, hold, at_push hd' hej⟩
  · rintro b s2 ⟨i, h', ep', hi, hr, rfl, hsame, hd'⟩
    have e : i = es.size := by
      rcases Nat.lt_or_ge i es.size with h | h
      · rw [show es.size - i = (es.size - (i + 1)) + 1 by omega, List.range'_succ] at hr
        cases hr
      · omega
    subst e
    refine wpAny_pure (hQ h' ep' hsame ?_)
    rw [hd']
    simp
end
end K6
set_option Elab.async false
set_option linter.all false
set_option maxRecDepth 100000
set_option maxHeartbeats 4000000
namespace K6
open PySem PySem.Spec PyProof.Rows L2

/-! ### def f(x, **d): the dict is built anew -/
theorem push_update (h : Heap) (o : Obj) (f : Obj → Obj) : (h.push o).update h.objs.size f = h.push (f o) := by
  obtain ⟨objs, l⟩ := h
  show Heap.mk ((objs.push o).modify objs.size f) l = Heap.mk (objs.push (f o)) l
  congr 1
  apply Array.ext
  · simp
  · intro i h1 h2
    simp only [Array.getElem_modify, Array.getElem_push]
    split
    · rename_i e; subst e; simp
    · rename_i e
      simp only [Array.size_modify, Array.size_push] at h1
      have : i < objs.size := by omega
      simp [this]
section
variable {P : Program} {w : World} {A : Around} {E : Value → Shared → Prop} {s : Shared}
theorem nsSet_pushed {h0 : Heap} {es : Array DictEntry} {ep : Nat} {name : Str} {v : Value} {Q : Unit → Shared → Prop} (hs : s.heap = h0.push (dObj es ep)) (hk : ∀ e ∈ es, ∃ n t, e.key = .str n t) (hnew : es.findIdx? (·.key.isStr name) = none)
    (hQ : Q () { s with heap := h0.push (dObj (es.push ⟨hashStr w name, .str name s.toks, v⟩) (ep + 1)), toks := s.toks + 1 }) : wpAny (model P w) A (nsSet h0.objs.size name v) Q E s := fun Γ p hΓ => by
  have ho : s.heap.get? h0.objs.size = some (dObj es ep) := by rw [hs]; exact Heap.get?_push_size _ rfl
  simp only [nsSet, strHash, Sem.wp_bind', Sem.wp_cmd_ask, Sem.wp_pure', Sem.wp_cmd_mkText]
  rw [Sem.wp_loadPart_of (model P w) Γ _ p { s with toks := s.toks + 1 } (o := dObj es ep) _ ho]
  have hany : es.any (·.refKey) = false := by
    rw [Array.any_eq_false']; intro e he; obtain ⟨n, t, h⟩ := hk e he; simp [DictEntry.refKey, h]
  simp only [dObj, aRefKeyMayBeTheName_eq, aRefKeyMayBeTheNameByArray, hany, Bool.and_false, Bool.false_eq_true, if_false, Sem.wp_cmd_updatePart]
  refine ⟨by rw [ho]; rfl, ?_⟩
  rw [hs, push_update]
  have e : Obj.putName name (hashStr w name) (.str name s.toks) v (dObj es ep) = dObj (es.push ⟨hashStr w name, .str name s.toks, v⟩) (ep + 1) := by
    simp only [dObj, Obj.putName_eq, Obj.putNameByArray, hnew]
  have e2 := e ▸ hQ
  exact (show Q () { s with heap := h0.push (Obj.putName name (hashStr w name) (.str name s.toks) v (dObj es ep)), toks := s.toks + 1 } by rw [e]; exact hQ)

/-- entries, and what they are to the reader -/
structure EntD (P : Program) (w : World) (es : Array DictEntry) (zs : List (Str × V)) (kw : List (Str × Value)) : Prop where
  str : ∀ e ∈ es, ∃ n t, e.key = .str n t
  keys : KeysOf (mixKind P w) es
  prs : Pairs (mixKind P w) es.toList (kw.map fun z => ((Sum.inr z.1 : Key), z.2))
theorem EntD.nil : EntD P w #[] [] [] := ⟨fun e he => by simp at he, fun e he => by simp at he, .nil⟩
/-- the names a list of keywords may have -/
def bndOf (x : Value) (d : Addr) : List (Str × Value) := [(("this_one" : Str), x), (("places" : Str), .ref d)]
theorem pairs_snoc : ∀ {es : List DictEntry} {kvs : List (Key × Value)} {e : DictEntry} {kv : Key × Value}, Pairs (mixKind P w) es kvs → (mixKind P w).is kv.1 e.key = true → e.val = kv.2 → Pairs (mixKind P w) (es ++ [e]) (kvs ++ [kv])
  | _, _, _, _, .nil, h1, h2 => .cons h1 h2 .nil
  | _, _, _, _, .cons a b c, h1, h2 => .cons a b (pairs_snoc c h1 h2)
theorem pairs_find : ∀ {es : List DictEntry} {kw : List (Str × Value)} {n : Str}, Pairs (mixKind P w) es (kw.map fun z => ((Sum.inr z.1 : Key), z.2)) → n ∉ kw.map (·.1) → ∀ e ∈ es, e.key.isStr n = false
  | _, [], _, .nil, _, e, he => by simp at he
  | _, z :: kw, n, .cons a b c, hn, e, he => by
    simp only [List.map_cons, List.mem_cons, not_or] at hn
    rcases List.mem_cons.mp he with rfl | he
    · obtain ⟨t, ht⟩ := (Value.isStrOf_shape (x := z.1) (v := e.key) (by simpa [mixKind, keyIs] using a))
      rw [ht]
      simp only [Value.isStr]
      exact beq_eq_false_iff_ne.mpr (fun q => hn.1 q.symm)
    · exact pairs_find c hn.2 e he

structure KwFn (fd : FuncData) : Prop where
  po : fd.params.posonlyargs = []
  ar : ∃ a, fd.params.args = [a] ∧ a.arg = ("this_one" : Str)
  ko : fd.params.kwonlyargs = []
  va : fd.params.vararg = Option.none
  kw : ∃ b, fd.params.kwarg = some b ∧ b.arg = ("places" : Str)
  df : fd.defaults = .none
theorem bind_kw {fd : FuncData} {x : Value} {kw : List (Str × Value)} {Q : List (Str × Value) → Shared → Prop} (F : KwFn fd) (hn : (kw.map (·.1)).Nodup) (ht : ("this_one" : Str) ∉ kw.map (·.1)) (hl : kw.length ≤ sizeLine)
    (hQ : ∀ es ep tk, (∀ e ∈ es, ∃ n t, e.key = Value.str n t) → KeysOf (mixKind P w) es → Pairs (mixKind P w) es.toList (kw.map fun z => ((Sum.inr z.1 : Key), z.2)) →
      Q (bndOf x s.heap.objs.size) { s with heap := s.heap.push (dObj es ep), toks := tk }) : wpAny (model P w) A (bindArgs fd ⟨[x], kw⟩) Q E s := by
  obtain ⟨a, ea, na⟩ := F.ar
  obtain ⟨b, eb, nb⟩ := F.kw
  unfold bindArgs
  simp only [F.po, ea, F.ko, F.va, eb, F.df, na, nb, List.map_nil, List.map_cons, List.nil_append, List.append_nil, List.zip_cons_cons, List.zip_nil_left, List.zip_nil_right, List.length_cons, List.length_nil]
  refine wpAny_bind (wpAny_forIn_list _ (fun rest b s' => s' = s ∧ ∃ pre, pre ++ rest = kw ∧ b = ⟨[(("this_one" : Str), x)], pre⟩) _ ?_ ?_ _ _ ⟨rfl, [], rfl, rfl⟩)
  · rintro ⟨k, v⟩ rest b s' ⟨rfl, pre, hp, rfl⟩
    have hk : ("this_one" : Str) ≠ k := fun q => ht (by rw [← hp]; simp [q])
    have h1 : ([("this_one" : Str)].contains k || ([] : List Str).contains k) = false := by
      simp [List.contains, List.elem, beq_eq_false_iff_ne.mpr (Ne.symm hk)]
    simp only [h1, Bool.false_eq_true, if_false, Option.isSome_some, if_true]
    exact wpAny_pure ⟨rfl, pre ++ [(k, v)], by rw [← hp]; simp, rfl⟩
  rintro b s' ⟨rfl, pre, hp, rfl⟩
  obtain rfl : pre = kw := by simpa using hp
  unfold seqItems?
  refine wpAny_bind (wpAny_bind (wpAny_pure (wpAny_pure ?_)))
  rw [if_neg (by simp), if_neg (by simp)]
  refine wpAny_bind ?_
  simp only [Option.getD_none, Array.toList_empty, List.drop_nil, List.length_nil, Nat.zero_sub, Nat.sub_zero, Nat.zero_add, List.drop_succ_cons, List.zip_nil_left, List.forIn_nil, List.zip_nil_right]
  refine wpAny_pure (wpAny_bind ?_)
  refine wpAny_pure ?_
  rw [if_neg (by simp), if_neg (by omega)]
  refine wpAny_bind (wpAny_alloc (wpAny_bind (wpAny_forIn_list _ (fun rest _ s2 => ∃ pr es ep tk, pr ++ rest = pre ∧ s2 = { s' with heap := s'.heap.push (dObj es ep), toks := tk } ∧ (∀ e ∈ es, ∃ n t, e.key = Value.str n t) ∧ KeysOf (mixKind P w) es ∧
    Pairs (mixKind P w) es.toList (pr.map fun z => ((Sum.inr z.1 : Key), z.2))) _ ?_ ?_ _ _ ⟨[], #[], 0, s'.toks, rfl, rfl, fun e he => by simp at he, fun e he => by simp at he, .nil⟩)))
  · rintro ⟨k, v⟩ rest u s2 ⟨pr, es, ep, tk, hp2, rfl, h1, h2, h3⟩
    have hk : k ∉ pr.map (·.1) := fun q => by
      rw [← hp2] at hn
      simp only [List.map_append, List.map_cons] at hn
      have := (List.nodup_append.mp hn).2.2 k q k (by simp)
      exact this rfl
    refine wpAny_bind (nsSet_pushed (h0 := s'.heap) rfl h1 ?_ (wpAny_pure ⟨pr ++ [(k, v)], _, ep + 1, tk + 1, by rw [← hp2]; simp, rfl, ?_, h2.push (knd := mixKind P w) (k := Sum.inr k) (key := .str k tk) (show (mixKind P w).is (Sum.inr k) (.str k tk) = true from keyIs_str k tk) v, ?_⟩))
    · rw [Array.findIdx?_eq_none_iff]
      intro e he
      exact pairs_find h3 hk e (by simpa using he)
    · intro e he
      rcases Array.mem_push.mp he with he | rfl
      · exact h1 e he
      · exact ⟨_, _, rfl⟩
    · rw [Array.toList_push, List.map_append]
      exact pairs_snoc h3 (keyIs_str k tk) rfl
  · rintro u s2 ⟨pr, es, ep, tk, hp2, rfl, h1, h2, h3⟩
    obtain rfl : pr = pre := by simpa using hp2
    refine wpAny_pure ?_
    have z := hQ es ep tk h1 h2 h3
    simpa [bndOf] using z
end
end K6
set_option Elab.async false
set_option linter.all false
set_option maxRecDepth 100000
set_option maxHeartbeats 4000000
namespace K6
open PySem PySem.Spec PyProof.Rows L2

def tK (zs : List (Str × V)) : List (Key × V) := zs.map fun z => ((Sum.inr z.1 : Key), z.2)
def tKv (zs : List (Str × Value)) : List (Key × Value) := zs.map fun z => ((Sum.inr z.1 : Key), z.2)
theorem kv_txt : ∀ {zs : List (Str × V)} {vs : List (Key × Value)}, KV (tK zs) vs → ∃ kw, vs = tKv kw ∧ KV zs kw
  | [], _, .nil => ⟨[], rfl, .nil⟩
  | z :: zs, _, .cons (b := q) ⟨e1, e2⟩ r => by
    obtain ⟨kw, e, h⟩ := kv_txt (zs := zs) r
    obtain ⟨q1, q2⟩ := q
    exact ⟨(z.1, q2) :: kw, by simp only [tKv, List.map_cons] at *; rw [← e1, e], .cons ⟨rfl, e2⟩ h⟩
theorem kv_back : ∀ {zs : List (Str × V)} {kw : List (Str × Value)}, KV zs kw → KV (tK zs) (tKv kw)
  | _, _, .nil => .nil
  | _, _, .cons ⟨e1, e2⟩ r => .cons ⟨by simp [e1], e2⟩ (kv_back r)
theorem kv_names : ∀ {zs : List (Str × V)} {kw : List (Str × Value)}, KV zs kw → kw.map (·.1) = zs.map (·.1)
  | _, _, .nil => rfl
  | _, _, .cons ⟨e1, _⟩ r => by simp [kv_names r, e1]
theorem tKv_nodup {kw : List (Str × Value)} (h : ((tKv kw).map (·.1)).Nodup) : (kw.map (·.1)).Nodup := by
  have e : (tKv kw).map (·.1) = (kw.map (·.1)).map Sum.inr := by simp [tKv]
  rw [e] at h
  exact List.Pairwise.of_map _ (fun a b z q => z (by rw [q])) h
theorem nodup_tKv {kw : List (Str × Value)} (h : (kw.map (·.1)).Nodup) : ((tKv kw).map (·.1)).Nodup := by
  have e : (tKv kw).map (·.1) = (kw.map (·.1)).map Sum.inr := by simp [tKv]
  rw [e]
  exact List.Pairwise.map _ (fun a b z q => z (Sum.inr.inj q)) h
section
variable {P : Program} {w : World}
theorem pairs_at : ∀ {es : List DictEntry} {kvs : List (Key × Value)}, Pairs (mixKind P w) es kvs → ∀ i (hi : i < es.length) (hj : i < kvs.length), keyIs kvs[i].1 es[i].key = true
  | _, _, .cons a b c, 0, _, _ => a
  | _, _, .cons a b c, i + 1, hi, hj => pairs_at c i (Nat.lt_of_succ_lt_succ hi) (Nat.lt_of_succ_lt_succ hj)
theorem txtD_of {es : Array DictEntry} {kw : List (Str × Value)} (hk : KeysOf (mixKind P w) es) (hp : Pairs (mixKind P w) es.toList (tKv kw)) (hn : (kw.map (·.1)).Nodup) (hl : kw.length ≤ sizeLine) : TxtD P w es := by
  have hz : es.size = (tKv kw).length := by rw [← hp.length, Array.length_toList]
  have hz2 : es.size = kw.length := by rw [hz]; simp [tKv]
  have at1 : ∀ i (h : i < es.size), keyIs ((tKv kw)[i]'(by omega)).1 es[i].key = true := fun i h => by
    have z := pairs_at hp i (by simpa using h) (by omega)
    simpa using z
  refine ⟨hk, fun e he => ?_, fun i j hi hj k h1 h2 => ?_, by omega⟩
  · obtain ⟨i, hi, rfl⟩ := Array.mem_iff_getElem.mp he
    have z := at1 i hi
    simp only [tKv, List.getElem_map] at z
    obtain ⟨t, ht⟩ := (Value.isStrOf_shape (by simpa [keyIs] using z))
    exact ⟨_, _, ht⟩
  · have e1 := (mixKind P w).inj _ _ _ h1 (at1 i hi)
    have e2 := (mixKind P w).inj _ _ _ h2 (at1 j hj)
    have nd := nodup_tKv hn
    have q : ((tKv kw).map (·.1))[i]'(by simp; omega) = ((tKv kw).map (·.1))[j]'(by simp; omega) := by
      simp only [List.getElem_map]
      rw [← e1, e2]
    exact (List.getElem_inj nd).mp q
variable {A : Around} {E : Value → Shared → Prop} {s : Shared}
theorem kwIn {f : Value} {d : Addr} {es : Array DictEntry} {ep : Nat} {kw : List (Str × Value)} {Q : List (Str × Value) → Shared → Prop} (hd : s.heap.get? d = some (dObj es ep)) (hp : Pairs (mixKind P w) es.toList (tKv kw)) (hQ : Q kw s) :
    wpAny (model P w) A (keywordsIn f d) Q E s := by
  unfold keywordsIn
  refine wpAny_bind (wpAny_dictEntries hd rfl ?_)
  refine wpAny_bind (MeetsSeq2.wpAny_forIn_array _ (fun rest b s' => s' = s ∧ ∃ suf, b ++ suf = kw ∧ Pairs (mixKind P w) rest (tKv suf)) _ ?_ ?_ _ _ ⟨rfl, kw, rfl, hp⟩)
  · rintro e rest b s' ⟨rfl, suf, hb, hs⟩
    cases suf with
    | nil => exact nomatch hs
    | cons z suf =>
      cases hs with
      | cons a b2 c =>
        obtain ⟨t, ht⟩ := (Value.isStrOf_shape (x := z.1) (v := e.key) (by simpa [mixKind, keyIs] using a))
        rw [ht]
        exact wpAny_pure ⟨rfl, suf, by rw [← hb, b2]; simp, c⟩
  · rintro b s' ⟨rfl, suf, hb, hs⟩
    cases suf with
    | nil => exact wpAny_pure (by rw [List.append_nil] at hb; rw [hb]; exact hQ)
    | cons z suf => exact nomatch hs
end
/-- a promise of a def that takes keywords -/
def FnKw (P : Program) (w : World) (K : PySem.W.Frag) (mg : Str → Option Value) (base : Heap) (CX : CXT) (k : Nat) (f : Addr) (sp : List V → List (Str × V) → Hp → VK → XK → Prop) : Prop :=
  ∀ (A : Around) (outer : List Env) (s : Shared) (H : Hp) (us : List Value) (vs : List V) (kw : List (Str × Value)) (zs : List (Str × V)) (Q : VK) (E : XK), Room k A → Env0 P w K mg base A outer s H → Vals vs us → KV zs kw → (zs.map (·.1)).Nodup → zs.length ≤ sizeLine → sp vs zs H Q E →
    codeAny (model P w) A (.call (.ref f) ⟨us, kw⟩) (CR CX outer P w H s Q E) s
section
variable {X : Cx} {pins : List (Addr × Obj)} {σ : L2.St} {H : Hp} {s : Shared} {CX : CXT} {k i : Nat} {f C : Addr} {sp : List V → List (Str × V) → Hp → VK → XK → Prop} {E : XK} {x : Str} {e : Expr} {te : TE} {p pos : Pos} {kp : Pos}
theorem dk_read (I : Inv X pins σ H s) {a : Addr} {zs : List (Str × V)} (h : H a = some (.dK (tK zs))) : (a == sysModules) = false ∧ zs.length ≤ sizeLine ∧ ∃ es ep kw, s.heap.get? a = some (dObj es ep) ∧ KV zs kw ∧ (kw.map (·.1)).Nodup ∧ TxtD X.prog X.w es ∧ Pairs (mixKind X.prog X.w) es.toList (tKv kw) := by
  obtain ⟨hl, hs, vs, hv, o, es, ep, ho, ⟨c1, c2, c3⟩, hd, hk, hp, hn⟩ := I.hok a _ h
  obtain ⟨kw, rfl, hkv⟩ := kv_txt hv
  have hl2 : zs.length ≤ sizeLine := by simpa [tK] using hl
  have hl3 : kw.length ≤ sizeLine := by
    have := congrArg List.length (kv_names hkv)
    simp at this
    omega
  refine ⟨hs, hl2, es, ep, kw, ?_, hkv, tKv_nodup hn, txtD_of hk hp (tKv_nodup hn) hl3, hp⟩
  rw [ho]
  obtain ⟨c, d, dt, sl⟩ := o
  simp only at c1 c2 c3 hd
  subst c1 c2 c3 hd
  rfl
theorem ifp {α : Type} {M : Model} {A : Around} {Ex : Value → Shared → Prop} {c : Prop} [Decidable c] {a b : Sem α} {Q : α → Shared → Prop} {s : Shared} (hc : c) (h : wpAny M A a Q Ex s) : wpAny M A (if c then a else b) Q Ex s := by rw [if_pos hc]; exact h
theorem ifn {α : Type} {M : Model} {A : Around} {Ex : Value → Shared → Prop} {c : Prop} [Decidable c] {a b : Sem α} {Q : α → Shared → Prop} {s : Shared} (hc : ¬ c) (h : wpAny M A b Q Ex s) : wpAny M A (if c then a else b) Q Ex s := by rw [if_neg hc]; exact h
/-- the keywords of f(**e) -/
theorem args_kwd {fv : Value} {Qa : Args → Shared → Prop} {R : Addr → List (Str × V) → Hp → Prop} (I : Inv X pins σ H s) (he : PE X e te)
    (h : ∀ d, H d = Option.none → te σ (upd H d (.dK [])) fun y H1 => ∃ q zs, y = .ref q ∧ H1 q = some (.dK (tK zs)) ∧ q ≠ d ∧ H1 d = some (.dK []) ∧ R d zs H1)
    (hR : ∀ d zs H1 s2 kw, R d zs H1 → Inv X pins σ (upd H1 d (.dK (tK zs))) s2 → KV zs kw → (zs.map (·.1)).Nodup → zs.length ≤ sizeLine → Qa ⟨[], kw⟩ s2) :
    wpAny (model X.prog X.w) X.A (evalArgs fv true [] [(Option.none, do let v ← eval e X.env; standAt pos; pure v)]) Qa X.xe s := by
  unfold evalArgs
  refine wpAny_bind (wpAny_bind (wpAny_pure (wpAny_pure ?_)))
  refine wpAny_bind (wpAny_pure ?_)
  refine wpAny_holding ?_
  dsimp only
  rw [if_neg (by simp)]
  have hn : H s.heap.objs.size = Option.none := I.hok.fresh (Nat.le_refl _)
  have I1 : Inv X pins σ (upd H s.heap.objs.size (.dK [])) { s with heap := s.heap.push { cls := .type "dict", data := .dict #[] } } :=
    I.laid (t' := s.toks) (fun _ _ z => Heap.get?_push_of_some _ z) (Nat.le_refl _) (dk_empty _ I.big)
  unfold mergedKeywords
  refine wpAny_bind (wpAny_bind (wpAny_alloc (wpAny_bind (wpAny_holding ?_))))
  refine wpAny_bind (wpAny_forIn_list _ (fun rest b s' => (rest = [(Option.none, do let v ← eval e X.env; standAt pos; pure v)] ∧ b = [] ∧ s' = { s with heap := s.heap.push { cls := .type "dict", data := .dict #[] } }) ∨ (rest = [] ∧ b = [] ∧
    ∃ q zs H1 kw, H1 q = some (.dK (tK zs)) ∧ KV zs kw ∧ (kw.map (·.1)).Nodup ∧ zs.length ≤ sizeLine ∧ Inv X pins σ (upd H1 s.heap.objs.size (.dK (tK zs))) s' ∧ (∃ es ep, s'.heap.get? s.heap.objs.size = some (dObj es ep) ∧ Pairs (mixKind X.prog X.w) es.toList (tKv kw)) ∧
      R s.heap.objs.size zs H1)) _ ?_ ?_ _ _ (.inl ⟨rfl, rfl, rfl⟩))
  · rintro z rest b s' (⟨hr, rfl, rfl⟩ | ⟨hr, _⟩)
    · obtain ⟨rfl, rfl⟩ := List.cons.inj hr
      dsimp only
      refine wpAny_bind (ifp rfl (wpAny_pure ?_))
      refine wpAny_bind (wpAny_bind (wpAny_mono (he.run pins _ σ _ _ I1 (h _ hn)) (fun v s1 ⟨y, H1, I2, ry, q, zs, ey, hq, hqd, hd, hfin⟩ => wpAny_bind (wpAny_standAt (wpAny_pure ?_))) fun _ _ z => z))
      subst ey
      obtain rfl : v = Value.ref q := ry
      obtain ⟨hsys, hl, es, ep, kw, hes, hkv, hkn, T, hp⟩ := dk_read I2 hq
      have hdo : ∃ ep0, s1.heap.get? s.heap.objs.size = some (dObj #[] ep0) := by
        obtain ⟨_, _, es0, ep0, kw0, hes0, hkv0, _, _, hp0⟩ := dk_read (zs := []) I2 (by rw [hd]; rfl)
        cases hkv0
        have : es0.toList = [] := by cases hp0' : es0.toList with | nil => rfl | cons a b => rw [hp0'] at hp0; exact nomatch hp0
        have e0 : es0 = #[] := by simpa using this
        exact ⟨ep0, by rw [hes0, e0]⟩
      obtain ⟨ep0, hdo⟩ := hdo
      have hnd : s.heap.objs.size ≠ q := fun z => hqd z.symm
      refine wpAny_bind (wpAny_onRaise (wpAny_holding (wpAny_tryCatch (wpAny_onRaise (merge_new T hes hdo hnd hsys fun h' ep' hsame hd' => ?_)))))
      have hl3 : kw.length ≤ sizeLine := by
        have := congrArg List.length (kv_names hkv)
        simp at this
        omega
      have I3 : Inv X pins σ (upd H1 s.heap.objs.size (.dK (tK zs))) { s1 with heap := h' } := I2.write (t' := s1.toks) (by rw [hd]; trivial) (.inl rfl) (fun b u hb hu => (hsame b hb).trans hu) ⟨_, hd'⟩
        ⟨by simpa [tK] using hl, beq_eq_false_iff_ne.mpr (Ne.symm (Nat.ne_of_lt I.big)), tKv kw, kv_back hkv, _, es, ep', hd', ⟨rfl, rfl, rfl⟩, rfl, T.keys, hp, nodup_tKv hkn⟩
      refine wpAny_pure (.inr ⟨rfl, rfl, q, zs, H1, kw, hq, hkv, hkn, hl, I3, ⟨es, ep', hd', hp⟩, hfin⟩)
    · cases hr
  · rintro b s' (⟨hr, _⟩ | ⟨_, rfl, q, zs, H1, kw, hq, hkv, hkn, hl, I2, ⟨es, ep, hd, hp⟩, hfin⟩)
    · cases hr
    · dsimp only
      refine ifp rfl (wpAny_pure ?_)
      refine wpAny_pure ?_
      refine wpAny_bind (wpAny_pure ?_)
      refine wpAny_bind (wpAny_holding (kwIn hd hp ?_))
      exact wpAny_pure (hR _ _ _ _ kw hfin I2 hkv (by rw [← kv_names hkv]; exact hkn) hl)
end
end K6
set_option Elab.async false
set_option linter.all false
set_option maxRecDepth 100000
set_option maxHeartbeats 4000000
namespace K6
open PySem PySem.Spec PyProof.Rows L2
section
variable {CX : CXT} {P : Program} {w : World} {K : PySem.W.Frag} {mg : Str → Option Value} {base : Heap} {k : Nat} {f : Addr} {name qual : Str} {params : Arguments} {body : List Stmt} {scope : Scope} {dV kV doc pm cdv ct oc : Value} {an od : Option Addr}
  {osl : Array (Option Value)} {N : List Str} {sp : Sp}
theorem fn_kw (lk : K.lookup f = some ⟨oc, od, .func (PySem.W.fnOf name qual params body scope dV kV doc pm an cdv ct), osl⟩) (hcd : PySem.W.codeIn K cdv qual = true) (S : FnScope N ["this_one", "places"] scope) (hCX : StX.CXUp CX)
    (F : KwFn (PySem.W.fnOf name qual params body scope dV kV doc pm an cdv ct))
    (hbody : ∀ (A : Around) (outer : List Env) (s : Shared) (H : Hp) (vs : List V) (Q : VK) (E : XK), Room k (A.deeper (envOfC qual scope s.heap.objs.size f cdv)) → sp vs H Q E →
      ∃ t, PSs (cxOf CX P w K mg base N qual scope f cdv A outer s H E) body t ∧ t { nx := fun _ H' => Q .non H', rt := Q } (start N vs) H) :
    FnKw P w K mg base CX (k + 1) f (fun vs zs H Q E => ∃ x, vs = [x] ∧ ("this_one" : Str) ∉ zs.map (·.1) ∧ ∀ p, H p = Option.none → sp [x, V.ref p] (upd H p (.dK (tK zs))) Q E) := by
  intro A outer s H us vs kw zs Q E hr e0 r hkv hkn hl hsp
  obtain ⟨x, ev, hno, hq⟩ := hsp
  subst ev
  cases r with
  | cons ru r0 =>
  cases r0
  rename_i u
  have hn : H s.heap.objs.size = Option.none := e0.hok.fresh (Nat.le_refl _)
  have nm := kv_names hkv
  have hl2 : kw.length ≤ sizeLine := by
    have := congrArg List.length nm
    simp at this
    omega
  refine StX.run_bnd lk hcd S hr e0 (G := fun xs H2 => ∃ p, H p = Option.none ∧ xs = [x, V.ref p] ∧ H2 = upd H p (.dK (tK zs))) (fun A' Ex Q' h => ?_) fun s2 H2 xs ⟨p, hp, ex, eH⟩ hr' => ?_
  · refine bind_kw F (by rw [nm]; exact hkn) (by rw [nm]; exact hno) hl2 fun es ep tk h1 h2 h3 => ?_
    have new : ObjOk P w (upd H s.heap.objs.size (.dK (tK zs))) (s.heap.push (dObj es ep)) s.heap.objs.size (.dK (tK zs)) :=
      ⟨by simpa [tK] using hl, beq_eq_false_iff_ne.mpr (Ne.symm (Nat.ne_of_lt (StX.env0_big e0))), tKv kw, kv_back hkv, _, es, ep, Heap.get?_push_size _ rfl, ⟨rfl, rfl, rfl⟩, rfl, h2, h3, nodup_tKv (by rw [nm]; exact hkn)⟩
    have un := StX.un_laid (fs := frs outer) (s := s) (o := dObj es ep) (u := .dK (tK zs)) hn
    have e1 := StX.env0_laid e0 new
    have e2 : Env0 P w K mg base A outer { s with heap := s.heap.push (dObj es ep), toks := tk } (upd H s.heap.objs.size (.dK (tK zs))) := ⟨e1.frames, e1.mod, e1.bs, e1.bsz, e1.funs, e1.frf, e1.hok, e1.bare⟩
    exact h _ _ [x, V.ref s.heap.objs.size] [u, Value.ref s.heap.objs.size] e2 un rfl (fun e s' => hCX outer s H { s with heap := s.heap.push (dObj es ep), toks := tk } _ E e s' un (fun b o q => Heap.get?_push_of_some _ q) rfl) (.cons ru (.cons rfl .nil)) rfl ⟨_, hn, rfl, rfl⟩
  · subst ex eH
    exact hbody A outer s2 _ _ Q E hr' (hq p hp)
end
section
variable {X : Cx} {CX : CXT} {k i : Nat} {f C : Addr} {sp : List V → List (Str × V) → Hp → VK → XK → Prop} {E : XK} {x : Str} {e : Expr} {te : TE} {p pos : Pos} {kp : Pos}
/-- C(**e), e a plain dict whose keys are texts -/
theorem pe_makeKwD (M : Mk X.K C f) (F : FnKw X.prog X.w X.K X.mg X.base CX k f sp) (hr : Room (k + 1) X.A) (hg : Gl X x) (hm : X.mg x = some (.ref C)) (hx : Passes CX X E) (he : PE X e te) (hdb : (x == ("__debug__" : Str)) = false := by decide) :
    PE X (.Call (.Name x p) [] [⟨Option.none, e, kp⟩] pos) (fun σ H Q => ∀ d, H d = Option.none → te σ (upd H d (.dK [])) fun y H1 => ∃ q zs, y = .ref q ∧ H1 q = some (.dK (tK zs)) ∧ q ≠ d ∧ H1 d = some (.dK []) ∧
      ∀ x dx, upd H1 d (.dK (tK zs)) x = Option.none → upd H1 d (.dK (tK zs)) dx = Option.none → dx ≠ x → sp [V.ref x] zs (upd (upd (upd H1 d (.dK (tK zs))) dx (.own x)) x (.ins C dx [])) (fun v H3 => v = .non ∧ Q (.ref x) H3) E) := by
  refine ⟨fun pins s σ H Q I h => ?_⟩
  refine wpAny_Call_Name_kw (ld_glob I hg hm ?_ hdb)
  show wpAny _ _ (callWith pos (.ref C) [] [] [(Option.none, do let v ← eval e X.env; standAt pos; pure v)]) _ _ _
  unfold callWith
  refine wpAny_bind (wpAny_holding (wpAny_mono (args_kwd (Qa := fun a s2 => X.K.In s2.heap ∧ wpAny (model X.prog X.w) X.A (call (.ref C) ([] ++ a.pos) a.kw) (EP X pins σ Q) X.xe s2) I he h fun d zs H1 s2 kw hq I2 hkv hkn hl => ⟨I2.kIn, ?_⟩) (fun a s₁ h₁ => wpAny_bind (wpAny_standAt ?_)) fun _ _ z => z))
  · have hq := hq (s2.heap.objs.size + 1) s2.heap.objs.size (I2.hok.fresh (Nat.le_succ _)) (I2.hok.fresh (Nat.le_refl _)) (Nat.ne_of_lt (Nat.lt_succ_self _))
    have I3 := Inv.made (C := C) I2
    have r2 : Vals [V.ref (s2.heap.objs.size + 1)] [Value.ref (s2.heap.objs.size + 1)] := .cons rfl .nil
    refine wpAny_call (make_map (f := f) I2.kIn M.makes M.init (beq_iff_eq.mp M.fn) (codeAny_mono (F _ X.stack _ _ [Value.ref (s2.heap.objs.size + 1)] _ kw zs _ E (hr.make C [] kw) (I3.env0.make C [] kw) r2 hkv hkn hl hq) fun r s' hq' => ?_))
    cases r with
    | error e => exact hx pins σ _ _ e s' I3 hq'
    | ok fl =>
      cases fl with
      | ret u =>
        obtain ⟨v, H', I4, rv, ev, q3⟩ := I3.after hq'
        subst ev
        exact ⟨rv, ⟨V.ref (s2.heap.objs.size + 1), H', I4, rfl, q3⟩⟩
      | next => exact False.elim hq'
      | brk => exact False.elim hq'
      | cont => exact False.elim hq'
  · obtain ⟨kk, hk', L⟩ := PySem.W.keeps_K (M := model X.prog X.w) M.kp _ h₁.1
    refine wpAny_bind (L.here ?_)
    have tail : ∀ {t : Sem Value}, wpAny (model X.prog X.w) X.A t (EP X pins σ Q) X.xe s₁ → wpAny (model X.prog X.w) X.A (t >>= fun r => holding [r] point >>= fun _ => pure r) (EP X pins σ Q) X.xe s₁ :=
      fun ht => wpAny_bind (wpAny_mono ht (fun r s₂ hr => wpAny_bind (wpAny_holding (wpAny_point (wpAny_pure hr)))) fun _ _ x => x)
    have marked (mk : Value) : wpAny (model X.prog X.w) X.A (callMarked mk (.ref C) ([] ++ a.pos) a.kw) (EP X pins σ Q) X.xe s₁ := by unfold callMarked; exact Calls.wpAny_keep h₁.2
    have hst : (([] : List (Bool × Sem Value)).any (·.1) || [((Option.none : Option Str), (do let v ← eval e X.env; standAt pos; pure v : Sem Value))].any (·.1.isNone)) = true := rfl
    rcases hk' with rfl | rfl | rfl <;> simp only [hst] <;> first | exact tail (marked _) | exact tail (PySem.wpAny_operating h₁.2)
end
end K6
set_option Elab.async false
set_option linter.all false
set_option maxRecDepth 100000
set_option maxHeartbeats 4000000
namespace K6
open PySem PySem.Spec PyProof.Rows L2
/-! ### max(xs, default=d) of a list of ints -/
def maxOf (d : Int) : List Int → Int
  | [] => d
  | n :: ns => ns.foldl max n
def rMaxD (K : PySem.W.Frag) : List V → List V → Hp → VK → Prop := fun vs zs H Q => ∃ (a : Addr) (ns : List Int) (d : Int), vs = [V.ref a] ∧ zs = [.int d] ∧ SqL K H a (ns.map V.int) ∧ Q (.int (maxOf d ns)) H
theorem reads_ints {h : Heap} : ∀ {ns : List Int} {its : List Value}, Vals (ns.map V.int) its → ReadsAll h its (ns.map PyData.int) []
  | [], _, .nil => .nil
  | n :: ns, _, .cons r rs => by
    obtain ⟨t, rfl⟩ := r
    exact ReadsAll.cons (as := []) (bs := []) (.int n t) (reads_ints rs)
theorem depth_ints : ∀ ns : List Int, PyData.depthAll (ns.map PyData.int) = 0
  | [] => rfl
  | n :: ns => by simp [PyData.depthAll, PyData.depth, depth_ints ns]
theorem alike_ints (ns : List Int) : PySem.W.AlikeAll (ns.map PyData.int) := by
  refine ⟨fun x hx y hy => ?_, fun x hx => ?_⟩
  · obtain ⟨i, _, rfl⟩ := List.mem_map.mp hx
    obtain ⟨j, _, rfl⟩ := List.mem_map.mp hy
    rfl
  · obtain ⟨i, _, rfl⟩ := List.mem_map.mp hx
    exact fun z => nomatch z
theorem cr_maxD {X : Cx} {k : Nat} (hr : Room k X.A) : CallRK X (.builtin "max") ["default"] (rMaxD X.K) := by
  intro pins s σ H vs zs us ws Q I r rz h
  obtain ⟨a, ns, d, rfl, rfl, hs, q⟩ := h
  obtain ⟨its, rv, hl, hz⟩ := I.list hs
  rw [Vals.ref1 r]
  cases rz with
  | cons rd r0 =>
  cases r0
  obtain ⟨t, rfl⟩ := rd
  have hra := reads_ints (h := s.heap) rv
  have hu : X.A.units + 1 + PyData.depthAll (ns.map PyData.int) < cLine := by
    rw [depth_ints]
    have := hr.units
    omega
  refine PySem.W.max_list_default (xs := ns.map PyData.int) (as := []) hr.hd hl.isList (by simpa using hra) (alike_ints ns) hu (fun h0 h' tk hk => ?_) fun y ys i v h' tk bs e hv hrd hk => ?_
  · have e0 : ns = [] := by simpa using h0
    subst e0
    exact ⟨.int d, H, I.kept hk, ⟨_, rfl⟩, q⟩
  · cases ns with
    | nil => cases e
    | cons n ns =>
      obtain ⟨rfl, rfl⟩ := List.cons.inj e
      rw [PySem.W.maxD_ints] at hrd
      cases hrd
      exact ⟨.int _, H, I.kept hk, ⟨_, rfl⟩, q⟩
end K6
set_option Elab.async false
set_option linter.all false
set_option maxRecDepth 100000
set_option maxHeartbeats 4000000
namespace K6
open PySem PySem.Spec PyProof.Rows L2
/-! ### repr([a, b, (n, ..), c]) -/
def repOf (a b : Int) (ns : List Int) (c : Int) : Str := (PyData.list [.int a, .int b, .tuple (ns.map .int), .int c]).shown
def SmI (i : Int) : Prop := i.natAbs < 2 ^ 64
theorem smI_log {i : Int} (h : SmI i) : i.natAbs.log2 < 1920 := by
  rcases Nat.eq_zero_or_pos i.natAbs with e | e
  · rw [e]; decide
  · have := (Nat.log2_lt (by omega : i.natAbs ≠ 0)).mpr h
    omega
theorem smI_len {i : Int} (h : SmI i) : (Str.ofString (toString i)).length ≤ 65 := by
  have h2 : i.natAbs.log2 < 64 := by
    rcases Nat.eq_zero_or_pos i.natAbs with e | e
    · rw [e]; decide
    · exact (Nat.log2_lt (by omega : i.natAbs ≠ 0)).mpr h
  have e := int_text_length_le (k := 64) (by decide) h2
  rw [PySem.ofString_length]; omega
theorem leaves_ints : ∀ {ns : List Int}, (∀ n ∈ ns, SmI n) → PyData.leavesShortAll 65 (ns.map PyData.int) = true
  | [], _ => rfl
  | n :: ns, h => by
    simp only [List.map_cons, PyData.leavesShortAll, PyData.leavesShort, Bool.and_eq_true, decide_eq_true_eq]
    exact ⟨smI_len (h n List.mem_cons_self), leaves_ints fun m hm => h m (List.mem_cons_of_mem _ hm)⟩
theorem show_ints : ∀ {ns : List Int}, (∀ n ∈ ns, SmI n) → PyData.showableAll (ns.map PyData.int) = true
  | [], _ => rfl
  | n :: ns, h => by
    simp only [List.map_cons, PyData.showableAll, PyData.showable, Bool.and_eq_true, decide_eq_true_eq]
    exact ⟨smI_log (h n List.mem_cons_self), show_ints fun m hm => h m (List.mem_cons_of_mem _ hm)⟩
theorem bulk_ints : ∀ ns : List Int, PyData.bulkAll (ns.map PyData.int) = ns.length
  | [] => rfl
  | n :: ns => by simp [PyData.bulkAll, PyData.bulk, bulk_ints ns]; omega
theorem nodict_ints : ∀ ns : List Int, PyData.hasDictAll (ns.map PyData.int) = false
  | [] => rfl
  | n :: ns => by simp [PyData.hasDictAll, PyData.hasDict, nodict_ints ns]
def rRepS (K : PySem.W.Frag) : List V → Hp → VK → Prop := fun vs H Q => ∃ (l t : Addr) (a b c : Int) (ns : List Int), vs = [V.ref l] ∧ SqL K H l [.int a, .int b, .ref t, .int c] ∧ SqT K H t (ns.map V.int) ∧ SmI a ∧ SmI b ∧ SmI c ∧ (∀ n ∈ ns, SmI n) ∧ ns.length ≤ 1000 ∧ Q (.str (repOf a b ns c)) H
theorem cr_repS {X : Cx} {k : Nat} (hr : Room k X.A) (hg : X.A.guards = some []) : CallR X (.builtin "repr") (rRepS X.K) := by
  intro pins s σ H vs us Q I r h
  obtain ⟨l, t, a, b, c, ns, rfl, hl, ht, sa, sb, sc, sn, hn, q⟩ := h
  obtain ⟨its, rv, hL, hz⟩ := I.list hl
  obtain ⟨itt, rt, ⟨ot, hot, ct, nt, dt⟩, hzt⟩ := I.tuple ht
  rw [Vals.ref1 r]
  obtain ⟨ol, nl, hol, cl, _, dl⟩ := hL
  cases rv with | cons ra rv =>
  cases rv with | cons rb rv =>
  cases rv with | cons rt0 rv =>
  cases rv with | cons rc rv =>
  cases rv
  obtain ⟨ta, rfl⟩ := ra
  obtain ⟨tb, rfl⟩ := rb
  obtain ⟨tc, rfl⟩ := rc
  cases rt0
  have R : Reads s.heap (.ref l) (.list [.int a, .int b, .tuple (ns.map .int), .int c]) (l :: ([] ++ ([] ++ ([] ++ ([] ++ []))))) :=
    .list hol cl dl (.cons (.int a ta) (.cons (.int b tb) (.cons (.tuple hot ct dt (by simpa using reads_ints rt)) (.cons (.int c tc) .nil))))
  have hb : (repOf a b ns c).length ≤ sizeLine := by
    have z := PyData.shown_le_bulk 65 (by decide) (.list [.int a, .int b, .tuple (ns.map .int), .int c]) (by
      have e1 := smI_len sa
      have e2 := smI_len sb
      have e3 := smI_len sc
      simp only [PyData.leavesShort, PyData.leavesShortAll, leaves_ints sn, Bool.and_eq_true, decide_eq_true_eq, Bool.and_true]
      exact ⟨e1, e2, trivial, e3⟩)
    have e : PyData.bulk (.list [.int a, .int b, .tuple (ns.map .int), .int c]) = ns.length + 4 := by
      simp only [PyData.bulk, PyData.bulkAll, bulk_ints]; omega
    rw [e] at z
    rw [sizeLine_eq]
    have : (repOf a b ns c).length ≤ (65 + 2) * (ns.length + 4) + 65 := z
    omega
  refine repr_of_reads' R (by simp only [PyData.showable, PyData.showableAll, show_ints sn, smI_log sa, smI_log sb, smI_log sc, decide_true, Bool.and_self]) (fun z => ?_) hg ?_ (fun _ _ z => z) (fun h' u tk hk => ⟨.str _, H, I.kept hk, ⟨_, rfl⟩, q⟩) hb
  · simp only [PyData.hasDict, PyData.hasDictAll, nodict_ints, Bool.or_self] at z
    exact absurd z (by decide)
  · have e : (PyData.list [.int a, .int b, .tuple (ns.map .int), .int c]).depth = 2 := by
      simp [PyData.depth, PyData.depthAll, depth_ints]
    rw [e]
    have := hr.units
    omega
/-! ### promises where no repr is under way -/
def FnRG (P : Program) (w : World) (K : PySem.W.Frag) (mg : Str → Option Value) (base : Heap) (CX : CXT) (k : Nat) (f : Addr) (sp : Sp) : Prop :=
  ∀ (A : Around) (outer : List Env) (s : Shared) (H : Hp) (us : List Value) (vs : List V) (Q : VK) (E : XK), A.guards = some [] → Room k A → Env0 P w K mg base A outer s H → Vals vs us → sp vs H Q E →
    codeAny (model P w) A (.call (.ref f) ⟨us, []⟩) (CR CX outer P w H s Q E) s
section
variable {K : PySem.W.Frag} {x qual : Str} {params : Arguments} {body : List Stmt} {scope : Scope} {f : Addr} {fd : FuncData} {P : Program} {w : World} {mg : Str → Option Value} {base : Heap} {CX : CXT} {N ps : List Str} {k : Nat} {sp : Sp}
theorem fn_ofG (F : FunD K x qual params body scope [] [] f fd) (S : FnScope N ps scope) (hb : Binds K fd ps []) (len : ∀ vs H Q E, sp vs H Q E → vs.length = ps.length)
    (hbody : ∀ (cdv : Value) (A : Around) (outer : List Env) (s : Shared) (H : Hp) (vs : List V) (Q : VK) (E : XK), A.guards = some [] → Room k (A.deeper (envOfC qual scope s.heap.objs.size f cdv)) → sp vs H Q E →
      ∃ t, PSs (cxOf CX P w K mg base N qual scope f cdv A outer s H E) body t ∧ t { nx := fun _ H' => Q .non H', rt := Q } (start N vs) H) : FnRG P w K mg base CX (k + 1) f sp := by
  obtain ⟨oc, od, dV, kV, doc, pm, an, cdv, ct, osl, rfl, lk, hcd, _, _⟩ := F.ex
  intro A outer s H us vs Q E hg hr e0 r hsp
  have hl : us.length = ps.length := by rw [← r.length]; exact len _ _ _ _ hsp
  refine StX.run_bnd lk hcd S hr e0 (G := fun xs H2 => xs = vs ∧ H2 = H) (fun A' Ex Q' h => ?_) fun s2 H2 xs ⟨ex, eH⟩ hr' => ?_
  · have z := hb s us (e0.mod.kin.keeps fun b o e => (e0.bs b o e).1) (by rw [List.append_nil]; exact hl)
    rw [List.append_nil] at z
    exact z _ _ _ _ (h s H vs us e0 Un.refl rfl (fun _ _ q => q) r (by rw [r.length]; exact hl) ⟨rfl, rfl⟩)
  · subst ex eH
    exact hbody cdv A outer s2 _ _ Q E hg hr' hsp
end
section
variable {X : Cx} {CX : CXT} {k : Nat} {f : Addr} {sp : Sp} {E : XK} {x : Str} {p pos : Pos} {e : Expr} {es : List Expr} {t : TA}
theorem run_fnRG {pins : List (Addr × Obj)} {σ : L2.St} {H : Hp} {s : Shared} {Q : VK} {us : List Value} {vs : List V} (hg : X.A.guards = some []) (F : FnRG X.prog X.w X.K X.mg X.base CX k f sp) (hr : Room k X.A) (hx : Passes CX X E) (I : Inv X pins σ H s) (r : Vals vs us) (h : sp vs H Q E) :
    codeAny (model X.prog X.w) X.A (.call (.ref f) ⟨us, []⟩) (fun r s' => match r with | .ok (.ret u) => EP X pins σ Q u s' | .ok _ => False | .error e => X.xe e s') s := by
  refine codeAny_mono (F X.A X.stack s H us vs Q E hg hr I.env0 r h) fun res s' hq => ?_
  cases res with
  | error e => exact hx pins σ H s e s' I hq
  | ok fl =>
    cases fl with
    | ret u => exact I.after hq
    | next => exact False.elim hq
    | brk => exact False.elim hq
    | cont => exact False.elim hq
theorem pe_calG (hgd : X.A.guards = some []) (F : FnRG X.prog X.w X.K X.mg X.base CX k f sp) (hr : Room k X.A) (hk : PySem.W.keepIn X.K (.ref f) = true) (hg : Gl X x) (hm : X.mg x = some (.ref f)) (hx : Passes CX X E)
    (ha : PA X (e :: es) t) (hdb : (x == ("__debug__" : Str)) = false := by decide) (he : starEach (e :: es) X.env = (false, eval e X.env) :: starEach es X.env := by rfl) (hpl : (backTo pos (starEach es X.env)).any (·.1) = false := by rfl) :
    PE X (.Call (.Name x p) (e :: es) [] pos) (tCal sp E t) := by
  refine ⟨fun pins s σ H Q I h => ?_⟩
  refine wpAny_Call_Name_kw (ld_glob I hg hm ?_ hdb)
  refine PySem.W.callWith_K (h₀ := X.base) I.ok.mod.kin hk (thn (ha.run pos pins s σ H _ I h) fun us s1 ⟨vs, H1, I1, r, q⟩ => ⟨I1.kIn, ?_⟩) he hpl
  exact wpAny_call (run_fnRG hgd F hr hx I1 r q)
end
end K6
set_option Elab.async false
set_option linter.all false
set_option maxRecDepth 100000
set_option maxHeartbeats 4000000
namespace K6
open PySem PySem.Spec PyProof.Rows L2
/-! ### the end: the law's promise is told where no repr is under way -/
theorem law_callG {P : Program} {w : World} {K : PySem.W.Frag} {mg mb : Str → Option Value} {CX : CXT} {k : Nat} {fa a : Addr} {sp : Sp} {s₁ : Shared} {vs : List Value} {ns : List Int}
    (KX : K.In s₁.heap) (hns : s₁.heap.Ns mainGlobals mg) (hb : s₁.heap.Ns builtinsNs mb) (hbb : ∀ x : Str, x ≠ "__name__" → mb x = bootBuiltins x) (hlim : s₁.heap.NoLimit) (hg : s₁.gens = #[])
    (ha : s₁.heap.get? a = some { cls := .type "list", data := .seq vs.toArray }) (hi : IntsAre vs ns) (hl : ns.length ≤ sizeLine) (hr : Room k callerA)
    (F : ∀ base : Heap, K.In base → base.Ns mainGlobals mg → FnRG P w K mg base CX k fa sp)
    (hsp : ∀ H : Hp, Only H → SqL K H a (ns.map V.int) → sp [.ref a] H (fun v _ => v = .bl true) fun _ _ _ => False)
    (hCX : ∀ H e s', CX [] H s₁ (fun _ _ _ => False) e s' → False) :
    codeAny (model P w) callerA (.call (.ref fa) ⟨[.ref a], []⟩) (fun r s' => r = .ok (.ret (.bool true)) ∧ OldK s₁.heap s'.heap ∧ s'.os = s₁.os ∧ AllBare s'.gens) s₁ := by
  have rv := vals_ints hi
  have go : ∀ H : Hp, Only H → SqL K H a (ns.map V.int) → HOk P w H s₁.heap → (∀ b o, s₁.heap.get? b = some o → (b = a → K.lookup a ≠ none) → H b = none) → 
      codeAny (model P w) callerA (.call (.ref fa) ⟨[.ref a], []⟩) (fun r s' => r = .ok (.ret (.bool true)) ∧ OldK s₁.heap s'.heap ∧ s'.os = s₁.os ∧ AllBare s'.gens) s₁ := by
    intro H hO hS hok hN
    have nsK : ∀ {b : Addr} {m : Str → Option Value}, s₁.heap.Ns b m → (hidT s₁.heap H).Ns b m := fun {b m} ⟨o, es, ep, e, d, q⟩ => ⟨o, es, ep, hidT_get e (hN b o e fun z => by
      subst z
      rw [ha] at e
      cases e
      exact nomatch (show Data.seq vs.toArray _ = Data.dict es ep from d)), d, q⟩
    have hKb : K.In (hidT s₁.heap H) := fun b o e => hidT_get (KX b o e) (hN b o (KX b o e) fun z => by subst z; rw [e]; simp)
    have hM : Mod K mg (hidT s₁.heap H) := ⟨hKb, nsK hns, ⟨mb, nsK hb, hbb⟩, let ⟨mc, h1, h2⟩ := hlim; ⟨mc, nsK h1, h2⟩⟩
    have e0 : Env0 P w K mg (hidT s₁.heap H) callerA [] s₁ H := ⟨rfl, hM, fun b o e => of_hidT e, Nat.le_of_eq (hidT_size _ _), trivial, fun b hb => absurd (show b ∈ ([] : List Addr) from hb) (by simp), hok, .of_eq hg⟩
    refine codeAny_mono (F _ hKb (nsK hns) callerA [] s₁ H [.ref a] [.ref a] _ _ rfl hr e0 (.cons rfl .nil) (hsp H hO hS)) fun r s' h => ?_
    match r, h with
    | .error e, h => exact (hCX H e s' h).elim
    | .ok (.ret u), ⟨v, H', os, bare, un, hok', r', q⟩ =>
      obtain rfl : v = .bl true := q
      obtain rfl : u = Value.bool true := r'
      refine ⟨rfl, OldK.of_keep fun b o e => ?_, os, bare⟩
      rcases hO b with z | ⟨ob, xs, z⟩
      · exact un.keep b o e z (fun y => absurd (show b ∈ ([] : List Addr) from y) (by simp)) (by simp)
      · obtain ⟨e1, _⟩ := hok b _ z
        obtain ⟨e2, _⟩ := hok' b _ (un.frzs b ob _ z)
        rw [e] at e1
        cases e1
        exact e2
  cases hk : K.lookup a with
  | some o =>
    have e := KX a o hk
    rw [ha] at e
    cases e
    exact go (fun _ => none) (fun _ => .inl rfl) (.inr ⟨_, vs.toArray, _, hk, rfl, rfl, rfl, by rw [List.size_toArray, hi.length]; exact hl, by simpa using rv⟩) (fun b u z => nomatch (show (none : Option HO) = some u from z)) fun _ _ _ _ => rfl
  | none =>
    refine go (fun b => if b = a then some (.frz { cls := .type "list", data := .seq vs.toArray } (.lst (ns.map V.int))) else none) (fun b => ?_) (.inl (.inr ⟨{ cls := .type "list", data := .seq vs.toArray }, if_pos rfl⟩)) (fun b u z => ?_) fun b o e z => ?_
    · by_cases hb : b = a
      · exact .inr ⟨_, _, if_pos hb⟩
      · exact .inl (if_neg hb)
    · by_cases hb : b = a
      · subst hb
        cases (if_pos rfl).symm.trans z
        exact ⟨ha, by rw [List.length_map]; exact hl, vs, _, rv, ha⟩
      · cases (if_neg hb).symm.trans z
    · by_cases hb : b = a
      · exact absurd hk (z hb)
      · exact if_neg hb
/-- the law behind a head by facts -/
theorem walk_ofG {l : PySem.W.OpenLaw} {n k : Nat} {q : Program} {loose : List Str} {XP : (Str → Option Value) → Heap → Prop} {YP : World → Heap → Prop} {d : DefRec} {CX : CXT}
    (hn : l.most = some n) (hn2 : n ≤ sizeLine) (hdf : d.params.defaults = []) (hr : Room k callerA)
    (F : ∀ (w : World) (mg : Str → Option Value) (fa : Addr) (h : Heap), YP w h → h.Ns mainGlobals mg → mg d.name = some (.ref fa) →
      ∃ (K : PySem.W.Frag) (sp : Sp), K.In h ∧
        (∀ (H : Hp) (a : Addr) (ns : List Int), ns.length ≤ n → Only H → SqL K H a (ns.map V.int) → sp [.ref a] H (fun v _ => v = .bl true) fun _ _ _ => False) ∧
        ∀ base : Heap, K.In base → base.Ns mainGlobals mg → FnRG l.prog w K mg base CX k fa sp)
    (hCX : ∀ (H : Hp) (s : Shared) (e : Value) (s' : Shared), CX [] H s (fun _ _ _ => False) e s' → False) :
    PySem.W.WalkO q loose XP YP l.row.toRowW d [] (fun f vs => PySem.call f vs) := by
  refine Att.attach_call hn hdf fun w s₀ s₁ mg mb fa o pm cd doc a vs ns G Y ho hd hcd hmg hobj hints hlen hg => ?_
  obtain ⟨K, sp, KX, hsp, hF⟩ := F w mg fa _ Y G.T.g hmg
  exact law_callG KX G.T.g G.T.b G.T.builtins G.T.nolimit hg hobj hints (Nat.le_trans hlen hn2) hr hF (fun H hO hS => hsp H a ns hlen hO hS) fun H e s' => hCX H s₁ e s'
end K6
set_option Elab.async false
set_option linter.all false
set_option maxRecDepth 100000
set_option maxHeartbeats 4000000
namespace K6
open PySem PySem.Spec PyProof.Rows L2
/-! ### enumerate(tuple) -/
theorem meets_enumT {v : Value} {o : Obj} {H : Heap → Prop} (B : Begins v o H) :
    Meets (Builtin.«enumerate.__new__» ⟨[.type "enumerate", v], []⟩) (fun _ R s => H s.heap ∧
      R (.ok (.ret (.ref (s.heap.push o).objs.size))) { s with heap := (s.heap.push o).push { cls := .type "enumerate", data := .fields #[.none, .bool false, .ref s.heap.objs.size, rawInt 0, .none, .none] } }) :=
  .of_wp fun prog w A R s h => by
    obtain ⟨hp, g, d, tk, os⟩ := s; obtain ⟨h1, h⟩ := h
    have hsub := sub_enumerate
    have q1 : ∀ {A' : Around} {E : Value → Shared → Prop} {Q : Value → Shared → Prop}, Q (.ref hp.objs.size) ⟨hp.push o, g, d, tk, os⟩ → wpAny (model prog w) A' (pyIter v) Q E ⟨hp, g, d, tk, os⟩ :=
      fun q => B.iter prog w _ _ ⟨hp, g, d, tk, os⟩ _ h1 q
    wp_walk using q1
    refine wpAny_stack_any fun st => wpAny_pure ?_
    split
    · rename_i c _ _ _ _ _
      cases (c == Value.type "enumerate")
      · wp_walk using q1
        exact ⟨_, rfl, h⟩
      · wp_walk using q1
        exact ⟨_, rfl, h⟩
    · wp_walk using q1
      exact ⟨_, rfl, h⟩
theorem call_enumT {prog : Program} {w : World} {A : Around} {E : Value → Shared → Prop} {s : Shared} {v : Value} {o : Obj} {H : Heap → Prop} {Q : Value → Shared → Prop} (B : Begins v o H) (h1 : H s.heap)
    (h : ∀ h', IsEnum h' (s.heap.objs.size + 1) s.heap.objs.size 0 .none → h'.get? s.heap.objs.size = some o → (∀ b o, s.heap.get? b = some o → h'.get? b = some o) → Q (.ref (s.heap.objs.size + 1)) { s with heap := h' }) :
    wpAny (model prog w) A (call (.type "enumerate") [v]) Q E s := by
  refine callType_new F.called_enumerate (by decide) (F.typeCall_enumerate_1 _) (F.newCall_enumerate_1 _) (fun obj => F.args_object_init_2 obj _) F.entry_enumerate_new (meets_enumT B) ⟨h1, ?_⟩
  have hz : (s.heap.push o).objs.size = s.heap.objs.size + 1 := Heap.size_push ..
  show _ ∧ _
  rw [hz]
  have he : IsEnum ((s.heap.push o).push { cls := .type "enumerate", data := .fields #[.none, .bool false, .ref s.heap.objs.size, rawInt 0, .none, .none] }) (s.heap.objs.size + 1) s.heap.objs.size 0 .none := by
    have := Heap.get?_push_size (s.heap.push o) (o := { cls := .type "enumerate", data := .fields #[.none, .bool false, .ref s.heap.objs.size, rawInt 0, .none, .none] }) rfl
    rw [hz] at this; exact this
  exact ⟨⟨_, he, rfl⟩, h _ he (Heap.get?_push_of_some _ (Heap.get?_push_size _ B.free)) fun b o x => Heap.get?_push_of_some _ (Heap.get?_push_of_some _ x)⟩
/-- the tuple at a, each item in a new pair -/
def IteT (K : PySem.W.Frag) (a : Addr) : It :=
  ⟨fun i H => ∃ (xs : List V) (x : V), SqT K H a xs ∧ xs[i]? = some x, fun i H v H' => ∃ T x, v = .ref T ∧ H T = none ∧ H' = upd H T (.tup [.int (i : Nat), x]) ∧ ∀ xs, SqT K H a xs → xs[i]? = some x, fun i H => ∃ xs : List V, SqT K H a xs ∧ xs.length ≤ i⟩
theorem turn_enumT {P : Program} {w : World} {K : PySem.W.Frag} {elts : List Expr} {kk : Nat} {tpos : Pos} (a e it : Addr) :
    Turn P w K (.Tuple elts kk tpos) (IteT K a) [e, it] e (fun i h => (∃ old, IsEnum h e it ((i : Nat) : Int) old) ∧ h.IsTupleIter it a i ∧ e ≠ it) where
  mem := by simp
  obj := fun i h st b hb => by
    obtain ⟨⟨old, he⟩, ⟨o, ho, hc, hd⟩, _⟩ := st
    have e' : b = e ∨ b = it := by simpa using hb
    rcases e' with z | z
    · rw [z]; exact ⟨_, he, fun v q => nomatch q⟩
    · rw [z]; exact ⟨o, ho, fun v q => by rw [hd] at q; cases q⟩
  keep := fun i h h' st k => let ⟨⟨old, he⟩, hi, hne⟩ := st; ⟨⟨old, k e (by simp) _ he⟩, hi.at fun o q => k it (by simp) o q, hne⟩
  item := by
    intro X hP hw hK hc i pins s σ H E I hf st hg
    subst hP hw hK
    obtain ⟨⟨old, he⟩, hit, hne⟩ := st
    obtain ⟨xs, x, hq, hx⟩ := hg
    obtain ⟨its, rv, p, hz⟩ := I.tuple hq
    obtain ⟨u, hu, ru⟩ := rv.get hx
    have hel : e < s.heap.objs.size := Heap.lt_size he
    have hil : it < s.heap.objs.size := by obtain ⟨_, q, _⟩ := hit; exact Heap.lt_size q
    obtain ⟨oa, hoa, hca, _⟩ := id p
    have hea : e ≠ a := fun z => by
      subst z
      rw [he] at hoa
      obtain rfl := Option.some.inj hoa
      exact absurd (Value.type.inj hca) (by decide)
    have hia : a ≠ it := fun z => by
      subst z
      obtain ⟨oi, q, c, _⟩ := hit
      rw [hoa] at q
      obtain rfl := Option.some.inj q
      rw [hca] at c
      exact absurd (Value.type.inj c) (by decide)
    have hlt : i < its.toArray.size := by
      have := List.getElem?_eq_some_iff.mp hu
      simpa using this.1
    refine wpAny_pyNext_enum_itemD (Draws.tuple (A := X.A.in1) (I.ok.hd hc) it a hia its.toArray) he ⟨hit, p⟩ hlt hne (by simp [hne, hea]) fun y h' tk hy ho st' hT hsz hk => ?_
    obtain ⟨hit', _⟩ := st'
    have ey : y = u := by
      have hy' : its[i]? = some y := by simpa using hy
      rw [hu] at hy'
      exact (Option.some.inj hy').symm
    subst ey
    refine ⟨_, rfl, wpAny_letOwnedTupleGo_enum (s := { s with heap := h', toks := tk + 1 }) ho fun h'' he' sb => ?_⟩
    have hT2 : h''.get? s.heap.objs.size = some { cls := .type "tuple", data := .seq #[.int i tk, y] } := (sb.2 _ (Nat.ne_of_gt hel)).trans hT
    have new : ObjOk X.prog X.w (upd H s.heap.objs.size (.tup [.int (i : Nat), x])) h'' s.heap.objs.size (.tup [.int (i : Nat), x]) :=
      ⟨by show 2 ≤ sizeLine; decide, [.int i tk, y], .cons ⟨_, rfl⟩ (.cons ru .nil), ⟨_, hT2, rfl, _, rfl⟩⟩
    have I1 : Inv X pins σ (upd H s.heap.objs.size (.tup [.int (i : Nat), x])) { s with heap := h'', toks := tk + 1 } :=
      I.turnedNew (ch := [e, it]) (fun b ob hb q => (sb.2 b (fun z => hb (by simp [z]))).trans (hk b ob (fun z => hb (by simp [z])) (fun z => hb (by simp [z])) q)) hf (Nat.le_refl _) new
    refine ⟨.ref s.heap.objs.size, _, I1, rfl, ⟨_, x, rfl, I.hok.fresh (Nat.le_refl _), rfl, fun ys hy => by rw [I.tuple_inj hy hq]; exact hx⟩, ⟨⟨y, ?_⟩, hit'.at fun o q => (sb.2 it (Ne.symm hne)).trans q, hne⟩, fun b hb => ?_⟩
    · have e1 : ((i + 1 : Nat) : Int) = (i : Int) + 1 := by omega
      rw [e1]; exact he'
    · have hb' : b < s.heap.objs.size := by
        have e' : b = e ∨ b = it := by simpa using hb
        rcases e' with z | z
        · rw [z]; exact hel
        · rw [z]; exact hil
      rw [upd_ne (Nat.ne_of_lt hb')]
      exact (hf b hb).1
  done := by
    intro X hP hw hK hc i pins s σ H E I hf st hg
    subst hP hw hK
    obtain ⟨⟨old, he⟩, hit, hne⟩ := st
    obtain ⟨xs, hq, hx⟩ := hg
    obtain ⟨its, rv, p, hz⟩ := I.tuple hq
    obtain ⟨f0, f1, f2, f3, f4, f5⟩ := hf it (by simp)
    have hl := rv.length
    have hT : s.TypeIs (.ref e) "enumerate" := ⟨_, he, rfl⟩
    unfold pyNext
    refine wpAny_bind (wpAny_attempt (wpAny_callSpecial?_slot (name := Str.ofString "__next__") hT PySem.F.slot_enumerate_next
      (wpAny_call_entry PySem.F.slot_enumerate_next hT PySem.F.entry_enumerate_next ?_ (PySem.F.args_enumerate_next_1 _))))
    show wpAny _ _ (field (.ref e) 2 >>= _) _ _ _
    refine wpAny_bind (wpAny_field he rfl (x := .ref it) rfl ?_)
    refine wpAny_bind (wpAny_nextOf_tuple_end (A := X.A.in1) (I.ok.hd hc) hit p (by simp; omega) fun h' x he' hx' => ?_)
    obtain ⟨o, ho, hc'⟩ := hx'
    refine wpAny_bind (wpAny_isInstance (T := "StopIteration") (b := true) ⟨o, ho, hc'⟩ isSubtype_stop ?_)
    exact wpAny_pure ⟨rfl, I.turned (t' := s.toks) (fun b o hb q => he' b o hb q) f0 f1 f3 f4 f5⟩
  self := fun A i s Q E st h => let ⟨⟨_, he⟩, _⟩ := st; wpAny_pyIter_enum he h
def iEnumT (K : PySem.W.Frag) (ta : TA) : TI := fun σ H R => ta σ H fun vs H1 => ∃ a xs, vs = [.ref a] ∧ SqT K H1 a xs ∧ R (IteT K a) H1
theorem pi_enumT {X : Cx} {e : Expr} {ta : TA} {p pos tpos : Pos} {elts : List Expr} {kk : Nat} (hg : Gl X "enumerate") (hm : X.mg "enumerate" = none) (ha : PA X [e] ta) (hs : starEach [e] X.env = [(false, eval e X.env)] := by rfl) :
    PI X (.Tuple elts kk tpos) (.Call (.Name "enumerate" p) [e] [] pos) (iEnumT X.K ta) := by
  refine ⟨fun pins s σ H R I h => ?_⟩
  refine Call_ (ld_blt I hg hm boot_enumerate (PyProof.Rows.callWith_type1 (thn (ha.run pos pins s σ H _ I h) fun us s1 ⟨vs, H1, I1, r1, q1⟩ => ?_) hs rfl))
  obtain ⟨a, xs, ex, hq, q⟩ := q1
  subst ex
  cases r1 with
  | cons r rr =>
    cases rr
    cases r
    obtain ⟨its, rv, p', hz⟩ := I1.tuple hq
    refine call_enumT (begins_tuple a its.toArray) p' fun h' he hit hk => wpAny_pyIter_enum he ?_
    have I2 : Inv X pins σ H1 { s1 with heap := h' } := I1.kept (t' := s1.toks) hk
    refine ⟨s1.heap.objs.size + 1, [s1.heap.objs.size + 1, s1.heap.objs.size], _, _, H1, rfl, I2, turn_enumT a (s1.heap.objs.size + 1) s1.heap.objs.size, ⟨⟨.none, he⟩, ⟨_, hit, rfl, rfl⟩, Nat.succ_ne_self _⟩, fun b hb => ?_, q⟩
    have e' : b = s1.heap.objs.size + 1 ∨ b = s1.heap.objs.size := by simpa using hb
    have hle : s1.heap.objs.size ≤ b := by
      rcases e' with z | z
      · rw [z]; exact Nat.le_add_right _ _
      · rw [z]; exact Nat.le_refl _
    exact I1.fpOk hle (I1.hok.fresh hle)
theorem walk_enumT {K : PySem.W.Frag} {a : Addr} {xs : List V} : Walk (IteT K a) xs.length (fun H => SqT K H a xs) (YPair (fun i => some (.int (i : Nat))) (fun i => xs[i]?)) := by
  refine ⟨fun i _ hi q => ⟨xs, xs[i], q, by simp [hi]⟩, fun _ q => ⟨xs, q, Nat.le_refl _⟩, fun i H v H' _ q y => ?_⟩
  obtain ⟨T, x, h1, h2, h3, h4⟩ := y
  exact ⟨T, .int (i : Nat), x, h1, h2, h3, rfl, h4 xs q⟩
end K6
set_option Elab.async false
set_option linter.all false
set_option maxRecDepth 100000
set_option maxHeartbeats 4000000
/-! ### xs != ys of two lists whose items are equal by an == of the text's own -/
namespace K6N
open PySem PySem.SeqAt GQ
open AutoSeq1 (wpAny_loadPart')
open MeetsSeq MeetsSeq2 MeetsSeq3 SeqRoads2
section
variable {prog : Program} {w : World} {A : Around} {R : Result → Shared → Prop} {l b : Addr} {N : Nat} {I : Nat → Shared → Prop}
/-- the walk of the items, told to answer whether they differ -/
theorem ne_turns (hl : ListI prog w A (fun e s' => R (.error e) s') l b N I) (fin : ∀ s, I N s → R (.ok (.ret (.bool false))) s) :
    ∀ (k i : Nat) (s : Shared), i + k = N → I i s → wpAny (model prog w) A.in1 (Builtin.«list.__eq__.loop» ⟨[.ref l, .ref b, rawInt i, rawInt 3], []⟩) (FinOf prog w A R) (fun e s' => R (.error e) s') s
  | 0, i, s, hk, h => by
    obtain ⟨xs, ys, n, n2, g1, g2, z1, z2, _⟩ := hl _ _ h
    have ei : i = N := by omega
    have last : R (.ok (.ret (.bool false))) s := fin s (ei ▸ h)
    obtain ⟨hp, g, d, tk, os⟩ := s
    wp_walk using wpAny_loadPart' g1, wpAny_loadPart' g2
    rw [show xs[((i : Nat) : Int).toNat]? = none by simp; omega, show ys[((i : Nat) : Int).toNat]? = none by simp; omega]
    wp_walk using wpAny_loadPart' g1, wpAny_loadPart' g2
    show R (.ok (.ret (.bool (xs.size != ys.size)))) _
    rw [z1, z2]
    simpa using last
  | k + 1, i, s, hk, h => by
    obtain ⟨xs, ys, n, n2, g1, g2, z1, z2, one⟩ := hl _ _ h
    have b1 : i < xs.size := by omega
    have b2 : i < ys.size := by omega
    have here := one b1 b2
    obtain ⟨hp, g, d, tk, os⟩ := s
    wp_walk using wpAny_loadPart' g1, wpAny_loadPart' g2
    rw [show xs[((i : Nat) : Int).toNat]? = some xs[i] by simp [b1], show ys[((i : Nat) : Int).toNat]? = some ys[i] by simp [b2]]
    refine wpAny_bind (wpAny_mono here (fun r s2 q => ?_) fun _ _ x => x)
    obtain ⟨er, q⟩ := q
    subst er
    have rest := ne_turns hl fin k (i + 1) s2 (by omega) q
    obtain ⟨hp2, g2', d2, tk2, os2⟩ := s2
    wp_walk
    rw [show ((i : Int) + 1) = ((i + 1 : Nat) : Int) by omega]
    exact ⟨plainId_quiet plain_eq_loop _, codeAny_builtin entry_eq_loop (by rw [Around.under_plainId plain_eq_loop _]; exact rest)⟩
theorem ne_lists (hl : ListI prog w A (fun e s' => R (.error e) s') l b N I) (fin : ∀ s, I N s → R (.ok (.ret (.bool false))) s) {s : Shared} (h : I 0 s) :
    wpAny (model prog w) A.in1 (Builtin.«list.__ne__» ⟨[.ref l, .ref b], []⟩) (FinOf prog w A R) (fun e s' => R (.error e) s') s := by
  obtain ⟨xs, ys, n, n2, g1, g2, z1, z2, _⟩ := hl _ _ h
  have rest := ne_turns hl fin N 0 s (by omega) h
  obtain ⟨hp, g, d, tk, os⟩ := s
  have f3 := AutoSeq1.sub_list_list
  have hz : ¬ (xs.size != ys.size) = true := by simp [z1, z2]
  wp_walk using wpAny_loadPart' g1, wpAny_loadPart' g2
  exact ⟨plainId_quiet plain_eq_loop _, codeAny_builtin entry_eq_loop (by rw [Around.under_plainId plain_eq_loop _]; exact rest)⟩
end
theorem ne_rich {prog : Program} {w : World} {A : Around} {E : Value → Shared → Prop} {s : Shared} {l b : Addr} {N : Nat} {Q : Value → Shared → Prop} (hu : A.units < cLine) (I : Nat → Shared → Prop) (hl : ListI prog w A E l b N I)
    (fin : ∀ s, I N s → Q (.bool false) s) (h : I 0 s) : wpAny (model prog w) A (richCompare .NotEq (.ref l) (.ref b)) Q E s := by
  obtain ⟨xs, ys, n, n2, g1, g2, _, _, _⟩ := hl _ _ h
  refine wpAny_richCompare_same_room (op := .NotEq) ⟨_, g1, rfl⟩ ⟨_, g2, rfl⟩ F.slot_list_ne (call_here F.slot_list_ne ⟨_, g1, rfl⟩ F.entry_list_ne (F.args_list_ne_2 _ _) ?_) hu
  exact ne_lists (R := wants (fun v s' => v ≠ .notImplemented ∧ Q v s') E) hl (fun s' q => ⟨(fun x => nomatch x), fin s' q⟩) h
end K6N
namespace K6
open PySem PySem.Spec PyProof.Rows L2
def rNeL (D : Eqv) : R2 := fun x y H Q => DList D x y H ∧ ∀ H', Ext H H' → Q (.bl false) H'
theorem op_neL {X : Cx} {n : Nat} {D : Eqv} (hD : Mon D) (h : EqG X n D) (hr : Room (n + 1) X.A) : OpR X (compareOp .NotEq) (rNeL D) := by
  intro pins s σ H x y v u Q I rx ry hq
  obtain ⟨⟨a, b, xs, ys, rfl, rfl, ha, hb, p⟩, q⟩ := hq
  cases rx
  cases ry
  have sb : Sub X (n + 1) X.A := ⟨hr, rfl⟩
  show wpAny (model X.prog X.w) X.A (richCompare .NotEq (.ref a) (.ref b)) (EP X pins σ Q) X.xe s
  refine K6N.ne_rich (N := xs.length) sb.room.units0 (fun _ s' => LoopI X pins σ H s') (fun i s' q => ?_) (fun s' ⟨H', I', e⟩ => ⟨.bl false, H', I', rfl, q H' e⟩) ⟨H, I, Ext.rfl'⟩
  obtain ⟨H1, I1, e1⟩ := id q
  obtain ⟨z, its, k, r, e⟩ := I1.hok a _ (e1 _ _ ha)
  obtain ⟨z2, its2, k2, r2, e2⟩ := I1.hok b _ (e1 _ _ hb)
  exact ⟨its.toArray, its2.toArray, k, k2, e, e2, by rw [List.size_toArray, ← r.length], by rw [List.size_toArray, ← r2.length, ← p.1], fun h1 h2 => turnG hD h sb p r r2 i h1 h2 s' q⟩
end K6
set_option Elab.async false
set_option linter.all false
set_option maxRecDepth 100000
set_option maxHeartbeats 0
namespace K6
open PySem PySem.Spec PyProof.Rows L2
open He (ga ma fAd eqO eqO_ok ba frG frG_in growD)
/-! ### the facts, by names -/
structure Txt (P : Program) (K : PySem.W.Frag) (mg : Str → Option Value) : Prop where
  g_is_integer : mg "is_integer" = some (.ref (ga K "is_integer"))
  g_is_between : mg "is_between" = some (.ref (ga K "is_between"))
  g_is_number : mg "is_number" = some (.ref (ga K "is_number"))
  g_is_name : mg "is_name" = some (.ref (ga K "is_name"))
  g_is_row : mg "is_row" = some (.ref (ga K "is_row"))
  g_need_all_trips : mg "need_all_trips" = some (.ref (ga K "need_all_trips"))
  g_places_of : mg "places_of" = some (.ref (ga K "places_of"))
  g_need_few : mg "need_few" = some (.ref (ga K "need_few"))
  g_unbalanced : mg "unbalanced" = some (.ref (ga K "unbalanced"))
  g_need_names_alone : mg "need_names_alone" = some (.ref (ga K "need_names_alone"))
  g_need_table : mg "need_table" = some (.ref (ga K "need_table"))
  g_needed_pauses : mg "needed_pauses" = some (.ref (ga K "needed_pauses"))
  g_need_place : mg "need_place" = some (.ref (ga K "need_place"))
  g_under : mg "under" = some (.ref (ga K "under"))
  g_stair_of : mg "stair_of" = some (.ref (ga K "stair_of"))
  g_stair : mg "stair" = some (.ref (ga K "stair"))
  g_need_two : mg "need_two" = some (.ref (ga K "need_two"))
  g_above : mg "above" = some (.ref (ga K "above"))
  g_never_above : mg "never_above" = some (.ref (ga K "never_above"))
  g_alike : mg "alike" = some (.ref (ga K "alike"))
  g_need_stocks : mg "need_stocks" = some (.ref (ga K "need_stocks"))
  g_lateness : mg "lateness" = some (.ref (ga K "lateness"))
  g_law_pen : mg "_law_pen" = some (.ref (ga K "_law_pen"))
  g_law_draw : mg "_law_draw" = some (.ref (ga K "_law_draw"))
  g_law_pick : mg "_law_pick" = some (.ref (ga K "_law_pick"))
  g_law_takes : mg "_law_takes" = some (.ref (ga K "_law_takes"))
  g_law_plain : mg "_law_plain" = some (.ref (ga K "_law_plain"))
  g_law_table : mg "_law_table" = some (.ref (ga K "_law_table"))
  g_law_scaled_right : mg "_law_scaled_right" = some (.ref (ga K "_law_scaled_right"))
  g_law_moved_right : mg "_law_moved_right" = some (.ref (ga K "_law_moved_right"))
  g_law_renamed : mg "_law_renamed" = some (.ref (ga K "_law_renamed"))
  g_law_joined_right : mg "_law_joined_right" = some (.ref (ga K "_law_joined_right"))
  g_law : mg "law" = some (.ref (ga K "law"))
  g_Day : mg "Day" = some (.ref (ga K "Day"))
  g_Trip : mg "Trip" = some (.ref (ga K "Trip"))
  g_Paused : mg "Paused" = some (.ref (ga K "Paused"))
  g_Run : mg "Run" = some (.ref (ga K "Run"))
  g_Stay : mg "Stay" = some (.ref (ga K "Stay"))
  g_Table : mg "Table" = some (.ref (ga K "Table"))
  g_Pauses : mg "Pauses" = some (.ref (ga K "Pauses"))
  g_Stair : mg "Stair" = some (.ref (ga K "Stair"))
  g_Above : mg "Above" = some (.ref (ga K "Above"))
  g_Place : mg "Place" = some (.ref (ga K "Place"))
  f_isinstance : mg "isinstance" = none
  f_int : mg "int" = none
  f_bool : mg "bool" = none
  f_abs : mg "abs" = none
  f_len : mg "len" = none
  f_str : mg "str" = none
  f_all : mg "all" = none
  f_list : mg "list" = none
  f_tuple : mg "tuple" = none
  f_sorted : mg "sorted" = none
  f_set : mg "set" = none
  f_sum : mg "sum" = none
  f_max : mg "max" = none
  f_enumerate : mg "enumerate" = none
  f_range : mg "range" = none
  f_dict : mg "dict" = none
  f_repr : mg "repr" = none
  f_iter : mg "iter" = none
  f_super : mg "super" = none
  c_MOST_NUMBER : ∃ t, mg "MOST_NUMBER" = some (.int 1000000000000 t)
  c_MOST_LENGTH : ∃ t, mg "MOST_LENGTH" = some (.int 1000000000000 t)
  c_MOST_TRIPS : ∃ t, mg "MOST_TRIPS" = some (.int 40 t)
  c_MOST_PLACES : ∃ t, mg "MOST_PLACES" = some (.int 8 t)
  c_LETTERS : ∃ t, mg "LETTERS" = some (.str "abcdefghijklmnopqrstuvwxyz" t)
  cl_Day : Cls K (ga K "Day")
  na_Day_length : NoAttr K (ga K "Day") "length"
  cl_Run : Cls K (ga K "Run")
  na_Run_name : NoAttr K (ga K "Run") "name"
  na_Run_start : NoAttr K (ga K "Run") "start"
  na_Run_leaves : NoAttr K (ga K "Run") "leaves"
  na_Run_takes : NoAttr K (ga K "Run") "takes"
  na_Run_goal : NoAttr K (ga K "Run") "goal"
  cl_Stay : Cls K (ga K "Stay")
  na_Stay_name : NoAttr K (ga K "Stay") "name"
  na_Stay_start : NoAttr K (ga K "Stay") "start"
  na_Stay_leaves : NoAttr K (ga K "Stay") "leaves"
  na_Stay_takes : NoAttr K (ga K "Stay") "takes"
  na_Stay_goal : NoAttr K (ga K "Stay") "goal"
  cl_Table : Cls K (ga K "Table")
  na_Table_day : NoAttr K (ga K "Table") "day"
  na_Table_names : NoAttr K (ga K "Table") "names"
  na_Table_places : NoAttr K (ga K "Table") "places"
  na_Table_rows : NoAttr K (ga K "Table") "rows"
  cl_Pauses : Cls K (ga K "Pauses")
  na_Pauses_numbers : NoAttr K (ga K "Pauses") "numbers"
  na_Pauses_rows : NoAttr K (ga K "Pauses") "rows"
  cl_Stair : Cls K (ga K "Stair")
  na_Stair_length : NoAttr K (ga K "Stair") "length"
  na_Stair_base : NoAttr K (ga K "Stair") "base"
  na_Stair_rises : NoAttr K (ga K "Stair") "rises"
  na_Stair_step : NoAttr K (ga K "Stair") "step"
  cl_Above : Cls K (ga K "Above")
  na_Above_number : NoAttr K (ga K "Above") "number"
  na_Above_pauses : NoAttr K (ga K "Above") "pauses"
  cl_Place : Cls K (ga K "Place")
  na_Place_length : NoAttr K (ga K "Place") "length"
  na_Place_leavings : NoAttr K (ga K "Place") "leavings"
  na_Place_ends : NoAttr K (ga K "Place") "ends"
  na_Place_comings : NoAttr K (ga K "Place") "comings"
  me_Table_need_names : Meth K (ga K "Table") "need_names" (ma K (ga K "Table") "need_names")
  me_Table_moved : Meth K (ga K "Table") "moved" (ma K (ga K "Table") "moved")
  me_Table_scaled : Meth K (ga K "Table") "scaled" (ma K (ga K "Table") "scaled")
  me_Run_timed : Meth K (ga K "Run") "timed" (ma K (ga K "Run") "timed")
  me_Stay_timed : Meth K (ga K "Stay") "timed" (ma K (ga K "Stay") "timed")
  me_Stair_longest_pause : Meth K (ga K "Stair") "longest_pause" (ma K (ga K "Stair") "longest_pause")
  me_Stair_need_like : Meth K (ga K "Stair") "need_like" (ma K (ga K "Stair") "need_like")
  me_Stair_over : Meth K (ga K "Stair") "over" (ma K (ga K "Stair") "over")
  me_Place_came_by : Meth K (ga K "Place") "came_by" (ma K (ga K "Place") "came_by")
  me_Place_wanted : Meth K (ga K "Place") "wanted" (ma K (ga K "Place") "wanted")
  me_Place_stock : Meth K (ga K "Place") "stock" (ma K (ga K "Place") "stock")
  me_Place_spots : Meth K (ga K "Place") "spots" (ma K (ga K "Place") "spots")
  mk_Day : Mk K (ga K "Day") (ma K (ga K "Day") "__init__")
  mk_Run : Mk K (ga K "Run") (ma K (ga K "Run") "__init__")
  mk_Stay : Mk K (ga K "Stay") (ma K (ga K "Stay") "__init__")
  mk_Table : Mk K (ga K "Table") (ma K (ga K "Table") "__init__")
  mk_Pauses : Mk K (ga K "Pauses") (ma K (ga K "Pauses") "__init__")
  mk_Stair : Mk K (ga K "Stair") (ma K (ga K "Stair") "__init__")
  mk_Above : Mk K (ga K "Above") (ma K (ga K "Above") "__init__")
  mk_Place : Mk K (ga K "Place") (ma K (ga K "Place") "__init__")
  is_Run_Trip : PySem.W.kitOne K (.ref (ga K "Run")) (.ref (ga K "Trip")) = some true
  is_Stay_Trip : PySem.W.kitOne K (.ref (ga K "Stay")) (.ref (ga K "Trip")) = some true
  is_Run_Paused : PySem.W.kitOne K (.ref (ga K "Run")) (.ref (ga K "Paused")) = some true
  is_Stay_Paused : PySem.W.kitOne K (.ref (ga K "Stay")) (.ref (ga K "Paused")) = some false
  sta_Pauses_of : CSta K (ga K "Pauses") (.type "type") "of" (ma K (ga K "Pauses") "of") (sa K (ga K "Pauses") "of")
  sta_Table_of : CSta K (ga K "Table") (.type "type") "of" (ma K (ga K "Table") "of") (sa K (ga K "Table") "of")
  fi_Day_eq : PySem.W.findIn K (.ref (ga K "Day")) "__eq__" = some (some (.ref (ma K (ga K "Day") "__eq__")))
  if_Day_eq : PySem.W.isFn K (.ref (ma K (ga K "Day") "__eq__")) = true
  fn_Day_eq : PySem.W.fnIn K (ma K (ga K "Day") "__eq__") = true
  fi_Table_iter : PySem.W.findIn K (.ref (ga K "Table")) "__iter__" = some (some (.ref (ma K (ga K "Table") "__iter__")))
  if_Table_iter : PySem.W.isFn K (.ref (ma K (ga K "Table") "__iter__")) = true
  fn_Table_iter : PySem.W.fnIn K (ma K (ga K "Table") "__iter__") = true
  fi_Table_add : PySem.W.findIn K (.ref (ga K "Table")) "__add__" = some (some (.ref (ma K (ga K "Table") "__add__")))
  if_Table_add : PySem.W.isFn K (.ref (ma K (ga K "Table") "__add__")) = true
  fn_Table_add : PySem.W.fnIn K (ma K (ga K "Table") "__add__") = true
  fi_Pauses_getitem : PySem.W.findIn K (.ref (ga K "Pauses")) "__getitem__" = some (some (.ref (ma K (ga K "Pauses") "__getitem__")))
  if_Pauses_getitem : PySem.W.isFn K (.ref (ma K (ga K "Pauses") "__getitem__")) = true
  fn_Pauses_getitem : PySem.W.fnIn K (ma K (ga K "Pauses") "__getitem__") = true
  fi_Stair_call : PySem.W.findIn K (.ref (ga K "Stair")) "__call__" = some (some (.ref (ma K (ga K "Stair") "__call__")))
  if_Stair_call : PySem.W.isFn K (.ref (ma K (ga K "Stair") "__call__")) = true
  fn_Stair_call : PySem.W.fnIn K (ma K (ga K "Stair") "__call__") = true
  fi_Stair_sub : PySem.W.findIn K (.ref (ga K "Stair")) "__sub__" = some (some (.ref (ma K (ga K "Stair") "__sub__")))
  if_Stair_sub : PySem.W.isFn K (.ref (ma K (ga K "Stair") "__sub__")) = true
  fn_Stair_sub : PySem.W.fnIn K (ma K (ga K "Stair") "__sub__") = true
  fi_Stair_eq : PySem.W.findIn K (.ref (ga K "Stair")) "__eq__" = some (some (.ref (ma K (ga K "Stair") "__eq__")))
  if_Stair_eq : PySem.W.isFn K (.ref (ma K (ga K "Stair") "__eq__")) = true
  fn_Stair_eq : PySem.W.fnIn K (ma K (ga K "Stair") "__eq__") = true
  sf_Table : PySem.W.selfFirst K (ga K "Table") = true
  sf_Stair : PySem.W.selfFirst K (ga K "Stair") = true
  ne_Day : NeC K (ga K "Day") (ma K (ga K "Day") "__eq__")
  su_Run : ∃ cc cda fd, SupF P K mg "__init__" "Run.__init__" (defArgs s_Run_init) (defBody s_Run_init) (defScope s_Run_init) (ma K (ga K "Run") "__init__") (ga K "Run") cc cda fd
  sc_Run : SupC K (ga K "Run") (ga K "Run") (ma K (ga K "Trip") "__init__") "__init__"
  su_Stay : ∃ cc cda fd, SupF P K mg "__init__" "Stay.__init__" (defArgs s_Stay_init) (defBody s_Stay_init) (defScope s_Stay_init) (ma K (ga K "Stay") "__init__") (ga K "Stay") cc cda fd
  sc_Stay : SupC K (ga K "Stay") (ga K "Stay") (ma K (ga K "Trip") "__init__") "__init__"
  ty_Day : ∀ {H : Hp} {a dx : Addr} {fs : List (Str × V)}, H a = some (.ins (ga K "Day") dx fs) → TyX K H (.ref a) (.ref (ga K "Day"))
  ty_Run : ∀ {H : Hp} {a dx : Addr} {fs : List (Str × V)}, H a = some (.ins (ga K "Run") dx fs) → TyX K H (.ref a) (.ref (ga K "Run"))
  ty_Stay : ∀ {H : Hp} {a dx : Addr} {fs : List (Str × V)}, H a = some (.ins (ga K "Stay") dx fs) → TyX K H (.ref a) (.ref (ga K "Stay"))
  ty_Table : ∀ {H : Hp} {a dx : Addr} {fs : List (Str × V)}, H a = some (.ins (ga K "Table") dx fs) → TyX K H (.ref a) (.ref (ga K "Table"))
  ty_Pauses : ∀ {H : Hp} {a dx : Addr} {fs : List (Str × V)}, H a = some (.ins (ga K "Pauses") dx fs) → TyX K H (.ref a) (.ref (ga K "Pauses"))
  ty_Stair : ∀ {H : Hp} {a dx : Addr} {fs : List (Str × V)}, H a = some (.ins (ga K "Stair") dx fs) → TyX K H (.ref a) (.ref (ga K "Stair"))
  ty_Above : ∀ {H : Hp} {a dx : Addr} {fs : List (Str × V)}, H a = some (.ins (ga K "Above") dx fs) → TyX K H (.ref a) (.ref (ga K "Above"))
  d_is_integer : ∃ fd, Fun K "is_integer" "is_integer" s_is_integer (ga K "is_integer") fd
  d_is_between : ∃ fd, Fun K "is_between" "is_between" s_is_between (ga K "is_between") fd
  d_is_number : ∃ fd, Fun K "is_number" "is_number" s_is_number (ga K "is_number") fd
  d_is_name : ∃ fd, Fun K "is_name" "is_name" s_is_name (ga K "is_name") fd
  d_is_row : ∃ fd, Fun K "is_row" "is_row" s_is_row (ga K "is_row") fd
  d_need_all_trips : ∃ fd, Fun K "need_all_trips" "need_all_trips" s_need_all_trips (ga K "need_all_trips") fd
  d_places_of : ∃ fd, Fun K "places_of" "places_of" s_places_of (ga K "places_of") fd
  d_need_few : ∃ fd, Fun K "need_few" "need_few" s_need_few (ga K "need_few") fd
  d_unbalanced : ∃ fd, Fun K "unbalanced" "unbalanced" s_unbalanced (ga K "unbalanced") fd
  d_need_names_alone : ∃ fd, Fun K "need_names_alone" "need_names_alone" s_need_names_alone (ga K "need_names_alone") fd
  d_need_table : ∃ fd, Fun K "need_table" "need_table" s_need_table (ga K "need_table") fd
  d_needed_pauses : ∃ fd, Fun K "needed_pauses" "needed_pauses" s_needed_pauses (ga K "needed_pauses") fd
  d_need_place : ∃ fd, Fun K "need_place" "need_place" s_need_place (ga K "need_place") fd
  d_under : ∃ fd, Fun K "under" "under" s_under (ga K "under") fd
  d_stair_of : ∃ fd, Fun K "stair_of" "stair_of" s_stair_of (ga K "stair_of") fd
  d_stair : ∃ fd, Fun K "stair" "stair" s_stair (ga K "stair") fd
  d_need_two : ∃ fd, Fun K "need_two" "need_two" s_need_two (ga K "need_two") fd
  d_above : ∃ fd, Fun K "above" "above" s_above (ga K "above") fd
  d_never_above : ∃ fd, Fun K "never_above" "never_above" s_never_above (ga K "never_above") fd
  d_alike : ∃ fd, Fun K "alike" "alike" s_alike (ga K "alike") fd
  d_need_stocks : ∃ fd, Fun K "need_stocks" "need_stocks" s_need_stocks (ga K "need_stocks") fd
  d_lateness : ∃ fd, Fun K "lateness" "lateness" s_lateness (ga K "lateness") fd
  d_law_pen : ∃ fd, Fun K "_law_pen" "_law_pen" s_law_pen (ga K "_law_pen") fd
  d_law_draw : ∃ fd, Fun K "_law_draw" "_law_draw" s_law_draw (ga K "_law_draw") fd
  d_law_pick : ∃ fd, Fun K "_law_pick" "_law_pick" s_law_pick (ga K "_law_pick") fd
  d_law_takes : ∃ fd, Fun K "_law_takes" "_law_takes" s_law_takes (ga K "_law_takes") fd
  d_law_plain : ∃ fd, Fun K "_law_plain" "_law_plain" s_law_plain (ga K "_law_plain") fd
  d_law_table : ∃ fd, Fun K "_law_table" "_law_table" s_law_table (ga K "_law_table") fd
  d_law_scaled_right : ∃ fd, Fun K "_law_scaled_right" "_law_scaled_right" s_law_scaled_right (ga K "_law_scaled_right") fd
  d_law_moved_right : ∃ fd, Fun K "_law_moved_right" "_law_moved_right" s_law_moved_right (ga K "_law_moved_right") fd
  d_law_renamed : ∃ fd, Fun K "_law_renamed" "_law_renamed" s_law_renamed (ga K "_law_renamed") fd
  d_law_joined_right : ∃ fd, Fun K "_law_joined_right" "_law_joined_right" s_law_joined_right (ga K "_law_joined_right") fd
  d_law : ∃ fd, Fun K "law" "law" s_law (ga K "law") fd
  d_Day_init : ∃ fd, Fun K "__init__" "Day.__init__" s_Day_init (ma K (ga K "Day") "__init__") fd
  d_Day_eq : ∃ fd, Fun K "__eq__" "Day.__eq__" s_Day_eq (ma K (ga K "Day") "__eq__") fd
  d_Trip_init : ∃ fd, Fun K "__init__" "Trip.__init__" s_Trip_init (ma K (ga K "Trip") "__init__") fd
  d_Run_timed : ∃ fd, Fun K "timed" "Run.timed" s_Run_timed (ma K (ga K "Run") "timed") fd
  d_Stay_timed : ∃ fd, Fun K "timed" "Stay.timed" s_Stay_timed (ma K (ga K "Stay") "timed") fd
  d_Table_init : ∃ fd, Fun K "__init__" "Table.__init__" s_Table_init (ma K (ga K "Table") "__init__") fd
  d_Table_of : ∃ fd, Fun K "of" "Table.of" s_Table_of (sa K (ga K "Table") "of") fd
  d_Table_need_names : ∃ fd, Fun K "need_names" "Table.need_names" s_Table_need_names (ma K (ga K "Table") "need_names") fd
  d_Table_moved : ∃ fd, Fun K "moved" "Table.moved" s_Table_moved (ma K (ga K "Table") "moved") fd
  d_Table_scaled : ∃ fd, Fun K "scaled" "Table.scaled" s_Table_scaled (ma K (ga K "Table") "scaled") fd
  d_Table_iter : ∃ fd, Fun K "__iter__" "Table.__iter__" s_Table_iter (ma K (ga K "Table") "__iter__") fd
  d_Table_add : ∃ fd, Fun K "__add__" "Table.__add__" s_Table_add (ma K (ga K "Table") "__add__") fd
  d_Pauses_init : ∃ fd, Fun K "__init__" "Pauses.__init__" s_Pauses_init (ma K (ga K "Pauses") "__init__") fd
  d_Pauses_of : ∃ fd, Fun K "of" "Pauses.of" s_Pauses_of (sa K (ga K "Pauses") "of") fd
  d_Pauses_getitem : ∃ fd, Fun K "__getitem__" "Pauses.__getitem__" s_Pauses_getitem (ma K (ga K "Pauses") "__getitem__") fd
  d_Stair_init : ∃ fd, Fun K "__init__" "Stair.__init__" s_Stair_init (ma K (ga K "Stair") "__init__") fd
  d_Stair_call : ∃ fd, Fun K "__call__" "Stair.__call__" s_Stair_call (ma K (ga K "Stair") "__call__") fd
  d_Stair_longest_pause : ∃ fd, Fun K "longest_pause" "Stair.longest_pause" s_Stair_longest_pause (ma K (ga K "Stair") "longest_pause") fd
  d_Stair_need_like : ∃ fd, Fun K "need_like" "Stair.need_like" s_Stair_need_like (ma K (ga K "Stair") "need_like") fd
  d_Stair_over : ∃ fd, Fun K "over" "Stair.over" s_Stair_over (ma K (ga K "Stair") "over") fd
  d_Stair_sub : ∃ fd, Fun K "__sub__" "Stair.__sub__" s_Stair_sub (ma K (ga K "Stair") "__sub__") fd
  d_Stair_eq : ∃ fd, Fun K "__eq__" "Stair.__eq__" s_Stair_eq (ma K (ga K "Stair") "__eq__") fd
  d_Above_init : ∃ fd, Fun K "__init__" "Above.__init__" s_Above_init (ma K (ga K "Above") "__init__") fd
  d_Place_init : ∃ fd, Fun K "__init__" "Place.__init__" s_Place_init (ma K (ga K "Place") "__init__") fd
  d_Place_came_by : ∃ fd, Fun K "came_by" "Place.came_by" s_Place_came_by (ma K (ga K "Place") "came_by") fd
  d_Place_wanted : ∃ fd, Fun K "wanted" "Place.wanted" s_Place_wanted (ma K (ga K "Place") "wanted") fd
  d_Place_stock : ∃ fd, Fun K "stock" "Place.stock" s_Place_stock (ma K (ga K "Place") "stock") fd
  d_Place_spots : ∃ fd, Fun K "spots" "Place.spots" s_Place_spots (ma K (ga K "Place") "spots") fd
theorem txt_of {P : Program} {K : PySem.W.Frag} {h : Heap} {mg : Str → Option Value} (hP : P.main.file = "/claim/cut.py") (ht : (P.main.scope.names.lookup ("super" : Str)).isSome = false) (X : K.In h) (G : h.Ns mainGlobals mg) (c : SaysX fa fn K) : Txt P K mg where
  g_is_integer := He.glo_ok X G (c.fact 0 (f := fun K => (He.Fa.glo "is_integer").ok K) rfl)
  g_is_between := He.glo_ok X G (c.fact 1 (f := fun K => (He.Fa.glo "is_between").ok K) rfl)
  g_is_number := He.glo_ok X G (c.fact 2 (f := fun K => (He.Fa.glo "is_number").ok K) rfl)
  g_is_name := He.glo_ok X G (c.fact 3 (f := fun K => (He.Fa.glo "is_name").ok K) rfl)
  g_is_row := He.glo_ok X G (c.fact 4 (f := fun K => (He.Fa.glo "is_row").ok K) rfl)
  g_need_all_trips := He.glo_ok X G (c.fact 5 (f := fun K => (He.Fa.glo "need_all_trips").ok K) rfl)
  g_places_of := He.glo_ok X G (c.fact 6 (f := fun K => (He.Fa.glo "places_of").ok K) rfl)
  g_need_few := He.glo_ok X G (c.fact 7 (f := fun K => (He.Fa.glo "need_few").ok K) rfl)
  g_unbalanced := He.glo_ok X G (c.fact 8 (f := fun K => (He.Fa.glo "unbalanced").ok K) rfl)
  g_need_names_alone := He.glo_ok X G (c.fact 9 (f := fun K => (He.Fa.glo "need_names_alone").ok K) rfl)
  g_need_table := He.glo_ok X G (c.fact 10 (f := fun K => (He.Fa.glo "need_table").ok K) rfl)
  g_needed_pauses := He.glo_ok X G (c.fact 11 (f := fun K => (He.Fa.glo "needed_pauses").ok K) rfl)
  g_need_place := He.glo_ok X G (c.fact 12 (f := fun K => (He.Fa.glo "need_place").ok K) rfl)
  g_under := He.glo_ok X G (c.fact 13 (f := fun K => (He.Fa.glo "under").ok K) rfl)
  g_stair_of := He.glo_ok X G (c.fact 14 (f := fun K => (He.Fa.glo "stair_of").ok K) rfl)
  g_stair := He.glo_ok X G (c.fact 15 (f := fun K => (He.Fa.glo "stair").ok K) rfl)
  g_need_two := He.glo_ok X G (c.fact 16 (f := fun K => (He.Fa.glo "need_two").ok K) rfl)
  g_above := He.glo_ok X G (c.fact 17 (f := fun K => (He.Fa.glo "above").ok K) rfl)
  g_never_above := He.glo_ok X G (c.fact 18 (f := fun K => (He.Fa.glo "never_above").ok K) rfl)
  g_alike := He.glo_ok X G (c.fact 19 (f := fun K => (He.Fa.glo "alike").ok K) rfl)
  g_need_stocks := He.glo_ok X G (c.fact 20 (f := fun K => (He.Fa.glo "need_stocks").ok K) rfl)
  g_lateness := He.glo_ok X G (c.fact 21 (f := fun K => (He.Fa.glo "lateness").ok K) rfl)
  g_law_pen := He.glo_ok X G (c.fact 22 (f := fun K => (He.Fa.glo "_law_pen").ok K) rfl)
  g_law_draw := He.glo_ok X G (c.fact 23 (f := fun K => (He.Fa.glo "_law_draw").ok K) rfl)
  g_law_pick := He.glo_ok X G (c.fact 24 (f := fun K => (He.Fa.glo "_law_pick").ok K) rfl)
  g_law_takes := He.glo_ok X G (c.fact 25 (f := fun K => (He.Fa.glo "_law_takes").ok K) rfl)
  g_law_plain := He.glo_ok X G (c.fact 26 (f := fun K => (He.Fa.glo "_law_plain").ok K) rfl)
  g_law_table := He.glo_ok X G (c.fact 27 (f := fun K => (He.Fa.glo "_law_table").ok K) rfl)
  g_law_scaled_right := He.glo_ok X G (c.fact 28 (f := fun K => (He.Fa.glo "_law_scaled_right").ok K) rfl)
  g_law_moved_right := He.glo_ok X G (c.fact 29 (f := fun K => (He.Fa.glo "_law_moved_right").ok K) rfl)
  g_law_renamed := He.glo_ok X G (c.fact 30 (f := fun K => (He.Fa.glo "_law_renamed").ok K) rfl)
  g_law_joined_right := He.glo_ok X G (c.fact 31 (f := fun K => (He.Fa.glo "_law_joined_right").ok K) rfl)
  g_law := He.glo_ok X G (c.fact 32 (f := fun K => (He.Fa.glo "law").ok K) rfl)
  g_Day := He.glo_ok X G (c.fact 33 (f := fun K => (He.Fa.glo "Day").ok K) rfl)
  g_Trip := He.glo_ok X G (c.fact 34 (f := fun K => (He.Fa.glo "Trip").ok K) rfl)
  g_Paused := He.glo_ok X G (c.fact 35 (f := fun K => (He.Fa.glo "Paused").ok K) rfl)
  g_Run := He.glo_ok X G (c.fact 36 (f := fun K => (He.Fa.glo "Run").ok K) rfl)
  g_Stay := He.glo_ok X G (c.fact 37 (f := fun K => (He.Fa.glo "Stay").ok K) rfl)
  g_Table := He.glo_ok X G (c.fact 38 (f := fun K => (He.Fa.glo "Table").ok K) rfl)
  g_Pauses := He.glo_ok X G (c.fact 39 (f := fun K => (He.Fa.glo "Pauses").ok K) rfl)
  g_Stair := He.glo_ok X G (c.fact 40 (f := fun K => (He.Fa.glo "Stair").ok K) rfl)
  g_Above := He.glo_ok X G (c.fact 41 (f := fun K => (He.Fa.glo "Above").ok K) rfl)
  g_Place := He.glo_ok X G (c.fact 42 (f := fun K => (He.Fa.glo "Place").ok K) rfl)
  f_isinstance := He.free_ok X G (c.fact 43 (f := fun K => (He.Fa.free "isinstance").ok K) rfl)
  f_int := He.free_ok X G (c.fact 44 (f := fun K => (He.Fa.free "int").ok K) rfl)
  f_bool := He.free_ok X G (c.fact 45 (f := fun K => (He.Fa.free "bool").ok K) rfl)
  f_abs := He.free_ok X G (c.fact 46 (f := fun K => (He.Fa.free "abs").ok K) rfl)
  f_len := He.free_ok X G (c.fact 47 (f := fun K => (He.Fa.free "len").ok K) rfl)
  f_str := He.free_ok X G (c.fact 48 (f := fun K => (He.Fa.free "str").ok K) rfl)
  f_all := He.free_ok X G (c.fact 49 (f := fun K => (He.Fa.free "all").ok K) rfl)
  f_list := He.free_ok X G (c.fact 50 (f := fun K => (He.Fa.free "list").ok K) rfl)
  f_tuple := He.free_ok X G (c.fact 51 (f := fun K => (He.Fa.free "tuple").ok K) rfl)
  f_sorted := He.free_ok X G (c.fact 52 (f := fun K => (He.Fa.free "sorted").ok K) rfl)
  f_set := He.free_ok X G (c.fact 53 (f := fun K => (He.Fa.free "set").ok K) rfl)
  f_sum := He.free_ok X G (c.fact 54 (f := fun K => (He.Fa.free "sum").ok K) rfl)
  f_max := He.free_ok X G (c.fact 55 (f := fun K => (He.Fa.free "max").ok K) rfl)
  f_enumerate := He.free_ok X G (c.fact 56 (f := fun K => (He.Fa.free "enumerate").ok K) rfl)
  f_range := He.free_ok X G (c.fact 57 (f := fun K => (He.Fa.free "range").ok K) rfl)
  f_dict := He.free_ok X G (c.fact 58 (f := fun K => (He.Fa.free "dict").ok K) rfl)
  f_repr := He.free_ok X G (c.fact 59 (f := fun K => (He.Fa.free "repr").ok K) rfl)
  f_iter := He.free_ok X G (c.fact 60 (f := fun K => (He.Fa.free "iter").ok K) rfl)
  f_super := He.free_ok X G (c.fact 61 (f := fun K => (He.Fa.free "super").ok K) rfl)
  c_MOST_NUMBER := He.int_ok X G (c.fact 62 (f := fun K => (He.Fa.int "MOST_NUMBER" 1000000000000).ok K) rfl)
  c_MOST_LENGTH := He.int_ok X G (c.fact 63 (f := fun K => (He.Fa.int "MOST_LENGTH" 1000000000000).ok K) rfl)
  c_MOST_TRIPS := He.int_ok X G (c.fact 64 (f := fun K => (He.Fa.int "MOST_TRIPS" 40).ok K) rfl)
  c_MOST_PLACES := He.int_ok X G (c.fact 65 (f := fun K => (He.Fa.int "MOST_PLACES" 8).ok K) rfl)
  c_LETTERS := He.str_ok X G (c.fact 66 (f := fun K => (He.Fa.str "LETTERS" "abcdefghijklmnopqrstuvwxyz").ok K) rfl)
  cl_Day := He.cls_ok (c.fact 67 (f := fun K => (He.Fa.cls "Day").ok K) rfl)
  na_Day_length := He.noat_ok (c.fact 68 (f := fun K => (He.Fa.noat "Day" "length").ok K) rfl)
  cl_Run := He.cls_ok (c.fact 69 (f := fun K => (He.Fa.cls "Run").ok K) rfl)
  na_Run_name := He.noat_ok (c.fact 70 (f := fun K => (He.Fa.noat "Run" "name").ok K) rfl)
  na_Run_start := He.noat_ok (c.fact 71 (f := fun K => (He.Fa.noat "Run" "start").ok K) rfl)
  na_Run_leaves := He.noat_ok (c.fact 72 (f := fun K => (He.Fa.noat "Run" "leaves").ok K) rfl)
  na_Run_takes := He.noat_ok (c.fact 73 (f := fun K => (He.Fa.noat "Run" "takes").ok K) rfl)
  na_Run_goal := He.noat_ok (c.fact 74 (f := fun K => (He.Fa.noat "Run" "goal").ok K) rfl)
  cl_Stay := He.cls_ok (c.fact 75 (f := fun K => (He.Fa.cls "Stay").ok K) rfl)
  na_Stay_name := He.noat_ok (c.fact 76 (f := fun K => (He.Fa.noat "Stay" "name").ok K) rfl)
  na_Stay_start := He.noat_ok (c.fact 77 (f := fun K => (He.Fa.noat "Stay" "start").ok K) rfl)
  na_Stay_leaves := He.noat_ok (c.fact 78 (f := fun K => (He.Fa.noat "Stay" "leaves").ok K) rfl)
  na_Stay_takes := He.noat_ok (c.fact 79 (f := fun K => (He.Fa.noat "Stay" "takes").ok K) rfl)
  na_Stay_goal := He.noat_ok (c.fact 80 (f := fun K => (He.Fa.noat "Stay" "goal").ok K) rfl)
  cl_Table := He.cls_ok (c.fact 81 (f := fun K => (He.Fa.cls "Table").ok K) rfl)
  na_Table_day := He.noat_ok (c.fact 82 (f := fun K => (He.Fa.noat "Table" "day").ok K) rfl)
  na_Table_names := He.noat_ok (c.fact 83 (f := fun K => (He.Fa.noat "Table" "names").ok K) rfl)
  na_Table_places := He.noat_ok (c.fact 84 (f := fun K => (He.Fa.noat "Table" "places").ok K) rfl)
  na_Table_rows := He.noat_ok (c.fact 85 (f := fun K => (He.Fa.noat "Table" "rows").ok K) rfl)
  cl_Pauses := He.cls_ok (c.fact 86 (f := fun K => (He.Fa.cls "Pauses").ok K) rfl)
  na_Pauses_numbers := He.noat_ok (c.fact 87 (f := fun K => (He.Fa.noat "Pauses" "numbers").ok K) rfl)
  na_Pauses_rows := He.noat_ok (c.fact 88 (f := fun K => (He.Fa.noat "Pauses" "rows").ok K) rfl)
  cl_Stair := He.cls_ok (c.fact 89 (f := fun K => (He.Fa.cls "Stair").ok K) rfl)
  na_Stair_length := He.noat_ok (c.fact 90 (f := fun K => (He.Fa.noat "Stair" "length").ok K) rfl)
  na_Stair_base := He.noat_ok (c.fact 91 (f := fun K => (He.Fa.noat "Stair" "base").ok K) rfl)
  na_Stair_rises := He.noat_ok (c.fact 92 (f := fun K => (He.Fa.noat "Stair" "rises").ok K) rfl)
  na_Stair_step := He.noat_ok (c.fact 93 (f := fun K => (He.Fa.noat "Stair" "step").ok K) rfl)
  cl_Above := He.cls_ok (c.fact 94 (f := fun K => (He.Fa.cls "Above").ok K) rfl)
  na_Above_number := He.noat_ok (c.fact 95 (f := fun K => (He.Fa.noat "Above" "number").ok K) rfl)
  na_Above_pauses := He.noat_ok (c.fact 96 (f := fun K => (He.Fa.noat "Above" "pauses").ok K) rfl)
  cl_Place := He.cls_ok (c.fact 97 (f := fun K => (He.Fa.cls "Place").ok K) rfl)
  na_Place_length := He.noat_ok (c.fact 98 (f := fun K => (He.Fa.noat "Place" "length").ok K) rfl)
  na_Place_leavings := He.noat_ok (c.fact 99 (f := fun K => (He.Fa.noat "Place" "leavings").ok K) rfl)
  na_Place_ends := He.noat_ok (c.fact 100 (f := fun K => (He.Fa.noat "Place" "ends").ok K) rfl)
  na_Place_comings := He.noat_ok (c.fact 101 (f := fun K => (He.Fa.noat "Place" "comings").ok K) rfl)
  me_Table_need_names := He.meth_ok (c.fact 102 (f := fun K => (He.Fa.meth "Table" "need_names").ok K) rfl)
  me_Table_moved := He.meth_ok (c.fact 103 (f := fun K => (He.Fa.meth "Table" "moved").ok K) rfl)
  me_Table_scaled := He.meth_ok (c.fact 104 (f := fun K => (He.Fa.meth "Table" "scaled").ok K) rfl)
  me_Run_timed := He.meth_ok (c.fact 105 (f := fun K => (He.Fa.meth "Run" "timed").ok K) rfl)
  me_Stay_timed := He.meth_ok (c.fact 106 (f := fun K => (He.Fa.meth "Stay" "timed").ok K) rfl)
  me_Stair_longest_pause := He.meth_ok (c.fact 107 (f := fun K => (He.Fa.meth "Stair" "longest_pause").ok K) rfl)
  me_Stair_need_like := He.meth_ok (c.fact 108 (f := fun K => (He.Fa.meth "Stair" "need_like").ok K) rfl)
  me_Stair_over := He.meth_ok (c.fact 109 (f := fun K => (He.Fa.meth "Stair" "over").ok K) rfl)
  me_Place_came_by := He.meth_ok (c.fact 110 (f := fun K => (He.Fa.meth "Place" "came_by").ok K) rfl)
  me_Place_wanted := He.meth_ok (c.fact 111 (f := fun K => (He.Fa.meth "Place" "wanted").ok K) rfl)
  me_Place_stock := He.meth_ok (c.fact 112 (f := fun K => (He.Fa.meth "Place" "stock").ok K) rfl)
  me_Place_spots := He.meth_ok (c.fact 113 (f := fun K => (He.Fa.meth "Place" "spots").ok K) rfl)
  mk_Day := He.mkr_ok (c.fact 114 (f := fun K => (He.Fa.mkr "Day").ok K) rfl)
  mk_Run := He.mkr_ok (c.fact 115 (f := fun K => (He.Fa.mkr "Run").ok K) rfl)
  mk_Stay := He.mkr_ok (c.fact 116 (f := fun K => (He.Fa.mkr "Stay").ok K) rfl)
  mk_Table := He.mkr_ok (c.fact 117 (f := fun K => (He.Fa.mkr "Table").ok K) rfl)
  mk_Pauses := He.mkr_ok (c.fact 118 (f := fun K => (He.Fa.mkr "Pauses").ok K) rfl)
  mk_Stair := He.mkr_ok (c.fact 119 (f := fun K => (He.Fa.mkr "Stair").ok K) rfl)
  mk_Above := He.mkr_ok (c.fact 120 (f := fun K => (He.Fa.mkr "Above").ok K) rfl)
  mk_Place := He.mkr_ok (c.fact 121 (f := fun K => (He.Fa.mkr "Place").ok K) rfl)
  is_Run_Trip := of_decide_eq_true (c.fact 122 (f := fun K => decide (PySem.W.kitOne K (.ref (ga K "Run")) (.ref (ga K "Trip")) = some true)) rfl)
  is_Stay_Trip := of_decide_eq_true (c.fact 123 (f := fun K => decide (PySem.W.kitOne K (.ref (ga K "Stay")) (.ref (ga K "Trip")) = some true)) rfl)
  is_Run_Paused := of_decide_eq_true (c.fact 124 (f := fun K => decide (PySem.W.kitOne K (.ref (ga K "Run")) (.ref (ga K "Paused")) = some true)) rfl)
  is_Stay_Paused := of_decide_eq_true (c.fact 125 (f := fun K => decide (PySem.W.kitOne K (.ref (ga K "Stay")) (.ref (ga K "Paused")) = some false)) rfl)
  sta_Pauses_of := sta_ok (c.fact 126 (f := fun K => staB K (ga K "Pauses") "of") rfl)
  sta_Table_of := sta_ok (c.fact 127 (f := fun K => staB K (ga K "Table") "of") rfl)
  fi_Day_eq := eqO_ok (c.fact 128 (f := fun K => eqO (PySem.W.findIn K (.ref (ga K "Day")) "__eq__") (some (some (.ref (ma K (ga K "Day") "__eq__"))))) rfl)
  if_Day_eq := (c.fact 129 (f := fun K => PySem.W.isFn K (.ref (ma K (ga K "Day") "__eq__"))) rfl)
  fn_Day_eq := (c.fact 130 (f := fun K => PySem.W.fnIn K (ma K (ga K "Day") "__eq__")) rfl)
  fi_Table_iter := eqO_ok (c.fact 131 (f := fun K => eqO (PySem.W.findIn K (.ref (ga K "Table")) "__iter__") (some (some (.ref (ma K (ga K "Table") "__iter__"))))) rfl)
  if_Table_iter := (c.fact 132 (f := fun K => PySem.W.isFn K (.ref (ma K (ga K "Table") "__iter__"))) rfl)
  fn_Table_iter := (c.fact 133 (f := fun K => PySem.W.fnIn K (ma K (ga K "Table") "__iter__")) rfl)
  fi_Table_add := eqO_ok (c.fact 134 (f := fun K => eqO (PySem.W.findIn K (.ref (ga K "Table")) "__add__") (some (some (.ref (ma K (ga K "Table") "__add__"))))) rfl)
  if_Table_add := (c.fact 135 (f := fun K => PySem.W.isFn K (.ref (ma K (ga K "Table") "__add__"))) rfl)
  fn_Table_add := (c.fact 136 (f := fun K => PySem.W.fnIn K (ma K (ga K "Table") "__add__")) rfl)
  fi_Pauses_getitem := eqO_ok (c.fact 137 (f := fun K => eqO (PySem.W.findIn K (.ref (ga K "Pauses")) "__getitem__") (some (some (.ref (ma K (ga K "Pauses") "__getitem__"))))) rfl)
  if_Pauses_getitem := (c.fact 138 (f := fun K => PySem.W.isFn K (.ref (ma K (ga K "Pauses") "__getitem__"))) rfl)
  fn_Pauses_getitem := (c.fact 139 (f := fun K => PySem.W.fnIn K (ma K (ga K "Pauses") "__getitem__")) rfl)
  fi_Stair_call := eqO_ok (c.fact 140 (f := fun K => eqO (PySem.W.findIn K (.ref (ga K "Stair")) "__call__") (some (some (.ref (ma K (ga K "Stair") "__call__"))))) rfl)
  if_Stair_call := (c.fact 141 (f := fun K => PySem.W.isFn K (.ref (ma K (ga K "Stair") "__call__"))) rfl)
  fn_Stair_call := (c.fact 142 (f := fun K => PySem.W.fnIn K (ma K (ga K "Stair") "__call__")) rfl)
  fi_Stair_sub := eqO_ok (c.fact 143 (f := fun K => eqO (PySem.W.findIn K (.ref (ga K "Stair")) "__sub__") (some (some (.ref (ma K (ga K "Stair") "__sub__"))))) rfl)
  if_Stair_sub := (c.fact 144 (f := fun K => PySem.W.isFn K (.ref (ma K (ga K "Stair") "__sub__"))) rfl)
  fn_Stair_sub := (c.fact 145 (f := fun K => PySem.W.fnIn K (ma K (ga K "Stair") "__sub__")) rfl)
  fi_Stair_eq := eqO_ok (c.fact 146 (f := fun K => eqO (PySem.W.findIn K (.ref (ga K "Stair")) "__eq__") (some (some (.ref (ma K (ga K "Stair") "__eq__"))))) rfl)
  if_Stair_eq := (c.fact 147 (f := fun K => PySem.W.isFn K (.ref (ma K (ga K "Stair") "__eq__"))) rfl)
  fn_Stair_eq := (c.fact 148 (f := fun K => PySem.W.fnIn K (ma K (ga K "Stair") "__eq__")) rfl)
  sf_Table := (c.fact 149 (f := fun K => PySem.W.selfFirst K (ga K "Table")) rfl)
  sf_Stair := (c.fact 150 (f := fun K => PySem.W.selfFirst K (ga K "Stair")) rfl)
  ne_Day := ⟨eqO_ok (c.fact 151 (f := fun K => eqO (PySem.W.findIn K (.ref (ga K "Day")) "__ne__") (some (some (.builtin "object.__ne__")))) rfl), eqO_ok (c.fact 128 (f := fun K => eqO (PySem.W.findIn K (.ref (ga K "Day")) "__eq__") (some (some (.ref (ma K (ga K "Day") "__eq__"))))) rfl), (c.fact 129 (f := fun K => PySem.W.isFn K (.ref (ma K (ga K "Day") "__eq__"))) rfl), of_decide_eq_true (c.fact 152 (f := fun K => decide (PySem.W.mroIn K (ga K "Day") (.type "object") = some true)) rfl)⟩
  su_Run := sup_ok (d := d_Run_init) (D := "Run") hP (c.at_ 36 (d := d_Run_init) rfl).1 (c.at_ 36 (d := d_Run_init) rfl).2 (c.fact 153 (f := fun K => supB "/claim/cut.py" K d_Run_init "Run") rfl) (c.fact 154 (f := fun K => (PySem.W.clsIn K (ga K "Run")).isSome) rfl) (He.free_ok X G (c.fact 61 (f := fun K => (He.Fa.free "super").ok K) rfl)) ht (eqO_ok (c.fact 179 (f := fun K => eqO (PySem.W.nsIn K cStatics "thirdparty.any") (some none)) rfl))
  sc_Run := ⟨eqO_ok (c.fact 155 (f := fun K => eqO (PySem.W.ks_superIn K (ga K "Run") (ga K "Run") "__init__") (some (some (.ref (ma K (ga K "Trip") "__init__"))))) rfl), of_decide_eq_true (c.fact 161 (f := fun K => decide (PySem.W.typeIn K (.ref (ma K (ga K "Trip") "__init__")) = some (.type "function"))) rfl), of_decide_eq_true (c.fact 156 (f := fun K => decide (PySem.W.mroIn K (ga K "Run") (.ref (ga K "Run")) = some true)) rfl), (c.fact 162 (f := fun K => PySem.W.fnIn K (ma K (ga K "Trip") "__init__")) rfl)⟩
  su_Stay := sup_ok (d := d_Stay_init) (D := "Stay") hP (c.at_ 38 (d := d_Stay_init) rfl).1 (c.at_ 38 (d := d_Stay_init) rfl).2 (c.fact 157 (f := fun K => supB "/claim/cut.py" K d_Stay_init "Stay") rfl) (c.fact 158 (f := fun K => (PySem.W.clsIn K (ga K "Stay")).isSome) rfl) (He.free_ok X G (c.fact 61 (f := fun K => (He.Fa.free "super").ok K) rfl)) ht (eqO_ok (c.fact 179 (f := fun K => eqO (PySem.W.nsIn K cStatics "thirdparty.any") (some none)) rfl))
  sc_Stay := ⟨eqO_ok (c.fact 159 (f := fun K => eqO (PySem.W.ks_superIn K (ga K "Stay") (ga K "Stay") "__init__") (some (some (.ref (ma K (ga K "Trip") "__init__"))))) rfl), of_decide_eq_true (c.fact 161 (f := fun K => decide (PySem.W.typeIn K (.ref (ma K (ga K "Trip") "__init__")) = some (.type "function"))) rfl), of_decide_eq_true (c.fact 160 (f := fun K => decide (PySem.W.mroIn K (ga K "Stay") (.ref (ga K "Stay")) = some true)) rfl), (c.fact 162 (f := fun K => PySem.W.fnIn K (ma K (ga K "Trip") "__init__")) rfl)⟩
  ty_Day := fun e => .base (.ins e (He.cls_ok (c.fact 67 (f := fun K => (He.Fa.cls "Day").ok K) rfl)) (eqO_ok (c.fact 163 (f := fun K => eqO (PySem.W.findIn K (.ref (ga K "Day")) "__class__") (some (some (.builtin "object.__class__")))) rfl)) (eqO_ok (c.fact 177 (f := fun K => eqO (PySem.W.specialIn K (.builtin "object.__class__") "__get__") (some (some (.builtin "getset_descriptor.__get__")))) rfl)) (of_decide_eq_true (c.fact 178 (f := fun K => decide (PySem.W.takesIn K (.builtin "object.__class__") = some true)) rfl)) (of_decide_eq_true (c.fact 164 (f := fun K => decide (PySem.W.mroIn K (ga K "Day") (.type "object") = some true)) rfl)))
  ty_Run := fun e => .base (.ins e (He.cls_ok (c.fact 69 (f := fun K => (He.Fa.cls "Run").ok K) rfl)) (eqO_ok (c.fact 165 (f := fun K => eqO (PySem.W.findIn K (.ref (ga K "Run")) "__class__") (some (some (.builtin "object.__class__")))) rfl)) (eqO_ok (c.fact 177 (f := fun K => eqO (PySem.W.specialIn K (.builtin "object.__class__") "__get__") (some (some (.builtin "getset_descriptor.__get__")))) rfl)) (of_decide_eq_true (c.fact 178 (f := fun K => decide (PySem.W.takesIn K (.builtin "object.__class__") = some true)) rfl)) (of_decide_eq_true (c.fact 166 (f := fun K => decide (PySem.W.mroIn K (ga K "Run") (.type "object") = some true)) rfl)))
  ty_Stay := fun e => .base (.ins e (He.cls_ok (c.fact 75 (f := fun K => (He.Fa.cls "Stay").ok K) rfl)) (eqO_ok (c.fact 167 (f := fun K => eqO (PySem.W.findIn K (.ref (ga K "Stay")) "__class__") (some (some (.builtin "object.__class__")))) rfl)) (eqO_ok (c.fact 177 (f := fun K => eqO (PySem.W.specialIn K (.builtin "object.__class__") "__get__") (some (some (.builtin "getset_descriptor.__get__")))) rfl)) (of_decide_eq_true (c.fact 178 (f := fun K => decide (PySem.W.takesIn K (.builtin "object.__class__") = some true)) rfl)) (of_decide_eq_true (c.fact 168 (f := fun K => decide (PySem.W.mroIn K (ga K "Stay") (.type "object") = some true)) rfl)))
  ty_Table := fun e => .base (.ins e (He.cls_ok (c.fact 81 (f := fun K => (He.Fa.cls "Table").ok K) rfl)) (eqO_ok (c.fact 169 (f := fun K => eqO (PySem.W.findIn K (.ref (ga K "Table")) "__class__") (some (some (.builtin "object.__class__")))) rfl)) (eqO_ok (c.fact 177 (f := fun K => eqO (PySem.W.specialIn K (.builtin "object.__class__") "__get__") (some (some (.builtin "getset_descriptor.__get__")))) rfl)) (of_decide_eq_true (c.fact 178 (f := fun K => decide (PySem.W.takesIn K (.builtin "object.__class__") = some true)) rfl)) (of_decide_eq_true (c.fact 170 (f := fun K => decide (PySem.W.mroIn K (ga K "Table") (.type "object") = some true)) rfl)))
  ty_Pauses := fun e => .base (.ins e (He.cls_ok (c.fact 86 (f := fun K => (He.Fa.cls "Pauses").ok K) rfl)) (eqO_ok (c.fact 171 (f := fun K => eqO (PySem.W.findIn K (.ref (ga K "Pauses")) "__class__") (some (some (.builtin "object.__class__")))) rfl)) (eqO_ok (c.fact 177 (f := fun K => eqO (PySem.W.specialIn K (.builtin "object.__class__") "__get__") (some (some (.builtin "getset_descriptor.__get__")))) rfl)) (of_decide_eq_true (c.fact 178 (f := fun K => decide (PySem.W.takesIn K (.builtin "object.__class__") = some true)) rfl)) (of_decide_eq_true (c.fact 172 (f := fun K => decide (PySem.W.mroIn K (ga K "Pauses") (.type "object") = some true)) rfl)))
  ty_Stair := fun e => .base (.ins e (He.cls_ok (c.fact 89 (f := fun K => (He.Fa.cls "Stair").ok K) rfl)) (eqO_ok (c.fact 173 (f := fun K => eqO (PySem.W.findIn K (.ref (ga K "Stair")) "__class__") (some (some (.builtin "object.__class__")))) rfl)) (eqO_ok (c.fact 177 (f := fun K => eqO (PySem.W.specialIn K (.builtin "object.__class__") "__get__") (some (some (.builtin "getset_descriptor.__get__")))) rfl)) (of_decide_eq_true (c.fact 178 (f := fun K => decide (PySem.W.takesIn K (.builtin "object.__class__") = some true)) rfl)) (of_decide_eq_true (c.fact 174 (f := fun K => decide (PySem.W.mroIn K (ga K "Stair") (.type "object") = some true)) rfl)))
  ty_Above := fun e => .base (.ins e (He.cls_ok (c.fact 94 (f := fun K => (He.Fa.cls "Above").ok K) rfl)) (eqO_ok (c.fact 175 (f := fun K => eqO (PySem.W.findIn K (.ref (ga K "Above")) "__class__") (some (some (.builtin "object.__class__")))) rfl)) (eqO_ok (c.fact 177 (f := fun K => eqO (PySem.W.specialIn K (.builtin "object.__class__") "__get__") (some (some (.builtin "getset_descriptor.__get__")))) rfl)) (of_decide_eq_true (c.fact 178 (f := fun K => decide (PySem.W.takesIn K (.builtin "object.__class__") = some true)) rfl)) (of_decide_eq_true (c.fact 176 (f := fun K => decide (PySem.W.mroIn K (ga K "Above") (.type "object") = some true)) rfl)))
  d_is_integer := Df.fun_ (d := d_is_integer) rfl (c.at_ 0 (d := d_is_integer) rfl).1 (c.at_ 0 (d := d_is_integer) rfl).2
  d_is_between := Df.fun_ (d := d_is_between) rfl (c.at_ 1 (d := d_is_between) rfl).1 (c.at_ 1 (d := d_is_between) rfl).2
  d_is_number := Df.fun_ (d := d_is_number) rfl (c.at_ 2 (d := d_is_number) rfl).1 (c.at_ 2 (d := d_is_number) rfl).2
  d_is_name := Df.fun_ (d := d_is_name) rfl (c.at_ 3 (d := d_is_name) rfl).1 (c.at_ 3 (d := d_is_name) rfl).2
  d_is_row := Df.fun_ (d := d_is_row) rfl (c.at_ 4 (d := d_is_row) rfl).1 (c.at_ 4 (d := d_is_row) rfl).2
  d_need_all_trips := Df.fun_ (d := d_need_all_trips) rfl (c.at_ 5 (d := d_need_all_trips) rfl).1 (c.at_ 5 (d := d_need_all_trips) rfl).2
  d_places_of := Df.fun_ (d := d_places_of) rfl (c.at_ 6 (d := d_places_of) rfl).1 (c.at_ 6 (d := d_places_of) rfl).2
  d_need_few := Df.fun_ (d := d_need_few) rfl (c.at_ 7 (d := d_need_few) rfl).1 (c.at_ 7 (d := d_need_few) rfl).2
  d_unbalanced := Df.fun_ (d := d_unbalanced) rfl (c.at_ 8 (d := d_unbalanced) rfl).1 (c.at_ 8 (d := d_unbalanced) rfl).2
  d_need_names_alone := Df.fun_ (d := d_need_names_alone) rfl (c.at_ 9 (d := d_need_names_alone) rfl).1 (c.at_ 9 (d := d_need_names_alone) rfl).2
  d_need_table := Df.fun_ (d := d_need_table) rfl (c.at_ 10 (d := d_need_table) rfl).1 (c.at_ 10 (d := d_need_table) rfl).2
  d_needed_pauses := Df.fun_ (d := d_needed_pauses) rfl (c.at_ 11 (d := d_needed_pauses) rfl).1 (c.at_ 11 (d := d_needed_pauses) rfl).2
  d_need_place := Df.fun_ (d := d_need_place) rfl (c.at_ 12 (d := d_need_place) rfl).1 (c.at_ 12 (d := d_need_place) rfl).2
  d_under := Df.fun_ (d := d_under) rfl (c.at_ 13 (d := d_under) rfl).1 (c.at_ 13 (d := d_under) rfl).2
  d_stair_of := Df.fun_ (d := d_stair_of) rfl (c.at_ 14 (d := d_stair_of) rfl).1 (c.at_ 14 (d := d_stair_of) rfl).2
  d_stair := Df.fun_ (d := d_stair) rfl (c.at_ 15 (d := d_stair) rfl).1 (c.at_ 15 (d := d_stair) rfl).2
  d_need_two := Df.fun_ (d := d_need_two) rfl (c.at_ 16 (d := d_need_two) rfl).1 (c.at_ 16 (d := d_need_two) rfl).2
  d_above := Df.fun_ (d := d_above) rfl (c.at_ 17 (d := d_above) rfl).1 (c.at_ 17 (d := d_above) rfl).2
  d_never_above := Df.fun_ (d := d_never_above) rfl (c.at_ 18 (d := d_never_above) rfl).1 (c.at_ 18 (d := d_never_above) rfl).2
  d_alike := Df.fun_ (d := d_alike) rfl (c.at_ 19 (d := d_alike) rfl).1 (c.at_ 19 (d := d_alike) rfl).2
  d_need_stocks := Df.fun_ (d := d_need_stocks) rfl (c.at_ 20 (d := d_need_stocks) rfl).1 (c.at_ 20 (d := d_need_stocks) rfl).2
  d_lateness := Df.fun_ (d := d_lateness) rfl (c.at_ 21 (d := d_lateness) rfl).1 (c.at_ 21 (d := d_lateness) rfl).2
  d_law_pen := Df.fun_ (d := d_law_pen) rfl (c.at_ 22 (d := d_law_pen) rfl).1 (c.at_ 22 (d := d_law_pen) rfl).2
  d_law_draw := Df.fun_ (d := d_law_draw) rfl (c.at_ 23 (d := d_law_draw) rfl).1 (c.at_ 23 (d := d_law_draw) rfl).2
  d_law_pick := Df.fun_ (d := d_law_pick) rfl (c.at_ 24 (d := d_law_pick) rfl).1 (c.at_ 24 (d := d_law_pick) rfl).2
  d_law_takes := Df.fun_ (d := d_law_takes) rfl (c.at_ 25 (d := d_law_takes) rfl).1 (c.at_ 25 (d := d_law_takes) rfl).2
  d_law_plain := Df.fun_ (d := d_law_plain) rfl (c.at_ 26 (d := d_law_plain) rfl).1 (c.at_ 26 (d := d_law_plain) rfl).2
  d_law_table := Df.fun_ (d := d_law_table) rfl (c.at_ 27 (d := d_law_table) rfl).1 (c.at_ 27 (d := d_law_table) rfl).2
  d_law_scaled_right := Df.fun_ (d := d_law_scaled_right) rfl (c.at_ 28 (d := d_law_scaled_right) rfl).1 (c.at_ 28 (d := d_law_scaled_right) rfl).2
  d_law_moved_right := Df.fun_ (d := d_law_moved_right) rfl (c.at_ 29 (d := d_law_moved_right) rfl).1 (c.at_ 29 (d := d_law_moved_right) rfl).2
  d_law_renamed := Df.fun_ (d := d_law_renamed) rfl (c.at_ 30 (d := d_law_renamed) rfl).1 (c.at_ 30 (d := d_law_renamed) rfl).2
  d_law_joined_right := Df.fun_ (d := d_law_joined_right) rfl (c.at_ 31 (d := d_law_joined_right) rfl).1 (c.at_ 31 (d := d_law_joined_right) rfl).2
  d_law := Df.fun_ (d := d_law) rfl (c.at_ 32 (d := d_law) rfl).1 (c.at_ 32 (d := d_law) rfl).2
  d_Day_init := Df.fun_ (d := d_Day_init) rfl (c.at_ 33 (d := d_Day_init) rfl).1 (c.at_ 33 (d := d_Day_init) rfl).2
  d_Day_eq := Df.fun_ (d := d_Day_eq) rfl (c.at_ 34 (d := d_Day_eq) rfl).1 (c.at_ 34 (d := d_Day_eq) rfl).2
  d_Trip_init := Df.fun_ (d := d_Trip_init) rfl (c.at_ 35 (d := d_Trip_init) rfl).1 (c.at_ 35 (d := d_Trip_init) rfl).2
  d_Run_timed := Df.fun_ (d := d_Run_timed) rfl (c.at_ 37 (d := d_Run_timed) rfl).1 (c.at_ 37 (d := d_Run_timed) rfl).2
  d_Stay_timed := Df.fun_ (d := d_Stay_timed) rfl (c.at_ 39 (d := d_Stay_timed) rfl).1 (c.at_ 39 (d := d_Stay_timed) rfl).2
  d_Table_init := Df.fun_ (d := d_Table_init) rfl (c.at_ 40 (d := d_Table_init) rfl).1 (c.at_ 40 (d := d_Table_init) rfl).2
  d_Table_of := Df.fun_ (d := d_Table_of) rfl (c.at_ 41 (d := d_Table_of) rfl).1 (c.at_ 41 (d := d_Table_of) rfl).2
  d_Table_need_names := Df.fun_ (d := d_Table_need_names) rfl (c.at_ 42 (d := d_Table_need_names) rfl).1 (c.at_ 42 (d := d_Table_need_names) rfl).2
  d_Table_moved := Df.fun_ (d := d_Table_moved) rfl (c.at_ 43 (d := d_Table_moved) rfl).1 (c.at_ 43 (d := d_Table_moved) rfl).2
  d_Table_scaled := Df.fun_ (d := d_Table_scaled) rfl (c.at_ 44 (d := d_Table_scaled) rfl).1 (c.at_ 44 (d := d_Table_scaled) rfl).2
  d_Table_iter := Df.fun_ (d := d_Table_iter) rfl (c.at_ 45 (d := d_Table_iter) rfl).1 (c.at_ 45 (d := d_Table_iter) rfl).2
  d_Table_add := Df.fun_ (d := d_Table_add) rfl (c.at_ 46 (d := d_Table_add) rfl).1 (c.at_ 46 (d := d_Table_add) rfl).2
  d_Pauses_init := Df.fun_ (d := d_Pauses_init) rfl (c.at_ 47 (d := d_Pauses_init) rfl).1 (c.at_ 47 (d := d_Pauses_init) rfl).2
  d_Pauses_of := Df.fun_ (d := d_Pauses_of) rfl (c.at_ 48 (d := d_Pauses_of) rfl).1 (c.at_ 48 (d := d_Pauses_of) rfl).2
  d_Pauses_getitem := Df.fun_ (d := d_Pauses_getitem) rfl (c.at_ 49 (d := d_Pauses_getitem) rfl).1 (c.at_ 49 (d := d_Pauses_getitem) rfl).2
  d_Stair_init := Df.fun_ (d := d_Stair_init) rfl (c.at_ 50 (d := d_Stair_init) rfl).1 (c.at_ 50 (d := d_Stair_init) rfl).2
  d_Stair_call := Df.fun_ (d := d_Stair_call) rfl (c.at_ 51 (d := d_Stair_call) rfl).1 (c.at_ 51 (d := d_Stair_call) rfl).2
  d_Stair_longest_pause := Df.fun_ (d := d_Stair_longest_pause) rfl (c.at_ 52 (d := d_Stair_longest_pause) rfl).1 (c.at_ 52 (d := d_Stair_longest_pause) rfl).2
  d_Stair_need_like := Df.fun_ (d := d_Stair_need_like) rfl (c.at_ 53 (d := d_Stair_need_like) rfl).1 (c.at_ 53 (d := d_Stair_need_like) rfl).2
  d_Stair_over := Df.fun_ (d := d_Stair_over) rfl (c.at_ 54 (d := d_Stair_over) rfl).1 (c.at_ 54 (d := d_Stair_over) rfl).2
  d_Stair_sub := Df.fun_ (d := d_Stair_sub) rfl (c.at_ 55 (d := d_Stair_sub) rfl).1 (c.at_ 55 (d := d_Stair_sub) rfl).2
  d_Stair_eq := Df.fun_ (d := d_Stair_eq) rfl (c.at_ 56 (d := d_Stair_eq) rfl).1 (c.at_ 56 (d := d_Stair_eq) rfl).2
  d_Above_init := Df.fun_ (d := d_Above_init) rfl (c.at_ 57 (d := d_Above_init) rfl).1 (c.at_ 57 (d := d_Above_init) rfl).2
  d_Place_init := Df.fun_ (d := d_Place_init) rfl (c.at_ 58 (d := d_Place_init) rfl).1 (c.at_ 58 (d := d_Place_init) rfl).2
  d_Place_came_by := Df.fun_ (d := d_Place_came_by) rfl (c.at_ 59 (d := d_Place_came_by) rfl).1 (c.at_ 59 (d := d_Place_came_by) rfl).2
  d_Place_wanted := Df.fun_ (d := d_Place_wanted) rfl (c.at_ 60 (d := d_Place_wanted) rfl).1 (c.at_ 60 (d := d_Place_wanted) rfl).2
  d_Place_stock := Df.fun_ (d := d_Place_stock) rfl (c.at_ 61 (d := d_Place_stock) rfl).1 (c.at_ 61 (d := d_Place_stock) rfl).2
  d_Place_spots := Df.fun_ (d := d_Place_spots) rfl (c.at_ 62 (d := d_Place_spots) rfl).1 (c.at_ 62 (d := d_Place_spots) rfl).2
end K6
set_option Elab.async false
set_option linter.all false
set_option maxRecDepth 100000
set_option maxHeartbeats 4000000
namespace K6
open PySem PySem.Spec PyProof.Rows L2
open He (ga ma)
/-! ### defs by position -/
section
variable {P : Program} {w : World} {K : PySem.W.Frag} {mg : Str → Option Value} {base : Heap} {x qual : Str} {st : Stmt} {f : Addr} {N ps : List Str} {k : Nat} {sp : Sp}
theorem kpOf (h : ∃ fd, Fun K x qual st f fd) : PySem.W.keepIn K (.ref f) = true := h.elim fun _ F => F.kp
theorem fnR (h : ∃ fd, Fun K x qual st f fd) (S : FnScope N ps (defScope st)) 
    (hb : ∀ (kV doc pm : Value) (an : Option Addr) (cdv ct : Value) (us : List Value), us.length = ps.length → bindArgs (PySem.W.fnOf x qual (defArgs st) (defBody st) (defScope st) .none kV doc pm an cdv ct) ⟨us, []⟩ = pure (ps.zip us))
    (len : ∀ vs H Q E, sp vs H Q E → vs.length = ps.length)
    (hbody : ∀ (cdv : Value) (A : Around) (outer : List Env) (s : Shared) (H : Hp) (vs : List V) (Q : VK) (E : XK), Room k (A.deeper (envOfC qual (defScope st) s.heap.objs.size f cdv)) → sp vs H Q E →
      ∃ t, PSs (cxOf CX0 P w K mg base N qual (defScope st) f cdv A outer s H E).nox (defBody st) t ∧ t { nx := fun _ H' => Q .non H', rt := Q } (start N vs) H) : FnR P w K mg base CX0 (k + 1) f sp := by
  obtain ⟨fd, F⟩ := h
  refine (FnOk.raw (F.ok S len hbody) (F.binds hb) .nil).imp fun vs H Q E h => ?_
  rw [List.append_nil]
  exact h
theorem Fun.funD {fd : FuncData} (F : Fun K x qual st f fd) : FunD K x qual (defArgs st) (defBody st) (defScope st) [] [] f fd := by
  obtain ⟨⟨oc, od, kV, doc, pm, an, cdv, ct, osl, e, l, c⟩, kp⟩ := F
  exact ⟨⟨oc, od, .none, kV, doc, pm, an, cdv, ct, osl, e, l, c, .inl ⟨rfl, rfl⟩, .inl rfl⟩, kp⟩
end
/-! ### built-ins by name -/
theorem bt_isinstance : bootBuiltins "isinstance" = some (.builtin "isinstance") := by decide +kernel
theorem bt_abs : bootBuiltins "abs" = some (.builtin "abs") := by decide +kernel
theorem bt_len : bootBuiltins "len" = some (.builtin "len") := by decide +kernel
theorem bt_all : bootBuiltins "all" = some (.builtin "all") := by decide +kernel
theorem bt_sorted : bootBuiltins "sorted" = some (.builtin "sorted") := by decide +kernel
theorem bt_sum : bootBuiltins "sum" = some (.builtin "sum") := by decide +kernel
theorem bt_max : bootBuiltins "max" = some (.builtin "max") := by decide +kernel
theorem bt_repr : bootBuiltins "repr" = some (.builtin "repr") := by decide +kernel
theorem bt_int : bootBuiltins "int" = some (.type "int") := by decide +kernel
theorem bt_bool : bootBuiltins "bool" = some (.type "bool") := by decide +kernel
theorem bt_str : bootBuiltins "str" = some (.type "str") := by decide +kernel
theorem bt_list : bootBuiltins "list" = some (.type "list") := by decide +kernel
theorem bt_tuple : bootBuiltins "tuple" = some (.type "tuple") := by decide +kernel
theorem bt_set : bootBuiltins "set" = some (.type "set") := by decide +kernel
theorem bt_dict : bootBuiltins "dict" = some (.type "dict") := by decide +kernel
theorem kit_self {K : PySem.W.Frag} {t : Value} (h : (t == t) = true) : PySem.W.kitOne K t t = some true := by unfold PySem.W.kitOne; rw [if_pos h]
theorem kit_own {K : PySem.W.Frag} {a : Addr} : PySem.W.kitOne K (.ref a) (.ref a) = some true := kit_self (by simp)
def rLenS (K : PySem.W.Frag) : List V → Hp → VK → Prop := fun xs H Q => ∃ p ys, xs = [.ref p] ∧ (SqL K H p ys ∨ SqT K H p ys) ∧ Q (.int (ys.length : Nat)) H
theorem call_lenS {X : Cx} : CallR X (.builtin "len") (rLenS X.K) := call_len_seq
/-! ### comprehensions by what they give -/
def Fa2 {α β : Type} (R : α → β → Prop) : List α → List β → Prop
  | [], [] => True
  | a :: as, b :: bs => R a b ∧ Fa2 R as bs
  | _, _ => False
theorem Fa2.len {α β : Type} {R : α → β → Prop} : ∀ {l : List α} {m : List β}, Fa2 R l m → l.length = m.length
  | [], [], _ => rfl
  | _ :: _, _ :: _, h => by simp [Fa2.len h.2]
  | [], _ :: _, h => h.elim
  | _ :: _, [], h => h.elim
theorem Fa2.imp {α β : Type} {R S : α → β → Prop} (hi : ∀ a b, R a b → S a b) : ∀ {l : List α} {m : List β}, Fa2 R l m → Fa2 S l m
  | [], [], _ => trivial
  | _ :: _, _ :: _, h => ⟨hi _ _ h.1, Fa2.imp hi h.2⟩
  | [], _ :: _, h => h.elim
  | _ :: _, [], h => h.elim
theorem Fa2.snoc {α β : Type} {R : α → β → Prop} : ∀ {l : List α} {m : List β} {a : α} {b : β}, Fa2 R l m → R a b → Fa2 R (l ++ [a]) (m ++ [b])
  | [], [], _, _, _, h => ⟨h, trivial⟩
  | _ :: _, _ :: _, _, _, h, h2 => ⟨h.1, Fa2.snoc h.2 h2⟩
  | [], _ :: _, _, _, h, _ => h.elim
  | _ :: _, [], _, _, h, _ => h.elim
theorem Fa2.get {α β : Type} {R : α → β → Prop} : ∀ {l : List α} {m : List β} {i : Nat} {a : α} {b : β}, Fa2 R l m → l[i]? = some a → m[i]? = some b → R a b
  | _ :: _, _ :: _, 0, _, _, h, ha, hb => by
    simp at ha hb
    subst ha hb
    exact h.1
  | _ :: _, _ :: _, i + 1, _, _, h, ha, hb => Fa2.get h.2 (by simpa using ha) (by simpa using hb)
  | [], [], _, _, _, _, ha, _ => by simp at ha
  | [], _ :: _, _, _, _, h, _, _ => h.elim
  | _ :: _, [], _, _, _, h, _, _ => h.elim
theorem Fa2.map_l {α β γ : Type} {R : α → β → Prop} {f : γ → α} : ∀ {l : List γ} {m : List β}, Fa2 (fun c b => R (f c) b) l m → Fa2 R (l.map f) m
  | [], [], _ => trivial
  | _ :: _, _ :: _, h => ⟨h.1, Fa2.map_l h.2⟩
  | [], _ :: _, h => h.elim
  | _ :: _, [], h => h.elim
theorem same_upd {H : Hp} {p : Addr} {o : HO} (h : H p = none) : Same H (upd H p o) := fun b u e => by
  rw [upd_ne (fun z => by rw [z] at e; rw [h] at e; cases e)]
  exact e
theorem same_up {H H1 : Hp} {p : Addr} {o : HO} (s : Same H H1) (h : H1 p = none) : Same H (upd H1 p o) := s.trans (same_upd h)
/-- an object of ours is written: what stood before it was made stands -/
theorem same_put {H H1 : Hp} {p : Addr} {o : HO} (s : Same H H1) (h : H p = none) : Same H (upd H1 p o) := fun b u e => by
  rw [upd_ne (fun z => by rw [z] at e; rw [h] at e; cases e)]
  exact s b u e
section
variable {J : It} {n : Nat} {G : Hp → Prop} {Y : Nat → Hp → V → Hp → Prop} {tt : TT} {te : TE} {vs : List Nat} {σ : L2.St} {H1 : Hp} {D : Addr} {Qd : Hp → Prop} {α : Type}
/-- [e for x in .. if t]: the items' values are functions of what they stand for -/
theorem lcF (w : Walk J n G Y) (l : List α) (hn : n = l.length) (j : Nat) (item : α → V → Prop) (hY : ∀ i H x H' (a : α), l[i]? = some a → G H → Y i H x H' → H' = H ∧ item a x)
    (hD : H1 D = none) (hG : ∀ H', Same H1 H' → G H') (sel : α → Option V) (hz : l.length < sizeLine)
    (step : ∀ (a : α) (x : V) (H : Hp) (Kt : V → Hp → Prop) (Kf : Hp → Prop), a ∈ l → item a x → Same H1 H → (∀ y H4, Same H H4 → sel a = some y → Kt y H4) → (∀ H3, Same H H3 → sel a = none → Kf H3) →
      tt ((wipe σ vs).set j (some x)) H fun b H3 => if b = true then te ((wipe σ vs).set j (some x)) H3 Kt else Kf H3)
    (wip : ∀ x, wipe ((wipe σ vs).set j (some x)) vs = wipe σ vs)
    (hQ : ∀ H', Same H1 H' → H' D = some (.lst (l.filterMap sel)) → Qd H') :
    ∃ W : Nat → Nat → Hp → Prop, (∃ m, W 0 m (upd H1 D (.lst []))) ∧ ∀ i m H, W i m H →
      (J.stop i H ∧ Qd H) ∨ (J.go i H ∧ ∃ Nx : Hp → Prop, (∀ H', Nx H' → ∃ m', m' < m ∧ W (i + 1) m' H') ∧ ∀ x H', J.yld i H x H' → gName j x (wipe σ vs) H' fun σ2 H2 => wipe σ2 vs = wipe σ vs ∧ tt σ2 H2 fun b H3 =>
        if b = true then te σ2 H3 fun y H4 => ∃ acc, H4 D = some (.lst acc) ∧ acc.length < sizeLine ∧ Nx (upd H4 D (.lst (acc ++ [y]))) else Nx H3) := by
  refine lc_it w (fun i H => Same H1 H ∧ H D = some (.lst ((l.take i).filterMap sel))) ⟨same_upd hD, by simp [upd_same]⟩ (fun i H _ h => hG H h.1) (fun i x H H' hi ⟨hs, hd⟩ hy => ?_) (fun H ⟨hs, hd⟩ => hQ H hs (by rw [hd, hn, List.take_length]))
  have hl : i < l.length := by omega
  have ha : l[i]? = some l[i] := by simp [hl]
  obtain ⟨rfl, hx⟩ := hY i H x H' l[i] ha (hG H hs) hy
  refine ⟨wip x, step l[i] x H' _ _ (List.getElem_mem hl) hx hs (fun y H4 h4 e => ⟨_, h4 _ _ hd, ?_, ?_, ?_⟩) fun H3 h3 e => ⟨hs.trans h3, ?_⟩⟩
  · refine Nat.lt_of_le_of_lt (List.length_filterMap_le _ _) ?_
    rw [List.length_take]; omega
  · exact same_put (Same.trans hs h4) hD
  · have e2 : (l.take (i + 1)).filterMap sel = (l.take i).filterMap sel ++ [y] := by
      rw [List.take_add_one, ha, List.filterMap_append]
      show _ ++ List.filterMap sel [l[i]] = _
      rw [List.filterMap_cons, e]
      rfl
    rw [upd_same, e2]
  · have e2 : (l.take (i + 1)).filterMap sel = (l.take i).filterMap sel := by
      rw [List.take_add_one, ha, List.filterMap_append]
      show _ ++ List.filterMap sel [l[i]] = _
      rw [List.filterMap_cons, e]
      simp
    rw [h3 _ _ hd, e2]
/-- all but the lists stand -/
def SameI (H H' : Hp) : Prop := ∀ b o, H b = some o → (∀ xs, o ≠ .lst xs) → H' b = some o
theorem SameI.rfl' {H : Hp} : SameI H H := fun _ _ e _ => e
theorem SameI.of {H H' : Hp} (s : Same H H') : SameI H H' := fun b o e _ => s b o e
theorem SameI.trans {H H1 H2 : Hp} (a : SameI H H1) (b : SameI H1 H2) : SameI H H2 := fun c o e n => b c o (a c o e n) n
theorem SameI.put {H H1 : Hp} {p : Addr} {xs : List V} {o : HO} (s : SameI H H1) (h : H1 p = some (.lst xs)) : SameI H (upd H1 p o) := fun b u e n => by
  have q := s b u e n
  rw [upd_ne (fun z => by subst z; rw [h] at q; exact n xs (Option.some.inj q).symm)]
  exact q
/-- [e for x in ..]: each item is seen to be what it stands for -/
theorem lcRel (w : Walk J n G Y) (l : List α) (hn : n = l.length) (j : Nat) (item : α → V → Prop) (hY : ∀ i H x H' (a : α), l[i]? = some a → G H → Y i H x H' → H' = H ∧ item a x)
    (hD : H1 D = none) (hG : ∀ H', Same H1 H' → G H') (R : Hp → α → V → Prop) (hR : ∀ H H' a y, SameI H H' → R H a y → R H' a y) (hz : l.length < sizeLine)
    (step : ∀ (a : α) (x : V) (H : Hp) (Kt : V → Hp → Prop), a ∈ l → item a x → Same H1 H → (∀ y H4, Same H H4 → R H4 a y → Kt y H4) → te ((wipe σ vs).set j (some x)) H Kt)
    (wip : ∀ x, wipe ((wipe σ vs).set j (some x)) vs = wipe σ vs)
    (hQ : ∀ H' ys, Same H1 H' → H' D = some (.lst ys) → Fa2 (R H') l ys → Qd H') :
    ∃ W : Nat → Nat → Hp → Prop, (∃ m, W 0 m (upd H1 D (.lst []))) ∧ ∀ i m H, W i m H →
      (J.stop i H ∧ Qd H) ∨ (J.go i H ∧ ∃ Nx : Hp → Prop, (∀ H', Nx H' → ∃ m', m' < m ∧ W (i + 1) m' H') ∧ ∀ x H', J.yld i H x H' → gName j x (wipe σ vs) H' fun σ2 H2 => wipe σ2 vs = wipe σ vs ∧ tYes σ2 H2 fun b H3 =>
        if b = true then te σ2 H3 fun y H4 => ∃ acc, H4 D = some (.lst acc) ∧ acc.length < sizeLine ∧ Nx (upd H4 D (.lst (acc ++ [y]))) else Nx H3) := by
  refine lc_it w (fun i H => Same H1 H ∧ ∃ ys, H D = some (.lst ys) ∧ Fa2 (R H) (l.take i) ys) ⟨same_upd hD, [], by simp [upd_same], by simp [Fa2]⟩ (fun i H _ h => hG H h.1) (fun i x H H' hi ⟨hs, ys, hd, hf⟩ hy => ?_) (fun H ⟨hs, ys, hd, hf⟩ => hQ H ys hs hd (by rw [hn, List.take_length] at hf; exact hf))
  have hl : i < l.length := by omega
  have ha : l[i]? = some l[i] := by simp [hl]
  obtain ⟨rfl, hx⟩ := hY i H x H' l[i] ha (hG H hs) hy
  refine ⟨wip x, ?_⟩
  unfold tYes
  simp only [if_true]
  refine step l[i] x H' _ (List.getElem_mem hl) hx hs fun y H4 h4 e => ⟨ys, h4 _ _ hd, ?_, same_put (Same.trans hs h4) hD, ys ++ [y], upd_same, ?_⟩
  · have := hf.len
    rw [List.length_take] at this
    omega
  · have si : SameI H4 (upd H4 D (.lst (ys ++ [y]))) := SameI.put SameI.rfl' (h4 _ _ hd)
    rw [List.take_add_one, ha]
    exact Fa2.snoc (hf.imp fun a b r => hR _ _ a b (SameI.trans (SameI.of h4) si) r) (hR _ _ _ _ si e)
end
theorem stepY {te : TE} {σ : L2.St} {H : Hp} {Kt : VK} {Kf : Hp → Prop} (h : te σ H Kt) : tYes σ H fun b H3 => if b = true then te σ H3 Kt else Kf H3 := by
  show (if true = true then te σ H Kt else Kf H)
  rw [if_pos rfl]
  exact h
/-- a tuple's, a list's items by what they stand for -/
theorem yAt {α : Type} {xs : List V} {l : List α} {item : α → V → Prop} (h : Fa2 item l xs) (i : Nat) (H : Hp) (x : V) (H' : Hp) (a : α) (ha : l[i]? = some a) (y : YAt xs i H x H') : H' = H ∧ item a x := ⟨y.1, h.get ha y.2⟩
theorem fa2_map {α : Type} {f : α → V} : ∀ {l : List α}, Fa2 (fun a x => x = f a) l (l.map f)
  | [] => trivial
  | _ :: _ => ⟨rfl, fa2_map⟩
end K6
set_option Elab.async false
set_option linter.all false
set_option maxRecDepth 100000
set_option maxHeartbeats 4000000
namespace K6
open PySem PySem.Spec PyProof.Rows L2
open He (ga ma)
/-! ### data, and how it stands in the heap -/
structure Trip where
  run : Bool
  name : Str
  start : Str
  leaves : Int
  takes : Int
  goal : Str
structure Tab where
  L : Int
  names : List Str
  places : List Str
  rows : List Trip
structure Stair where
  length : Int
  base : Int
  rises : List Int
  step : Int
def tripC (K : PySem.W.Frag) (t : Trip) : Addr := if t.run = true then ga K "Run" else ga K "Stay"
abbrev tripF (t : Trip) : List (Str × V) := [("name", .str t.name), ("start", .str t.start), ("leaves", .int t.leaves), ("takes", .int t.takes), ("goal", .str t.goal)]
def TripAt (K : PySem.W.Frag) (H : Hp) (t : Trip) (x : V) : Prop := ∃ a dx, x = .ref a ∧ H a = some (.ins (tripC K t) dx (tripF t))
def DayAt (K : PySem.W.Frag) (H : Hp) (L : Int) (x : V) : Prop := ∃ a dx, x = .ref a ∧ H a = some (.ins (ga K "Day") dx [("length", .int L)])
def TabAt (K : PySem.W.Frag) (H : Hp) (t : Tab) (x : V) : Prop := ∃ a dx d n p r ras, x = .ref a ∧ H a = some (.ins (ga K "Table") dx [("day", d), ("names", .ref n), ("places", .ref p), ("rows", .ref r)]) ∧ DayAt K H t.L d ∧
  H n = some (.tup (t.names.map V.str)) ∧ H p = some (.tup (t.places.map V.str)) ∧ H r = some (.tup ras) ∧ Fa2 (TripAt K H) t.rows ras
def StairAt (K : PySem.W.Frag) (H : Hp) (s : Stair) (x : V) : Prop := ∃ a dx r, x = .ref a ∧ H a = some (.ins (ga K "Stair") dx [("length", .int s.length), ("base", .int s.base), ("rises", .ref r), ("step", .int s.step)]) ∧ H r = some (.tup (s.rises.map V.int))
section
variable {K : PySem.W.Frag} {H H' : Hp}
theorem TripAt.si {t : Trip} {x : V} (s : SameI H H') : TripAt K H t x → TripAt K H' t x := fun ⟨a, dx, e, h⟩ => ⟨a, dx, e, s _ _ h (fun _ z => nomatch z)⟩
theorem DayAt.si {L : Int} {x : V} (s : SameI H H') : DayAt K H L x → DayAt K H' L x := fun ⟨a, dx, e, h⟩ => ⟨a, dx, e, s _ _ h (fun _ z => nomatch z)⟩
theorem TabAt.si {t : Tab} {x : V} (s : SameI H H') : TabAt K H t x → TabAt K H' t x := fun ⟨a, dx, d, n, p, r, ras, e, h, h1, h2, h3, h4, h5⟩ =>
  ⟨a, dx, d, n, p, r, ras, e, s _ _ h (fun _ z => nomatch z), h1.si s, s _ _ h2 (fun _ z => nomatch z), s _ _ h3 (fun _ z => nomatch z), s _ _ h4 (fun _ z => nomatch z), h5.imp fun _ _ q => q.si s⟩
theorem StairAt.si {t : Stair} {x : V} (s : SameI H H') : StairAt K H t x → StairAt K H' t x := fun ⟨a, dx, r, e, h, h1⟩ => ⟨a, dx, r, e, s _ _ h (fun _ z => nomatch z), s _ _ h1 (fun _ z => nomatch z)⟩
end
/-! ### what the promises ask of names -/
def letterB (c : Nat) : Bool := decide (97 ≤ c ∧ c ≤ 122)
/-- 1 to 8 letters -/
structure NameOk (x : Str) : Prop where
  lo : 1 ≤ x.length
  hi : x.length ≤ 8
  ab : ∀ c ∈ x.cps.toList, 97 ≤ c ∧ c ≤ 122
end K6
set_option Elab.async false
set_option linter.all false
set_option maxRecDepth 100000
set_option maxHeartbeats 4000000
namespace K6
open PySem PySem.Spec PyProof.Rows L2
open He (ga ma)
section
variable {K : PySem.W.Frag}
theorem k_ii : PySem.W.kitOne K (.type "int") (.type "int") = some true := kit_self (by decide)
theorem k_ib : PySem.W.kitOne K (.type "int") (.type "bool") = some false := kit_ty (by decide +kernel)
theorem k_ss : PySem.W.kitOne K (.type "str") (.type "str") = some true := kit_self (by decide)
theorem k_dd : PySem.W.kitOne K (.type "dict") (.type "dict") = some true := kit_self (by decide)
theorem k_ll : PySem.W.kitAny K (.type "list") [.type "list", .type "tuple"] = some true := kitAny_cons (b := true) (kit_self (by decide)) (fun z => nomatch z) (fun _ => rfl)
end
theorem letters_in {c : Nat} (h1 : 97 ≤ c) (h2 : c ≤ 122) : decide (c ∈ (("abcdefghijklmnopqrstuvwxyz" : Str)).cps.toList) = true := by
  have : ∀ k : Fin 26, decide ((97 + k.val) ∈ (("abcdefghijklmnopqrstuvwxyz" : Str)).cps.toList) = true := by decide +kernel
  have q := this ⟨c - 97, by omega⟩
  have e : 97 + (c - 97) = c := by omega
  rw [e] at q
  exact q
theorem filterMap_some {α β : Type} (f : α → β) : ∀ l : List α, l.filterMap (fun a => some (f a)) = l.map f
  | [] => rfl
  | a :: l => by rw [List.filterMap_cons, filterMap_some f l]; rfl
def sp_is_integer (K : PySem.W.Frag) : Sp := fun vs H Q _ => ∃ i : Int, vs = [.int i] ∧ Q (.bl true) H
def sp_is_between (K : PySem.W.Frag) : Sp := fun vs H Q _ => ∃ v lo hi : Int, vs = [.int v, .int lo, .int hi] ∧ lo ≤ v ∧ v ≤ hi ∧ Q (.bl true) H
def sp_is_number (K : PySem.W.Frag) : Sp := fun vs H Q _ => ∃ v : Int, vs = [.int v] ∧ 0 ≤ v ∧ v ≤ 1000000000000 ∧ Q (.bl true) H
def sp_is_row (K : PySem.W.Frag) : Sp := fun vs H Q _ => ∃ p xs, vs = [.ref p] ∧ H p = some (.lst xs) ∧ ∀ H', Same H H' → Q (.bl true) H'
def sp_is_name (K : PySem.W.Frag) : Sp := fun vs H Q _ => ∃ x : Str, vs = [.str x] ∧ NameOk x ∧ ∀ H', Same H H' → Q (.bl true) H'

abbrev N_is_integer : List Str := ["value"]
theorem sc_is_integer : FnScope N_is_integer ["value"] (defScope s_is_integer) := ⟨rfl, rfl, rfl, by decide +kernel, rfl, by decide +kernel, by decide +kernel⟩
theorem ok_is_integer {P : Program} {w : World} {K : PySem.W.Frag} {mg : Str → Option Value} {base : Heap} (T : Txt P K mg) : FnR P w K mg base CX0 1 (ga K "is_integer") (sp_is_integer K) := by
  have nd := sc_is_integer.nd
  refine fnR T.d_is_integer sc_is_integer (fun _ _ _ _ _ _ us hl => match us, hl with | [_], _ => rfl) (fun vs H Q E h => ?_) fun cdv A outer s H vs Q E hr h => ⟨_, (pss_one (ps_ret (pe_and (pe_callB call_isi rfl T.f_isinstance bt_isinstance (pa_cons (pv 0) (pa_cons (pe_bltn (v := .ty "int") rfl T.f_int bt_int rfl) pa_nil))) (pe_one (pe_not (pe_callB call_isi rfl T.f_isinstance bt_isinstance (pa_cons (pv 0) (pa_cons (pe_bltn (v := .ty "bool") rfl T.f_bool bt_bool rfl) pa_nil)))))))), ?_⟩
  · obtain ⟨i, rfl, _⟩ := h; rfl
  · obtain ⟨i, rfl, hq⟩ := h
    exact ⟨_, rfl, _, _, _, _, _, rfl, .ty _, .base (.int _), k_ii, true, rfl, iteT ⟨_, rfl, _, _, _, _, _, rfl, .ty _, .base (.int _), k_ib, false, rfl, hq⟩⟩
abbrev N_is_between : List Str := ["value", "low", "high"]
theorem sc_is_between : FnScope N_is_between ["value", "low", "high"] (defScope s_is_between) := ⟨rfl, rfl, rfl, by decide +kernel, rfl, by decide +kernel, by decide +kernel⟩
theorem ok_is_between {P : Program} {w : World} {K : PySem.W.Frag} {mg : Str → Option Value} {base : Heap} (T : Txt P K mg) : FnR P w K mg base CX0 2 (ga K "is_between") (sp_is_between K) := by
  have nd := sc_is_between.nd
  refine fnR T.d_is_between sc_is_between (fun _ _ _ _ _ _ us hl => match us, hl with | [_, _, _], _ => rfl) (fun vs H Q E h => ?_) fun cdv A outer s H vs Q E hr h => ⟨_, (pss_one (ps_ret (pe_and (pe_cal (ok_is_integer T) (hr.mono (by decide)) (kpOf T.d_is_integer) rfl T.g_is_integer pass0 (pa_cons (pv 0) pa_nil)) (pe_one (pe_chain op_le op_le (pv 1) (pv 0) (pv 2)))))), ?_⟩
  · obtain ⟨_, _, _, rfl, _⟩ := h; rfl
  · obtain ⟨v, lo, hi, rfl, h1, h2, hq⟩ := h
    refine ⟨_, rfl, _, rfl, true, rfl, iteT ⟨_, rfl, _, rfl, _, _, rfl, rfl, _, rfl, ?_⟩⟩
    rw [decide_eq_true h1]
    refine iteT ⟨_, rfl, _, _, rfl, rfl, ?_⟩
    show Q (.bl (decide (v ≤ hi))) H
    rw [decide_eq_true h2]
    exact hq
abbrev N_is_number : List Str := ["value"]
theorem sc_is_number : FnScope N_is_number ["value"] (defScope s_is_number) := ⟨rfl, rfl, rfl, by decide +kernel, rfl, by decide +kernel, by decide +kernel⟩
theorem ok_is_number {P : Program} {w : World} {K : PySem.W.Frag} {mg : Str → Option Value} {base : Heap} (T : Txt P K mg) : FnR P w K mg base CX0 3 (ga K "is_number") (sp_is_number K) := by
  have nd := sc_is_number.nd
  obtain ⟨_, hc_MOST_NUMBER⟩ := T.c_MOST_NUMBER
  refine fnR T.d_is_number sc_is_number (fun _ _ _ _ _ _ us hl => match us, hl with | [_], _ => rfl) (fun vs H Q E h => ?_) fun cdv A outer s H vs Q E hr h => ⟨_, (pss_one (ps_ret (pe_cal (ok_is_between T) (hr.mono (by decide)) (kpOf T.d_is_between) rfl T.g_is_between pass0 (pa_cons (pv 0) (pa_cons pe_int (pa_cons (pe_glob (v := .int 1000000000000) rfl hc_MOST_NUMBER ⟨_, rfl⟩) pa_nil)))))), ?_⟩
  · obtain ⟨_, rfl, _⟩ := h; rfl
  · obtain ⟨v, rfl, h1, h2, hq⟩ := h
    exact ⟨_, rfl, _, _, _, rfl, h1, h2, hq⟩
abbrev N_is_row : List Str := ["value"]
theorem sc_is_row : FnScope N_is_row ["value"] (defScope s_is_row) := ⟨rfl, rfl, rfl, by decide +kernel, rfl, by decide +kernel, by decide +kernel⟩
theorem ok_is_row {P : Program} {w : World} {K : PySem.W.Frag} {mg : Str → Option Value} {base : Heap} (T : Txt P K mg) : FnR P w K mg base CX0 1 (ga K "is_row") (sp_is_row K) := by
  have nd := sc_is_row.nd
  refine fnR T.d_is_row sc_is_row (fun _ _ _ _ _ _ us hl => match us, hl with | [_], _ => rfl) (fun vs H Q E h => ?_) fun cdv A outer s H vs Q E hr h => ⟨_, (pss_one (ps_ret (pe_callB call_isiT rfl T.f_isinstance bt_isinstance (pa_cons (pv 0) (pa_cons (pe_tup (pa_cons (pe_bltn (v := .ty "list") rfl T.f_list bt_list rfl) (pa_cons (pe_bltn (v := .ty "tuple") rfl T.f_tuple bt_tuple rfl) pa_nil))) pa_nil))))), ?_⟩
  · obtain ⟨_, _, rfl, _⟩ := h; rfl
  · obtain ⟨p, xs, rfl, hp, hq⟩ := h
    refine ⟨_, rfl, (by show 2 ≤ sizeLine; decide), fun q hq2 => ⟨_, q, _, _, _, _, rfl, upd_same, .cons (.ty _) (.cons (.ty _) .nil), .base (.lst (by rw [upd_ne (fun z => by rw [z, hq2] at hp; cases hp)]; exact hp)), k_ll, hq _ (same_upd hq2)⟩⟩
abbrev N_is_name : List Str := ["value", "sign"]
theorem sc_is_name : FnScope N_is_name ["value"] (defScope s_is_name) := ⟨rfl, rfl, rfl, by decide +kernel, rfl, by decide +kernel, by decide +kernel⟩
theorem ok_is_name {P : Program} {w : World} {K : PySem.W.Frag} {mg : Str → Option Value} {base : Heap} (T : Txt P K mg) : FnR P w K mg base CX0 1 (ga K "is_name") (sp_is_name K) := by
  have nd := sc_is_name.nd
  obtain ⟨_, hc_LETTERS⟩ := T.c_LETTERS
  refine fnR T.d_is_name sc_is_name (fun _ _ _ _ _ _ us hl => match us, hl with | [_], _ => rfl) (fun vs H Q E h => ?_) fun cdv A outer s H vs Q E hr h => ⟨_, (pss_cons (ps_if (PW.pt (pw_or (pt_not (pt_val (pe_callB call_isi rfl T.f_isinstance bt_isinstance (pa_cons (pv 0) (pa_cons (pe_bltn (v := .ty "str") rfl T.f_str bt_str rfl) pa_nil))))) (pw_or1 (pt_not (pt_chain op_le op_le pe_int (pe_callB call_len_str rfl T.f_len bt_len (pa_cons (pv 0) pa_nil)) pe_int))))) (pss_one (ps_ret pe_bl)) pss_nil) (pss_one (ps_ret (pe_callB (cr_all rfl) rfl T.f_all bt_all (pa_cons (pe_lc (own := [("sign", 1)]) (g := gName 1) (tt := tYes) (te := _) rfl nd (pi_str (pv 0)) (blkOk_by (N := N_is_name) (sc := defScope s_is_name) (by decide +kernel)) (fun _ _ _ _ _ => pg_name (i := 1) nd rfl (by first | exact Or.inl rfl | exact Or.inr rfl)) (fun _ _ _ _ _ => pts_nil) (fun _ _ _ _ _ => (pe_cmpR op_in_sign (pv 1) (pe_glob (v := .str "abcdefghijklmnopqrstuvwxyz") rfl hc_LETTERS ⟨_, rfl⟩) rfl))) pa_nil))))), ?_⟩
  · obtain ⟨_, rfl, _⟩ := h; rfl
  · obtain ⟨x, rfl, hx, hq⟩ := h
    have h1 : (1 : Int) ≤ x.length := by have := hx.lo; omega
    have h8 : (x.length : Int) ≤ 8 := by have := hx.hi; omega
    have hz : x.length ≤ sizeLine := by have := hx.hi; rw [sizeLine_eq]; omega
    refine ⟨_, rfl, _, _, _, _, _, rfl, .ty _, .base (.str _), k_ss, true, rfl, iteF ⟨_, rfl, x, rfl, hz, _, _, rfl, rfl, _, rfl, ?_⟩⟩
    rw [decide_eq_true h1]
    refine iteT ⟨_, _, rfl, rfl, _, rfl, ?_⟩
    rw [decide_eq_true h8]
    refine iteF ?_
    refine ⟨_, rfl, x, rfl, fun D hD => lcF (walk_str (z := x)) x.cps.toList (by simp) 1 (fun c v => v = .str ⟨#[c]⟩) (fun i H v H' a ha _ y => ?_) hD (fun _ _ => trivial) (fun _ => some (.bl true)) (by have := hx.hi; rw [sizeLine_eq]; show x.cps.toList.length < _; rw [Array.length_toList]; have e : x.cps.size = x.length := rfl; omega) (fun c v H Kt Kf hc hv hs h1 h2 => ?_) (fun v => rfl) fun H' hs hd => ?_⟩
    · obtain ⟨e, c, hc, hv⟩ := y
      have : a = c := by
        rw [Array.getElem?_toList, hc] at ha
        exact (Option.some.inj ha).symm
      exact ⟨e, by rw [this]; exact hv⟩
    · subst hv
      have hab := hx.ab c hc
      refine stepY ⟨_, rfl, c, _, rfl, rfl, ?_⟩
      rw [letters_in hab.1 hab.2]
      exact h1 _ _ (Same.refl _) rfl
    · refine ⟨D, x.cps.toList.map fun _ => true, rfl, .inl (.inl ?_), ?_⟩
      · rw [hd, filterMap_some, List.map_map]
        rfl
      · have e : ((x.cps.toList.map fun _ => true).all id) = true := by simp
        rw [e]
        exact hq _ hs
end K6
set_option Elab.async false
set_option linter.all false
set_option maxRecDepth 100000
set_option maxHeartbeats 4000000
namespace K6
open PySem PySem.Spec PyProof.Rows L2
open He (ga ma)

/-- what an __init__ leaves: its instance's attributes -/
def InitTo (H : Hp) (x C dx : Addr) (fs : List (Str × V)) (Q : VK) : Prop := ∀ H', (∀ b o, b ≠ x → H b = some o → H' b = some o) → H' x = some (.ins C dx fs) → Q .non H'
theorem init_same {H1 H' : Hp} {x dx C : Addr} (nx : H1 x = none) (nd : H1 dx = none) (k : ∀ b o, b ≠ x → upd (upd H1 dx (.own x)) x (.ins C dx []) b = some o → H' b = some o) : Same H1 H' := fun b o e => by
  have h1 : b ≠ x := fun z => by rw [z, nx] at e; cases e
  have h2 : b ≠ dx := fun z => by rw [z, nd] at e; cases e
  exact k b o h1 (by rw [upd_ne h1, upd_ne h2]; exact e)
theorem initTo_one {H : Hp} {x C dx : Addr} {fs : List (Str × V)} {Q : VK} (h : InitTo H x C dx fs Q) : Q .non (upd H x (.ins C dx fs)) := h _ (fun b o hb e => by rw [upd_ne hb]; exact e) upd_same
theorem initTo_same {H H1 : Hp} {x C dx : Addr} {fs : List (Str × V)} {Q : VK} (s : Same H H1) (h : InitTo H x C dx fs Q) : Q .non (upd H1 x (.ins C dx fs)) := h _ (fun b o hb e => by rw [upd_ne hb]; exact s b o e) upd_same
structure TripOk (t : Trip) : Prop where
  n : NameOk t.name
  s : NameOk t.start
  g : NameOk t.goal
  l0 : 0 ≤ t.leaves
  l1 : t.leaves ≤ 1000000000000
  t0 : 1 ≤ t.takes
  t1 : t.takes ≤ 1000000000000
  st : t.run = false → t.goal = t.start
structure TripC (K : PySem.W.Frag) (C : Addr) : Prop where
  cl : Cls K C
  n : NoAttr K C "name"
  s : NoAttr K C "start"
  l : NoAttr K C "leaves"
  t : NoAttr K C "takes"
  g : NoAttr K C "goal"
theorem tripC_ok {P : Program} {K : PySem.W.Frag} {mg : Str → Option Value} (T : Txt P K mg) (t : Trip) : TripC K (tripC K t) := by
  unfold tripC
  cases t.run with
  | true => exact ⟨T.cl_Run, T.na_Run_name, T.na_Run_start, T.na_Run_leaves, T.na_Run_takes, T.na_Run_goal⟩
  | false => exact ⟨T.cl_Stay, T.na_Stay_name, T.na_Stay_start, T.na_Stay_leaves, T.na_Stay_takes, T.na_Stay_goal⟩
def sp_Day_init (K : PySem.W.Frag) : Sp := fun vs H Q _ => ∃ x dx L, vs = [.ref x, .int L] ∧ H x = some (.ins (ga K "Day") dx []) ∧ 1 ≤ L ∧ L ≤ 1000000000000 ∧ InitTo H x (ga K "Day") dx [("length", .int L)] Q
def sp_Day_eq (K : PySem.W.Frag) : Sp := fun vs H Q _ => ∃ x y L M, vs = [x, y] ∧ DayAt K H L x ∧ DayAt K H M y ∧ Q (.bl (decide (L = M))) H
def sp_Trip_init (K : PySem.W.Frag) : Sp := fun vs H Q _ => ∃ x dx t, vs = [.ref x, .str t.name, .str t.start, .int t.leaves, .int t.takes, .str t.goal] ∧ H x = some (.ins (tripC K t) dx []) ∧ TripOk t ∧ InitTo H x (tripC K t) dx (tripF t) Q
def sp_Above_init (K : PySem.W.Frag) : Sp := fun vs H Q _ => ∃ x dx n p, vs = [.ref x, n, p] ∧ H x = some (.ins (ga K "Above") dx []) ∧ InitTo H x (ga K "Above") dx [("number", n), ("pauses", p)] Q
def sp_Stair_init (K : PySem.W.Frag) : Sp := fun vs H Q _ => ∃ x dx l b r s, vs = [.ref x, l, b, r, s] ∧ H x = some (.ins (ga K "Stair") dx []) ∧ InitTo H x (ga K "Stair") dx [("length", l), ("base", b), ("rises", r), ("step", s)] Q

abbrev N_Day_init : List Str := ["self", "length"]
theorem sc_Day_init : FnScope N_Day_init ["self", "length"] (defScope s_Day_init) := ⟨rfl, rfl, rfl, by decide +kernel, rfl, by decide +kernel, by decide +kernel⟩
theorem ok_Day_init {P : Program} {w : World} {K : PySem.W.Frag} {mg : Str → Option Value} {base : Heap} (T : Txt P K mg) : FnR P w K mg base CX0 3 (ma K (ga K "Day") "__init__") (sp_Day_init K) := by
  have nd := sc_Day_init.nd
  obtain ⟨_, hc_MOST_LENGTH⟩ := T.c_MOST_LENGTH
  refine fnR T.d_Day_init sc_Day_init (fun _ _ _ _ _ _ us hl => match us, hl with | [_, _], _ => rfl) (fun vs H Q E h => ?_) fun cdv A outer s H vs Q E hr h => ⟨_, (pss_cons (ps_if (pt_not (pt_val (pe_cal (ok_is_between T) (hr.mono (by decide)) (kpOf T.d_is_between) rfl T.g_is_between pass0 (pa_cons (pv 1) (pa_cons pe_int (pa_cons (pe_glob (v := .int 1000000000000) rfl hc_MOST_LENGTH ⟨_, rfl⟩) pa_nil)))))) pss_never pss_nil) (pss_one (ps_fld (pv 0) (pv 1) rfl))), ?_⟩
  · obtain ⟨_, _, _, rfl, _⟩ := h; rfl
  · obtain ⟨x, dx, L, rfl, hx, h1, h2, hq⟩ := h
    exact ⟨_, rfl, _, _, _, rfl, h1, h2, _, rfl, iteF ⟨_, rfl, _, rfl, _, _, _, _, rfl, hx, T.cl_Day, T.na_Day_length, by show (0 : Nat) < 1000; decide, initTo_one hq⟩⟩
abbrev N_Day_eq : List Str := ["self", "other"]
theorem sc_Day_eq : FnScope N_Day_eq ["self", "other"] (defScope s_Day_eq) := ⟨rfl, rfl, rfl, by decide +kernel, rfl, by decide +kernel, by decide +kernel⟩
theorem ok_Day_eq {P : Program} {w : World} {K : PySem.W.Frag} {mg : Str → Option Value} {base : Heap} (T : Txt P K mg) : FnR P w K mg base CX0 1 (ma K (ga K "Day") "__eq__") (sp_Day_eq K) := by
  have nd := sc_Day_eq.nd
  refine fnR T.d_Day_eq sc_Day_eq (fun _ _ _ _ _ _ us hl => match us, hl with | [_, _], _ => rfl) (fun vs H Q E h => ?_) fun cdv A outer s H vs Q E hr h => ⟨_, (pss_one (ps_ret (pe_and (pe_callB call_isi rfl T.f_isinstance bt_isinstance (pa_cons (pv 1) (pa_cons (pe_glob (v := .ref (ga K "Day")) rfl T.g_Day rfl) pa_nil))) (pe_one (pe_cmpR op_eq (pe_fld (pv 0) rfl) (pe_fld (pv 1) rfl) (nomark _)))))), ?_⟩
  · obtain ⟨_, _, _, _, rfl, _⟩ := h; rfl
  · obtain ⟨x, y, L, M, rfl, ⟨a, dx, rfl, ha⟩, ⟨b, dy, rfl, hb⟩, hq⟩ := h
    refine ⟨_, rfl, _, _, _, _, _, rfl, .own _, T.ty_Day hb, kit_own, true, rfl, iteT ⟨_, rfl, _, _, _, _, _, rfl, ha, T.cl_Day, T.na_Day_length, rfl, _, rfl, _, _, _, _, _, rfl, hb, T.cl_Day, T.na_Day_length, rfl, rfl, ?_⟩⟩
    have e : decide (V.int L = V.int M) = decide (L = M) := by by_cases q : L = M <;> simp [q]
    show Q (.bl (decide (V.int L = V.int M))) H
    rw [e]
    exact hq
abbrev N_Trip_init : List Str := ["self", "name", "start", "leaves", "takes", "goal"]
theorem sc_Trip_init : FnScope N_Trip_init ["self", "name", "start", "leaves", "takes", "goal"] (defScope s_Trip_init) := ⟨rfl, rfl, rfl, by decide +kernel, rfl, by decide +kernel, by decide +kernel⟩
theorem ok_Trip_init {P : Program} {w : World} {K : PySem.W.Frag} {mg : Str → Option Value} {base : Heap} (T : Txt P K mg) : FnR P w K mg base CX0 4 (ma K (ga K "Trip") "__init__") (sp_Trip_init K) := by
  have nd := sc_Trip_init.nd
  obtain ⟨_, hc_MOST_NUMBER⟩ := T.c_MOST_NUMBER
  refine fnR T.d_Trip_init sc_Trip_init (fun _ _ _ _ _ _ us hl => match us, hl with | [_, _, _, _, _, _], _ => rfl) (fun vs H Q E h => ?_) fun cdv A outer s H vs Q E hr h => ⟨_, (pss_cons (ps_if (pt_not (pt_val (pe_cal (ok_is_name T) (hr.mono (by decide)) (kpOf T.d_is_name) rfl T.g_is_name pass0 (pa_cons (pv 1) pa_nil)))) pss_never pss_nil) (pss_cons (ps_if (PW.pt (pw_or (pt_not (pt_val (pe_cal (ok_is_name T) (hr.mono (by decide)) (kpOf T.d_is_name) rfl T.g_is_name pass0 (pa_cons (pv 2) pa_nil)))) (pw_or1 (pt_not (pt_val (pe_cal (ok_is_name T) (hr.mono (by decide)) (kpOf T.d_is_name) rfl T.g_is_name pass0 (pa_cons (pv 5) pa_nil))))))) pss_never pss_nil) (pss_cons (ps_if (pt_not (pt_val (pe_cal (ok_is_number T) (hr.mono (by decide)) (kpOf T.d_is_number) rfl T.g_is_number pass0 (pa_cons (pv 3) pa_nil)))) pss_never pss_nil) (pss_cons (ps_if (pt_not (pt_val (pe_cal (ok_is_between T) (hr.mono (by decide)) (kpOf T.d_is_between) rfl T.g_is_between pass0 (pa_cons (pv 4) (pa_cons pe_int (pa_cons (pe_glob (v := .int 1000000000000) rfl hc_MOST_NUMBER ⟨_, rfl⟩) pa_nil)))))) pss_never pss_nil) (pss_cons (ps_fld (pv 0) (pv 1) rfl) (pss_cons (ps_fld (pv 0) (pv 2) rfl) (pss_cons (ps_fld (pv 0) (pv 3) rfl) (pss_cons (ps_fld (pv 0) (pv 4) rfl) (pss_one (ps_fld (pv 0) (pv 5) rfl)))))))))), ?_⟩
  · obtain ⟨_, _, _, rfl, _⟩ := h; rfl
  · obtain ⟨x, dx, t, rfl, hx, ok, hq⟩ := h
    have C := tripC_ok T t
    refine ⟨_, rfl, _, rfl, ok.n, fun H1 s1 => ⟨_, rfl, iteF ⟨_, rfl, _, rfl, ok.s, fun H2 s2 => ⟨_, rfl, iteF ⟨_, rfl, _, rfl, ok.g, fun H3 s3 => ⟨_, rfl, iteF ?_⟩⟩⟩⟩⟩⟩
    have s : Same H H3 := Same.trans s1 (Same.trans s2 s3)
    refine ⟨_, rfl, _, rfl, ok.l0, ok.l1, _, rfl, iteF ⟨_, rfl, _, _, _, rfl, ok.t0, ok.t1, _, rfl, iteF ?_⟩⟩
    refine ⟨_, rfl, _, rfl, _, _, _, _, rfl, s _ _ hx, C.cl, C.n, by show (0 : Nat) < 1000; decide, ?_⟩
    refine ⟨_, rfl, _, rfl, _, _, _, _, rfl, upd_same, C.cl, C.s, by show (1 : Nat) < 1000; decide, ?_⟩
    refine ⟨_, rfl, _, rfl, _, _, _, _, rfl, upd_same, C.cl, C.l, by show (2 : Nat) < 1000; decide, ?_⟩
    refine ⟨_, rfl, _, rfl, _, _, _, _, rfl, upd_same, C.cl, C.t, by show (3 : Nat) < 1000; decide, ?_⟩
    refine ⟨_, rfl, _, rfl, _, _, _, _, rfl, upd_same, C.cl, C.g, by show (4 : Nat) < 1000; decide, ?_⟩
    refine hq _ (fun b o hb e => ?_) upd_same
    rw [upd_ne hb, upd_ne hb, upd_ne hb, upd_ne hb, upd_ne hb]
    exact s b o e
abbrev N_Above_init : List Str := ["self", "number", "pauses"]
theorem sc_Above_init : FnScope N_Above_init ["self", "number", "pauses"] (defScope s_Above_init) := ⟨rfl, rfl, rfl, by decide +kernel, rfl, by decide +kernel, by decide +kernel⟩
theorem ok_Above_init {P : Program} {w : World} {K : PySem.W.Frag} {mg : Str → Option Value} {base : Heap} (T : Txt P K mg) : FnR P w K mg base CX0 1 (ma K (ga K "Above") "__init__") (sp_Above_init K) := by
  have nd := sc_Above_init.nd
  refine fnR T.d_Above_init sc_Above_init (fun _ _ _ _ _ _ us hl => match us, hl with | [_, _, _], _ => rfl) (fun vs H Q E h => ?_) fun cdv A outer s H vs Q E hr h => ⟨_, (pss_cons (ps_fld (pv 0) (pv 1) rfl) (pss_one (ps_fld (pv 0) (pv 2) rfl))), ?_⟩
  · obtain ⟨_, _, _, _, rfl, _⟩ := h; rfl
  · obtain ⟨x, dx, n, p, rfl, hx, hq⟩ := h
    refine ⟨_, rfl, _, rfl, _, _, _, _, rfl, hx, T.cl_Above, T.na_Above_number, by show (0 : Nat) < 1000; decide, ?_⟩
    refine ⟨_, rfl, _, rfl, _, _, _, _, rfl, upd_same, T.cl_Above, T.na_Above_pauses, by show (1 : Nat) < 1000; decide, ?_⟩
    refine hq _ (fun b o hb e => ?_) upd_same
    rw [upd_ne hb, upd_ne hb]
    exact e
abbrev N_Stair_init : List Str := ["self", "length", "base", "rises", "step"]
theorem sc_Stair_init : FnScope N_Stair_init ["self", "length", "base", "rises", "step"] (defScope s_Stair_init) := ⟨rfl, rfl, rfl, by decide +kernel, rfl, by decide +kernel, by decide +kernel⟩
theorem ok_Stair_init {P : Program} {w : World} {K : PySem.W.Frag} {mg : Str → Option Value} {base : Heap} (T : Txt P K mg) : FnR P w K mg base CX0 1 (ma K (ga K "Stair") "__init__") (sp_Stair_init K) := by
  have nd := sc_Stair_init.nd
  refine fnR T.d_Stair_init sc_Stair_init (fun _ _ _ _ _ _ us hl => match us, hl with | [_, _, _, _, _], _ => rfl) (fun vs H Q E h => ?_) fun cdv A outer s H vs Q E hr h => ⟨_, (pss_cons (ps_fld (pv 0) (pv 1) rfl) (pss_cons (ps_fld (pv 0) (pv 2) rfl) (pss_cons (ps_fld (pv 0) (pv 3) rfl) (pss_one (ps_fld (pv 0) (pv 4) rfl))))), ?_⟩
  · obtain ⟨_, _, _, _, _, _, rfl, _⟩ := h; rfl
  · obtain ⟨x, dx, l, b, r, st, rfl, hx, hq⟩ := h
    refine ⟨_, rfl, _, rfl, _, _, _, _, rfl, hx, T.cl_Stair, T.na_Stair_length, by show (0 : Nat) < 1000; decide, ?_⟩
    refine ⟨_, rfl, _, rfl, _, _, _, _, rfl, upd_same, T.cl_Stair, T.na_Stair_base, by show (1 : Nat) < 1000; decide, ?_⟩
    refine ⟨_, rfl, _, rfl, _, _, _, _, rfl, upd_same, T.cl_Stair, T.na_Stair_rises, by show (2 : Nat) < 1000; decide, ?_⟩
    refine ⟨_, rfl, _, rfl, _, _, _, _, rfl, upd_same, T.cl_Stair, T.na_Stair_step, by show (3 : Nat) < 1000; decide, ?_⟩
    refine hq _ (fun b o hb e => ?_) upd_same
    rw [upd_ne hb, upd_ne hb, upd_ne hb, upd_ne hb]
    exact e
end K6
set_option Elab.async false
set_option linter.all false
set_option maxRecDepth 100000
set_option maxHeartbeats 4000000
namespace K6
open PySem PySem.Spec PyProof.Rows L2
open He (ga ma)

def sp_Run_init (K : PySem.W.Frag) : Sp := fun vs H Q _ => ∃ x dx t, t.run = true ∧ vs = [.ref x, .str t.name, .str t.start, .int t.leaves, .int t.takes, .str t.goal] ∧ H x = some (.ins (ga K "Run") dx []) ∧ TripOk t ∧ InitTo H x (ga K "Run") dx (tripF t) Q
theorem ok_Run_init {P : Program} {w : World} {K : PySem.W.Frag} {mg : Str → Option Value} {base : Heap} (T : Txt P K mg) : FnR P w K mg base CX0 6 (ma K (ga K "Run") "__init__") (sp_Run_init K) := by
  obtain ⟨cc, cda, fd, SF⟩ := T.su_Run
  refine (fn_super (N := ["self", "name", "start", "leaves", "takes", "goal"]) (P := P) (w := w) (base := base) (pl := pure false) (p5 := ⟨0, 0, 0, 0⟩) SF T.sc_Run (ok_Trip_init T) rfl rfl rfl (by decide +kernel) (by decide +kernel) (by decide +kernel) (by decide +kernel) rfl rfl rfl rfl (fun _ _ _ _ _ us hl => match us, hl with | [_, _, _, _, _, _], _ => rfl) (by decide)
    (fun X hN hs => (pa_cons (pe_var (i := 1) (by rw [hN]; rfl) (.inl (by rw [hs]; rfl))) (pa_cons (pe_var (i := 2) (by rw [hN]; rfl) (.inl (by rw [hs]; rfl))) (pa_cons (pe_var (i := 3) (by rw [hN]; rfl) (.inl (by rw [hs]; rfl))) (pa_cons (pe_var (i := 4) (by rw [hN]; rfl) (.inl (by rw [hs]; rfl))) (pa_cons (pe_var (i := 5) (by rw [hN]; rfl) (.inl (by rw [hs]; rfl))) pa_nil)))))) (fun env => rfl) (fun env => rfl) (fun env => rfl) (fun env => rfl)).imp fun vs H Q E h => ?_
  obtain ⟨x, dx, t, hrun, rfl, hx, ok, hq⟩ := h
  have hC : tripC K t = ga K "Run" := by unfold tripC; rw [hrun]; rfl
  have hx2 : H x = some (.ins (tripC K t) dx []) := by rw [hC]; exact hx
  have hq3 : InitTo H x (tripC K t) dx (tripF t) fun v H' => Q .non H' := by rw [hC]; exact hq
  exact ⟨x, _, dx, _, rfl, rfl, hx, _, rfl, _, rfl, _, rfl, _, rfl, _, rfl, rfl, x, dx, t, rfl, hx2, ok, hq3⟩
def sp_Stay_init (K : PySem.W.Frag) : Sp := fun vs H Q _ => ∃ x dx t, t.run = false ∧ vs = [.ref x, .str t.name, .str t.start, .int t.leaves, .int t.takes] ∧ H x = some (.ins (ga K "Stay") dx []) ∧ TripOk t ∧ InitTo H x (ga K "Stay") dx (tripF t) Q
theorem ok_Stay_init {P : Program} {w : World} {K : PySem.W.Frag} {mg : Str → Option Value} {base : Heap} (T : Txt P K mg) : FnR P w K mg base CX0 6 (ma K (ga K "Stay") "__init__") (sp_Stay_init K) := by
  obtain ⟨cc, cda, fd, SF⟩ := T.su_Stay
  refine (fn_super (N := ["self", "name", "place", "leaves", "takes"]) (P := P) (w := w) (base := base) (pl := pure false) (p5 := ⟨0, 0, 0, 0⟩) SF T.sc_Stay (ok_Trip_init T) rfl rfl rfl (by decide +kernel) (by decide +kernel) (by decide +kernel) (by decide +kernel) rfl rfl rfl rfl (fun _ _ _ _ _ us hl => match us, hl with | [_, _, _, _, _], _ => rfl) (by decide)
    (fun X hN hs => (pa_cons (pe_var (i := 1) (by rw [hN]; rfl) (.inl (by rw [hs]; rfl))) (pa_cons (pe_var (i := 2) (by rw [hN]; rfl) (.inl (by rw [hs]; rfl))) (pa_cons (pe_var (i := 3) (by rw [hN]; rfl) (.inl (by rw [hs]; rfl))) (pa_cons (pe_var (i := 4) (by rw [hN]; rfl) (.inl (by rw [hs]; rfl))) (pa_cons (pe_var (i := 2) (by rw [hN]; rfl) (.inl (by rw [hs]; rfl))) pa_nil)))))) (fun env => rfl) (fun env => rfl) (fun env => rfl) (fun env => rfl)).imp fun vs H Q E h => ?_
  obtain ⟨x, dx, t, hrun, rfl, hx, ok, hq⟩ := h
  have hC : tripC K t = ga K "Stay" := by unfold tripC; rw [hrun]; rfl
  have hx2 : H x = some (.ins (tripC K t) dx []) := by rw [hC]; exact hx
  have hq3 : InitTo H x (tripC K t) dx (tripF t) fun v H' => Q .non H' := by rw [hC]; exact hq
  have eg := ok.st hrun
  have hq2 : sp_Trip_init K [.ref x, .str t.name, .str t.start, .int t.leaves, .int t.takes, .str t.start] H (fun v H' => Q .non H') E := ⟨x, dx, t, by rw [eg], hx2, ok, hq3⟩
  exact ⟨x, _, dx, _, rfl, rfl, hx, _, rfl, _, rfl, _, rfl, _, rfl, _, rfl, rfl, hq2⟩
theorem made_trip {K : PySem.W.Frag} {H1 : Hp} {x : Addr} {t : Trip} {C dx : Addr} (hC : tripC K t = C) (h : H1 x = some (.ins C dx (tripF t))) : TripAt K H1 t (.ref x) := ⟨x, dx, rfl, by rw [hC]; exact h⟩
theorem tripC_run {K : PySem.W.Frag} {t : Trip} (h : t.run = true) : tripC K t = ga K "Run" := by unfold tripC; rw [h]; rfl
theorem tripC_stay {K : PySem.W.Frag} {t : Trip} (h : t.run = false) : tripC K t = ga K "Stay" := by unfold tripC; rw [h]; rfl
/-- timed: the same trip at other times -/
def sp_timed (K : PySem.W.Frag) (r : Bool) : Sp := fun vs H Q _ => ∃ x t l k, t.run = r ∧ vs = [x, .int l, .int k] ∧ TripAt K H t x ∧ TripOk { t with leaves := l, takes := k } ∧ ∀ H' y, Same H H' → TripAt K H' { t with leaves := l, takes := k } y → Q y H'

abbrev N_Run_timed : List Str := ["self", "leaves", "takes"]
theorem sc_Run_timed : FnScope N_Run_timed ["self", "leaves", "takes"] (defScope s_Run_timed) := ⟨rfl, rfl, rfl, by decide +kernel, rfl, by decide +kernel, by decide +kernel⟩
theorem ok_Run_timed {P : Program} {w : World} {K : PySem.W.Frag} {mg : Str → Option Value} {base : Heap} (T : Txt P K mg) : FnR P w K mg base CX0 8 (ma K (ga K "Run") "timed") (sp_timed K true) := by
  have nd := sc_Run_timed.nd
  refine fnR T.d_Run_timed sc_Run_timed (fun _ _ _ _ _ _ us hl => match us, hl with | [_, _, _], _ => rfl) (fun vs H Q E h => ?_) fun cdv A outer s H vs Q E hr h => ⟨_, (pss_one (ps_ret (StX.pe_makeR T.mk_Run (ok_Run_init T) (hr.mono (by decide)) rfl T.g_Run pass0 (pa_cons (pe_fld (pv 0) rfl) (pa_cons (pe_fld (pv 0) rfl) (pa_cons (pv 1) (pa_cons (pv 2) (pa_cons (pe_fld (pv 0) rfl) pa_nil)))))))), ?_⟩
  · obtain ⟨_, _, _, _, _, rfl, _⟩ := h; rfl
  · obtain ⟨x, t, l, k, hr0, rfl, ⟨a, da, rfl, ha⟩, ok, hq⟩ := h
    rw [tripC_run hr0] at ha
    refine ⟨_, rfl, _, _, _, _, _, rfl, ha, T.cl_Run, T.na_Run_name, rfl, _, rfl, _, _, _, _, _, rfl, ha, T.cl_Run, T.na_Run_start, rfl, _, rfl, _, rfl, _, rfl, _, _, _, _, _, rfl, ha, T.cl_Run, T.na_Run_goal, rfl, fun x dx nx nd ne => ?_⟩
    refine ⟨x, dx, { t with leaves := l, takes := k }, hr0, rfl, upd_same, ok, fun H' h1 h2 => ⟨rfl, hq H' _ (init_same nx nd h1) (made_trip (tripC_run hr0) h2)⟩⟩
abbrev N_Stay_timed : List Str := ["self", "leaves", "takes"]
theorem sc_Stay_timed : FnScope N_Stay_timed ["self", "leaves", "takes"] (defScope s_Stay_timed) := ⟨rfl, rfl, rfl, by decide +kernel, rfl, by decide +kernel, by decide +kernel⟩
theorem ok_Stay_timed {P : Program} {w : World} {K : PySem.W.Frag} {mg : Str → Option Value} {base : Heap} (T : Txt P K mg) : FnR P w K mg base CX0 8 (ma K (ga K "Stay") "timed") (sp_timed K false) := by
  have nd := sc_Stay_timed.nd
  refine fnR T.d_Stay_timed sc_Stay_timed (fun _ _ _ _ _ _ us hl => match us, hl with | [_, _, _], _ => rfl) (fun vs H Q E h => ?_) fun cdv A outer s H vs Q E hr h => ⟨_, (pss_one (ps_ret (StX.pe_makeR T.mk_Stay (ok_Stay_init T) (hr.mono (by decide)) rfl T.g_Stay pass0 (pa_cons (pe_fld (pv 0) rfl) (pa_cons (pe_fld (pv 0) rfl) (pa_cons (pv 1) (pa_cons (pv 2) pa_nil))))))), ?_⟩
  · obtain ⟨_, _, _, _, _, rfl, _⟩ := h; rfl
  · obtain ⟨x, t, l, k, hr0, rfl, ⟨a, da, rfl, ha⟩, ok, hq⟩ := h
    rw [tripC_stay hr0] at ha
    refine ⟨_, rfl, _, _, _, _, _, rfl, ha, T.cl_Stay, T.na_Stay_name, rfl, _, rfl, _, _, _, _, _, rfl, ha, T.cl_Stay, T.na_Stay_start, rfl, _, rfl, _, rfl, fun x dx nx nd ne => ?_⟩
    refine ⟨x, dx, { t with leaves := l, takes := k }, hr0, rfl, upd_same, ok, fun H' h1 h2 => ⟨rfl, hq H' _ (init_same nx nd h1) (made_trip (tripC_stay hr0) h2)⟩⟩
def sp_need_table (K : PySem.W.Frag) : Sp := fun vs H Q _ => ∃ x dx fs, vs = [.ref x] ∧ H x = some (.ins (ga K "Table") dx fs) ∧ Q .non H
def sp_needed_pauses (K : PySem.W.Frag) : Sp := fun vs H Q _ => ∃ x dx fs, vs = [.ref x] ∧ H x = some (.ins (ga K "Pauses") dx fs) ∧ Q (.ref x) H
def sp_need_place (K : PySem.W.Frag) : Sp := fun vs H Q _ => ∃ x t p, vs = [x, .str p] ∧ TabAt K H t x ∧ p ∈ t.places ∧ Q .non H
def sp_need_two (K : PySem.W.Frag) : Sp := fun vs H Q _ => ∃ x y t u, vs = [x, y] ∧ TabAt K H t x ∧ TabAt K H u y ∧ t.L = u.L ∧ Q .non H
def sp_need_like (K : PySem.W.Frag) : Sp := fun vs H Q _ => ∃ x y s t, vs = [x, y] ∧ StairAt K H s x ∧ StairAt K H t y ∧ s.length = t.length ∧ Q .non H
theorem inV_mem {p : Str} {l : List Str} (h : p ∈ l) : inV (.str p) (l.map V.str) = true := by
  unfold inV
  rw [List.any_eq_true]
  exact ⟨.str p, List.mem_map.mpr ⟨p, h, rfl⟩, by simp [eqV]⟩
theorem flat_strs : ∀ l : List Str, (l.map V.str).all flatV = true
  | [] => rfl
  | a :: l => by rw [List.map_cons, List.all_cons, flat_strs l]; rfl

abbrev N_need_table : List Str := ["table"]
theorem sc_need_table : FnScope N_need_table ["table"] (defScope s_need_table) := ⟨rfl, rfl, rfl, by decide +kernel, rfl, by decide +kernel, by decide +kernel⟩
theorem ok_need_table {P : Program} {w : World} {K : PySem.W.Frag} {mg : Str → Option Value} {base : Heap} (T : Txt P K mg) : FnR P w K mg base CX0 1 (ga K "need_table") (sp_need_table K) := by
  have nd := sc_need_table.nd
  refine fnR T.d_need_table sc_need_table (fun _ _ _ _ _ _ us hl => match us, hl with | [_], _ => rfl) (fun vs H Q E h => ?_) fun cdv A outer s H vs Q E hr h => ⟨_, (pss_one (ps_if (pt_not (pt_val (pe_callB call_isi rfl T.f_isinstance bt_isinstance (pa_cons (pv 0) (pa_cons (pe_glob (v := .ref (ga K "Table")) rfl T.g_Table rfl) pa_nil))))) pss_never pss_nil)), ?_⟩
  · obtain ⟨_, _, _, rfl, _⟩ := h; rfl
  · obtain ⟨x, dx, fs, rfl, hx, hq⟩ := h
    exact ⟨_, rfl, _, _, _, _, _, rfl, .own _, T.ty_Table hx, kit_own, _, rfl, iteF hq⟩
abbrev N_needed_pauses : List Str := ["pauses"]
theorem sc_needed_pauses : FnScope N_needed_pauses ["pauses"] (defScope s_needed_pauses) := ⟨rfl, rfl, rfl, by decide +kernel, rfl, by decide +kernel, by decide +kernel⟩
theorem ok_needed_pauses {P : Program} {w : World} {K : PySem.W.Frag} {mg : Str → Option Value} {base : Heap} (T : Txt P K mg) : FnR P w K mg base CX0 1 (ga K "needed_pauses") (sp_needed_pauses K) := by
  have nd := sc_needed_pauses.nd
  refine fnR T.d_needed_pauses sc_needed_pauses (fun _ _ _ _ _ _ us hl => match us, hl with | [_], _ => rfl) (fun vs H Q E h => ?_) fun cdv A outer s H vs Q E hr h => ⟨_, (pss_cons (ps_if (pt_cmpR op_isN (pv 0) pe_non (nomark _)) pss_never pss_nil) (pss_cons (ps_if (pt_not (pt_val (pe_callB call_isi rfl T.f_isinstance bt_isinstance (pa_cons (pv 0) (pa_cons (pe_glob (v := .ref (ga K "Pauses")) rfl T.g_Pauses rfl) pa_nil))))) pss_never pss_nil) (pss_one (ps_ret (pv 0))))), ?_⟩
  · obtain ⟨_, _, _, rfl, _⟩ := h; rfl
  · obtain ⟨x, dx, fs, rfl, hx, hq⟩ := h
    exact ⟨_, rfl, rfl, false, rfl, iteF ⟨_, rfl, _, _, _, _, _, rfl, .own _, T.ty_Pauses hx, kit_own, _, rfl, iteF ⟨_, rfl, hq⟩⟩⟩
abbrev N_need_place : List Str := ["table", "place"]
theorem sc_need_place : FnScope N_need_place ["table", "place"] (defScope s_need_place) := ⟨rfl, rfl, rfl, by decide +kernel, rfl, by decide +kernel, by decide +kernel⟩
theorem ok_need_place {P : Program} {w : World} {K : PySem.W.Frag} {mg : Str → Option Value} {base : Heap} (T : Txt P K mg) : FnR P w K mg base CX0 1 (ga K "need_place") (sp_need_place K) := by
  have nd := sc_need_place.nd
  refine fnR T.d_need_place sc_need_place (fun _ _ _ _ _ _ us hl => match us, hl with | [_, _], _ => rfl) (fun vs H Q E h => ?_) fun cdv A outer s H vs Q E hr h => ⟨_, (pss_one (ps_if (PW.pt (pw_or (pt_not (pt_val (pe_callB call_isi rfl T.f_isinstance bt_isinstance (pa_cons (pv 1) (pa_cons (pe_bltn (v := .ty "str") rfl T.f_str bt_str rfl) pa_nil))))) (pw_or1 (pt_cmpR op_notIn_seq (pv 1) (pe_fld (pv 0) rfl) rfl)))) pss_never pss_nil)), ?_⟩
  · obtain ⟨_, _, _, rfl, _⟩ := h; rfl
  · obtain ⟨x, t, p, rfl, ⟨a, dx, d, n, q, r, ras, rfl, ha, _, _, hp, _⟩, hm, hq⟩ := h
    refine ⟨_, rfl, _, _, _, _, _, rfl, .ty _, .base (.str _), k_ss, true, rfl, iteF ⟨_, rfl, _, rfl, _, _, _, _, _, rfl, ha, T.cl_Table, T.na_Table_places, rfl, q, _, rfl, .inr (.inl (.inl hp)), rfl, flat_strs _, _, rfl, ?_⟩⟩
    rw [if_pos rfl, inV_mem hm]
    exact iteF hq
abbrev N_need_two : List Str := ["one", "other"]
theorem sc_need_two : FnScope N_need_two ["one", "other"] (defScope s_need_two) := ⟨rfl, rfl, rfl, by decide +kernel, rfl, by decide +kernel, by decide +kernel⟩
theorem ok_need_two {P : Program} {w : World} {K : PySem.W.Frag} {mg : Str → Option Value} {base : Heap} (T : Txt P K mg) : FnR P w K mg base CX0 3 (ga K "need_two") (sp_need_two K) := by
  have nd := sc_need_two.nd
  refine fnR T.d_need_two sc_need_two (fun _ _ _ _ _ _ us hl => match us, hl with | [_, _], _ => rfl) (fun vs H Q E h => ?_) fun cdv A outer s H vs Q E hr h => ⟨_, (pss_cons (ps_if (pt_not (pt_val (pe_callB call_isi rfl T.f_isinstance bt_isinstance (pa_cons (pv 0) (pa_cons (pe_glob (v := .ref (ga K "Table")) rfl T.g_Table rfl) pa_nil))))) pss_never pss_nil) (pss_cons (ps_if (pt_not (pt_val (pe_callB call_isi rfl T.f_isinstance bt_isinstance (pa_cons (pv 1) (pa_cons (pe_glob (v := .ref (ga K "Table")) rfl T.g_Table rfl) pa_nil))))) pss_never pss_nil) (pss_one (ps_if (pt_cmpR (op_neO (ok_Day_eq T) (hr.mono (by decide)) pass0 T.ne_Day) (pe_fld (pv 0) rfl) (pe_fld (pv 1) rfl) (nomark _)) pss_never pss_nil)))), ?_⟩
  · obtain ⟨_, _, _, _, rfl, _⟩ := h; rfl
  · obtain ⟨x, y, t, u, rfl, ⟨a, da, d, _, _, _, _, rfl, ha, hd, _⟩, ⟨b, db, e, _, _, _, _, rfl, hb, he, _⟩, hL, hq⟩ := h
    refine ⟨_, rfl, _, _, _, _, _, rfl, .own _, T.ty_Table ha, kit_own, _, rfl, iteF ⟨_, rfl, _, _, _, _, _, rfl, .own _, T.ty_Table hb, kit_own, _, rfl, iteF ⟨_, rfl, _, _, _, _, _, rfl, ha, T.cl_Table, T.na_Table_day, rfl, _, rfl, _, _, _, _, _, rfl, hb, T.cl_Table, T.na_Table_day, rfl, ?_⟩⟩⟩
    obtain ⟨a1, da1, rfl, ha1⟩ := hd
    obtain ⟨b1, db1, rfl, hb1⟩ := he
    refine ⟨_, _, _, _, _, _, rfl, rfl, ha1, hb1, _, _, _, _, rfl, ⟨_, _, rfl, ha1⟩, ⟨_, _, rfl, hb1⟩, _, rfl, _, rfl, ?_⟩
    rw [hL]
    simp only [decide_true, Bool.not_true, Bool.false_eq_true, if_false]
    exact hq
abbrev N_Stair_need_like : List Str := ["self", "other"]
theorem sc_Stair_need_like : FnScope N_Stair_need_like ["self", "other"] (defScope s_Stair_need_like) := ⟨rfl, rfl, rfl, by decide +kernel, rfl, by decide +kernel, by decide +kernel⟩
theorem ok_Stair_need_like {P : Program} {w : World} {K : PySem.W.Frag} {mg : Str → Option Value} {base : Heap} (T : Txt P K mg) : FnR P w K mg base CX0 1 (ma K (ga K "Stair") "need_like") (sp_need_like K) := by
  have nd := sc_Stair_need_like.nd
  refine fnR T.d_Stair_need_like sc_Stair_need_like (fun _ _ _ _ _ _ us hl => match us, hl with | [_, _], _ => rfl) (fun vs H Q E h => ?_) fun cdv A outer s H vs Q E hr h => ⟨_, (pss_cons (ps_if (pt_not (pt_val (pe_callB call_isi rfl T.f_isinstance bt_isinstance (pa_cons (pv 1) (pa_cons (pe_glob (v := .ref (ga K "Stair")) rfl T.g_Stair rfl) pa_nil))))) pss_never pss_nil) (pss_one (ps_if (pt_cmpR op_ne (pe_fld (pv 0) rfl) (pe_fld (pv 1) rfl) (nomark _)) pss_never pss_nil))), ?_⟩
  · obtain ⟨_, _, _, _, rfl, _⟩ := h; rfl
  · obtain ⟨x, y, s1, s2, rfl, ⟨a, da, r1, rfl, ha, _⟩, ⟨b, db, r2, rfl, hb, _⟩, hL, hq⟩ := h
    refine ⟨_, rfl, _, _, _, _, _, rfl, .own _, T.ty_Stair hb, kit_own, _, rfl, iteF ⟨_, rfl, _, _, _, _, _, rfl, ha, T.cl_Stair, T.na_Stair_length, rfl, _, rfl, _, _, _, _, _, rfl, hb, T.cl_Stair, T.na_Stair_length, rfl, rfl, _, rfl, ?_⟩⟩
    rw [hL, decide_eq_true rfl]
    exact iteF hq
end K6
set_option Elab.async false
set_option linter.all false
set_option maxRecDepth 100000
set_option maxHeartbeats 4000000
namespace K6
open PySem PySem.Spec PyProof.Rows L2
open He (ga ma)
/-- all but what is at D stands -/
def SameX (D : Addr) (H H' : Hp) : Prop := ∀ b o, b ≠ D → H b = some o → H' b = some o
/-- what an inner for walks: ys, while the heap grows and D changes -/
def Inner (D : Addr) (J : It) (H : Hp) (ys : List V) : Prop := ∃ G Y, Walk J ys.length G Y ∧ (∀ H', SameX D H H' → G H') ∧ ∀ i H0 x H', i < ys.length → Y i H0 x H' → YAt ys i H0 x H'
theorem inner_tup {K : PySem.W.Frag} {a D : Addr} {H : Hp} {ys : List V} (h : H a = some (.tup ys)) (hD : ∃ acc, H D = some (.lst acc)) : Inner D (Itt K a) H ys := ⟨_, _, walk_tup, fun H' s => .inl (.inl (s _ _ (fun z => by
  obtain ⟨acc, e⟩ := hD
  rw [z, e] at h
  cases h) h)), fun _ _ _ _ _ y => y⟩
theorem inner_list {K : PySem.W.Frag} {a D : Addr} {H : Hp} {ys : List V} (h : H a = some (.lst ys)) (hD : a ≠ D) : Inner D (Itl K a) H ys := ⟨_, _, walk_list, fun H' s => .inl (.inl (s _ _ hD h)), fun _ _ _ _ _ y => y⟩
section
variable {J : It} {n : Nat} {G : Hp → Prop} {Y : Nat → Hp → V → Hp → Prop} {te : TE} {wi1 : TI} {vs vs1 : List Nat} {σ : L2.St} {H1 : Hp} {D : Addr} {Qd : Hp → Prop} {α : Type}
/-- [e for x in .. for y in ..] -/
theorem lc2F (w : Walk J n G Y) (l : List α) (hn : n = l.length) (j j1 : Nat) (item : α → V → Prop) (hY : ∀ i H x H' (a : α), l[i]? = some a → G H → Y i H x H' → H' = H ∧ item a x)
    (hD : H1 D = none) (hG : ∀ H', Same H1 H' → G H') (inn : α → List V) (f : α → V → V) (hz : ((l.flatMap inn).length) < sizeLine)
    (step1 : ∀ (a : α) (x : V) (H : Hp) (Kr : It → Hp → Prop), a ∈ l → item a x → Same H1 H → (∃ acc, H D = some (.lst acc)) → (∀ J1 H4, Same H H4 → Inner D J1 H4 (inn a) → Kr J1 H4) → wi1 ((wipe σ vs).set j (some x)) H Kr)
    (step2 : ∀ (a : α) (x y : V) (H : Hp) (Kt : V → Hp → Prop), a ∈ l → item a x → y ∈ inn a → Same H1 H → (∀ H4, Same H H4 → Kt (f a y) H4) → te ((wipe ((wipe σ vs).set j (some x)) vs1).set j1 (some y)) H Kt)
    (wip : ∀ x, wipe ((wipe σ vs).set j (some x)) vs = wipe σ vs)
    (wip1 : ∀ x y, wipe ((wipe ((wipe σ vs).set j (some x)) vs1).set j1 (some y)) vs1 = wipe ((wipe σ vs).set j (some x)) vs1)
    (hQ : ∀ H', Same H1 H' → H' D = some (.lst (l.flatMap fun a => (inn a).map (f a))) → Qd H') :
    ∃ W : Nat → Nat → Hp → Prop, (∃ m, W 0 m (upd H1 D (.lst []))) ∧ ∀ i m H, W i m H →
      (J.stop i H ∧ Qd H) ∨ (J.go i H ∧ ∃ Nx : Hp → Prop, (∀ H', Nx H' → ∃ m', m' < m ∧ W (i + 1) m' H') ∧ ∀ x H', J.yld i H x H' → gName j x (wipe σ vs) H' fun σ2 H2 => wipe σ2 vs = wipe σ vs ∧ tYes σ2 H2 fun b H3 =>
        if b = true then wi1 σ2 H3 fun J1 H4 => ∃ W1 : Nat → Nat → Hp → Prop, (∃ m, W1 0 m H4) ∧ ∀ j k H, W1 j k H →
          (J1.stop j H ∧ Nx H) ∨ (J1.go j H ∧ ∃ Nx1 : Hp → Prop, (∀ H', Nx1 H' → ∃ k', k' < k ∧ W1 (j + 1) k' H') ∧ ∀ x H', J1.yld j H x H' → gName j1 x (wipe σ2 vs1) H' fun σ3 H5 => wipe σ3 vs1 = wipe σ2 vs1 ∧ tYes σ3 H5 fun b H6 =>
            if b = true then te σ3 H6 fun y H7 => ∃ acc, H7 D = some (.lst acc) ∧ acc.length < sizeLine ∧ Nx1 (upd H7 D (.lst (acc ++ [y]))) else Nx1 H6)
        else Nx H3) := by
  have len1 : ∀ (m : List α), (m.flatMap fun a => (inn a).map (f a)).length = (m.flatMap inn).length := fun m => by
    induction m with
    | nil => rfl
    | cons a m ih => simp [List.flatMap_cons, ih]
  have tk : ∀ i (hl : i < l.length), (l.take (i + 1)) = l.take i ++ [l[i]] := fun i hl => by
    rw [List.take_add_one]
    simp [hl]
  have le1 : ∀ i, ((l.take i).flatMap inn).length ≤ (l.flatMap inn).length := fun i => by
    conv => rhs; rw [← List.take_append_drop i l]
    rw [List.flatMap_append, List.length_append]
    omega
  let P0 : Nat → Hp → Prop := fun i H => Same H1 H ∧ H D = some (.lst ((l.take i).flatMap fun a => (inn a).map (f a)))
  refine ⟨fun i m H => m = n - i ∧ i ≤ n ∧ P0 i H, ⟨n, by simp, Nat.zero_le _, same_upd hD, by simp [upd_same]⟩, ?_⟩
  rintro i m H ⟨rfl, hi, hs, hd⟩
  have q := hG H hs
  by_cases hlt : i < n
  · refine .inr ⟨w.goes i H hlt q, P0 (i + 1), fun H' p' => ⟨n - (i + 1), by omega, rfl, hlt, p'⟩, fun x H' y => ?_⟩
    have hl : i < l.length := by omega
    obtain ⟨rfl, hx⟩ := hY i H x H' l[i] (by simp [hl]) q (w.yields i H x H' hlt q y)
    refine ⟨wip x, ?_⟩
    unfold tYes
    simp only [if_true]
    refine step1 l[i] x H' _ (List.getElem_mem hl) hx hs ⟨_, hd⟩ fun J1 H4 s4 ⟨G1, Y1, w1, g1, y1⟩ => ?_
    let acc : Nat → List V := fun k => ((l.take i).flatMap fun a => (inn a).map (f a)) ++ ((inn l[i]).take k).map (f l[i])
    let P1 : Nat → Hp → Prop := fun k H => SameX D H4 H ∧ H D = some (.lst (acc k))
    have hs4 : Same H1 H4 := Same.trans hs s4
    have toS : ∀ H, SameX D H4 H → Same H1 H := fun H sx b o e => sx b o (fun z => by rw [z, hD] at e; cases e) (hs4 b o e)
    refine ⟨fun k m H => m = (inn l[i]).length - k ∧ k ≤ (inn l[i]).length ∧ P1 k H, ⟨(inn l[i]).length, by simp, Nat.zero_le _, fun b o _ e => e, (s4 _ _ hd).trans (by
      show some (HO.lst _) = some (HO.lst (_ ++ ((inn l[i]).take 0).map (f l[i])))
      rw [List.take_zero, List.map_nil, List.append_nil])⟩, ?_⟩
    rintro k m2 H5 ⟨rfl, hk, sx, hd5⟩
    by_cases hk2 : k < (inn l[i]).length
    · refine .inr ⟨w1.goes k H5 hk2 (g1 _ sx), P1 (k + 1), fun H' p' => ⟨(inn l[i]).length - (k + 1), by omega, rfl, hk2, p'⟩, fun y H6 yy => ?_⟩
      obtain ⟨rfl, hy⟩ := y1 k H5 y H6 hk2 (w1.yields k H5 y H6 hk2 (g1 _ sx) yy)
      refine ⟨wip1 x y, ?_⟩
      have hym : y ∈ inn l[i] := List.mem_of_getElem? hy
      refine step2 l[i] x y H6 _ (List.getElem_mem hl) hx hym (toS _ sx) fun H7 s7 => ⟨acc k, s7 _ _ hd5, ?_, fun b o hb e => ?_, ?_⟩
      · have e1 := le1 (i + 1)
        rw [tk i hl, List.flatMap_append, List.length_append] at e1
        have e3 : ([l[i]].flatMap inn).length = (inn l[i]).length := by simp
        have e4 : (acc k).length = ((l.take i).flatMap inn).length + k := by
          show (((l.take i).flatMap fun a => (inn a).map (f a)) ++ ((inn l[i]).take k).map (f l[i])).length = _
          rw [List.length_append, len1, List.length_map, List.length_take]
          omega
        omega
      · rw [upd_ne hb]
        exact s7 b o (sx b o hb e)
      · rw [upd_same]
        have e5 : acc (k + 1) = acc k ++ [f l[i] y] := by
          show _ ++ ((inn l[i]).take (k + 1)).map (f l[i]) = (_ ++ ((inn l[i]).take k).map (f l[i])) ++ _
          rw [List.take_add_one, hy, List.map_append, List.append_assoc]
          rfl
        rw [e5]
    · have ek : k = (inn l[i]).length := by omega
      subst ek
      refine .inl ⟨w1.stops H5 (g1 _ sx), toS _ sx, ?_⟩
      rw [hd5, tk i hl, List.flatMap_append]
      show some (HO.lst (_ ++ ((inn l[i]).take (inn l[i]).length).map (f l[i]))) = _
      rw [List.take_length]
      simp
  · have e : i = n := by omega
    subst e
    refine .inl ⟨w.stops H q, hQ H hs ?_⟩
    rw [hd, hn, List.take_length]
end
end K6
set_option Elab.async false
set_option linter.all false
set_option maxRecDepth 100000
set_option maxHeartbeats 4000000
namespace K6
open PySem PySem.Spec PyProof.Rows L2
open He (ga ma)

def PlacesOf (rows : List Trip) (ps : List Str) : Prop := ps.Nodup ∧ ∀ x, x ∈ ps ↔ ∃ t ∈ rows, x = t.start ∨ x = t.goal
/-- a tuple of trips -/
def RowsAt (K : PySem.W.Frag) (H : Hp) (rows : List Trip) (p : Addr) : Prop := ∃ ras, H p = some (.tup ras) ∧ Fa2 (TripAt K H) rows ras
theorem RowsAt.si {K : PySem.W.Frag} {H H' : Hp} {rows : List Trip} {p : Addr} (s : SameI H H') : RowsAt K H rows p → RowsAt K H' rows p := fun ⟨ras, h, f⟩ => ⟨ras, s _ _ h (fun _ z => nomatch z), f.imp fun _ _ q => q.si s⟩
def sp_need_all_trips (K : PySem.W.Frag) : Sp := fun vs H Q _ => ∃ p rows, vs = [.ref p] ∧ RowsAt K H rows p ∧ ∀ H', Same H H' → Q .non H'
def sp_places_of (K : PySem.W.Frag) : Sp := fun vs H Q _ => ∃ p rows, vs = [.ref p] ∧ RowsAt K H rows p ∧ rows.length ≤ 100 ∧ ∀ H' q ps, Same H H' → H q = none → H' q = some (.lst (ps.map V.str)) → PlacesOf rows ps → Q (.ref q) H'

abbrev N_need_all_trips : List Str := ["values", "at", "value"]
theorem sc_need_all_trips : FnScope N_need_all_trips ["values"] (defScope s_need_all_trips) := ⟨rfl, rfl, rfl, by decide +kernel, rfl, by decide +kernel, by decide +kernel⟩
theorem ok_need_all_trips {P : Program} {w : World} {K : PySem.W.Frag} {mg : Str → Option Value} {base : Heap} (T : Txt P K mg) : FnR P w K mg base CX0 1 (ga K "need_all_trips") (sp_need_all_trips K) := by
  have nd := sc_need_all_trips.nd
  refine fnR T.d_need_all_trips sc_need_all_trips (fun _ _ _ _ _ _ us hl => match us, hl with | [_], _ => rfl) (fun vs H Q E h => ?_) fun cdv A outer s H vs Q E hr h => ⟨_, (pss_one (ps_for PassesOwn.never rfl (pi_enumT rfl T.f_enumerate (pa_cons (pv 0) pa_nil)) (pg_tup rfl (pgs_cons (pg_name (i := 1) nd rfl (by first | exact Or.inl rfl | exact Or.inr rfl)) (pgs_cons (pg_name (i := 2) nd rfl (by first | exact Or.inl rfl | exact Or.inr rfl)) pgs_nil))) (pss_one (ps_if (pt_not (pt_val (pe_callB call_isi rfl T.f_isinstance bt_isinstance (pa_cons (pv 2) (pa_cons (pe_glob (v := .ref (ga K "Trip")) rfl T.g_Trip rfl) pa_nil))))) pss_never pss_nil)))), ?_⟩
  · obtain ⟨_, _, rfl, _⟩ := h; rfl
  · obtain ⟨p, rows, rfl, ⟨ras, hp, hf⟩, hq⟩ := h
    refine ⟨_, rfl, p, _, rfl, .inl (.inl hp), for_it walk_enumT (fun i σ H' => Same H H' ∧ ∃ u v, σ = [some (.ref p), u, v]) ⟨Same.refl _, _, _, rfl⟩ (fun i σ H' _ h => .inl (.inl (h.1 _ _ hp))) (fun i x σ H1 H2 hi hpv y => ?_) fun σ H' h => hq _ h.1⟩
    obtain ⟨hs, u, v, rfl⟩ := hpv
    obtain ⟨Tq, a, b, rfl, hT, rfl, ha, hb⟩ := y
    have hl : i < rows.length := by rw [hf.len]; exact hi
    obtain ⟨at_, dx, rfl, hat⟩ := hf.get (List.getElem?_eq_getElem hl) hb
    have s2 : Same H (upd H1 Tq (.tup [a, .ref at_])) := same_up hs hT
    refine ⟨Tq, _, rfl, .inl (.inl upd_same), rfl, _, _, rfl, _, _, rfl, rfl, ?_⟩
    have k : ∀ t : Trip, ∃ b, PySem.W.kitOne K (.ref (tripC K t)) (.ref (ga K "Trip")) = some b ∧ b = true := fun t => by
      unfold tripC
      cases t.run with
      | true => exact ⟨_, T.is_Run_Trip, rfl⟩
      | false => exact ⟨_, T.is_Stay_Trip, rfl⟩
    obtain ⟨b2, hb2, rfl⟩ := k rows[i]
    have ty : TyX K (upd H1 Tq (.tup [a, .ref at_])) (.ref at_) (.ref (tripC K rows[i])) := by
      have e := s2 _ _ hat
      unfold tripC at e ⊢
      cases hr : (rows[i]).run with
      | true => rw [hr] at e; exact T.ty_Run e
      | false => rw [hr] at e; exact T.ty_Stay e
    exact ⟨_, rfl, _, _, _, _, _, rfl, .own _, ty, hb2, _, rfl, iteF ⟨s2, _, _, rfl⟩⟩
abbrev N_places_of : List Str := ["trips", "trip", "place"]
theorem sc_places_of : FnScope N_places_of ["trips"] (defScope s_places_of) := ⟨rfl, rfl, rfl, by decide +kernel, rfl, by decide +kernel, by decide +kernel⟩
theorem ok_places_of {P : Program} {w : World} {K : PySem.W.Frag} {mg : Str → Option Value} {base : Heap} (T : Txt P K mg) : FnR P w K mg base CX0 1 (ga K "places_of") (sp_places_of K) := by
  have nd := sc_places_of.nd
  refine fnR T.d_places_of sc_places_of (fun _ _ _ _ _ _ us hl => match us, hl with | [_], _ => rfl) (fun vs H Q E h => ?_) fun cdv A outer s H vs Q E hr h => ⟨_, (pss_one (ps_ret (pe_callB (cr_sortSS rfl) rfl T.f_sorted bt_sorted (pa_cons (pe_callTy (cr_setL rfl) rfl T.f_set bt_set (pa_cons (pe_lc2 (own := [("trip", 1), ("place", 2)]) (vs1 := [2]) (g := gName 1) (tt := tYes) (g1 := gName 2) (tt1 := tYes) (wi1 := (iTup K (tTup (tCons (tFld K (tVar 1) "start") (tCons (tFld K (tVar 1) "goal") tNil))))) (te := (tCB _ (tCons (tVar 2) tNil))) rfl nd (pi_tup (pv 0)) (blkOk_by (N := N_places_of) (sc := defScope s_places_of) (by decide +kernel)) (by decide) (fun _ _ _ _ _ => pg_name (i := 1) nd rfl (by first | exact Or.inl rfl | exact Or.inr rfl)) (fun _ _ _ _ _ => pts_nil) (fun _ _ _ _ _ => (pi_tup (pe_tup (pa_cons (pe_fld (pv 1) rfl) (pa_cons (pe_fld (pv 1) rfl) pa_nil))))) (fun _ _ _ _ _ => pg_name (i := 2) nd rfl (by first | exact Or.inl rfl | exact Or.inr rfl)) (fun _ _ _ _ _ => pts_nil) (fun _ _ _ _ _ => (pe_callTy SkE.call_str_str rfl T.f_str bt_str (pa_cons (pv 2) pa_nil)))) pa_nil)) pa_nil)))), ?_⟩
  · obtain ⟨_, _, rfl, _⟩ := h; rfl
  · obtain ⟨p, rows, rfl, ⟨ras, hp, hf⟩, hlen, hq⟩ := h
    refine ⟨_, rfl, p, rfl, ⟨_, .inl (.inl hp)⟩, fun D hD => lc2F walk_tup rows hf.len.symm 1 2 (TripAt K H) (fun i H0 x H' a ha _ y => yAt hf i H0 x H' a ha y) hD (fun H' s => .inl (.inl (s _ _ hp))) (fun t => [.str t.start, .str t.goal]) (fun _ y => y) ?_ (fun t x H1 Kr _ hx hs hd hK => ?_) (fun t x y H1 Kt _ hx hy hs hK => ?_) (fun _ => rfl) (fun _ _ => rfl) fun H' hs hd => ?_⟩
    · have e : (rows.flatMap fun t : Trip => [V.str t.start, V.str t.goal]).length = 2 * rows.length := by
        clear hq hf hlen
        induction rows with
        | nil => rfl
        | cons a m ih => simp [List.flatMap_cons, ih]; omega
      rw [e, sizeLine_eq]; omega
    · obtain ⟨a, dx, rfl, ha⟩ := hx
      have C := tripC_ok T t
      have ha1 := hs _ _ ha
      refine ⟨_, rfl, _, _, _, _, _, rfl, ha1, C.cl, C.s, rfl, _, rfl, _, _, _, _, _, rfl, ha1, C.cl, C.g, rfl, (by show 2 ≤ sizeLine; decide), fun q hq2 => ⟨q, rfl, ⟨_, .inl (.inl upd_same)⟩, hK _ _ (same_upd hq2) (inner_tup upd_same ?_)⟩⟩
      obtain ⟨acc, e⟩ := hd
      exact ⟨acc, same_upd hq2 _ _ e⟩
    · have : ∃ s, y = .str s := by
        rcases List.mem_cons.mp hy with rfl | hy
        · exact ⟨_, rfl⟩
        · rcases List.mem_cons.mp hy with rfl | hy
          · exact ⟨_, rfl⟩
          · cases hy
      obtain ⟨s, rfl⟩ := this
      exact ⟨_, rfl, s, rfl, hK _ (Same.refl _)⟩
    · have e : (rows.flatMap fun t => ([V.str t.start, V.str t.goal]).map fun y => y) = (rows.flatMap fun t => [t.start, t.goal]).map V.str := by
        clear hq hf hlen hd
        induction rows with
        | nil => rfl
        | cons a m ih =>
          rw [List.flatMap_cons, List.flatMap_cons, List.map_append, ih]
          rfl
      rw [e] at hd
      refine ⟨D, (rows.flatMap fun t => [t.start, t.goal]).map Sum.inr, rfl, .inl (.inl ?_), ?_, fun q S n hq0 hS => ⟨q, S, n, rfl, upd_same, ?_, ?_⟩⟩
      · rw [hd, List.map_map]
        rfl
      · have e2 : (rows.flatMap fun t => [t.start, t.goal]).length = 2 * rows.length := by
          clear e hq hf hlen hd
          induction rows with
          | nil => rfl
          | cons a m ih => simp [List.flatMap_cons, ih]; omega
        rw [List.length_map, e2]
        show _ < 4096
        omega
      · intro k hk
        obtain ⟨z, _, rfl⟩ := List.mem_map.mp ((hS k).mp hk)
        exact ⟨z, rfl⟩
      · intro p2 ns hp2 hnd hns
        have h1 : Same H (upd H' q (SetMO w q S n)) := same_up hs hq0
        refine hq _ p2 ns (same_up h1 hp2) (Same.free h1 hp2) upd_same ⟨hnd, fun z => ?_⟩
        rw [hns z, hS]
        constructor
        · intro h
          obtain ⟨z2, h2, e3⟩ := List.mem_map.mp h
          obtain rfl := Sum.inr.inj e3
          obtain ⟨t, ht, h3⟩ := List.mem_flatMap.mp h2
          refine ⟨t, ht, ?_⟩
          rcases List.mem_cons.mp h3 with h4 | h4
          · exact .inl h4
          · exact .inr (List.mem_singleton.mp h4)
        · rintro ⟨t, ht, h4⟩
          refine List.mem_map.mpr ⟨z, List.mem_flatMap.mpr ⟨t, ht, ?_⟩, rfl⟩
          rcases h4 with h4 | h4
          · rw [h4]; exact List.mem_cons_self
          · rw [h4]; exact List.mem_cons_of_mem _ List.mem_cons_self
theorem fa2_zip {α β : Type} {R : α → β → Prop} : ∀ {l : List α} {m : List β}, Fa2 R l m → Fa2 (fun (p : α × β) x => x = p.2 ∧ R p.1 x) (l.zip m) m
  | [], [], _ => trivial
  | _ :: _, _ :: _, h => ⟨⟨rfl, h.1⟩, fa2_zip h.2⟩
  | [], _ :: _, h => h.elim
  | _ :: _, [], h => h.elim
theorem len_zip {α β : Type} {R : α → β → Prop} {l : List α} {m : List β} (h : Fa2 R l m) : (l.zip m).length = l.length := by
  have := h.len
  rw [List.length_zip]; omega
theorem len_filter_zip {α β : Type} {R : α → β → Prop} (P : α → Bool) : ∀ {l : List α} {m : List β}, Fa2 R l m → ((l.zip m).filterMap fun p => if P p.1 = true then some p.2 else none).length = (l.filter P).length
  | [], [], _ => rfl
  | a :: l, b :: m, h => by
    have ih := len_filter_zip P h.2
    rw [List.zip_cons_cons, List.filterMap_cons]
    cases e : P a with
    | true => simp [e, ih]
    | false => simp [e, ih]
  | [], _ :: _, h => h.elim
  | _ :: _, [], h => h.elim
def Balanced (rows : List Trip) : Prop := ∀ p, (rows.filter fun t => decide (t.goal = p)).length = (rows.filter fun t => decide (t.start = p)).length
def FewPlaces (rows : List Trip) : Prop := ∀ ps, PlacesOf rows ps → ps.length ≤ 8
def sp_need_few (K : PySem.W.Frag) : Sp := fun vs H Q _ => ∃ d p rows L, vs = [d, .ref p] ∧ DayAt K H L d ∧ RowsAt K H rows p ∧ rows.length ≤ 40 ∧ (∀ t ∈ rows, t.leaves < L) ∧ FewPlaces rows ∧ ∀ H', Same H H' → Q .non H'
def sp_unbalanced (K : PySem.W.Frag) : Sp := fun vs H Q _ => ∃ p rows, vs = [.ref p] ∧ RowsAt K H rows p ∧ rows.length ≤ 40 ∧ Balanced rows ∧ ∀ H', Same H H' → Q .non H'
theorem bl_str {a b : Str} : decide (V.str a = V.str b) = decide (a = b) := by by_cases q : a = b <;> simp [q]
theorem bl_int {a b : Int} : decide (V.int a = V.int b) = decide (a = b) := by by_cases q : a = b <;> simp [q]

abbrev N_need_few : List Str := ["day", "trips", "late", "trip"]
theorem sc_need_few : FnScope N_need_few ["day", "trips"] (defScope s_need_few) := ⟨rfl, rfl, rfl, by decide +kernel, rfl, by decide +kernel, by decide +kernel⟩
theorem ok_need_few {P : Program} {w : World} {K : PySem.W.Frag} {mg : Str → Option Value} {base : Heap} (T : Txt P K mg) : FnR P w K mg base CX0 2 (ga K "need_few") (sp_need_few K) := by
  have nd := sc_need_few.nd
  obtain ⟨_, hc_MOST_TRIPS⟩ := T.c_MOST_TRIPS
  obtain ⟨_, hc_MOST_PLACES⟩ := T.c_MOST_PLACES
  refine fnR T.d_need_few sc_need_few (fun _ _ _ _ _ _ us hl => match us, hl with | [_, _], _ => rfl) (fun vs H Q E h => ?_) fun cdv A outer s H vs Q E hr h => ⟨_, (pss_cons (ps_if (pt_cmpR op_gt (pe_callB call_lenS rfl T.f_len bt_len (pa_cons (pv 1) pa_nil)) (pe_glob (v := .int 40) rfl hc_MOST_TRIPS ⟨_, rfl⟩) (nomark _)) pss_never pss_nil) (pss_cons (ps_set (i := 2) nd rfl (by first | exact Or.inl rfl | exact Or.inr rfl) (pe_callB cr_sortedS rfl T.f_sorted bt_sorted (pa_cons (pe_lc (own := [("trip", 3)]) (g := gName 3) (tt := (tTest (tOp _ (tFld K (tVar 3) "leaves") (tFld K (tVar 0) "length")))) (te := (tCB _ (tCons (tFld K (tVar 3) "name") tNil))) rfl nd (pi_tup (pv 1)) (blkOk_by (N := N_need_few) (sc := defScope s_need_few) (by decide +kernel)) (fun _ _ _ _ _ => pg_name (i := 3) nd rfl (by first | exact Or.inl rfl | exact Or.inr rfl)) (fun _ _ _ _ _ => (pts_one (pt_cmpR op_ge (pe_fld (pv 3) rfl) (pe_fld (pv 0) rfl) (nomark _)))) (fun _ _ _ _ _ => (pe_callTy SkE.call_str_str rfl T.f_str bt_str (pa_cons (pe_fld (pv 3) rfl) pa_nil)))) pa_nil))) (pss_cons (ps_if (pt_cmpR op_gt (pe_callB call_lenS rfl T.f_len bt_len (pa_cons (pv 2) pa_nil)) pe_int (nomark _)) pss_never pss_nil) (pss_one (ps_if (pt_cmpR op_gt (pe_callB call_lenS rfl T.f_len bt_len (pa_cons (pe_cal (ok_places_of T) (hr.mono (by decide)) (kpOf T.d_places_of) rfl T.g_places_of pass0 (pa_cons (pv 1) pa_nil)) pa_nil)) (pe_glob (v := .int 8) rfl hc_MOST_PLACES ⟨_, rfl⟩) (nomark _)) pss_never pss_nil))))), ?_⟩
  · obtain ⟨_, _, _, _, rfl, _⟩ := h; rfl
  · obtain ⟨d, p, rows, L, rfl, ⟨da, dd, rfl, hd⟩, ⟨ras, hp, hf⟩, hlen, hlt, hfew, hq⟩ := h
    have hr40 : (ras.length : Int) ≤ 40 := by have := hf.len; omega
    refine ⟨_, rfl, p, ras, rfl, .inr (.inl (.inl hp)), _, _, rfl, rfl, _, rfl, ?_⟩
    rw [show decide ((40 : Int) < (ras.length : Int)) = false from decide_eq_false (by omega)]
    refine iteF ⟨_, rfl, p, rfl, ⟨_, .inl (.inl hp)⟩, fun D hD => lcF walk_tup rows hf.len.symm 3 (TripAt K H) (fun i H0 x H' a ha _ y => yAt hf i H0 x H' a ha y) hD (fun H' s => .inl (.inl (s _ _ hp))) (fun _ => none) (by rw [sizeLine_eq]; omega) (fun t x H1 Kt Kf ht hx hs h1 h2 => ?_) (fun _ => rfl) fun H' hs hD' => ?_⟩
    · obtain ⟨a, dx, rfl, ha⟩ := hx
      have C := tripC_ok T t
      refine ⟨_, rfl, _, _, _, _, _, rfl, hs _ _ ha, C.cl, C.l, rfl, _, rfl, _, _, _, _, _, rfl, hs _ _ hd, T.cl_Day, T.na_Day_length, rfl, _, _, rfl, rfl, _, rfl, ?_⟩
      rw [show decide (L ≤ t.leaves) = false from decide_eq_false (by have := hlt t ht; omega)]
      exact iteF (h2 _ (Same.refl _) rfl)
    · have e0 : (rows.filterMap fun _ => (none : Option V)) = [] := by induction rows with | nil => rfl | cons a m ih => simp
      rw [e0] at hD'
      refine ⟨D, [], rfl, .inl (.inl hD'), by decide, fun ys q hy _ hq0 => ?_⟩
      obtain rfl := List.Perm.eq_nil hy
      have s1 := same_up (o := .lst (([] : List Str).map V.str)) hs hq0
      refine ⟨_, rfl, q, _, rfl, .inl (.inl (.inl upd_same)), _, _, rfl, rfl, _, rfl, ?_⟩
      refine iteF ⟨_, rfl, p, rows, rfl, ⟨ras, s1 _ _ hp, hf.imp fun _ _ z => z.si (SameI.of s1)⟩, by omega, fun H3 q3 ps s3 _ h3 hps => ⟨q3, _, rfl, .inl (.inl (.inl h3)), _, _, rfl, rfl, _, rfl, ?_⟩⟩
      rw [List.length_map, show decide ((8 : Int) < (ps.length : Int)) = false from decide_eq_false (by have := hfew ps hps; omega)]
      exact iteF (hq _ (Same.trans s1 s3))
abbrev N_unbalanced : List Str := ["trips", "place", "ends", "trip"]
theorem sc_unbalanced : FnScope N_unbalanced ["trips"] (defScope s_unbalanced) := ⟨rfl, rfl, rfl, by decide +kernel, rfl, by decide +kernel, by decide +kernel⟩
theorem ok_unbalanced {P : Program} {w : World} {K : PySem.W.Frag} {mg : Str → Option Value} {base : Heap} (T : Txt P K mg) : FnR P w K mg base CX0 2 (ga K "unbalanced") (sp_unbalanced K) := by
  have nd := sc_unbalanced.nd
  refine fnR T.d_unbalanced sc_unbalanced (fun _ _ _ _ _ _ us hl => match us, hl with | [_], _ => rfl) (fun vs H Q E h => ?_) fun cdv A outer s H vs Q E hr h => ⟨_, (pss_cons (ps_for PassesOwn.never rfl (pi_list (pe_cal (ok_places_of T) (hr.mono (by decide)) (kpOf T.d_places_of) rfl T.g_places_of pass0 (pa_cons (pv 0) pa_nil))) (pg_name (i := 1) nd rfl (by first | exact Or.inl rfl | exact Or.inr rfl)) (pss_cons (ps_set (i := 2) nd rfl (by first | exact Or.inl rfl | exact Or.inr rfl) (pe_callB call_lenS rfl T.f_len bt_len (pa_cons (pe_lc (own := [("trip", 3)]) (g := gName 3) (tt := (tTest (tOp _ (tFld K (tVar 3) "goal") (tVar 1)))) (te := (tVar 3)) rfl nd (pi_tup (pv 0)) (blkOk_by (N := N_unbalanced) (sc := defScope s_unbalanced) (by decide +kernel)) (fun _ _ _ _ _ => pg_name (i := 3) nd rfl (by first | exact Or.inl rfl | exact Or.inr rfl)) (fun _ _ _ _ _ => (pts_one (pt_cmpR op_eq (pe_fld (pv 3) rfl) (pv 1) (nomark _)))) (fun _ _ _ _ _ => (pv 3))) pa_nil))) (pss_one (ps_if (pt_cmpR op_ne (pv 2) (pe_callB call_lenS rfl T.f_len bt_len (pa_cons (pe_lc (own := [("trip", 3)]) (g := gName 3) (tt := (tTest (tOp _ (tFld K (tVar 3) "start") (tVar 1)))) (te := (tVar 3)) rfl nd (pi_tup (pv 0)) (blkOk_by (N := N_unbalanced) (sc := defScope s_unbalanced) (by decide +kernel)) (fun _ _ _ _ _ => pg_name (i := 3) nd rfl (by first | exact Or.inl rfl | exact Or.inr rfl)) (fun _ _ _ _ _ => (pts_one (pt_cmpR op_eq (pe_fld (pv 3) rfl) (pv 1) (nomark _)))) (fun _ _ _ _ _ => (pv 3))) pa_nil)) (nomark _)) (pss_one (ps_ret (pv 1))) pss_nil)))) (pss_one (ps_ret pe_non))), ?_⟩
  · obtain ⟨_, _, rfl, _⟩ := h; rfl
  · obtain ⟨p, rows, rfl, ⟨ras, hp, hf⟩, hlen, hbal, hq⟩ := h
    refine ⟨_, rfl, p, rows, rfl, ⟨ras, hp, hf⟩, by omega, fun H1 q1 ps s1 _ h1 hps => ⟨q1, rfl, ⟨_, .inl (.inl h1)⟩, for_list (K := K) (fun i σ H' => Same H1 H' ∧ ∃ u v w, σ = [some (.ref p), u, v, w]) ⟨Same.refl _, _, _, _, rfl⟩ (fun i σ H' _ h => .inl (.inl (h.1 _ _ h1))) (fun i x σ H2 hx hpv => ?_) fun σ H' h => hq _ (Same.trans s1 h.1)⟩⟩
    obtain ⟨hs, u, v, w', rfl⟩ := hpv
    obtain ⟨pl, rfl⟩ : ∃ s, x = .str s := by
      rw [List.getElem?_map] at hx
      cases e : ps[i]? with
      | none => rw [e] at hx; cases hx
      | some s => rw [e] at hx; exact ⟨s, (Option.some.inj hx).symm⟩
    have hs2 := Same.trans s1 hs
    have filt : ∀ (H5 : Hp) (σ : L2.St) (fld : Str) (gv : Trip → Str) (hgf : ∀ t, (tripF t).lookup fld = some (.str (gv t))) (hna : ∀ t, NoAttr K (tripC K t) fld) (Qd : Addr → Hp → Prop) (hσ0 : σ = [some (.ref p), some (.str pl), v, none] ∨ True) (hσ : (wipe σ [3])[1]? = some (some (.str pl))) (hσ3 : (wipe σ [3]).length = 4) (_ : Same H H5),
        (∀ D H', Same H5 H' → (∃ xs, H' D = some (.lst xs) ∧ xs.length = (rows.filter fun t => decide (gv t = pl)).length) → Qd D H') →
        ∀ D, H5 D = none → ∃ W : Nat → Nat → Hp → Prop, (∃ m, W 0 m (upd H5 D (.lst []))) ∧ ∀ i m H, W i m H → ((Itt K p).stop i H ∧ Qd D H) ∨ ((Itt K p).go i H ∧ ∃ Nx : Hp → Prop, (∀ H', Nx H' → ∃ m', m' < m ∧ W (i + 1) m' H') ∧ ∀ x H', (Itt K p).yld i H x H' → gName 3 x (wipe σ [3]) H' fun σ2 H2 => wipe σ2 [3] = wipe σ [3] ∧ (tTest (tOp rEq (tFld K (tVar 3) fld) (tVar 1))) σ2 H2 fun b H3 => if b = true then (tVar 3) σ2 H3 fun y H4 => ∃ acc, H4 D = some (.lst acc) ∧ acc.length < sizeLine ∧ Nx (upd H4 D (.lst (acc ++ [y]))) else Nx H3) := by
      intro H5 σ fld gv hgf hna Qd _ hσ hσ3 hs5 hQd D hD
      have g3 : ∀ x : V, ((wipe σ [3]).set 3 (some x))[3]? = some (some x) := fun x => by rw [List.getElem?_set_self (by omega)]
      have g1 : ∀ x : V, ((wipe σ [3]).set 3 (some x))[1]? = some (some (.str pl)) := fun x => by rw [List.getElem?_set_ne (by decide)]; exact hσ
      refine lcF walk_tup (rows.zip ras) (by rw [len_zip hf]; exact hf.len.symm) 3 (fun q x => x = q.2 ∧ TripAt K H q.1 x) (fun i H0 x H' a ha _ y => yAt (fa2_zip hf) i H0 x H' a ha y) hD (fun H' s => .inl (.inl (s _ _ (hs5 _ _ hp)))) (fun q => if decide (gv q.1 = pl) = true then some q.2 else none) (by rw [len_zip hf, sizeLine_eq]; omega) (fun q x H6 Kt Kf hq hx hs6 k1 k2 => ?_) (fun x => ?_) fun H' hs' hd' => hQd D H' hs' ⟨_, hd', len_filter_zip (fun t => decide (gv t = pl)) hf⟩
      · obtain ⟨rfl, a, dx, ea, ha⟩ := hx
        have C := tripC_ok T q.1
        refine ⟨_, g3 _, a, _, _, _, _, ea, hs6 _ _ (hs5 _ _ ha), C.cl, hna q.1, hgf q.1, _, g1 _, rfl, _, rfl, ?_⟩
        rw [bl_str]
        by_cases e : gv q.1 = pl
        · rw [decide_eq_true e]
          exact iteT ⟨_, g3 _, k1 _ _ (Same.refl _) (by rw [decide_eq_true e]; rfl)⟩
        · rw [decide_eq_false e]
          exact iteF (k2 _ (Same.refl _) (by rw [decide_eq_false e]; rfl))
      · show (((wipe σ [3]).set 3 (some x)).set 3 none) = wipe σ [3]
        rw [List.set_set]
        show ((σ.set 3 none).set 3 none) = σ.set 3 none
        rw [List.set_set]
    refine ⟨_, rfl, p, rfl, ⟨_, .inl (.inl (hs2 _ _ hp))⟩, filt H2 _ "goal" (·.goal) (fun _ => rfl) (fun t => (tripC_ok T t).g) _ (.inr trivial) rfl rfl hs2 fun D H5 s5 ⟨xs, hD, hxs⟩ => ⟨D, xs, rfl, .inl (.inl (.inl hD)), ?_⟩⟩
    have hs5 := Same.trans hs2 s5
    refine ⟨_, rfl, _, rfl, p, rfl, ⟨_, .inl (.inl (hs5 _ _ hp))⟩, filt H5 _ "start" (·.start) (fun _ => rfl) (fun t => (tripC_ok T t).s) _ (.inr trivial) rfl rfl hs5 fun D2 H6 s6 ⟨ys, hD2, hys⟩ => ⟨D2, ys, rfl, .inl (.inl (.inl hD2)), rfl, _, rfl, ?_⟩⟩
    rw [hxs, hys, hbal pl, decide_eq_true rfl]
    exact iteF ⟨Same.trans hs (Same.trans s5 s6), _, _, _, rfl⟩
end K6
set_option Elab.async false
set_option linter.all false
set_option maxRecDepth 100000
set_option maxHeartbeats 4000000
namespace K6
open PySem PySem.Spec PyProof.Rows L2
open He (ga ma)

section
variable {X : Cx} {CX : CXT} {k : Nat} {f C : Addr} {sp : Sp} {E : XK} {x : Str} {e : Expr} {es : List Expr} {t : TA} {p pos : Pos}
/-- C(e, .., *y, ..) -/
theorem pe_makeS (M : Mk X.K C f) (F : FnR X.prog X.w X.K X.mg X.base CX k f sp) (hr : Room (k + 1) X.A) (hg : Gl X x) (hm : X.mg x = some (.ref C)) (hx : Passes CX X E) (ha : PA X (e :: es) t) (hdb : (x == ("__debug__" : Str)) = false := by decide)
    (he : starEach (e :: es) X.env = (false, eval e X.env) :: starEach es X.env := by rfl) (hst : (backTo pos (starEach es X.env)).any (·.1) = true := by rfl) : PE X (.Call (.Name x p) (e :: es) [] pos) (StX.tMakeR C sp E t) := by
  refine ⟨fun pins s σ H Q I h => ?_⟩
  refine wpAny_Call_Name_kw (ld_glob I hg hm ?_ hdb)
  refine PySem.W.callWith_S2 (h₀ := X.base) I.ok.mod.kin M.kp (thn (ha.run pos pins s σ H _ I h) fun us s1 ⟨vs, H1, I1, r, q⟩ => ⟨I1.kIn, ?_⟩) he hst
  exact StX.run_makeR M F hr hx I1 r q
end
theorem perm_map_inv {α β : Type} (f : α → β) {l : List α} {m : List β} (h : List.Perm m (l.map f)) : ∃ l', List.Perm l' l ∧ l'.map f = m := by
  generalize e : l.map f = n at h
  induction h generalizing l with
  | nil => cases l with
    | nil => exact ⟨[], .nil, rfl⟩
    | cons a l => cases e
  | cons x p ih => cases l with
    | nil => cases e
    | cons a l =>
      obtain ⟨e1, e2⟩ := List.cons.inj e
      obtain ⟨l', h1, h2⟩ := ih e2
      exact ⟨a :: l', h1.cons a, by rw [List.map_cons, h2, e1]⟩
  | swap x y l0 => match l, e with
    | a :: b :: l, e =>
      obtain ⟨e1, e2⟩ := List.cons.inj e
      obtain ⟨e3, e4⟩ := List.cons.inj e2
      exact ⟨b :: a :: l, List.Perm.swap a b l, by simp [e1, e3, e4]⟩
  | trans p1 p2 ih1 ih2 =>
    obtain ⟨l1, h1, h2⟩ := ih2 e
    obtain ⟨l2, h3, h4⟩ := ih1 h2
    exact ⟨l2, h3.trans h1, h4⟩
theorem valV_none {κ V' : Type} [DecidableEq κ] {kvs : List (κ × V)} {k : κ} (h : k ∉ kvs.map (·.1)) : valV kvs k = none := by
  unfold valV
  rw [List.find?_eq_none.mpr]
  · rfl
  · intro p hp
    simp only [decide_eq_true_eq]
    exact fun e => h (List.mem_map.mpr ⟨p, hp, e⟩)
theorem putK_new {κ : Type} [DecidableEq κ] {kvs : List (κ × V)} {k : κ} {v : V} (h : k ∉ kvs.map (·.1)) : putK kvs k v = kvs ++ [(k, v)] := by
  unfold putK
  rw [if_neg]
  intro e
  obtain ⟨p, hp, e⟩ := List.any_eq_true.mp e
  exact h (List.mem_map.mpr ⟨p, hp, of_decide_eq_true e⟩)
theorem valV_at {κ : Type} [DecidableEq κ] : ∀ {kvs : List (κ × V)} {i : Nat} {k : κ} {v : V}, (kvs.map (·.1)).Nodup → kvs[i]? = some (k, v) → valV kvs k = some v
  | (k0, v0) :: kvs, 0, k, v, _, h => by
    simp at h
    obtain ⟨rfl, rfl⟩ := h
    unfold valV
    simp
  | (k0, v0) :: kvs, i + 1, k, v, hn, h => by
    have h' : kvs[i]? = some (k, v) := by simpa using h
    have hn' := List.nodup_cons.mp (show (k0 :: kvs.map (·.1)).Nodup from hn)
    have ih := valV_at hn'.2 h'
    unfold valV at ih ⊢
    rw [List.find?_cons, show decide (k0 = k) = false from decide_eq_false fun e => hn'.1 (by
      rw [e]
      exact List.mem_map.mpr ⟨(k, v), List.mem_of_getElem? h', rfl⟩)]
    exact ih
/-- what a table's making asks -/
structure TabPre (L : Int) (rows : List Trip) : Prop where
  nd : (rows.map (·.name)).Nodup
  few : rows.length ≤ 40
  lt : ∀ t ∈ rows, t.leaves < L
  pl : FewPlaces rows
  bal : Balanced rows
/-- what it gives -/
structure TabGot (L : Int) (rows : List Trip) (tab : Tab) : Prop where
  hL : tab.L = L
  hr : tab.rows.Perm rows
  hp : PlacesOf rows tab.places
def sp_Table_init0 (K : PySem.W.Frag) : Sp := fun vs H Q _ => ∃ x dx d p rows L, vs = [.ref x, d, .ref p] ∧ H x = some (.ins (ga K "Table") dx []) ∧ DayAt K H L d ∧ RowsAt K H rows p ∧ TabPre L rows ∧
  ∀ H' tab, (∀ b o, b ≠ x → H b = some o → H' b = some o) → TabAt K H' tab (.ref x) → TabGot L rows tab → Q .non H'
/-- one name's entry in by_name -/
def Ent (K : PySem.W.Frag) (H : Hp) (t : Trip) (kv : Key × V) : Prop := kv.1 = .inr t.name ∧ ∃ l r, kv.2 = .ref l ∧ H l = some (.lst [r]) ∧ TripAt K H t r
theorem ent_same {K : PySem.W.Frag} {H H' : Hp} {t : Trip} {kv : Key × V} (s : Same H H') : Ent K H t kv → Ent K H' t kv := fun ⟨h1, l, r, h2, h3, h4⟩ => ⟨h1, l, r, h2, s _ _ h3, h4.si (SameI.of s)⟩
theorem ent_dict {K : PySem.W.Frag} {H : Hp} {d : Addr} {u v : HO} {t : Trip} {kv : Key × V} (hd : H d = some u) (hu : ∀ C dx fs, u ≠ .ins C dx fs) (hl : ∀ xs, u ≠ .lst xs) : Ent K H t kv → Ent K (upd H d v) t kv := fun ⟨h1, l, r, h2, h3, a, dx, h4, h5⟩ =>
  ⟨h1, l, r, h2, by rw [upd_ne (fun z => by rw [z, hd] at h3; exact hl _ (Option.some.inj h3))]; exact h3, a, dx, h4, by rw [upd_ne (fun z => by rw [z, hd] at h5; exact hu _ _ _ (Option.some.inj h5))]; exact h5⟩
theorem ent_keys {K : PySem.W.Frag} {H : Hp} : ∀ {rows : List Trip} {kvs : List (Key × V)}, Fa2 (Ent K H) rows kvs → kvs.map (·.1) = rows.map fun t => (.inr t.name : Key)
  | [], [], _ => rfl
  | _ :: _, _ :: _, h => by rw [List.map_cons, List.map_cons, ent_keys h.2, h.1.1]
  | [], _ :: _, h => h.elim
  | _ :: _, [], h => h.elim
theorem fa2_at {α β : Type} {R : α → β → Prop} : ∀ {l : List α} {m : List β} {a : α}, Fa2 R l m → a ∈ l → ∃ (i : Nat) (b : β), l[i]? = some a ∧ m[i]? = some b ∧ R a b
  | x :: l, b :: m, a, h, ha => by
    rcases List.mem_cons.mp ha with rfl | ha
    · exact ⟨0, b, rfl, rfl, h.1⟩
    · obtain ⟨i, c, h1, h2, h3⟩ := fa2_at h.2 ha
      exact ⟨i + 1, c, by simpa using h1, by simpa using h2, h3⟩
  | [], _, _, _, ha => by cases ha
  | _ :: _, [], _, h, _ => h.elim
theorem ent_get {K : PySem.W.Frag} {H : Hp} {rows : List Trip} {kvs : List (Key × V)} {t : Trip} (h : Fa2 (Ent K H) rows kvs) (hn : (kvs.map (·.1)).Nodup) (ht : t ∈ rows) : ∃ l r, valV kvs (.inr t.name : Key) = some (.ref l) ∧ H l = some (.lst [r]) ∧ TripAt K H t r := by
  obtain ⟨i, ⟨k, v⟩, _, h2, rfl, l, r, rfl, h3, h4⟩ := fa2_at h ht
  exact ⟨l, r, valV_at hn h2, h3, h4⟩
theorem sameX_of {D : Addr} {H H' : Hp} (s : Same H H') : SameX D H H' := fun b o _ e => s b o e
theorem sameX_trans {D : Addr} {H H1 H2 : Hp} (a : SameX D H H1) (b : SameX D H1 H2) : SameX D H H2 := fun c o n e => b c o n (a c o n e)
theorem sameX_upd {D : Addr} {H : Hp} {u : HO} : SameX D H (upd H D u) := fun b o n e => by rw [upd_ne n]; exact e
theorem TripAt.sx {K : PySem.W.Frag} {H H' : Hp} {x C dx : Addr} {t : Trip} {r : V} (hx : H x = some (.ins C dx [])) (s : SameX x H H') : TripAt K H t r → TripAt K H' t r := fun ⟨a, da, e, h⟩ => ⟨a, da, e, s _ _ (fun z => by
  rw [z, hx] at h
  cases h) h⟩
theorem DayAt.sx {K : PySem.W.Frag} {H H' : Hp} {x C dx : Addr} {L : Int} {r : V} (hx : H x = some (.ins C dx [])) (s : SameX x H H') : DayAt K H L r → DayAt K H' L r := fun ⟨a, da, e, h⟩ => ⟨a, da, e, s _ _ (fun z => by
  rw [z, hx] at h
  cases h) h⟩
theorem RowsAt.sx {K : PySem.W.Frag} {H H' : Hp} {x C dx : Addr} {rows : List Trip} {p : Addr} (hx : H x = some (.ins C dx [])) (s : SameX x H H') : RowsAt K H rows p → RowsAt K H' rows p := fun ⟨ras, h, f⟩ => ⟨ras, s _ _ (fun z => by
  rw [z, hx] at h
  cases h) h, f.imp fun _ _ q => q.sx hx s⟩
theorem nodup_inr {rows : List Trip} (h : (rows.map (·.name)).Nodup) : (rows.map fun t => (.inr t.name : Key)).Nodup := by
  have e : (rows.map fun t => (.inr t.name : Key)) = (rows.map (·.name)).map Sum.inr := by rw [List.map_map]; rfl
  rw [e]
  exact List.Pairwise.map _ (fun a b z q => z (Sum.inr.inj q)) h

abbrev N_Table_init : List Str := ["self", "day", "trips", "by_name", "trip", "names", "name", "twice", "place"]
theorem sc_Table_init : FnScope N_Table_init ["self", "day", "trips"] (defScope s_Table_init) := ⟨rfl, rfl, rfl, by decide +kernel, rfl, by decide +kernel, by decide +kernel⟩
theorem ok_Table_init0 {P : Program} {w : World} {K : PySem.W.Frag} {mg : Str → Option Value} {base : Heap} (T : Txt P K mg) (cdv : Value) (A : Around) (outer : List Env) (s : Shared) (H : Hp) (vs : List V) (Q : VK) (E : XK) (hr : Room 3 (A.deeper (envOfC "Table.__init__" (defScope s_Table_init) s.heap.objs.size (ma K (ga K "Table") "__init__") cdv))) (h : sp_Table_init0 K vs H Q E) :
    ∃ t, PSs (cxOf CX0 P w K mg base N_Table_init "Table.__init__" (defScope s_Table_init) (ma K (ga K "Table") "__init__") cdv A outer s H E) (defBody s_Table_init) t ∧ t { nx := fun _ H' => Q .non H', rt := Q } (start N_Table_init vs) H := by
  have nd := sc_Table_init.nd
  refine ⟨_, PSs.nox (pss_cons (ps_if (pt_not (pt_val (pe_callB call_isi rfl T.f_isinstance bt_isinstance (pa_cons (pv 1) (pa_cons (pe_glob (v := .ref (ga K "Day")) rfl T.g_Day rfl) pa_nil))))) pss_never pss_nil) (pss_cons (ps_expr (pe_cal (ok_need_all_trips T) (hr.mono (by decide)) (kpOf T.d_need_all_trips) rfl T.g_need_all_trips pass0 (pa_cons (pv 2) pa_nil))) (pss_cons (ps_set (i := 3) nd rfl (by first | exact Or.inl rfl | exact Or.inr rfl) pe_dnewK) (pss_cons (ps_for PassesOwn.never rfl (pi_tup (pv 2)) (pg_name (i := 4) nd rfl (by first | exact Or.inl rfl | exact Or.inr rfl)) (pss_one (ps_dput (hu_of hr) (pv 3) (pe_fld (pv 4) rfl) (pe_lst (StX.pa_star (pe_dget2 (hu_of hr) (pv 3) (pe_fld (pv 4) rfl) (pe_lst pa_nil) ⟨rfl, rfl, rfl, rfl⟩) (pa_cons (pv 4) pa_nil))) rfl))) (pss_cons (ps_set (i := 5) nd rfl (by first | exact Or.inl rfl | exact Or.inr rfl) (pe_callB cr_sortedS rfl T.f_sorted bt_sorted (pa_cons (pe_lock (pe_lc (own := [("name", 6)]) (g := gName 6) (tt := tYes) (te := (tCB _ (tCons (tVar 6) tNil))) rfl nd (pi_keys (pv 3)) (blkOk_by (N := N_Table_init) (sc := defScope s_Table_init) (by decide +kernel)) (fun _ _ _ _ _ => pg_name (i := 6) nd rfl (by first | exact Or.inl rfl | exact Or.inr rfl)) (fun _ _ _ _ _ => pts_nil) (fun _ _ _ _ _ => (pe_callTy SkE.call_str_str rfl T.f_str bt_str (pa_cons (pv 6) pa_nil))))) pa_nil))) (pss_cons (ps_setLc (i := 7) (own := [("name", 6)]) (g := gName 6) (tt := (tTest (tOp _ (tCB (rLenS K) (tCons (tDGet (tVar 3) (tVar 6)) tNil)) (tC _)))) (te := (tVar 6)) rfl nd rfl rfl (sw_true rfl rfl rfl (by decide +kernel)) (pi_list (pv 5)) (blkOk_by (N := N_Table_init) (sc := defScope s_Table_init) (by decide +kernel)) (fun _ _ _ _ _ => pg_name (i := 6) nd rfl (by first | exact Or.inl rfl | exact Or.inr rfl)) (fun _ _ _ _ _ => (pts_one (pt_cmpR op_gt (pe_callB call_lenS rfl T.f_len bt_len (pa_cons (pe_dget (hu_of hr) (pv 3) (pv 6) (fun _ _ => rfl)) pa_nil)) pe_int (nomark _)))) (fun _ _ _ _ _ => (pv 6))) (pss_cons (ps_if (pt_cmpR op_gt (pe_callB call_lenS rfl T.f_len bt_len (pa_cons (pv 7) pa_nil)) pe_int (nomark _)) pss_never pss_nil) (pss_cons (ps_expr (pe_cal (ok_need_few T) (hr.mono (by decide)) (kpOf T.d_need_few) rfl T.g_need_few pass0 (pa_cons (pv 1) (pa_cons (pv 2) pa_nil)))) (pss_cons (ps_set (i := 8) nd rfl (by first | exact Or.inl rfl | exact Or.inr rfl) (pe_cal (ok_unbalanced T) (hr.mono (by decide)) (kpOf T.d_unbalanced) rfl T.g_unbalanced pass0 (pa_cons (pv 2) pa_nil))) (pss_cons (ps_if (pt_cmpR op_notN (pv 8) pe_non (nomark _)) pss_never pss_nil) (pss_cons (ps_fld (pv 0) (pv 1) rfl) (pss_cons (ps_fld (pv 0) (pe_callTy call_tuple_of rfl T.f_tuple bt_tuple (pa_cons (pv 5) pa_nil)) rfl) (pss_cons (ps_fld (pv 0) (pe_callTy call_tuple_of rfl T.f_tuple bt_tuple (pa_cons (pe_cal (ok_places_of T) (hr.mono (by decide)) (kpOf T.d_places_of) rfl T.g_places_of pass0 (pa_cons (pv 2) pa_nil)) pa_nil)) rfl) (pss_one (ps_fld (pv 0) (pe_callTy call_tuple_of rfl T.f_tuple bt_tuple (pa_cons (pe_lc (own := [("name", 6)]) (g := gName 6) (tt := tYes) (te := (tOp (rIxL K) (tDGet (tVar 3) (tVar 6)) (tC _))) rfl nd (pi_list (pv 5)) (blkOk_by (N := N_Table_init) (sc := defScope s_Table_init) (by decide +kernel)) (fun _ _ _ _ _ => pg_name (i := 6) nd rfl (by first | exact Or.inl rfl | exact Or.inr rfl)) (fun _ _ _ _ _ => pts_nil) (fun _ _ _ _ _ => (pe_ix ix_list (pe_dget (hu_of hr) (pv 3) (pv 6) (fun _ _ => rfl)) pe_int (fun _ _ => rfl)))) pa_nil)) rfl))))))))))))))), ?_⟩
  obtain ⟨x, dx, d, p, rows, L, rfl, hx, hd, hrow, pre, hq⟩ := h
  obtain ⟨da, dd, rfl, hda⟩ := id hd
  refine ⟨_, rfl, _, _, _, _, _, rfl, .own _, T.ty_Day hda, kit_own, _, rfl, iteF ⟨_, rfl, p, rows, rfl, hrow, fun H1 s1 => ?_⟩⟩
  intro d0 hd0
  obtain ⟨ras, hp, hf⟩ := hrow
  have n0 : H d0 = none := Same.free s1 hd0
  have hp1 : (upd H1 d0 (.dK [])) p = some (.tup ras) := same_up s1 hd0 _ _ hp
  refine ⟨_, rfl, p, rfl, ⟨_, .inl (.inl hp1)⟩, for_tup (K := K) (fun i σ H' => Same H H' ∧ (∃ kvs, H' d0 = some (.dK kvs) ∧ Fa2 (Ent K H') (rows.take i) kvs) ∧ ∃ u, σ = [some (.ref x), some (.ref da), some (.ref p), some (.ref d0), u, none, none, none, none]) ⟨same_up s1 hd0, ⟨[], upd_same, by simp [Fa2]⟩, _, rfl⟩ (fun i σ H' _ h => .inl (.inl (h.1 _ _ hp))) (fun i xv σ H2 hxi hpv => ?_) (fun σ H2 hpv => ?_)⟩
  · obtain ⟨s2, ⟨kvs, hk, he⟩, u, rfl⟩ := hpv
    have hl : i < rows.length := by
      rw [hf.len]
      have := (List.getElem?_eq_some_iff.mp hxi).1
      exact this
    have ht0 : rows[i]? = some rows[i] := List.getElem?_eq_getElem hl
    obtain ⟨a, dt, rfl, ha⟩ := hf.get ht0 hxi
    have C := tripC_ok T rows[i]
    have ha2 := s2 _ _ ha
    have hnew : (.inr rows[i].name : Key) ∉ kvs.map (·.1) := by
      rw [ent_keys he]
      intro hm
      obtain ⟨t, ht, e⟩ := List.mem_map.mp hm
      obtain ⟨j, hj, e2⟩ := List.mem_take_iff_getElem.mp ht
      have e3 := Sum.inr.inj e
      rw [← e2] at e3
      have e4 : (rows.map (·.name))[j]'(by rw [List.length_map]; omega) = (rows.map (·.name))[i]'(by rw [List.length_map]; omega) := by simp only [List.getElem_map]; exact e3
      have e5 := (List.getElem_inj pre.nd).mp e4
      omega
    refine ⟨_, rfl, d0, rfl, .inl ⟨kvs, .inl hk⟩, _, rfl, _, _, _, _, _, rfl, ha2, C.cl, C.n, rfl, (by show 0 ≤ sizeLine; decide), fun l hl2 => ⟨none, ?_, l, [], rfl, .inr (.inl (.inl upd_same)), _, rfl, (by show 1 ≤ sizeLine; decide), fun l2 hl3 => ?_⟩⟩
    · have e := DGet.k (k := .inr rows[i].name) (same_upd (o := .lst []) hl2 _ _ hk)
      rw [valV_none (V' := V) hnew] at e
      exact e
    have s3 : Same H2 (upd (upd H2 l (.lst [])) l2 (.lst [.ref a])) := same_up (same_upd hl2) hl3
    have hk3 := s3 _ _ hk
    refine ⟨_, rfl, _, rfl, _, _, _, _, _, rfl, s3 _ _ ha2, C.cl, C.n, rfl, d0, _, rfl, DPut.k (k := .inr rows[i].name) (kvs := kvs) hk3 ?_, ?_⟩
    · have := he.len
      rw [List.length_take] at this
      have := pre.few
      rw [sizeLine_eq]; omega
    rw [putK_new hnew]
    refine ⟨same_put (Same.trans s2 s3) n0, ⟨_, upd_same, ?_⟩, _, rfl⟩
    rw [List.take_add_one, ht0]
    refine Fa2.snoc (he.imp fun t kv q => ent_dict hk3 (fun _ _ _ z => nomatch z) (fun _ z => nomatch z) (ent_same s3 q)) ?_
    refine ent_dict hk3 (fun _ _ _ z => nomatch z) (fun _ z => nomatch z) ⟨rfl, l2, .ref a, rfl, upd_same, a, dt, rfl, s3 _ _ ha2⟩
  · obtain ⟨s2, ⟨kvs, hk, he⟩, u, rfl⟩ := hpv
    have e0 : rows.take ras.length = rows := by rw [← hf.len, List.take_length]
    rw [e0] at he
    have hkeys := ent_keys he
    have hknd : (kvs.map (·.1)).Nodup := by rw [hkeys]; exact nodup_inr pre.nd
    refine ⟨d0, _, hk, trivial, fun od => ⟨_, rfl, d0, od, rfl, .inl ⟨kvs, upd_same, fun D hD => ?_⟩⟩⟩
    have hDd : D ≠ d0 := fun z => by rw [z, upd_same] at hD; cases hD
    refine lcF walk_keys (rows.map (·.name)) (by rw [List.length_map, he.len]) 6 (fun nm v => v = .str nm) (fun i H0 v H' nm hnm _ y => ?_) hD (fun H' s => s _ _ upd_same) (fun nm => some (.str nm)) (by rw [List.length_map, sizeLine_eq]; have := pre.few; omega) (fun nm v H3 Kt Kf _ hv s3 k1 _ => ?_) (fun _ => rfl) fun H' s3 hD3 => ⟨s3 _ _ upd_same, ?_⟩
    · obtain ⟨e, k, v', hkv, rfl⟩ := y
      refine ⟨e, ?_⟩
      have h1 : (kvs.map (·.1))[i]? = some k := by rw [List.getElem?_map, hkv]; rfl
      rw [hkeys, List.getElem?_map] at h1
      rw [List.getElem?_map] at hnm
      cases q : rows[i]? with
      | none => rw [q] at h1; cases h1
      | some t =>
        rw [q] at h1 hnm
        obtain rfl := Option.some.inj h1
        obtain rfl := Option.some.inj hnm
        rfl
    · subst hv
      exact stepY ⟨_, rfl, nm, rfl, k1 _ _ (Same.refl _) rfl⟩
    rw [filterMap_some] at hD3
    have s4 : Same H2 (upd H' d0 (.dK kvs)) := fun b o e => by
      by_cases q : b = d0
      · subst q
        rw [hk] at e
        rw [upd_same]
        exact e
      · rw [upd_ne q]
        exact s3 b o (by rw [upd_ne q]; exact e)
    refine ⟨D, rows.map (·.name), rfl, .inl (.inl (by rw [upd_ne hDd]; exact hD3)), by rw [List.length_map]; have := pre.few; omega, fun names p2 hperm _ hp2 => ?_⟩
    obtain ⟨rows', hpr, rfl⟩ := perm_map_inv (fun t : Trip => t.name) hperm
    have hlen' : rows'.length ≤ 40 := by rw [hpr.length_eq]; exact pre.few
    have s5 : Same H2 (upd (upd H' d0 (.dK kvs)) p2 (.lst ((rows'.map (·.name)).map V.str))) := same_up s4 hp2
    generalize hH5 : upd (upd H' d0 (.dK kvs)) p2 (.lst ((rows'.map (·.name)).map V.str)) = H5 at s5 ⊢
    have hn5 : H5 p2 = some (.lst ((rows'.map (·.name)).map V.str)) := by rw [← hH5]; exact upd_same
    have he5 : Fa2 (Ent K H5) rows kvs := he.imp fun _ _ q => ent_same s5 q
    have hk5 := s5 _ _ hk
    refine ⟨_, rfl, p2, rfl, ⟨_, .inl (.inl hn5)⟩, fun D2 hD2 => lcF walk_list rows' (by rw [List.length_map, List.length_map]) 6 (fun t v => v = .str t.name) (fun i H0 v H' t ht _ y => ⟨y.1, ?_⟩) hD2 (fun H' s => .inl (.inl (s _ _ hn5))) (fun _ => none) (by rw [sizeLine_eq]; omega) (fun t v H3 Kt Kf ht hv s6 _ k2 => ?_) (fun _ => rfl) fun H6 s6 hD6 => ?_⟩
    · have y2 := y.2
      rw [List.getElem?_map, List.getElem?_map, ht] at y2
      exact (Option.some.inj y2).symm
    · subst hv
      obtain ⟨l, r, hv, hl, _⟩ := ent_get he5 hknd (hpr.mem_iff.mp ht)
      have e := DGet.k (k := .inr t.name) (s6 _ _ hk5)
      rw [hv] at e
      refine ⟨_, rfl, _, rfl, d0, _, rfl, e, l, _, rfl, .inl (.inl (.inl (s6 _ _ hl))), _, _, rfl, rfl, _, rfl, ?_⟩
      exact iteF (k2 _ (Same.refl _) rfl)
    have e1 : (rows'.filterMap fun _ => (none : Option V)) = [] := by
      generalize rows' = m
      induction m with | nil => rfl | cons a m ih => simp
    rw [e1] at hD6
    have sH6 : Same H H6 := Same.trans s2 (Same.trans s5 s6)
    refine ⟨_, rfl, D2, _, rfl, .inl (.inl (.inl hD6)), _, _, rfl, rfl, _, rfl, iteF ?_⟩
    refine ⟨_, rfl, _, rfl, .ref da, p, rows, L, rfl, hd.si (SameI.of sH6), ⟨ras, sH6 _ _ hp, hf.imp fun _ _ q => q.si (SameI.of sH6)⟩, pre.few, pre.lt, pre.pl, fun H7 s7 => ?_⟩
    have sH7 : Same H H7 := Same.trans sH6 s7
    refine ⟨_, rfl, p, rows, rfl, ⟨ras, sH7 _ _ hp, hf.imp fun _ _ q => q.si (SameI.of sH7)⟩, pre.few, pre.bal, fun H8 s8 => ⟨_, rfl, rfl, false, rfl, iteF ?_⟩⟩
    have sH8 : Same H H8 := Same.trans sH7 s8
    have hx8 := sH8 _ _ hx
    have he8 : Fa2 (Ent K H8) rows kvs := he5.imp fun _ _ q => ent_same (Same.trans s6 (Same.trans s7 s8)) q
    have hk8 := Same.trans s6 (Same.trans s7 s8) _ _ hk5
    have hn8 := Same.trans s6 (Same.trans s7 s8) _ _ hn5
    have hd8 : DayAt K H8 L (.ref da) := hd.si (SameI.of sH8)
    have hr8 : RowsAt K H8 rows p := ⟨ras, sH8 _ _ hp, hf.imp fun _ _ q => q.si (SameI.of sH8)⟩
    have px : p2 ≠ x := fun z => by rw [z, hx8] at hn8; cases hn8
    have dx0 : d0 ≠ x := fun z => by rw [z, hx8] at hk8; cases hk8
    -- self.day
    refine ⟨_, rfl, _, rfl, _, _, _, _, rfl, hx8, T.cl_Table, T.na_Table_day, by show (0 : Nat) < 1000; decide, ?_⟩
    generalize hH9 : upd H8 x (.ins (ga K "Table") dx (putF "day" (.ref da) [])) = H9
    have sx9 : SameX x H8 H9 := by rw [← hH9]; exact sameX_upd
    have hx9 : H9 x = some (.ins (ga K "Table") dx [("day", .ref da)]) := by rw [← hH9]; exact upd_same
    -- self.names
    refine ⟨_, rfl, p2, _, rfl, .inl ⟨.inl (.inl (sx9 _ _ px hn8)), fun l1 hl1 => ?_⟩⟩
    have l1x : l1 ≠ x := fun z => by rw [z, hx9] at hl1; cases hl1
    refine ⟨_, rfl, _, _, _, _, rfl, (by rw [upd_ne (Ne.symm l1x)]; exact hx9), T.cl_Table, T.na_Table_names, by show (1 : Nat) < 1000; decide, ?_⟩
    generalize hH10 : upd (upd H9 l1 (.tup ((rows'.map (·.name)).map V.str))) x (.ins (ga K "Table") dx (putF "names" (.ref l1) [("day", .ref da)])) = H10
    have sx10 : SameX x H9 H10 := by rw [← hH10]; exact sameX_trans (sameX_of (same_upd hl1)) sameX_upd
    have hx10 : H10 x = some (.ins (ga K "Table") dx [("day", .ref da), ("names", .ref l1)]) := by rw [← hH10]; exact upd_same
    have h10l : H10 l1 = some (.tup ((rows'.map (·.name)).map V.str)) := by rw [← hH10, upd_ne l1x]; exact upd_same
    have sx810 := sameX_trans sx9 sx10
    -- self.places
    refine ⟨_, rfl, p, rows, rfl, hr8.sx hx8 sx810, by have := pre.few; omega, fun H11 q11 ps s11 hq11 h11 hps => ⟨q11, _, rfl, .inl ⟨.inl (.inl h11), fun l2 hl2 => ?_⟩⟩⟩
    have hx11 := s11 _ _ hx10
    have l2x : l2 ≠ x := fun z => by rw [z, hx11] at hl2; cases hl2
    refine ⟨_, rfl, _, _, _, _, rfl, (by rw [upd_ne (Ne.symm l2x)]; exact hx11), T.cl_Table, T.na_Table_places, by show (2 : Nat) < 1000; decide, ?_⟩
    generalize hH12 : upd (upd H11 l2 (.tup (ps.map V.str))) x (.ins (ga K "Table") dx (putF "places" (.ref l2) [("day", .ref da), ("names", .ref l1)])) = H12
    have sx12 : SameX x H10 H12 := by rw [← hH12]; exact sameX_trans (sameX_of (same_up s11 hl2)) sameX_upd
    have hx12 : H12 x = some (.ins (ga K "Table") dx [("day", .ref da), ("names", .ref l1), ("places", .ref l2)]) := by rw [← hH12]; exact upd_same
    have h12l2 : H12 l2 = some (.tup (ps.map V.str)) := by rw [← hH12, upd_ne l2x]; exact upd_same
    have h12l1 := sx12 _ _ l1x h10l
    have sx812 := sameX_trans sx810 sx12
    -- self.rows
    refine ⟨_, rfl, p2, rfl, ⟨_, .inl (.inl (sx812 _ _ px hn8))⟩, fun D3 hD3 => lcRel walk_list rows' (by rw [List.length_map, List.length_map]) 6 (fun t v => v = .str t.name) (fun i H0 v H' t ht _ y => ⟨y.1, ?_⟩) hD3 (fun H' s => .inl (.inl (s _ _ (sx812 _ _ px hn8)))) (fun H t y => TripAt K H t y) (fun _ _ _ _ s q => q.si s) (by rw [sizeLine_eq]; omega) (fun t v H13 Kt ht hv s13 k1 => ?_) (fun _ => rfl) fun H13 ys s13 hD13 hys => ?_⟩
    · have y2 := y.2
      rw [List.getElem?_map, List.getElem?_map, ht] at y2
      exact (Option.some.inj y2).symm
    · subst hv
      obtain ⟨l, r, hv, hl, hr⟩ := ent_get he8 hknd (hpr.mem_iff.mp ht)
      have lx : l ≠ x := fun z => by rw [z, hx8] at hl; cases hl
      have e := DGet.k (k := .inr t.name) (s13 _ _ (sx812 _ _ dx0 hk8))
      rw [hv] at e
      refine ⟨_, rfl, _, rfl, d0, _, rfl, e, l, _, _, r, rfl, rfl, .inl (.inl (s13 _ _ (sx812 _ _ lx hl))), rfl, k1 _ _ (Same.refl _) ((hr.sx hx8 sx812).si (SameI.of s13))⟩
    have hx13 := s13 _ _ hx12
    refine ⟨D3, _, rfl, .inl ⟨.inl (.inl hD13), fun l3 hl3 => ?_⟩⟩
    have l3x : l3 ≠ x := fun z => by rw [z, hx13] at hl3; cases hl3
    refine ⟨_, rfl, _, _, _, _, rfl, (by rw [upd_ne (Ne.symm l3x)]; exact hx13), T.cl_Table, T.na_Table_rows, by show (3 : Nat) < 1000; decide, ?_⟩
    have sx13 : SameX x H12 (upd (upd H13 l3 (.tup ys)) x (.ins (ga K "Table") dx (putF "rows" (.ref l3) [("day", .ref da), ("names", .ref l1), ("places", .ref l2)]))) := sameX_trans (sameX_of (same_up s13 hl3)) sameX_upd
    have fin := sameX_trans sx812 sx13
    refine hq _ ⟨L, rows'.map (·.name), ps, rows'⟩ (fun b o hb e => fin b o hb (sH8 b o e)) ⟨x, dx, .ref da, l1, l2, l3, ys, rfl, upd_same, hd8.sx hx8 fin, sx13 _ _ l1x h12l1, sx13 _ _ l2x h12l2, ?_, hys.imp fun t r q => ?_⟩ ⟨rfl, hpr, hps⟩
    · rw [upd_ne l3x]
      exact upd_same
    · obtain ⟨a, dt, rfl, ha⟩ := q
      have ax : a ≠ x := fun z => by
        rw [z, hx13] at ha
        injection ha with ha
        injection ha with _ _ e3
        exact absurd (congrArg List.length e3) (by show (3 : Nat) ≠ 5; decide)
      exact ⟨a, dt, rfl, by rw [upd_ne ax]; exact same_upd hl3 _ _ ha⟩
end K6
set_option Elab.async false
set_option linter.all false
set_option maxRecDepth 100000
set_option maxHeartbeats 4000000
namespace K6
open PySem PySem.Spec PyProof.Rows L2
open He (ga ma)

def sp_Table_init (K : PySem.W.Frag) : Sp := fun vs H Q _ => ∃ x dx d ras rows L, vs = .ref x :: d :: ras ∧ H x = some (.ins (ga K "Table") dx []) ∧ DayAt K H L d ∧ Fa2 (TripAt K H) rows ras ∧ TabPre L rows ∧
  ∀ H' tab, (∀ b o, b ≠ x → H b = some o → H' b = some o) → TabAt K H' tab (.ref x) → TabGot L rows tab → Q .non H'
theorem ok_Table_init {P : Program} {w : World} {K : PySem.W.Frag} {mg : Str → Option Value} {base : Heap} (T : Txt P K mg) : FnR P w K mg base CX0 4 (ma K (ga K "Table") "__init__") (sp_Table_init K) := by
  obtain ⟨fd, ⟨oc, od, kV, doc, pm, an, cdv, ct, osl, e, l, c⟩, kp⟩ := T.d_Table_init
  refine (StX.fn_star (sp := sp_Table_init0 K) (ps := ["self", "day"]) (pv := "trips") (by rw [l, e]) c sc_Table_init StX.cxUp_none (StX.bind_star2 (B := fun us => bindArgs (PySem.W.fnOf "__init__" "Table.__init__" (defArgs s_Table_init) (defBody s_Table_init) (defScope s_Table_init) .none kV doc pm an cdv ct) ⟨us, []⟩) (fun a b => rfl) (fun a b r rs => rfl)) fun A outer s H vs Q E hr h => ok_Table_init0 T cdv A outer s H vs Q E hr h).imp fun vs H Q E h => ?_
  obtain ⟨x, dx, d, ras, rows, L, rfl, hx, hd, hr, pre, hq⟩ := h
  have hl := hr.len
  have := pre.few
  refine ⟨[.ref x, d], ras, rfl, rfl, by rw [sizeLine_eq]; omega, fun p hp => ⟨x, dx, d, p, rows, L, rfl, same_upd hp _ _ hx, hd.si (SameI.of (same_upd hp)), ⟨ras, upd_same, hr.imp fun _ _ q => q.si (SameI.of (same_upd hp))⟩, pre, fun H' tab hk ht hg => hq H' tab (fun b o hb e => hk b o hb (same_upd hp _ _ e)) ht hg⟩⟩
/-- making a table -/
theorem tab_make {K : PySem.W.Frag} {H1 : Hp} {d : V} {ras : List V} {rows : List Trip} {L : Int} {Q : VK} {E : XK} (hd : DayAt K H1 L d) (hr : Fa2 (TripAt K H1) rows ras) (pre : TabPre L rows) (hq : ∀ H' tab y, Same H1 H' → TabAt K H' tab y → TabGot L rows tab → Q y H') :
    ∀ x dx, H1 x = none → H1 dx = none → dx ≠ x → sp_Table_init K (.ref x :: d :: ras) (upd (upd H1 dx (.own x)) x (.ins (ga K "Table") dx [])) (fun v H2 => v = .non ∧ Q (.ref x) H2) E := fun x dx nx nd ne => by
  have s : Same H1 (upd (upd H1 dx (.own x)) x (.ins (ga K "Table") dx [])) := same_up (same_upd nd) (by rw [upd_ne (Ne.symm ne)]; exact nx)
  exact ⟨x, dx, d, ras, rows, L, rfl, upd_same, hd.si (SameI.of s), hr.imp fun _ _ q => q.si (SameI.of s), pre, fun H' tab hk ht hg => ⟨rfl, hq H' tab _ (init_same nx nd hk) ht hg⟩⟩
def sp_Table_of (K : PySem.W.Frag) : Sp := fun vs H Q _ => ∃ d p ras rows L, vs = [d, .ref p] ∧ DayAt K H L d ∧ H p = some (.lst ras) ∧ Fa2 (TripAt K H) rows ras ∧ TabPre L rows ∧ ∀ H' tab y, Same H H' → TabAt K H' tab y → TabGot L rows tab → Q y H'

abbrev N_Table_of : List Str := ["day", "trips"]
theorem sc_Table_of : FnScope N_Table_of ["day", "trips"] (defScope s_Table_of) := ⟨rfl, rfl, rfl, by decide +kernel, rfl, by decide +kernel, by decide +kernel⟩
theorem ok_Table_of {P : Program} {w : World} {K : PySem.W.Frag} {mg : Str → Option Value} {base : Heap} (T : Txt P K mg) : FnR P w K mg base CX0 6 (sa K (ga K "Table") "of") (sp_Table_of K) := by
  have nd := sc_Table_of.nd
  refine fnR T.d_Table_of sc_Table_of (fun _ _ _ _ _ _ us hl => match us, hl with | [_, _], _ => rfl) (fun vs H Q E h => ?_) fun cdv A outer s H vs Q E hr h => ⟨_, (pss_cons (ps_if (pt_not (pt_val (pe_callB call_isi rfl T.f_isinstance bt_isinstance (pa_cons (pv 0) (pa_cons (pe_glob (v := .ref (ga K "Day")) rfl T.g_Day rfl) pa_nil))))) pss_never pss_nil) (pss_cons (ps_if (pt_not (pt_val (pe_cal (ok_is_row T) (hr.mono (by decide)) (kpOf T.d_is_row) rfl T.g_is_row pass0 (pa_cons (pv 1) pa_nil)))) pss_never pss_nil) (pss_one (ps_ret (pe_makeS T.mk_Table (ok_Table_init T) (hr.mono (by decide)) rfl T.g_Table pass0 (pa_cons (pv 0) (StX.pa_star (pv 1) pa_nil))))))), ?_⟩
  · obtain ⟨_, _, _, _, _, rfl, _⟩ := h; rfl
  · obtain ⟨d, p, ras, rows, L, rfl, hd, hp, hf, pre, hq⟩ := h
    obtain ⟨da, dd, rfl, hda⟩ := id hd
    refine ⟨_, rfl, _, _, _, _, _, rfl, .own _, T.ty_Day hda, kit_own, _, rfl, iteF ⟨_, rfl, p, ras, rfl, hp, fun H1 s1 => ⟨_, rfl, iteF ?_⟩⟩⟩
    refine ⟨_, rfl, _, rfl, p, ras, rfl, .inr (.inl (.inl (s1 _ _ hp))), ?_⟩
    intro x dx nx nd2 ne
    have z := tab_make (E := E0) (hd.si (SameI.of s1)) (hf.imp fun _ _ q => q.si (SameI.of s1)) pre (fun H' tab y s ht hg => hq H' tab y (Same.trans s1 s) ht hg) x dx nx nd2 ne
    have e : (.ref x :: .ref da :: (ras ++ []) : List V) = .ref x :: .ref da :: ras := by rw [List.append_nil]
    rw [← e] at z
    exact z
/-- o.m(..) where o is of one of two classes -/
theorem pe_meth2 {X : Cx} {CX : CXT} {k : Nat} {C1 C2 f1 f2 : Addr} {m : Str} {sp1 sp2 : Sp} {E : XK} {o e : Expr} {es : List Expr} {ta : TE} {t : TA} {apos pos : Pos} {pl : Sem Bool} (he : PE X o ta) (c1 : Cls X.K C1) (hm1 : Meth X.K C1 m f1) (c2 : Cls X.K C2) (hm2 : Meth X.K C2 m f2)
    (F1 : FnR X.prog X.w X.K X.mg X.base CX k f1 sp1) (F2 : FnR X.prog X.w X.K X.mg X.base CX k f2 sp2) (hr : Room k X.A) (hx : Passes CX X E) (ha : PA X (e :: es) t)
    (hst : starEach (e :: es) X.env = (false, eval e X.env) :: starEach es X.env := by rfl) (hpl : (backTo pos (starEach es X.env)).any (·.1) = false := by rfl)
    (ht : eval (.Call (.Attribute o m apos) (e :: es) [] pos) X.env = (do
      let ov ← eval o X.env
      standAt apos.atName
      let (f, first) ← holding [ov] (getMethod ov m pl)
      callWith pos f first (backTo pos (starEach (e :: es) X.env)) (backToKw pos (keywordEach [] X.env))) := by rfl) :
    PE X (.Call (.Attribute o m apos) (e :: es) [] pos) (fun σ H Q => ta σ H fun x H1 => ∃ a dx fs, x = .ref a ∧ fs.lookup m = none ∧ ((H1 a = some (.ins C1 dx fs) ∧ t σ H1 fun vs H2 => sp1 (x :: vs) H2 Q E) ∨ (H1 a = some (.ins C2 dx fs) ∧ t σ H1 fun vs H2 => sp2 (x :: vs) H2 Q E))) := by
  refine ⟨fun pins s σ H Q I h => ?_⟩
  refine PySem.W.methodCall_KW (pl := pl) (thn (he.run pins s σ H _ I h) fun u s1 ⟨x, H1, I1, rx, a, dx, fs, ex, l, q⟩ => ?_) ht
  subst ex
  obtain rfl : u = Value.ref a := rx
  rcases q with ⟨ea, q⟩ | ⟨ea, q⟩
  · refine getmeth_ok I1 ea c1 hm1 l ?_
    refine PySem.W.callWith_K (first := [.ref a]) (h₀ := X.base) I.ok.mod.kin hm1.kp (thn (ha.run pos pins s1 σ H1 _ I1 q) fun us s2 ⟨vs, H2, I2, r, q2⟩ => ⟨I2.kIn, ?_⟩) hst hpl
    exact wpAny_call (run_fnR (us := .ref a :: us) (vs := .ref a :: vs) F1 hr hx I2 (.cons rfl r) q2)
  · refine getmeth_ok I1 ea c2 hm2 l ?_
    refine PySem.W.callWith_K (first := [.ref a]) (h₀ := X.base) I.ok.mod.kin hm2.kp (thn (ha.run pos pins s1 σ H1 _ I1 q) fun us s2 ⟨vs, H2, I2, r, q2⟩ => ⟨I2.kIn, ?_⟩) hst hpl
    exact wpAny_call (run_fnR (us := .ref a :: us) (vs := .ref a :: vs) F2 hr hx I2 (.cons rfl r) q2)
/-- its reading -/
def tTimed (K : PySem.W.Frag) (ta : TE) (t : TA) : TE := fun σ H Q => ta σ H fun x H1 => ∃ a dx fs, x = .ref a ∧ fs.lookup ("timed" : Str) = none ∧ ((H1 a = some (.ins (ga K "Run") dx fs) ∧ t σ H1 fun vs H2 => sp_timed K true (x :: vs) H2 Q E0) ∨ (H1 a = some (.ins (ga K "Stay") dx fs) ∧ t σ H1 fun vs H2 => sp_timed K false (x :: vs) H2 Q E0))
theorem pe_timed {P : Program} {K : PySem.W.Frag} {mg : Str → Option Value} (T : Txt P K mg) {X : Cx} {w : World} {base : Heap} (hX : X.prog = P ∧ X.w = w ∧ X.K = K ∧ X.mg = mg ∧ X.base = base) {o e : Expr} {es : List Expr} {ta : TE} {t : TA} {apos pos : Pos} {pl : Sem Bool} (he : PE X o ta) (hr : Room 8 X.A) (ha : PA X (e :: es) t)
    (hst : starEach (e :: es) X.env = (false, eval e X.env) :: starEach es X.env := by rfl) (hpl : (backTo pos (starEach es X.env)).any (·.1) = false := by rfl)
    (ht : eval (.Call (.Attribute o "timed" apos) (e :: es) [] pos) X.env = (do
      let ov ← eval o X.env
      standAt apos.atName
      let (f, first) ← holding [ov] (getMethod ov "timed" pl)
      callWith pos f first (backTo pos (starEach (e :: es) X.env)) (backToKw pos (keywordEach [] X.env))) := by rfl) :
    PE X (.Call (.Attribute o "timed" apos) (e :: es) [] pos) (tTimed K ta t) := by
  obtain ⟨rfl, rfl, rfl, rfl, rfl⟩ := hX
  exact pe_meth2 he T.cl_Run T.me_Run_timed T.cl_Stay T.me_Stay_timed (ok_Run_timed T) (ok_Stay_timed T) hr pass0 ha hst hpl ht
/-- the reading of t.timed(l, k), t a trip -/
theorem timed_of {K : PySem.W.Frag} {H1 H2 : Hp} {t : Trip} {x : V} {l k : Int} {ta : TE} {tt : TA} {σ : L2.St} {H : Hp} {Q : VK} (h : ta σ H fun x2 H2 => x2 = x ∧ H2 = H1 ∧ True → True) : True := trivial
theorem timed_q {K : PySem.W.Frag} {H1 : Hp} {t : Trip} {a dx : Addr} {P1 P2 : Prop} (ha : H1 a = some (.ins (tripC K t) dx (tripF t))) (h1 : t.run = true → P1) (h2 : t.run = false → P2) :
    (H1 a = some (.ins (ga K "Run") dx (tripF t)) ∧ P1) ∨ (H1 a = some (.ins (ga K "Stay") dx (tripF t)) ∧ P2) := by
  unfold tripC at ha
  cases hr : t.run with
  | true => rw [hr] at ha; exact .inl ⟨ha, h1 hr⟩
  | false => rw [hr] at ha; exact .inr ⟨ha, h2 hr⟩
def sp_need_names0 (K : PySem.W.Frag) : Sp := fun vs H Q _ => ∃ x p, vs = [x, .ref p] ∧ H p = some (.tup []) ∧ Q .non H
def sp_scaled (K : PySem.W.Frag) : Sp := fun vs H Q _ => ∃ x tab k, vs = [x, .int k] ∧ TabAt K H tab x ∧ 1 ≤ k ∧ 1 ≤ tab.L ∧ tab.L * k ≤ 1000000000000 ∧ (∀ t ∈ tab.rows, TripOk t ∧ t.takes * k ≤ 1000000000000 ∧ t.leaves < tab.L) ∧ TabPre (tab.L * k) (tab.rows.map fun t => { t with leaves := t.leaves * k, takes := t.takes * k }) ∧
  ∀ H' tab' y, Same H H' → TabAt K H' tab' y → TabGot (tab.L * k) (tab.rows.map fun t => { t with leaves := t.leaves * k, takes := t.takes * k }) tab' → Q y H'

abbrev N_Table_need_names : List Str := ["self", "names", "name"]
theorem sc_Table_need_names : FnScope N_Table_need_names ["self", "names"] (defScope s_Table_need_names) := ⟨rfl, rfl, rfl, by decide +kernel, rfl, by decide +kernel, by decide +kernel⟩
theorem ok_Table_need_names {P : Program} {w : World} {K : PySem.W.Frag} {mg : Str → Option Value} {base : Heap} (T : Txt P K mg) : FnR P w K mg base CX0 1 (ma K (ga K "Table") "need_names") (sp_need_names0 K) := by
  have nd := sc_Table_need_names.nd
  refine fnR T.d_Table_need_names sc_Table_need_names (fun _ _ _ _ _ _ us hl => match us, hl with | [_, _], _ => rfl) (fun vs H Q E h => ?_) fun cdv A outer s H vs Q E hr h => ⟨_, (pss_one (ps_for PassesOwn.never rfl (pi_tup (pv 1)) (pg_name (i := 2) nd rfl (by first | exact Or.inl rfl | exact Or.inr rfl)) (pss_one ps_never))), ?_⟩
  · obtain ⟨_, _, rfl, _⟩ := h; rfl
  · obtain ⟨x, p, rfl, hp, hq⟩ := h
    exact ⟨_, rfl, p, rfl, ⟨_, .inl (.inl hp)⟩, for_tup (K := K) (fun i σ H' => H' = H) rfl (fun i σ H' _ h => .inl (.inl (by rw [h]; exact hp))) (fun i x σ H' hx _ => by simp at hx) fun σ H' h => by rw [h]; exact hq⟩
abbrev N_Table_scaled : List Str := ["self", "k", "trip", "found"]
theorem sc_Table_scaled : FnScope N_Table_scaled ["self", "k"] (defScope s_Table_scaled) := ⟨rfl, rfl, rfl, by decide +kernel, rfl, by decide +kernel, by decide +kernel⟩
theorem ok_Table_scaled {P : Program} {w : World} {K : PySem.W.Frag} {mg : Str → Option Value} {base : Heap} (T : Txt P K mg) : FnR P w K mg base CX0 9 (ma K (ga K "Table") "scaled") (sp_scaled K) := by
  have nd := sc_Table_scaled.nd
  obtain ⟨_, hc_MOST_NUMBER⟩ := T.c_MOST_NUMBER
  refine fnR T.d_Table_scaled sc_Table_scaled (fun _ _ _ _ _ _ us hl => match us, hl with | [_, _], _ => rfl) (fun vs H Q E h => ?_) fun cdv A outer s H vs Q E hr h => ⟨_, (pss_cons (ps_if (PW.pt (pw_or (pt_not (pt_val (pe_cal (ok_is_integer T) (hr.mono (by decide)) (kpOf T.d_is_integer) rfl T.g_is_integer pass0 (pa_cons (pv 1) pa_nil)))) (pw_or (pt_cmpR op_lt (pv 1) pe_int (nomark _)) (pw_or1 (pt_cmpR op_gt (pe_op op_mulW (pe_fld (pe_fld (pv 0) rfl) rfl) (pv 1)) (pe_glob (v := .int 1000000000000) rfl hc_MOST_NUMBER ⟨_, rfl⟩) (nomark _)))))) pss_never pss_nil) (pss_cons (ps_for PassesOwn.never rfl (pi_tup (pe_fld (pv 0) rfl)) (pg_name (i := 2) nd rfl (by first | exact Or.inl rfl | exact Or.inr rfl)) (pss_one (ps_if (pt_cmpR op_gt (pe_op op_mulW (pe_fld (pv 2) rfl) (pv 1)) (pe_glob (v := .int 1000000000000) rfl hc_MOST_NUMBER ⟨_, rfl⟩) (nomark _)) pss_never pss_nil))) (pss_cons (ps_setLc (i := 3) (own := [("trip", 2)]) (g := gName 2) (tt := tYes) (te := (tTimed K (tVar 2) (tCons (tOp _ (tFld K (tVar 2) "leaves") (tVar 1)) (tCons (tOp _ (tFld K (tVar 2) "takes") (tVar 1)) tNil)))) rfl nd rfl rfl (sw_true rfl rfl rfl (by decide +kernel)) (pi_tup (pe_fld (pv 0) rfl)) (blkOk_by (N := N_Table_scaled) (sc := defScope s_Table_scaled) (by decide +kernel)) (fun _ _ _ _ _ => pg_name (i := 2) nd rfl (by first | exact Or.inl rfl | exact Or.inr rfl)) (fun _ _ _ _ _ => pts_nil) (fun _ _ _ _ _ => (pe_timed T (w := w) (base := base) ⟨rfl, rfl, rfl, rfl, rfl⟩ (pv 2) (hr.mono (by decide)) (pa_cons (pe_op op_mulW (pe_fld (pv 2) rfl) (pv 1)) (pa_cons (pe_op op_mulW (pe_fld (pv 2) rfl) (pv 1)) pa_nil))))) (pss_one (ps_ret (pe_makeS T.mk_Table (ok_Table_init T) (hr.mono (by decide)) rfl T.g_Table pass0 (pa_cons (StX.pe_makeR T.mk_Day (ok_Day_init T) (hr.mono (by decide)) rfl T.g_Day pass0 (pa_cons (pe_op op_mulW (pe_fld (pe_fld (pv 0) rfl) rfl) (pv 1)) pa_nil)) (StX.pa_star (pv 3) pa_nil)))))))), ?_⟩
  · obtain ⟨_, _, _, rfl, _⟩ := h; rfl
  · obtain ⟨x, tab, k, rfl, ⟨a, da, d, n, p, r, ras, rfl, ha, hd, hn, hp, hr2, hf⟩, hk1, hL1, hLk, hts, pre, hq⟩ := h
    obtain ⟨d1, dd, rfl, hd1⟩ := id hd
    have big : (1000000000000 : Int) < 2 ^ 64 := by decide
    have hk : k.natAbs < 2 ^ 64 := by
      have : k ≤ tab.L * k := by have := Int.mul_le_mul_of_nonneg_right hL1 (show (0 : Int) ≤ k by omega); omega
      omega
    have hLn : tab.L.natAbs < 2 ^ 64 := by
      have : tab.L ≤ tab.L * k := by have := Int.mul_le_mul_of_nonneg_left hk1 (show (0 : Int) ≤ tab.L by omega); omega
      omega
    refine ⟨_, rfl, _, rfl, _, rfl, iteF ⟨_, rfl, _, _, rfl, rfl, _, rfl, ?_⟩⟩
    rw [show decide (k < 1) = false from decide_eq_false (by omega)]
    refine iteF ⟨_, rfl, _, _, _, _, _, rfl, ha, T.cl_Table, T.na_Table_day, rfl, _, _, _, _, _, rfl, hd1, T.cl_Day, T.na_Day_length, rfl, _, rfl, _, _, rfl, rfl, wide_mul hLn hk (by decide) (by decide) (by decide), _, _, rfl, rfl, _, rfl, ?_⟩
    rw [show decide ((1000000000000 : Int) < tab.L * k) = false from decide_eq_false (by omega)]
    refine iteF ?_
    have tk : ∀ t ∈ tab.rows, t.takes.natAbs < 2 ^ 64 ∧ t.leaves.natAbs < 2 ^ 64 := fun t ht => by
      have o := (hts t ht).1
      have h1 := o.t0; have h2 := o.t1; have h3 := o.l0; have h4 := o.l1
      omega
    refine ⟨_, rfl, _, _, _, _, _, rfl, ha, T.cl_Table, T.na_Table_rows, rfl, r, rfl, ⟨_, .inl (.inl hr2)⟩, for_tup (K := K) (fun i σ H' => H' = H ∧ ∃ u, σ = [some (.ref a), some (.int k), u, none]) ⟨rfl, _, rfl⟩ (fun i σ H' _ h => .inl (.inl (by rw [h.1]; exact hr2))) (fun i xv σ H' hx hpv => ?_) fun σ H' hpv => ?_⟩
    · obtain ⟨rfl, u, rfl⟩ := hpv
      obtain ⟨i2, t, h1, h2, at_, dt, rfl, hat⟩ : ∃ (i2 : Nat) (t : Trip), tab.rows[i]? = some t ∧ ras[i]? = some xv ∧ TripAt K H' t xv := by
        have hl : i < tab.rows.length := by
          rw [hf.len]
          exact (List.getElem?_eq_some_iff.mp hx).1
        exact ⟨i, _, List.getElem?_eq_getElem hl, hx, hf.get (List.getElem?_eq_getElem hl) hx⟩
      have C := tripC_ok T t
      have htm := List.mem_of_getElem? h1
      refine ⟨_, rfl, _, _, _, _, _, rfl, hat, C.cl, C.t, rfl, _, rfl, _, _, rfl, rfl, wide_mul (tk t htm).1 hk (by decide) (by decide) (by decide), _, _, rfl, rfl, _, rfl, ?_⟩
      rw [show decide ((1000000000000 : Int) < t.takes * k) = false from decide_eq_false (by have := (hts t htm).2; omega)]
      exact iteF ⟨rfl, _, rfl⟩
    · obtain ⟨rfl, u, rfl⟩ := hpv
      refine ⟨_, rfl, _, _, _, _, _, rfl, ha, T.cl_Table, T.na_Table_rows, rfl, r, rfl, ⟨_, .inl (.inl hr2)⟩, fun D hD => lcRel walk_tup tab.rows hf.len.symm 2 (TripAt K H') (fun i H0 x H2 t ht _ y => yAt hf i H0 x H2 t ht y) hD (fun H2 s => .inl (.inl (s _ _ hr2))) (fun H t y => TripAt K H { t with leaves := t.leaves * k, takes := t.takes * k } y) (fun _ _ _ _ s q => q.si s) (by have := pre.few; rw [List.length_map] at this; rw [sizeLine_eq]; omega) (fun t xv H3 Kt ht hx s3 k1 => ?_) (fun _ => rfl) fun H3 ys s3 hD3 hys => ?_⟩
      · obtain ⟨at_, dt, rfl, hat⟩ := hx
        have C := tripC_ok T t
        have hat3 := s3 _ _ hat
        obtain ⟨ok, htk, hlt⟩ := hts t ht
        have args : ∀ (Q2 : List V → Hp → Prop) (u0 : Option V), Q2 [.int (t.leaves * k), .int (t.takes * k)] H3 → (tCons (tOp (rI CMulW fun i j => .int (i * j)) (tFld K (tVar 2) "leaves") (tVar 1)) (tCons (tOp (rI CMulW fun i j => .int (i * j)) (tFld K (tVar 2) "takes") (tVar 1)) tNil)) [some (.ref a), some (.int k), some (.ref at_), u0] H3 Q2 := fun Q2 u0 hQ =>
          ⟨_, rfl, _, _, _, _, _, rfl, hat3, C.cl, C.l, rfl, _, rfl, _, _, rfl, rfl, wide_mul (tk t ht).2 hk (by decide) (by decide) (by decide), _, rfl, _, _, _, _, _, rfl, hat3, C.cl, C.t, rfl, _, rfl, _, _, rfl, rfl, wide_mul (tk t ht).1 hk (by decide) (by decide) (by decide), hQ⟩
        have ok2 : TripOk { t with leaves := t.leaves * k, takes := t.takes * k } := by
          have h1 := ok.l0; have h2 := ok.t0
          have m1 : 0 ≤ t.leaves * k := Int.mul_nonneg h1 (by omega)
          have m2 : t.leaves * k ≤ tab.L * k := Int.mul_le_mul_of_nonneg_right (by omega) (by omega)
          have m3 : 1 * 1 ≤ t.takes * k := Int.mul_le_mul h2 hk1 (by decide) (by omega)
          exact ⟨ok.n, ok.s, ok.g, m1, by show t.leaves * k ≤ _; omega, by show 1 ≤ t.takes * k; omega, htk, ok.st⟩
        refine ⟨_, rfl, at_, dt, _, rfl, rfl, timed_q hat3 (fun hr0 => args _ _ ⟨_, t, _, _, hr0, rfl, ⟨at_, dt, rfl, hat3⟩, ok2, fun H4 y s4 q => k1 _ _ s4 q⟩) fun hr0 => args _ _ ⟨_, t, _, _, hr0, rfl, ⟨at_, dt, rfl, hat3⟩, ok2, fun H4 y s4 q => k1 _ _ s4 q⟩⟩
      · refine ⟨_, rfl, _, _, _, _, _, rfl, s3 _ _ ha, T.cl_Table, T.na_Table_day, rfl, _, _, _, _, _, rfl, s3 _ _ hd1, T.cl_Day, T.na_Day_length, rfl, _, rfl, _, _, rfl, rfl, wide_mul hLn hk (by decide) (by decide) (by decide), fun x dx nx nd2 ne => ?_⟩
        have h1 : 1 ≤ tab.L * k := by have := Int.mul_le_mul hL1 hk1 (by decide) (by omega); omega
        refine ⟨x, dx, _, rfl, upd_same, h1, hLk, fun H5 k5 hx5 => ⟨rfl, ?_⟩⟩
        have s5 : Same H3 H5 := init_same nx nd2 k5
        refine ⟨_, rfl, D, ys, rfl, .inr (.inl (.inl (s5 _ _ hD3))), ?_⟩
        intro x2 dx2 nx2 nd3 ne2
        have hys2 : Fa2 (TripAt K H5) (tab.rows.map fun t => { t with leaves := t.leaves * k, takes := t.takes * k }) ys := Fa2.map_l (hys.imp fun _ _ q => q.si (SameI.of s5))
        have z := tab_make (E := E0) (⟨x, dx, rfl, hx5⟩ : DayAt K H5 (tab.L * k) (.ref x)) hys2 pre (fun H6 tab6 y s6 ht hg => hq H6 tab6 y (Same.trans s3 (Same.trans s5 s6)) ht hg) x2 dx2 nx2 nd3 ne2
        have e : (.ref x2 :: .ref x :: (ys ++ []) : List V) = .ref x2 :: .ref x :: ys := by rw [List.append_nil]
        rw [← e] at z
        exact z
end K6
set_option Elab.async false
set_option linter.all false
set_option maxRecDepth 100000
set_option maxHeartbeats 4000000
namespace K6
open PySem PySem.Spec PyProof.Rows L2
open He (ga ma)

def movedT (L k : Int) (t : Trip) : Trip := { t with leaves := (t.leaves + k) % L }
def sp_moved0 (K : PySem.W.Frag) : Sp := fun vs H Q _ => ∃ x tab k p, vs = [x, .int k, .ref p] ∧ H p = some (.tup []) ∧ TabAt K H tab x ∧ 1 ≤ tab.L ∧ tab.L ≤ 1000000000000 ∧ (∀ t ∈ tab.rows, TripOk t) ∧ TabPre tab.L (tab.rows.map (movedT tab.L k)) ∧
  ∀ H' tab' y, Same H H' → TabAt K H' tab' y → TabGot tab.L (tab.rows.map (movedT tab.L k)) tab' → Q y H'
theorem movedT_ok {L k : Int} {t : Trip} (h1 : 1 ≤ L) (h2 : L ≤ 1000000000000) (o : TripOk t) : TripOk (movedT L k t) := by
  have a := Int.emod_nonneg (t.leaves + k) (show L ≠ 0 by omega)
  have b := Int.emod_lt_of_pos (t.leaves + k) (show 0 < L by omega)
  exact ⟨o.n, o.s, o.g, a, by show (t.leaves + k) % L ≤ _; omega, o.t0, o.t1, o.st⟩

abbrev N_Table_moved : List Str := ["self", "k", "names", "found", "trip", "is_moved"]
theorem sc_Table_moved : FnScope N_Table_moved ["self", "k", "names"] (defScope s_Table_moved) := ⟨rfl, rfl, rfl, by decide +kernel, rfl, by decide +kernel, by decide +kernel⟩
theorem ok_Table_moved0 {P : Program} {w : World} {K : PySem.W.Frag} {mg : Str → Option Value} {base : Heap} (T : Txt P K mg) (cdv : Value) (A : Around) (outer : List Env) (s : Shared) (H : Hp) (vs : List V) (Q : VK) (E : XK) (hr : Room 8 (A.deeper (envOfC "Table.moved" (defScope s_Table_moved) s.heap.objs.size (ma K (ga K "Table") "moved") cdv))) (h : sp_moved0 K vs H Q E) :
    ∃ t, PSs (cxOf CX0 P w K mg base N_Table_moved "Table.moved" (defScope s_Table_moved) (ma K (ga K "Table") "moved") cdv A outer s H E) (defBody s_Table_moved) t ∧ t { nx := fun _ H' => Q .non H', rt := Q } (start N_Table_moved vs) H := by
  have nd := sc_Table_moved.nd
  refine ⟨_, PSs.nox (pss_cons (ps_if (pt_not (pt_val (pe_cal (ok_is_integer T) (hr.mono (by decide)) (kpOf T.d_is_integer) rfl T.g_is_integer pass0 (pa_cons (pv 1) pa_nil)))) pss_never pss_nil) (pss_cons (ps_expr (pe_methR (pv 0) T.cl_Table T.me_Table_need_names (ok_Table_need_names T) (hr.mono (by decide)) pass0 (pa_cons (pv 2) pa_nil))) (pss_cons (ps_set (i := 3) nd rfl (by first | exact Or.inl rfl | exact Or.inr rfl) (pe_lst pa_nil)) (pss_cons (ps_for PassesOwn.never rfl (pi_tup (pe_fld (pv 0) rfl)) (pg_name (i := 4) nd rfl (by first | exact Or.inl rfl | exact Or.inr rfl)) (pss_cons (ps_set (i := 5) nd rfl (by first | exact Or.inl rfl | exact Or.inr rfl) (pe_or (pe_cmpR op_eq (pe_callB call_lenS rfl T.f_len bt_len (pa_cons (pv 2) pa_nil)) pe_int (nomark _)) (pe_one (pe_cmpR op_in_seq (pe_fld (pv 4) rfl) (pv 2) rfl)))) (pss_one (ps_expr (pe_bm PySem.F.plainAttrs_list PySem.F.slot_list_append PySem.F.type_list_append mt_append (pv 3) (pa_cons (pe_ifExp (pt_val (pv 5)) (pe_timed T (w := w) (base := base) ⟨rfl, rfl, rfl, rfl, rfl⟩ (pv 4) (hr.mono (by decide)) (pa_cons (pe_op op_mod (pe_callTy call_int1 rfl T.f_int bt_int (pa_cons (pe_op op_add (pe_fld (pv 4) rfl) (pv 1)) pa_nil)) (pe_fld (pe_fld (pv 0) rfl) rfl)) (pa_cons (pe_fld (pv 4) rfl) pa_nil))) (pv 4)) pa_nil)))))) (pss_one (ps_ret (pe_makeS T.mk_Table (ok_Table_init T) (hr.mono (by decide)) rfl T.g_Table pass0 (pa_cons (pe_fld (pv 0) rfl) (StX.pa_star (pv 3) pa_nil))))))))), ?_⟩
  obtain ⟨x, tab, k, p, rfl, hp0, ⟨a, da, d, n, p2, r, ras, rfl, ha, hd, hn, hp, hr2, hf⟩, hL1, hL2, hts, pre, hq⟩ := h
  obtain ⟨d1, dd, rfl, hd1⟩ := id hd
  refine ⟨_, rfl, _, rfl, _, rfl, iteF ⟨_, rfl, a, da, _, rfl, ha, rfl, _, rfl, _, p, rfl, hp0, (by show 0 ≤ sizeLine; decide), fun fD hfD => ?_⟩⟩
  have s1 : Same H (upd H fD (.lst [])) := same_upd hfD
  refine ⟨_, rfl, _, _, _, _, _, rfl, s1 _ _ ha, T.cl_Table, T.na_Table_rows, rfl, r, rfl, ⟨_, .inl (.inl (s1 _ _ hr2))⟩, for_tup (K := K) (fun i σ H' => Same H H' ∧ (∃ ys, H' fD = some (.lst ys) ∧ Fa2 (fun t y => TripAt K H' (movedT tab.L k t) y) (tab.rows.take i) ys) ∧ ∃ u v, σ = [some (.ref a), some (.int k), some (.ref p), some (.ref fD), u, v]) ⟨s1, ⟨[], upd_same, by simp [Fa2]⟩, _, _, rfl⟩ (fun i σ H' _ h => .inl (.inl (h.1 _ _ hr2))) (fun i xv σ H' hx hpv => ?_) fun σ H' hpv => ?_⟩
  · obtain ⟨s2, ⟨ys, hy, hys⟩, u, v, rfl⟩ := hpv
    have hl : i < tab.rows.length := by
      rw [hf.len]
      exact (List.getElem?_eq_some_iff.mp hx).1
    have ht0 := List.getElem?_eq_getElem hl
    obtain ⟨at_, dt, rfl, hat⟩ := hf.get ht0 hx
    generalize htt : tab.rows[i] = t at ht0 hat
    have htm := List.mem_of_getElem? ht0
    have C := tripC_ok T t
    have hat2 := s2 _ _ hat
    refine ⟨_, rfl, p, _, rfl, .inr (.inl (.inl (s2 _ _ hp0))), rfl, true, rfl, ?_⟩
    refine iteT ⟨_, rfl, .inl ⟨rfl, _, .inl (.inl hy)⟩, ?_⟩
    refine ⟨_, rfl, true, rfl, iteT ⟨_, rfl, at_, dt, tripF t, rfl, rfl, ?_⟩⟩
    have args : ∀ (Q2 : List V → Hp → Prop), Q2 [.int ((t.leaves + k) % tab.L), .int t.takes] H' → (tCons (tOp (rI (fun _ j => 0 < j) fun i j => .int (i % j)) (tCB (fun xs H Q => (∃ i, xs = [V.int i] ∧ Q (.int i) H) ∨ ∃ k, xs = [V.bl k] ∧ Q (.int (if k then 1 else 0)) H) (tCons (tOp (rI0 fun i j => .int (i + j)) (tFld K (tVar 4) "leaves") (tVar 1)) tNil)) (tFld K (tFld K (tVar 0) "day") "length")) (tCons (tFld K (tVar 4) "takes") tNil)) [some (.ref a), some (.int k), some (.ref p), some (.ref fD), some (.ref at_), some (.bl true)] H' Q2 := fun Q2 hQ =>
      ⟨_, rfl, _, _, _, _, _, rfl, hat2, C.cl, C.l, rfl, _, rfl, _, _, rfl, rfl, .inl ⟨_, rfl, _, rfl, _, _, _, _, _, rfl, s2 _ _ ha, T.cl_Table, T.na_Table_day, rfl, _, _, _, _, _, rfl, s2 _ _ hd1, T.cl_Day, T.na_Day_length, rfl, _, _, rfl, rfl, by show (0 : Int) < tab.L; omega, _, rfl, _, _, _, _, _, rfl, hat2, C.cl, C.t, rfl, hQ⟩⟩
    have fin : ∀ H4 y, Same H' H4 → TripAt K H4 (movedT tab.L k t) y → ∃ l xs e, V.ref fD = .ref l ∧ [y] = [e] ∧ H4 l = some (.lst xs) ∧ xs.length < sizeLine ∧ (Same H (upd H4 l (.lst (xs ++ [e]))) ∧ (∃ ys, (upd H4 l (.lst (xs ++ [e]))) fD = some (.lst ys) ∧ Fa2 (fun t y => TripAt K (upd H4 l (.lst (xs ++ [e]))) (movedT tab.L k t) y) (tab.rows.take (i + 1)) ys)) := fun H4 y s4 q => by
      have hy4 := s4 _ _ hy
      have si : SameI H4 (upd H4 fD (.lst (ys ++ [y]))) := SameI.put SameI.rfl' hy4
      refine ⟨fD, ys, y, rfl, rfl, hy4, ?_, same_put (Same.trans s2 s4) hfD, _, upd_same, ?_⟩
      · have h1 := hys.len
        have h2 := pre.few
        rw [List.length_take] at h1
        rw [List.length_map] at h2
        rw [sizeLine_eq]; omega
      · rw [List.take_add_one, ht0]
        exact Fa2.snoc (hys.imp fun _ _ q => (q.si (SameI.of s4)).si si) (q.si si)
    refine timed_q hat2 (fun hr0 => args _ ⟨_, t, _, _, hr0, rfl, ⟨at_, dt, rfl, hat2⟩, movedT_ok hL1 hL2 (hts t htm), fun H4 y s4 q => ?_⟩) fun hr0 => args _ ⟨_, t, _, _, hr0, rfl, ⟨at_, dt, rfl, hat2⟩, movedT_ok hL1 hL2 (hts t htm), fun H4 y s4 q => ?_⟩
    · obtain ⟨l, xs, e, e1, e2, e3, e4, e5, e6⟩ := fin H4 y s4 q
      exact ⟨l, xs, e, e1, e2, e3, e4, e5, e6, _, _, by rw [e1] <;> rfl⟩
    · obtain ⟨l, xs, e, e1, e2, e3, e4, e5, e6⟩ := fin H4 y s4 q
      exact ⟨l, xs, e, e1, e2, e3, e4, e5, e6, _, _, by rw [e1] <;> rfl⟩
  · obtain ⟨s2, ⟨ys, hy, hys⟩, u, v, rfl⟩ := hpv
    rw [← hf.len, List.take_length] at hys
    refine ⟨_, rfl, _, _, _, _, _, rfl, s2 _ _ ha, T.cl_Table, T.na_Table_day, rfl, _, rfl, fD, ys, rfl, .inr (.inl (.inl hy)), ?_⟩
    intro x2 dx2 nx2 nd3 ne2
    have z := tab_make (E := E0) (⟨d1, dd, rfl, s2 _ _ hd1⟩ : DayAt K H' tab.L (.ref d1)) (Fa2.map_l hys) pre (fun H6 tab6 y s6 ht hg => hq H6 tab6 y (Same.trans s2 s6) ht hg) x2 dx2 nx2 nd3 ne2
    have e : (.ref x2 :: .ref d1 :: (ys ++ []) : List V) = .ref x2 :: .ref d1 :: ys := by rw [List.append_nil]
    rw [← e] at z
    exact z
def sp_moved (K : PySem.W.Frag) : Sp := fun vs H Q _ => ∃ x tab k, vs = [x, .int k] ∧ TabAt K H tab x ∧ 1 ≤ tab.L ∧ tab.L ≤ 1000000000000 ∧ (∀ t ∈ tab.rows, TripOk t) ∧ TabPre tab.L (tab.rows.map (movedT tab.L k)) ∧
  ∀ H' tab' y, Same H H' → TabAt K H' tab' y → TabGot tab.L (tab.rows.map (movedT tab.L k)) tab' → Q y H'
theorem ok_Table_moved {P : Program} {w : World} {K : PySem.W.Frag} {mg : Str → Option Value} {base : Heap} (T : Txt P K mg) : FnR P w K mg base CX0 9 (ma K (ga K "Table") "moved") (sp_moved K) := by
  obtain ⟨fd, ⟨oc, od, kV, doc, pm, an, cdv, ct, osl, e, l, c⟩, kp⟩ := T.d_Table_moved
  refine (StX.fn_star (sp := sp_moved0 K) (ps := ["self", "k"]) (pv := "names") (by rw [l, e]) c sc_Table_moved StX.cxUp_none (StX.bind_star2 (B := fun us => bindArgs (PySem.W.fnOf "moved" "Table.moved" (defArgs s_Table_moved) (defBody s_Table_moved) (defScope s_Table_moved) .none kV doc pm an cdv ct) ⟨us, []⟩) (fun a b => rfl) (fun a b r rs => rfl)) fun A outer s H vs Q E hr h => ok_Table_moved0 T cdv A outer s H vs Q E hr h).imp fun vs H Q E h => ?_
  obtain ⟨x, tab, k, rfl, ht, h1, h2, h3, pre, hq⟩ := h
  exact ⟨[x, .int k], [], rfl, rfl, by show 0 ≤ sizeLine; decide, fun p hp => ⟨x, tab, k, p, rfl, upd_same, ht.si (SameI.of (same_upd hp)), h1, h2, h3, pre, fun H' tab' y s q g => hq H' tab' y (Same.trans (same_upd hp) s) q g⟩⟩
theorem ok_Table_iter {P : Program} {w : World} {K : PySem.W.Frag} {mg : Str → Option Value} {base : Heap} (T : Txt P K mg) : ItFn P w K mg base 1 (ma K (ga K "Table") "__iter__") (ga K "Table") "rows" := by
  obtain ⟨fd, F⟩ := T.d_Table_iter
  exact itFn_of (Fun.funD F) ⟨rfl, rfl, rfl, by decide +kernel, rfl, by decide +kernel, by decide +kernel⟩ (F.binds fun _ _ _ _ _ _ us hl => match us, hl with | [_], _ => rfl) rfl rfl T.f_iter T.cl_Table T.na_Table_rows (fun _ => rfl)
def sp_Table_add (K : PySem.W.Frag) : Sp := fun vs H Q _ => ∃ x y tab tac, vs = [x, y] ∧ TabAt K H tab x ∧ TabAt K H tac y ∧ tab.L = tac.L ∧ TabPre tab.L (tab.rows ++ tac.rows) ∧ ∀ H' tad z, Same H H' → TabAt K H' tad z → TabGot tab.L (tab.rows ++ tac.rows) tad → Q z H'
theorem Fa2.app {α β : Type} {R : α → β → Prop} : ∀ {l l' : List α} {m m' : List β}, Fa2 R l m → Fa2 R l' m' → Fa2 R (l ++ l') (m ++ m')
  | [], _, [], _, _, h => h
  | _ :: _, _, _ :: _, _, h, h2 => ⟨h.1, Fa2.app h.2 h2⟩
  | [], _, _ :: _, _, h, _ => h.elim
  | _ :: _, _, [], _, h, _ => h.elim

abbrev N_Table_add : List Str := ["self", "other"]
theorem sc_Table_add : FnScope N_Table_add ["self", "other"] (defScope s_Table_add) := ⟨rfl, rfl, rfl, by decide +kernel, rfl, by decide +kernel, by decide +kernel⟩
theorem ok_Table_add {P : Program} {w : World} {K : PySem.W.Frag} {mg : Str → Option Value} {base : Heap} (T : Txt P K mg) : FnR P w K mg base CX0 6 (ma K (ga K "Table") "__add__") (sp_Table_add K) := by
  have nd := sc_Table_add.nd
  refine fnR T.d_Table_add sc_Table_add (fun _ _ _ _ _ _ us hl => match us, hl with | [_, _], _ => rfl) (fun vs H Q E h => ?_) fun cdv A outer s H vs Q E hr h => ⟨_, (pss_cons (ps_if (pt_not (pt_val (pe_callB call_isi rfl T.f_isinstance bt_isinstance (pa_cons (pv 1) (pa_cons (pe_glob (v := .ref (ga K "Table")) rfl T.g_Table rfl) pa_nil))))) pss_never pss_nil) (pss_cons (ps_if (pt_cmpR (op_neO (ok_Day_eq T) (hr.mono (by decide)) pass0 T.ne_Day) (pe_fld (pv 0) rfl) (pe_fld (pv 1) rfl) (nomark _)) pss_never pss_nil) (pss_one (ps_ret (pe_makeS T.mk_Table (ok_Table_init T) (hr.mono (by decide)) rfl T.g_Table pass0 (pa_cons (pe_fld (pv 0) rfl) (StX.pa_star (pe_fld (pv 0) rfl) (StX.pa_star (pe_fld (pv 1) rfl) pa_nil)))))))), ?_⟩
  · obtain ⟨_, _, _, _, rfl, _⟩ := h; rfl
  · obtain ⟨x, y, tab, tac, rfl, ⟨a, da, d, n, p, r, ras, rfl, ha, hd, hn, hp, hr1, hf⟩, ⟨b, db, d2, n2, p2, r2, ras2, rfl, hb, hd2, hn2, hp2, hr2, hf2⟩, hL, pre, hq⟩ := h
    obtain ⟨d1, dd, rfl, hd1⟩ := id hd
    obtain ⟨d3, dd3, rfl, hd3⟩ := id hd2
    refine ⟨_, rfl, _, _, _, _, _, rfl, .own _, T.ty_Table hb, kit_own, _, rfl, iteF ⟨_, rfl, _, _, _, _, _, rfl, ha, T.cl_Table, T.na_Table_day, rfl, _, rfl, _, _, _, _, _, rfl, hb, T.cl_Table, T.na_Table_day, rfl, ?_⟩⟩
    refine ⟨_, _, _, _, _, _, rfl, rfl, hd1, hd3, _, _, _, _, rfl, ⟨_, _, rfl, hd1⟩, ⟨_, _, rfl, hd3⟩, _, rfl, _, rfl, ?_⟩
    rw [hL]
    simp only [decide_true, Bool.not_true, Bool.false_eq_true, if_false]
    refine ⟨_, rfl, _, _, _, _, _, rfl, ha, T.cl_Table, T.na_Table_day, rfl, _, rfl, _, _, _, _, _, rfl, ha, T.cl_Table, T.na_Table_rows, rfl, r, ras, rfl, .inl (.inl (.inl hr1)), _, rfl, _, _, _, _, _, rfl, hb, T.cl_Table, T.na_Table_rows, rfl, r2, ras2, rfl, .inl (.inl (.inl hr2)), ?_⟩
    intro x2 dx2 nx2 nd3 ne2
    have z := tab_make (E := E0) hd (hf.app hf2) pre hq x2 dx2 nx2 nd3 ne2
    have e : (.ref x2 :: .ref d1 :: (ras ++ (ras2 ++ [])) : List V) = .ref x2 :: .ref d1 :: (ras ++ ras2) := by rw [List.append_nil]
    rw [← e] at z
    exact z
end K6
set_option Elab.async false
set_option linter.all false
set_option maxRecDepth 100000
set_option maxHeartbeats 4000000
namespace K6
open PySem PySem.Spec PyProof.Rows L2
/-! ### the stair, in plain Lean -/
structure PlaceD where
  L : Int
  leavings : List Int
  ends : List Int
  comings : List Int
def isComing (p : Str) (t : Trip) : Bool := decide (t.goal = p) && t.run
def isEnd (p : Str) (t : Trip) : Bool := decide (t.goal = p) && !t.run
def placeOf (L : Int) (rows : List Trip) (p : Str) : PlaceD :=
  ⟨L, (rows.filter fun t => decide (t.start = p)).map (·.leaves), (rows.filter (isEnd p)).map fun t => (t.leaves + t.takes) % L, (rows.filter (isComing p)).map fun t => (t.leaves + t.takes) % L⟩
def upTo (l : List Int) (c : Int) : Int := ((l.filter fun x => decide (x ≤ c)).length : Nat)
def cameBy (d : PlaceD) (m : Int) : Int := (d.comings.map fun c => (m - c) / d.L + 1).sum
def wantedAt (d : PlaceD) (c p : Int) : Int := upTo d.leavings c - upTo d.ends c - cameBy d (c - p)
def stockAt (d : PlaceD) (p : Int) : Int := maxOf 0 (d.leavings.map fun c => wantedAt d c p)
def spotsAll (d : PlaceD) : List Int := d.leavings.flatMap fun l => d.comings.map fun c => (l - c) % d.L + 1
/-- the spots in order -/
def SpotsOf (d : PlaceD) (ns : List Int) : Prop := ns.Pairwise (· < ·) ∧ ∀ z, z ∈ ns ↔ z ∈ spotsAll d
def riseStep (d : PlaceD) (base : Int) (rises : List Int) (spot : Int) : List Int := rises ++ List.replicate (stockAt d spot - base - (rises.length : Nat)).toNat spot
def risesBy (d : PlaceD) (spots : List Int) : List Int := spots.foldl (riseStep d (stockAt d 0)) []
/-- what stair_of gives -/
structure StairOf (d : PlaceD) (s : Stair) : Prop where
  l : s.length = d.L
  b : s.base = stockAt d 0
  r : ∃ ns, SpotsOf d ns ∧ s.rises = risesBy d ns
  st : s.step = (d.comings.length : Nat)
/-- the numbers are small enough for the machine's rules -/
structure PlaceOk (d : PlaceD) : Prop where
  L1 : 1 ≤ d.L
  L2 : d.L ≤ 1000000000000
  nl : d.leavings.length ≤ 40
  ne : d.ends.length ≤ 40
  nc : d.comings.length ≤ 40
  lv : ∀ x ∈ d.leavings, 0 ≤ x ∧ x < d.L
  en : ∀ x ∈ d.ends, 0 ≤ x ∧ x < d.L
  co : ∀ x ∈ d.comings, 0 ≤ x ∧ x < d.L
theorem upTo_le (l : List Int) (c : Int) : 0 ≤ upTo l c ∧ upTo l c ≤ (l.length : Nat) := by
  unfold upTo
  have := List.length_filter_le (fun x => decide (x ≤ c)) l
  omega
theorem sum_bound {lo hi : Int} (f : Int → Int) : ∀ {l : List Int}, (∀ x ∈ l, lo ≤ f x ∧ f x ≤ hi) → lo * (l.length : Nat) ≤ (l.map f).sum ∧ (l.map f).sum ≤ hi * (l.length : Nat)
  | [], _ => by simp
  | x :: l, h => by
    have h1 := h x List.mem_cons_self
    have h2 := sum_bound f fun y hy => h y (List.mem_cons_of_mem _ hy)
    rw [List.map_cons, List.sum_cons, List.length_cons]
    have e1 : lo * ((l.length + 1 : Nat) : Int) = lo + lo * (l.length : Nat) := by rw [Int.natCast_add, Int.mul_add]; simp; omega
    have e2 : hi * ((l.length + 1 : Nat) : Int) = hi + hi * (l.length : Nat) := by rw [Int.natCast_add, Int.mul_add]; simp; omega
    omega
theorem div_bound {L m c : Int} (hL : 1 ≤ L) (h1 : -(L) - L < m - c) (h2 : m - c < L) : -2 ≤ (m - c) / L ∧ (m - c) / L ≤ 0 := by
  constructor
  · have : (-2 * L) / L ≤ (m - c) / L := Int.ediv_le_ediv (by omega) (by omega)
    rw [Int.mul_ediv_cancel _ (by omega)] at this
    exact this
  · have : (m - c) / L < 1 := Int.ediv_lt_of_lt_mul (by omega) (by omega)
    omega
theorem wanted_bound {d : PlaceD} (o : PlaceOk d) {c p : Int} (hc : 0 ≤ c ∧ c < d.L) (hp : 0 ≤ p ∧ p ≤ d.L) : -80 ≤ wantedAt d c p ∧ wantedAt d c p ≤ 80 := by
  have h1 := upTo_le d.leavings c
  have h2 := upTo_le d.ends c
  have h3 := sum_bound (lo := -1) (hi := 1) (fun k => (c - p - k) / d.L + 1) (l := d.comings) fun k hk => by
    have hk := o.co k hk
    have := div_bound (m := c - p) (c := k) o.L1 (by omega) (by omega)
    show -1 ≤ (c - p - k) / d.L + 1 ∧ (c - p - k) / d.L + 1 ≤ 1
    omega
  have := o.nl; have := o.ne; have := o.nc
  unfold wantedAt cameBy
  omega
theorem foldl_max_bound {lo hi : Int} : ∀ {l : List Int} {n : Int}, lo ≤ n ∧ n ≤ hi → (∀ x ∈ l, lo ≤ x ∧ x ≤ hi) → lo ≤ l.foldl max n ∧ l.foldl max n ≤ hi
  | [], _, h, _ => h
  | x :: l, n, h, hl => by
    have hx := hl x List.mem_cons_self
    exact foldl_max_bound (n := max n x) (by omega) fun y hy => hl y (List.mem_cons_of_mem _ hy)
theorem stock_bound {d : PlaceD} (o : PlaceOk d) {p : Int} (hp : 0 ≤ p ∧ p ≤ d.L) : -80 ≤ stockAt d p ∧ stockAt d p ≤ 80 := by
  unfold stockAt
  cases e : d.leavings with
  | nil => rw [List.map_nil]; show -80 ≤ (0 : Int) ∧ (0 : Int) ≤ 80; decide
  | cons x l =>
    rw [List.map_cons]
    show -80 ≤ (l.map _).foldl max _ ∧ _
    have hm : ∀ y ∈ d.leavings, -80 ≤ wantedAt d y p ∧ wantedAt d y p ≤ 80 := fun y hy => wanted_bound o (o.lv y hy) hp
    rw [e] at hm
    exact foldl_max_bound (hm x List.mem_cons_self) fun y hy => by
      obtain ⟨z, hz, rfl⟩ := List.mem_map.mp hy
      exact hm z (List.mem_cons_of_mem _ hz)
theorem spot_bound {d : PlaceD} (o : PlaceOk d) {z : Int} (h : z ∈ spotsAll d) : 1 ≤ z ∧ z ≤ d.L := by
  obtain ⟨l, _, h⟩ := List.mem_flatMap.mp h
  obtain ⟨c, _, rfl⟩ := List.mem_map.mp h
  have h1 := Int.emod_nonneg (l - c) (show d.L ≠ 0 by have := o.L1; omega)
  have h2 := Int.emod_lt_of_pos (l - c) (show 0 < d.L by have := o.L1; omega)
  omega
/-- the rises never grow beyond this -/
theorem rises_len {d : PlaceD} (o : PlaceOk d) : ∀ (ns : List Int) (acc : List Int), (∀ z ∈ ns, 1 ≤ z ∧ z ≤ d.L) → acc.length ≤ 200 → (ns.foldl (riseStep d (stockAt d 0)) acc).length ≤ 200
  | [], _, _, h => h
  | z :: ns, acc, hz, h => by
    rw [List.foldl_cons]
    refine rises_len o ns _ (fun y hy => hz y (List.mem_cons_of_mem _ hy)) ?_
    have hz1 := hz z List.mem_cons_self
    have h1 := stock_bound o (p := z) (by omega)
    have h2 := stock_bound o (p := 0) (by have := o.L1; omega)
    unfold riseStep
    rw [List.length_append, List.length_replicate]
    omega
end K6
set_option Elab.async false
set_option linter.all false
set_option maxRecDepth 100000
set_option maxHeartbeats 4000000
namespace K6
open PySem PySem.Spec PyProof.Rows L2
open He (ga ma)

theorem ty_trip {P : Program} {K : PySem.W.Frag} {mg : Str → Option Value} (T : Txt P K mg) {H : Hp} {a dx : Addr} {fs : List (Str × V)} {t : Trip} (e : H a = some (.ins (tripC K t) dx fs)) : TyX K H (.ref a) (.ref (tripC K t)) := by
  unfold tripC at e ⊢
  cases hr : t.run with
  | true => rw [hr] at e; exact T.ty_Run e
  | false => rw [hr] at e; exact T.ty_Stay e
theorem kit_paused {P : Program} {K : PySem.W.Frag} {mg : Str → Option Value} (T : Txt P K mg) (t : Trip) : PySem.W.kitOne K (.ref (tripC K t)) (.ref (ga K "Paused")) = some t.run := by
  unfold tripC
  cases hr : t.run with
  | true => exact T.is_Run_Paused
  | false => exact T.is_Stay_Paused
def PlaceAt (K : PySem.W.Frag) (H : Hp) (d : PlaceD) (x : V) : Prop := ∃ a dx l e c, x = .ref a ∧ H a = some (.ins (ga K "Place") dx [("length", .int d.L), ("leavings", .ref l), ("ends", .ref e), ("comings", .ref c)]) ∧ H l = some (.lst (d.leavings.map V.int)) ∧ H e = some (.lst (d.ends.map V.int)) ∧ H c = some (.lst (d.comings.map V.int))
theorem PlaceAt.s {K : PySem.W.Frag} {H H' : Hp} {d : PlaceD} {x : V} (s : Same H H') : PlaceAt K H d x → PlaceAt K H' d x := fun ⟨a, dx, l, e, c, h0, h1, h2, h3, h4⟩ => ⟨a, dx, l, e, c, h0, s _ _ h1, s _ _ h2, s _ _ h3, s _ _ h4⟩
def underOf (t : Tab) : Int := (t.rows.map fun r => (r.leaves + r.takes) / t.L).sum
def sp_under (K : PySem.W.Frag) : Sp := fun vs H Q _ => ∃ x tab, vs = [x] ∧ TabAt K H tab x ∧ 1 ≤ tab.L ∧ tab.L ≤ 1000000000000 ∧ tab.rows.length ≤ 40 ∧ ∀ H', Same H H' → Q (.int (underOf tab)) H'
def sp_came_by (K : PySem.W.Frag) : Sp := fun vs H Q _ => ∃ x d m, vs = [x, .int m] ∧ PlaceAt K H d x ∧ PlaceOk d ∧ ∀ H', Same H H' → Q (.int (cameBy d m)) H'
def sp_wanted (K : PySem.W.Frag) : Sp := fun vs H Q _ => ∃ x d c p, vs = [x, .int c, .int p] ∧ PlaceAt K H d x ∧ PlaceOk d ∧ ∀ H', Same H H' → Q (.int (wantedAt d c p)) H'
def sp_stock (K : PySem.W.Frag) : Sp := fun vs H Q _ => ∃ x d p, vs = [x, .int p] ∧ PlaceAt K H d x ∧ PlaceOk d ∧ ∀ H', Same H H' → Q (.int (stockAt d p)) H'
def sp_spots (K : PySem.W.Frag) : Sp := fun vs H Q _ => ∃ x d, vs = [x] ∧ PlaceAt K H d x ∧ PlaceOk d ∧ ∀ H' q ns, Same H H' → H q = none → H' q = some (.lst (ns.map V.int)) → SpotsOf d ns → Q (.ref q) H'
theorem natAbs_L {L : Int} (h1 : 1 ≤ L) (h2 : L ≤ 1000000000000) : L.natAbs < 2 ^ 64 := by
  have big : (1000000000000 : Int) < 2 ^ 64 := by decide
  omega
theorem filterMap_if {α β : Type} (P : α → Bool) (f : α → β) : ∀ l : List α, l.filterMap (fun a => if P a = true then some (f a) else none) = (l.filter P).map f
  | [] => rfl
  | a :: l => by
    rw [List.filterMap_cons]
    cases e : P a with
    | true => simp [e, filterMap_if P f l]
    | false => simp [e, filterMap_if P f l]

abbrev N_under : List Str := ["table", "trip"]
theorem sc_under : FnScope N_under ["table"] (defScope s_under) := ⟨rfl, rfl, rfl, by decide +kernel, rfl, by decide +kernel, by decide +kernel⟩
theorem ok_under {P : Program} {w : World} {K : PySem.W.Frag} {mg : Str → Option Value} {base : Heap} (T : Txt P K mg) : FnR P w K mg base CX0 2 (ga K "under") (sp_under K) := by
  have nd := sc_under.nd
  refine fnR T.d_under sc_under (fun _ _ _ _ _ _ us hl => match us, hl with | [_], _ => rfl) (fun vs H Q E h => ?_) fun cdv A outer s H vs Q E hr h => ⟨_, (pss_cons (ps_expr (pe_cal (ok_need_table T) (hr.mono (by decide)) (kpOf T.d_need_table) rfl T.g_need_table pass0 (pa_cons (pv 0) pa_nil))) (pss_one (ps_ret (pe_callB (cr_sum rfl) rfl T.f_sum bt_sum (pa_cons (pe_lc (own := [("trip", 1)]) (g := gName 1) (tt := tYes) (te := (tOp _ (tCB _ (tCons (tOp _ (tFld K (tVar 1) "leaves") (tFld K (tVar 1) "takes")) tNil)) (tFld K (tFld K (tVar 0) "day") "length"))) rfl nd (pi_own (ok_Table_iter T) (hr.mono (by decide)) ⟨T.fi_Table_iter, T.if_Table_iter⟩ (pv 0)) (blkOk_by (N := N_under) (sc := defScope s_under) (by decide +kernel)) (fun _ _ _ _ _ => pg_name (i := 1) nd rfl (by first | exact Or.inl rfl | exact Or.inr rfl)) (fun _ _ _ _ _ => pts_nil) (fun _ _ _ _ _ => (pe_op op_fdivW (pe_callTy call_int1 rfl T.f_int bt_int (pa_cons (pe_op op_add (pe_fld (pv 1) rfl) (pe_fld (pv 1) rfl)) pa_nil)) (pe_fld (pe_fld (pv 0) rfl) rfl)))) pa_nil))))), ?_⟩
  · obtain ⟨_, _, rfl, _⟩ := h; rfl
  · obtain ⟨x, tab, rfl, ⟨a, da, d, n, p, r, ras, rfl, ha, hd, hn, hp, hr2, hf⟩, hL1, hL2, hlen, hq⟩ := h
    obtain ⟨d1, dd, rfl, hd1⟩ := hd
    refine ⟨_, rfl, a, da, _, rfl, ha, _, rfl, a, r, rfl, ⟨da, _, ras, ha, rfl, .inl (.inl hr2)⟩, fun D hD => lcF walk_tup tab.rows hf.len.symm 1 (TripAt K H) (fun i H0 x H' a ha _ y => yAt hf i H0 x H' a ha y) hD (fun H' s => .inl (.inl (s _ _ hr2))) (fun (t : Trip) => some (.int ((t.leaves + t.takes) / tab.L))) (by rw [sizeLine_eq]; omega) (fun t x H1 Kt Kf ht hx hs k1 _ => ?_) (fun _ => rfl) fun H' hs hD' => ⟨D, tab.rows.map fun (t : Trip) => (t.leaves + t.takes) / tab.L, rfl, .inl (.inl ?_), hq _ hs⟩⟩
    · obtain ⟨b, dt, rfl, hb⟩ := hx
      have C := tripC_ok T t
      have hb1 := hs _ _ hb
      exact stepY ⟨_, rfl, _, _, _, _, _, rfl, hb1, C.cl, C.l, rfl, _, rfl, _, _, _, _, _, rfl, hb1, C.cl, C.t, rfl, _, _, rfl, rfl, .inl ⟨_, rfl, _, rfl, _, _, _, _, _, rfl, hs _ _ ha, T.cl_Table, T.na_Table_day, rfl, _, _, _, _, _, rfl, hs _ _ hd1, T.cl_Day, T.na_Day_length, rfl, _, _, rfl, rfl, wide_div (by omega) (natAbs_L hL1 hL2) (by decide) (by decide), k1 _ _ (Same.refl _) rfl⟩⟩
    · rw [hD', filterMap_some, List.map_map]
      rfl
abbrev N_Place_came_by : List Str := ["self", "moment", "clock"]
theorem sc_Place_came_by : FnScope N_Place_came_by ["self", "moment"] (defScope s_Place_came_by) := ⟨rfl, rfl, rfl, by decide +kernel, rfl, by decide +kernel, by decide +kernel⟩
theorem ok_Place_came_by {P : Program} {w : World} {K : PySem.W.Frag} {mg : Str → Option Value} {base : Heap} (T : Txt P K mg) : FnR P w K mg base CX0 1 (ma K (ga K "Place") "came_by") (sp_came_by K) := by
  have nd := sc_Place_came_by.nd
  refine fnR T.d_Place_came_by sc_Place_came_by (fun _ _ _ _ _ _ us hl => match us, hl with | [_, _], _ => rfl) (fun vs H Q E h => ?_) fun cdv A outer s H vs Q E hr h => ⟨_, (pss_one (ps_ret (pe_callB (cr_sum rfl) rfl T.f_sum bt_sum (pa_cons (pe_lc (own := [("clock", 2)]) (g := gName 2) (tt := tYes) (te := (tOp _ (tOp _ (tOp _ (tVar 1) (tVar 2)) (tFld K (tVar 0) "length")) (tC _))) rfl nd (pi_list (pe_fld (pv 0) rfl)) (blkOk_by (N := N_Place_came_by) (sc := defScope s_Place_came_by) (by decide +kernel)) (fun _ _ _ _ _ => pg_name (i := 2) nd rfl (by first | exact Or.inl rfl | exact Or.inr rfl)) (fun _ _ _ _ _ => pts_nil) (fun _ _ _ _ _ => (pe_op op_add (pe_op op_fdivW (pe_op op_sub (pv 1) (pv 2)) (pe_fld (pv 0) rfl)) pe_int))) pa_nil)))), ?_⟩
  · obtain ⟨_, _, _, rfl, _⟩ := h; rfl
  · obtain ⟨x, d, m, rfl, ⟨a, dx, l, e, c, rfl, ha, hl, he, hc⟩, ok, hq⟩ := h
    refine ⟨_, rfl, _, _, _, _, _, rfl, ha, T.cl_Place, T.na_Place_comings, rfl, c, rfl, ⟨_, .inl (.inl hc)⟩, fun D hD => lcF walk_list d.comings (by rw [List.length_map]) 2 (fun k v => v = .int k) (fun i H0 x H' a ha _ y => yAt fa2_map i H0 x H' a ha y) hD (fun H' s => .inl (.inl (s _ _ hc))) (fun k => some (.int ((m - k) / d.L + 1))) (by have := ok.nc; rw [sizeLine_eq]; omega) (fun k v H1 Kt Kf _ hv hs k1 _ => ?_) (fun _ => rfl) fun H' hs hD' => ⟨D, d.comings.map fun k => (m - k) / d.L + 1, rfl, .inl (.inl ?_), hq _ hs⟩⟩
    · subst hv
      exact stepY ⟨_, rfl, _, rfl, _, _, rfl, rfl, _, rfl, _, _, _, _, _, rfl, hs _ _ ha, T.cl_Place, T.na_Place_length, rfl, _, _, rfl, rfl, wide_div (by have := ok.L1; omega) (natAbs_L ok.L1 ok.L2) (by decide) (by decide), _, _, rfl, rfl, k1 _ _ (Same.refl _) rfl⟩
    · rw [hD', filterMap_some, List.map_map]
      rfl
abbrev N_Place_wanted : List Str := ["self", "clock", "pause", "left", "leaving", "back", "end"]
theorem sc_Place_wanted : FnScope N_Place_wanted ["self", "clock", "pause"] (defScope s_Place_wanted) := ⟨rfl, rfl, rfl, by decide +kernel, rfl, by decide +kernel, by decide +kernel⟩
theorem ok_Place_wanted {P : Program} {w : World} {K : PySem.W.Frag} {mg : Str → Option Value} {base : Heap} (T : Txt P K mg) : FnR P w K mg base CX0 2 (ma K (ga K "Place") "wanted") (sp_wanted K) := by
  have nd := sc_Place_wanted.nd
  refine fnR T.d_Place_wanted sc_Place_wanted (fun _ _ _ _ _ _ us hl => match us, hl with | [_, _, _], _ => rfl) (fun vs H Q E h => ?_) fun cdv A outer s H vs Q E hr h => ⟨_, (pss_cons (ps_set (i := 3) nd rfl (by first | exact Or.inl rfl | exact Or.inr rfl) (pe_callB call_lenS rfl T.f_len bt_len (pa_cons (pe_lc (own := [("leaving", 4)]) (g := gName 4) (tt := (tTest (tOp _ (tVar 4) (tVar 1)))) (te := (tC _)) rfl nd (pi_list (pe_fld (pv 0) rfl)) (blkOk_by (N := N_Place_wanted) (sc := defScope s_Place_wanted) (by decide +kernel)) (fun _ _ _ _ _ => pg_name (i := 4) nd rfl (by first | exact Or.inl rfl | exact Or.inr rfl)) (fun _ _ _ _ _ => (pts_one (pt_cmpR op_le (pv 4) (pv 1) (nomark _)))) (fun _ _ _ _ _ => pe_int)) pa_nil))) (pss_cons (ps_set (i := 5) nd rfl (by first | exact Or.inl rfl | exact Or.inr rfl) (pe_callB call_lenS rfl T.f_len bt_len (pa_cons (pe_lc (own := [("end", 6)]) (g := gName 6) (tt := (tTest (tOp _ (tVar 6) (tVar 1)))) (te := (tC _)) rfl nd (pi_list (pe_fld (pv 0) rfl)) (blkOk_by (N := N_Place_wanted) (sc := defScope s_Place_wanted) (by decide +kernel)) (fun _ _ _ _ _ => pg_name (i := 6) nd rfl (by first | exact Or.inl rfl | exact Or.inr rfl)) (fun _ _ _ _ _ => (pts_one (pt_cmpR op_le (pv 6) (pv 1) (nomark _)))) (fun _ _ _ _ _ => pe_int)) pa_nil))) (pss_one (ps_ret (pe_op op_sub (pe_op op_sub (pv 3) (pv 5)) (pe_methR (pv 0) T.cl_Place T.me_Place_came_by (ok_Place_came_by T) (hr.mono (by decide)) pass0 (pa_cons (pe_op op_sub (pv 1) (pv 2)) pa_nil))))))), ?_⟩
  · obtain ⟨_, _, _, _, rfl, _⟩ := h; rfl
  · obtain ⟨x, d, c, p, rfl, hpl, ok, hq⟩ := h
    obtain ⟨a, dx, l, e, k, rfl, ha, hl, he, hk⟩ := id hpl
    have one : ∀ (ls : List Int) (cl : Int) (D : Addr) (H' : Hp), H' D = some (HO.lst (ls.filterMap fun x => if decide (x ≤ cl) = true then some (V.int 1) else none)) → ∃ xs : List V, H' D = some (HO.lst xs) ∧ ((xs.length : Nat) : Int) = upTo ls cl := fun ls cl D H' hd => ⟨_, hd, by
      rw [filterMap_if (fun x => decide (x ≤ cl)) (fun _ => V.int 1), List.length_map]
      rfl⟩
    refine ⟨_, rfl, _, _, _, _, _, rfl, ha, T.cl_Place, T.na_Place_leavings, rfl, l, rfl, ⟨_, .inl (.inl hl)⟩, fun D hD => lcF walk_list d.leavings (by rw [List.length_map]) 4 (fun k v => v = .int k) (fun i H0 x H' a ha _ y => yAt fa2_map i H0 x H' a ha y) hD (fun H' s => .inl (.inl (s _ _ hl))) (fun x => if decide (x ≤ c) = true then some (.int 1) else none) (by have := ok.nl; rw [sizeLine_eq]; omega) (fun k v H1 Kt Kf _ hv hs k1 k2 => ?_) (fun _ => rfl) fun H1 s1 hD1 => ?_⟩
    · subst hv
      refine ⟨_, rfl, _, rfl, _, _, rfl, rfl, _, rfl, ?_⟩
      by_cases q : k ≤ c
      · rw [decide_eq_true q]
        exact iteT (k1 _ _ (Same.refl _) (by rw [decide_eq_true q]; rfl))
      · rw [decide_eq_false q]
        exact iteF (k2 _ (Same.refl _) (by rw [decide_eq_false q]; rfl))
    obtain ⟨xs, hxs, ex⟩ := one d.leavings c D H1 hD1
    refine ⟨D, xs, rfl, .inl (.inl (.inl hxs)), ?_⟩
    have he1 := s1 _ _ he
    refine ⟨_, rfl, _, _, _, _, _, rfl, s1 _ _ ha, T.cl_Place, T.na_Place_ends, rfl, e, rfl, ⟨_, .inl (.inl he1)⟩, fun D2 hD2 => lcF walk_list d.ends (by rw [List.length_map]) 6 (fun k v => v = .int k) (fun i H0 x H' a ha _ y => yAt fa2_map i H0 x H' a ha y) hD2 (fun H' s => .inl (.inl (s _ _ he1))) (fun x => if decide (x ≤ c) = true then some (.int 1) else none) (by have := ok.ne; rw [sizeLine_eq]; omega) (fun k v H1 Kt Kf _ hv hs k1 k2 => ?_) (fun _ => rfl) fun H2 s2 hD3 => ?_⟩
    · subst hv
      refine ⟨_, rfl, _, rfl, _, _, rfl, rfl, _, rfl, ?_⟩
      by_cases q : k ≤ c
      · rw [decide_eq_true q]
        exact iteT (k1 _ _ (Same.refl _) (by rw [decide_eq_true q]; rfl))
      · rw [decide_eq_false q]
        exact iteF (k2 _ (Same.refl _) (by rw [decide_eq_false q]; rfl))
    obtain ⟨ys, hys, ey⟩ := one d.ends c D2 H2 hD3
    have s12 := Same.trans s1 s2
    refine ⟨D2, ys, rfl, .inl (.inl (.inl hys)), _, rfl, _, rfl, _, _, rfl, rfl, _, rfl, a, dx, _, rfl, s12 _ _ ha, rfl, _, rfl, _, rfl, _, _, rfl, rfl, .ref a, d, _, rfl, hpl.s s12, ok, fun H3 s3 => ⟨_, _, rfl, rfl, ?_⟩⟩
    rw [ex, ey]
    exact hq _ (Same.trans s12 s3)
abbrev N_Place_stock : List Str := ["self", "pause", "clock"]
theorem sc_Place_stock : FnScope N_Place_stock ["self", "pause"] (defScope s_Place_stock) := ⟨rfl, rfl, rfl, by decide +kernel, rfl, by decide +kernel, by decide +kernel⟩
theorem ok_Place_stock {P : Program} {w : World} {K : PySem.W.Frag} {mg : Str → Option Value} {base : Heap} (T : Txt P K mg) : FnR P w K mg base CX0 3 (ma K (ga K "Place") "stock") (sp_stock K) := by
  have nd := sc_Place_stock.nd
  refine fnR T.d_Place_stock sc_Place_stock (fun _ _ _ _ _ _ us hl => match us, hl with | [_, _], _ => rfl) (fun vs H Q E h => ?_) fun cdv A outer s H vs Q E hr h => ⟨_, (pss_one (ps_ret (pe_callBK (cr_maxD hr) rfl T.f_max bt_max (pa_cons (pe_lc (own := [("clock", 2)]) (g := gName 2) (tt := tYes) (te := (tCB _ (tCons (tMethR (ga K "Place") "wanted" (sp_wanted K) E0 (tVar 0) (tCons (tVar 2) (tCons (tVar 1) tNil))) tNil))) rfl nd (pi_list (pe_fld (pv 0) rfl)) (blkOk_by (N := N_Place_stock) (sc := defScope s_Place_stock) (by decide +kernel)) (fun _ _ _ _ _ => pg_name (i := 2) nd rfl (by first | exact Or.inl rfl | exact Or.inr rfl)) (fun _ _ _ _ _ => pts_nil) (fun _ _ _ _ _ => (pe_callTy call_int1 rfl T.f_int bt_int (pa_cons (pe_methR (pv 0) T.cl_Place T.me_Place_wanted (ok_Place_wanted T) (hr.mono (by decide)) pass0 (pa_cons (pv 2) (pa_cons (pv 1) pa_nil))) pa_nil)))) pa_nil) (pk_cons pe_int pk_nil)))), ?_⟩
  · obtain ⟨_, _, _, rfl, _⟩ := h; rfl
  · obtain ⟨x, d, p, rfl, hpl, ok, hq⟩ := h
    obtain ⟨a, dx, l, e, k, rfl, ha, hl, he, hk⟩ := id hpl
    refine ⟨_, rfl, _, _, _, _, _, rfl, ha, T.cl_Place, T.na_Place_leavings, rfl, l, rfl, ⟨_, .inl (.inl hl)⟩, fun D hD => lcF walk_list d.leavings (by rw [List.length_map]) 2 (fun k v => v = .int k) (fun i H0 x H' a ha _ y => yAt fa2_map i H0 x H' a ha y) hD (fun H' s => .inl (.inl (s _ _ hl))) (fun c => some (.int (wantedAt d c p))) (by have := ok.nl; rw [sizeLine_eq]; omega) (fun c v H1 Kt Kf _ hv hs k1 _ => ?_) (fun _ => rfl) fun H1 s1 hD1 => ?_⟩
    · subst hv
      exact stepY ⟨_, rfl, a, dx, _, rfl, hs _ _ ha, rfl, _, rfl, _, rfl, .ref a, d, _, _, rfl, hpl.s hs, ok, fun H2 s2 => .inl ⟨_, rfl, k1 _ _ s2 rfl⟩⟩
    · refine ⟨D, d.leavings.map fun c => wantedAt d c p, 0, rfl, rfl, .inl (.inl ?_), hq _ s1⟩
      rw [hD1, filterMap_some, List.map_map]
      rfl
abbrev N_Place_spots : List Str := ["self", "found", "leaving", "clock", "spot"]
theorem sc_Place_spots : FnScope N_Place_spots ["self"] (defScope s_Place_spots) := ⟨rfl, rfl, rfl, by decide +kernel, rfl, by decide +kernel, by decide +kernel⟩
theorem ok_Place_spots {P : Program} {w : World} {K : PySem.W.Frag} {mg : Str → Option Value} {base : Heap} (T : Txt P K mg) : FnR P w K mg base CX0 1 (ma K (ga K "Place") "spots") (sp_spots K) := by
  have nd := sc_Place_spots.nd
  refine fnR T.d_Place_spots sc_Place_spots (fun _ _ _ _ _ _ us hl => match us, hl with | [_], _ => rfl) (fun vs H Q E h => ?_) fun cdv A outer s H vs Q E hr h => ⟨_, (pss_cons (ps_setLc2 (i := 1) (own := [("leaving", 2), ("clock", 3)]) (vs1 := [3]) (g := gName 2) (tt := tYes) (g1 := gName 3) (tt1 := tYes) (wi1 := (iList K (tFld K (tVar 0) "comings"))) (te := (tOp _ (tOp _ (tOp _ (tVar 2) (tVar 3)) (tFld K (tVar 0) "length")) (tC _))) rfl nd rfl rfl (sw_true rfl rfl rfl (by decide +kernel)) (pi_list (pe_fld (pv 0) rfl)) (blkOk_by (N := N_Place_spots) (sc := defScope s_Place_spots) (by decide +kernel)) (by decide) (fun _ _ _ _ _ => pg_name (i := 2) nd rfl (by first | exact Or.inl rfl | exact Or.inr rfl)) (fun _ _ _ _ _ => pts_nil) (fun _ _ _ _ _ => (pi_list (pe_fld (pv 0) rfl))) (fun _ _ _ _ _ => pg_name (i := 3) nd rfl (by first | exact Or.inl rfl | exact Or.inr rfl)) (fun _ _ _ _ _ => pts_nil) (fun _ _ _ _ _ => (pe_op op_add (pe_op op_mod (pe_op op_sub (pv 2) (pv 3)) (pe_fld (pv 0) rfl)) pe_int))) (pss_one (ps_ret (pe_callB (cr_sortSI rfl) rfl T.f_sorted bt_sorted (pa_cons (pe_callTy (cr_setL rfl) rfl T.f_set bt_set (pa_cons (pe_lc (own := [("spot", 4)]) (g := gName 4) (tt := tYes) (te := (tCB _ (tCons (tVar 4) tNil))) rfl nd (pi_list (pv 1)) (blkOk_by (N := N_Place_spots) (sc := defScope s_Place_spots) (by decide +kernel)) (fun _ _ _ _ _ => pg_name (i := 4) nd rfl (by first | exact Or.inl rfl | exact Or.inr rfl)) (fun _ _ _ _ _ => pts_nil) (fun _ _ _ _ _ => (pe_callTy call_int1 rfl T.f_int bt_int (pa_cons (pv 4) pa_nil)))) pa_nil)) pa_nil))))), ?_⟩
  · obtain ⟨_, _, rfl, _⟩ := h; rfl
  · obtain ⟨x, d, rfl, hpl, ok, hq⟩ := h
    obtain ⟨a, dx, l, e, k, rfl, ha, hl, he, hk⟩ := id hpl
    have hcount : ((d.leavings.flatMap fun _ => d.comings.map V.int).length) ≤ 1600 := by
      rw [List.length_flatMap]
      have e1 : (d.leavings.map fun _ => (d.comings.map V.int).length).sum = d.leavings.length * d.comings.length := by
        generalize d.leavings = ls
        induction ls with
        | nil => simp
        | cons y ls ih => rw [List.map_cons, List.sum_cons, ih, List.length_cons, Nat.succ_mul, List.length_map, Nat.add_comm]
      rw [e1]
      exact Nat.mul_le_mul ok.nl ok.nc
    refine ⟨_, rfl, _, _, _, _, _, rfl, ha, T.cl_Place, T.na_Place_leavings, rfl, l, rfl, ⟨_, .inl (.inl hl)⟩, fun D hD => lc2F walk_list d.leavings (by rw [List.length_map]) 2 3 (fun k v => v = .int k) (fun i H0 x H' a ha _ y => yAt fa2_map i H0 x H' a ha y) hD (fun H' s => .inl (.inl (s _ _ hl))) (fun _ => d.comings.map V.int) (fun lv y => match y with
      | .int c => .int ((lv - c) % d.L + 1)
      | _ => .non) (by rw [sizeLine_eq]; omega) (fun lv v H1 Kr _ hv hs hD1 hK => ?_) (fun lv v y H1 Kt _ hv hy hs hK => ?_) (fun _ => rfl) (fun _ _ => rfl) fun H1 s1 hD1 => ?_⟩
    · subst hv
      refine ⟨_, rfl, _, _, _, _, _, rfl, hs _ _ ha, T.cl_Place, T.na_Place_comings, rfl, k, rfl, ⟨_, .inl (.inl (hs _ _ hk))⟩, hK _ _ (Same.refl _) (inner_list (hs _ _ hk) fun z => ?_)⟩
      rw [z, hD] at hk
      cases hk
    · subst hv
      obtain ⟨c, hc, rfl⟩ := List.mem_map.mp hy
      exact ⟨_, rfl, _, rfl, _, _, rfl, rfl, _, rfl, _, _, _, _, _, rfl, hs _ _ ha, T.cl_Place, T.na_Place_length, rfl, _, _, rfl, rfl, by show (0 : Int) < d.L; have := ok.L1; omega, _, _, rfl, rfl, hK _ (Same.refl _)⟩
    have eAll : (d.leavings.flatMap fun lv => (d.comings.map V.int).map fun y => (match y with
      | .int c => .int ((lv - c) % d.L + 1)
      | _ => .non : V)) = (spotsAll d).map V.int := by
      unfold spotsAll
      rw [List.map_flatMap]
      congr 1
      funext lv
      rw [List.map_map, List.map_map]
      rfl
    have hD2 : H1 D = some (.lst ((spotsAll d).map V.int)) := hD1.trans (by rw [← eAll])
    have hal : (spotsAll d).length ≤ 1600 := by
      have e2 : ((spotsAll d).map V.int).length = (d.leavings.flatMap fun _ => d.comings.map V.int).length := by
        rw [← eAll, List.length_flatMap, List.length_flatMap]
        simp
      rw [List.length_map] at e2
      omega
    refine ⟨_, rfl, D, rfl, ⟨_, .inl (.inl hD2)⟩, fun D2 hD3 => lcF walk_list (spotsAll d) (by rw [List.length_map]) 4 (fun k v => v = .int k) (fun i H0 x H' a ha _ y => yAt fa2_map i H0 x H' a ha y) hD3 (fun H' s => .inl (.inl (s _ _ hD2))) (fun z => some (.int z)) (by rw [sizeLine_eq]; omega) (fun z v H2 Kt Kf _ hv hs k1 _ => ?_) (fun _ => rfl) fun H2 s2 hD4 => ?_⟩
    · subst hv
      exact stepY ⟨_, rfl, .inl ⟨_, rfl, k1 _ _ (Same.refl _) rfl⟩⟩
    rw [filterMap_some] at hD4
    refine ⟨D2, (spotsAll d).map Sum.inl, rfl, .inl (.inl ?_), ?_, fun q S n hq0 hS => ⟨q, S, n, rfl, upd_same, ?_, fun p2 ns hp2 hpw hns => ?_⟩⟩
    · rw [hD4, List.map_map]
      rfl
    · rw [List.length_map]
      show _ < 4096
      omega
    · intro key hk0
      obtain ⟨z, _, rfl⟩ := List.mem_map.mp ((hS key).mp hk0)
      exact ⟨z, rfl⟩
    · have h1 : Same H (upd H2 q (SetMO w q S n)) := same_up (Same.trans s1 s2) hq0
      refine hq _ p2 ns (same_up h1 hp2) (Same.free h1 hp2) upd_same ⟨hpw, fun z => ?_⟩
      rw [hns z, hS]
      constructor
      · intro h
        obtain ⟨z2, h2, e3⟩ := List.mem_map.mp h
        obtain rfl := Sum.inl.inj e3
        exact h2
      · exact fun h => List.mem_map.mpr ⟨z, h, rfl⟩
end K6
set_option Elab.async false
set_option linter.all false
set_option maxRecDepth 100000
set_option maxHeartbeats 4000000
namespace K6
open PySem PySem.Spec PyProof.Rows L2
open He (ga ma)

/-- o.m() by a positional promise -/
theorem pe_methR0 {X : Cx} {CX : CXT} {k : Nat} {C f : Addr} {m : Str} {sp : Sp} {E : XK} {o : Expr} {ta : TE} {apos pos : Pos} {pl : Sem Bool} (he : PE X o ta) (c : Cls X.K C) (hm : Meth X.K C m f) (F : FnR X.prog X.w X.K X.mg X.base CX k f sp) (hr : Room k X.A) (hx : Passes CX X E)
    (ht : eval (.Call (.Attribute o m apos) [] [] pos) X.env = (do
      let ov ← eval o X.env
      standAt apos.atName
      let (f, first) ← holding [ov] (getMethod ov m pl)
      callWith pos f first (backTo pos (starEach [] X.env)) (backToKw pos (keywordEach [] X.env))) := by rfl) :
    PE X (.Call (.Attribute o m apos) [] [] pos) (tMethR C m sp E ta tNil) := by
  refine ⟨fun pins s σ H Q I h => ?_⟩
  refine PySem.W.methodCall_KW (pl := pl) (thn (he.run pins s σ H _ I h) fun u s1 ⟨x, H1, I1, rx, a, dx, fs, ex, ea, l, q⟩ => ?_) ht
  subst ex
  obtain rfl : u = Value.ref a := rx
  refine getmeth_ok I1 ea c hm l ?_
  exact PySem.W.callWith_K0 (first := [.ref a]) I1.kIn hm.kp (wpAny_call (run_fnR (us := [.ref a]) (vs := [.ref a]) F hr hx I1 (.cons rfl .nil) q))
theorem ins_ne {H : Hp} {x a C C' dx dx' : Addr} {f : Str × V} {fs : List (Str × V)} (hx : H x = some (.ins C dx [])) (ha : H a = some (.ins C' dx' (f :: fs))) : a ≠ x := fun z => by
  rw [z, hx] at ha
  injection ha with ha
  injection ha with _ _ e3
  cases e3
theorem fa2_filter {α β : Type} {R : α → β → Prop} (P : α → Bool) : ∀ {l : List α} {m : List β}, Fa2 R l m → Fa2 R (l.filter P) ((l.zip m).filterMap fun q => if P q.1 = true then some q.2 else none)
  | [], [], _ => trivial
  | a :: l, b :: m, h => by
    have ih := fa2_filter P h.2
    rw [List.zip_cons_cons, List.filterMap_cons]
    cases e : P a with
    | true => simp only [List.filter_cons, e, if_true]; exact ⟨h.1, ih⟩
    | false => simp only [List.filter_cons, e, Bool.false_eq_true, if_false]; exact ih
  | [], _ :: _, h => h.elim
  | _ :: _, [], h => h.elim
def sp_Place_init (K : PySem.W.Frag) : Sp := fun vs H Q _ => ∃ x dx tb tab p, vs = [.ref x, tb, .str p] ∧ H x = some (.ins (ga K "Place") dx []) ∧ TabAt K H tab tb ∧ 1 ≤ tab.L ∧ tab.rows.length ≤ 40 ∧
  ∀ H', (∀ b o, b ≠ x → H b = some o → H' b = some o) → PlaceAt K H' (placeOf tab.L tab.rows p) (.ref x) → Q .non H'
def sp_stair_of (K : PySem.W.Frag) : Sp := fun vs H Q _ => ∃ tb tab p, vs = [tb, .str p] ∧ TabAt K H tab tb ∧ tab.rows.length ≤ 40 ∧ PlaceOk (placeOf tab.L tab.rows p) ∧ ∀ H' s y, Same H H' → StairAt K H' s y → StairOf (placeOf tab.L tab.rows p) s → Q y H'
def sp_stair (K : PySem.W.Frag) : Sp := fun vs H Q _ => ∃ tb tab p, vs = [tb, .str p] ∧ TabAt K H tab tb ∧ p ∈ tab.places ∧ tab.rows.length ≤ 40 ∧ PlaceOk (placeOf tab.L tab.rows p) ∧ ∀ H' s y, Same H H' → StairAt K H' s y → StairOf (placeOf tab.L tab.rows p) s → Q y H'
theorem comings_eq (L : Int) (p : Str) (rows : List Trip) : ((rows.filter fun t => decide (t.goal = p)).filter fun t => t.run).map (fun t => (t.leaves + t.takes) % L) = (rows.filter (isComing p)).map fun t => (t.leaves + t.takes) % L := by
  rw [List.filter_filter]
  congr 1
  apply List.filter_congr
  intro t _
  unfold isComing
  rw [Bool.and_comm]
theorem ends_eq (L : Int) (p : Str) (rows : List Trip) : ((rows.filter fun t => decide (t.goal = p)).filter fun t => !t.run).map (fun t => (t.leaves + t.takes) % L) = (rows.filter (isEnd p)).map fun t => (t.leaves + t.takes) % L := by
  rw [List.filter_filter]
  congr 1
  apply List.filter_congr
  intro t _
  unfold isEnd
  rw [Bool.and_comm]

abbrev N_Place_init : List Str := ["self", "table", "place", "trip", "ends"]
theorem sc_Place_init : FnScope N_Place_init ["self", "table", "place"] (defScope s_Place_init) := ⟨rfl, rfl, rfl, by decide +kernel, rfl, by decide +kernel, by decide +kernel⟩
theorem ok_Place_init {P : Program} {w : World} {K : PySem.W.Frag} {mg : Str → Option Value} {base : Heap} (T : Txt P K mg) : FnR P w K mg base CX0 2 (ma K (ga K "Place") "__init__") (sp_Place_init K) := by
  have nd := sc_Place_init.nd
  refine fnR T.d_Place_init sc_Place_init (fun _ _ _ _ _ _ us hl => match us, hl with | [_, _, _], _ => rfl) (fun vs H Q E h => ?_) fun cdv A outer s H vs Q E hr h => ⟨_, (pss_cons (ps_fld (pv 0) (pe_fld (pe_fld (pv 1) rfl) rfl) rfl) (pss_cons (ps_fld (pv 0) (pe_lc (own := [("trip", 3)]) (g := gName 3) (tt := (tTest (tOp _ (tFld K (tVar 3) "start") (tVar 2)))) (te := (tCB _ (tCons (tFld K (tVar 3) "leaves") tNil))) rfl nd (pi_own (ok_Table_iter T) (hr.mono (by decide)) ⟨T.fi_Table_iter, T.if_Table_iter⟩ (pv 1)) (blkOk_by (N := N_Place_init) (sc := defScope s_Place_init) (by decide +kernel)) (fun _ _ _ _ _ => pg_name (i := 3) nd rfl (by first | exact Or.inl rfl | exact Or.inr rfl)) (fun _ _ _ _ _ => (pts_one (pt_cmpR op_eq (pe_fld (pv 3) rfl) (pv 2) (nomark _)))) (fun _ _ _ _ _ => (pe_callTy call_int1 rfl T.f_int bt_int (pa_cons (pe_fld (pv 3) rfl) pa_nil)))) rfl) (pss_cons (ps_setLc (i := 4) (own := [("trip", 3)]) (g := gName 3) (tt := (tTest (tOp _ (tFld K (tVar 3) "goal") (tVar 2)))) (te := (tVar 3)) rfl nd rfl rfl (sw_true rfl rfl rfl (by decide +kernel)) (pi_own (ok_Table_iter T) (hr.mono (by decide)) ⟨T.fi_Table_iter, T.if_Table_iter⟩ (pv 1)) (blkOk_by (N := N_Place_init) (sc := defScope s_Place_init) (by decide +kernel)) (fun _ _ _ _ _ => pg_name (i := 3) nd rfl (by first | exact Or.inl rfl | exact Or.inr rfl)) (fun _ _ _ _ _ => (pts_one (pt_cmpR op_eq (pe_fld (pv 3) rfl) (pv 2) (nomark _)))) (fun _ _ _ _ _ => (pv 3))) (pss_cons (ps_fld (pv 0) (pe_lc (own := [("trip", 3)]) (g := gName 3) (tt := (tNot (tB (tCB (rIsi K) (tCons (tVar 3) (tCons (tC (.ref (ga K "Paused"))) tNil)))))) (te := (tOp _ (tOp _ (tFld K (tVar 3) "leaves") (tFld K (tVar 3) "takes")) (tFld K (tVar 0) "length"))) rfl nd (pi_list (pv 4)) (blkOk_by (N := N_Place_init) (sc := defScope s_Place_init) (by decide +kernel)) (fun _ _ _ _ _ => pg_name (i := 3) nd rfl (by first | exact Or.inl rfl | exact Or.inr rfl)) (fun _ _ _ _ _ => (pts_one (pt_not (pt_val (pe_callB call_isi rfl T.f_isinstance bt_isinstance (pa_cons (pv 3) (pa_cons (pe_glob (v := .ref (ga K "Paused")) rfl T.g_Paused rfl) pa_nil))))))) (fun _ _ _ _ _ => (pe_op op_mod (pe_op op_add (pe_fld (pv 3) rfl) (pe_fld (pv 3) rfl)) (pe_fld (pv 0) rfl)))) rfl) (pss_one (ps_fld (pv 0) (pe_lc (own := [("trip", 3)]) (g := gName 3) (tt := (tB (tCB (rIsi K) (tCons (tVar 3) (tCons (tC (.ref (ga K "Paused"))) tNil))))) (te := (tOp _ (tOp _ (tFld K (tVar 3) "leaves") (tFld K (tVar 3) "takes")) (tFld K (tVar 0) "length"))) rfl nd (pi_list (pv 4)) (blkOk_by (N := N_Place_init) (sc := defScope s_Place_init) (by decide +kernel)) (fun _ _ _ _ _ => pg_name (i := 3) nd rfl (by first | exact Or.inl rfl | exact Or.inr rfl)) (fun _ _ _ _ _ => (pts_one (pt_val (pe_callB call_isi rfl T.f_isinstance bt_isinstance (pa_cons (pv 3) (pa_cons (pe_glob (v := .ref (ga K "Paused")) rfl T.g_Paused rfl) pa_nil)))))) (fun _ _ _ _ _ => (pe_op op_mod (pe_op op_add (pe_fld (pv 3) rfl) (pe_fld (pv 3) rfl)) (pe_fld (pv 0) rfl)))) rfl)))))), ?_⟩
  · obtain ⟨_, _, _, _, _, rfl, _⟩ := h; rfl
  · obtain ⟨x, dx, tb, tab, p, rfl, hx, ⟨a, da, d, n, pl, r, ras, rfl, ha, hd, hn, hp, hr2, hf⟩, hL, hlen, hq⟩ := h
    obtain ⟨d1, dd, rfl, hd1⟩ := hd
    have ax : a ≠ x := ins_ne hx ha
    have d1x : d1 ≠ x := ins_ne hx hd1
    have rx : r ≠ x := fun z => by rw [z, hx] at hr2; cases hr2
    refine ⟨_, rfl, _, _, _, _, _, rfl, ha, T.cl_Table, T.na_Table_day, rfl, _, _, _, _, _, rfl, hd1, T.cl_Day, T.na_Day_length, rfl, _, rfl, _, _, _, _, rfl, hx, T.cl_Place, T.na_Place_length, by show (0 : Nat) < 1000; decide, ?_⟩
    generalize hH1 : upd H x (.ins (ga K "Place") dx (putF "length" (.int tab.L) [])) = H1
    have sx1 : SameX x H H1 := by rw [← hH1]; exact sameX_upd
    have hx1 : H1 x = some (.ins (ga K "Place") dx [("length", .int tab.L)]) := by rw [← hH1]; exact upd_same
    have hf1 : Fa2 (TripAt K H1) tab.rows ras := hf.imp fun _ _ q => q.sx hx sx1
    have ha1 := sx1 _ _ ax ha
    have hr1 := sx1 _ _ rx hr2
    -- self.leavings
    refine ⟨_, rfl, a, r, rfl, ⟨da, _, ras, ha1, rfl, .inl (.inl hr1)⟩, fun D hD => lcF walk_tup tab.rows hf.len.symm 3 (TripAt K H1) (fun i H0 v H' t ht _ y => yAt hf1 i H0 v H' t ht y) hD (fun H' s => .inl (.inl (s _ _ hr1))) (fun (t : Trip) => if decide (t.start = p) = true then some (.int t.leaves) else none) (by rw [sizeLine_eq]; omega) (fun t v H2 Kt Kf ht hv hs k1 k2 => ?_) (fun _ => rfl) fun H2 s2 hD2 => ?_⟩
    · obtain ⟨b, dt, rfl, hb⟩ := hv
      have hb1 := hs _ _ hb
      have C := tripC_ok T t
      refine ⟨_, rfl, _, _, _, _, _, rfl, hb1, C.cl, C.s, rfl, _, rfl, rfl, _, rfl, ?_⟩
      rw [bl_str]
      by_cases q : t.start = p
      · rw [decide_eq_true q]
        exact iteT ⟨_, rfl, _, _, _, _, _, rfl, hb1, C.cl, C.l, rfl, .inl ⟨_, rfl, k1 _ _ (Same.refl _) (by rw [decide_eq_true q]; rfl)⟩⟩
      · rw [decide_eq_false q]
        exact iteF (k2 _ (Same.refl _) (by rw [decide_eq_false q]; rfl))
    rw [filterMap_if (fun t : Trip => decide (t.start = p)) (fun t => V.int t.leaves)] at hD2
    have hx2 := s2 _ _ hx1
    refine ⟨_, rfl, _, _, _, _, rfl, hx2, T.cl_Place, T.na_Place_leavings, by show (1 : Nat) < 1000; decide, ?_⟩
    have Dx : D ≠ x := fun z => by rw [z, hx1] at hD; cases hD
    generalize hH3 : upd H2 x (.ins (ga K "Place") dx (putF "leavings" (.ref D) [("length", .int tab.L)])) = H3
    have sx3 : SameX x H1 H3 := by rw [← hH3]; exact sameX_trans (sameX_of s2) sameX_upd
    have hx3 : H3 x = some (.ins (ga K "Place") dx [("length", .int tab.L), ("leavings", .ref D)]) := by rw [← hH3]; exact upd_same
    have hD3 : H3 D = some (.lst ((tab.rows.filter fun t => decide (t.start = p)).map fun t => V.int t.leaves)) := by rw [← hH3, upd_ne Dx]; exact hD2
    have sx03 := sameX_trans sx1 sx3
    have hf3 : Fa2 (TripAt K H3) tab.rows ras := hf.imp fun _ _ q => q.sx hx sx03
    have ha3 := sx03 _ _ ax ha
    have hr3 := sx03 _ _ rx hr2
    -- ends
    refine ⟨_, rfl, a, r, rfl, ⟨da, _, ras, ha3, rfl, .inl (.inl hr3)⟩, fun D4 hD4 => lcF walk_tup (tab.rows.zip ras) (by rw [len_zip hf]; exact hf.len.symm) 3 (fun q v => v = q.2 ∧ TripAt K H3 q.1 v) (fun i H0 v H' t ht _ y => yAt (fa2_zip hf3) i H0 v H' t ht y) hD4 (fun H' s => .inl (.inl (s _ _ hr3))) (fun (q : Trip × V) => if decide (q.1.goal = p) = true then some q.2 else none) (by rw [len_zip hf, sizeLine_eq]; omega) (fun q v H2 Kt Kf hq2 hv hs k1 k2 => ?_) (fun _ => rfl) fun H4 s4 hD5 => ?_⟩
    · obtain ⟨rfl, b, dt, eb, hb⟩ := hv
      have hb1 := hs _ _ hb
      have C := tripC_ok T q.1
      refine ⟨_, rfl, b, _, _, _, _, eb, hb1, C.cl, C.g, rfl, _, rfl, rfl, _, rfl, ?_⟩
      rw [bl_str]
      by_cases e : q.1.goal = p
      · rw [decide_eq_true e]
        exact iteT ⟨_, rfl, k1 _ _ (Same.refl _) (by rw [decide_eq_true e]; rfl)⟩
      · rw [decide_eq_false e]
        exact iteF (k2 _ (Same.refl _) (by rw [decide_eq_false e]; rfl))
    have hx4 := s4 _ _ hx3
    have hes : Fa2 (TripAt K H4) (tab.rows.filter fun t => decide (t.goal = p)) ((tab.rows.zip ras).filterMap fun q => if decide (q.1.goal = p) = true then some q.2 else none) := (fa2_filter (fun t : Trip => decide (t.goal = p)) hf3).imp fun _ _ q => q.si (SameI.of s4)
    generalize hg : ((tab.rows.zip ras).filterMap fun (q : Trip × V) => if decide (q.1.goal = p) = true then some q.2 else none) = es at hD5 hes
    have hel : (tab.rows.filter fun t => decide (t.goal = p)).length ≤ 40 := Nat.le_trans (List.length_filter_le _ _) hlen
    have D4x : D4 ≠ x := fun z => by rw [z, hx3] at hD4; cases hD4
    generalize hge : (tab.rows.filter fun t => decide (t.goal = p)) = re at hes hel
    -- self.ends
    refine ⟨_, rfl, D4, rfl, ⟨_, .inl (.inl hD5)⟩, fun D6 hD6 => lcF walk_list re hes.len.symm 3 (TripAt K H4) (fun i H0 v H' t ht _ y => yAt hes i H0 v H' t ht y) hD6 (fun H' s => .inl (.inl (s _ _ hD5))) (fun (t : Trip) => if (!t.run) = true then some (.int ((t.leaves + t.takes) % tab.L)) else none) (by rw [sizeLine_eq]; omega) (fun t v H5 Kt Kf ht hv hs k1 k2 => ?_) (fun _ => rfl) fun H5 s5 hD7 => ?_⟩
    · obtain ⟨b, dt, rfl, hb⟩ := hv
      have hb1 := hs _ _ hb
      have C := tripC_ok T t
      refine ⟨_, rfl, _, _, _, _, _, rfl, .own _, ty_trip T hb1, kit_paused T t, _, rfl, ?_⟩
      cases q : t.run with
      | false => exact iteT ⟨_, rfl, _, _, _, _, _, rfl, hb1, C.cl, C.l, rfl, _, rfl, _, _, _, _, _, rfl, hb1, C.cl, C.t, rfl, _, _, rfl, rfl, _, rfl, _, _, _, _, _, rfl, hs _ _ hx4, T.cl_Place, T.na_Place_length, rfl, _, _, rfl, rfl, by show (0 : Int) < tab.L; omega, k1 _ _ (Same.refl _) (by rw [q]; rfl)⟩
      | true => exact iteF (k2 _ (Same.refl _) (by rw [q]; rfl))
    rw [filterMap_if (fun t : Trip => !t.run) (fun t => V.int ((t.leaves + t.takes) % tab.L))] at hD7
    have hx5 := s5 _ _ hx4
    refine ⟨_, rfl, _, _, _, _, rfl, hx5, T.cl_Place, T.na_Place_ends, by show (2 : Nat) < 1000; decide, ?_⟩
    have D6x : D6 ≠ x := fun z => by rw [z, hx4] at hD6; cases hD6
    generalize hH6 : upd H5 x (.ins (ga K "Place") dx (putF "ends" (.ref D6) [("length", .int tab.L), ("leavings", .ref D)])) = H6
    have sx6 : SameX x H4 H6 := by rw [← hH6]; exact sameX_trans (sameX_of s5) sameX_upd
    have hx6 : H6 x = some (.ins (ga K "Place") dx [("length", .int tab.L), ("leavings", .ref D), ("ends", .ref D6)]) := by rw [← hH6]; exact upd_same
    have hD8 := (show H6 D6 = H5 D6 by rw [← hH6, upd_ne D6x]).trans hD7
    have hes6 : Fa2 (TripAt K H6) re es := hes.imp fun t y ⟨b, dt, e, hb⟩ => ⟨b, dt, e, sx6 _ _ (fun z => by
      rw [z, hx4] at hb
      injection hb with hb
      injection hb with _ _ e3
      exact absurd (congrArg List.length e3) (by show (2 : Nat) ≠ 5; decide)) hb⟩
    have hD56 := sx6 _ _ D4x hD5
    -- self.comings
    refine ⟨_, rfl, D4, rfl, ⟨_, .inl (.inl hD56)⟩, fun D9 hD9 => lcF walk_list re hes.len.symm 3 (TripAt K H6) (fun i H0 v H' t ht _ y => yAt hes6 i H0 v H' t ht y) hD9 (fun H' s => .inl (.inl (s _ _ hD56))) (fun (t : Trip) => if t.run = true then some (.int ((t.leaves + t.takes) % tab.L)) else none) (by rw [sizeLine_eq]; omega) (fun t v H5 Kt Kf ht hv hs k1 k2 => ?_) (fun _ => rfl) fun H7 s7 hD10 => ?_⟩
    · obtain ⟨b, dt, rfl, hb⟩ := hv
      have hb1 := hs _ _ hb
      have C := tripC_ok T t
      refine ⟨_, rfl, _, _, _, _, _, rfl, .own _, ty_trip T hb1, kit_paused T t, _, rfl, ?_⟩
      cases q : t.run with
      | true => exact iteT ⟨_, rfl, _, _, _, _, _, rfl, hb1, C.cl, C.l, rfl, _, rfl, _, _, _, _, _, rfl, hb1, C.cl, C.t, rfl, _, _, rfl, rfl, _, rfl, _, _, _, _, _, rfl, hs _ _ hx6, T.cl_Place, T.na_Place_length, rfl, _, _, rfl, rfl, by show (0 : Int) < tab.L; omega, k1 _ _ (Same.refl _) (by rw [q]; rfl)⟩
      | false => exact iteF (k2 _ (Same.refl _) (by rw [q]; rfl))
    rw [filterMap_if (fun t : Trip => t.run) (fun t => V.int ((t.leaves + t.takes) % tab.L))] at hD10
    have hx7 := s7 _ _ hx6
    refine ⟨_, rfl, _, _, _, _, rfl, hx7, T.cl_Place, T.na_Place_comings, by show (3 : Nat) < 1000; decide, ?_⟩
    have D9x : D9 ≠ x := fun z => by rw [z, hx6] at hD9; cases hD9
    have fin : SameX x H6 (upd H7 x (.ins (ga K "Place") dx (putF "comings" (.ref D9) [("length", .int tab.L), ("leavings", .ref D), ("ends", .ref D6)]))) := sameX_trans (sameX_of s7) sameX_upd
    have sx46 := sameX_trans (sameX_of s4) (sameX_trans sx6 fin)
    refine hq _ (fun b o hb e => sx46 b o hb (sx03 b o hb e)) ⟨x, dx, D, D6, D9, rfl, upd_same, ?_, ?_, ?_⟩
    · rw [sx46 _ _ Dx hD3]
      show _ = some (HO.lst (((tab.rows.filter fun t => decide (t.start = p)).map (·.leaves)).map V.int))
      rw [List.map_map]
      rfl
    · rw [fin _ _ D6x hD8]
      show _ = some (HO.lst (((tab.rows.filter (isEnd p)).map fun t => (t.leaves + t.takes) % tab.L).map V.int))
      rw [← ends_eq, hge, List.map_map]
      rfl
    · rw [upd_ne D9x, hD10]
      show _ = some (HO.lst (((tab.rows.filter (isComing p)).map fun t => (t.leaves + t.takes) % tab.L).map V.int))
      rw [← comings_eq, hge, List.map_map]
      rfl
end K6
set_option Elab.async false
set_option linter.all false
set_option maxRecDepth 100000
set_option maxHeartbeats 4000000
namespace K6
open PySem PySem.Spec PyProof.Rows L2
open He (ga ma)

theorem flatten_rep {α : Type} (x : α) : ∀ n : Nat, (List.replicate n [x]).flatten = List.replicate n x
  | 0 => rfl
  | n + 1 => by rw [List.replicate_succ, List.flatten_cons, flatten_rep x n]; rfl

abbrev N_stair_of : List Str := ["table", "place", "here", "base", "rises", "spot"]
theorem sc_stair_of : FnScope N_stair_of ["table", "place"] (defScope s_stair_of) := ⟨rfl, rfl, rfl, by decide +kernel, rfl, by decide +kernel, by decide +kernel⟩
theorem ok_stair_of {P : Program} {w : World} {K : PySem.W.Frag} {mg : Str → Option Value} {base : Heap} (T : Txt P K mg) : FnR P w K mg base CX0 4 (ga K "stair_of") (sp_stair_of K) := by
  have nd := sc_stair_of.nd
  refine fnR T.d_stair_of sc_stair_of (fun _ _ _ _ _ _ us hl => match us, hl with | [_, _], _ => rfl) (fun vs H Q E h => ?_) fun cdv A outer s H vs Q E hr h => ⟨_, (pss_cons (ps_set (i := 2) nd rfl (by first | exact Or.inl rfl | exact Or.inr rfl) (StX.pe_makeR T.mk_Place (ok_Place_init T) (hr.mono (by decide)) rfl T.g_Place pass0 (pa_cons (pv 0) (pa_cons (pv 1) pa_nil)))) (pss_cons (ps_par (i := 3) (j := 4) rfl nd rfl rfl (by decide) rfl rfl (pa_cons (pe_methR (pv 2) T.cl_Place T.me_Place_stock (ok_Place_stock T) (hr.mono (by decide)) pass0 (pa_cons pe_int pa_nil)) (pa_cons (pe_lst pa_nil) pa_nil)) rfl) (pss_cons (ps_for PassesOwn.never rfl (pi_list (pe_methR0 (pv 2) T.cl_Place T.me_Place_spots (ok_Place_spots T) (hr.mono (by decide)) pass0)) (pg_name (i := 5) nd rfl (by first | exact Or.inl rfl | exact Or.inr rfl)) (pss_one (ps_set (i := 4) nd rfl (by first | exact Or.inl rfl | exact Or.inr rfl) (pe_op op_cat (pv 4) (pe_op op_rep (pe_lst (pa_cons (pv 5) pa_nil)) (pe_op op_sub (pe_op op_sub (pe_methR (pv 2) T.cl_Place T.me_Place_stock (ok_Place_stock T) (hr.mono (by decide)) pass0 (pa_cons (pv 5) pa_nil)) (pv 3)) (pe_callB call_lenS rfl T.f_len bt_len (pa_cons (pv 4) pa_nil)))))))) (pss_one (ps_ret (StX.pe_makeR T.mk_Stair (ok_Stair_init T) (hr.mono (by decide)) rfl T.g_Stair pass0 (pa_cons (pe_fld (pv 2) rfl) (pa_cons (pv 3) (pa_cons (pe_callTy call_tuple_of rfl T.f_tuple bt_tuple (pa_cons (pv 4) pa_nil)) (pa_cons (pe_callB call_lenS rfl T.f_len bt_len (pa_cons (pe_fld (pv 2) rfl) pa_nil)) pa_nil)))))))))), ?_⟩
  · obtain ⟨_, _, _, rfl, _⟩ := h; rfl
  · obtain ⟨tb, tab, p, rfl, ht, hlen, ok, hq⟩ := h
    refine ⟨_, rfl, _, rfl, fun x dx nx nd2 ne => ⟨x, dx, tb, tab, p, rfl, upd_same, ht.si (SameI.of (same_up (same_upd nd2) (by rw [upd_ne (Ne.symm ne)]; exact nx))), ok.L1, hlen, fun H1 k1 hpl => ⟨rfl, ?_⟩⟩⟩
    have s1 : Same H H1 := init_same nx nd2 k1
    generalize hd : placeOf tab.L tab.rows p = d at ok hpl hq
    obtain ⟨a, da, l, e, c, ea, h1, h2, h3, h4⟩ := id hpl
    cases ea
    have hL := ok.L1
    refine ⟨_, rfl, x, da, _, rfl, h1, rfl, .ref x, d, 0, rfl, hpl, ok, fun H2 s2 => ⟨(by show 0 ≤ sizeLine; decide), fun rl hrl => ⟨_, _, rfl, ?_⟩⟩⟩
    have s3 : Same H1 (upd H2 rl (.lst [])) := same_up s2 hrl
    generalize hH3 : upd H2 rl (.lst []) = H3 at s3
    have hrl3 : H3 rl = some (.lst []) := by rw [← hH3]; exact upd_same
    refine ⟨_, rfl, x, da, _, rfl, s3 _ _ h1, rfl, .ref x, d, rfl, hpl.s s3, ok, fun H4 q ns s4 hq0 hq4 hns => ⟨q, rfl, ⟨_, .inl (.inl hq4)⟩, ?_⟩⟩
    refine for_list (K := K) (fun i σ H' => Same H4 H' ∧ ∃ r u, σ = [some tb, some (.str p), some (.ref x), some (.int (stockAt d 0)), some (.ref r), u] ∧ H' r = some (.lst (((ns.take i).foldl (riseStep d (stockAt d 0)) []).map V.int))) ⟨Same.refl _, _, _, rfl, s4 _ _ hrl3⟩ (fun i σ H' _ h => .inl (.inl (h.1 _ _ hq4))) (fun i v σ H5 hv hpv => ?_) fun σ H5 hpv => ?_
    · obtain ⟨s5, r, u, rfl, hr5⟩ := hpv
      obtain ⟨z, hz, rfl⟩ : ∃ z, ns[i]? = some z ∧ v = .int z := by
        rw [List.getElem?_map] at hv
        cases e : ns[i]? with
        | none => rw [e] at hv; cases hv
        | some z => rw [e] at hv; exact ⟨z, rfl, (Option.some.inj hv).symm⟩
      have hzb := spot_bound ok ((hns.2 z).mp (List.mem_of_getElem? hz))
      have hacc := rises_len ok (ns.take i) [] (fun y hy => spot_bound ok ((hns.2 y).mp (List.mem_of_mem_take hy))) (by simp)
      have b1 := stock_bound ok (p := z) (by omega)
      have b0 := stock_bound ok (p := 0) (by omega)
      have s15 : Same H1 H5 := Same.trans s3 (Same.trans s4 s5)
      generalize hacc2 : (ns.take i).foldl (riseStep d (stockAt d 0)) [] = acc at hr5 hacc
      refine ⟨_, rfl, _, rfl, (by show 1 ≤ sizeLine; decide), fun q1 hq1 => ⟨_, rfl, x, da, _, rfl, same_upd hq1 _ _ (s15 _ _ h1), rfl, _, rfl, .ref x, d, z, rfl, hpl.s (same_up s15 hq1), ok, fun H6 s6 => ?_⟩⟩
      have s56 : Same H5 H6 := Same.trans (same_upd hq1) s6
      have hq16 : H6 q1 = some (.lst [.int z]) := s6 _ _ upd_same
      refine ⟨_, rfl, _, _, rfl, rfl, _, rfl, r, _, rfl, .inl (.inl (.inl (s56 _ _ hr5))), _, _, rfl, rfl, q1, _, _, rfl, rfl, hq16, ?_, ?_, ?_, fun q2 hq2 => ⟨r, q2, _, _, rfl, rfl, same_upd hq2 _ _ (s56 _ _ hr5), upd_same, ?_, fun q3 hq3 => ?_⟩⟩
      · rw [List.length_map]; omega
      · rw [List.length_map]; omega
      · rw [List.length_map, sizeLine_eq]
        show 1 * (stockAt d z - stockAt d 0 - (acc.length : Nat)).toNat ≤ _
        omega
      · rw [List.length_map, flatten_rep, List.length_replicate, sizeLine_eq]
        omega
      · have s7 : Same H5 (upd (upd H6 q2 (.lst (List.replicate (stockAt d z - stockAt d 0 - ((acc.map V.int).length : Nat)).toNat [V.int z]).flatten)) q3 (.lst (acc.map V.int ++ (List.replicate (stockAt d z - stockAt d 0 - ((acc.map V.int).length : Nat)).toNat [V.int z]).flatten))) := same_up (same_up s56 hq2) hq3
        refine ⟨Same.trans s5 s7, q3, _, rfl, ?_⟩
        rw [upd_same, List.take_add_one, hz]
        show _ = some (HO.lst ((((ns.take i) ++ [z]).foldl (riseStep d (stockAt d 0)) []).map V.int))
        rw [List.foldl_append, hacc2]
        show _ = some (HO.lst ((riseStep d (stockAt d 0) acc z).map V.int))
        unfold riseStep
        rw [List.map_append, List.map_replicate, flatten_rep, List.length_map]
    · obtain ⟨s5, r, u, rfl, hr5⟩ := hpv
      rw [List.length_map, List.take_length] at hr5
      have s15 : Same H1 H5 := Same.trans s3 (Same.trans s4 s5)
      refine ⟨_, rfl, _, _, _, _, _, rfl, s15 _ _ h1, T.cl_Place, T.na_Place_length, rfl, _, rfl, _, rfl, r, _, rfl, .inl ⟨.inl (.inl hr5), fun t1 ht1 => ?_⟩⟩
      have s6 := same_up (o := .tup ((ns.foldl (riseStep d (stockAt d 0)) []).map V.int)) s15 ht1
      refine ⟨_, rfl, _, _, _, _, _, rfl, s6 _ _ h1, T.cl_Place, T.na_Place_comings, rfl, c, _, rfl, .inl (.inl (.inl (s6 _ _ h4))), fun y dy ny nd3 ne2 => ?_⟩
      refine ⟨y, dy, _, _, _, _, rfl, upd_same, fun H7 k7 hy7 => ⟨rfl, ?_⟩⟩
      have s7 := init_same ny nd3 k7
      refine hq H7 ⟨d.L, stockAt d 0, risesBy d ns, (d.comings.length : Nat)⟩ _ (Same.trans s1 (Same.trans s6 s7)) ⟨y, dy, t1, rfl, ?_, s7 _ _ upd_same⟩ ⟨rfl, rfl, ⟨ns, hns, rfl⟩, rfl⟩
      rw [hy7, List.length_map]
      rfl

abbrev N_stair : List Str := ["table", "place"]
theorem sc_stair : FnScope N_stair ["table", "place"] (defScope s_stair) := ⟨rfl, rfl, rfl, by decide +kernel, rfl, by decide +kernel, by decide +kernel⟩
theorem ok_stair {P : Program} {w : World} {K : PySem.W.Frag} {mg : Str → Option Value} {base : Heap} (T : Txt P K mg) : FnR P w K mg base CX0 5 (ga K "stair") (sp_stair K) := by
  have nd := sc_stair.nd
  refine fnR T.d_stair sc_stair (fun _ _ _ _ _ _ us hl => match us, hl with | [_, _], _ => rfl) (fun vs H Q E h => ?_) fun cdv A outer s H vs Q E hr h => ⟨_, (pss_cons (ps_expr (pe_cal (ok_need_table T) (hr.mono (by decide)) (kpOf T.d_need_table) rfl T.g_need_table pass0 (pa_cons (pv 0) pa_nil))) (pss_cons (ps_expr (pe_cal (ok_need_place T) (hr.mono (by decide)) (kpOf T.d_need_place) rfl T.g_need_place pass0 (pa_cons (pv 0) (pa_cons (pv 1) pa_nil)))) (pss_one (ps_ret (pe_cal (ok_stair_of T) (hr.mono (by decide)) (kpOf T.d_stair_of) rfl T.g_stair_of pass0 (pa_cons (pv 0) (pa_cons (pv 1) pa_nil))))))), ?_⟩
  · obtain ⟨_, _, _, rfl, _⟩ := h; rfl
  · obtain ⟨tb, tab, p, rfl, ht, hp, hlen, ok, hq⟩ := h
    obtain ⟨a, da, d, n, pl, r, ras, rfl, ha, hrest⟩ := id ht
    exact ⟨_, rfl, a, da, _, rfl, ha, _, rfl, _, rfl, _, tab, p, rfl, ht, hp, _, rfl, _, rfl, _, tab, p, rfl, ht, hlen, ok, hq⟩
end K6
set_option Elab.async false
set_option linter.all false
set_option maxRecDepth 100000
set_option maxHeartbeats 4000000
namespace K6
open PySem PySem.Spec PyProof.Rows L2
open He (ga ma)

def callOf (s : Stair) (m : Int) : Int := s.base + m / s.length * s.step + upTo s.rises (m % s.length)
def longestOf (s : Stair) (n : Int) : Option Int := if s.step = 0 then none else some (s.rises.getD ((n - s.base) % s.step).toNat 0 + s.length * ((n - s.base) / s.step) - 1)
def optV : Option Int → V
  | none => .non
  | some i => .int i
/-- a stair that the machine's rules can hold -/
structure StairOk (s : Stair) : Prop where
  l1 : 1 ≤ s.length
  l2 : s.length ≤ 1000000000000
  n : s.rises.length ≤ 200
  st : s.step = (s.rises.length : Nat)
  so : s.rises.Pairwise (· ≤ ·)
def sp_Stair_call (K : PySem.W.Frag) : Sp := fun vs H Q _ => ∃ x s m, vs = [x, .int m] ∧ StairAt K H s x ∧ StairOk s ∧ 0 ≤ m ∧ m < 2 ^ 63 ∧ ∀ H', Same H H' → Q (.int (callOf s m)) H'
def sp_longest (K : PySem.W.Frag) : Sp := fun vs H Q _ => ∃ x s n, vs = [x, .int n] ∧ StairAt K H s x ∧ StairOk s ∧ s.base ≤ n ∧ n - s.base < 2 ^ 63 ∧ Q (optV (longestOf s n)) H
/-- two stairs of the same rises -/
def sp_over (K : PySem.W.Frag) : Sp := fun vs H Q _ => ∃ x y s t, vs = [x, y] ∧ StairAt K H s x ∧ StairAt K H t y ∧ StairOk s ∧ s.rises = t.rises ∧ ∀ H' p, Same H H' → H' p = some (.tup [.int (s.base - t.base), .int 0]) → Q (.ref p) H'
def sp_sub (K : PySem.W.Frag) : Sp := fun vs H Q _ => ∃ x y s t, vs = [x, y] ∧ StairAt K H s x ∧ StairAt K H t y ∧ StairOk s ∧ s.rises = t.rises ∧ s.length = t.length ∧ s.step = t.step ∧ ∀ H', Same H H' → Q (.int (s.base - t.base)) H'
theorem step_small {s : Stair} (o : StairOk s) : s.step.natAbs < 2 ^ 64 := by
  have := o.st; have := o.n; omega
theorem upTo_sorted {l : List Int} (h : l.Pairwise (· ≤ ·)) {i : Nat} {x : Int} (hx : l[i]? = some x) : ((i : Nat) : Int) + 1 ≤ upTo l x := by
  have hi : i < l.length := (List.getElem?_eq_some_iff.mp hx).1
  have e : l = l.take (i + 1) ++ l.drop (i + 1) := (List.take_append_drop _ _).symm
  unfold upTo
  rw [e, List.filter_append, List.length_append]
  have h1 : (l.take (i + 1)).filter (fun y => decide (y ≤ x)) = l.take (i + 1) := by
    rw [List.filter_eq_self]
    intro y hy
    obtain ⟨j, hj, rfl⟩ := List.mem_take_iff_getElem.mp hy
    have hx2 : l[i] = x := by
      have := List.getElem?_eq_getElem hi
      rw [this] at hx
      exact Option.some.inj hx
    rcases Nat.lt_or_ge j i with q | q
    · have := List.pairwise_iff_getElem.mp h j i (by omega) hi q
      rw [hx2] at this
      exact decide_eq_true this
    · have e2 : j = i := by omega
      subst e2
      rw [hx2]
      exact decide_eq_true (Int.le_refl x)
  rw [h1, List.length_take]
  omega

abbrev N_Stair_call : List Str := ["self", "m", "days", "rest", "rise"]
theorem sc_Stair_call : FnScope N_Stair_call ["self", "m"] (defScope s_Stair_call) := ⟨rfl, rfl, rfl, by decide +kernel, rfl, by decide +kernel, by decide +kernel⟩
theorem ok_Stair_call {P : Program} {w : World} {K : PySem.W.Frag} {mg : Str → Option Value} {base : Heap} (T : Txt P K mg) : FnR P w K mg base CX0 2 (ma K (ga K "Stair") "__call__") (sp_Stair_call K) := by
  have nd := sc_Stair_call.nd
  refine fnR T.d_Stair_call sc_Stair_call (fun _ _ _ _ _ _ us hl => match us, hl with | [_, _], _ => rfl) (fun vs H Q E h => ?_) fun cdv A outer s H vs Q E hr h => ⟨_, (pss_cons (ps_if (PW.pt (pw_or (pt_not (pt_val (pe_cal (ok_is_integer T) (hr.mono (by decide)) (kpOf T.d_is_integer) rfl T.g_is_integer pass0 (pa_cons (pv 1) pa_nil)))) (pw_or1 (pt_cmpR op_lt (pv 1) pe_int (nomark _))))) pss_never pss_nil) (pss_cons (ps_asg (pe_tup (pa_cons (pe_op op_fdivW (pv 1) (pe_fld (pv 0) rfl)) (pa_cons (pe_op op_mod (pv 1) (pe_fld (pv 0) rfl)) pa_nil))) (pg_tup rfl (pgs_cons (pg_name (i := 2) nd rfl (by first | exact Or.inl rfl | exact Or.inr rfl)) (pgs_cons (pg_name (i := 3) nd rfl (by first | exact Or.inl rfl | exact Or.inr rfl)) pgs_nil)))) (pss_one (ps_ret (pe_op op_add (pe_op op_add (pe_fld (pv 0) rfl) (pe_op op_mulW (pv 2) (pe_fld (pv 0) rfl))) (pe_callB call_lenS rfl T.f_len bt_len (pa_cons (pe_lc (own := [("rise", 4)]) (g := gName 4) (tt := (tTest (tOp _ (tVar 4) (tVar 3)))) (te := (tC _)) rfl nd (pi_tup (pe_fld (pv 0) rfl)) (blkOk_by (N := N_Stair_call) (sc := defScope s_Stair_call) (by decide +kernel)) (fun _ _ _ _ _ => pg_name (i := 4) nd rfl (by first | exact Or.inl rfl | exact Or.inr rfl)) (fun _ _ _ _ _ => (pts_one (pt_cmpR op_le (pv 4) (pv 3) (nomark _)))) (fun _ _ _ _ _ => pe_int)) pa_nil))))))), ?_⟩
  · obtain ⟨_, _, _, rfl, _⟩ := h; rfl
  · obtain ⟨x, st, m, rfl, ⟨a, da, r, rfl, ha, hr2⟩, ok, h0, h63, hq⟩ := h
    have hl := natAbs_L ok.l1 ok.l2
    have l1 := ok.l1
    refine ⟨_, rfl, _, rfl, _, rfl, iteF ⟨_, rfl, _, _, rfl, rfl, _, rfl, ?_⟩⟩
    rw [show decide (m < 0) = false from decide_eq_false (by omega)]
    refine iteF ⟨_, rfl, _, rfl, _, _, _, _, _, rfl, ha, T.cl_Stair, T.na_Stair_length, rfl, _, _, rfl, rfl, wide_div (by omega) hl (by decide) (by decide), _, rfl, _, rfl, _, _, _, _, _, rfl, ha, T.cl_Stair, T.na_Stair_length, rfl, _, _, rfl, rfl, by show (0 : Int) < st.length; omega, (by show 2 ≤ sizeLine; decide), fun q hq2 => ⟨q, _, rfl, .inl (.inl upd_same), rfl, _, _, rfl, _, _, rfl, rfl, ?_⟩⟩
    have s1 := same_upd (o := .tup [V.int (m / st.length), V.int (m % st.length)]) hq2
    have hm1 : (m / st.length).natAbs < 2 ^ 64 := by
      have h1 := Int.ediv_nonneg h0 (show 0 ≤ st.length by omega)
      have h2 := Int.ediv_le_self st.length h0
      have : (2 : Int) ^ 63 < 2 ^ 64 := by decide
      omega
    have hn := ok.n
    refine ⟨_, rfl, _, _, _, _, _, rfl, s1 _ _ ha, T.cl_Stair, T.na_Stair_base, rfl, _, rfl, _, rfl, _, _, _, _, _, rfl, s1 _ _ ha, T.cl_Stair, T.na_Stair_step, rfl, _, _, rfl, rfl, wide_mul hm1 (step_small ok) (by decide) (by decide) (by decide), _, _, rfl, rfl, _, rfl, _, _, _, _, _, rfl, s1 _ _ ha, T.cl_Stair, T.na_Stair_rises, rfl, r, rfl, ⟨_, .inl (.inl (s1 _ _ hr2))⟩, fun D hD => lcF walk_tup st.rises (by rw [List.length_map]) 4 (fun k v => v = .int k) (fun i H0 x H' a ha _ y => yAt fa2_map i H0 x H' a ha y) hD (fun H' s => .inl (.inl (s _ _ (s1 _ _ hr2)))) (fun x => if decide (x ≤ m % st.length) = true then some (.int 1) else none) (by rw [sizeLine_eq]; omega) (fun k v H1 Kt Kf _ hv hs k1 k2 => ?_) (fun _ => rfl) fun H1 s2 hD1 => ?_⟩
    · subst hv
      refine ⟨_, rfl, _, rfl, _, _, rfl, rfl, _, rfl, ?_⟩
      by_cases q : k ≤ m % st.length
      · rw [decide_eq_true q]
        exact iteT (k1 _ _ (Same.refl _) (by rw [decide_eq_true q]; rfl))
      · rw [decide_eq_false q]
        exact iteF (k2 _ (Same.refl _) (by rw [decide_eq_false q]; rfl))
    refine ⟨D, _, rfl, .inl (.inl (.inl hD1)), _, _, rfl, rfl, ?_⟩
    rw [filterMap_if (fun x => decide (x ≤ m % st.length)) (fun _ => V.int 1), List.length_map]
    exact hq _ (Same.trans s1 s2)
abbrev N_Stair_longest_pause : List Str := ["self", "number", "over"]
theorem sc_Stair_longest_pause : FnScope N_Stair_longest_pause ["self", "number"] (defScope s_Stair_longest_pause) := ⟨rfl, rfl, rfl, by decide +kernel, rfl, by decide +kernel, by decide +kernel⟩
theorem ok_Stair_longest_pause {P : Program} {w : World} {K : PySem.W.Frag} {mg : Str → Option Value} {base : Heap} (T : Txt P K mg) : FnR P w K mg base CX0 1 (ma K (ga K "Stair") "longest_pause") (sp_longest K) := by
  have nd := sc_Stair_longest_pause.nd
  refine fnR T.d_Stair_longest_pause sc_Stair_longest_pause (fun _ _ _ _ _ _ us hl => match us, hl with | [_, _], _ => rfl) (fun vs H Q E h => ?_) fun cdv A outer s H vs Q E hr h => ⟨_, (pss_cons (ps_if (pt_cmpR op_lt (pv 1) (pe_fld (pv 0) rfl) (nomark _)) (pss_one (ps_ret (pe_un un_neg pe_int))) pss_nil) (pss_cons (ps_if (pt_cmpR op_eq (pe_fld (pv 0) rfl) pe_int (nomark _)) (pss_one (ps_ret pe_non)) pss_nil) (pss_cons (ps_set (i := 2) nd rfl (by first | exact Or.inl rfl | exact Or.inr rfl) (pe_op op_sub (pv 1) (pe_fld (pv 0) rfl))) (pss_one (ps_ret (pe_op op_sub (pe_op op_add (pe_ix ix_tup (pe_fld (pv 0) rfl) (pe_op op_mod (pv 2) (pe_fld (pv 0) rfl)) (fun _ _ => rfl)) (pe_op op_mulW (pe_fld (pv 0) rfl) (pe_op op_fdivW (pv 2) (pe_fld (pv 0) rfl)))) pe_int)))))), ?_⟩
  · obtain ⟨_, _, _, rfl, _⟩ := h; rfl
  · obtain ⟨x, st, n, rfl, ⟨a, da, r, rfl, ha, hr2⟩, ok, hb, h63, hq⟩ := h
    refine ⟨_, rfl, _, rfl, _, _, _, _, _, rfl, ha, T.cl_Stair, T.na_Stair_base, rfl, _, _, rfl, rfl, _, rfl, ?_⟩
    rw [show decide (n < st.base) = false from decide_eq_false (by omega)]
    refine iteF ⟨_, rfl, _, _, _, _, _, rfl, ha, T.cl_Stair, T.na_Stair_step, rfl, rfl, _, rfl, ?_⟩
    rw [bl_int]
    by_cases e : st.step = 0
    · rw [decide_eq_true e]
      have : longestOf st n = none := by unfold longestOf; rw [if_pos e]
      rw [this] at hq
      exact iteT hq
    · rw [decide_eq_false e]
      have e2 : longestOf st n = some (st.rises.getD ((n - st.base) % st.step).toNat 0 + st.length * ((n - st.base) / st.step) - 1) := by unfold longestOf; rw [if_neg e]
      rw [e2] at hq
      have hst := ok.st
      have hpos : 0 < st.step := by omega
      have hm0 := Int.emod_nonneg (n - st.base) (show st.step ≠ 0 by omega)
      have hm1 := Int.emod_lt_of_pos (n - st.base) hpos
      have hlt : ((n - st.base) % st.step).toNat < st.rises.length := by omega
      refine iteF ⟨_, rfl, _, rfl, _, _, _, _, _, rfl, ha, T.cl_Stair, T.na_Stair_base, rfl, _, _, rfl, rfl, ?_⟩
      have hdiv : ((n - st.base) / st.step).natAbs < 2 ^ 64 := by
        have h1 := Int.ediv_nonneg (show 0 ≤ n - st.base by omega) (show 0 ≤ st.step by omega)
        have h2 := Int.ediv_le_self st.step (show 0 ≤ n - st.base by omega)
        have : (2 : Int) ^ 63 < 2 ^ 64 := by decide
        omega
      refine ⟨_, rfl, _, _, _, _, _, rfl, ha, T.cl_Stair, T.na_Stair_rises, rfl, _, rfl, _, rfl, _, _, _, _, _, rfl, ha, T.cl_Stair, T.na_Stair_step, rfl, _, _, rfl, rfl, hpos, r, _, _, .int (st.rises.getD ((n - st.base) % st.step).toNat 0), rfl, rfl, .inl (.inl hr2), ?_, _, rfl, _, _, _, _, _, rfl, ha, T.cl_Stair, T.na_Stair_length, rfl, _, rfl, _, rfl, _, _, _, _, _, rfl, ha, T.cl_Stair, T.na_Stair_step, rfl, _, _, rfl, rfl, wide_div hpos (step_small ok) (by decide) (by decide), _, _, rfl, rfl, wide_mul (natAbs_L ok.l1 ok.l2) hdiv (by decide) (by decide) (by decide), _, _, rfl, rfl, _, _, rfl, rfl, hq⟩
      have e5 : (n - st.base) % st.step = (((n - st.base) % st.step).toNat : Nat) := by omega
      rw [e5]
      refine atI_nat ?_
      rw [List.getElem?_map, List.getElem?_eq_getElem hlt]
      rw [Int.toNat_natCast, List.getD_eq_getElem?_getD, List.getElem?_eq_getElem hlt]
      rfl
abbrev N_Stair_over : List Str := ["self", "other", "best", "spot", "at", "rise", "value", "later"]
theorem sc_Stair_over : FnScope N_Stair_over ["self", "other"] (defScope s_Stair_over) := ⟨rfl, rfl, rfl, by decide +kernel, rfl, by decide +kernel, by decide +kernel⟩
theorem ok_Stair_over {P : Program} {w : World} {K : PySem.W.Frag} {mg : Str → Option Value} {base : Heap} (T : Txt P K mg) : FnR P w K mg base CX0 2 (ma K (ga K "Stair") "over") (sp_over K) := by
  have nd := sc_Stair_over.nd
  refine fnR T.d_Stair_over sc_Stair_over (fun _ _ _ _ _ _ us hl => match us, hl with | [_, _], _ => rfl) (fun vs H Q E h => ?_) fun cdv A outer s H vs Q E hr h => ⟨_, (pss_cons (ps_par (i := 2) (j := 3) rfl nd rfl rfl (by decide) rfl rfl (pa_cons (pe_op op_sub (pe_fld (pv 0) rfl) (pe_fld (pv 1) rfl)) (pa_cons pe_int pa_nil)) rfl) (pss_cons (ps_for PassesOwn.never rfl (pi_enumT rfl T.f_enumerate (pa_cons (pe_fld (pv 0) rfl) pa_nil)) (pg_tup rfl (pgs_cons (pg_name (i := 4) nd rfl (by first | exact Or.inl rfl | exact Or.inr rfl)) (pgs_cons (pg_name (i := 5) nd rfl (by first | exact Or.inl rfl | exact Or.inr rfl)) pgs_nil))) (pss_cons (ps_set (i := 6) nd rfl (by first | exact Or.inl rfl | exact Or.inr rfl) (pe_op op_sub (pe_op op_sub (pe_op op_add (pe_op op_add (pe_fld (pv 0) rfl) (pv 4)) pe_int) (pe_fld (pv 1) rfl)) (pe_callB call_lenS rfl T.f_len bt_len (pa_cons (pe_lc (own := [("later", 7)]) (g := gName 7) (tt := (tTest (tOp _ (tVar 7) (tVar 5)))) (te := (tC _)) rfl nd (pi_tup (pe_fld (pv 1) rfl)) (blkOk_by (N := N_Stair_over) (sc := defScope s_Stair_over) (by decide +kernel)) (fun _ _ _ _ _ => pg_name (i := 7) nd rfl (by first | exact Or.inl rfl | exact Or.inr rfl)) (fun _ _ _ _ _ => (pts_one (pt_cmpR op_le (pv 7) (pv 5) (nomark _)))) (fun _ _ _ _ _ => pe_int)) pa_nil)))) (pss_one (ps_if (PW.pt (pw_and (pt_cmpR op_lt (pv 5) (pe_fld (pv 0) rfl) (nomark _)) (pw_and1 (pt_cmpR op_gt (pv 6) (pv 2) (nomark _))))) (pss_one (ps_par (i := 2) (j := 3) rfl nd rfl rfl (by decide) rfl rfl (pa_cons (pv 6) (pa_cons (pv 5) pa_nil)) rfl)) pss_nil)))) (pss_one (ps_ret (pe_tup (pa_cons (pv 2) (pa_cons (pv 3) pa_nil))))))), ?_⟩
  · obtain ⟨_, _, _, _, rfl, _⟩ := h; rfl
  · obtain ⟨x, y, s1, s2, rfl, ⟨a, da, r, rfl, ha, hr2⟩, ⟨b, db, r2, rfl, hb, hrb⟩, ok, hre, hq⟩ := h
    refine ⟨_, rfl, _, _, _, _, _, rfl, ha, T.cl_Stair, T.na_Stair_base, rfl, _, rfl, _, _, _, _, _, rfl, hb, T.cl_Stair, T.na_Stair_base, rfl, _, _, rfl, rfl, _, _, rfl, ?_⟩
    refine ⟨_, rfl, _, _, _, _, _, rfl, ha, T.cl_Stair, T.na_Stair_rises, rfl, r, _, rfl, .inl (.inl hr2), for_it walk_enumT (fun i σ H' => Same H H' ∧ ∃ u v w, σ = [some (.ref a), some (.ref b), some (.int (s1.base - s2.base)), some (.int 0), u, v, w, none]) ⟨Same.refl _, _, _, _, rfl⟩ (fun i σ H' _ h => .inl (.inl (h.1 _ _ hr2))) (fun i xv σ H1 H2 hi hpv yy => ?_) fun σ H' hpv => ?_⟩
    · obtain ⟨sm, u, v, w', rfl⟩ := hpv
      obtain ⟨Tq, p1, p2, rfl, hT, rfl, hp1, hp2⟩ := yy
      obtain rfl := Option.some.inj hp1
      obtain ⟨z, hz, rfl⟩ : ∃ z, s1.rises[i]? = some z ∧ p2 = .int z := by
        have hp2 : (s1.rises.map V.int)[i]? = some p2 := hp2
        rw [List.getElem?_map] at hp2
        cases e : s1.rises[i]? with
        | none => rw [e] at hp2; cases hp2
        | some z => rw [e] at hp2; exact ⟨z, rfl, (Option.some.inj hp2).symm⟩
      have sT := same_up (o := .tup [V.int (i : Nat), .int z]) sm hT
      have hn := ok.n
      rw [hre] at hn
      refine ⟨Tq, _, rfl, .inl (.inl upd_same), rfl, _, _, rfl, _, _, rfl, rfl, ?_⟩
      refine ⟨_, rfl, _, _, _, _, _, rfl, sT _ _ ha, T.cl_Stair, T.na_Stair_base, rfl, _, rfl, _, _, rfl, rfl, _, _, rfl, rfl, _, rfl, _, _, _, _, _, rfl, sT _ _ hb, T.cl_Stair, T.na_Stair_base, rfl, _, _, rfl, rfl, _, rfl, _, _, _, _, _, rfl, sT _ _ hb, T.cl_Stair, T.na_Stair_rises, rfl, r2, rfl, ⟨_, .inl (.inl (sT _ _ hrb))⟩, fun D hD => lcF walk_tup s2.rises (by rw [List.length_map]) 7 (fun k v => v = .int k) (fun i H0 x H' a ha _ y => yAt fa2_map i H0 x H' a ha y) hD (fun H' s => .inl (.inl (s _ _ (sT _ _ hrb)))) (fun x => if decide (x ≤ z) = true then some (.int 1) else none) (by rw [sizeLine_eq]; omega) (fun k v H1 Kt Kf _ hv hs k1 k2 => ?_) (fun _ => rfl) fun H3 s3 hD1 => ?_⟩
      · subst hv
        refine ⟨_, rfl, _, rfl, _, _, rfl, rfl, _, rfl, ?_⟩
        by_cases q : k ≤ z
        · rw [decide_eq_true q]
          exact iteT (k1 _ _ (Same.refl _) (by rw [decide_eq_true q]; rfl))
        · rw [decide_eq_false q]
          exact iteF (k2 _ (Same.refl _) (by rw [decide_eq_false q]; rfl))
      refine ⟨D, _, rfl, .inl (.inl (.inl hD1)), _, _, rfl, rfl, ?_⟩
      rw [filterMap_if (fun x => decide (x ≤ z)) (fun _ => V.int 1), List.length_map]
      have cnt : ((i : Nat) : Int) + 1 ≤ ((s2.rises.filter fun x => decide (x ≤ z)).length : Nat) := upTo_sorted (by rw [← hre]; exact ok.so) (by rw [← hre]; exact hz)
      have sF := Same.trans sT s3
      refine ⟨_, rfl, _, rfl, _, _, _, _, _, rfl, sF _ _ ha, T.cl_Stair, T.na_Stair_length, rfl, _, _, rfl, rfl, _, rfl, ?_⟩
      by_cases q1 : z < s1.length
      · rw [decide_eq_true q1]
        refine iteT ⟨_, rfl, _, rfl, _, _, rfl, rfl, _, rfl, ?_⟩
        rw [show decide (s1.base - s2.base < s1.base + ((i : Nat) : Int) + 1 - s2.base - ((s2.rises.filter fun x => decide (x ≤ z)).length : Nat)) = false from decide_eq_false (by omega)]
        exact iteF ⟨sF, _, _, _, rfl⟩
      · rw [decide_eq_false q1]
        exact iteF (iteF ⟨sF, _, _, _, rfl⟩)
    · obtain ⟨sm, u, v, w', rfl⟩ := hpv
      exact ⟨_, rfl, _, rfl, (by show 2 ≤ sizeLine; decide), fun p hp => hq _ p (same_up sm hp) upd_same⟩
abbrev N_Stair_sub : List Str := ["self", "other"]
theorem sc_Stair_sub : FnScope N_Stair_sub ["self", "other"] (defScope s_Stair_sub) := ⟨rfl, rfl, rfl, by decide +kernel, rfl, by decide +kernel, by decide +kernel⟩
theorem ok_Stair_sub {P : Program} {w : World} {K : PySem.W.Frag} {mg : Str → Option Value} {base : Heap} (T : Txt P K mg) : FnR P w K mg base CX0 3 (ma K (ga K "Stair") "__sub__") (sp_sub K) := by
  have nd := sc_Stair_sub.nd
  refine fnR T.d_Stair_sub sc_Stair_sub (fun _ _ _ _ _ _ us hl => match us, hl with | [_, _], _ => rfl) (fun vs H Q E h => ?_) fun cdv A outer s H vs Q E hr h => ⟨_, (pss_cons (ps_expr (pe_methR (pv 0) T.cl_Stair T.me_Stair_need_like (ok_Stair_need_like T) (hr.mono (by decide)) pass0 (pa_cons (pv 1) pa_nil))) (pss_one (ps_ret (pe_ifExp (pt_cmpR op_gt (pe_fld (pv 0) rfl) (pe_fld (pv 1) rfl) (nomark _)) pe_non (pe_ix ix_tup (pe_methR (pv 0) T.cl_Stair T.me_Stair_over (ok_Stair_over T) (hr.mono (by decide)) pass0 (pa_cons (pv 1) pa_nil)) pe_int (fun _ _ => rfl)))))), ?_⟩
  · obtain ⟨_, _, _, _, rfl, _⟩ := h; rfl
  · obtain ⟨x, y, s1, s2, rfl, h1, h2, ok, hre, hl, hst, hq⟩ := h
    obtain ⟨a, da, r, rfl, ha, hr2⟩ := id h1
    obtain ⟨b, db, r2, rfl, hb, hrb⟩ := id h2
    refine ⟨_, rfl, a, da, _, rfl, ha, rfl, _, rfl, _, _, s1, s2, rfl, h1, h2, hl, _, rfl, _, _, _, _, _, rfl, ha, T.cl_Stair, T.na_Stair_step, rfl, _, rfl, _, _, _, _, _, rfl, hb, T.cl_Stair, T.na_Stair_step, rfl, _, _, rfl, rfl, _, rfl, ?_⟩
    rw [show decide (s2.step < s1.step) = false from decide_eq_false (by omega)]
    exact iteF ⟨_, rfl, a, da, _, rfl, ha, rfl, _, rfl, _, _, s1, s2, rfl, h1, h2, ok, hre, fun H' p sm hp => ⟨p, _, _, _, rfl, rfl, .inl (.inl hp), rfl, hq _ sm⟩⟩
end K6
set_option Elab.async false
set_option linter.all false
set_option maxRecDepth 100000
set_option maxHeartbeats 4000000
namespace K6
open PySem PySem.Spec PyProof.Rows L2
open He (ga ma)

/-! ### == of stairs -/
def SameStair (K : PySem.W.Frag) (a b : Addr) (H : Hp) : Prop := ∃ s, StairAt K H s (.ref a) ∧ StairAt K H s (.ref b)
theorem dp_ints {K : PySem.W.Frag} {H : Hp} : ∀ ns : List Int, DpAll K H (ns.map V.int) (ns.map PyData.int)
  | [] => .nil
  | n :: ns => .cons (.int n) (dp_ints ns)
theorem canLay_ints : ∀ ns : List Int, PyData.canLayAll0 (ns.map PyData.int) = true
  | [] => rfl
  | n :: ns => by simp [PyData.canLayAll0, PyData.canLay0, canLay_ints ns]
def stairD (s : Stair) : PyData := .tuple [.int s.length, .int s.base, .tuple (s.rises.map .int), .int s.step]
theorem shaped_stair (s : Stair) : SeqAt.shaped (stairD s) = true := by
  have h1 : (stairD s).canLay0 = true := by simp [stairD, PyData.canLay0, PyData.canLayAll0, canLay_ints]
  have h2 : (stairD s).depth = 2 := by simp [stairD, PyData.depth, PyData.depthAll, depth_ints]
  show ((stairD s).canLay0 && decide ((stairD s).depth ≤ 64)) = true
  rw [h1, h2]
  decide
theorem eqv_stair (s : Stair) : PyData.eqv (stairD s) (stairD s) = true := SeqAt.eqv_refl _ (SeqAt.canLay_of_shaped (shaped_stair s))

abbrev N_Stair_eq : List Str := ["self", "other", "mine"]
theorem sc_Stair_eq : FnScope N_Stair_eq ["self", "other"] (defScope s_Stair_eq) := ⟨rfl, rfl, rfl, by decide +kernel, rfl, by decide +kernel, by decide +kernel⟩
theorem ok_Stair_eq {P : Program} {w : World} {K : PySem.W.Frag} {mg : Str → Option Value} {base : Heap} (T : Txt P K mg) : ∃ fd, FnOk P w K mg base CX0 1 (ma K (ga K "Stair") "__eq__") fd ["self", "other"] (spEq (SameStair K)) ∧ Binds K fd ["self", "other"] [] := by
  have nd := sc_Stair_eq.nd
  obtain ⟨fd, F⟩ := T.d_Stair_eq
  refine ⟨fd, F.ok sc_Stair_eq (fun vs H Q E h => ?_) (fun cdv A outer s H vs Q E hr h => ⟨_, (pss_cons (ps_if (pt_not (pt_val (pe_callB call_isi rfl T.f_isinstance bt_isinstance (pa_cons (pv 1) (pa_cons (pe_glob (v := .ref (ga K "Stair")) rfl T.g_Stair rfl) pa_nil))))) (pss_one (ps_ret pe_bl)) pss_nil) (pss_cons (ps_set (i := 2) nd rfl (by first | exact Or.inl rfl | exact Or.inr rfl) (pe_tup (pa_cons (pe_fld (pv 0) rfl) (pa_cons (pe_fld (pv 0) rfl) (pa_cons (pe_fld (pv 0) rfl) (pa_cons (pe_fld (pv 0) rfl) pa_nil)))))) (pss_one (ps_ret (pe_cmpR (op_eqD hr.units) (pv 2) (pe_tup (pa_cons (pe_fld (pv 1) rfl) (pa_cons (pe_fld (pv 1) rfl) (pa_cons (pe_fld (pv 1) rfl) (pa_cons (pe_fld (pv 1) rfl) pa_nil))))) (nomark _)))))), ?_⟩), F.binds fun _ _ _ _ _ _ us hl => match us, hl with | [_, _], _ => rfl⟩
  · obtain ⟨_, _, rfl, _⟩ := h; rfl
  · obtain ⟨a, b, rfl, ⟨st, ⟨a', da, r, ea, ha, hr2⟩, ⟨b', db, r2, eb, hb, hrb⟩⟩, hq⟩ := h
    cases ea
    cases eb
    have e4 : (4 : Nat) ≤ sizeLine := by decide
    refine ⟨_, rfl, _, _, _, _, _, rfl, .own _, T.ty_Stair hb, kit_own, _, rfl, iteF ⟨_, rfl, _, _, _, _, _, rfl, ha, T.cl_Stair, T.na_Stair_length, rfl, _, rfl, _, _, _, _, _, rfl, ha, T.cl_Stair, T.na_Stair_base, rfl, _, rfl, _, _, _, _, _, rfl, ha, T.cl_Stair, T.na_Stair_rises, rfl, _, rfl, _, _, _, _, _, rfl, ha, T.cl_Stair, T.na_Stair_step, rfl, e4, fun p1 hp1 => ?_⟩⟩
    have s1 := same_upd (o := .tup [V.int st.length, V.int st.base, V.ref r, V.int st.step]) hp1
    have hb1 := s1 _ _ hb
    refine ⟨_, rfl, _, rfl, _, _, _, _, _, rfl, hb1, T.cl_Stair, T.na_Stair_length, rfl, _, rfl, _, _, _, _, _, rfl, hb1, T.cl_Stair, T.na_Stair_base, rfl, _, rfl, _, _, _, _, _, rfl, hb1, T.cl_Stair, T.na_Stair_rises, rfl, _, rfl, _, _, _, _, _, rfl, hb1, T.cl_Stair, T.na_Stair_step, rfl, e4, fun p2 hp2 => ?_⟩
    have s2 := same_up (o := .tup [V.int st.length, V.int st.base, V.ref r2, V.int st.step]) s1 hp2
    refine ⟨stairD st, stairD st, .tup (.inl (.inl (same_upd hp2 _ _ upd_same))) (.cons (.int _) (.cons (.int _) (.cons (.tup (.inl (.inl (s2 _ _ hr2))) (dp_ints _)) (.cons (.int _) .nil)))), .tup (.inl (.inl upd_same)) (.cons (.int _) (.cons (.int _) (.cons (.tup (.inl (.inl (s2 _ _ hrb))) (dp_ints _)) (.cons (.int _) .nil)))), shaped_stair st, shaped_stair st, ?_⟩
    rw [eqv_stair]
    exact hq _ s2
/-! ### pauses -/
theorem unlock_same {H H' : Hp} {d : Addr} {u v : HO} (hd : H d = some u) (s : Same (upd H d v) H') : Same H (upd H' d u) := fun b o e => by
  by_cases q : b = d
  · subst q
    rw [hd] at e
    rw [upd_same]
    exact e
  · rw [upd_ne q]
    exact s b o (by rw [upd_ne q]; exact e)
def zsOf (pz : List (Str × Int)) : List (Str × V) := pz.map fun z => (z.1, V.int z.2)
def pfOf (pz : List (Str × Int)) (p : Str) : Int := (pz.lookup p).getD 0
structure PzOk (pz : List (Str × Int)) : Prop where
  nd : (pz.map (·.1)).Nodup
  n : ∀ z ∈ pz, NameOk z.1
  b : ∀ z ∈ pz, 0 ≤ z.2 ∧ z.2 ≤ 1000000000000
  few : pz.length ≤ 40
def PausesAt (K : PySem.W.Frag) (H : Hp) (pf : Str → Int) (x : V) : Prop := ∃ a dx d r kvs, x = .ref a ∧ H a = some (.ins (ga K "Pauses") dx [("numbers", .ref d), ("rows", .ref r)]) ∧ H d = some (.dK kvs) ∧ ∀ p, (valV kvs (.inr p : Key)).getD (.int 0) = .int (pf p)
theorem PausesAt.si {K : PySem.W.Frag} {H H' : Hp} {pf : Str → Int} {x : V} (s : SameI H H') : PausesAt K H pf x → PausesAt K H' pf x := fun ⟨a, dx, d, r, kvs, e, h1, h2, h3⟩ => ⟨a, dx, d, r, kvs, e, s _ _ h1 (fun _ z => nomatch z), s _ _ h2 (fun _ z => nomatch z), h3⟩
def sp_need_names_alone (K : PySem.W.Frag) : Sp := fun vs H Q _ => ∃ p zs, vs = [.ref p] ∧ H p = some (.dK (tK zs)) ∧ (∀ z ∈ zs, NameOk z.1) ∧ ∀ H', Same H H' → Q .non H'
theorem valV_tK : ∀ (zs : List (Str × V)) (n : Str), valV (tK zs) (.inr n) = zs.lookup n
  | [], n => rfl
  | z :: zs, n => by
    have ih := valV_tK zs n
    by_cases e : z.1 = n
    · have e1 : valV (tK (z :: zs)) (.inr n) = some z.2 := valV_pos (p := (Sum.inr z.1, z.2)) (by show (Sum.inr z.1 : Key) = .inr n; rw [e])
      obtain ⟨z1, z2⟩ := z
      subst e
      rw [e1, List.lookup_cons]
      simp
    · have e1 : valV (tK (z :: zs)) (.inr n) = valV (tK zs) (.inr n) := valV_neg (p := (Sum.inr z.1, z.2)) (by show ¬ (Sum.inr z.1 : Key) = .inr n; exact fun q => e (Sum.inr.inj q))
      obtain ⟨z1, z2⟩ := z
      rw [e1, ih, List.lookup_cons]
      have : (n == z1) = false := beq_eq_false_iff_ne.mpr fun q => e q.symm
      rw [this]
theorem lookup_zs (pz : List (Str × Int)) (n : Str) : (zsOf pz).lookup n = (pz.lookup n).map V.int := by
  induction pz with
  | nil => rfl
  | cons z pz ih =>
    obtain ⟨a, i⟩ := z
    show ((a, V.int i) :: zsOf pz).lookup n = _
    rw [List.lookup_cons, List.lookup_cons, ih]
    cases n == a <;> rfl
theorem lookup_mem {pz : List (Str × Int)} {n : Str} (h : n ∈ pz.map (·.1)) : ∃ i, pz.lookup n = some i ∧ (n, i) ∈ pz := by
  induction pz with
  | nil => cases h
  | cons z pz ih =>
    obtain ⟨a, i⟩ := z
    rw [List.lookup_cons]
    by_cases e : n = a
    · subst e
      exact ⟨i, by simp, List.mem_cons_self⟩
    · rw [show (n == a) = false from beq_eq_false_iff_ne.mpr e]
      rcases List.mem_cons.mp h with h | h
      · exact absurd h e
      · obtain ⟨j, h1, h2⟩ := ih h
        exact ⟨j, h1, List.mem_cons_of_mem _ h2⟩
theorem lookup_none {pz : List (Str × Int)} {n : Str} (h : n ∉ pz.map (·.1)) : pz.lookup n = none := by
  induction pz with
  | nil => rfl
  | cons z pz ih =>
    obtain ⟨a, i⟩ := z
    simp only [List.map_cons, List.mem_cons, not_or] at h
    rw [List.lookup_cons, show (n == a) = false from beq_eq_false_iff_ne.mpr h.1]
    exact ih h.2

abbrev N_need_names_alone : List Str := ["places", "key"]
theorem sc_need_names_alone : FnScope N_need_names_alone ["places"] (defScope s_need_names_alone) := ⟨rfl, rfl, rfl, by decide +kernel, rfl, by decide +kernel, by decide +kernel⟩
theorem ok_need_names_alone {P : Program} {w : World} {K : PySem.W.Frag} {mg : Str → Option Value} {base : Heap} (T : Txt P K mg) : FnR P w K mg base CX0 2 (ga K "need_names_alone") (sp_need_names_alone K) := by
  have nd := sc_need_names_alone.nd
  refine fnR T.d_need_names_alone sc_need_names_alone (fun _ _ _ _ _ _ us hl => match us, hl with | [_], _ => rfl) (fun vs H Q E h => ?_) fun cdv A outer s H vs Q E hr h => ⟨_, (pss_one (ps_lock (ps_for PassesOwn.never rfl (pi_keys (pv 0)) (pg_name (i := 1) nd rfl (by first | exact Or.inl rfl | exact Or.inr rfl)) (pss_one (ps_if (pt_not (pt_val (pe_cal (ok_is_name T) (hr.mono (by decide)) (kpOf T.d_is_name) rfl T.g_is_name pass0 (pa_cons (pv 1) pa_nil)))) pss_never pss_nil))))), ?_⟩
  · obtain ⟨_, _, rfl, _⟩ := h; rfl
  · obtain ⟨p, zs, rfl, hp, hn, hq⟩ := h
    refine ⟨p, _, hp, trivial, fun od => ⟨_, rfl, p, od, rfl, .inl ⟨tK zs, upd_same, for_it walk_keys (fun i σ H' => Same (upd H p (.frz od (.dK (tK zs)))) H' ∧ ∃ u, σ = [some (.ref p), u]) ⟨Same.refl _, _, rfl⟩ (fun i σ H' _ h => h.1 _ _ upd_same) (fun i x σ H1 H2 hi hpv y => ?_) fun σ H' hpv => ⟨hpv.1 _ _ upd_same, hq _ (unlock_same hp hpv.1)⟩⟩⟩⟩
    obtain ⟨s1, u, rfl⟩ := hpv
    obtain ⟨rfl, k, v, hkv, rfl⟩ := y
    obtain ⟨z, hz, e1⟩ : ∃ z, zs[i]? = some z ∧ k = .inr z.1 := by
      unfold tK at hkv
      rw [List.getElem?_map] at hkv
      cases q : zs[i]? with
      | none => rw [q] at hkv; cases hkv
      | some z => rw [q] at hkv; exact ⟨z, rfl, by have := Option.some.inj hkv; exact (congrArg Prod.fst this).symm⟩
    subst e1
    exact ⟨_, rfl, z.1, rfl, hn z (List.mem_of_getElem? hz), fun H3 s3 => ⟨_, rfl, iteF ⟨Same.trans s1 s3, _, rfl⟩⟩⟩
end K6
set_option Elab.async false
set_option linter.all false
set_option maxRecDepth 100000
set_option maxHeartbeats 4000000
namespace K6
open PySem PySem.Spec PyProof.Rows L2
open He (ga ma)

def sp_Pauses_init0 (K : PySem.W.Frag) : Sp := fun vs H Q _ => ∃ x dx p pz, vs = [.ref x, .ref p] ∧ H x = some (.ins (ga K "Pauses") dx []) ∧ H p = some (.dK (tK (zsOf pz))) ∧ PzOk pz ∧
  ∀ H', (∀ b o, b ≠ x → H b = some o → H' b = some o) → PausesAt K H' (pfOf pz) (.ref x) → Q .non H'
theorem zs_names (pz : List (Str × Int)) : (zsOf pz).map (·.1) = pz.map (·.1) := by unfold zsOf; rw [List.map_map]; rfl

abbrev N_Pauses_init : List Str := ["this_one", "places", "found", "place"]
theorem sc_Pauses_init : FnScope N_Pauses_init ["this_one", "places"] (defScope s_Pauses_init) := ⟨rfl, rfl, rfl, by decide +kernel, rfl, by decide +kernel, by decide +kernel⟩
theorem ok_Pauses_init0 {P : Program} {w : World} {K : PySem.W.Frag} {mg : Str → Option Value} {base : Heap} (T : Txt P K mg) (cdv : Value) (A : Around) (outer : List Env) (s : Shared) (H : Hp) (vs : List V) (Q : VK) (E : XK) (hr : Room 3 (A.deeper (envOfC "Pauses.__init__" (defScope s_Pauses_init) s.heap.objs.size (ma K (ga K "Pauses") "__init__") cdv))) (h : sp_Pauses_init0 K vs H Q E) :
    ∃ t, PSs (cxOf CX0 P w K mg base N_Pauses_init "Pauses.__init__" (defScope s_Pauses_init) (ma K (ga K "Pauses") "__init__") cdv A outer s H E) (defBody s_Pauses_init) t ∧ t { nx := fun _ H' => Q .non H', rt := Q } (start N_Pauses_init vs) H := by
  have nd := sc_Pauses_init.nd
  refine ⟨_, PSs.nox (pss_cons (ps_expr (pe_cal (ok_need_names_alone T) (hr.mono (by decide)) (kpOf T.d_need_names_alone) rfl T.g_need_names_alone pass0 (pa_cons (pv 1) pa_nil))) (pss_cons (ps_set (i := 2) nd rfl (by first | exact Or.inl rfl | exact Or.inr rfl) pe_dnewK) (pss_cons (ps_for PassesOwn.never rfl (pi_list (pe_callB cr_sortedS rfl T.f_sorted bt_sorted (pa_cons (pe_lock (pe_lc (own := [("place", 3)]) (g := gName 3) (tt := tYes) (te := (tCB _ (tCons (tVar 3) tNil))) rfl nd (pi_keys (pv 1)) (blkOk_by (N := N_Pauses_init) (sc := defScope s_Pauses_init) (by decide +kernel)) (fun _ _ _ _ _ => pg_name (i := 3) nd rfl (by first | exact Or.inl rfl | exact Or.inr rfl)) (fun _ _ _ _ _ => pts_nil) (fun _ _ _ _ _ => (pe_callTy SkE.call_str_str rfl T.f_str bt_str (pa_cons (pv 3) pa_nil))))) pa_nil))) (pg_name (i := 3) nd rfl (by first | exact Or.inl rfl | exact Or.inr rfl)) (pss_cons (ps_if (pt_not (pt_val (pe_cal (ok_is_number T) (hr.mono (by decide)) (kpOf T.d_is_number) rfl T.g_is_number pass0 (pa_cons (pe_dget (hu_of hr) (pv 1) (pv 3) (fun _ _ => rfl)) pa_nil)))) pss_never pss_nil) (pss_one (ps_if (pt_cmpR op_ne (pe_dget (hu_of hr) (pv 1) (pv 3) (fun _ _ => rfl)) pe_int (nomark _)) (pss_one (ps_dput (hu_of hr) (pv 2) (pv 3) (pe_dget (hu_of hr) (pv 1) (pv 3) (fun _ _ => rfl)) rfl)) pss_nil)))) (pss_cons (ps_fld (pv 0) (pv 2) rfl) (pss_one (ps_fld (pv 0) (pe_callTy call_tuple_of rfl T.f_tuple bt_tuple (pa_cons (pe_callTy (call_listD rfl) rfl T.f_list bt_list (pa_cons (pv 2) pa_nil)) pa_nil)) rfl)))))), ?_⟩
  obtain ⟨x, dx, p, pz, rfl, hx, hp, ok, hq⟩ := h
  have hn : ∀ z ∈ zsOf pz, NameOk z.1 := fun z hz => by
    obtain ⟨y, hy, rfl⟩ := List.mem_map.mp hz
    exact ok.n y hy
  refine ⟨_, rfl, p, zsOf pz, rfl, hp, hn, fun H1 s1 => ?_⟩
  intro d hd0
  have s2 : Same H (upd H1 d (.dK [])) := same_up s1 hd0
  generalize hH2 : upd H1 d (.dK []) = H2 at s2
  have hd2 : H2 d = some (.dK []) := by rw [← hH2]; exact upd_same
  have dp : d ≠ p := fun z => by rw [z, s1 _ _ hp] at hd0; cases hd0
  have dx0 : d ≠ x := fun z => by rw [z, s1 _ _ hx] at hd0; cases hd0
  have n0 : H d = none := Same.free s1 hd0
  have hp2 := s2 _ _ hp
  refine ⟨p, _, hp2, trivial, fun od => ⟨_, rfl, p, od, rfl, .inl ⟨tK (zsOf pz), upd_same, fun D hD => ?_⟩⟩⟩
  have hDp : D ≠ p := fun z => by rw [z, upd_same] at hD; cases hD
  refine lcF walk_keys (pz.map (·.1)) (by simp [tK, zsOf]) 3 (fun nm v => v = .str nm) (fun i H0 v H' nm hnm _ y => ?_) hD (fun H' s => s _ _ upd_same) (fun nm => some (.str nm)) (by rw [List.length_map, sizeLine_eq]; have := ok.few; omega) (fun nm v H3 Kt Kf _ hv s3 k1 _ => ?_) (fun _ => rfl) fun H' s3 hD3 => ⟨s3 _ _ upd_same, ?_⟩
  · obtain ⟨e, k, v', hkv, rfl⟩ := y
    refine ⟨e, ?_⟩
    unfold tK zsOf at hkv
    rw [List.getElem?_map, List.getElem?_map] at hkv
    rw [List.getElem?_map] at hnm
    cases q : pz[i]? with
    | none => rw [q] at hnm; cases hnm
    | some z =>
      rw [q] at hkv hnm
      obtain rfl := Option.some.inj hnm
      have this : k = .inr z.1 := (congrArg Prod.fst (Option.some.inj hkv)).symm
      rw [this]
      rfl
  · subst hv
    exact stepY ⟨_, rfl, nm, rfl, k1 _ _ (Same.refl _) rfl⟩
  rw [filterMap_some] at hD3
  have s4 : Same H2 (upd H' p (.dK (tK (zsOf pz)))) := unlock_same hp2 s3
  refine ⟨D, pz.map (·.1), rfl, .inl (.inl (by rw [upd_ne hDp]; exact hD3)), by rw [List.length_map]; have := ok.few; omega, fun names p2 hperm _ hp3 => ⟨p2, rfl, ⟨_, .inl (.inl upd_same)⟩, ?_⟩⟩
  have s5 : Same H2 (upd (upd H' p (.dK (tK (zsOf pz)))) p2 (.lst (names.map V.str))) := same_up s4 hp3
  generalize hH5 : upd (upd H' p (.dK (tK (zsOf pz)))) p2 (.lst (names.map V.str)) = H5 at s5
  have hn5 : H5 p2 = some (.lst (names.map V.str)) := by rw [← hH5]; exact upd_same
  have hnd : names.Nodup := hperm.nodup_iff.mpr ok.nd
  have hlen : names.length ≤ 40 := by rw [hperm.length_eq, List.length_map]; exact ok.few
  refine for_list (K := K) (fun i σ H' => SameX d H5 H' ∧ (∃ kvs, H' d = some (.dK kvs) ∧ kvs.length ≤ i ∧ ∀ n, (valV kvs (.inr n : Key)).getD (.int 0) = .int (if n ∈ names.take i then pfOf pz n else 0)) ∧ ∃ u, σ = [some (.ref x), some (.ref p), some (.ref d), u]) ⟨fun b o _ e => e, ⟨[], s5 _ _ hd2, Nat.zero_le _, fun n => by simp [valV]⟩, _, rfl⟩ (fun i σ H' _ h => .inl (.inl (h.1 _ _ (fun z => by rw [z, s5 _ _ hd2] at hn5; cases hn5) hn5))) (fun i v σ H6 hv hpv => ?_) fun σ H6 hpv => ?_
  · obtain ⟨sx, ⟨kvs, hk, hkl, hkv⟩, u, rfl⟩ := hpv
    obtain ⟨nm, hnm, rfl⟩ : ∃ nm, names[i]? = some nm ∧ v = .str nm := by
      rw [List.getElem?_map] at hv
      cases e : names[i]? with
      | none => rw [e] at hv; cases hv
      | some z => rw [e] at hv; exact ⟨z, rfl, (Option.some.inj hv).symm⟩
    have hmem : nm ∈ pz.map (·.1) := hperm.mem_iff.mp (List.mem_of_getElem? hnm)
    obtain ⟨val, hlk, hin⟩ := lookup_mem hmem
    have hb := ok.b _ hin
    have hpf : pfOf pz nm = val := by unfold pfOf; rw [hlk]; rfl
    have hp6 : H6 p = some (.dK (tK (zsOf pz))) := sx _ _ dp.symm (s5 _ _ hp2)
    have hget : DGet H6 p (kV (.inr nm)) (some (.int val)) := by
      have e := DGet.k (k := .inr nm) hp6
      rw [valV_tK, lookup_zs, hlk] at e
      exact e
    have hil : i < names.length := (List.getElem?_eq_some_iff.mp hnm).1
    have hnew : nm ∉ names.take i := fun hm => by
      obtain ⟨j, hj, e⟩ := List.mem_take_iff_getElem.mp hm
      have e2 : names[i] = nm := by
        rw [List.getElem?_eq_getElem hil] at hnm
        exact Option.some.inj hnm
      have := (List.getElem_inj hnd).mp (e.trans e2.symm)
      omega
    have tk : ∀ n, (n ∈ names.take (i + 1)) ↔ (n ∈ names.take i ∨ n = nm) := fun n => by
      rw [List.take_add_one, hnm]
      simp
    refine ⟨_, rfl, _, rfl, p, _, rfl, hget, val, rfl, hb.1, hb.2, _, rfl, iteF ⟨_, rfl, _, rfl, p, _, rfl, hget, rfl, _, rfl, ?_⟩⟩
    rw [bl_int]
    by_cases e0 : val = 0
    · rw [decide_eq_true e0]
      refine iteF ⟨sx, ⟨kvs, hk, Nat.le_succ_of_le hkl, fun n => ?_⟩, _, rfl⟩
      rw [hkv n]
      by_cases e1 : n ∈ names.take i
      · rw [if_pos e1, if_pos ((tk n).mpr (.inl e1))]
      · rw [if_neg e1]
        by_cases e2 : n = nm
        · rw [if_pos ((tk n).mpr (.inr e2)), e2, hpf, e0]
        · rw [if_neg (fun q => ((tk n).mp q).elim e1 e2)]
    · rw [decide_eq_false e0]
      refine iteT ⟨_, rfl, _, rfl, p, _, rfl, hget, _, rfl, _, rfl, d, _, rfl, DPut.k (k := .inr nm) hk (by rw [sizeLine_eq]; omega), ?_⟩
      refine ⟨sameX_trans sx sameX_upd, ⟨_, upd_same, ?_, fun n => ?_⟩, _, rfl⟩
      · unfold putK
        split
        · rw [List.length_map]; omega
        · rw [List.length_append]; simp; omega
      · rw [valV_put]
        by_cases e2 : n = nm
        · subst e2
          rw [if_pos rfl, if_pos ((tk n).mpr (.inr rfl)), hpf]
          rfl
        · rw [if_neg (fun q => e2 (Sum.inr.inj q)), hkv n]
          by_cases e1 : n ∈ names.take i
          · rw [if_pos e1, if_pos ((tk n).mpr (.inl e1))]
          · rw [if_neg e1, if_neg (fun q => ((tk n).mp q).elim e1 e2)]
  · obtain ⟨sx, ⟨kvs, hk, hkl, hkv⟩, u, rfl⟩ := hpv
    rw [List.length_map] at hkl hkv
    have hx6 : H6 x = some (.ins (ga K "Pauses") dx []) := sx _ _ dx0.symm (s5 _ _ (s2 _ _ hx))
    refine ⟨_, rfl, _, rfl, _, _, _, _, rfl, hx6, T.cl_Pauses, T.na_Pauses_numbers, by show (0 : Nat) < 1000; decide, ?_⟩
    generalize hH7 : upd H6 x (.ins (ga K "Pauses") dx (putF "numbers" (.ref d) [])) = H7
    have sx7 : SameX x H6 H7 := by rw [← hH7]; exact sameX_upd
    have hx7 : H7 x = some (.ins (ga K "Pauses") dx [("numbers", .ref d)]) := by rw [← hH7]; exact upd_same
    have hd7 := sx7 _ _ dx0 hk
    refine ⟨_, rfl, d, kvs, rfl, .inl hd7, fun l1 hl1 => ⟨l1, _, rfl, .inl ⟨.inl (.inl upd_same), fun l2 hl2 => ?_⟩⟩⟩
    have l2x : l2 ≠ x := fun z => by rw [z, same_upd hl1 _ _ hx7] at hl2; cases hl2
    have l2d : l2 ≠ d := fun z => by rw [z, same_upd hl1 _ _ hd7] at hl2; cases hl2
    have hx8 := same_upd (o := .tup (kvs.map fun kv => kV kv.1)) hl2 _ _ (same_upd (o := .lst (kvs.map fun kv => kV kv.1)) hl1 _ _ hx7)
    refine ⟨_, rfl, _, _, _, _, rfl, hx8, T.cl_Pauses, T.na_Pauses_rows, by show (1 : Nat) < 1000; decide, ?_⟩
    have sF : Same H7 (upd (upd H7 l1 (.lst (kvs.map fun kv => kV kv.1))) l2 (.tup (kvs.map fun kv => kV kv.1))) := same_up (same_upd hl1) hl2
    refine hq _ (fun b o hb e => ?_) ⟨x, dx, d, l2, kvs, rfl, upd_same, by rw [upd_ne dx0]; exact sF _ _ hd7, fun n => ?_⟩
    · rw [upd_ne hb]
      have bd : b ≠ d := fun z => by rw [z, n0] at e; cases e
      exact sF _ _ (sx7 _ _ hb (sx _ _ bd (s5 _ _ (s2 _ _ e))))
    · rw [hkv n, List.take_length]
      by_cases e1 : n ∈ names
      · rw [if_pos e1]
      · rw [if_neg e1]
        have : pfOf pz n = 0 := by unfold pfOf; rw [lookup_none (fun q => e1 (hperm.mem_iff.mpr q))]; rfl
        rw [this]
/-- Pauses( **places ) -/
theorem this_free {x : Str} (h : NameOk x) : x ≠ "this_one" := fun z => by
  have := h.ab 95 (by rw [z]; decide +kernel)
  omega
def sp_Pauses_init (K : PySem.W.Frag) : List V → List (Str × V) → Hp → VK → XK → Prop := fun vs zs H Q _ => ∃ x dx pz, vs = [.ref x] ∧ zs = zsOf pz ∧ H x = some (.ins (ga K "Pauses") dx []) ∧ PzOk pz ∧ ∀ H', (∀ b o, b ≠ x → H b = some o → H' b = some o) → PausesAt K H' (pfOf pz) (.ref x) → Q .non H'
theorem ok_Pauses_init {P : Program} {w : World} {K : PySem.W.Frag} {mg : Str → Option Value} {base : Heap} (T : Txt P K mg) : FnKw P w K mg base CX0 4 (ma K (ga K "Pauses") "__init__") (sp_Pauses_init K) := by
  obtain ⟨fd, ⟨oc, od, kV, doc, pm, an, cdv, ct, osl, e, l, c⟩, kp⟩ := T.d_Pauses_init
  have F := fn_kw (P := P) (w := w) (mg := mg) (base := base) (CX := CX0) (k := 3) (sp := sp_Pauses_init0 K) (by rw [l, e]) c sc_Pauses_init StX.cxUp_none ⟨rfl, ⟨_, rfl, rfl⟩, rfl, rfl, ⟨_, rfl, rfl⟩, rfl⟩ fun A outer s H vs Q E hr h => ok_Pauses_init0 T cdv A outer s H vs Q E hr h
  intro A outer s H us vs kw zs Q E hr e0 r hkv hkn hl ⟨x, dx, pz, hvs, hzs, hx, ok, hq⟩
  refine F A outer s H us vs kw zs Q E hr e0 r hkv hkn hl ⟨.ref x, hvs, ?_, fun p hp => ⟨x, dx, p, pz, rfl, same_upd hp _ _ hx, by rw [upd_same, hzs], ok, fun H' k hpa => hq H' (fun b o hb eb => k b o hb (same_upd hp _ _ eb)) hpa⟩⟩
  rw [hzs, zs_names]
  intro hm
  obtain ⟨z, hz, e2⟩ := List.mem_map.mp hm
  exact this_free (ok.n z hz) e2
def sp_Pauses_of (K : PySem.W.Frag) : Sp := fun vs H Q _ => ∃ p pz, vs = [.ref p] ∧ H p = some (.dK (tK (zsOf pz))) ∧ PzOk pz ∧ ∀ H' y, Same H H' → PausesAt K H' (pfOf pz) y → Q y H'
def sp_Pauses_getitem (K : PySem.W.Frag) : Sp := fun vs H Q _ => ∃ x pf n, vs = [x, .str n] ∧ PausesAt K H pf x ∧ NameOk n ∧ ∀ H', Same H H' → Q (.int (pf n)) H'

abbrev N_Pauses_of : List Str := ["places"]
theorem sc_Pauses_of : FnScope N_Pauses_of ["places"] (defScope s_Pauses_of) := ⟨rfl, rfl, rfl, by decide +kernel, rfl, by decide +kernel, by decide +kernel⟩
theorem ok_Pauses_of {P : Program} {w : World} {K : PySem.W.Frag} {mg : Str → Option Value} {base : Heap} (T : Txt P K mg) : FnR P w K mg base CX0 6 (sa K (ga K "Pauses") "of") (sp_Pauses_of K) := by
  have nd := sc_Pauses_of.nd
  refine fnR T.d_Pauses_of sc_Pauses_of (fun _ _ _ _ _ _ us hl => match us, hl with | [_], _ => rfl) (fun vs H Q E h => ?_) fun cdv A outer s H vs Q E hr h => ⟨_, (pss_cons (ps_if (pt_not (pt_val (pe_callB call_isi rfl T.f_isinstance bt_isinstance (pa_cons (pv 0) (pa_cons (pe_bltn (v := .ty "dict") rfl T.f_dict bt_dict rfl) pa_nil))))) pss_never pss_nil) (pss_cons (ps_expr (pe_cal (ok_need_names_alone T) (hr.mono (by decide)) (kpOf T.d_need_names_alone) rfl T.g_need_names_alone pass0 (pa_cons (pv 0) pa_nil))) (pss_one (ps_ret (pe_makeKwD T.mk_Pauses (ok_Pauses_init T) (hr.mono (by decide)) rfl T.g_Pauses pass0 (pv 0)))))), ?_⟩
  · obtain ⟨_, _, rfl, _⟩ := h; rfl
  · obtain ⟨p, pz, rfl, hp, ok, hq⟩ := h
    have hn : ∀ z ∈ zsOf pz, NameOk z.1 := fun z hz => by
      obtain ⟨y, hy, rfl⟩ := List.mem_map.mp hz
      exact ok.n y hy
    refine ⟨_, rfl, _, _, _, _, _, rfl, .ty _, .base (.dK hp), k_dd, _, rfl, iteF ⟨_, rfl, p, zsOf pz, rfl, hp, hn, fun H1 s1 => fun d hd => ⟨_, rfl, p, zsOf pz, rfl, same_upd hd _ _ (s1 _ _ hp), ?_, upd_same, fun x dx nx ndx ne => ?_⟩⟩⟩
    · intro z
      rw [← z, s1 _ _ hp] at hd
      cases hd
    · have hx1 : H1 x = none := by
        by_cases q : x = d
        · rw [q]; exact hd
        · rw [upd_ne q, upd_ne q] at nx; exact nx
      refine ⟨x, dx, pz, rfl, rfl, upd_same, ok, fun H' k hpa => ⟨rfl, hq H' _ (Same.trans s1 fun b o e => ?_) hpa⟩⟩
      have h1 : b ≠ x := fun z => by rw [z, hx1] at e; cases e
      have h2 : b ≠ d := fun z => by rw [z, hd] at e; cases e
      have hdx1 : H1 dx = none := by
        by_cases q : dx = d
        · rw [q]; exact hd
        · rw [upd_ne q, upd_ne q] at ndx; exact ndx
      have h3 : b ≠ dx := fun z => by rw [z, hdx1] at e; cases e
      exact k b o h1 (by rw [upd_ne h1, upd_ne h3, upd_ne h2, upd_ne h2]; exact e)
abbrev N_Pauses_getitem : List Str := ["self", "place"]
theorem sc_Pauses_getitem : FnScope N_Pauses_getitem ["self", "place"] (defScope s_Pauses_getitem) := ⟨rfl, rfl, rfl, by decide +kernel, rfl, by decide +kernel, by decide +kernel⟩
theorem ok_Pauses_getitem {P : Program} {w : World} {K : PySem.W.Frag} {mg : Str → Option Value} {base : Heap} (T : Txt P K mg) : FnR P w K mg base CX0 2 (ma K (ga K "Pauses") "__getitem__") (sp_Pauses_getitem K) := by
  have nd := sc_Pauses_getitem.nd
  refine fnR T.d_Pauses_getitem sc_Pauses_getitem (fun _ _ _ _ _ _ us hl => match us, hl with | [_, _], _ => rfl) (fun vs H Q E h => ?_) fun cdv A outer s H vs Q E hr h => ⟨_, (pss_cons (ps_if (pt_not (pt_val (pe_cal (ok_is_name T) (hr.mono (by decide)) (kpOf T.d_is_name) rfl T.g_is_name pass0 (pa_cons (pv 1) pa_nil)))) pss_never pss_nil) (pss_one (ps_ret (pe_dget2 (hu_of hr) (pe_fld (pv 0) rfl) (pv 1) pe_int ⟨rfl, rfl, rfl, rfl⟩)))), ?_⟩
  · obtain ⟨_, _, _, rfl, _⟩ := h; rfl
  · obtain ⟨x, pf, n, rfl, ⟨a, dx, d, r, kvs, rfl, ha, hd, hkv⟩, hn, hq⟩ := h
    refine ⟨_, rfl, n, rfl, hn, fun H1 s1 => ⟨_, rfl, iteF ⟨_, rfl, _, _, _, _, _, rfl, s1 _ _ ha, T.cl_Pauses, T.na_Pauses_numbers, rfl, d, rfl, .inl ⟨_, .inl (s1 _ _ hd)⟩, _, rfl, _, DGet.k (k := .inr n) (s1 _ _ hd), ?_⟩⟩⟩
    rw [hkv n]
    exact hq _ s1
end K6
set_option Elab.async false
set_option linter.all false
set_option maxRecDepth 100000
set_option maxHeartbeats 4000000
namespace K6
open PySem PySem.Spec PyProof.Rows L2
open He (ga ma)

def AboveAt (K : PySem.W.Frag) (H : Hp) (n : Int) (x : V) : Prop := ∃ a dx p, x = .ref a ∧ H a = some (.ins (ga K "Above") dx [("number", .int n), ("pauses", p)])
theorem AboveAt.si {K : PySem.W.Frag} {H H' : Hp} {n : Int} {x : V} (s : SameI H H') : AboveAt K H n x → AboveAt K H' n x := fun ⟨a, dx, p, e, h⟩ => ⟨a, dx, p, e, s _ _ h (fun _ z => nomatch z)⟩
abbrev plOf (t : Tab) (p : Str) : PlaceD := placeOf t.L t.rows p
/-- two tables of one day whose stairs rise alike -/
structure AboveOk (tab tac : Tab) : Prop where
  L : tab.L = tac.L
  l1 : 1 ≤ tab.L
  l2 : tab.L ≤ 1000000000000
  f1 : tab.rows.length ≤ 40
  f2 : tac.rows.length ≤ 40
  p1 : ∀ p, PlaceOk (plOf tab p)
  p2 : ∀ p, PlaceOk (plOf tac p)
  n1 : ∀ p ∈ tab.places, NameOk p
  n2 : ∀ p ∈ tac.places, NameOk p
  c1 : tab.places.length ≤ 8
  c2 : tac.places.length ≤ 8
  al : ∀ p s t, StairOf (plOf tab p) s → StairOf (plOf tac p) t → StairOk s ∧ s.rises = t.rises ∧ s.step = t.step
def Union (tab tac : Tab) (ps : List Str) : Prop := ps.Nodup ∧ ∀ p, p ∈ ps ↔ p ∈ tab.places ∨ p ∈ tac.places
def aboveN (tab tac : Tab) (ps : List Str) : Int := underOf tab - underOf tac + (ps.map fun p => stockAt (plOf tab p) 0 - stockAt (plOf tac p) 0).sum
def sp_above (K : PySem.W.Frag) : Sp := fun vs H Q _ => ∃ x y tab tac, vs = [x, y] ∧ TabAt K H tab x ∧ TabAt K H tac y ∧ AboveOk tab tac ∧ ∀ H' z ps, Same H H' → Union tab tac ps → AboveAt K H' (aboveN tab tac ps) z → Q z H'
theorem nodup_le {α : Type} [DecidableEq α] : ∀ {l m : List α}, l.Nodup → (∀ x ∈ l, x ∈ m) → l.length ≤ m.length
  | [], _, _, _ => Nat.zero_le _
  | x :: l, m, hn, hs => by
    have hx := hs x List.mem_cons_self
    have hn' := List.nodup_cons.mp hn
    have ih := nodup_le (l := l) (m := m.erase x) hn'.2 fun y hy => (List.mem_erase_of_ne (fun e => hn'.1 (by rw [← e]; exact hy))).mpr (hs y (List.mem_cons_of_mem _ hy))
    rw [List.length_erase_of_mem hx] at ih
    have : 0 < m.length := List.length_pos_of_mem hx
    rw [List.length_cons]
    omega
theorem union_len {tab tac : Tab} {ps : List Str} (h : Union tab tac ps) (a1 : tab.places.length ≤ 8) (a2 : tac.places.length ≤ 8) : ps.length ≤ 16 := by
  have := nodup_le (m := tab.places ++ tac.places) h.1 fun x hx => List.mem_append.mpr ((h.2 x).mp hx)
  rw [List.length_append] at this
  omega
/-- a row of stairs -/
def RowSt (K : PySem.W.Frag) (tab tac : Tab) (H : Hp) (p : Str) (y : V) : Prop := ∃ q a b s t, y = .ref q ∧ H q = some (.tup [.str p, a, b]) ∧ StairAt K H s a ∧ StairAt K H t b ∧ StairOf (plOf tab p) s ∧ StairOf (plOf tac p) t
theorem RowSt.si {K : PySem.W.Frag} {tab tac : Tab} {H H' : Hp} {p : Str} {y : V} (s : SameI H H') : RowSt K tab tac H p y → RowSt K tab tac H' p y := fun ⟨q, a, b, s1, t1, e, h, h1, h2, h3, h4⟩ => ⟨q, a, b, s1, t1, e, s _ _ h (fun _ z => nomatch z), h1.si s, h2.si s, h3, h4⟩

theorem StairAt.sd {K : PySem.W.Frag} {H H' : Hp} {d : Addr} {kvs : List (Key × V)} {s : Stair} {y : V} (hd : H d = some (.dK kvs)) (sx : SameX d H H') : StairAt K H s y → StairAt K H' s y := fun ⟨a, dx, r, e, h1, h2⟩ =>
  ⟨a, dx, r, e, sx _ _ (fun z => by rw [z, hd] at h1; cases h1) h1, sx _ _ (fun z => by rw [z, hd] at h2; cases h2) h2⟩
theorem RowSt.sd {K : PySem.W.Frag} {tab tac : Tab} {H H' : Hp} {d : Addr} {kvs : List (Key × V)} {p : Str} {y : V} (hd : H d = some (.dK kvs)) (sx : SameX d H H') : RowSt K tab tac H p y → RowSt K tab tac H' p y := fun ⟨q, a, b, s1, t1, e, h, h1, h2, h3, h4⟩ =>
  ⟨q, a, b, s1, t1, e, sx _ _ (fun z => by rw [z, hd] at h; cases h) h, h1.sd hd sx, h2.sd hd sx, h3, h4⟩

abbrev N_above : List Str := ["one", "other", "number", "found", "places", "place", "stairs", "mine", "theirs", "more", "spot"]
theorem sc_above : FnScope N_above ["one", "other"] (defScope s_above) := ⟨rfl, rfl, rfl, by decide +kernel, rfl, by decide +kernel, by decide +kernel⟩
theorem ok_above {P : Program} {w : World} {K : PySem.W.Frag} {mg : Str → Option Value} {base : Heap} (T : Txt P K mg) : FnR P w K mg base CX0 9 (ga K "above") (sp_above K) := by
  have nd := sc_above.nd
  refine fnR T.d_above sc_above (fun _ _ _ _ _ _ us hl => match us, hl with | [_, _], _ => rfl) (fun vs H Q E h => ?_) fun cdv A outer s H vs Q E hr h => ⟨_, (pss_cons (ps_expr (pe_cal (ok_need_two T) (hr.mono (by decide)) (kpOf T.d_need_two) rfl T.g_need_two pass0 (pa_cons (pv 0) (pa_cons (pv 1) pa_nil)))) (pss_cons (ps_par (i := 2) (j := 3) rfl nd rfl rfl (by decide) rfl rfl (pa_cons (pe_op op_sub (pe_cal (ok_under T) (hr.mono (by decide)) (kpOf T.d_under) rfl T.g_under pass0 (pa_cons (pv 0) pa_nil)) (pe_cal (ok_under T) (hr.mono (by decide)) (kpOf T.d_under) rfl T.g_under pass0 (pa_cons (pv 1) pa_nil))) (pa_cons pe_dnewK pa_nil)) rfl) (pss_cons (ps_set (i := 4) nd rfl (by first | exact Or.inl rfl | exact Or.inr rfl) (pe_callB (cr_sortSS rfl) rfl T.f_sorted bt_sorted (pa_cons (pe_callTy (cr_setL rfl) rfl T.f_set bt_set (pa_cons (pe_lc (own := [("place", 5)]) (g := gName 5) (tt := tYes) (te := (tCB _ (tCons (tVar 5) tNil))) rfl nd (pi_tup (pe_tup (StX.pa_star (pe_fld (pv 0) rfl) (StX.pa_star (pe_fld (pv 1) rfl) pa_nil)))) (blkOk_by (N := N_above) (sc := defScope s_above) (by decide +kernel)) (fun _ _ _ _ _ => pg_name (i := 5) nd rfl (by first | exact Or.inl rfl | exact Or.inr rfl)) (fun _ _ _ _ _ => pts_nil) (fun _ _ _ _ _ => (pe_callTy SkE.call_str_str rfl T.f_str bt_str (pa_cons (pv 5) pa_nil)))) pa_nil)) pa_nil))) (pss_cons (ps_setLc (i := 6) (own := [("place", 5)]) (g := gName 5) (tt := tYes) (te := (tTup (tCons (tVar 5) (tCons (tCal (sp_stair_of K) E0 (tCons (tVar 0) (tCons (tVar 5) tNil))) (tCons (tCal (sp_stair_of K) E0 (tCons (tVar 1) (tCons (tVar 5) tNil))) tNil))))) rfl nd rfl rfl (sw_true rfl rfl rfl (by decide +kernel)) (pi_list (pv 4)) (blkOk_by (N := N_above) (sc := defScope s_above) (by decide +kernel)) (fun _ _ _ _ _ => pg_name (i := 5) nd rfl (by first | exact Or.inl rfl | exact Or.inr rfl)) (fun _ _ _ _ _ => pts_nil) (fun _ _ _ _ _ => (pe_tup (pa_cons (pv 5) (pa_cons (pe_cal (ok_stair_of T) (hr.mono (by decide)) (kpOf T.d_stair_of) rfl T.g_stair_of pass0 (pa_cons (pv 0) (pa_cons (pv 5) pa_nil))) (pa_cons (pe_cal (ok_stair_of T) (hr.mono (by decide)) (kpOf T.d_stair_of) rfl T.g_stair_of pass0 (pa_cons (pv 1) (pa_cons (pv 5) pa_nil))) pa_nil)))))) (pss_cons (ps_for PassesOwn.never rfl (pi_list (pv 6)) (pg_tup rfl (pgs_cons (pg_name (i := 5) nd rfl (by first | exact Or.inl rfl | exact Or.inr rfl)) (pgs_cons (pg_name (i := 7) nd rfl (by first | exact Or.inl rfl | exact Or.inr rfl)) (pgs_cons (pg_name (i := 8) nd rfl (by first | exact Or.inl rfl | exact Or.inr rfl)) pgs_nil)))) (pss_one (ps_if (pt_cmpR op_gt (pe_fld (pv 7) rfl) (pe_fld (pv 8) rfl) (nomark _)) pss_never pss_nil))) (pss_cons (ps_for PassesOwn.never rfl (pi_list (pv 6)) (pg_tup rfl (pgs_cons (pg_name (i := 5) nd rfl (by first | exact Or.inl rfl | exact Or.inr rfl)) (pgs_cons (pg_name (i := 7) nd rfl (by first | exact Or.inl rfl | exact Or.inr rfl)) (pgs_cons (pg_name (i := 8) nd rfl (by first | exact Or.inl rfl | exact Or.inr rfl)) pgs_nil)))) (pss_cons (ps_asg (pe_methR (pv 7) T.cl_Stair T.me_Stair_over (ok_Stair_over T) (hr.mono (by decide)) pass0 (pa_cons (pv 8) pa_nil)) (pg_tup rfl (pgs_cons (pg_name (i := 9) nd rfl (by first | exact Or.inl rfl | exact Or.inr rfl)) (pgs_cons (pg_name (i := 10) nd rfl (by first | exact Or.inl rfl | exact Or.inr rfl)) pgs_nil)))) (pss_cons (ps_aug (i := 2) nd rfl (by first | exact Or.inl rfl | exact Or.inr rfl) (pv 9) ip_add) (pss_one (ps_dput (hu_of hr) (pv 3) (pv 5) (pv 10) rfl))))) (pss_one (ps_ret (StX.pe_makeR T.mk_Above (ok_Above_init T) (hr.mono (by decide)) rfl T.g_Above pass0 (pa_cons (pv 2) (pa_cons (pe_sta (pe_glob (v := .ref (ga K "Pauses")) rfl T.g_Pauses rfl) T.sta_Pauses_of (ok_Pauses_of T) (hr.mono (by decide)) pass0 (pa_cons (pv 3) pa_nil)) pa_nil))))))))))), ?_⟩
  · obtain ⟨_, _, _, _, rfl, _⟩ := h; rfl
  · obtain ⟨x, y, tab, tac, rfl, ht, hu, ok, hq⟩ := h
    have l1 := ok.l1; have l2 := ok.l2; have hL := ok.L
    refine ⟨_, rfl, _, rfl, x, y, tab, tac, rfl, ht, hu, ok.L, ?_⟩
    refine ⟨_, rfl, x, tab, rfl, ht, ok.l1, ok.l2, ok.f1, fun H1 s1 => ⟨_, rfl, y, tac, rfl, hu.si (SameI.of s1), by omega, by omega, ok.f2, fun H2 s2 => ⟨_, _, rfl, rfl, fun d hd => ⟨_, _, rfl, ?_⟩⟩⟩⟩
    have s02 := Same.trans s1 s2
    have sd : Same H (upd H2 d (.dK [])) := same_up s02 hd
    generalize hH3 : upd H2 d (.dK []) = H3 at sd
    have hd3 : H3 d = some (.dK []) := by rw [← hH3]; exact upd_same
    have d0 : H d = none := Same.free s02 hd
    obtain ⟨a, da, dy, n, pl, r, ras, rfl, ha, hdy, hn, hpl, hr2, hf⟩ := id ht
    obtain ⟨a', da', dy', n', pl', r', ras', rfl, ha', hdy', hn', hpl', hr2', hf'⟩ := id hu
    -- places
    have e1 : tab.places.map V.str ++ (tac.places.map V.str ++ []) = (tab.places ++ tac.places).map V.str := by rw [List.append_nil, List.map_append]
    have hcl : (tab.places ++ tac.places).length ≤ 16 := by rw [List.length_append]; have := ok.c1; have := ok.c2; omega
    refine ⟨_, rfl, _, _, _, _, _, rfl, sd _ _ ha, T.cl_Table, T.na_Table_places, rfl, pl, _, rfl, .inl (.inl (.inl (sd _ _ hpl))), _, rfl, _, _, _, _, _, rfl, sd _ _ ha', T.cl_Table, T.na_Table_places, rfl, pl', _, rfl, .inl (.inl (.inl (sd _ _ hpl'))), ?_, fun q hq2 => ⟨q, rfl, ⟨_, .inl (.inl upd_same)⟩, fun D hD => ?_⟩⟩
    · rw [e1, List.length_map, sizeLine_eq]; omega
    have sq : Same H3 (upd H3 q (.tup (tab.places.map V.str ++ (tac.places.map V.str ++ [])))) := same_upd hq2
    have hq3 : (upd H3 q (.tup (tab.places.map V.str ++ (tac.places.map V.str ++ [])))) q = some (.tup ((tab.places ++ tac.places).map V.str)) := by rw [upd_same, e1]
    have eq4 : upd H3 q (.tup (tab.places.map V.str ++ (tac.places.map V.str ++ []))) = upd H3 q (.tup ((tab.places ++ tac.places).map V.str)) := by rw [e1]
    refine lcF (walk_tup (xs := (tab.places ++ tac.places).map V.str)) (tab.places ++ tac.places) (by rw [List.length_map]) 5 (fun p v => v = .str p) (fun i H0 v H' t ht _ y => yAt fa2_map i H0 v H' t ht y) hD (fun H' s => .inl (.inl (s _ _ hq3))) (fun p => some (.str p)) (by rw [sizeLine_eq]; omega) (fun p v H4 Kt Kf _ hv s4 k1 _ => ?_) (fun _ => rfl) fun H4 s4 hD4 => ?_
    · subst hv
      exact stepY ⟨_, rfl, p, rfl, k1 _ _ (Same.refl _) rfl⟩
    rw [filterMap_some] at hD4
    have s34 : Same H3 H4 := Same.trans sq s4
    refine ⟨D, (tab.places ++ tac.places).map Sum.inr, rfl, .inl (.inl (by rw [hD4, List.map_map]; rfl)), by rw [List.length_map]; show _ < 4096; omega, fun q5 S n5 hq5 hS => ⟨q5, S, n5, rfl, upd_same, fun key hk0 => ?_, fun p2 ps hp2 hnd hns => ?_⟩⟩
    · obtain ⟨z, _, rfl⟩ := List.mem_map.mp ((hS key).mp hk0)
      exact ⟨z, rfl⟩
    have hU : Union tab tac ps := ⟨hnd, fun p => by
      rw [hns p, hS]
      constructor
      · intro h
        obtain ⟨z2, h2, e3⟩ := List.mem_map.mp h
        obtain rfl := Sum.inr.inj e3
        exact List.mem_append.mp h2
      · exact fun h => List.mem_map.mpr ⟨p, List.mem_append.mpr h, rfl⟩⟩
    have hpl16 := union_len hU ok.c1 ok.c2
    have s5 : Same H3 (upd (upd H4 q5 (SetMO w q5 S n5)) p2 (.lst (ps.map V.str))) := same_up (same_up s34 hq5) hp2
    have hps5 : (upd (upd H4 q5 (SetMO w q5 S n5)) p2 (.lst (ps.map V.str))) p2 = some (.lst (ps.map V.str)) := upd_same
    have s05 := Same.trans sd s5
    -- stairs
    refine ⟨_, rfl, p2, rfl, ⟨_, .inl (.inl hps5)⟩, fun D6 hD6 => lcRel walk_list ps (by rw [List.length_map]) 5 (fun p v => v = .str p) (fun i H0 v H' t ht _ y => yAt fa2_map i H0 v H' t ht y) hD6 (fun H' s => .inl (.inl (s _ _ hps5))) (RowSt K tab tac) (fun _ _ _ _ s q => q.si s) (by rw [sizeLine_eq]; omega) (fun p v H6 Kt hp hv s6 k1 => ?_) (fun _ => rfl) fun H6 ys s6 hD7 hys => ?_⟩
    · subst hv
      refine ⟨_, rfl, _, rfl, _, rfl, _, tab, p, rfl, ht.si (SameI.of (Same.trans s05 s6)), ok.f1, ok.p1 p, fun H7 st1 y1 s7 h1 h2 => ⟨_, rfl, _, rfl, _, tac, p, rfl, hu.si (SameI.of (Same.trans s05 (Same.trans s6 s7))), ok.f2, ok.p2 p, fun H8 st2 y2 s8 h3 h4 => ⟨(by show 3 ≤ sizeLine; decide), fun q9 hq9 => k1 _ _ (same_up (Same.trans s7 s8) hq9) ⟨q9, y1, y2, st1, st2, rfl, upd_same, (h1.si (SameI.of s8)).si (SameI.of (same_upd hq9)), h3.si (SameI.of (same_upd hq9)), h2, h4⟩⟩⟩⟩
    have s06 := Same.trans s05 s6
    have hysl := hys.len
    -- the first loop
    have getR : ∀ (H' : Hp), Same H6 H' → ∀ i v, ys[i]? = some v → ∃ p, ps[i]? = some p ∧ RowSt K tab tac H' p v := fun H' s i v hv => by
      have hi : i < ps.length := by rw [hysl]; exact (List.getElem?_eq_some_iff.mp hv).1
      exact ⟨ps[i], List.getElem?_eq_getElem hi, (hys.get (List.getElem?_eq_getElem hi) hv).si (SameI.of s)⟩
    have hd6 : H6 d = some (.dK []) := s6 _ _ (s5 _ _ hd3)
    refine ⟨_, rfl, D6, rfl, ⟨_, .inl (.inl hD7)⟩, for_list (K := K) (fun i σ H' => Same H6 H' ∧ ∃ u1 u2 u3, σ = [some (.ref a), some (.ref a'), some (.int (underOf tab - underOf tac)), some (.ref d), some (.ref p2), u1, some (.ref D6), u2, u3, none, none]) ⟨Same.refl _, _, _, _, rfl⟩ (fun i σ H' _ h => .inl (.inl (h.1 _ _ hD7))) (fun i v σ H7 hv hpv => ?_) fun σ H7 hpv => ?_⟩
    · obtain ⟨s7, u1, u2, u3, rfl⟩ := hpv
      obtain ⟨p, hp, q9, y1, y2, st1, st2, rfl, hq9, h1, h2, h3, h4⟩ := getR H7 s7 i v hv
      obtain ⟨o1, o2, o3⟩ := ok.al p st1 st2 h3 h4
      obtain ⟨b1, db1, r1, rfl, hb1, _⟩ := id h1
      obtain ⟨b2, db2, r2, rfl, hb2, _⟩ := id h2
      refine ⟨q9, _, rfl, .inl (.inl hq9), rfl, _, _, rfl, _, _, rfl, _, _, rfl, rfl, _, rfl, _, _, _, _, _, rfl, hb1, T.cl_Stair, T.na_Stair_step, rfl, _, rfl, _, _, _, _, _, rfl, hb2, T.cl_Stair, T.na_Stair_step, rfl, _, _, rfl, rfl, _, rfl, ?_⟩
      rw [show decide (st2.step < st1.step) = false from decide_eq_false (by omega)]
      exact iteF ⟨s7, _, _, _, rfl⟩
    · obtain ⟨s7, u1, u2, u3, rfl⟩ := hpv
      -- the second loop
      have e0 : underOf tab - underOf tac + ((ps.take 0).map fun p => stockAt (plOf tab p) 0 - stockAt (plOf tac p) 0).sum = underOf tab - underOf tac := by simp
      refine ⟨_, rfl, D6, rfl, ⟨_, .inl (.inl (s7 _ _ hD7))⟩, for_list (K := K) (fun i σ H' => SameX d H7 H' ∧ H' d = some (.dK (tK (zsOf ((ps.take i).map fun p => (p, (0 : Int)))))) ∧ ∃ u1 u2 u3 u4 u5, σ = [some (.ref a), some (.ref a'), some (.int (underOf tab - underOf tac + ((ps.take i).map fun p => stockAt (plOf tab p) 0 - stockAt (plOf tac p) 0).sum)), some (.ref d), some (.ref p2), u1, some (.ref D6), u2, u3, u4, u5]) ⟨fun b o _ e => e, s7 _ _ hd6, u1, u2, u3, none, none, by rw [e0]⟩ (fun i σ H' _ h => .inl (.inl (h.1 _ _ (fun z => by rw [z, hd6] at hD7; cases hD7) (s7 _ _ hD7)))) (fun i v σ H8 hv hpv => ?_) fun σ H8 hpv => ?_⟩
      · obtain ⟨sx, hd8, u1, u2, u3, u4, u5, rfl⟩ := hpv
        obtain ⟨p, hp, hrow⟩ := getR H7 s7 i v hv
        obtain ⟨q9, y1, y2, st1, st2, rfl, hq9, h1, h2, h3, h4⟩ := hrow.sd (s7 _ _ hd6) sx
        obtain ⟨o1, o2, o3⟩ := ok.al p st1 st2 h3 h4
        obtain ⟨b1, db1, r1, rfl, hb1, _⟩ := id h1
        have hil : i < ps.length := (List.getElem?_eq_some_iff.mp hp).1
        have hpi : ps[i] = p := by
          rw [List.getElem?_eq_getElem hil] at hp
          exact Option.some.inj hp
        have hnew : p ∉ ps.take i := fun hm => by
          obtain ⟨j, hj, e⟩ := List.mem_take_iff_getElem.mp hm
          have := (List.getElem_inj hnd).mp (e.trans hpi.symm)
          omega
        have hnew2 : (.inr p : Key) ∉ (tK (zsOf ((ps.take i).map fun p => (p, (0 : Int))))).map (·.1) := by
          unfold tK zsOf
          rw [List.map_map, List.map_map, List.map_map]
          intro hm
          obtain ⟨p', hp', e⟩ := List.mem_map.mp hm
          have e2 : (Sum.inr p' : Key) = .inr p := e
          rw [Sum.inr.inj e2] at hp'
          exact hnew hp'
        have hlen8 : (tK (zsOf ((ps.take i).map fun p => (p, (0 : Int))))).length ≤ 16 := by
          unfold tK zsOf
          rw [List.length_map, List.length_map, List.length_map, List.length_take]
          omega
        refine ⟨q9, _, rfl, .inl (.inl hq9), rfl, _, _, rfl, _, _, rfl, _, _, rfl, rfl, ?_⟩
        refine ⟨_, rfl, b1, db1, _, rfl, hb1, rfl, _, rfl, _, _, st1, st2, rfl, h1, h2, o1, o2, fun H9 q10 s9 hq10 => ⟨q10, _, rfl, .inl (.inl hq10), rfl, _, _, rfl, _, _, rfl, rfl, ?_⟩⟩
        refine ⟨_, rfl, _, rfl, _, _, rfl, rfl, _, rfl, _, rfl, _, rfl, d, _, rfl, DPut.k (k := .inr p) (s9 _ _ hd8) (by rw [sizeLine_eq]; omega), ?_⟩
        rw [putK_new hnew2]
        refine ⟨sameX_trans sx (sameX_trans (sameX_of s9) sameX_upd), ?_, some (.str p), some (.ref b1), some y2, some (.int (st1.base - st2.base)), some (.int 0), ?_⟩
        · rw [upd_same, List.take_add_one, hp]
          unfold tK zsOf
          simp
        · have e3 : underOf tab - underOf tac + ((ps.take i).map fun p => stockAt (plOf tab p) 0 - stockAt (plOf tac p) 0).sum + (st1.base - st2.base) = underOf tab - underOf tac + ((ps.take (i + 1)).map fun p => stockAt (plOf tab p) 0 - stockAt (plOf tac p) 0).sum := by
            rw [List.take_add_one, hp, List.map_append, List.sum_append, h3.b, h4.b]
            simp
            omega
          rw [← e3]
          rfl
      · obtain ⟨sx, hd8, u1, u2, u3, u4, u5, rfl⟩ := hpv
        have eyl : (ys).length = ps.length := hysl.symm
        rw [eyl, List.take_length] at hd8
        have pzok : PzOk (ps.map fun p => (p, (0 : Int))) := by
          refine ⟨?_, fun z hz => ?_, fun z hz => ?_, by rw [List.length_map]; omega⟩
          · rw [List.map_map]
            have : (Prod.fst ∘ fun p : Str => (p, (0 : Int))) = id := rfl
            rw [this, List.map_id]
            exact hnd
          · obtain ⟨p, hp, rfl⟩ := List.mem_map.mp hz
            exact ((hU.2 p).mp hp).elim (ok.n1 p) (ok.n2 p)
          · obtain ⟨p, hp, rfl⟩ := List.mem_map.mp hz
            exact ⟨Int.le_refl 0, (by show (0 : Int) ≤ 1000000000000; decide)⟩
        have sx08 : Same H H8 := fun b o e => sx b o (fun z => by rw [z, d0] at e; cases e) (s7 _ _ (s06 _ _ e))
        refine ⟨_, rfl, rfl, _, rfl, d, _, rfl, hd8, pzok, fun H9 yp s9 hpa => fun x dx nx ndx ne => ⟨x, dx, _, _, rfl, upd_same, fun H10 k10 hx10 => ⟨rfl, hq H10 _ ps (Same.trans sx08 (Same.trans s9 (init_same nx ndx k10))) hU ⟨x, dx, yp, rfl, ?_⟩⟩⟩⟩
        rw [hx10]
        have e4 : ps.take ys.length = ps := by rw [eyl, List.take_length]
        rw [e4]
        rfl
def sp_never_above (K : PySem.W.Frag) : Sp := fun vs H Q _ => ∃ x y tab tac, vs = [x, y] ∧ TabAt K H tab x ∧ TabAt K H tac y ∧ AboveOk tab tac ∧ (∀ ps, Union tab tac ps → aboveN tab tac ps ≤ 0) ∧ ∀ H', Same H H' → Q (.bl true) H'
def sp_alike (K : PySem.W.Frag) : Sp := fun vs H Q _ => ∃ x y tab tac, vs = [x, y] ∧ TabAt K H tab x ∧ TabAt K H tac y ∧ AboveOk tab tac ∧ AboveOk tac tab ∧ (∀ ps, Union tab tac ps → aboveN tab tac ps ≤ 0) ∧ (∀ ps, Union tac tab ps → aboveN tac tab ps ≤ 0) ∧ ∀ H', Same H H' → Q (.bl true) H'

abbrev N_never_above : List Str := ["one", "other", "found"]
theorem sc_never_above : FnScope N_never_above ["one", "other"] (defScope s_never_above) := ⟨rfl, rfl, rfl, by decide +kernel, rfl, by decide +kernel, by decide +kernel⟩
theorem ok_never_above {P : Program} {w : World} {K : PySem.W.Frag} {mg : Str → Option Value} {base : Heap} (T : Txt P K mg) : FnR P w K mg base CX0 10 (ga K "never_above") (sp_never_above K) := by
  have nd := sc_never_above.nd
  refine fnR T.d_never_above sc_never_above (fun _ _ _ _ _ _ us hl => match us, hl with | [_, _], _ => rfl) (fun vs H Q E h => ?_) fun cdv A outer s H vs Q E hr h => ⟨_, (pss_cons (ps_set (i := 2) nd rfl (by first | exact Or.inl rfl | exact Or.inr rfl) (pe_cal (ok_above T) (hr.mono (by decide)) (kpOf T.d_above) rfl T.g_above pass0 (pa_cons (pv 0) (pa_cons (pv 1) pa_nil)))) (pss_one (ps_ret (pe_and (pe_callB call_isi rfl T.f_isinstance bt_isinstance (pa_cons (pv 2) (pa_cons (pe_glob (v := .ref (ga K "Above")) rfl T.g_Above rfl) pa_nil))) (pe_one (pe_cmpR op_le (pe_fld (pv 2) rfl) pe_int (nomark _))))))), ?_⟩
  · obtain ⟨_, _, _, _, rfl, _⟩ := h; rfl
  · obtain ⟨x, y, tab, tac, rfl, ht, hu, ok, hle, hq⟩ := h
    refine ⟨_, rfl, _, rfl, x, y, tab, tac, rfl, ht, hu, ok, fun H1 z ps s1 hU hz => ?_⟩
    obtain ⟨a, da, p, rfl, ha⟩ := hz
    refine ⟨_, rfl, _, _, _, _, _, rfl, .own _, T.ty_Above ha, kit_own, true, rfl, iteT ⟨_, rfl, _, _, _, _, _, rfl, ha, T.cl_Above, T.na_Above_number, rfl, _, _, rfl, rfl, ?_⟩⟩
    show Q (.bl (decide (aboveN tab tac ps ≤ 0))) H1
    rw [decide_eq_true (hle ps hU)]
    exact hq _ s1
abbrev N_alike : List Str := ["one", "other"]
theorem sc_alike : FnScope N_alike ["one", "other"] (defScope s_alike) := ⟨rfl, rfl, rfl, by decide +kernel, rfl, by decide +kernel, by decide +kernel⟩
theorem ok_alike {P : Program} {w : World} {K : PySem.W.Frag} {mg : Str → Option Value} {base : Heap} (T : Txt P K mg) : FnR P w K mg base CX0 11 (ga K "alike") (sp_alike K) := by
  have nd := sc_alike.nd
  refine fnR T.d_alike sc_alike (fun _ _ _ _ _ _ us hl => match us, hl with | [_, _], _ => rfl) (fun vs H Q E h => ?_) fun cdv A outer s H vs Q E hr h => ⟨_, (pss_cons (ps_expr (pe_cal (ok_need_two T) (hr.mono (by decide)) (kpOf T.d_need_two) rfl T.g_need_two pass0 (pa_cons (pv 0) (pa_cons (pv 1) pa_nil)))) (pss_one (ps_ret (pe_and (pe_cal (ok_never_above T) (hr.mono (by decide)) (kpOf T.d_never_above) rfl T.g_never_above pass0 (pa_cons (pv 0) (pa_cons (pv 1) pa_nil))) (pe_one (pe_cal (ok_never_above T) (hr.mono (by decide)) (kpOf T.d_never_above) rfl T.g_never_above pass0 (pa_cons (pv 1) (pa_cons (pv 0) pa_nil)))))))), ?_⟩
  · obtain ⟨_, _, _, _, rfl, _⟩ := h; rfl
  · obtain ⟨x, y, tab, tac, rfl, ht, hu, ok, ok2, hle, hle2, hq⟩ := h
    refine ⟨_, rfl, _, rfl, x, y, tab, tac, rfl, ht, hu, ok.L, _, rfl, _, rfl, x, y, tab, tac, rfl, ht, hu, ok, hle, fun H1 s1 => ⟨true, rfl, iteT ⟨_, rfl, _, rfl, y, x, tac, tab, rfl, hu.si (SameI.of s1), ht.si (SameI.of s1), ok2, hle2, fun H2 s2 => hq _ (Same.trans s1 s2)⟩⟩⟩
end K6
set_option Elab.async false
set_option linter.all false
set_option maxRecDepth 100000
set_option maxHeartbeats 4000000
namespace K6
open PySem PySem.Spec PyProof.Rows L2
theorem sorted_ext : ∀ {l m : List Int}, l.Pairwise (· < ·) → m.Pairwise (· < ·) → (∀ x, x ∈ l ↔ x ∈ m) → l = m
  | [], [], _, _, _ => rfl
  | [], b :: m, _, _, h => absurd ((h b).mpr List.mem_cons_self) (by simp)
  | a :: l, [], _, _, h => absurd ((h a).mp List.mem_cons_self) (by simp)
  | a :: l, b :: m, hl, hm, h => by
    have h1 := List.pairwise_cons.mp hl
    have h2 := List.pairwise_cons.mp hm
    have e : a = b := by
      rcases List.mem_cons.mp ((h a).mp List.mem_cons_self) with q | q
      · exact q
      · rcases List.mem_cons.mp ((h b).mpr List.mem_cons_self) with q2 | q2
        · exact q2.symm
        · have := h1.1 b q2
          have := h2.1 a q
          omega
    subst e
    congr 1
    refine sorted_ext h1.2 h2.2 fun x => ?_
    constructor
    · intro hx
      rcases List.mem_cons.mp ((h x).mp (List.mem_cons_of_mem _ hx)) with q | q
      · have := h1.1 x hx; omega
      · exact q
    · intro hx
      rcases List.mem_cons.mp ((h x).mpr (List.mem_cons_of_mem _ hx)) with q | q
      · have := h2.1 x hx; omega
      · exact q
theorem stairOf_unique {d : PlaceD} {s t : Stair} (h : StairOf d s) (g : StairOf d t) : s = t := by
  obtain ⟨sl, sb, sr, ss⟩ := s
  obtain ⟨tl, tb, tr, ts⟩ := t
  obtain ⟨h1, h2, ⟨ns, h3, h4⟩, h5⟩ := h
  obtain ⟨g1, g2, ⟨ms, g3, g4⟩, g5⟩ := g
  have e : ns = ms := sorted_ext h3.1 g3.1 fun x => (h3.2 x).trans (g3.2 x).symm
  subst e
  simp only at h1 h2 h4 h5 g1 g2 g4 g5
  subst h1 h2 h4 h5 g1 g2 g4 g5
  rfl
open Classical in
noncomputable def stairC (d : PlaceD) : Stair := if h : ∃ s, StairOf d s then Classical.choose h else ⟨0, 0, [], 0⟩
theorem stairC_eq {d : PlaceD} {s : Stair} (h : StairOf d s) : s = stairC d := by
  have hx : ∃ s, StairOf d s := ⟨s, h⟩
  unfold stairC
  rw [dif_pos hx]
  exact stairOf_unique h (Classical.choose_spec hx)
theorem stairC_of {d : PlaceD} {s : Stair} (h : StairOf d s) : StairOf d (stairC d) := by rw [← stairC_eq h]; exact h
/-! ### lateness -/
def lateV (s : Stair) (n told : Int) : Option Int := (longestOf s n).map fun lg => if told ≤ lg then lg - told else -1
def minOpt (f v : Option Int) : Option Int := match v with
  | none => f
  | some v => match f with
    | none => some v
    | some f => some (if v < f then v else f)
noncomputable def lateOf (t : Tab) (told sv : Str → Int) : Option Int := t.places.foldl (fun f p => minOpt f (lateV (stairC (plOf t p)) (sv p) (told p))) none
end K6
set_option Elab.async false
set_option linter.all false
set_option maxRecDepth 100000
set_option maxHeartbeats 4000000
namespace K6
open PySem PySem.Spec PyProof.Rows L2
open He (ga ma)

def sp_need_stocks (K : PySem.W.Frag) : Sp := fun vs H Q _ => ∃ x d tab sz, vs = [x, .ref d] ∧ TabAt K H tab x ∧ H d = some (.dK (tK (zsOf sz))) ∧ (sz.map (·.1)).Nodup ∧ tab.places.Nodup ∧ tab.places.length ≤ 8 ∧ (∀ p, p ∈ sz.map (·.1) ↔ p ∈ tab.places) ∧ (∀ z ∈ sz, 0 ≤ z.2 ∧ z.2 ≤ 1000000000000) ∧ ∀ H', Same H H' → Q .non H'
/-- what lateness asks -/
structure LateOk (tab : Tab) (told : Str → Int) (sz : List (Str × Int)) : Prop where
  nd : (sz.map (·.1)).Nodup
  pn : tab.places.Nodup
  pc : tab.places.length ≤ 8
  mem : ∀ p, p ∈ sz.map (·.1) ↔ p ∈ tab.places
  b : ∀ z ∈ sz, 0 ≤ z.2 ∧ z.2 ≤ 1000000000000
  f : tab.rows.length ≤ 40
  p : ∀ p, PlaceOk (plOf tab p)
  n : ∀ p ∈ tab.places, NameOk p
  s : ∀ p ∈ tab.places, ∀ s, StairOf (plOf tab p) s → StairOk s ∧ s.base ≤ pfOf sz p ∧ -1000 ≤ s.base
def sp_lateness (K : PySem.W.Frag) : Sp := fun vs H Q _ => ∃ x y d tab told sz, vs = [x, y, .ref d] ∧ TabAt K H tab x ∧ PausesAt K H told y ∧ H d = some (.dK (tK (zsOf sz))) ∧ LateOk tab told sz ∧ ∀ H', Same H H' → Q (optV (lateOf tab told (pfOf sz))) H'
theorem dget_sz {H : Hp} {d : Addr} {sz : List (Str × Int)} {p : Str} (h : H d = some (.dK (tK (zsOf sz)))) (hm : p ∈ sz.map (·.1)) : DGet H d (kV (.inr p)) (some (.int (pfOf sz p))) ∧ (p, pfOf sz p) ∈ sz := by
  obtain ⟨i, h1, h2⟩ := lookup_mem hm
  have e := DGet.k (k := .inr p) h
  rw [valV_tK, lookup_zs, h1] at e
  unfold pfOf
  rw [h1]
  exact ⟨e, h2⟩
theorem all_true {α : Type} : ∀ l : List α, ((l.map fun _ => true).all id) = true
  | [] => rfl
  | a :: l => by rw [List.map_cons, List.all_cons, all_true l]; rfl

abbrev N_need_stocks : List Str := ["table", "stocks", "place"]
theorem sc_need_stocks : FnScope N_need_stocks ["table", "stocks"] (defScope s_need_stocks) := ⟨rfl, rfl, rfl, by decide +kernel, rfl, by decide +kernel, by decide +kernel⟩
theorem ok_need_stocks {P : Program} {w : World} {K : PySem.W.Frag} {mg : Str → Option Value} {base : Heap} (T : Txt P K mg) : FnR P w K mg base CX0 4 (ga K "need_stocks") (sp_need_stocks K) := by
  have nd := sc_need_stocks.nd
  refine fnR T.d_need_stocks sc_need_stocks (fun _ _ _ _ _ _ us hl => match us, hl with | [_, _], _ => rfl) (fun vs H Q E h => ?_) fun cdv A outer s H vs Q E hr h => ⟨_, (pss_cons (ps_if (PW.pt (pw_or (pt_not (pt_val (pe_callB call_isi rfl T.f_isinstance bt_isinstance (pa_cons (pv 1) (pa_cons (pe_bltn (v := .ty "dict") rfl T.f_dict bt_dict rfl) pa_nil))))) (pw_or1 (pt_cmpR op_ne (pe_callB call_lenD rfl T.f_len bt_len (pa_cons (pv 1) pa_nil)) (pe_callB call_lenS rfl T.f_len bt_len (pa_cons (pe_fld (pv 0) rfl) pa_nil)) (nomark _))))) pss_never pss_nil) (pss_one (ps_if (pt_not (pt_val (pe_callB (cr_all rfl) rfl T.f_all bt_all (pa_cons (pe_lc (own := [("place", 2)]) (g := gName 2) (tt := tYes) (te := (tAndV (tDIn (tVar 2) (tVar 1)) (tCal (sp_is_number K) E0 (tCons (tDGet (tVar 1) (tVar 2)) tNil)))) rfl nd (pi_tup (pe_fld (pv 0) rfl)) (blkOk_by (N := N_need_stocks) (sc := defScope s_need_stocks) (by decide +kernel)) (fun _ _ _ _ _ => pg_name (i := 2) nd rfl (by first | exact Or.inl rfl | exact Or.inr rfl)) (fun _ _ _ _ _ => pts_nil) (fun _ _ _ _ _ => (pe_and (pe_cmp (pc_din (hu_of hr) (pv 2) (pv 1)) rfl) (pe_one (pe_cal (ok_is_number T) (hr.mono (by decide)) (kpOf T.d_is_number) rfl T.g_is_number pass0 (pa_cons (pe_dget (hu_of hr) (pv 1) (pv 2) (fun _ _ => rfl)) pa_nil)))))) pa_nil)))) pss_never pss_nil))), ?_⟩
  · obtain ⟨_, _, _, _, rfl, _⟩ := h; rfl
  · obtain ⟨x, d, tab, sz, rfl, ⟨a, da, dy, n, pl, r, ras, rfl, ha, hdy, hn, hpl, hr2, hf⟩, hd, hnd, hpn, hpc, hmem, hb, hq⟩ := h
    have hlen : sz.length = tab.places.length := by
      have h1 := nodup_le hnd fun p hp => (hmem p).mp hp
      have h2 := nodup_le hpn fun p hp => (hmem p).mpr hp
      rw [List.length_map] at h1 h2
      omega
    refine ⟨_, rfl, _, _, _, _, _, rfl, .ty _, .base (.dK hd), k_dd, true, rfl, iteF ⟨_, rfl, d, _, rfl, hd, _, rfl, _, _, _, _, _, rfl, ha, T.cl_Table, T.na_Table_places, rfl, pl, _, rfl, .inr (.inl (.inl hpl)), rfl, _, rfl, ?_⟩⟩
    have e1 : ((tK (zsOf sz)).length : Int) = (((tab.places.map V.str).length : Nat) : Int) := by unfold tK zsOf; rw [List.length_map, List.length_map, List.length_map, hlen]
    rw [bl_int, decide_eq_true e1]
    refine iteF ⟨_, rfl, _, _, _, _, _, rfl, ha, T.cl_Table, T.na_Table_places, rfl, pl, rfl, ⟨_, .inl (.inl hpl)⟩, fun D hD => lcF (walk_tup (xs := tab.places.map V.str)) tab.places (by rw [List.length_map]) 2 (fun p v => v = .str p) (fun i H0 v H' t ht _ y => yAt fa2_map i H0 v H' t ht y) hD (fun H' s => .inl (.inl (s _ _ hpl))) (fun p => some (.bl true)) (by rw [sizeLine_eq]; omega) (fun p v H1 Kt Kf hp hv hs k1 _ => ?_) (fun _ => rfl) fun H1 s1 hD1 => ?_⟩
    · subst hv
      obtain ⟨g1, g2⟩ := dget_sz (hs _ _ hd) ((hmem p).mpr hp)
      have hbb := hb _ g2
      exact stepY ⟨_, rfl, _, rfl, d, _, rfl, g1, true, rfl, iteT ⟨_, rfl, _, rfl, d, _, rfl, g1, _, rfl, hbb.1, hbb.2, k1 _ _ (Same.refl _) rfl⟩⟩
    · rw [filterMap_some] at hD1
      refine ⟨D, tab.places.map fun _ => true, rfl, .inl (.inl (by rw [hD1, List.map_map]; rfl)), _, rfl, ?_⟩
      rw [all_true]
      exact iteF (hq _ s1)
abbrev N_lateness : List Str := ["table", "pauses", "stocks", "told", "found", "place", "longest", "late"]
theorem sc_lateness : FnScope N_lateness ["table", "pauses", "stocks"] (defScope s_lateness) := ⟨rfl, rfl, rfl, by decide +kernel, rfl, by decide +kernel, by decide +kernel⟩
theorem ok_lateness {P : Program} {w : World} {K : PySem.W.Frag} {mg : Str → Option Value} {base : Heap} (T : Txt P K mg) : FnR P w K mg base CX0 5 (ga K "lateness") (sp_lateness K) := by
  have nd := sc_lateness.nd
  refine fnR T.d_lateness sc_lateness (fun _ _ _ _ _ _ us hl => match us, hl with | [_, _, _], _ => rfl) (fun vs H Q E h => ?_) fun cdv A outer s H vs Q E hr h => ⟨_, (pss_cons (ps_expr (pe_cal (ok_need_table T) (hr.mono (by decide)) (kpOf T.d_need_table) rfl T.g_need_table pass0 (pa_cons (pv 0) pa_nil))) (pss_cons (ps_set (i := 3) nd rfl (by first | exact Or.inl rfl | exact Or.inr rfl) (pe_cal (ok_needed_pauses T) (hr.mono (by decide)) (kpOf T.d_needed_pauses) rfl T.g_needed_pauses pass0 (pa_cons (pv 1) pa_nil))) (pss_cons (ps_expr (pe_cal (ok_need_stocks T) (hr.mono (by decide)) (kpOf T.d_need_stocks) rfl T.g_need_stocks pass0 (pa_cons (pv 0) (pa_cons (pv 2) pa_nil)))) (pss_cons (ps_set (i := 4) nd rfl (by first | exact Or.inl rfl | exact Or.inr rfl) pe_non) (pss_cons (ps_for PassesOwn.never rfl (pi_tup (pe_fld (pv 0) rfl)) (pg_name (i := 5) nd rfl (by first | exact Or.inl rfl | exact Or.inr rfl)) (pss_cons (ps_set (i := 6) nd rfl (by first | exact Or.inl rfl | exact Or.inr rfl) (pe_methR (pe_cal (ok_stair_of T) (hr.mono (by decide)) (kpOf T.d_stair_of) rfl T.g_stair_of pass0 (pa_cons (pv 0) (pa_cons (pv 5) pa_nil))) T.cl_Stair T.me_Stair_longest_pause (ok_Stair_longest_pause T) (hr.mono (by decide)) pass0 (pa_cons (pe_dget (hu_of hr) (pv 2) (pv 5) (fun _ _ => rfl)) pa_nil))) (pss_one (ps_if (pt_cmpR op_notN (pv 6) pe_non (nomark _)) (pss_cons (ps_set (i := 7) nd rfl (by first | exact Or.inl rfl | exact Or.inr rfl) (pe_ifExp (pt_cmpR op_ge (pv 6) (pe_ixO (ok_Pauses_getitem T) (hr.mono (by decide)) pass0 T.fi_Pauses_getitem T.fn_Pauses_getitem T.if_Pauses_getitem (pv 3) (pv 5)) (nomark _)) (pe_op op_sub (pv 6) (pe_ixO (ok_Pauses_getitem T) (hr.mono (by decide)) pass0 T.fi_Pauses_getitem T.fn_Pauses_getitem T.if_Pauses_getitem (pv 3) (pv 5))) (pe_un un_neg pe_int))) (pss_one (ps_set (i := 4) nd rfl (by first | exact Or.inl rfl | exact Or.inr rfl) (pe_ifExp (PW.pt (pw_or (pt_cmpR op_isN (pv 4) pe_non (nomark _)) (pw_or1 (pt_cmpR op_lt (pv 7) (pv 4) (nomark _))))) (pv 7) (pv 4))))) pss_nil)))) (pss_one (ps_ret (pv 4)))))))), ?_⟩
  · obtain ⟨_, _, _, _, _, _, rfl, _⟩ := h; rfl
  · obtain ⟨x, y, d, tab, told, sz, rfl, ht, hp, hd, ok, hq⟩ := h
    obtain ⟨a, da, dy, n, pl, r, ras, rfl, ha, hdy, hn, hpl, hr2, hf⟩ := id ht
    obtain ⟨b, db, pd, pr, kvs, rfl, hb, _, _⟩ := id hp
    refine ⟨_, rfl, a, da, _, rfl, ha, _, rfl, b, db, _, rfl, hb, _, rfl, _, rfl, _, d, tab, sz, rfl, ht, hd, ok.nd, ok.pn, ok.pc, ok.mem, ok.b, fun H1 s1 => ?_⟩
    have hpl1 := s1 _ _ hpl
    refine ⟨_, rfl, _, _, _, _, _, rfl, s1 _ _ ha, T.cl_Table, T.na_Table_places, rfl, pl, rfl, ⟨_, .inl (.inl hpl1)⟩, for_tup (K := K) (fun i σ H' => Same H1 H' ∧ ∃ u1 u2 u3, σ = [some (.ref a), some (.ref b), some (.ref d), some (.ref b), some (optV ((tab.places.take i).foldl (fun f p => minOpt f (lateV (stairC (plOf tab p)) (pfOf sz p) (told p))) none)), u1, u2, u3]) ⟨Same.refl _, _, _, _, rfl⟩ (fun i σ H' _ h => .inl (.inl (h.1 _ _ hpl1))) (fun i v σ H2 hv hpv => ?_) fun σ H2 hpv => ?_⟩
    · obtain ⟨s2, u1, u2, u3, rfl⟩ := hpv
      obtain ⟨p, hpp, rfl⟩ : ∃ p, tab.places[i]? = some p ∧ v = .str p := by
        rw [List.getElem?_map] at hv
        cases e : tab.places[i]? with
        | none => rw [e] at hv; cases hv
        | some z => rw [e] at hv; exact ⟨z, rfl, (Option.some.inj hv).symm⟩
      have hpm := List.mem_of_getElem? hpp
      have s12 := Same.trans s1 s2
      have stp : (tab.places.take (i + 1)).foldl (fun f p => minOpt f (lateV (stairC (plOf tab p)) (pfOf sz p) (told p))) none = minOpt ((tab.places.take i).foldl (fun f p => minOpt f (lateV (stairC (plOf tab p)) (pfOf sz p) (told p))) none) (lateV (stairC (plOf tab p)) (pfOf sz p) (told p)) := by
        rw [List.take_add_one, hpp, List.foldl_append]
        rfl
      rw [stp]
      generalize (tab.places.take i).foldl (fun f p => minOpt f (lateV (stairC (plOf tab p)) (pfOf sz p) (told p))) none = fo
      refine ⟨_, rfl, _, rfl, _, tab, p, rfl, ht.si (SameI.of s12), ok.f, ok.p p, fun H3 st ys s3 h1 h2 => ?_⟩
      obtain ⟨o1, o2, o3⟩ := ok.s p hpm st h2
      rw [← stairC_eq h2]
      obtain ⟨b1, db1, r1, rfl, hb1, _⟩ := id h1
      have s13 := Same.trans s12 s3
      obtain ⟨g1, g2⟩ := dget_sz (s13 _ _ hd) ((ok.mem p).mpr hpm)
      have hbb := ok.b _ g2
      have b63 : (1000000000000 : Int) + 1000 < 2 ^ 63 := by decide
      refine ⟨b1, db1, _, rfl, hb1, rfl, _, rfl, _, rfl, d, _, rfl, g1, .ref b1, st, _, rfl, h1, o1, o2, by omega, _, rfl, rfl, ?_⟩
      unfold lateV
      cases hlg : longestOf st (pfOf sz p) with
      | none =>
        exact ⟨false, rfl, iteF ⟨Same.trans s2 s3, _, _, _, rfl⟩⟩
      | some lg =>
        have hp3 : PausesAt K H3 told (.ref b) := hp.si (SameI.of s13)
        refine ⟨true, rfl, iteT ⟨_, rfl, _, rfl, _, rfl, b, db, _, rfl, s13 _ _ hb, .ref b, told, p, rfl, hp3, ok.n p hpm, fun H4 s4 => ⟨_, _, rfl, rfl, _, rfl, ?_⟩⟩⟩
        have s14 := Same.trans s13 s4
        have s24 := Same.trans s3 s4
        have tail : ∀ (H5 : Hp) (lv : Int), Same H2 H5 → (tIf (tOr (tTest (tOp (fun x y H Q => y = V.non ∧ Q (.bl (decide (x = V.non))) H) (tVar 4) (tC V.non))) (tTest (tOp (rI0 fun i j => .bl (decide (i < j))) (tVar 7) (tVar 4)))) (tVar 7) (tVar 4)) [some (.ref a), some (.ref b), some (.ref d), some (.ref b), some (optV fo), some (.str p), some (.int lg), some (.int lv)] H5
            (fun x H6 => Same H1 H6 ∧ ∃ u1 u2 u3, [some (.ref a), some (.ref b), some (.ref d), some (.ref b), some x, some (.str p), some (.int lg), some (.int lv)] = [some (.ref a), some (.ref b), some (.ref d), some (.ref b), some (optV (minOpt fo (some lv))), u1, u2, u3]) := fun H5 lv s5 => by
          cases fo with
          | none => exact ⟨_, rfl, rfl, true, rfl, iteT (iteT ⟨_, rfl, Same.trans s2 s5, _, _, _, rfl⟩)⟩
          | some f =>
            refine ⟨_, rfl, rfl, false, rfl, iteF ⟨_, rfl, _, rfl, _, _, rfl, rfl, _, rfl, ?_⟩⟩
            have e : minOpt (some f) (some lv) = some (if lv < f then lv else f) := rfl
            rw [e]
            by_cases q : lv < f
            · rw [decide_eq_true q, if_pos q]
              exact iteT ⟨_, rfl, Same.trans s2 s5, _, _, _, rfl⟩
            · rw [decide_eq_false q, if_neg q]
              exact iteF ⟨_, rfl, Same.trans s2 s5, _, _, _, rfl⟩
        show (if decide (told p ≤ lg) = true then _ else _)
        have eM : (Option.map (fun lg => if told p ≤ lg then lg - told p else -1) (some lg)) = some (if told p ≤ lg then lg - told p else -1) := rfl
        by_cases hge : told p ≤ lg
        · rw [decide_eq_true hge]
          have hp4 : PausesAt K H4 told (.ref b) := hp.si (SameI.of s14)
          rw [if_pos hge] at eM
          refine iteT ⟨_, rfl, _, rfl, _, rfl, b, db, _, rfl, s14 _ _ hb, .ref b, told, p, rfl, hp4, ok.n p hpm, fun H5 s5 => ⟨_, _, rfl, rfl, ?_⟩⟩
          have z := tail H5 (lg - told p) (Same.trans s24 s5)
          rw [← eM] at z
          exact z
        · rw [decide_eq_false hge]
          rw [if_neg hge] at eM
          refine iteF ⟨_, rfl, ?_⟩
          have z := tail H4 (-1) s24
          rw [← eM] at z
          exact z
    · obtain ⟨s2, u1, u2, u3, rfl⟩ := hpv
      rw [List.length_map, List.take_length]
      exact ⟨_, rfl, hq _ (Same.trans s1 s2)⟩
end K6
set_option Elab.async false
set_option linter.all false
set_option maxRecDepth 100000
set_option maxHeartbeats 4000000
namespace K6
open PySem PySem.Spec PyProof.Rows L2
open He (ga ma)

/-! ### the law's own defs: the pen -/
def PenAt (H : Hp) (p l : Addr) (B : Nat) : Prop := ∃ (spot rest : Int) (ms : List Int), H p = some (.lst [.ref l, .int spot, .int rest]) ∧ H l = some (.lst (ms.map V.int)) ∧ l ≠ p ∧ 0 ≤ spot ∧ spot ≤ (B : Nat)
theorem SameI.of_sx {H H' : Hp} {p : Addr} {xs : List V} (hp : H p = some (.lst xs)) (s : SameX p H H') : SameI H H' := fun b o e n => s b o (fun z => by
  rw [z, hp] at e
  exact n xs (Option.some.inj e).symm) e
theorem PenAt.sx {H H' : Hp} {p l : Addr} {B : Nat} (h : PenAt H p l B) (s : SameX p H H') : SameI H H' := by
  obtain ⟨spot, rest, ms, h1, _⟩ := h
  exact SameI.of_sx h1 s
theorem PenAt.s {H H' : Hp} {p l : Addr} {B : Nat} (h : PenAt H p l B) (s : Same H H') : PenAt H' p l B := by
  obtain ⟨spot, rest, ms, h1, h2, h3, h4, h5⟩ := h
  exact ⟨spot, rest, ms, s _ _ h1, s _ _ h2, h3, h4, h5⟩
theorem PenAt.mono {H : Hp} {p l : Addr} {B C : Nat} (h : PenAt H p l B) (hBC : B ≤ C) : PenAt H p l C := by
  obtain ⟨spot, rest, ms, h1, h2, h3, h4, h5⟩ := h
  exact ⟨spot, rest, ms, h1, h2, h3, h4, by omega⟩
def sp_pen (K : PySem.W.Frag) : Sp := fun vs H Q _ => ∃ (a : Addr) (ns : List Int), vs = [.ref a] ∧ SqL K H a (ns.map V.int) ∧ ∀ H' p l, Same H H' → H p = none → H l = none → PenAt H' p l 0 → Q (.ref p) H'
def sp_draw (K : PySem.W.Frag) : Sp := fun vs H Q _ => ∃ p many l B, vs = [.ref p, .int many] ∧ PenAt H p l B ∧ 1 ≤ many ∧ many < 2 ^ 60 ∧ B < 2 ^ 20 ∧ ∀ H' r, SameX p H H' → PenAt H' p l (B + 1) → 0 ≤ r → r < many → Q (.int r) H'
def sp_pick (K : PySem.W.Frag) : Sp := fun vs H Q _ => ∃ p q xs l B, vs = [.ref p, .ref q] ∧ PenAt H p l B ∧ H q = some (.lst xs) ∧ q ≠ p ∧ 1 ≤ xs.length ∧ xs.length ≤ 1000 ∧ B < 2 ^ 20 ∧ ∀ H' v, SameX p H H' → PenAt H' p l (B + 1) → v ∈ xs → Q v H'
def sp_takes (K : PySem.W.Frag) : Sp := fun vs H Q _ => ∃ p size l B, vs = [.ref p, .int size] ∧ PenAt H p l B ∧ 5 ≤ size ∧ size ≤ 24 ∧ B + 10 < 2 ^ 20 ∧ ∀ H' r, SameX p H H' → PenAt H' p l (B + 4) → 1 ≤ r → r ≤ 3 * size → Q (.int r) H'
theorem cutV_ints (ns : List Int) (lo hi : Option Int) : ∃ ms : List Int, cutV (ns.map V.int) lo hi = ms.map V.int := by
  unfold cutV
  exact ⟨_, by rw [List.map_take, List.map_drop]⟩
theorem dp_list {K : PySem.W.Frag} {H : Hp} {l : Addr} {ms : List Int} (h : H l = some (.lst (ms.map V.int))) : Dp K H (.ref l) (.list (ms.map .int)) := .lst (.inl (.inl h)) (dp_ints ms)
theorem shaped_list (ms : List Int) : SeqAt.shaped (.list (ms.map .int)) = true := by
  have h1 : (PyData.list (ms.map .int)).canLay0 = true := by simp [PyData.canLay0, canLay_ints]
  have h2 : (PyData.list (ms.map .int)).depth = 1 := by simp [PyData.depth, depth_ints]
  show ((PyData.list (ms.map .int)).canLay0 && decide ((PyData.list (ms.map .int)).depth ≤ 64)) = true
  rw [h1, h2]
  decide
theorem iteDF {c A B : Prop} [Decidable c] (hc : ¬ c) (h : B) : if decide c = true then A else B := by rw [decide_eq_false hc]; exact iteF h
theorem iteDT {c A B : Prop} [Decidable c] (hc : c) (h : A) : if decide c = true then A else B := by rw [decide_eq_true hc]; exact iteT h
theorem blend_bound {bb spot : Int} (h0 : 0 ≤ bb) (h1 : bb < 2147483629) (s0 : 0 ≤ spot) (s1 : spot < 1048576) : 0 ≤ bb * (2 * spot + 201) + 66581 * spot * spot + 111 ∧ bb * (2 * spot + 201) + 66581 * spot * spot + 111 < 2 ^ 63 := by
  have a1 : 0 ≤ bb * (2 * spot + 201) := Int.mul_nonneg h0 (by omega)
  have a2 : bb * (2 * spot + 201) ≤ 2147483629 * 2097353 := Int.mul_le_mul (by omega) (by omega) (by omega) (by decide)
  have a3 : 0 ≤ 66581 * spot * spot := Int.mul_nonneg (by omega) s0
  have a4 : 66581 * spot * spot ≤ (66581 * 1048576) * 1048576 := Int.mul_le_mul (by omega) (by omega) s0 (by decide)
  have a5 : (2147483629 : Int) * 2097353 + (66581 * 1048576) * 1048576 + 111 < 2 ^ 63 := by decide
  omega
theorem pow_bound {i : Int} (h0 : 0 ≤ i) (h1 : i < 2 ^ 63) : i.natAbs < 2 ^ 64 := by
  have : (2 : Int) ^ 63 < 2 ^ 64 := by decide
  omega

abbrev N_law_pen : List Str := ["_law_script"]
theorem sc_law_pen : FnScope N_law_pen ["_law_script"] (defScope s_law_pen) := ⟨rfl, rfl, rfl, by decide +kernel, rfl, by decide +kernel, by decide +kernel⟩
theorem ok_law_pen {P : Program} {w : World} {K : PySem.W.Frag} {mg : Str → Option Value} {base : Heap} (T : Txt P K mg) : FnR P w K mg base CX0 1 (ga K "_law_pen") (sp_pen K) := by
  have nd := sc_law_pen.nd
  refine fnR T.d_law_pen sc_law_pen (fun _ _ _ _ _ _ us hl => match us, hl with | [_], _ => rfl) (fun vs H Q E h => ?_) fun cdv A outer s H vs Q E hr h => ⟨_, (pss_one (ps_ret (pe_lst (pa_cons (pe_callTy call_list_of rfl T.f_list bt_list (pa_cons (pe_slice sl_list (pv 0) po_none (po_some pe_int)) pa_nil)) (pa_cons pe_int (pa_cons pe_int pa_nil)))))), ?_⟩
  · obtain ⟨_, _, rfl, _⟩ := h; rfl
  · obtain ⟨a, ns, rfl, hs, hq⟩ := h
    obtain ⟨ms, hms⟩ := cutV_ints ns none (some 63)
    refine ⟨_, rfl, 63, rfl, a, _, rfl, hs, fun q hq1 => ⟨q, _, rfl, .inl (.inl (.inl upd_same)), fun l hl => ⟨(by show 3 ≤ sizeLine; decide), fun p hp => ?_⟩⟩⟩
    have s1 := same_up (o := .lst (cutV (ns.map V.int) none (some 63))) (same_upd (o := .lst (cutV (ns.map V.int) none (some 63))) hq1) hl
    have lp : l ≠ p := fun z => by rw [← z, upd_same] at hp; cases hp
    refine hq _ p l (same_up s1 hp) (Same.free s1 hp) (Same.free (same_upd hq1) hl) ⟨0, 0, ms, upd_same, ?_, lp, Int.le_refl _, by simp⟩
    rw [upd_ne lp, upd_same, hms]
abbrev N_law_draw : List Str := ["_law_pen_here", "_law_many", "_law_digit", "_law_spot", "_law_cell", "_law_great", "_law_blent"]
theorem sc_law_draw : FnScope N_law_draw ["_law_pen_here", "_law_many"] (defScope s_law_draw) := ⟨rfl, rfl, rfl, by decide +kernel, rfl, by decide +kernel, by decide +kernel⟩
theorem ok_law_draw {P : Program} {w : World} {K : PySem.W.Frag} {mg : Str → Option Value} {base : Heap} (T : Txt P K mg) : FnR P w K mg base CX0 1 (ga K "_law_draw") (sp_draw K) := by
  have nd := sc_law_draw.nd
  refine fnR T.d_law_draw sc_law_draw (fun _ _ _ _ _ _ us hl => match us, hl with | [_, _], _ => rfl) (fun vs H Q E h => ?_) fun cdv A outer s H vs Q E hr h => ⟨_, (pss_cons (ps_if (pt_cmpR op_gt (pe_ix ix_list (pv 0) pe_int (fun _ _ => rfl)) pe_int (nomark _)) (pss_cons (ps_set (i := 2) nd rfl (by first | exact Or.inl rfl | exact Or.inr rfl) (pe_op op_mod (pe_callTy call_int1 rfl T.f_int bt_int (pa_cons (pe_ix ix_list (pv 0) pe_int (fun _ _ => rfl)) pa_nil)) (pv 1))) (pss_cons (ps_asg (pe_op op_fdivW (pe_callTy call_int1 rfl T.f_int bt_int (pa_cons (pe_ix ix_list (pv 0) pe_int (fun _ _ => rfl)) pa_nil)) (pv 1)) (pg_sub (pv 0) pe_int set_list)) (pss_one (ps_ret (pv 2))))) pss_nil) (pss_cons (ps_set (i := 3) nd rfl (by first | exact Or.inl rfl | exact Or.inr rfl) (pe_ix ix_list (pv 0) pe_int (fun _ _ => rfl))) (pss_cons (ps_asg (pe_op op_add (pv 3) pe_int) (pg_sub (pv 0) pe_int set_list)) (pss_cons (ps_set (i := 4) nd rfl (by first | exact Or.inl rfl | exact Or.inr rfl) (pe_op op_add (pe_op op_mulW pe_int (pv 3)) pe_int)) (pss_cons (ps_if (pt_cmpR (op_neD hr.units) (pe_ix ix_list (pv 0) pe_int (fun _ _ => rfl)) (pe_lst pa_nil) (nomark _)) (pss_one (ps_set (i := 4) nd rfl (by first | exact Or.inl rfl | exact Or.inr rfl) (pe_ix ix_list (pe_ix ix_list (pv 0) pe_int (fun _ _ => rfl)) (pe_op op_mod (pe_callTy call_int1 rfl T.f_int bt_int (pa_cons (pv 3) pa_nil)) (pe_callB call_lenS rfl T.f_len bt_len (pa_cons (pe_ix ix_list (pv 0) pe_int (fun _ _ => rfl)) pa_nil))) (fun _ _ => rfl)))) pss_nil) (pss_cons (ps_if (PW.pt (pw_and (pt_cmpR op_lt (pv 3) (pe_callB call_lenS rfl T.f_len bt_len (pa_cons (pe_ix ix_list (pv 0) pe_int (fun _ _ => rfl)) pa_nil)) (nomark _)) (pw_and1 (pt_cmpR op_ge (pe_callB call_abs rfl T.f_abs bt_abs (pa_cons (pv 4) pa_nil)) (pe_op op_pow pe_int pe_int) (nomark _))))) (pss_cons (ps_set (i := 5) nd rfl (by first | exact Or.inl rfl | exact Or.inr rfl) (pe_op op_add (pe_op op_mul pe_int (pe_op op_sub (pe_callB call_abs rfl T.f_abs bt_abs (pa_cons (pv 4) pa_nil)) (pe_op op_pow pe_int pe_int))) (pe_callTy call_int1 rfl T.f_int bt_int (pa_cons (pe_cmpR op_lt (pv 4) pe_int (nomark _)) pa_nil)))) (pss_cons (ps_asg (pe_op op_fdivW (pe_callTy call_int1 rfl T.f_int bt_int (pa_cons (pv 5) pa_nil)) (pv 1)) (pg_sub (pv 0) pe_int set_list)) (pss_one (ps_ret (pe_op op_mod (pe_callTy call_int1 rfl T.f_int bt_int (pa_cons (pv 5) pa_nil)) (pv 1)))))) pss_nil) (pss_cons (ps_set (i := 6) nd rfl (by first | exact Or.inl rfl | exact Or.inr rfl) (pe_op op_mod (pe_callTy call_int1 rfl T.f_int bt_int (pa_cons (pe_op op_pow (pe_op op_add (pe_op op_add (pe_op op_mod (pe_callTy call_int1 rfl T.f_int bt_int (pa_cons (pv 4) pa_nil)) pe_int) (pe_op op_mulW pe_int (pv 3))) pe_int) pe_int) pa_nil)) pe_int)) (pss_cons (ps_set (i := 6) nd rfl (by first | exact Or.inl rfl | exact Or.inr rfl) (pe_op op_mod (pe_callTy call_int1 rfl T.f_int bt_int (pa_cons (pe_op op_pow (pe_op op_add (pe_op op_add (pe_op op_mulW (pv 6) (pe_op op_add (pe_op op_mulW pe_int (pv 3)) pe_int)) (pe_op op_mulW (pe_op op_mulW pe_int (pv 3)) (pv 3))) pe_int) pe_int) pa_nil)) pe_int)) (pss_one (ps_ret (pe_op op_mod (pe_callTy call_int1 rfl T.f_int bt_int (pa_cons (pe_op op_fdivW (pv 6) pe_int) pa_nil)) (pv 1)))))))))))), ?_⟩
  · obtain ⟨_, _, _, _, rfl, _⟩ := h; rfl
  · obtain ⟨p, many, l, B, rfl, ⟨spot, rest, ms, hp, hl, lp, h0, hB⟩, hm1, hm2, hB2, hq⟩ := h
    have m64 : many.natAbs < 2 ^ 64 := by
      have : (2 : Int) ^ 60 < 2 ^ 64 := by decide
      omega
    have sp20 : spot < 2 ^ 20 := by
      have : ((B : Nat) : Int) < 2 ^ 20 := by exact_mod_cast hB2
      omega
    have fin : ∀ (H2 : Hp) (sp2 rs : Int) (x : Int), SameX p H H2 → H2 p = some (.lst [.ref l, .int sp2, .int rs]) → 0 ≤ sp2 → sp2 ≤ spot + 1 → Q (.int (x % many)) H2 := fun H2 sp2 rs x s e a b =>
      hq H2 _ s ⟨sp2, rs, ms, e, s _ _ lp hl, lp, a, by omega⟩ (Int.emod_nonneg _ (by omega)) (Int.emod_lt_of_pos _ (by omega))
    refine ⟨_, rfl, p, _, _, _, rfl, rfl, .inl (.inl hp), rfl, _, _, rfl, rfl, _, rfl, ?_⟩
    by_cases hr0 : 0 < rest
    · rw [decide_eq_true hr0]
      refine iteT ⟨_, rfl, p, _, _, _, rfl, rfl, .inl (.inl hp), rfl, .inl ⟨_, rfl, _, rfl, _, _, rfl, rfl, by show (0 : Int) < many; omega, ?_⟩⟩
      refine ⟨_, rfl, p, _, _, _, rfl, rfl, .inl (.inl hp), rfl, .inl ⟨_, rfl, _, rfl, _, _, rfl, rfl, wide_div (by omega) m64 (by decide) (by decide), _, rfl, p, _, _, _, rfl, rfl, hp, rfl, ?_⟩⟩
      exact ⟨_, rfl, fin _ spot (rest / many) rest sameX_upd upd_same h0 (by omega)⟩
    · rw [decide_eq_false hr0]
      refine iteF ⟨_, rfl, p, _, _, _, rfl, rfl, .inl (.inl hp), rfl, ?_⟩
      refine ⟨_, rfl, _, _, rfl, rfl, _, rfl, p, _, _, _, rfl, rfl, hp, rfl, ?_⟩
      have hp1 : (upd H p (.lst [.ref l, .int (spot + 1), .int rest])) p = some (.lst [.ref l, .int (spot + 1), .int rest]) := upd_same
      have sx1 : SameX p H (upd H p (.lst [.ref l, .int (spot + 1), .int rest])) := sameX_upd
      have hl1 := sx1 _ _ lp hl
      have n1 : (48229 : Int).natAbs < 2 ^ 64 := by decide
      have ns : spot.natAbs < 2 ^ 64 := by
        have : (2 : Int) ^ 20 < 2 ^ 64 := by decide
        omega
      refine ⟨_, rfl, _, _, rfl, rfl, wide_mul n1 ns (by decide) (by decide) (by decide), _, _, rfl, rfl, ?_⟩
      have s20 : spot < 1048576 := by
        have : (2 : Int) ^ 20 = 1048576 := by decide
        omega
      have ns2 : (2 * spot + 201).natAbs < 2 ^ 64 := pow_bound (by omega) (by have : (2 : Int) ^ 63 = 9223372036854775808 := by decide
                                                                              omega)
      have ns3 : (66581 * spot).natAbs < 2 ^ 64 := pow_bound (by omega) (by have : (2 : Int) ^ 63 = 9223372036854775808 := by decide
                                                                            omega)
      have bb1 : ∀ c : Int, (c % 2147483587 + 64669 * spot + 1321).natAbs < 2 ^ 64 ∧ True := fun c => ⟨pow_bound (by have := Int.emod_nonneg c (show (2147483587 : Int) ≠ 0 by decide); omega) (by
        have := Int.emod_lt_of_pos c (show (0 : Int) < 2147483587 by decide)
        have : (2 : Int) ^ 63 = 9223372036854775808 := by decide
        omega), trivial⟩
      have bb2 : ∀ c : Int, (c % 2147483629).natAbs < 2 ^ 64 := fun c => pow_bound (Int.emod_nonneg c (by decide)) (by
        have := Int.emod_lt_of_pos c (show (0 : Int) < 2147483629 by decide)
        have : (2 : Int) ^ 63 = 9223372036854775808 := by decide
        omega)
      have bb3 : ∀ c : Int, ((c % 2147483629) * (2 * spot + 201) + 66581 * spot * spot + 111).natAbs < 2 ^ 64 := fun c => by
        have h := blend_bound (Int.emod_nonneg c (show (2147483629 : Int) ≠ 0 by decide)) (Int.emod_lt_of_pos c (by decide)) h0 s20
        exact pow_bound h.1 h.2
      have p18 : CPow 10 18 := ⟨by decide, by decide, by decide⟩
      refine ⟨_, rfl, p, _, _, _, rfl, rfl, .inl (.inl hp1), rfl, (by show 0 ≤ sizeLine; decide), fun e he => ⟨.list (ms.map .int), .list [], dp_list (same_upd he _ _ hl1), .lst (.inl (.inl upd_same)) .nil, shaped_list ms, shaped_list [], _, rfl, ?_⟩⟩
      have sx2 : SameX p H (upd (upd H p (.lst [.ref l, .int (spot + 1), .int rest])) e (.lst [])) := sameX_trans sx1 (sameX_of (same_upd he))
      have hp2 := same_upd (o := .lst []) he _ _ hp1
      have hl2 := same_upd (o := .lst []) he _ _ hl1
      have fin2 : ∀ (g : Int), SameX p H (upd (upd (upd H p (.lst [.ref l, .int (spot + 1), .int rest])) e (.lst [])) p (.lst [.ref l, .int (spot + 1), .int (g / many)])) ∧ upd (upd (upd H p (.lst [.ref l, .int (spot + 1), .int rest])) e (.lst [])) p (.lst [.ref l, .int (spot + 1), .int (g / many)]) p = some (.lst [.ref l, .int (spot + 1), .int (g / many)]) := fun g => ⟨sameX_trans sx2 sameX_upd, upd_same⟩
      cases ms with
      | nil =>
        refine iteF ⟨_, rfl, _, rfl, p, _, _, _, rfl, rfl, .inl (.inl hp2), rfl, l, _, rfl, .inl (.inl (.inl hl2)), _, _, rfl, rfl, _, rfl, ?_⟩
        exact iteDF (by show ¬ (spot < 0); omega) (iteF ⟨_, rfl, .inl ⟨_, rfl, _, _, rfl, rfl, (by show (0 : Int) < 2147483587; decide), _, rfl, _, _, rfl, rfl, wide_mul (show (64669 : Int).natAbs < 2 ^ 64 by decide) ns (by decide) (by decide) (by decide), _, _, rfl, rfl, _, _, rfl, rfl, _, _, rfl, rfl, ⟨by decide, by decide, (bb1 _).1⟩, .inl ⟨_, rfl, _, _, rfl, rfl, (by show (0 : Int) < 2147483629; decide), _, rfl, _, rfl, _, _, rfl, rfl, wide_mul (show (2 : Int).natAbs < 2 ^ 64 by decide) ns (by decide) (by decide) (by decide), _, _, rfl, rfl, _, _, rfl, rfl, wide_mul (bb2 _) ns2 (by decide) (by decide) (by decide), _, rfl, _, _, rfl, rfl, wide_mul (show (66581 : Int).natAbs < 2 ^ 64 by decide) ns (by decide) (by decide) (by decide), _, rfl, _, _, rfl, rfl, wide_mul ns3 ns (by decide) (by decide) (by decide), _, _, rfl, rfl, _, _, rfl, rfl, _, _, rfl, rfl, ⟨by decide, by decide, bb3 _⟩, .inl ⟨_, rfl, _, _, rfl, rfl, (by show (0 : Int) < 2147483579; decide), _, rfl, _, _, rfl, rfl, wide_div (by decide) (show (32 : Int).natAbs < 2 ^ 64 by decide) (by decide) (by decide), .inl ⟨_, rfl, _, rfl, _, _, rfl, rfl, (by show (0 : Int) < many; omega), fin _ (spot + 1) rest _ sx2 hp2 (by omega) (by omega)⟩⟩⟩⟩⟩)
      | cons m0 ms =>
        refine iteT ?_
        have hlen : 0 < (((m0 :: ms).map V.int).length : Nat) := by simp
        have hix : (spot % (((m0 :: ms).map V.int).length : Nat)).toNat < (m0 :: ms).length := by
          have a := Int.emod_lt_of_pos spot (show (0 : Int) < (((m0 :: ms).map V.int).length : Nat) by omega)
          have b := Int.emod_nonneg spot (show ((((m0 :: ms).map V.int).length : Nat) : Int) ≠ 0 by omega)
          rw [List.length_map] at a b ⊢
          omega
        have hat : atI ((m0 :: ms).map V.int) (spot % (((m0 :: ms).map V.int).length : Nat)) = some (.int ((m0 :: ms)[(spot % (((m0 :: ms).map V.int).length : Nat)).toNat])) := by
          have z := atI_nat (xs := (m0 :: ms).map V.int) (j := (spot % (((m0 :: ms).map V.int).length : Nat)).toNat) (v := .int ((m0 :: ms)[(spot % (((m0 :: ms).map V.int).length : Nat)).toNat])) (by rw [List.getElem?_map, List.getElem?_eq_getElem hix]; rfl)
          rw [Int.toNat_of_nonneg (Int.emod_nonneg spot (show ((((m0 :: ms).map V.int).length : Nat) : Int) ≠ 0 by omega))] at z
          exact z
        generalize (m0 :: ms)[(spot % (((m0 :: ms).map V.int).length : Nat)).toNat] = c at hat
        refine ⟨_, rfl, p, _, _, _, rfl, rfl, .inl (.inl hp2), rfl, _, rfl, .inl ⟨_, rfl, _, rfl, p, _, _, _, rfl, rfl, .inl (.inl hp2), rfl, l, _, rfl, .inl (.inl (.inl hl2)), _, _, rfl, rfl, (by show (0 : Int) < (((m0 :: ms).map V.int).length : Nat); omega), l, _, _, _, rfl, rfl, .inl (.inl hl2), hat, ?_⟩⟩
        refine ⟨_, rfl, _, rfl, p, _, _, _, rfl, rfl, .inl (.inl hp2), rfl, l, _, rfl, .inl (.inl (.inl hl2)), _, _, rfl, rfl, _, rfl, ?_⟩
        by_cases c1 : spot < (((m0 :: ms).map V.int).length : Nat)
        · rw [decide_eq_true c1]
          refine iteT ⟨_, rfl, _, rfl, _, _, rfl, rfl, p18, _, _, rfl, rfl, _, rfl, ?_⟩
          by_cases c2 : (10 : Int) ^ (18 : Int).toNat ≤ (if c < 0 then -c else c)
          · rw [decide_eq_true c2]
            refine iteT ⟨_, rfl, _, rfl, _, _, rfl, rfl, p18, _, _, rfl, rfl, _, _, rfl, rfl, .inl ⟨by decide, by decide⟩, _, rfl, _, _, rfl, rfl, .inr ⟨_, rfl, _, _, rfl, rfl, ?_⟩⟩
            refine ⟨_, rfl, .inl ⟨_, rfl, _, rfl, _, _, rfl, rfl, wide_div (by omega) m64 (by decide) (by decide), _, rfl, p, _, _, _, rfl, rfl, hp2, rfl, ?_⟩⟩
            exact ⟨_, rfl, .inl ⟨_, rfl, _, rfl, _, _, rfl, rfl, (by show (0 : Int) < many; omega), fin _ (spot + 1) _ _ (fin2 _).1 (fin2 _).2 (by omega) (by omega)⟩⟩
          · rw [decide_eq_false c2]
            exact iteF ⟨_, rfl, .inl ⟨_, rfl, _, _, rfl, rfl, (by show (0 : Int) < 2147483587; decide), _, rfl, _, _, rfl, rfl, wide_mul (show (64669 : Int).natAbs < 2 ^ 64 by decide) ns (by decide) (by decide) (by decide), _, _, rfl, rfl, _, _, rfl, rfl, _, _, rfl, rfl, ⟨by decide, by decide, (bb1 _).1⟩, .inl ⟨_, rfl, _, _, rfl, rfl, (by show (0 : Int) < 2147483629; decide), _, rfl, _, rfl, _, _, rfl, rfl, wide_mul (show (2 : Int).natAbs < 2 ^ 64 by decide) ns (by decide) (by decide) (by decide), _, _, rfl, rfl, _, _, rfl, rfl, wide_mul (bb2 _) ns2 (by decide) (by decide) (by decide), _, rfl, _, _, rfl, rfl, wide_mul (show (66581 : Int).natAbs < 2 ^ 64 by decide) ns (by decide) (by decide) (by decide), _, rfl, _, _, rfl, rfl, wide_mul ns3 ns (by decide) (by decide) (by decide), _, _, rfl, rfl, _, _, rfl, rfl, _, _, rfl, rfl, ⟨by decide, by decide, bb3 _⟩, .inl ⟨_, rfl, _, _, rfl, rfl, (by show (0 : Int) < 2147483579; decide), _, rfl, _, _, rfl, rfl, wide_div (by decide) (show (32 : Int).natAbs < 2 ^ 64 by decide) (by decide) (by decide), .inl ⟨_, rfl, _, rfl, _, _, rfl, rfl, (by show (0 : Int) < many; omega), fin _ (spot + 1) rest _ sx2 hp2 (by omega) (by omega)⟩⟩⟩⟩⟩
        · rw [decide_eq_false c1]
          exact iteF (iteF ⟨_, rfl, .inl ⟨_, rfl, _, _, rfl, rfl, (by show (0 : Int) < 2147483587; decide), _, rfl, _, _, rfl, rfl, wide_mul (show (64669 : Int).natAbs < 2 ^ 64 by decide) ns (by decide) (by decide) (by decide), _, _, rfl, rfl, _, _, rfl, rfl, _, _, rfl, rfl, ⟨by decide, by decide, (bb1 _).1⟩, .inl ⟨_, rfl, _, _, rfl, rfl, (by show (0 : Int) < 2147483629; decide), _, rfl, _, rfl, _, _, rfl, rfl, wide_mul (show (2 : Int).natAbs < 2 ^ 64 by decide) ns (by decide) (by decide) (by decide), _, _, rfl, rfl, _, _, rfl, rfl, wide_mul (bb2 _) ns2 (by decide) (by decide) (by decide), _, rfl, _, _, rfl, rfl, wide_mul (show (66581 : Int).natAbs < 2 ^ 64 by decide) ns (by decide) (by decide) (by decide), _, rfl, _, _, rfl, rfl, wide_mul ns3 ns (by decide) (by decide) (by decide), _, _, rfl, rfl, _, _, rfl, rfl, _, _, rfl, rfl, ⟨by decide, by decide, bb3 _⟩, .inl ⟨_, rfl, _, _, rfl, rfl, (by show (0 : Int) < 2147483579; decide), _, rfl, _, _, rfl, rfl, wide_div (by decide) (show (32 : Int).natAbs < 2 ^ 64 by decide) (by decide) (by decide), .inl ⟨_, rfl, _, rfl, _, _, rfl, rfl, (by show (0 : Int) < many; omega), fin _ (spot + 1) rest _ sx2 hp2 (by omega) (by omega)⟩⟩⟩⟩⟩)
abbrev N_law_pick : List Str := ["_law_pen_here", "_law_some"]
theorem sc_law_pick : FnScope N_law_pick ["_law_pen_here", "_law_some"] (defScope s_law_pick) := ⟨rfl, rfl, rfl, by decide +kernel, rfl, by decide +kernel, by decide +kernel⟩
theorem ok_law_pick {P : Program} {w : World} {K : PySem.W.Frag} {mg : Str → Option Value} {base : Heap} (T : Txt P K mg) : FnR P w K mg base CX0 2 (ga K "_law_pick") (sp_pick K) := by
  have nd := sc_law_pick.nd
  refine fnR T.d_law_pick sc_law_pick (fun _ _ _ _ _ _ us hl => match us, hl with | [_, _], _ => rfl) (fun vs H Q E h => ?_) fun cdv A outer s H vs Q E hr h => ⟨_, (pss_one (ps_ret (pe_ix ix_list (pv 1) (pe_cal (ok_law_draw T) (hr.mono (by decide)) (kpOf T.d_law_draw) rfl T.g_law_draw pass0 (pa_cons (pv 0) (pa_cons (pe_callB call_lenS rfl T.f_len bt_len (pa_cons (pv 1) pa_nil)) pa_nil))) (fun _ _ => rfl)))), ?_⟩
  · obtain ⟨_, _, _, _, _, rfl, _⟩ := h; rfl
  · obtain ⟨p, q, xs, l, B, rfl, hpen, hq1, qp, hx1, hx2, hB, hq⟩ := h
    refine ⟨_, rfl, _, rfl, _, rfl, q, xs, rfl, .inl (.inl (.inl hq1)), p, _, l, B, rfl, hpen, by omega, ?_, hB, fun H1 r sx hp1 r0 r1 => ?_⟩
    · have : (2 : Int) ^ 60 = 1152921504606846976 := by decide
      omega
    · have hr : r.toNat < xs.length := by omega
      refine ⟨q, xs, r, xs[r.toNat], rfl, rfl, .inl (.inl (sx _ _ qp hq1)), ?_, hq H1 _ sx hp1 (List.getElem_mem hr)⟩
      have z := atI_nat (xs := xs) (j := r.toNat) (v := xs[r.toNat]) (List.getElem?_eq_getElem hr)
      rw [Int.toNat_of_nonneg r0] at z
      exact z
abbrev N_law_takes : List Str := ["_law_pen_here", "_law_size"]
theorem sc_law_takes : FnScope N_law_takes ["_law_pen_here", "_law_size"] (defScope s_law_takes) := ⟨rfl, rfl, rfl, by decide +kernel, rfl, by decide +kernel, by decide +kernel⟩
theorem ok_law_takes {P : Program} {w : World} {K : PySem.W.Frag} {mg : Str → Option Value} {base : Heap} (T : Txt P K mg) : FnR P w K mg base CX0 3 (ga K "_law_takes") (sp_takes K) := by
  have nd := sc_law_takes.nd
  refine fnR T.d_law_takes sc_law_takes (fun _ _ _ _ _ _ us hl => match us, hl with | [_, _], _ => rfl) (fun vs H Q E h => ?_) fun cdv A outer s H vs Q E hr h => ⟨_, (pss_one (ps_ret (pe_cal (ok_law_pick T) (hr.mono (by decide)) (kpOf T.d_law_pick) rfl T.g_law_pick pass0 (pa_cons (pv 0) (pa_cons (pe_lst (pa_cons pe_int (pa_cons (pe_op op_add pe_int (pe_cal (ok_law_draw T) (hr.mono (by decide)) (kpOf T.d_law_draw) rfl T.g_law_draw pass0 (pa_cons (pv 0) (pa_cons (pv 1) pa_nil)))) (pa_cons (pv 1) (pa_cons (pe_op op_add (pe_op op_mulW pe_int (pv 1)) (pe_cal (ok_law_draw T) (hr.mono (by decide)) (kpOf T.d_law_draw) rfl T.g_law_draw pass0 (pa_cons (pv 0) (pa_cons (pv 1) pa_nil)))) (pa_cons (pe_op op_add pe_int (pe_cal (ok_law_draw T) (hr.mono (by decide)) (kpOf T.d_law_draw) rfl T.g_law_draw pass0 (pa_cons (pv 0) (pa_cons pe_int pa_nil)))) pa_nil)))))) pa_nil))))), ?_⟩
  · obtain ⟨_, _, _, _, rfl, _⟩ := h; rfl
  · obtain ⟨p, size, l, B, rfl, hpen, h1, h2, hB, hq⟩ := h
    have b60 : (24 : Int) < 2 ^ 60 := by decide
    have s64 : size.natAbs < 2 ^ 64 := by
      have : (24 : Int) < 2 ^ 64 := by decide
      omega
    refine ⟨_, rfl, _, rfl, _, rfl, p, size, l, B, rfl, hpen, by omega, by omega, by omega, fun H1 r1 sx1 hp1 a1 b1 => ⟨_, _, rfl, rfl, _, rfl, _, rfl, _, _, rfl, rfl, wide_mul (show (2 : Int).natAbs < 2 ^ 64 by decide) s64 (by decide) (by decide) (by decide), _, rfl, _, rfl, p, size, l, B + 1, rfl, hp1, by omega, by omega, by omega, fun H2 r2 sx2 hp2 a2 b2 => ⟨_, _, rfl, rfl, _, rfl, p, 4, l, B + 2, rfl, hp2, by decide, by decide, by omega, fun H3 r3 sx3 hp3 a3 b3 => ⟨_, _, rfl, rfl, (by show 5 ≤ sizeLine; decide), fun q hq1 => ?_⟩⟩⟩⟩
    have sx : SameX p H H3 := sameX_trans sx1 (sameX_trans sx2 sx3)
    have su := same_upd (o := .lst [V.int 1, .int (1 + r1), .int size, .int (2 * size + r2), .int (1 + r3)]) hq1
    obtain ⟨spot, rest, ms, hpp, hrest⟩ := id hp3
    refine ⟨p, q, _, l, B + 3, rfl, hp3.s su, upd_same, fun z => ?_, by show 1 ≤ 5; decide, by show 5 ≤ 1000; decide, by omega, fun H4 v sx4 hp4 hv => ?_⟩
    · rw [z, hpp] at hq1
      cases hq1
    · have sF : SameX p H H4 := sameX_trans sx (sameX_trans (sameX_of su) sx4)
      have key : ∃ r, v = .int r ∧ 1 ≤ r ∧ r ≤ 3 * size := by
        simp only [List.mem_cons, List.not_mem_nil, or_false] at hv
        rcases hv with rfl | rfl | rfl | rfl | rfl
        · exact ⟨_, rfl, by omega, by omega⟩
        · exact ⟨_, rfl, by omega, by omega⟩
        · exact ⟨_, rfl, by omega, by omega⟩
        · exact ⟨_, rfl, by omega, by omega⟩
        · exact ⟨_, rfl, by omega, by omega⟩
      obtain ⟨r, rfl, c1, c2⟩ := key
      exact hq H4 r sF hp4 c1 c2
end K6
set_option Elab.async false
set_option linter.all false
set_option maxRecDepth 100000
set_option maxHeartbeats 4000000
namespace K6
open PySem PySem.Spec PyProof.Rows L2
open He (ga ma)

abbrev sp_law_pen := sp_pen
abbrev sp_law_draw := sp_draw
abbrev sp_law_pick := sp_pick
abbrev sp_law_takes := sp_takes
def left12 : List Str := ["p", "q", "r", "s", "t", "u", "v", "w", "x", "y", "zzzzzzzz", "z"]
def rowsPl : List (List Str) := [["a"], ["a", "b"], ["b", "a", "c"], ["q", "p", "zzzzzzzz", "a"]]
def RawAt (H : Hp) (t : Trip) (y : V) : Prop := ∃ q, y = .ref q ∧ H q = some (.tup [.str t.name, .bl t.run, .str t.start, .int t.leaves, .int t.takes, .str t.goal])
theorem RawAt.si {H H' : Hp} {t : Trip} {y : V} (s : SameI H H') : RawAt H t y → RawAt H' t y := fun ⟨q, e, h⟩ => ⟨q, e, s _ _ h (fun _ z => nomatch z)⟩
structure RawOk (size : Int) (pls : List Str) (t : Trip) : Prop where
  l0 : 0 ≤ t.leaves
  l1 : t.leaves < size
  t0 : 1 ≤ t.takes
  t1 : t.takes ≤ 3 * size
  s : t.start ∈ pls
  g : t.goal ∈ pls
  st : t.run = false → t.goal = t.start
structure Part (size : Int) (pls : List Str) (trips : List Trip) (left : List Str) (n : Nat) : Prop where
  nm : (trips.map (·.name) ++ left).Perm left12
  n : trips.length ≤ n
  ok : ∀ t ∈ trips, RawOk size pls t
theorem Part.left {size : Int} {pls : List Str} {trips : List Trip} {left : List Str} {n : Nat} (h : Part size pls trips left n) (hn : n ≤ 7) : 1 ≤ left.length ∧ left.length ≤ 12 := by
  have e := h.nm.length_eq
  rw [List.length_append, List.length_map] at e
  have e2 : left12.length = 12 := rfl
  have := h.n
  omega
theorem Part.add {size : Int} {pls : List Str} {trips : List Trip} {left left' : List Str} {n : Nat} {t : Trip} (h : Part size pls trips left n) (hl : (t.name :: left').Perm left) (ht : RawOk size pls t) : Part size pls (trips ++ [t]) left' (n + 1) := by
  refine ⟨?_, by rw [List.length_append]; have := h.n; simp; omega, fun t' h' => ?_⟩
  · rw [List.map_append, List.append_assoc]
    exact (List.Perm.append_left _ hl).trans h.nm
  · rcases List.mem_append.mp h' with q | q
    · exact h.ok t' q
    · rw [List.mem_singleton.mp q]
      exact ht
theorem Part.mono {size : Int} {pls : List Str} {trips : List Trip} {left : List Str} {n m : Nat} (h : Part size pls trips left n) (hn : n ≤ m) : Part size pls trips left m := ⟨h.nm, Nat.le_trans h.n hn, h.ok⟩
def Bal (trips : List Trip) : Prop := (trips.map (·.start)).Perm (trips.map (·.goal))
/-- a plain table: {"size": .., "trips": [..]} -/
def PlainAt (H : Hp) (p : Addr) (size : Int) (trips : List Trip) (x : V) : Prop := ∃ a tl ts, x = .ref a ∧ H a = some (.dK [(.inr "size", .int size), (.inr "trips", .ref tl)]) ∧ H tl = some (.lst ts) ∧ tl ≠ p ∧ Fa2 (RawAt H) trips ts
theorem PlainAt.sx {H H' : Hp} {p : Addr} {size : Int} {trips : List Trip} {x : V} {ys : List V} (hp : H p = some (.lst ys)) (s : SameX p H H') : PlainAt H p size trips x → PlainAt H' p size trips x := fun ⟨a, tl, ts, e, h1, h2, h3, h4⟩ =>
  ⟨a, tl, ts, e, s _ _ (fun z => by rw [z, hp] at h1; cases h1) h1, s _ _ h3 h2, h3, h4.imp fun _ _ q => q.si (SameI.of_sx hp s)⟩
structure PlainOk (size : Int) (trips : List Trip) : Prop where
  s1 : 5 ≤ size
  s2 : size ≤ 24
  ne : trips ≠ []
  r : ∃ pls ∈ rowsPl, ∃ left, Part size pls trips left 7
  bal : Bal trips
def sp_plain (K : PySem.W.Frag) : Sp := fun vs H Q _ => ∃ p sz size l B, vs = [.ref p, .ref sz, .int 2] ∧ PenAt H p l B ∧ H sz = some (.lst [.int size]) ∧ sz ≠ p ∧ 5 ≤ size ∧ size ≤ 24 ∧ B + 200 < 2 ^ 20 ∧ ∀ H' trips y, SameX p H H' → PenAt H' p l (B + 100) → PlainOk size trips → PlainAt H' p size trips y → Q y H'
abbrev sp_law_plain := sp_plain
/-- what stands while a plain table is made -/
structure PlSt (H : Hp) (p l ll tl q : Addr) (B : Nat) (left : List Str) (trips : List Trip) (pls : List Str) : Prop where
  pen : PenAt H p l B
  hl : H ll = some (.lst (left.map V.str))
  ht : ∃ ts, H tl = some (.lst ts) ∧ Fa2 (RawAt H) trips ts
  hq : H q = some (.lst (pls.map V.str))
  n1 : ll ≠ p
  n2 : tl ≠ p
  n3 : q ≠ p
  n4 : ll ≠ tl
  n5 : ll ≠ q
  n6 : tl ≠ q
  n7 : ll ≠ l
  n8 : tl ≠ l
theorem PlSt.sx {H H' : Hp} {p l ll tl q : Addr} {B C : Nat} {left : List Str} {trips : List Trip} {pls : List Str} (h : PlSt H p l ll tl q B left trips pls) (s : SameX p H H') (hp : PenAt H' p l C) : PlSt H' p l ll tl q C left trips pls := by
  obtain ⟨ts, h1, h2⟩ := h.ht
  exact ⟨hp, s _ _ h.n1 h.hl, ⟨ts, s _ _ h.n2 h1, h2.imp fun _ _ z => z.si (h.pen.sx s)⟩, s _ _ h.n3 h.hq, h.n1, h.n2, h.n3, h.n4, h.n5, h.n6, h.n7, h.n8⟩
theorem PlSt.same {H H' : Hp} {p l ll tl q : Addr} {B : Nat} {left : List Str} {trips : List Trip} {pls : List Str} (h : PlSt H p l ll tl q B left trips pls) (s : Same H H') : PlSt H' p l ll tl q B left trips pls := h.sx (sameX_of s) (h.pen.s s)
theorem penAt_upd {H : Hp} {p l a : Addr} {B : Nat} {o : HO} (h : PenAt H p l B) (ha : a ≠ p) (hl : a ≠ l) : PenAt (upd H a o) p l B := by
  obtain ⟨spot, rest, ms, h1, h2, h3, h4, h5⟩ := h
  exact ⟨spot, rest, ms, by rw [upd_ne (Ne.symm ha)]; exact h1, by rw [upd_ne (Ne.symm hl)]; exact h2, h3, h4, h5⟩
theorem PlSt.up {H : Hp} {p l ll tl q : Addr} {B C : Nat} {left : List Str} {trips : List Trip} {pls : List Str} (h : PlSt H p l ll tl q B left trips pls) (hc : B ≤ C) : PlSt H p l ll tl q C left trips pls := { h with pen := h.pen.mono hc }
theorem penAt_ne {H : Hp} {p l a : Addr} {B : Nat} (h : PenAt H p l B) (ha : H a = none) : a ≠ p ∧ a ≠ l := by
  obtain ⟨spot, rest, ms, h1, h2, h3, h4, h5⟩ := h
  exact ⟨fun e => (by rw [e, h1] at ha; cases ha), fun e => (by rw [e, h2] at ha; cases ha)⟩
theorem SameI.put' {H : Hp} {a : Addr} {xs : List V} {o : HO} (h : H a = some (.lst xs)) : SameI H (upd H a o) := fun b u e n => by
  have : b ≠ a := fun z => by
    rw [z, h] at e
    exact n xs (Option.some.inj e).symm
  rw [upd_ne this]
  exact e
theorem PenAt.upd_sx {H H1 : Hp} {p l a : Addr} {B : Nat} {o : HO} (h : PenAt H p l B) (ha : a ≠ p) (hl : a ≠ l) (s : SameX p (upd H a o) H1) : SameI (upd H a o) H1 := (penAt_upd h ha hl).sx s
/-- a name out, a trip in -/
theorem PlSt.add {H : Hp} {p l ll tl q : Addr} {B C : Nat} {left left' : List Str} {trips : List Trip} {pls : List Str} {t : Trip} {H1 : Hp} {y : V} (h : PlSt H p l ll tl q B left trips pls) (s : SameX p (upd H ll (.lst (left'.map V.str))) H1) (hp : PenAt H1 p l C) (hy : RawAt H1 t y) :
    ∃ ts, H1 tl = some (.lst ts) ∧ ts.length = trips.length ∧ PlSt (upd H1 tl (.lst (ts ++ [y]))) p l ll tl q C left' (trips ++ [t]) pls := by
  obtain ⟨ts, h1, h2⟩ := h.ht
  have e1 := s _ _ h.n2 ((upd_ne (Ne.symm h.n4)).trans h1)
  have si1 : SameI H (upd H ll (.lst (left'.map V.str))) := SameI.put' h.hl
  have si2 := h.pen.upd_sx h.n1 h.n7 s
  have si3 : SameI H1 (upd H1 tl (.lst (ts ++ [y]))) := SameI.put' e1
  exact ⟨ts, e1, h2.len.symm, penAt_upd hp h.n2 h.n8, by rw [upd_ne h.n4]; exact s _ _ h.n1 upd_same, ⟨_, upd_same, Fa2.snoc (h2.imp fun _ _ z => ((z.si si1).si si2).si si3) (hy.si si3)⟩, by rw [upd_ne (Ne.symm h.n6)]; exact s _ _ h.n3 ((upd_ne (Ne.symm h.n5)).trans h.hq), h.n1, h.n2, h.n3, h.n4, h.n5, h.n6, h.n7, h.n8⟩

theorem SameX.put {p a : Addr} {H H' : Hp} {o : HO} (s : SameX p H H') (h : H a = none) : SameX p H (upd H' a o) := fun b u n e => by
  have : b ≠ a := fun z => by rw [z, h] at e; cases e
  rw [upd_ne this]
  exact s b u n e
theorem SameX.free {p a : Addr} {H H' : Hp} (s : SameX p H H') (n : a ≠ p) (h : H' a = none) : H a = none := by
  cases e : H a with
  | none => rfl
  | some o => rw [s _ _ n e] at h; cases h
theorem ne_fs {H : Hp} {a b : Addr} {o : HO} (h1 : H a = some o) (h2 : H b = none) : b ≠ a := fun e => by
  rw [e, h1] at h2
  cases h2
theorem fa2_mem {α β : Type} {R : α → β → Prop} : ∀ {l : List α} {m : List β} {b : β}, Fa2 R l m → b ∈ m → ∃ a ∈ l, R a b
  | [], [], _, _, h => by cases h
  | a :: l, b :: m, c, ⟨h1, h2⟩, h => by
    cases h with
    | head => exact ⟨a, .head _, h1⟩
    | tail _ h => obtain ⟨a', h3, h4⟩ := fa2_mem h2 h; exact ⟨a', .tail _ h3, h4⟩
theorem eraseIdx_map' {α β : Type} (f : α → β) : ∀ (l : List α) (k : Nat), (l.map f).eraseIdx k = (l.eraseIdx k).map f
  | [], _ => rfl
  | _ :: _, 0 => rfl
  | a :: l, k + 1 => by
    show f a :: (l.map f).eraseIdx k = f a :: (l.eraseIdx k).map f
    rw [eraseIdx_map' f l k]
theorem eraseIdx_perm' {α : Type} : ∀ (l : List α) (k : Nat) (h : k < l.length), (l[k] :: l.eraseIdx k).Perm l
  | [], _, h => absurd h (Nat.not_lt_zero _)
  | _ :: _, 0, _ => List.Perm.refl _
  | a :: l, k + 1, h => by
    show (l[k]'(Nat.lt_of_succ_lt_succ h) :: a :: l.eraseIdx k).Perm (a :: l)
    exact (List.Perm.swap _ _ _).trans ((eraseIdx_perm' l k (Nat.lt_of_succ_lt_succ h)).cons a)
/-- the row turned on by one: what goes before each -/
def rotR (rs : List Str) : List Str := match rs.getLast? with
  | some z => z :: rs.dropLast
  | none => []
theorem rotR_ne {rs : List Str} (h : rs ≠ []) : rotR rs = rs.getLast h :: rs.dropLast := by
  unfold rotR
  rw [List.getLast?_eq_some_getLast h]
theorem rotR_len {rs : List Str} (h : rs ≠ []) : (rotR rs).length = rs.length := by
  rw [rotR_ne h, List.length_cons, List.length_dropLast]
  have : 0 < rs.length := List.length_pos_iff.mpr h
  omega
theorem rotR_perm {rs : List Str} (h : rs ≠ []) : (rotR rs).Perm rs := by
  rw [rotR_ne h]
  have e := List.dropLast_concat_getLast h
  have q : (rs.getLast h :: rs.dropLast).Perm (rs.dropLast ++ [rs.getLast h]) := by
    have := (List.perm_append_comm (l₁ := [rs.getLast h]) (l₂ := rs.dropLast))
    exact this
  rw [e] at q
  exact q
theorem rotR_at {rs : List Str} {i : Nat} (h : i < rs.length) : ∃ z, (rotR rs)[i]? = some z ∧ z ∈ rs ∧ atI (rs.map V.str) ((i : Int) - 1) = some (.str z) := by
  have h0 : rs ≠ [] := fun e => by rw [e] at h; exact absurd h (Nat.not_lt_zero _)
  have hl := rotR_len h0
  have hi : i < (rotR rs).length := by omega
  refine ⟨(rotR rs)[i], List.getElem?_eq_getElem hi, (rotR_perm h0).mem_iff.mp (List.getElem_mem hi), ?_⟩
  cases i with
  | zero =>
    have e1 : (rotR rs)[0] = rs.getLast h0 := by simp [rotR_ne h0]
    rw [e1]
    have e2 : rs.map V.str = rs.dropLast.map V.str ++ [V.str (rs.getLast h0)] := by
      have := congrArg (List.map V.str) (List.dropLast_concat_getLast h0)
      rw [List.map_append] at this
      exact this.symm
    have e3 := atI_last (rs.dropLast.map V.str) (V.str (rs.getLast h0))
    rw [← e2] at e3
    exact e3
  | succ i =>
    have e1 : (rotR rs)[i + 1] = rs[i] := by simp [rotR_ne h0]
    rw [e1]
    have z := atI_nat (xs := rs.map V.str) (j := i) (v := .str rs[i]) (by rw [List.getElem?_map, List.getElem?_eq_getElem (by omega)]; rfl)
    have e2 : (((i + 1 : Nat) : Int) - 1) = (i : Int) := by omega
    rw [e2]
    exact z
theorem row_at {rs : List Str} {i : Nat} (h : i < rs.length) : atI (rs.map V.str) (i : Int) = some (.str rs[i]) := atI_nat (by rw [List.getElem?_map, List.getElem?_eq_getElem h]; rfl)
/-- a name taken out -/
theorem pop_left {left : List Str} {r : Int} (h0 : 0 ≤ r) (h1 : r < (left.length : Nat)) : ∃ z, (left.map V.str)[r.toNat]? = some (.str z) ∧ seqIndex? r (left.map V.str).length = some r.toNat ∧ (left.map V.str).eraseIdx r.toNat = (left.eraseIdx r.toNat).map V.str ∧ (z :: left.eraseIdx r.toNat).Perm left := by
  have h : r.toNat < left.length := by omega
  refine ⟨left[r.toNat], by rw [List.getElem?_map, List.getElem?_eq_getElem h]; rfl, ?_, eraseIdx_map' _ _ _, eraseIdx_perm' _ _ h⟩
  exact PySem.StrLaws.seqIndex_nonneg h0 (by rw [List.length_map]; exact h1)

abbrev N_law_plain : List Str := ["_law_pen_here", "_law_sizes", "_law_rings", "_law_size", "_law_left", "_law_places_here", "_law_trips", "_law_ring", "_law_row", "_law_spot", "_law_at", "_law_name", "_law_here"]
theorem sc_law_plain : FnScope N_law_plain ["_law_pen_here", "_law_sizes", "_law_rings"] (defScope s_law_plain) := ⟨rfl, rfl, rfl, by decide +kernel, rfl, by decide +kernel, by decide +kernel⟩
theorem ok_law_plain {P : Program} {w : World} {K : PySem.W.Frag} {mg : Str → Option Value} {base : Heap} (T : Txt P K mg) : FnR P w K mg base CX0 4 (ga K "_law_plain") (sp_plain K) := by
  have nd := sc_law_plain.nd
  refine fnR T.d_law_plain sc_law_plain (fun _ _ _ _ _ _ us hl => match us, hl with | [_, _, _], _ => rfl) (fun vs H Q E h => ?_) fun cdv A outer s H vs Q E hr h => ⟨_, (pss_cons (ps_par (i := 3) (j := 4) rfl nd rfl rfl (by decide) rfl rfl (pa_cons (pe_cal (ok_law_pick T) (hr.mono (by decide)) (kpOf T.d_law_pick) rfl T.g_law_pick pass0 (pa_cons (pv 0) (pa_cons (pv 1) pa_nil))) (pa_cons (pe_lst (pa_cons pe_str (pa_cons pe_str (pa_cons pe_str (pa_cons pe_str (pa_cons pe_str (pa_cons pe_str (pa_cons pe_str (pa_cons pe_str (pa_cons pe_str (pa_cons pe_str (pa_cons pe_str (pa_cons pe_str pa_nil))))))))))))) pa_nil)) rfl) (pss_cons (ps_set (i := 5) nd rfl (by first | exact Or.inl rfl | exact Or.inr rfl) (pe_cal (ok_law_pick T) (hr.mono (by decide)) (kpOf T.d_law_pick) rfl T.g_law_pick pass0 (pa_cons (pv 0) (pa_cons (pe_lst (pa_cons (pe_lst (pa_cons pe_str pa_nil)) (pa_cons (pe_lst (pa_cons pe_str (pa_cons pe_str pa_nil))) (pa_cons (pe_lst (pa_cons pe_str (pa_cons pe_str (pa_cons pe_str pa_nil)))) (pa_cons (pe_lst (pa_cons pe_str (pa_cons pe_str (pa_cons pe_str (pa_cons pe_str pa_nil))))) pa_nil))))) pa_nil)))) (pss_cons (ps_set (i := 6) nd rfl (by first | exact Or.inl rfl | exact Or.inr rfl) (pe_lst pa_nil)) (pss_cons (ps_for PassesOwn.never rfl (pi_range1 rfl T.f_range (pa_cons (pe_op op_add pe_int (pe_cal (ok_law_draw T) (hr.mono (by decide)) (kpOf T.d_law_draw) rfl T.g_law_draw pass0 (pa_cons (pv 0) (pa_cons (pv 2) pa_nil)))) pa_nil)) (pg_name (i := 7) nd rfl (by first | exact Or.inl rfl | exact Or.inr rfl)) (pss_cons (ps_setLc (i := 8) (own := [("_law_spot", 9)]) (g := gName 9) (tt := tYes) (te := (tCal (sp_law_pick K) E0 (tCons (tVar 0) (tCons (tVar 5) tNil)))) rfl nd rfl rfl (sw_true rfl rfl rfl (by decide +kernel)) (pi_range1 rfl T.f_range (pa_cons (pe_op op_add pe_int (pe_cal (ok_law_draw T) (hr.mono (by decide)) (kpOf T.d_law_draw) rfl T.g_law_draw pass0 (pa_cons (pv 0) (pa_cons pe_int pa_nil)))) pa_nil)) (blkOk_by (N := N_law_plain) (sc := defScope s_law_plain) (by decide +kernel)) (fun _ _ _ _ _ => pg_name (i := 9) nd rfl (by first | exact Or.inl rfl | exact Or.inr rfl)) (fun _ _ _ _ _ => pts_nil) (fun _ _ _ _ _ => (pe_cal (ok_law_pick T) (hr.mono (by decide)) (kpOf T.d_law_pick) rfl T.g_law_pick pass0 (pa_cons (pv 0) (pa_cons (pv 5) pa_nil))))) (pss_one (ps_for PassesOwn.never rfl (pi_range1 rfl T.f_range (pa_cons (pe_callB call_lenS rfl T.f_len bt_len (pa_cons (pv 8) pa_nil)) pa_nil)) (pg_name (i := 10) nd rfl (by first | exact Or.inl rfl | exact Or.inr rfl)) (pss_cons (ps_set (i := 11) nd rfl (by first | exact Or.inl rfl | exact Or.inr rfl) (pe_bm PySem.F.plainAttrs_list PySem.F.slot_list_pop PySem.F.type_list_pop mt_popAt (pv 4) (pa_cons (pe_cal (ok_law_draw T) (hr.mono (by decide)) (kpOf T.d_law_draw) rfl T.g_law_draw pass0 (pa_cons (pv 0) (pa_cons (pe_callB call_lenS rfl T.f_len bt_len (pa_cons (pv 4) pa_nil)) pa_nil))) pa_nil))) (pss_one (ps_expr (pe_bm PySem.F.plainAttrs_list PySem.F.slot_list_append PySem.F.type_list_append mt_append (pv 6) (pa_cons (pe_tup (pa_cons (pv 11) (pa_cons pe_bl (pa_cons (pe_ix ix_list (pv 8) (pe_op op_sub (pv 10) pe_int) (fun _ _ => rfl)) (pa_cons (pe_cal (ok_law_draw T) (hr.mono (by decide)) (kpOf T.d_law_draw) rfl T.g_law_draw pass0 (pa_cons (pv 0) (pa_cons (pv 3) pa_nil))) (pa_cons (pe_cal (ok_law_takes T) (hr.mono (by decide)) (kpOf T.d_law_takes) rfl T.g_law_takes pass0 (pa_cons (pv 0) (pa_cons (pv 3) pa_nil))) (pa_cons (pe_ix ix_list (pv 8) (pv 10) (fun _ _ => rfl)) pa_nil))))))) pa_nil))))))))) (pss_cons (ps_if (pt_cmpR op_eq (pe_cal (ok_law_draw T) (hr.mono (by decide)) (kpOf T.d_law_draw) rfl T.g_law_draw pass0 (pa_cons (pv 0) (pa_cons pe_int pa_nil))) pe_int (nomark _)) (pss_cons (ps_set (i := 12) nd rfl (by first | exact Or.inl rfl | exact Or.inr rfl) (pe_ix ix_tup (pe_cal (ok_law_pick T) (hr.mono (by decide)) (kpOf T.d_law_pick) rfl T.g_law_pick pass0 (pa_cons (pv 0) (pa_cons (pv 6) pa_nil))) pe_int (fun _ _ => rfl))) (pss_one (ps_expr (pe_bm PySem.F.plainAttrs_list PySem.F.slot_list_append PySem.F.type_list_append mt_append (pv 6) (pa_cons (pe_tup (pa_cons (pe_bm PySem.F.plainAttrs_list PySem.F.slot_list_pop PySem.F.type_list_pop mt_popAt (pv 4) (pa_cons (pe_cal (ok_law_draw T) (hr.mono (by decide)) (kpOf T.d_law_draw) rfl T.g_law_draw pass0 (pa_cons (pv 0) (pa_cons (pe_callB call_lenS rfl T.f_len bt_len (pa_cons (pv 4) pa_nil)) pa_nil))) pa_nil)) (pa_cons pe_bl (pa_cons (pv 12) (pa_cons (pe_cal (ok_law_draw T) (hr.mono (by decide)) (kpOf T.d_law_draw) rfl T.g_law_draw pass0 (pa_cons (pv 0) (pa_cons (pv 3) pa_nil))) (pa_cons (pe_cal (ok_law_takes T) (hr.mono (by decide)) (kpOf T.d_law_takes) rfl T.g_law_takes pass0 (pa_cons (pv 0) (pa_cons (pv 3) pa_nil))) (pa_cons (pv 12) pa_nil))))))) pa_nil))))) pss_nil) (pss_one (ps_ret (pe_disp (pps_cons pe_str (pv 3) (pps_cons pe_str (pv 6) pps_nil)) rfl rfl (fun z => by cases z) (by decide))))))))), ?_⟩
  · obtain ⟨_, _, _, _, _, rfl, _⟩ := h; rfl
  · obtain ⟨p, sz, size, l, B, rfl, hpen, hsz, szp, h5, h24, hB, hq⟩ := h
    have p20 : (2 : Nat) ^ 20 = 1048576 := by decide
    have p60 : (2 : Int) ^ 60 = 1152921504606846976 := by decide
    have p62 : (2 : Int) ^ 62 = 4611686018427387904 := by decide
    have p63 : (2 : Int) ^ 63 = 9223372036854775808 := by decide
    have z4 : 4 ≤ sizeLine := by decide
    refine ⟨_, rfl, _, rfl, p, sz, [.int size], l, B, rfl, hpen, hsz, szp, by show 1 ≤ 1; decide, by show 1 ≤ 1000; decide, by omega, fun H1 v s1 hp1 hv => ?_⟩
    obtain rfl : v = .int size := by simpa using hv
    refine ⟨(by show 12 ≤ sizeLine; decide), fun ll hll => ⟨_, _, rfl, ?_⟩⟩
    have nll := penAt_ne hp1 hll
    have t1 := same_upd (o := .lst (left12.map V.str)) hll
    refine ⟨_, rfl, (by show 1 ≤ sizeLine; decide), fun q1 hq1 => ⟨(by show 2 ≤ sizeLine; decide), fun q2 hq2 => ⟨(by show 3 ≤ sizeLine; decide), fun q3 hq3 => ⟨(by show 4 ≤ sizeLine; decide), fun q4 hq4 => ⟨(by show 4 ≤ sizeLine; decide), fun qq hqq => ?_⟩⟩⟩⟩⟩
    have t2 := same_upd (o := .lst ([("a" : Str)].map V.str)) hq1
    have t3 := same_upd (o := .lst ([("a" : Str), "b"].map V.str)) hq2
    have t4 := same_upd (o := .lst ([("b" : Str), "a", "c"].map V.str)) hq3
    have t5 := same_upd (o := .lst ([("q" : Str), "p", "zzzzzzzz", "a"].map V.str)) hq4
    have t6 := same_upd (o := .lst [.ref q1, .ref q2, .ref q3, .ref q4]) hqq
    have pen6 := hp1.s (Same.trans t1 (Same.trans t2 (Same.trans t3 (Same.trans t4 (Same.trans t5 t6)))))
    have hll6 := Same.trans t2 (Same.trans t3 (Same.trans t4 (Same.trans t5 t6))) _ _ (upd_same (H := H1) (a := ll) (o := .lst (left12.map V.str)))
    have sx6 : SameX p H (upd (upd (upd (upd (upd (upd H1 ll (.lst (left12.map V.str))) q1 (.lst ([("a" : Str)].map V.str))) q2 (.lst ([("a" : Str), "b"].map V.str))) q3 (.lst ([("b" : Str), "a", "c"].map V.str))) q4 (.lst ([("q" : Str), "p", "zzzzzzzz", "a"].map V.str))) qq (.lst [.ref q1, .ref q2, .ref q3, .ref q4])) := sameX_trans s1 (sameX_of (Same.trans t1 (Same.trans t2 (Same.trans t3 (Same.trans t4 (Same.trans t5 t6))))))
    have g1 := Same.trans t3 (Same.trans t4 (Same.trans t5 t6)) _ _ (upd_same (a := q1) (o := .lst ([("a" : Str)].map V.str)))
    have g2 := Same.trans t4 (Same.trans t5 t6) _ _ (upd_same (a := q2) (o := .lst ([("a" : Str), "b"].map V.str)))
    have g3 := Same.trans t5 t6 _ _ (upd_same (a := q3) (o := .lst ([("b" : Str), "a", "c"].map V.str)))
    have g4 := t6 _ _ (upd_same (a := q4) (o := .lst ([("q" : Str), "p", "zzzzzzzz", "a"].map V.str)))
    have n1 := penAt_ne (hp1.s t1) hq1
    have n2 := penAt_ne (hp1.s (Same.trans t1 t2)) hq2
    have n3 := penAt_ne (hp1.s (Same.trans t1 (Same.trans t2 t3))) hq3
    have n4 := penAt_ne (hp1.s (Same.trans t1 (Same.trans t2 (Same.trans t3 t4)))) hq4
    have n5 := penAt_ne (hp1.s (Same.trans t1 (Same.trans t2 (Same.trans t3 (Same.trans t4 t5))))) hqq
    have l1 : q1 ≠ ll := ne_fs upd_same hq1
    have l2 : q2 ≠ ll := ne_fs (t2 _ _ upd_same) hq2
    have l3 : q3 ≠ ll := ne_fs (Same.trans t2 t3 _ _ upd_same) hq3
    have l4 : q4 ≠ ll := ne_fs (Same.trans t2 (Same.trans t3 t4) _ _ upd_same) hq4
    refine ⟨p, qq, _, l, B + 1, rfl, pen6, upd_same, n5.1, by show 1 ≤ 4; decide, by show 4 ≤ 1000; decide, by omega, fun H2 v s2 hp2 hv => ?_⟩
    have pick : ∃ q pls, v = .ref q ∧ pls ∈ rowsPl ∧ H2 q = some (.lst (pls.map V.str)) ∧ q ≠ p ∧ q ≠ ll := by
      simp only [List.mem_cons, List.not_mem_nil, or_false] at hv
      rcases hv with rfl | rfl | rfl | rfl
      · exact ⟨q1, _, rfl, .head _, s2 _ _ n1.1 g1, n1.1, l1⟩
      · exact ⟨q2, _, rfl, .tail _ (.head _), s2 _ _ n2.1 g2, n2.1, l2⟩
      · exact ⟨q3, _, rfl, .tail _ (.tail _ (.head _)), s2 _ _ n3.1 g3, n3.1, l3⟩
      · exact ⟨q4, _, rfl, .tail _ (.tail _ (.tail _ (.head _))), s2 _ _ n4.1 g4, n4.1, l4⟩
    obtain ⟨q, pls, rfl, hpls, hql, nqp, nqll⟩ := pick
    have sxH2 : SameX p H H2 := sameX_trans sx6 s2
    have hll2 := s2 _ _ nll.1 hll6
    have hpl : 1 ≤ pls.length ∧ pls.length ≤ 4 := by
      have : ∀ x ∈ rowsPl, 1 ≤ x.length ∧ x.length ≤ 4 := by decide
      exact this _ hpls
    refine ⟨(by show 0 ≤ sizeLine; decide), fun tl htl => ?_⟩
    have ntl := penAt_ne hp2 htl
    have tt := same_upd (o := .lst ([] : List V)) htl
    have st0 : PlSt (upd H2 tl (.lst [])) p l ll tl q (B + 2) left12 [] pls := ⟨hp2.s tt, tt _ _ hll2, ⟨[], upd_same, by simp [Fa2]⟩, tt _ _ hql, nll.1, ntl.1, nqp, Ne.symm (ne_fs hll2 htl), Ne.symm nqll, ne_fs hql htl, nll.2, ntl.2⟩
    have sxH3 : SameX p H (upd H2 tl (.lst [])) := sameX_trans sxH2 (sameX_of tt)
    have fll : H ll = none := SameX.free s1 nll.1 hll
    have ftl : H tl = none := SameX.free sxH2 ntl.1 htl
    refine ⟨_, rfl, _, rfl, p, 2, l, B + 2, rfl, st0.pen, by decide, by decide, by omega, fun H3 r s3 hp3 r0 r1 => ⟨_, _, rfl, rfl, 1 + r, rfl, by omega, by omega, for_range (n := (1 + r).toNat) (fun i σ H' => SameX p H H' ∧ ∃ left trips u7 u8 u10 u11, σ = [some (.ref p), some (.ref sz), some (.int 2), some (.int size), some (.ref ll), some (.ref q), some (.ref tl), u7, u8, none, u10, u11, none] ∧ PlSt H' p l ll tl q (B + 3 + 22 * i) left trips pls ∧ Part size pls trips left (3 * i) ∧ Bal trips ∧ (0 < i → trips ≠ [])) ⟨sameX_trans sxH3 s3, left12, [], none, none, none, none, rfl, st0.sx s3 hp3, ⟨List.Perm.refl _, Nat.le_refl _, fun _ h => (by cases h)⟩, List.Perm.refl _, fun h => absurd h (Nat.lt_irrefl _)⟩ (fun i σ H4 hi hpv => ?_) fun σ H4 hpv => ?_⟩⟩
    · obtain ⟨sx4, left, trips, u7, u8, u10, u11, rfl, st, pt, bl, _⟩ := hpv
      refine ⟨_, rfl, p, 3, l, B + 3 + 22 * i, rfl, st.pen, by decide, by decide, by omega, fun H5 r' s5 hp5 r0' r1' => ⟨_, _, rfl, rfl, 1 + r', rfl, by omega, by omega, fun D hD => lc_range (n := (1 + r').toNat) (fun j H' => SameX p H5 H' ∧ PenAt H' p l (B + 3 + 22 * i + 1 + j) ∧ ∃ rs : List Str, rs.length = j ∧ H' D = some (.lst (rs.map V.str)) ∧ ∀ x ∈ rs, x ∈ pls) ⟨sameX_of (same_upd hD), hp5.s (same_upd hD), [], rfl, upd_same, fun _ h => (by cases h)⟩ (fun j H6 hj hq6 => ?_) fun H6 hq6 => ?_⟩⟩
      · obtain ⟨s6, hp6, rs, hrl, hrs, hrm⟩ := hq6
        have nD := penAt_ne hp5 hD
        have st5 := st.sx s5 hp5
        refine ⟨rfl, ?_⟩
        unfold tYes
        simp only [if_true]
        refine ⟨_, rfl, _, rfl, p, q, _, l, _, rfl, hp6, s6 _ _ nqp st5.hq, nqp, by rw [List.length_map]; exact hpl.1, by rw [List.length_map]; omega, by omega, fun H7 v s7 hp7 hv => ?_⟩
        obtain ⟨x, hx, rfl⟩ := List.mem_map.mp hv
        have hr7 := s7 _ _ nD.1 hrs
        refine ⟨_, hr7, by rw [List.length_map, sizeLine_eq]; omega, SameX.put (sameX_trans s6 s7) hD, penAt_upd hp7 nD.1 nD.2, rs ++ [x], by rw [List.length_append, hrl]; rfl, by rw [upd_same, List.map_append]; rfl, fun y hy => ?_⟩
        rcases List.mem_append.mp hy with h | h
        · exact hrm y h
        · rw [List.mem_singleton.mp h]
          exact hx
      · obtain ⟨s6, hp6, rs, hrl, hrs, hrm⟩ := hq6
        have nD := penAt_ne hp5 hD
        have st6 := (st.sx s5 hp5).sx s6 hp6
        have hr0 : rs ≠ [] := fun e => by
          rw [e] at hrl
          have : ([] : List Str).length = 0 := rfl
          omega
        have hr3 : rs.length ≤ 3 := by omega
        have hDl : D ≠ ll := ne_fs (st.sx s5 hp5).hl hD
        have hDt : D ≠ tl := ne_fs (st.sx s5 hp5).ht.choose_spec.1 hD
        refine ⟨_, rfl, D, _, rfl, .inl (.inl (.inl hrs)), _, rfl, by rw [List.length_map]; omega, by rw [List.length_map]; omega, for_range (n := (((rs.map V.str).length : Nat) : Int).toNat) (fun j σ H' => SameX p H H' ∧ ∃ left' L u10 u11, σ = [some (.ref p), some (.ref sz), some (.int 2), some (.int size), some (.ref ll), some (.ref q), some (.ref tl), some (.int (0 + (i : Int))), some (.ref D), none, u10, u11, none] ∧ PlSt H' p l ll tl q (B + 3 + 22 * i + 4 + 6 * j) left' (trips ++ L) pls ∧ H' D = some (.lst (rs.map V.str)) ∧ Part size pls (trips ++ L) left' (3 * i + j) ∧ L.map (·.goal) = rs.take j ∧ L.map (·.start) = (rotR rs).take j) ⟨sameX_trans sx4 (sameX_trans s5 s6), left, [], u10, u11, rfl, by rw [List.append_nil]; exact st6.up (by omega), hrs, by rw [List.append_nil]; exact pt, by simp, by simp⟩ (fun j σ H7 hj hpv => ?_) fun σ H7 hpv => ?_⟩
        · obtain ⟨sx7, left', L, u10', u11', rfl, st7, hD7, pt7, hg, hs⟩ := hpv
          have hn : (((rs.map V.str).length : Nat) : Int).toNat = rs.length := by simp
          have hj2 : j < rs.length := by omega
          obtain ⟨zs, hz1, hz2, hz3⟩ := rotR_at hj2
          have hll' := pt7.left (by omega)
          refine ⟨_, rfl, .inl ⟨rfl, _, .inl (.inl st7.hl)⟩, _, rfl, _, rfl, ll, _, rfl, .inl (.inl (.inl st7.hl)), p, _, l, _, rfl, st7.pen, by rw [List.length_map]; omega, by rw [List.length_map]; omega, by omega, fun H8 r8 s8 hp8 a8 b8 => ?_⟩
          rw [List.length_map] at b8
          obtain ⟨z, e1, e2, e3, e4⟩ := pop_left a8 b8
          have st8 := st7.sx s8 hp8
          refine ⟨ll, _, r8, _, _, rfl, rfl, st8.hl, by omega, by omega, e2, e1, ?_⟩
          have n8 := penAt_upd (o := .lst ((left'.map V.str).eraseIdx r8.toNat)) hp8 st7.n1 st7.n7
          have hD8 : upd H8 ll (.lst ((left'.map V.str).eraseIdx r8.toNat)) D = some (.lst (rs.map V.str)) := (upd_ne hDl).trans (s8 _ _ nD.1 hD7)
          obtain ⟨ts, hts1, hts2⟩ := st8.ht
          have ht8 : upd H8 ll (.lst ((left'.map V.str).eraseIdx r8.toNat)) tl = some (.lst ts) := (upd_ne (Ne.symm st7.n4)).trans hts1
          refine ⟨_, rfl, .inl ⟨rfl, _, .inl (.inl ht8)⟩, _, rfl, _, rfl, _, rfl, _, _, rfl, rfl, D, _, _, _, rfl, rfl, .inl (.inl hD8), (show atI _ (0 + (j : Int) - 1) = some (.str zs) from by rw [Int.zero_add]; exact hz3), _, rfl, _, rfl, p, size, l, _, rfl, n8, by omega, by omega, by omega, fun H9 r9 s9 hp9 a9 b9 => ⟨_, rfl, _, rfl, p, size, l, _, rfl, hp9, by omega, h24, by omega, fun H10 r10 s10 hp10 a10 b10 => ⟨_, rfl, _, rfl, D, _, _, _, rfl, rfl, .inl (.inl (s10 _ _ nD.1 (s9 _ _ nD.1 hD8))), (show atI _ (0 + (j : Int)) = some (.str rs[j]) from by rw [Int.zero_add]; exact row_at hj2), (by show 6 ≤ sizeLine; decide), fun tp htp => ?_⟩⟩⟩
          have t10 := same_upd (o := .tup [.str z, .bl true, .str zs, .int r9, .int r10, .str rs[j]]) htp
          have sx10 : SameX p (upd H8 ll (.lst ((left'.map V.str).eraseIdx r8.toNat))) (upd H10 tp (.tup [.str z, .bl true, .str zs, .int r9, .int r10, .str rs[j]])) := sameX_trans s9 (sameX_trans s10 (sameX_of t10))
          obtain ⟨ts', k1, k2, k3⟩ := st8.add (left' := left'.eraseIdx r8.toNat) (t := ⟨true, z, zs, r9, r10, rs[j]⟩) (y := .ref tp) (by rw [← e3]; exact sx10) (hp10.s t10) ⟨tp, rfl, upd_same⟩
          have hts3 := pt7.n
          refine ⟨tl, ts', .ref tp, rfl, rfl, k1, by rw [sizeLine_eq]; omega, ?_⟩
          refine ⟨SameX.put (sameX_trans (SameX.put (sameX_trans sx7 s8) fll) sx10) ftl, left'.eraseIdx r8.toNat, L ++ [⟨true, z, zs, r9, r10, rs[j]⟩], _, _, rfl, by rw [← List.append_assoc]; exact k3.up (by omega), (upd_ne hDt).trans (sx10 _ _ nD.1 hD8), by rw [← List.append_assoc]; exact pt7.add e4 ⟨a9, b9, a10, b10, hrm _ hz2, hrm _ (List.getElem_mem hj2), fun h => (by cases h)⟩, ?_, ?_⟩
          · rw [List.map_append, hg, List.take_add_one, List.getElem?_eq_getElem hj2]
            rfl
          · rw [List.map_append, hs, List.take_add_one, hz1]
            rfl
        · obtain ⟨sx7, left', L, u10', u11', rfl, st7, hD7, pt7, hg, hs⟩ := hpv
          have hn : (((rs.map V.str).length : Nat) : Int).toNat = rs.length := by simp
          rw [hn, List.take_length] at hg
          rw [hn, ← rotR_len hr0, List.take_length] at hs
          rw [hn] at st7 pt7
          refine ⟨sx7, left', trips ++ L, _, _, _, _, rfl, st7.up (by omega), pt7.mono (by omega), ?_, fun _ e => ?_⟩
          · show ((trips ++ L).map (·.start)).Perm ((trips ++ L).map (·.goal))
            rw [List.map_append, List.map_append, hg, hs]
            exact bl.append (rotR_perm hr0)
          · have : L = [] := (List.append_eq_nil_iff.mp e).2
            rw [this] at hg
            exact hr0 hg.symm
    · obtain ⟨sx4, left, trips, u7, u8, u10, u11, rfl, st, pt, bl, hne⟩ := hpv
      have hr2 : (1 + r).toNat ≤ 2 := by omega
      have hr1 : 0 < (1 + r).toNat := by omega
      have tne := hne hr1
      refine ⟨_, rfl, p, 4, l, _, rfl, st.pen, by decide, by decide, by omega, fun H5 r5 s5 hp5 a5 b5 => ?_⟩
      have st5 := st.sx s5 hp5
      have fin : ∀ H' left trips, SameX p H H' → PlSt H' p l ll tl q (B + 100) left trips pls → Part size pls trips left 7 → Bal trips → trips ≠ [] → ∀ dd, H' dd = none → Q (.ref dd) (upd (upd H' dd (.dK [])) dd (.dK [(.inr "size", .int size), (.inr "trips", .ref tl)])) := fun H' left trips sx st pt bl ne dd hdd => by
        obtain ⟨ts, h1, h2⟩ := st.ht
        have sd : Same H' (upd (upd H' dd (.dK [])) dd (.dK [(.inr "size", .int size), (.inr "trips", .ref tl)])) := same_put (same_upd hdd) hdd
        exact hq _ trips _ (sameX_trans sx (sameX_of sd)) (st.pen.s sd) ⟨h5, h24, ne, ⟨pls, hpls, left, pt⟩, bl⟩ ⟨dd, tl, ts, rfl, upd_same, sd _ _ h1, ntl.1, h2.imp fun _ _ z => z.si (SameI.of sd)⟩
      refine ⟨rfl, _, rfl, ?_⟩
      by_cases h4 : V.int r5 = V.int 0
      · refine iteDT h4 ?_
        obtain ⟨ts, hts1, hts2⟩ := id st5.ht
        have htl2 := hts2.len
        have tpos : 0 < trips.length := List.length_pos_iff.mpr tne
        have hpn := pt.n
        refine ⟨_, rfl, _, rfl, p, tl, ts, l, _, rfl, st5.pen, hts1, ntl.1, by omega, by omega, by omega, fun H6 v s6 hp6 hv => ?_⟩
        have st6 := st5.sx s6 hp6
        obtain ⟨t0, ht0, q0, rfl, hq0⟩ := fa2_mem hts2 hv
        have hq6 := st5.pen.sx s6 _ _ hq0 (fun _ z => nomatch z)
        refine ⟨q0, [.str t0.name, .bl t0.run, .str t0.start, .int t0.leaves, .int t0.takes, .str t0.goal], 2, .str t0.start, rfl, rfl, .inl (.inl hq6), rfl, ?_⟩
        have hll' := pt.left (by omega)
        have hts6 := s6 _ _ ntl.1 hts1
        refine ⟨_, rfl, .inl ⟨rfl, _, .inl (.inl hts6)⟩, _, rfl, .inl ⟨rfl, _, .inl (.inl st6.hl)⟩, _, rfl, _, rfl, ll, _, rfl, .inl (.inl (.inl st6.hl)), p, _, l, _, rfl, hp6, by rw [List.length_map]; omega, by rw [List.length_map]; omega, by omega, fun H8 r8 s8 hp8 a8 b8 => ?_⟩
        rw [List.length_map] at b8
        obtain ⟨z, e1, e2, e3, e4⟩ := pop_left a8 b8
        have st8 := st6.sx s8 hp8
        refine ⟨ll, _, r8, _, _, rfl, rfl, st8.hl, by omega, by omega, e2, e1, ?_⟩
        have n8 := penAt_upd (o := .lst ((left.map V.str).eraseIdx r8.toNat)) hp8 st8.n1 st8.n7
        refine ⟨_, rfl, _, rfl, _, rfl, p, size, l, _, rfl, n8, by omega, by omega, by omega, fun H9 r9 s9 hp9 a9 b9 => ⟨_, rfl, _, rfl, p, size, l, _, rfl, hp9, by omega, h24, by omega, fun H10 r10 s10 hp10 a10 b10 => ⟨_, rfl, (by show 6 ≤ sizeLine; decide), fun tp htp => ?_⟩⟩⟩
        have t10 := same_upd (o := .tup [.str z, .bl false, .str t0.start, .int r9, .int r10, .str t0.start]) htp
        have sx10 : SameX p (upd H8 ll (.lst ((left.map V.str).eraseIdx r8.toNat))) (upd H10 tp (.tup [.str z, .bl false, .str t0.start, .int r9, .int r10, .str t0.start])) := sameX_trans s9 (sameX_trans s10 (sameX_of t10))
        obtain ⟨ts', k1, k2, k3⟩ := st8.add (left' := left.eraseIdx r8.toNat) (t := ⟨false, z, t0.start, r9, r10, t0.start⟩) (y := .ref tp) (by rw [← e3]; exact sx10) (hp10.s t10) ⟨tp, rfl, upd_same⟩
        refine ⟨tl, ts', .ref tp, rfl, rfl, k1, by rw [sizeLine_eq]; omega, ?_⟩
        refine fun dd hdd => ⟨_, rfl, _, rfl, upd_same, [(.inr "size", .int size), (.inr "trips", .ref tl)], rfl, (by show 2 ≤ 15; decide), ?_⟩
        exact fin _ _ _ (SameX.put (sameX_trans (SameX.put (sameX_trans sx4 (sameX_trans s5 (sameX_trans s6 s8))) fll) sx10) ftl) (k3.up (by omega)) ((pt.add (t := ⟨false, z, t0.start, r9, r10, t0.start⟩) e4 ⟨a9, b9, a10, b10, (pt.ok t0 ht0).s, (pt.ok t0 ht0).s, fun _ => rfl⟩).mono (by omega)) (by
          show ((trips ++ _).map (·.start)).Perm ((trips ++ _).map (·.goal))
          rw [List.map_append, List.map_append]
          exact bl.append (List.Perm.refl _)) (fun e => tne (List.append_eq_nil_iff.mp e).1) dd hdd
      · refine iteDF h4 ?_
        refine fun dd hdd => ⟨_, rfl, _, rfl, upd_same, [(.inr "size", .int size), (.inr "trips", .ref tl)], rfl, (by show 2 ≤ 15; decide), ?_⟩
        exact fin _ _ _ (sameX_trans sx4 s5) (st5.up (by omega)) (pt.mono (by omega)) bl tne dd hdd
end K6
set_option Elab.async false
set_option linter.all false
set_option maxRecDepth 100000
set_option maxHeartbeats 4000000
namespace K6
open PySem PySem.Spec PyProof.Rows L2
open He (ga ma)

/-- a plain table, wherever it stands -/
def PlainHp (H : Hp) (size : Int) (trips : List Trip) (x : V) : Prop := ∃ a tl ts, x = .ref a ∧ H a = some (.dK [(.inr "size", .int size), (.inr "trips", .ref tl)]) ∧ H tl = some (.lst ts) ∧ Fa2 (RawAt H) trips ts
theorem PlainAt.hp {H : Hp} {p : Addr} {size : Int} {trips : List Trip} {x : V} (h : PlainAt H p size trips x) : PlainHp H size trips x := by
  obtain ⟨a, tl, ts, e, h1, h2, _, h4⟩ := h
  exact ⟨a, tl, ts, e, h1, h2, h4⟩
theorem iteP {c A B : Prop} [Decidable c] (h : c) (a : A) : if c then A else B := by rw [if_pos h]; exact a
theorem iteN {c A B : Prop} [Decidable c] (h : ¬ c) (b : B) : if c then A else B := by rw [if_neg h]; exact b
def sp_law_table (K : PySem.W.Frag) : Sp := fun vs H Q _ => ∃ x size trips, vs = [x] ∧ PlainHp H size trips x ∧ 1 ≤ size ∧ size ≤ 1000000000000 ∧ (∀ t ∈ trips, TripOk t) ∧ TabPre size trips ∧ ∀ H' tab y, Same H H' → TabAt K H' tab y → TabGot size trips tab → Q y H'

abbrev N_law_table : List Str := ["_law_plain_here", "_law_found", "_law_name", "_law_is_run", "_law_start", "_law_leaves", "_law_takes_here", "_law_goal"]
theorem sc_law_table : FnScope N_law_table ["_law_plain_here"] (defScope s_law_table) := ⟨rfl, rfl, rfl, by decide +kernel, rfl, by decide +kernel, by decide +kernel⟩
theorem ok_law_table {P : Program} {w : World} {K : PySem.W.Frag} {mg : Str → Option Value} {base : Heap} (T : Txt P K mg) : FnR P w K mg base CX0 8 (ga K "_law_table") (sp_law_table K) := by
  have nd := sc_law_table.nd
  refine fnR T.d_law_table sc_law_table (fun _ _ _ _ _ _ us hl => match us, hl with | [_], _ => rfl) (fun vs H Q E h => ?_) fun cdv A outer s H vs Q E hr h => ⟨_, (pss_cons (ps_set (i := 1) nd rfl (by first | exact Or.inl rfl | exact Or.inr rfl) (pe_lst pa_nil)) (pss_cons (ps_for PassesOwn.never rfl (pi_list (pe_dget (hu_of hr) (pv 0) pe_str (fun _ _ => rfl))) (pg_tup rfl (pgs_cons (pg_name (i := 2) nd rfl (by first | exact Or.inl rfl | exact Or.inr rfl)) (pgs_cons (pg_name (i := 3) nd rfl (by first | exact Or.inl rfl | exact Or.inr rfl)) (pgs_cons (pg_name (i := 4) nd rfl (by first | exact Or.inl rfl | exact Or.inr rfl)) (pgs_cons (pg_name (i := 5) nd rfl (by first | exact Or.inl rfl | exact Or.inr rfl)) (pgs_cons (pg_name (i := 6) nd rfl (by first | exact Or.inl rfl | exact Or.inr rfl)) (pgs_cons (pg_name (i := 7) nd rfl (by first | exact Or.inl rfl | exact Or.inr rfl)) pgs_nil))))))) (pss_one (ps_expr (pe_bm PySem.F.plainAttrs_list PySem.F.slot_list_append PySem.F.type_list_append mt_append (pv 1) (pa_cons (pe_ifExp (pt_val (pv 3)) (StX.pe_makeR T.mk_Run (ok_Run_init T) (hr.mono (by decide)) rfl T.g_Run pass0 (pa_cons (pv 2) (pa_cons (pv 4) (pa_cons (pv 5) (pa_cons (pv 6) (pa_cons (pv 7) pa_nil)))))) (StX.pe_makeR T.mk_Stay (ok_Stay_init T) (hr.mono (by decide)) rfl T.g_Stay pass0 (pa_cons (pv 2) (pa_cons (pv 4) (pa_cons (pv 5) (pa_cons (pv 6) pa_nil)))))) pa_nil))))) (pss_one (ps_ret (pe_sta (pe_glob (v := .ref (ga K "Table")) rfl T.g_Table rfl) T.sta_Table_of (ok_Table_of T) (hr.mono (by decide)) pass0 (pa_cons (StX.pe_makeR T.mk_Day (ok_Day_init T) (hr.mono (by decide)) rfl T.g_Day pass0 (pa_cons (pe_dget (hu_of hr) (pv 0) pe_str (fun _ _ => rfl)) pa_nil)) (pa_cons (pv 1) pa_nil))))))), ?_⟩
  · obtain ⟨_, _, _, rfl, _⟩ := h; rfl
  · obtain ⟨x, size, trips, rfl, ⟨a, tl, ts, rfl, ha, htl, hf⟩, z1, z2, htr, pre, hq⟩ := h
    have fl := hf.len
    have few := pre.few
    refine ⟨(by show 0 ≤ sizeLine; decide), fun fo hfo => ?_⟩
    have t0 := same_upd (o := .lst ([] : List V)) hfo
    have g1 : ∀ H', Same H H' → DGet H' a (kV (.inr "trips")) (some (.ref tl)) := fun H' s => DGet.k (k := .inr "trips") (s _ _ ha)
    have g2 : ∀ H', Same H H' → DGet H' a (kV (.inr "size")) (some (.int size)) := fun H' s => DGet.k (k := .inr "size") (s _ _ ha)
    refine ⟨_, rfl, a, _, rfl, g1 _ t0, tl, rfl, ⟨_, .inl (.inl (t0 _ _ htl))⟩, for_list (K := K) (fun i σ H' => Same H H' ∧ (∃ ras, H' fo = some (.lst ras) ∧ Fa2 (TripAt K H') (trips.take i) ras) ∧ ∃ u2 u3 u4 u5 u6 u7, σ = [some (.ref a), some (.ref fo), u2, u3, u4, u5, u6, u7]) ⟨t0, ⟨[], upd_same, by simp [Fa2]⟩, none, none, none, none, none, none, rfl⟩ (fun i σ H' _ h => .inl (.inl (h.1 _ _ htl))) (fun i v σ H1 hv hpv => ?_) fun σ H1 hpv => ?_⟩
    · obtain ⟨s1, ⟨ras, hfo1, hra⟩, u2, u3, u4, u5, u6, u7, rfl⟩ := hpv
      have hi : i < trips.length := by
        have := (List.getElem?_eq_some_iff.mp hv).1
        omega
      obtain ⟨q0, rfl, hq0⟩ := hf.get (List.getElem?_eq_getElem hi) hv
      have htk : trips.take (i + 1) = trips.take i ++ [trips[i]] := by rw [List.take_add_one, List.getElem?_eq_getElem hi]; rfl
      have hok := htr _ (List.getElem_mem hi)
      have hrl := hra.len
      have hrl2 : ras.length < sizeLine := by
        rw [List.length_take] at hrl
        rw [sizeLine_eq]
        omega
      generalize trips[i] = t at *
      have fin : ∀ H5 y, Same H1 H5 → TripAt K H5 t y → (Same H (upd H5 fo (.lst (ras ++ [y]))) ∧ (∃ rs, upd H5 fo (.lst (ras ++ [y])) fo = some (.lst rs) ∧ Fa2 (TripAt K (upd H5 fo (.lst (ras ++ [y])))) (trips.take (i + 1)) rs)) := fun H5 y s hy => by
        have s2 : SameI H5 (upd H5 fo (.lst (ras ++ [y]))) := SameI.put' (s _ _ hfo1)
        refine ⟨same_put (Same.trans s1 s) hfo, _, upd_same, ?_⟩
        rw [htk]
        exact Fa2.snoc (hra.imp fun _ _ z => (z.si (SameI.of s)).si s2) (hy.si s2)
      refine ⟨q0, _, rfl, .inl (.inl (s1 _ _ hq0)), rfl, _, _, rfl, _, _, rfl, _, _, rfl, _, _, rfl, _, _, rfl, _, _, rfl, rfl, ?_⟩
      refine ⟨_, rfl, .inl ⟨rfl, _, .inl (.inl hfo1)⟩, _, rfl, _, rfl, ?_⟩
      by_cases hrn : t.run = true
      · refine iteP hrn ⟨_, rfl, _, rfl, _, rfl, _, rfl, _, rfl, fun x dx nx nd2 ne => ?_⟩
        refine ⟨x, dx, t, hrn, rfl, upd_same, hok, fun H5 k5 hx5 => ⟨rfl, ?_⟩⟩
        have s5 : Same H1 H5 := init_same nx nd2 k5
        obtain ⟨w1, w2⟩ := fin H5 (.ref x) s5 (made_trip (tripC_run hrn) hx5)
        exact ⟨fo, ras, .ref x, rfl, rfl, s5 _ _ hfo1, hrl2, w1, w2, _, _, _, _, _, _, rfl⟩
      · refine iteN hrn ⟨_, rfl, _, rfl, _, rfl, _, rfl, fun x dx nx nd2 ne => ?_⟩
        have hrf : t.run = false := by
          cases e : t.run with
          | true => exact absurd e hrn
          | false => rfl
        refine ⟨x, dx, t, hrf, rfl, upd_same, hok, fun H5 k5 hx5 => ⟨rfl, ?_⟩⟩
        have s5 : Same H1 H5 := init_same nx nd2 k5
        obtain ⟨w1, w2⟩ := fin H5 (.ref x) s5 (made_trip (tripC_stay hrf) hx5)
        exact ⟨fo, ras, .ref x, rfl, rfl, s5 _ _ hfo1, hrl2, w1, w2, _, _, _, _, _, _, rfl⟩
    · obtain ⟨s1, ⟨ras, hfo1, hra⟩, u2, u3, u4, u5, u6, u7, rfl⟩ := hpv
      rw [fl.symm, List.take_length] at hra
      refine ⟨rfl, _, rfl, a, _, rfl, g2 _ s1, fun x dx nx nd2 ne => ⟨x, dx, size, rfl, upd_same, z1, z2, fun H5 k5 hx5 => ⟨rfl, ?_⟩⟩⟩
      have s5 : Same H1 H5 := init_same nx nd2 k5
      exact ⟨_, rfl, _, fo, ras, trips, size, rfl, ⟨x, dx, rfl, hx5⟩, s5 _ _ hfo1, hra.imp fun _ _ z => z.si (SameI.of s5), pre, fun H6 tab y s6 ht hg => hq H6 tab y (Same.trans s1 (Same.trans s5 s6)) ht hg⟩
def cut7 (x : Str) : Str := cutS x none (some 7)
def renT (c : Str) (t : Trip) : Trip := { t with name := c ++ cut7 t.name }
abbrev rCS : R2 := fun x y H Q => ∃ i j, x = V.str i ∧ y = V.str j ∧ i.length + j.length ≤ sizeLine ∧ Q (V.str (i ++ j)) H
def sp_law_renamed (K : PySem.W.Frag) : Sp := fun vs H Q _ => ∃ x size trips c, vs = [x, .str c] ∧ PlainHp H size trips x ∧ trips.length ≤ 40 ∧ (∀ t ∈ trips, t.name.length ≤ 8) ∧ c.length ≤ 8 ∧ ∀ H' y, Same H H' → PlainHp H' size (trips.map (renT c)) y → Q y H'

abbrev N_law_renamed : List Str := ["_law_plain_here", "_law_letter", "_law_trips", "_law_trip"]
theorem sc_law_renamed : FnScope N_law_renamed ["_law_plain_here", "_law_letter"] (defScope s_law_renamed) := ⟨rfl, rfl, rfl, by decide +kernel, rfl, by decide +kernel, by decide +kernel⟩
theorem ok_law_renamed {P : Program} {w : World} {K : PySem.W.Frag} {mg : Str → Option Value} {base : Heap} (T : Txt P K mg) : FnR P w K mg base CX0 1 (ga K "_law_renamed") (sp_law_renamed K) := by
  have nd := sc_law_renamed.nd
  refine fnR T.d_law_renamed sc_law_renamed (fun _ _ _ _ _ _ us hl => match us, hl with | [_, _], _ => rfl) (fun vs H Q E h => ?_) fun cdv A outer s H vs Q E hr h => ⟨_, (pss_cons (ps_setLc (i := 2) (own := [("_law_trip", 3)]) (g := gName 3) (tt := tYes) (te := (tOp (rCatT K) (tTup (tCons (tOp rCS (tVar 1) (tSl rSlS (tOp (rIxT K) (tVar 3) (tC (.int 0))) tNoPart (tPart (tC (.int 7))))) tNil)) (tSl (rSlT K) (tVar 3) (tPart (tC (.int 1))) tNoPart))) rfl nd rfl rfl (sw_true rfl rfl rfl (by decide +kernel)) (pi_list (pe_dget (hu_of hr) (pv 0) pe_str (fun _ _ => rfl))) (blkOk_by (N := N_law_renamed) (sc := defScope s_law_renamed) (by decide +kernel)) (fun _ _ _ _ _ => pg_name (i := 3) nd rfl (by first | exact Or.inl rfl | exact Or.inr rfl)) (fun _ _ _ _ _ => pts_nil) (fun _ _ _ _ _ => (pe_op op_catT (pe_tup (pa_cons (pe_op op_add_str (pv 1) (pe_slice sl_str (pe_ix ix_tup (pv 3) pe_int (fun _ _ => rfl)) po_none (po_some pe_int))) pa_nil)) (pe_slice sl_tup (pv 3) (po_some pe_int) po_none)))) (pss_one (ps_ret (pe_disp (pps_cons pe_str (pe_dget (hu_of hr) (pv 0) pe_str (fun _ _ => rfl)) (pps_cons pe_str (pv 2) pps_nil)) rfl rfl (fun z => by cases z) (by decide))))), ?_⟩
  · obtain ⟨_, _, _, _, rfl, _⟩ := h; rfl
  · obtain ⟨x, size, trips, c, rfl, ⟨a, tl, ts, rfl, ha, htl, hf⟩, few, hn, hc, hq⟩ := h
    have fl := hf.len
    have g1 : ∀ H', Same H H' → DGet H' a (kV (.inr "trips")) (some (.ref tl)) := fun H' s => DGet.k (k := .inr "trips") (s _ _ ha)
    have g2 : ∀ H', Same H H' → DGet H' a (kV (.inr "size")) (some (.int size)) := fun H' s => DGet.k (k := .inr "size") (s _ _ ha)
    refine ⟨_, rfl, a, _, rfl, g1 _ (Same.refl _), tl, rfl, ⟨_, .inl (.inl htl)⟩, fun D hD => lcRel (walk_list (K := K) (a := tl) (xs := ts)) trips fl.symm 3 (fun t x => RawAt H t x) (fun i H' x H2 t hi hG yy => ?_) hD (fun H' s => .inl (.inl (s _ _ htl))) (fun H' t y => RawAt H' (renT c t) y) (fun H1 H2 t y s z => z.si s) (by rw [sizeLine_eq]; omega) (fun t x H1 Kt ht hx s1 hk => ?_) (fun _ => rfl) fun H2 ys s2 hD2 hys => ?_⟩
    · exact yAt hf i H' x H2 t hi yy
    · obtain ⟨q0, rfl, hq0⟩ := hx
      have hq1 := s1 _ _ hq0
      have hnl := hn t ht
      have hcl := cutS_length t.name none (some 7)
      have z16 := sizeLine_eq
      have hcut : cutV [.str t.name, .bl t.run, .str t.start, .int t.leaves, .int t.takes, .str t.goal] (some 1) none = [.bl t.run, .str t.start, .int t.leaves, .int t.takes, .str t.goal] := rfl
      refine ⟨_, rfl, _, rfl, q0, _, 0, .str t.name, rfl, rfl, .inl (.inl hq1), rfl, 7, rfl, t.name, rfl, by omega, c, cut7 t.name, rfl, rfl, (by have : (cut7 t.name).length ≤ t.name.length := hcl; omega), (by show 1 ≤ sizeLine; decide), fun p1 hp1 => ?_⟩
      have u1 := same_upd (o := .tup [.str (c ++ cut7 t.name)]) hp1
      refine ⟨_, rfl, 1, rfl, q0, _, rfl, .inl (.inl (u1 _ _ hq1)), (by show ¬ (1 = 0 ∧ 6 = 6); decide), fun p2 hp2 => ?_⟩
      have u2 := same_upd (o := .tup (cutV [.str t.name, .bl t.run, .str t.start, .int t.leaves, .int t.takes, .str t.goal] (some 1) none)) hp2
      refine ⟨p1, p2, _, _, rfl, rfl, .inl (.inl (u2 _ _ upd_same)), .inl (.inl upd_same), (fun z => by cases z), (by show 1 + 5 ≤ sizeLine; decide), fun z => (by rw [hcut] at z; cases z), fun _ p3 hp3 => ?_⟩
      exact hk _ _ (Same.trans u1 (Same.trans u2 (same_upd hp3))) ⟨p3, rfl, upd_same⟩
    · refine fun dd hdd => ?_
      have s3 := Same.trans s2 (same_upd (o := .dK []) hdd)
      refine ⟨_, rfl, a, _, rfl, g2 _ s3, _, rfl, upd_same, [(.inr "size", .int size), (.inr "trips", .ref D)], rfl, (by show 2 ≤ 15; decide), ?_⟩
      have sd : Same H2 (upd (upd H2 dd (.dK [])) dd (.dK [(.inr "size", .int size), (.inr "trips", .ref D)])) := same_put (same_upd hdd) hdd
      exact hq _ _ (Same.trans s2 sd) ⟨dd, D, ys, rfl, upd_same, sd _ _ hD2, Fa2.map_l (hys.imp fun _ _ z => z.si (SameI.of sd))⟩
end K6
set_option Elab.async false
set_option linter.all false
set_option maxRecDepth 100000
set_option maxHeartbeats 4000000
namespace K6
open PySem PySem.Spec PyProof.Rows L2
open He (ga ma)

abbrev sp_stair_ := sp_stair
/-- what a table moved on must be -/
structure MovedOk (tab : Tab) (k : Int) : Prop where
  pre : TabPre tab.L (tab.rows.map (movedT tab.L k))
  gd : ∀ tab', TabGot tab.L (tab.rows.map (movedT tab.L k)) tab' → AboveOk tab tab' ∧ AboveOk tab' tab ∧ tab'.places.Perm tab.places ∧ tab.places.Nodup ∧
    underOf tab + (tab.places.map fun p => stockAt (plOf tab p) 0).sum = underOf tab' + (tab.places.map fun p => stockAt (plOf tab' p) 0).sum
theorem shaped_tup (ms : List Int) : SeqAt.shaped (.tuple (ms.map .int)) = true := by
  have h1 : (PyData.tuple (ms.map .int)).canLay0 = true := by simp [PyData.canLay0, canLay_ints]
  have h2 : (PyData.tuple (ms.map .int)).depth = 1 := by simp [PyData.depth, depth_ints]
  show ((PyData.tuple (ms.map .int)).canLay0 && decide ((PyData.tuple (ms.map .int)).depth ≤ 64)) = true
  rw [h1, h2]
  decide
theorem perm_sum {l m : List Int} (h : l.Perm m) : l.sum = m.sum := by
  induction h with
  | nil => rfl
  | cons x _ ih => rw [List.sum_cons, List.sum_cons, ih]
  | swap x y l =>
    simp only [List.sum_cons]
    omega
  | trans _ _ h1 h2 => rw [h1, h2]
theorem sum_sub (f g : Str → Int) : ∀ l : List Str, (l.map fun p => f p - g p).sum = (l.map f).sum - (l.map g).sum
  | [] => by simp
  | a :: l => by
    rw [List.map_cons, List.map_cons, List.map_cons, List.sum_cons, List.sum_cons, List.sum_cons, sum_sub f g l]
    omega
theorem aboveN_same {tab tac : Tab} {ps : List Str} (hn : tab.places.Nodup) (hp : tac.places.Perm tab.places) (h : Union tab tac ps) : aboveN tab tac ps = underOf tab - underOf tac + ((tab.places.map fun p => stockAt (plOf tab p) 0).sum - (tab.places.map fun p => stockAt (plOf tac p) 0).sum) := by
  have pm : ps.Perm tab.places := (List.perm_ext_iff_of_nodup h.1 hn).mpr fun p => by
    rw [h.2, hp.mem_iff]
    simp
  unfold aboveN
  rw [perm_sum (pm.map _), sum_sub]
theorem op_isB {X : Cx} : OpR X (compareOp .Is) (fun x y H Q => ∃ b, x = .bl b ∧ y = .bl b ∧ Q (.bl true) H) := by
  intro pins s σ H x y v u Q I rx ry h
  obtain ⟨b, rfl, rfl, q⟩ := h
  cases rx
  cases ry
  exact wpAny_is_self rfl ⟨.bl true, H, I, rfl, q⟩
theorem tYes_k {σ : L2.St} {H : Hp} {k : Bool → Hp → Prop} (h : k true H) : tYes σ H k := h
def sp_moved_right (K : PySem.W.Frag) : Sp := fun vs H Q _ => ∃ p x l B tab, vs = [.ref p, x] ∧ PenAt H p l B ∧ B + 10 < 2 ^ 20 ∧ TabAt K H tab x ∧ 1 ≤ tab.L ∧ tab.L ≤ 1000000000000 ∧ (∀ t ∈ tab.rows, TripOk t) ∧ (∀ k, -100000 ≤ k → k < 900000 → MovedOk tab k) ∧
  ∀ H', SameX p H H' → PenAt H' p l (B + 1) → Q (.bl true) H'

abbrev N_law_moved_right : List Str := ["_law_pen_here", "_law_table_here", "_law_moved", "_law_place", "_law_one", "_law_other", "_law_bases", "_law_unit"]
theorem sc_law_moved_right : FnScope N_law_moved_right ["_law_pen_here", "_law_table_here"] (defScope s_law_moved_right) := ⟨rfl, rfl, rfl, by decide +kernel, rfl, by decide +kernel, by decide +kernel⟩
theorem ok_law_moved_right {P : Program} {w : World} {K : PySem.W.Frag} {mg : Str → Option Value} {base : Heap} (T : Txt P K mg) : FnR P w K mg base CX0 12 (ga K "_law_moved_right") (sp_moved_right K) := by
  have nd := sc_law_moved_right.nd
  refine fnR T.d_law_moved_right sc_law_moved_right (fun _ _ _ _ _ _ us hl => match us, hl with | [_, _], _ => rfl) (fun vs H Q E h => ?_) fun cdv A outer s H vs Q E hr h => ⟨_, (pss_cons (ps_set (i := 2) nd rfl (by first | exact Or.inl rfl | exact Or.inr rfl) (pe_methR (pv 1) T.cl_Table T.me_Table_moved (ok_Table_moved T) (hr.mono (by decide)) pass0 (pa_cons (pe_op op_sub (pe_cal (ok_law_draw T) (hr.mono (by decide)) (kpOf T.d_law_draw) rfl T.g_law_draw pass0 (pa_cons (pv 0) (pa_cons (pe_op op_pow pe_int pe_int) pa_nil))) (pe_op op_pow pe_int pe_int)) pa_nil))) (pss_cons (ps_for PassesOwn.never rfl (pi_tup (pe_fld (pv 1) rfl)) (pg_name (i := 3) nd rfl (by first | exact Or.inl rfl | exact Or.inr rfl)) (pss_cons (ps_par (i := 4) (j := 5) rfl nd rfl rfl (by decide) rfl rfl (pa_cons (pe_cal (ok_stair T) (hr.mono (by decide)) (kpOf T.d_stair) rfl T.g_stair pass0 (pa_cons (pv 1) (pa_cons (pv 3) pa_nil))) (pa_cons (pe_cal (ok_stair T) (hr.mono (by decide)) (kpOf T.d_stair) rfl T.g_stair pass0 (pa_cons (pv 2) (pa_cons (pv 3) pa_nil))) pa_nil)) rfl) (pss_one (ps_if (PW.pt (pw_or (pt_cmpR (op_neD hr.units) (pe_fld (pv 4) rfl) (pe_fld (pv 5) rfl) (nomark _)) (pw_or (pt_cmpR op_ne (pe_fld (pv 4) rfl) (pe_fld (pv 5) rfl) (nomark _)) (pw_or1 (pt_cmpR op_ne (pe_op (op_own (ok_Stair_sub T) (hr.mono (by decide)) pass0 T.sf_Stair T.fi_Stair_sub T.if_Stair_sub) (pv 4) (pv 5)) (pe_op op_sub (pe_fld (pv 4) rfl) (pe_fld (pv 5) rfl)) (nomark _)))))) (pss_one (ps_ret pe_bl)) pss_nil)))) (pss_cons (ps_setLc (i := 6) (own := [("_law_unit", 7)]) (g := gName 7) (tt := tYes) (te := (tOp _ (tCB (rSum K) (tCons (tLc (iTup K (tFld K (tVar 1) "places")) (gName 3) tYes (tFld K (tCal (sp_stair K) E0 (tCons (tVar 7) (tCons (tVar 3) tNil))) "base") [3]) tNil)) (tCal (sp_under K) E0 (tCons (tVar 7) tNil)))) rfl nd rfl rfl (sw_true rfl rfl rfl (by decide +kernel)) (pi_tup (pe_tup (pa_cons (pv 1) (pa_cons (pv 2) pa_nil)))) (blkOk_by (N := N_law_moved_right) (sc := defScope s_law_moved_right) (by decide +kernel)) (fun _ _ _ _ _ => pg_name (i := 7) nd rfl (by first | exact Or.inl rfl | exact Or.inr rfl)) (fun _ _ _ _ _ => pts_nil) (fun _ _ _ _ _ => (pe_op op_add (pe_callB (cr_sum rfl) rfl T.f_sum bt_sum (pa_cons (pe_lc (own := [("_law_place", 3)]) (g := gName 3) (tt := tYes) (te := (tFld K (tCal (sp_stair K) E0 (tCons (tVar 7) (tCons (tVar 3) tNil))) "base")) rfl nd (pi_tup (pe_fld (pv 1) rfl)) (blkOk_by (N := N_law_moved_right) (sc := { kind := .function, names := [(".0", .local), ("_law_unit", .cell), ("sum", .globalImplicit), ("under", .globalImplicit), ("_law_table_here", .cell)], isGenerator := false, isCoroutine := false }) (by decide +kernel)) (fun _ _ _ _ _ => pg_name (i := 3) nd rfl (by first | exact Or.inl rfl | exact Or.inr rfl)) (fun _ _ _ _ _ => pts_nil) (fun _ _ _ _ _ => (pe_fld (pe_cal (ok_stair T) (hr.mono (by decide)) (kpOf T.d_stair) rfl T.g_stair pass0 (pa_cons (pv 7) (pa_cons (pv 3) pa_nil))) rfl))) pa_nil)) (pe_cal (ok_under T) (hr.mono (by decide)) (kpOf T.d_under) rfl T.g_under pass0 (pa_cons (pv 7) pa_nil))))) (pss_one (ps_ret (pe_and (pe_cmpR op_eq (pe_ix ix_list (pv 6) pe_int (fun _ _ => rfl)) (pe_ix ix_list (pv 6) pe_int (fun _ _ => rfl)) (nomark _)) (pe_and (pe_cmpR op_isB (pe_cal (ok_alike T) (hr.mono (by decide)) (kpOf T.d_alike) rfl T.g_alike pass0 (pa_cons (pv 1) (pa_cons (pv 2) pa_nil))) pe_bl (nomark _)) (pe_one (pe_cmpR op_eq (pe_fld (pe_cal (ok_above T) (hr.mono (by decide)) (kpOf T.d_above) rfl T.g_above pass0 (pa_cons (pv 2) (pa_cons (pv 1) pa_nil))) rfl) pe_int (nomark _)))))))))), ?_⟩
  · obtain ⟨_, _, _, _, _, rfl, _⟩ := h; rfl
  · obtain ⟨p, x, l, B, tab, rfl, hpen, hB, hx, L1, L2, htr, hmv, hq⟩ := h
    obtain ⟨a, dx, d, n, pp, r, ras, rfl, ha, hd, hn, hp, hr2, hf⟩ := id hx
    have c6 : CPow 10 6 := ⟨by decide, by decide, by decide⟩
    have c5 : CPow 10 5 := ⟨by decide, by decide, by decide⟩
    have e6 : (10 : Int) ^ (6 : Int).toNat = 1000000 := by decide
    have e5 : (10 : Int) ^ (5 : Int).toNat = 100000 := by decide
    refine ⟨_, rfl, a, dx, _, rfl, ha, rfl, _, rfl, _, _, rfl, rfl, c6, p, _, l, B, rfl, hpen, by rw [e6]; decide, by rw [e6]; decide, by omega, fun H1 k0 s1 hp1 k1 k2 => ⟨_, _, rfl, rfl, c5, _, _, rfl, rfl, ?_⟩⟩
    have si1 := hpen.sx s1
    have mv := hmv (k0 - (10 : Int) ^ (5 : Int).toNat) (by omega) (by omega)
    refine ⟨_, tab, _, rfl, hx.si si1, L1, L2, htr, mv.pre, fun H2 tab' y s2 ht hg => ?_⟩
    obtain ⟨ab1, ab2, hpl, hnd, hsum⟩ := mv.gd tab' hg
    have si2 : SameI H H2 := si1.trans (SameI.of s2)
    have ha2 : H2 a = some _ := si2 _ _ ha (fun _ z => nomatch z)
    have hp2 : H2 pp = some _ := si2 _ _ hp (fun _ z => nomatch z)
    have hx2 := hx.si si2
    refine ⟨_, rfl, _, _, _, _, _, rfl, ha2, T.cl_Table, T.na_Table_places, rfl, pp, rfl, ⟨_, .inl (.inl hp2)⟩, for_tup (K := K) (fun i σ H' => Same H2 H' ∧ ∃ u3 u4 u5, σ = [some (.ref p), some (.ref a), some y, u3, u4, u5, none, none]) ⟨Same.refl _, none, none, none, rfl⟩ (fun i σ H' _ h => .inl (.inl (h.1 _ _ hp2))) (fun i v σ H3 hv hpv => ?_) fun σ H3 hpv => ?_⟩
    · obtain ⟨s3, u3, u4, u5, rfl⟩ := hpv
      obtain ⟨q, hq1, rfl⟩ : ∃ q, q ∈ tab.places ∧ v = .str q := by
        obtain ⟨q, h1, h2⟩ := List.mem_map.mp (List.mem_of_getElem? hv)
        exact ⟨q, h1, h2.symm⟩
      refine ⟨_, rfl, _, rfl, _, tab, q, rfl, hx2.si (SameI.of s3), hq1, ab1.f1, ab1.p1 q, fun H4 t1 y1 s4 hs1 ho1 => ⟨_, rfl, _, rfl, _, tab', q, rfl, ht.si (SameI.of (Same.trans s3 s4)), hpl.mem_iff.mpr hq1, ab1.f2, ab1.p2 q, fun H5 t2 y2 s5 hs2 ho2 => ⟨_, _, rfl, ?_⟩⟩⟩
      obtain ⟨ok1, al2, al3⟩ := ab1.al q t1 t2 ho1 ho2
      have hlen : t1.length = t2.length := ho1.l.trans (Eq.trans ab1.L ho2.l.symm)
      have hs1' := hs1.si (SameI.of s5)
      obtain ⟨a1, d1, r1, rfl, h1, hr1⟩ := id hs1'
      obtain ⟨a2, d2, r2, rfl, h2, hr2'⟩ := id hs2
      have dp1 : Dp K H5 (.ref r1) (.tuple (t1.rises.map .int)) := .tup (.inl (.inl hr1)) (dp_ints _)
      have dp2 : Dp K H5 (.ref r2) (.tuple (t1.rises.map .int)) := .tup (.inl (.inl (by rw [al2]; exact hr2'))) (dp_ints _)
      have sh := shaped_tup t1.rises
      have heq : ¬ (!PyData.eqv (.tuple (t1.rises.map .int)) (.tuple (t1.rises.map .int))) = true := by rw [SeqAt.eqv_refl _ (SeqAt.canLay_of_shaped sh)]; decide
      refine ⟨_, rfl, _, _, _, _, _, rfl, h1, T.cl_Stair, T.na_Stair_rises, rfl, _, rfl, _, _, _, _, _, rfl, h2, T.cl_Stair, T.na_Stair_rises, rfl, _, _, dp1, dp2, sh, sh, _, rfl, ?_⟩
      refine iteN heq ?_
      refine ⟨_, rfl, _, _, _, _, _, rfl, h1, T.cl_Stair, T.na_Stair_step, rfl, _, rfl, _, _, _, _, _, rfl, h2, T.cl_Stair, T.na_Stair_step, rfl, rfl, _, rfl, ?_⟩
      refine iteN (by rw [al3]; simp) ?_
      refine ⟨_, rfl, _, rfl, a1, a2, _, _, _, _, rfl, rfl, h1, h2, _, _, t1, t2, rfl, hs1', hs2, ok1, al2, hlen, al3, fun H6 s6 => ?_⟩
      have h16 := s6 _ _ h1
      have h26 := s6 _ _ h2
      refine ⟨_, rfl, _, _, _, _, _, rfl, h16, T.cl_Stair, T.na_Stair_base, rfl, _, rfl, _, _, _, _, _, rfl, h26, T.cl_Stair, T.na_Stair_base, rfl, _, _, rfl, rfl, rfl, _, rfl, ?_⟩
      refine iteN (by simp) ?_
      exact ⟨Same.trans s3 (Same.trans s4 (Same.trans s5 s6)), _, _, _, rfl⟩
    · obtain ⟨s3, u3, u4, u5, rfl⟩ := hpv
      let sel : Tab × V → Option V := fun c => some (.int ((tab.places.map fun q => stockAt (plOf c.1 q) 0).sum + underOf c.1))
      have good : ∀ c ∈ [(tab, V.ref a), (tab', y)], TabAt K H3 c.1 c.2 ∧ c.1.places.Perm tab.places ∧ c.1.rows.length ≤ 40 ∧ (∀ q, PlaceOk (plOf c.1 q)) ∧ 1 ≤ c.1.L ∧ c.1.L ≤ 1000000000000 := by
        intro c hc
        simp only [List.mem_cons, List.not_mem_nil, or_false] at hc
        rcases hc with rfl | rfl
        · exact ⟨hx2.si (SameI.of s3), List.Perm.refl _, ab1.f1, ab1.p1, ab1.l1, ab1.l2⟩
        · exact ⟨ht.si (SameI.of s3), hpl, ab1.f2, ab1.p2, ab2.l1, ab2.l2⟩
      refine ⟨_, rfl, _, rfl, (by show 2 ≤ sizeLine; decide), fun tp htp => ⟨tp, rfl, ⟨_, .inl (.inl upd_same)⟩, fun D hD => lcF walk_tup [(tab, V.ref a), (tab', y)] rfl 7 (fun c x => x = c.2) (fun i H0 x H' c hc _ yy => yAt (fa2_map (f := Prod.snd)) i H0 x H' c hc yy) hD (fun H' s => .inl (.inl (s _ _ upd_same))) sel (by show 2 < sizeLine; decide) (fun c x H4 Kt Kf hc hx4 s4 k1 k2 => ?_) (fun _ => rfl) fun H4 s4 hD4 => ?_⟩⟩
      · subst hx4
        obtain ⟨w1, w2, w3, w4, w5, w6⟩ := good c hc
        have t4 : Same H3 H4 := Same.trans (same_upd htp) s4
        have ha4 := (Same.trans s3 t4) _ _ ha2
        have hp4 := (Same.trans s3 t4) _ _ hp2
        refine tYes_k (iteT ?_)
        refine ⟨_, rfl, _, _, _, _, _, rfl, ha4, T.cl_Table, T.na_Table_places, rfl, pp, rfl, ⟨_, .inl (.inl hp4)⟩, fun D2 hD2 => lcF walk_tup tab.places (by rw [List.length_map]) 3 (fun q x => x = .str q) (fun i H0 x H' q hq _ yy => yAt fa2_map i H0 x H' q hq yy) hD2 (fun H' s => .inl (.inl (s _ _ hp4))) (fun q => some (.int (stockAt (plOf c.1 q) 0))) (by have := ab1.c1; rw [sizeLine_eq]; omega) (fun q x H5 Kt2 Kf2 hq5 hx5 s5 k3 k4 => ?_) (fun _ => rfl) fun H5 s5 hD5 => ?_⟩
        · subst hx5
          refine tYes_k (iteT ?_)
          refine ⟨_, rfl, _, rfl, _, c.1, q, rfl, w1.si (SameI.of (Same.trans t4 s5)), w2.mem_iff.mpr hq5, w3, w4 q, fun H6 s z s6 hs ho => ?_⟩
          obtain ⟨a1, d1, r1, rfl, h1, hr1⟩ := id hs
          refine ⟨_, _, _, _, _, rfl, h1, T.cl_Stair, T.na_Stair_base, rfl, k3 _ _ s6 ?_⟩
          rw [ho.b]
        · have e5 : tab.places.filterMap (fun q => some (V.int (stockAt (plOf c.1 q) 0))) = (tab.places.map fun q => stockAt (plOf c.1 q) 0).map V.int := by
            rw [List.map_map]
            exact congrFun List.filterMap_eq_map' _
          rw [e5] at hD5
          refine ⟨D2, _, rfl, .inl (.inl hD5), _, rfl, c.2, c.1, rfl, w1.si (SameI.of (Same.trans t4 s5)), w5, w6, w3, fun H6 s6 => ⟨_, _, rfl, rfl, k1 _ _ (Same.trans s5 s6) rfl⟩⟩
      · have t4 : Same H3 H4 := Same.trans (same_upd htp) s4
        have u1 : ∀ ps, Union tab tab' ps → aboveN tab tab' ps = 0 := fun ps hu => by
          have := aboveN_same hnd hpl hu
          omega
        have u2 : ∀ ps, Union tab' tab ps → aboveN tab' tab ps = 0 := fun ps hu => by
          have := aboveN_same (hpl.nodup_iff.mpr hnd) hpl.symm hu
          rw [perm_sum (hpl.map _), perm_sum (hpl.map _)] at this
          omega
        have y0 := hx2.si (SameI.of (Same.trans s3 t4))
        have y1 := ht.si (SameI.of (Same.trans s3 t4))
        refine ⟨_, rfl, D, _, 0, _, rfl, rfl, .inl (.inl hD4), rfl, _, rfl, D, _, 1, _, rfl, rfl, .inl (.inl hD4), rfl, rfl, _, rfl, ?_⟩
        refine iteP (decide_eq_true (congrArg V.int (show (tab.places.map fun q => stockAt (plOf tab q) 0).sum + underOf tab = (tab.places.map fun q => stockAt (plOf tab' q) 0).sum + underOf tab' by omega))) ?_
        refine ⟨_, rfl, _, rfl, _, _, tab, tab', rfl, y0, y1, ab1, ab2, fun ps hu => (by have := u1 ps hu; omega), fun ps hu => (by have := u2 ps hu; omega), fun H5 s5 => ?_⟩
        refine ⟨true, rfl, rfl, true, rfl, iteT ?_⟩
        refine ⟨_, rfl, _, rfl, _, _, tab', tab, rfl, y1.si (SameI.of s5), y0.si (SameI.of s5), ab2, fun H6 z ps s6 hu hz => ?_⟩
        obtain ⟨az, dz, pz, rfl, hz1⟩ := hz
        refine ⟨_, _, _, _, _, rfl, hz1, T.cl_Above, T.na_Above_number, rfl, rfl, ?_⟩
        rw [u2 ps hu]
        have sT : SameX p H H6 := sameX_trans s1 (sameX_of (Same.trans s2 (Same.trans s3 (Same.trans t4 (Same.trans s5 s6)))))
        exact hq H6 sT (hp1.s (Same.trans s2 (Same.trans s3 (Same.trans t4 (Same.trans s5 s6)))))
end K6
set_option Elab.async false
set_option linter.all false
set_option maxHeartbeats 4000000
set_option maxRecDepth 100000
namespace K6
open PySem PySem.Spec PyProof.Rows L2
/-! ### counts of clocks taken day after day -/
def cnt (L : Int) (S : List Int) (x : Int) : Int := (S.map fun s => (x - s) / L + 1).sum
theorem sum_ext {α : Type} {f g : α → Int} : ∀ {l : List α}, (∀ x ∈ l, f x = g x) → (l.map f).sum = (l.map g).sum
  | [], _ => rfl
  | x :: l, h => by
    rw [List.map_cons, List.map_cons, List.sum_cons, List.sum_cons, h x List.mem_cons_self, sum_ext fun y hy => h y (List.mem_cons_of_mem _ hy)]
theorem sum_mono {α : Type} {f g : α → Int} : ∀ {l : List α}, (∀ x ∈ l, f x ≤ g x) → (l.map f).sum ≤ (l.map g).sum
  | [], _ => by simp
  | x :: l, h => by
    rw [List.map_cons, List.map_cons, List.sum_cons, List.sum_cons]
    have h1 := h x List.mem_cons_self
    have h2 := sum_mono fun y hy => h y (List.mem_cons_of_mem _ hy)
    omega
theorem sum_plus {α : Type} (f g : α → Int) : ∀ l : List α, (l.map fun x => f x + g x).sum = (l.map f).sum + (l.map g).sum
  | [] => rfl
  | x :: l => by
    rw [List.map_cons, List.map_cons, List.map_cons, List.sum_cons, List.sum_cons, List.sum_cons, sum_plus f g l]
    omega
theorem sum_minus {α : Type} (f g : α → Int) : ∀ l : List α, (l.map fun x => f x - g x).sum = (l.map f).sum - (l.map g).sum
  | [] => rfl
  | x :: l => by
    rw [List.map_cons, List.map_cons, List.map_cons, List.sum_cons, List.sum_cons, List.sum_cons, sum_minus f g l]
    omega
theorem sum_ones {α : Type} : ∀ l : List α, (l.map fun _ => (1 : Int)).sum = (l.length : Nat)
  | [] => rfl
  | x :: l => by
    rw [List.map_cons, List.sum_cons, sum_ones l, List.length_cons]
    omega
theorem div_in {L x s : Int} (hL : 1 ≤ L) (hx : 0 ≤ x ∧ x < L) (hs : 0 ≤ s ∧ s < L) : (x - s) / L + 1 = if s ≤ x then 1 else 0 := by
  by_cases h : s ≤ x
  · rw [if_pos h, Int.ediv_eq_zero_of_lt (by omega) (by omega)]
    rfl
  · rw [if_neg h]
    have e : (x - s) / L = -1 := by
      have e1 : x - s = (x - s + L) + (-1) * L := by omega
      rw [e1, Int.add_mul_ediv_right _ _ (by omega), Int.ediv_eq_zero_of_lt (by omega) (by omega)]
      rfl
    omega
theorem upTo_cnt {L x : Int} (hL : 1 ≤ L) (hx : 0 ≤ x ∧ x < L) : ∀ {S : List Int}, (∀ s ∈ S, 0 ≤ s ∧ s < L) → upTo S x = cnt L S x
  | [], _ => rfl
  | s :: S, h => by
    have ih := upTo_cnt hL hx (S := S) fun y hy => h y (List.mem_cons_of_mem _ hy)
    have e := div_in hL hx (h s List.mem_cons_self)
    unfold cnt at ih ⊢
    rw [List.map_cons, List.sum_cons, e, ← ih]
    unfold upTo
    rw [List.filter_cons]
    by_cases q : s ≤ x
    · rw [if_pos (by simpa using q), if_pos q, List.length_cons]; omega
    · rw [if_neg (by simpa using q), if_neg q]; omega
theorem cnt_add (L : Int) (hL : 1 ≤ L) (S : List Int) (x j : Int) : cnt L S (x + j * L) = cnt L S x + j * (S.length : Nat) := by
  unfold cnt
  have e : (S.map fun s => (x + j * L - s) / L + 1) = S.map fun s => ((x - s) / L + 1) + j := by
    refine List.map_congr_left fun s _ => ?_
    have e1 : x + j * L - s = (x - s) + j * L := by omega
    rw [e1, Int.add_mul_ediv_right _ _ (by omega)]
    omega
  rw [e, sum_plus]
  congr 1
  have : (S.map fun _ => j).sum = j * (S.length : Nat) := by
    induction S with
    | nil => simp
    | cons a S ih => 
      rw [List.map_cons, List.sum_cons, ih (List.map_congr_left fun s _ => by
        have e1 : x + j * L - s = (x - s) + j * L := by omega
        rw [e1, Int.add_mul_ediv_right _ _ (by omega)]
        omega), List.length_cons, Int.natCast_add, Int.mul_add]
      simp
      omega
  exact this
theorem cnt_mono (L : Int) (hL : 1 ≤ L) (S : List Int) {x y : Int} (h : x ≤ y) : cnt L S x ≤ cnt L S y := by
  unfold cnt
  refine sum_mono fun s _ => ?_
  have := Int.ediv_le_ediv (show 0 < L by omega) (show x - s ≤ y - s by omega)
  omega
theorem cnt_app (L : Int) (S S' : List Int) (x : Int) : cnt L (S ++ S') x = cnt L S x + cnt L S' x := by
  unfold cnt
  rw [List.map_append, List.sum_append]
theorem cnt_nil (L x : Int) : cnt L [] x = 0 := rfl
theorem perm_sum' {l m : List Int} (h : l.Perm m) : l.sum = m.sum := by
  induction h with
  | nil => rfl
  | cons x _ ih => rw [List.sum_cons, List.sum_cons, ih]
  | swap x y l => rw [List.sum_cons, List.sum_cons, List.sum_cons, List.sum_cons]; omega
  | trans _ _ h1 h2 => rw [h1, h2]
theorem cnt_perm {L : Int} {S S' : List Int} (h : S.Perm S') (x : Int) : cnt L S x = cnt L S' x := perm_sum' (h.map _)
/-! ### wanted, for all moments -/
def Wd (d : PlaceD) (x p : Int) : Int := cnt d.L d.leavings x - cnt d.L d.ends x - cnt d.L d.comings (x - p)
/-- clocks are clocks, and as many leave as come in -/
structure PlaceG (d : PlaceD) : Prop where
  L1 : 1 ≤ d.L
  lv : ∀ x ∈ d.leavings, 0 ≤ x ∧ x < d.L
  en : ∀ x ∈ d.ends, 0 ≤ x ∧ x < d.L
  co : ∀ x ∈ d.comings, 0 ≤ x ∧ x < d.L
  bal : d.leavings.length = d.ends.length + d.comings.length
theorem wanted_Wd {d : PlaceD} (g : PlaceG d) {c : Int} (hc : 0 ≤ c ∧ c < d.L) (p : Int) : wantedAt d c p = Wd d c p := by
  unfold wantedAt Wd
  rw [upTo_cnt g.L1 hc g.lv, upTo_cnt g.L1 hc g.en]
  rfl
theorem Wd_turn {d : PlaceD} (g : PlaceG d) (x p j : Int) : Wd d (x + j * d.L) p = Wd d x p := by
  unfold Wd
  have e : x + j * d.L - p = (x - p) + j * d.L := by omega
  rw [e, cnt_add _ g.L1, cnt_add _ g.L1, cnt_add _ g.L1]
  have := g.bal
  have e2 : (j * (d.leavings.length : Nat) : Int) = j * (d.ends.length : Nat) + j * (d.comings.length : Nat) := by
    rw [this, Int.natCast_add, Int.mul_add]
  omega
theorem foldl_max_le {l : List Int} : ∀ {n : Int}, n ≤ l.foldl max n ∧ ∀ x ∈ l, x ≤ l.foldl max n := by
  induction l with
  | nil => intro n; exact ⟨Int.le_refl _, fun x h => nomatch h⟩
  | cons a l ih =>
    intro n
    obtain ⟨h1, h2⟩ := ih (n := max n a)
    rw [List.foldl_cons]
    refine ⟨by omega, fun x hx => ?_⟩
    rcases List.mem_cons.mp hx with rfl | hx
    · omega
    · exact h2 x hx
theorem foldl_max_in {l : List Int} : ∀ {n : Int}, l.foldl max n = n ∨ l.foldl max n ∈ l := by
  induction l with
  | nil => intro n; exact .inl rfl
  | cons a l ih =>
    intro n
    rw [List.foldl_cons]
    rcases ih (n := max n a) with h | h
    · rw [h]
      by_cases q : a ≤ n
      · exact .inl (by omega)
      · refine .inr ?_
        have e : max n a = a := by omega
        rw [e]
        exact List.mem_cons_self
    · exact .inr (List.mem_cons_of_mem _ h)
theorem maxOf_le {l : List Int} {d x : Int} (h : x ∈ l) : x ≤ maxOf d l := by
  cases l with
  | nil => cases h
  | cons a l =>
    rcases List.mem_cons.mp h with rfl | h
    · exact foldl_max_le.1
    · exact foldl_max_le.2 x h
theorem maxOf_in {l : List Int} {d : Int} (h : l ≠ []) : maxOf d l ∈ l := by
  cases l with
  | nil => exact absurd rfl h
  | cons a l =>
    rcases foldl_max_in (l := l) (n := a) with h | h
    · show l.foldl max a ∈ _
      rw [h]; exact List.mem_cons_self
    · exact List.mem_cons_of_mem _ h
/-- some item is least by a measure -/
theorem least_by (f : Int → Int) : ∀ {l : List Int}, l ≠ [] → ∃ a ∈ l, ∀ b ∈ l, f a ≤ f b
  | [], h => absurd rfl h
  | [a], _ => ⟨a, List.mem_cons_self, fun b hb => by simp at hb; subst hb; omega⟩
  | a :: b :: l, _ => by
    obtain ⟨m, h1, h2⟩ := least_by f (l := b :: l) (by simp)
    by_cases q : f a ≤ f m
    · refine ⟨a, List.mem_cons_self, fun x hx => ?_⟩
      rcases List.mem_cons.mp hx with rfl | hx
      · omega
      · have := h2 x hx; omega
    · refine ⟨m, List.mem_cons_of_mem _ h1, fun x hx => ?_⟩
      rcases List.mem_cons.mp hx with rfl | hx
      · omega
      · exact h2 x hx
theorem div_back {L y r : Int} (hL : 1 ≤ L) (h0 : 0 ≤ r) (h1 : r ≤ y % L) : (y - r) / L = y / L := by
  have e := Int.emod_add_mul_ediv y L
  have h2 := Int.emod_lt_of_pos y (show 0 < L by omega)
  have e1 : y - r = (y % L - r) + y / L * L := by rw [Int.mul_comm (y / L) L]; omega
  rw [e1, Int.add_mul_ediv_right _ _ (by omega), Int.ediv_eq_zero_of_lt (by omega) (by omega)]
  omega
theorem stock_empty {d : PlaceD} (h : d.leavings = []) (p : Int) : stockAt d p = 0 := by
  unfold stockAt
  rw [h]; rfl
theorem Wd_empty {d : PlaceD} (g : PlaceG d) (h : d.leavings = []) (x p : Int) : Wd d x p = 0 := by
  have b := g.bal
  rw [h] at b
  have h1 : d.ends = [] := List.length_eq_zero_iff.mp (by simp at b; omega)
  have h2 : d.comings = [] := List.length_eq_zero_iff.mp (by simp at b; omega)
  unfold Wd
  rw [h, h1, h2]
  rfl
/-- the stock bounds what is wanted at all moments -/
theorem Wd_le {d : PlaceD} (g : PlaceG d) (x p : Int) : Wd d x p ≤ stockAt d p := by
  by_cases hn : d.leavings = []
  · rw [Wd_empty g hn, stock_empty hn]; omega
  · obtain ⟨c, hc, hl⟩ := least_by (fun l => (x - l) % d.L) hn
    have hL := g.L1
    have r0 := Int.emod_nonneg (x - c) (show d.L ≠ 0 by omega)
    have e1 : Wd d x p ≤ Wd d (x - (x - c) % d.L) p := by
      unfold Wd
      have a1 : cnt d.L d.leavings (x - (x - c) % d.L) = cnt d.L d.leavings x := by
        unfold cnt
        refine sum_ext fun s hs => ?_
        have e : x - (x - c) % d.L - s = (x - s) - (x - c) % d.L := by omega
        rw [e, div_back hL r0 (hl s hs)]
      have a2 := cnt_mono d.L hL d.ends (show x - (x - c) % d.L ≤ x by omega)
      have a3 := cnt_mono d.L hL d.comings (show x - (x - c) % d.L - p ≤ x - p by omega)
      omega
    have e2 : x - (x - c) % d.L = c + (x - c) / d.L * d.L := by
      have := Int.emod_add_mul_ediv (x - c) d.L
      rw [Int.mul_comm ((x - c) / d.L) d.L]
      omega
    rw [e2, Wd_turn g] at e1
    refine Int.le_trans e1 ?_
    rw [← wanted_Wd g (g.lv c hc)]
    unfold stockAt
    exact maxOf_le (List.mem_map.mpr ⟨c, hc, rfl⟩)
theorem stock_in {d : PlaceD} (g : PlaceG d) (hn : d.leavings ≠ []) (p : Int) : ∃ c ∈ d.leavings, stockAt d p = Wd d c p := by
  unfold stockAt
  have h := maxOf_in (d := 0) (l := d.leavings.map fun c => wantedAt d c p) (fun e => hn (List.map_eq_nil_iff.mp e))
  obtain ⟨c, hc, e⟩ := List.mem_map.mp h
  exact ⟨c, hc, by rw [← e]; exact wanted_Wd g (g.lv c hc) p⟩
theorem stock_lub {d : PlaceD} (g : PlaceG d) {p b : Int} (h : ∀ c ∈ d.leavings, Wd d c p ≤ b) (h0 : d.leavings = [] → 0 ≤ b) : stockAt d p ≤ b := by
  by_cases hn : d.leavings = []
  · rw [stock_empty hn]; exact h0 hn
  · obtain ⟨c, hc, e⟩ := stock_in g hn p
    rw [e]; exact h c hc
theorem stock_mono {d : PlaceD} (g : PlaceG d) {p q : Int} (h : p ≤ q) : stockAt d p ≤ stockAt d q := by
  refine stock_lub g (fun c hc => ?_) (fun hn => by rw [stock_empty hn]; omega)
  refine Int.le_trans ?_ (Wd_le g c q)
  unfold Wd
  have := cnt_mono d.L g.L1 d.comings (show c - q ≤ c - p by omega)
  omega
theorem Wd_day {d : PlaceD} (g : PlaceG d) (x p j : Int) : Wd d x (p + j * d.L) = Wd d x p + j * (d.comings.length : Nat) := by
  unfold Wd
  have e : x - (p + j * d.L) = (x - p) + (-j) * d.L := by rw [Int.neg_mul]; omega
  rw [e, cnt_add _ g.L1, Int.neg_mul]
  omega
theorem stock_day {d : PlaceD} (g : PlaceG d) (p j : Int) : stockAt d (p + j * d.L) = stockAt d p + j * (d.comings.length : Nat) := by
  by_cases hn : d.leavings = []
  · have b := g.bal
    rw [hn] at b
    have h2 : d.comings.length = 0 := by simp at b; omega
    rw [stock_empty hn, stock_empty hn, h2]
    simp
  · obtain ⟨c, hc, e⟩ := stock_in g hn p
    obtain ⟨c2, hc2, e2⟩ := stock_in g hn (p + j * d.L)
    have h1 := Wd_le g c (p + j * d.L)
    have h2 := Wd_le g c2 p
    rw [Wd_day g] at h1 e2
    omega
theorem stock_base {d : PlaceD} (g : PlaceG d) : 0 ≤ stockAt d 0 := by
  have h := Wd_le g (d.L - 1) 0
  have hL := g.L1
  have z : ∀ S : List Int, (∀ s ∈ S, 0 ≤ s ∧ s < d.L) → cnt d.L S (d.L - 1) = (S.length : Nat) := fun S hS => by
    rw [← sum_ones S]
    unfold cnt
    refine sum_ext fun s hs => ?_
    have := hS s hs
    rw [div_in hL (by omega) this, if_pos (by omega)]
  have e : Wd d (d.L - 1) 0 = 0 := by
    unfold Wd
    rw [Int.sub_zero, z _ g.lv, z _ g.en, z _ g.co]
    have := g.bal
    omega
  omega
/-- between spots the stock stays -/
theorem stock_step {d : PlaceD} (g : PlaceG d) {q : Int} (h0 : 1 ≤ q) (h1 : q ≤ d.L) (hs : q ∉ spotsAll d) : stockAt d q = stockAt d (q - 1) := by
  have hm := stock_mono g (show q - 1 ≤ q by omega)
  refine Int.le_antisymm ?_ hm
  refine stock_lub g (fun c hc => ?_) (fun hn => by rw [stock_empty hn]; omega)
  refine Int.le_trans ?_ (Wd_le g c (q - 1))
  unfold Wd
  have e : cnt d.L d.comings (c - q) = cnt d.L d.comings (c - (q - 1)) := by
    unfold cnt
    refine sum_ext fun s hsm => ?_
    have hL := g.L1
    have hne : (c - s) % d.L + 1 ≠ q := fun e => hs (by
      unfold spotsAll
      exact List.mem_flatMap.mpr ⟨c, hc, List.mem_map.mpr ⟨s, hsm, e⟩⟩)
    have hr := Int.emod_nonneg (c - (q - 1) - s) (show d.L ≠ 0 by omega)
    have hr2 : (c - (q - 1) - s) % d.L ≠ 0 := fun e => by
      have e1 := Int.emod_add_mul_ediv (c - (q - 1) - s) d.L
      rw [e] at e1
      have e2 : c - s = (q - 1) + (c - (q - 1) - s) / d.L * d.L := by rw [Int.mul_comm _ d.L]; omega
      have e3 : (c - s) % d.L = q - 1 := by rw [e2, Int.add_mul_emod_self_right, Int.emod_eq_of_lt (by omega) (by omega)]
      omega
    have e4 : c - q - s = (c - (q - 1) - s) - 1 := by omega
    rw [e4, div_back hL (by omega) (by omega)]
  omega
end K6
set_option Elab.async false
set_option linter.all false
set_option maxHeartbeats 4000000
set_option maxRecDepth 100000
namespace K6
open PySem PySem.Spec PyProof.Rows L2
/-! ### the rises of a stair, by their counts -/
theorem upTo_cons (a : Int) (l : List Int) (x : Int) : upTo (a :: l) x = (if a ≤ x then 1 else 0) + upTo l x := by
  unfold upTo
  rw [List.filter_cons]
  by_cases q : a ≤ x
  · rw [if_pos (by simpa using q), if_pos q, List.length_cons]; omega
  · rw [if_neg (by simpa using q), if_neg q]; omega
theorem upTo_nil (x : Int) : upTo [] x = 0 := rfl
theorem upTo_app (l m : List Int) (x : Int) : upTo (l ++ m) x = upTo l x + upTo m x := by
  unfold upTo
  rw [List.filter_append, List.length_append]
  omega
theorem upTo_all {l : List Int} {x : Int} (h : ∀ y ∈ l, y ≤ x) : upTo l x = (l.length : Nat) := by
  induction l with
  | nil => rfl
  | cons a l ih => rw [upTo_cons, if_pos (h a List.mem_cons_self), ih fun y hy => h y (List.mem_cons_of_mem _ hy), List.length_cons]; omega
theorem upTo_none {l : List Int} {x : Int} (h : ∀ y ∈ l, x < y) : upTo l x = 0 := by
  induction l with
  | nil => rfl
  | cons a l ih => rw [upTo_cons, if_neg (by have := h a List.mem_cons_self; omega), ih fun y hy => h y (List.mem_cons_of_mem _ hy)]; omega
theorem upTo_nn (l : List Int) (x : Int) : 0 ≤ upTo l x := by unfold upTo; omega
theorem upTo_ext : ∀ {l m : List Int}, l.Pairwise (· ≤ ·) → m.Pairwise (· ≤ ·) → (∀ x, upTo l x = upTo m x) → l = m
  | [], [], _, _, _ => rfl
  | [], b :: m, _, _, h => by
    have := h b
    rw [upTo_cons, if_pos (Int.le_refl b), upTo_nil] at this
    have := upTo_nn m b
    omega
  | a :: l, [], _, _, h => by
    have := h a
    rw [upTo_cons, if_pos (Int.le_refl a), upTo_nil] at this
    have := upTo_nn l a
    omega
  | a :: l, b :: m, hl, hm, h => by
    have h1 := List.pairwise_cons.mp hl
    have h2 := List.pairwise_cons.mp hm
    have ha := h a
    have hb := h b
    rw [upTo_cons, upTo_cons, if_pos (Int.le_refl a)] at ha
    rw [upTo_cons, upTo_cons, if_pos (Int.le_refl b)] at hb
    have na := upTo_nn l a
    have nb := upTo_nn m b
    have e : a = b := by
      by_cases q : a < b
      · rw [if_neg (by omega), upTo_none (l := m) fun y hy => by have := h2.1 y hy; omega] at ha
        omega
      · by_cases q2 : b < a
        · rw [if_neg (by omega), upTo_none (l := l) fun y hy => by have := h1.1 y hy; omega] at hb
          omega
        · omega
    subst e
    congr 1
    refine upTo_ext h1.2 h2.2 fun x => ?_
    have := h x
    rw [upTo_cons, upTo_cons] at this
    omega
/-- what the rises of a stair are -/
structure Rises (d : PlaceD) (l : List Int) : Prop where
  so : l.Pairwise (· ≤ ·)
  b : ∀ x ∈ l, 1 ≤ x ∧ x ≤ d.L
  c : ∀ m, 0 ≤ m → m ≤ d.L → upTo l m = stockAt d m - stockAt d 0
theorem stock_flat {d : PlaceD} (g : PlaceG d) {lo : Int} (h0 : 0 ≤ lo) : ∀ (n : Nat), lo + n ≤ d.L → (∀ q, lo < q → q ≤ lo + n → q ∉ spotsAll d) → stockAt d (lo + n) = stockAt d lo
  | 0, _, _ => by simp
  | n + 1, h1, h => by
    have e : lo + ((n + 1 : Nat) : Int) - 1 = lo + (n : Nat) := by omega
    rw [stock_step g (by omega) h1 (h _ (by omega) (by omega)), e]
    exact stock_flat g h0 n (by omega) fun q q1 q2 => h q q1 (by omega)
theorem stock_flat' {d : PlaceD} (g : PlaceG d) {lo m : Int} (h0 : 0 ≤ lo) (h1 : lo ≤ m) (h2 : m ≤ d.L) (h : ∀ q, lo < q → q ≤ m → q ∉ spotsAll d) : stockAt d m = stockAt d lo := by
  have e : m = lo + ((m - lo).toNat : Nat) := by omega
  rw [e]
  exact stock_flat g h0 _ (by omega) fun q q1 q2 => h q q1 (by omega)
theorem rises_by {d : PlaceD} (g : PlaceG d) : ∀ (ns acc : List Int) (lo : Int), ns.Pairwise (· < ·) → 0 ≤ lo → lo ≤ d.L → (∀ z ∈ ns, lo < z ∧ z ≤ d.L) → (∀ q, lo < q → q ≤ d.L → q ∈ spotsAll d → q ∈ ns) →
    acc.Pairwise (· ≤ ·) → (∀ x ∈ acc, 1 ≤ x ∧ x ≤ lo) → (∀ m, 0 ≤ m → m ≤ lo → upTo acc m = stockAt d m - stockAt d 0) → Rises d (ns.foldl (riseStep d (stockAt d 0)) acc)
  | [], acc, lo, _, h0, hL, _, hsp, so, hb, hc => ⟨so, fun x hx => ⟨(hb x hx).1, by have := (hb x hx).2; omega⟩, fun m m0 m1 => by
    show upTo acc m = _
    by_cases q : m ≤ lo
    · exact hc m m0 q
    · rw [stock_flat' g h0 (show lo ≤ m by omega) m1 fun q q1 q2 hq => (nomatch hsp q q1 (by omega) hq)]
      rw [← hc lo h0 (Int.le_refl _), upTo_all fun y hy => (hb y hy).2, upTo_all fun y hy => by have := (hb y hy).2; omega]⟩
  | z :: ns, acc, lo, hs, h0, hL, hz, hsp, so, hb, hc => by
    have hs2 := List.pairwise_cons.mp hs
    obtain ⟨z0, z1⟩ := hz z List.mem_cons_self
    have fl : ∀ m, lo ≤ m → m < z → stockAt d m = stockAt d lo := fun m m0 m1 => stock_flat' g h0 m0 (by omega) fun q q1 q2 hq => by
      rcases List.mem_cons.mp (hsp q q1 (by omega) hq) with rfl | h
      · omega
      · have := hs2.1 q h; omega
    have el : (acc.length : Int) = stockAt d lo - stockAt d 0 := by
      rw [← hc lo h0 (Int.le_refl _), upTo_all fun y hy => (hb y hy).2]
    have mo := stock_mono g (show lo ≤ z by omega)
    rw [List.foldl_cons]
    have er : riseStep d (stockAt d 0) acc z = acc ++ List.replicate (stockAt d z - stockAt d lo).toNat z := by
      unfold riseStep
      have : stockAt d z - stockAt d 0 - (acc.length : Nat) = stockAt d z - stockAt d lo := by omega
      rw [this]
    rw [er]
    refine rises_by g ns _ z hs2.2 (by omega) z1 (fun y hy => ⟨hs2.1 y hy, (hz y (List.mem_cons_of_mem _ hy)).2⟩) (fun q q1 q2 hq => ?_) ?_ (fun x hx => ?_) fun m m0 m1 => ?_
    · rcases List.mem_cons.mp (hsp q (by omega) q2 hq) with rfl | h
      · omega
      · exact h
    · refine List.pairwise_append.mpr ⟨so, ?_, fun x hx y hy => ?_⟩
      · exact List.pairwise_replicate.mpr (.inr (Int.le_refl _))
      · rw [List.eq_of_mem_replicate hy]
        have := (hb x hx).2
        omega
    · rcases List.mem_append.mp hx with h | h
      · have := hb x h; omega
      · rw [List.eq_of_mem_replicate h]; omega
    · rw [upTo_app]
      by_cases q : m = z
      · subst q
        rw [upTo_all fun y hy => by have := (hb y hy).2; omega, upTo_all fun y hy => by rw [List.eq_of_mem_replicate hy]; omega, List.length_replicate]
        omega
      · rw [upTo_none (l := List.replicate _ z) fun y hy => by rw [List.eq_of_mem_replicate hy]; omega]
        by_cases q2 : m ≤ lo
        · rw [hc m m0 q2]; omega
        · rw [fl m (by omega) (by omega), upTo_all fun y hy => by have := (hb y hy).2; omega]; omega
theorem spot_in {d : PlaceD} (h : 1 ≤ d.L) {z : Int} (hz : z ∈ spotsAll d) : 1 ≤ z ∧ z ≤ d.L := by
  obtain ⟨l, _, hz⟩ := List.mem_flatMap.mp hz
  obtain ⟨c, _, rfl⟩ := List.mem_map.mp hz
  have h1 := Int.emod_nonneg (l - c) (show d.L ≠ 0 by omega)
  have h2 := Int.emod_lt_of_pos (l - c) (show 0 < d.L by omega)
  omega
theorem stair_rises {d : PlaceD} (g : PlaceG d) {s : Stair} (h : StairOf d s) : Rises d s.rises := by
  obtain ⟨_, _, ⟨ns, ⟨h1, h2⟩, e⟩, _⟩ := h
  rw [e]
  refine rises_by g ns [] 0 h1 (Int.le_refl _) (by have := g.L1; omega) (fun z hz => ?_) (fun q _ _ hq => (h2 q).mpr hq) List.Pairwise.nil (fun _ h => nomatch h) fun m m0 m1 => ?_
  · have := spot_in g.L1 ((h2 z).mp hz); omega
  · have : m = 0 := by omega
    subst this
    rw [upTo_nil]; omega
theorem Rises.len {d : PlaceD} (g : PlaceG d) {l : List Int} (h : Rises d l) : (l.length : Int) = (d.comings.length : Nat) := by
  have hL := g.L1
  have e := h.c d.L (by omega) (Int.le_refl _)
  rw [upTo_all fun y hy => (h.b y hy).2] at e
  have e2 := stock_day g 0 1
  rw [Int.zero_add, Int.one_mul] at e2
  omega
/-- rises are told by the differences of stocks -/
theorem Rises.ext {d d' : PlaceD} (g : PlaceG d) (g' : PlaceG d') {l l' : List Int} (h : Rises d l) (h' : Rises d' l') (e : d'.L = d.L) (ec : ∀ m, 0 ≤ m → m ≤ d.L → stockAt d' m - stockAt d' 0 = stockAt d m - stockAt d 0) : l = l' := by
  have hL := g.L1
  have key : ∀ m, 0 ≤ m → m ≤ d.L → upTo l m = upTo l' m := fun m m0 m1 => by rw [h.c m m0 m1, h'.c m m0 (by omega), ec m m0 m1]
  refine upTo_ext h.so h'.so fun x => ?_
  by_cases q : x < 0
  · rw [upTo_none fun y hy => by have := (h.b y hy).1; omega, upTo_none fun y hy => by have := (h'.b y hy).1; omega]
  · by_cases q2 : x ≤ d.L
    · exact key x (by omega) q2
    · have k := key d.L (by omega) (Int.le_refl _)
      rw [upTo_all fun y hy => (h.b y hy).2, upTo_all fun y hy => by have := (h'.b y hy).2; omega] at k
      rw [upTo_all fun y hy => by have := (h.b y hy).2; omega, upTo_all fun y hy => by have := (h'.b y hy).2; omega]
      exact k
/-- a stair's value is the stock -/
theorem call_stock {d : PlaceD} (g : PlaceG d) {s : Stair} (h : StairOf d s) {m : Int} (hm : 0 ≤ m) : callOf s m = stockAt d m := by
  have hL := g.L1
  have r := stair_rises g h
  have e := Int.emod_add_mul_ediv m d.L
  have m0 := Int.emod_nonneg m (show d.L ≠ 0 by omega)
  have m1 := Int.emod_lt_of_pos m (show 0 < d.L by omega)
  unfold callOf
  rw [h.l, h.b, h.st, r.c _ m0 (by omega)]
  have e2 := stock_day g (m % d.L) (m / d.L)
  rw [Int.mul_comm (m / d.L) d.L, e] at e2
  rw [e2]
  omega
/-- a stair is there -/
theorem spots_ex (l : List Int) : ∃ ns : List Int, ns.Pairwise (· < ·) ∧ ∀ z, z ∈ ns ↔ z ∈ l := by
  induction l with
  | nil => exact ⟨[], List.Pairwise.nil, fun z => Iff.rfl⟩
  | cons a l ih =>
    obtain ⟨ns, h1, h2⟩ := ih
    by_cases q : a ∈ ns
    · refine ⟨ns, h1, fun z => ?_⟩
      rw [List.mem_cons, h2]
      constructor
      · exact .inr
      · rintro (rfl | h)
        · exact (h2 _).mp q
        · exact h
    · refine ⟨ns.filter (fun x => decide (x < a)) ++ a :: ns.filter (fun x => decide (a < x)), ?_, fun z => ?_⟩
      · refine List.pairwise_append.mpr ⟨h1.filter _, List.pairwise_cons.mpr ⟨fun x hx => ?_, h1.filter _⟩, fun x hx y hy => ?_⟩
        · simpa using (List.mem_filter.mp hx).2
        · have hx1 : x < a := by simpa using (List.mem_filter.mp hx).2
          rcases List.mem_cons.mp hy with rfl | hy
          · exact hx1
          · have : a < y := by simpa using (List.mem_filter.mp hy).2
            omega
      · rw [List.mem_append, List.mem_cons, List.mem_filter, List.mem_filter, List.mem_cons, ← h2]
        simp only [decide_eq_true_eq]
        constructor
        · rintro (h | h | h)
          · exact .inr h.1
          · exact .inl h
          · exact .inr h.1
        · rintro (h | h)
          · exact .inr (.inl h)
          · have hne : z ≠ a := fun e => q (e ▸ h)
            by_cases q2 : z < a
            · exact .inl ⟨h, q2⟩
            · exact .inr (.inr ⟨h, by omega⟩)
theorem stair_ex (d : PlaceD) : ∃ s, StairOf d s := by
  obtain ⟨ns, h1, h2⟩ := spots_ex (spotsAll d)
  exact ⟨⟨d.L, stockAt d 0, risesBy d ns, (d.comings.length : Nat)⟩, rfl, rfl, ⟨ns, ⟨h1, h2⟩, rfl⟩, rfl⟩
end K6
set_option Elab.async false
set_option linter.all false
set_option maxHeartbeats 4000000
set_option maxRecDepth 100000
namespace K6
open PySem PySem.Spec PyProof.Rows L2
/-! ### the places of a table -/
structure RowsG (L : Int) (rows : List Trip) : Prop where
  L1 : 1 ≤ L
  L2 : L ≤ 1000000000000
  few : rows.length ≤ 40
  lv : ∀ t ∈ rows, 0 ≤ t.leaves ∧ t.leaves < L
  bal : Balanced rows
theorem mod_in {L x : Int} (h : 1 ≤ L) : 0 ≤ x % L ∧ x % L < L := ⟨Int.emod_nonneg x (by omega), Int.emod_lt_of_pos x (by omega)⟩
theorem RowsG.g {L : Int} {rows : List Trip} (h : RowsG L rows) (p : Str) : PlaceG (placeOf L rows p) where
  L1 := h.L1
  lv := fun x hx => by
    obtain ⟨t, ht, rfl⟩ := List.mem_map.mp hx
    exact h.lv t (List.mem_filter.mp ht).1
  en := fun x hx => by
    obtain ⟨t, ht, rfl⟩ := List.mem_map.mp hx
    exact mod_in h.L1
  co := fun x hx => by
    obtain ⟨t, ht, rfl⟩ := List.mem_map.mp hx
    exact mod_in h.L1
  bal := by
    have e := h.bal p
    show ((rows.filter fun t => decide (t.start = p)).map (·.leaves)).length = ((rows.filter (isEnd p)).map _).length + ((rows.filter (isComing p)).map _).length
    rw [List.length_map, List.length_map, List.length_map, ← e]
    clear e
    generalize rows = l
    induction l with
    | nil => rfl
    | cons t l ih =>
      rw [List.filter_cons, List.filter_cons, List.filter_cons]
      unfold isEnd isComing at *
      by_cases q : t.goal = p
      · cases r : t.run
        · simp [q, r, ih]; omega
        · simp [q, r, ih]; omega
      · simp [q, ih]
theorem RowsG.ok {L : Int} {rows : List Trip} (h : RowsG L rows) (p : Str) : PlaceOk (placeOf L rows p) where
  L1 := h.L1
  L2 := h.L2
  nl := by
    show ((rows.filter fun t => decide (t.start = p)).map (·.leaves)).length ≤ 40
    rw [List.length_map]
    exact Nat.le_trans (List.length_filter_le _ _) h.few
  ne := by
    show ((rows.filter (isEnd p)).map _).length ≤ 40
    rw [List.length_map]
    exact Nat.le_trans (List.length_filter_le _ _) h.few
  nc := by
    show ((rows.filter (isComing p)).map _).length ≤ 40
    rw [List.length_map]
    exact Nat.le_trans (List.length_filter_le _ _) h.few
  lv := (h.g p).lv
  en := (h.g p).en
  co := (h.g p).co
theorem bal_perm {rows rows' : List Trip} (h : rows'.Perm rows) (b : Balanced rows) : Balanced rows' := fun p => by
  rw [(h.filter _).length_eq, (h.filter _).length_eq]
  exact b p
theorem RowsG.perm {L : Int} {rows rows' : List Trip} (h : RowsG L rows) (p : rows'.Perm rows) : RowsG L rows' where
  L1 := h.L1
  L2 := h.L2
  few := by rw [p.length_eq]; exact h.few
  lv := fun t ht => h.lv t (p.mem_iff.mp ht)
  bal := bal_perm p h.bal
/-- two days with the same clocks in any order -/
structure PermD (d d' : PlaceD) : Prop where
  L : d'.L = d.L
  l : d'.leavings.Perm d.leavings
  e : d'.ends.Perm d.ends
  c : d'.comings.Perm d.comings
theorem PermD.Wd {d d' : PlaceD} (h : PermD d d') (x p : Int) : Wd d' x p = Wd d x p := by
  unfold K6.Wd
  rw [h.L, cnt_perm h.l, cnt_perm h.e, cnt_perm h.c]
theorem PermD.stock {d d' : PlaceD} (h : PermD d d') (g : PlaceG d) (g' : PlaceG d') (p : Int) : stockAt d' p = stockAt d p := by
  refine Int.le_antisymm ?_ ?_
  · refine stock_lub g' (fun c _ => by rw [h.Wd]; exact Wd_le g c p) fun e => ?_
    have e2 := h.l
    rw [e] at e2
    rw [stock_empty (List.nil_perm.mp e2)]
    omega
  · refine stock_lub g (fun c _ => by rw [← h.Wd]; exact Wd_le g' c p) fun e => ?_
    have e2 := h.l
    rw [e] at e2
    rw [stock_empty (List.perm_nil.mp e2)]
    omega
theorem PermD.spots {d d' : PlaceD} (h : PermD d d') (z : Int) : z ∈ spotsAll d' ↔ z ∈ spotsAll d := by
  unfold spotsAll
  rw [h.L]
  simp only [List.mem_flatMap, List.mem_map, h.l.mem_iff, h.c.mem_iff]
theorem riseStep_eq {d d' : PlaceD} (h : ∀ p, stockAt d' p = stockAt d p) (b : Int) : riseStep d' b = riseStep d b := by
  funext r z
  unfold riseStep
  rw [h]
theorem PermD.stair {d d' : PlaceD} (h : PermD d d') (g : PlaceG d) (g' : PlaceG d') {s : Stair} (hs : StairOf d' s) : StairOf d s := by
  obtain ⟨h1, h2, ⟨ns, ⟨h3, h4⟩, h5⟩, h6⟩ := hs
  refine ⟨by rw [h1, h.L], by rw [h2, h.stock g g'], ⟨ns, ⟨h3, fun z => (h4 z).trans (h.spots z)⟩, ?_⟩, by rw [h6, h.c.length_eq]⟩
  rw [h5]
  unfold risesBy
  rw [riseStep_eq (h.stock g g'), h.stock g g']
theorem permD_rows {L : Int} {rows rows' : List Trip} (h : rows'.Perm rows) (p : Str) : PermD (placeOf L rows p) (placeOf L rows' p) := ⟨rfl, (h.filter _).map _, (h.filter _).map _, (h.filter _).map _⟩
/-- a table's rows are as they were given, in some order -/
theorem stair_rows {L : Int} {rows rows' : List Trip} (g : RowsG L rows) (h : rows'.Perm rows) {p : Str} {s : Stair} (hs : StairOf (placeOf L rows' p) s) : StairOf (placeOf L rows p) s :=
  (permD_rows h p).stair (g.g p) ((g.perm h).g p) hs
theorem stock_rows {L : Int} {rows rows' : List Trip} (g : RowsG L rows) (h : rows'.Perm rows) (p : Str) (m : Int) : stockAt (placeOf L rows' p) m = stockAt (placeOf L rows p) m :=
  (permD_rows h p).stock (g.g p) ((g.perm h).g p) m
theorem stair_ok {d : PlaceD} (g : PlaceG d) (o : PlaceOk d) {s : Stair} (h : StairOf d s) : StairOk s := by
  have r := stair_rises g h
  refine ⟨by rw [h.l]; exact o.L1, by rw [h.l]; exact o.L2, ?_, ?_, r.so⟩
  · obtain ⟨_, _, ⟨ns, ⟨_, h2⟩, e⟩, _⟩ := h
    rw [e]
    exact rises_len o ns [] (fun z hz => spot_bound o ((h2 z).mp hz)) (by simp)
  · rw [h.st, r.len g]
/-! ### so many times as great -/
def timesD (k : Int) (d : PlaceD) : PlaceD := ⟨d.L * k, d.leavings.map (· * k), d.ends.map (· * k), d.comings.map (· * k)⟩
def upK (k p : Int) : Int := -((-p) / k)
theorem upK_at {k : Int} (hk : 1 ≤ k) (m : Int) : upK k (k * m) = m := by
  unfold upK
  rw [← Int.mul_neg, Int.mul_ediv_cancel_left _ (by omega)]
  omega
theorem upK_next {k : Int} (hk : 1 ≤ k) (m : Int) : upK k (k * m + 1) = m + 1 := by
  unfold upK
  have e : -(k * m + 1) = -1 + (-m) * k := by rw [Int.neg_mul, Int.mul_comm m k]; omega
  rw [e, Int.add_mul_ediv_right _ _ (by omega)]
  have e1 : (-1 : Int) / k = -1 := by
    have e2 : (-1 : Int) = (k - 1) + (-1) * k := by omega
    rw [e2, Int.add_mul_ediv_right _ _ (by omega), Int.ediv_eq_zero_of_lt (by omega) (by omega)]
    omega
  omega
theorem upK_eq {k : Int} (hk : 1 ≤ k) (p : Int) : ∃ w, 0 ≤ w ∧ w < k ∧ p = k * upK k p - w := by
  refine ⟨(-p) % k, Int.emod_nonneg _ (by omega), Int.emod_lt_of_pos _ (by omega), ?_⟩
  unfold upK
  have := Int.emod_add_mul_ediv (-p) k
  rw [Int.mul_neg]
  omega
theorem upK_le {k : Int} (hk : 1 ≤ k) (p r : Int) : k * (r - 1) + 1 ≤ p ↔ r ≤ upK k p := by
  obtain ⟨w, w0, w1, e⟩ := upK_eq hk p
  generalize upK k p = u at e ⊢
  rw [Int.mul_sub, Int.mul_one]
  constructor
  · intro h
    by_cases q : r ≤ u
    · exact q
    · have := Int.mul_le_mul_of_nonneg_left (show u + 1 ≤ r by omega) (show 0 ≤ k by omega)
      rw [Int.mul_add, Int.mul_one] at this
      omega
  · intro h
    have := Int.mul_le_mul_of_nonneg_left h (show 0 ≤ k by omega)
    omega
theorem cnt_times {L k : Int} (hL : 1 ≤ L) (hk : 1 ≤ k) (S : List Int) (x : Int) : cnt (L * k) (S.map (· * k)) x = cnt L S (x / k) := by
  unfold cnt
  rw [List.map_map]
  refine sum_ext fun s _ => ?_
  show (x - s * k) / (L * k) + 1 = _
  have e1 : x - s * k = x + (-s) * k := by rw [Int.neg_mul]; omega
  rw [Int.mul_comm L k, ← Int.ediv_ediv_of_nonneg (by omega), e1, Int.add_mul_ediv_right _ _ (by omega)]
  congr 1
theorem times_stock {d : PlaceD} (g : PlaceG d) {k : Int} (hk : 1 ≤ k) (g' : PlaceG (timesD k d)) (p : Int) : stockAt (timesD k d) p = stockAt d (upK k p) := by
  have key : ∀ x, Wd (timesD k d) (x * k) p = Wd d x (upK k p) := fun x => by
    unfold Wd timesD
    simp only
    rw [cnt_times g.L1 hk, cnt_times g.L1 hk, cnt_times g.L1 hk, Int.mul_ediv_cancel _ (by omega)]
    have e : x * k - p = -p + x * k := by omega
    rw [e, Int.add_mul_ediv_right _ _ (by omega)]
    unfold upK
    have e2 : -p / k + x = x - -(-p / k) := by omega
    rw [e2]
  have hn : (timesD k d).leavings = [] ↔ d.leavings = [] := List.map_eq_nil_iff
  refine Int.le_antisymm ?_ ?_
  · refine stock_lub g' (fun c hc => ?_) fun e => by rw [stock_empty (hn.mp e)]; omega
    obtain ⟨x, hx, rfl⟩ := List.mem_map.mp hc
    rw [key]
    exact Wd_le g _ _
  · refine stock_lub g (fun c hc => ?_) fun e => by rw [stock_empty (hn.mpr e)]; omega
    rw [← key]
    exact Wd_le g' _ _
theorem times_rises {d d' : PlaceD} (g : PlaceG d) {k : Int} (hk : 1 ≤ k) (eL : d'.L = d.L * k) (es : ∀ p, stockAt d' p = stockAt d (upK k p)) {l : List Int} (r : Rises d l) : Rises d' (l.map fun r => k * (r - 1) + 1) := by
  have hL := g.L1
  refine ⟨?_, fun x hx => ?_, fun m m0 m1 => ?_⟩
  · rw [List.pairwise_map]
    refine r.so.imp fun h => ?_
    have := Int.mul_le_mul_of_nonneg_left h (show 0 ≤ k by omega)
    rw [Int.mul_sub, Int.mul_sub]
    omega
  · obtain ⟨y, hy, rfl⟩ := List.mem_map.mp hx
    obtain ⟨y0, y1⟩ := r.b y hy
    have h1 := Int.mul_nonneg (show 0 ≤ k by omega) (show 0 ≤ y - 1 by omega)
    have h2 := Int.mul_le_mul_of_nonneg_left y1 (show 0 ≤ k by omega)
    rw [eL, Int.mul_comm d.L k]
    rw [Int.mul_sub] at h1 ⊢
    omega
  · have e0 : upK k 0 = 0 := by unfold upK; simp
    have e : upTo (l.map fun r => k * (r - 1) + 1) m = upTo l (upK k m) := by
      clear r
      induction l with
      | nil => rfl
      | cons a l ih =>
        rw [List.map_cons, upTo_cons, upTo_cons, ih]
        congr 1
        by_cases q : a ≤ upK k m
        · rw [if_pos ((upK_le hk m a).mpr q), if_pos q]
        · rw [if_neg (fun z => q ((upK_le hk m a).mp z)), if_neg q]
    obtain ⟨w, w0, w1, ew⟩ := upK_eq hk m
    rw [e, es, es, e0]
    refine r.c _ ?_ ?_
    · by_cases q : 0 ≤ upK k m
      · exact q
      · have := Int.mul_le_mul_of_nonneg_left (show upK k m ≤ -1 by omega) (show 0 ≤ k by omega)
        omega
    · by_cases q : upK k m ≤ d.L
      · exact q
      · have := Int.mul_le_mul_of_nonneg_left (show d.L + 1 ≤ upK k m by omega) (show 0 ≤ k by omega)
        rw [Int.mul_add] at this
        rw [eL, Int.mul_comm d.L k] at m1
        omega
end K6
set_option Elab.async false
set_option linter.all false
set_option maxHeartbeats 4000000
set_option maxRecDepth 100000
namespace K6
open PySem PySem.Spec PyProof.Rows L2
def scaledT (k : Int) (t : Trip) : Trip := { t with leaves := t.leaves * k, takes := t.takes * k }
def lateMap (k : Int) : Option Int → Option Int
  | none => none
  | some v => some (if v < 0 then v else k * v)
theorem place_scaled {L k : Int} (hk : 1 ≤ k) (rows : List Trip) (p : Str) : placeOf (L * k) (rows.map (scaledT k)) p = timesD k (placeOf L rows p) := by
  have em : ∀ t : Trip, ((scaledT k t).leaves + (scaledT k t).takes) % (L * k) = (t.leaves + t.takes) % L * k := fun t => by
    show (t.leaves * k + t.takes * k) % (L * k) = _
    rw [← Int.add_mul, Int.mul_comm _ k, Int.mul_comm L k, Int.mul_emod_mul_of_pos _ _ (by omega), Int.mul_comm]
  unfold placeOf timesD
  simp only [List.filter_map, List.map_map]
  refine congr (congr (congr rfl ?_) ?_) ?_
  · exact List.map_congr_left fun t _ => rfl
  · exact List.map_congr_left fun t _ => em t
  · exact List.map_congr_left fun t _ => em t
theorem filter_scaled (k : Int) (f : Trip → Bool) (h : ∀ t, f (scaledT k t) = f t) (rows : List Trip) : ((rows.map (scaledT k)).filter f).length = (rows.filter f).length := by
  rw [List.filter_map, List.length_map]
  congr 1
  exact List.filter_congr fun t _ => h t
theorem scaled_bal {k : Int} {rows : List Trip} (b : Balanced rows) : Balanced (rows.map (scaledT k)) := fun p => by
  rw [filter_scaled k _ (fun _ => rfl), filter_scaled k _ (fun _ => rfl)]
  exact b p
theorem scaled_rows {L k : Int} {rows : List Trip} (g : RowsG L rows) (hk : 1 ≤ k) (hL : L * k ≤ 1000000000000) : RowsG (L * k) (rows.map (scaledT k)) where
  L1 := by
    have := Int.mul_le_mul_of_nonneg_right g.L1 (show 0 ≤ k by omega)
    omega
  L2 := hL
  few := by rw [List.length_map]; exact g.few
  lv := fun t ht => by
    obtain ⟨u, hu, rfl⟩ := List.mem_map.mp ht
    obtain ⟨h0, h1⟩ := g.lv u hu
    exact ⟨Int.mul_nonneg h0 (by omega), Int.mul_lt_mul_of_pos_right h1 (by omega)⟩
  bal := scaled_bal g.bal
theorem places_same {rows rows' : List Trip} {ps ps' : List Str} (h : PlacesOf rows ps) (h' : PlacesOf rows' ps') (e : ∀ x, (∃ t ∈ rows, x = t.start ∨ x = t.goal) ↔ ∃ t ∈ rows', x = t.start ∨ x = t.goal) : ps'.Perm ps :=
  (List.perm_ext_iff_of_nodup h'.1 h.1).mpr fun x => ((h'.2 x).trans (e x).symm).trans (h.2 x).symm
theorem places_map {rows : List Trip} {f : Trip → Trip} (hs : ∀ t, (f t).start = t.start) (hg : ∀ t, (f t).goal = t.goal) (x : Str) : (∃ t ∈ rows, x = t.start ∨ x = t.goal) ↔ ∃ t ∈ rows.map f, x = t.start ∨ x = t.goal := by
  constructor
  · rintro ⟨t, ht, h⟩
    exact ⟨f t, List.mem_map.mpr ⟨t, ht, rfl⟩, by rw [hs, hg]; exact h⟩
  · rintro ⟨t, ht, h⟩
    obtain ⟨u, hu, rfl⟩ := List.mem_map.mp ht
    exact ⟨u, hu, by rw [hs, hg] at h; exact h⟩
theorem minOpt_comm (f v w : Option Int) : minOpt (minOpt f v) w = minOpt (minOpt f w) v := by
  cases f with
  | none =>
    cases v with
    | none => cases w <;> rfl
    | some v =>
      cases w with
      | none => rfl
      | some w =>
        show some (if w < v then w else v) = some (if v < w then v else w)
        congr 1
        split <;> split <;> omega
  | some f =>
    cases v with
    | none => cases w <;> rfl
    | some v =>
      cases w with
      | none => rfl
      | some w =>
        show some (if w < (if v < f then v else f) then w else (if v < f then v else f)) = some (if v < (if w < f then w else f) then v else (if w < f then w else f))
        congr 1
        split <;> split <;> (try split) <;> (try split) <;> omega
theorem lateMap_min {k : Int} (hk : 1 ≤ k) (f v : Option Int) : minOpt (lateMap k f) (lateMap k v) = lateMap k (minOpt f v) := by
  cases v with
  | none => cases f <;> rfl
  | some v =>
    cases f with
    | none => rfl
    | some f =>
      show some (if (if v < 0 then v else k * v) < (if f < 0 then f else k * f) then (if v < 0 then v else k * v) else (if f < 0 then f else k * f)) = some (if (if v < f then v else f) < 0 then (if v < f then v else f) else k * (if v < f then v else f))
      congr 1
      have n1 : 0 ≤ v → 0 ≤ k * v := fun h => Int.mul_nonneg (by omega) h
      have n2 : 0 ≤ f → 0 ≤ k * f := fun h => Int.mul_nonneg (by omega) h
      by_cases q : v < f
      · rw [if_pos q]
        by_cases a : v < 0
        · rw [if_pos a]
          by_cases b : f < 0
          · rw [if_pos b, if_pos q]
          · rw [if_neg b, if_pos (by have := n2 (by omega); omega)]
        · rw [if_neg a, if_neg (show ¬ f < 0 by omega), if_pos (Int.mul_lt_mul_of_pos_left q (by omega))]
      · rw [if_neg q]
        by_cases a : f < 0
        · rw [if_pos a]
          by_cases b : v < 0
          · rw [if_pos b, if_neg q]
          · rw [if_neg b, if_neg (by have := n1 (by omega); omega)]
        · rw [if_neg a]
          have := Int.mul_le_mul_of_nonneg_left (show f ≤ v by omega) (show 0 ≤ k by omega)
          rw [if_neg (show ¬ v < 0 by omega), if_neg (by omega)]
theorem stairC_spec (d : PlaceD) : StairOf d (stairC d) := by
  obtain ⟨s, h⟩ := stair_ex d
  exact stairC_of h
theorem fold_late {k : Int} (hk : 1 ≤ k) {f g : Str → Option Int} : ∀ {ps : List Str} {i : Option Int}, (∀ p ∈ ps, g p = lateMap k (f p)) → ps.foldl (fun a p => minOpt a (g p)) (lateMap k i) = lateMap k (ps.foldl (fun a p => minOpt a (f p)) i)
  | [], _, _ => rfl
  | p :: ps, i, h => by
    rw [List.foldl_cons, List.foldl_cons, h p List.mem_cons_self, lateMap_min hk]
    exact fold_late hk fun q hq => h q (List.mem_cons_of_mem _ hq)
theorem longest_scaled {k : Int} {s t : Stair} (o : StairOk s) (el : t.length = s.length * k) (eb : t.base = s.base) (er : t.rises = s.rises.map fun r => k * (r - 1) + 1) (es : t.step = s.step) {n : Int} (hn : s.base ≤ n) : longestOf t n = (longestOf s n).map fun v => k * v := by
  unfold longestOf
  rw [es, eb, el, er]
  by_cases q : s.step = 0
  · rw [if_pos q, if_pos q]; rfl
  · rw [if_neg q, if_neg q]
    show some _ = some (k * _)
    congr 1
    have h1 := o.st
    have hm0 := Int.emod_nonneg (n - s.base) q
    have hm1 := Int.emod_lt_of_pos (n - s.base) (show 0 < s.step by omega)
    have hi : ((n - s.base) % s.step).toNat < s.rises.length := by omega
    generalize ((n - s.base) % s.step).toNat = i at hi
    rw [List.getD_eq_getElem?_getD, List.getD_eq_getElem?_getD, List.getElem?_map, List.getElem?_eq_getElem hi]
    show k * (s.rises[i] - 1) + 1 + s.length * k * ((n - s.base) / s.step) - 1 = k * (s.rises[i] + s.length * ((n - s.base) / s.step) - 1)
    generalize (n - s.base) / s.step = j
    rw [Int.mul_sub, Int.mul_sub, Int.mul_add, Int.mul_comm s.length k, Int.mul_assoc]
    omega
/-- the great table beside the small one -/
structure ScaledGd (tab : Tab) (k : Int) (great : Tab) : Prop where
  pm : great.places.Perm tab.places
  few : great.rows.length ≤ 40
  po : ∀ p, PlaceOk (plOf great p)
  ok : ∀ p s, StairOf (plOf tab p) s → StairOk s ∧ 0 ≤ s.base ∧ s.base ≤ 80 ∧ ∀ z ∈ s.rises, 1 ≤ z ∧ z ≤ tab.L
  ok2 : ∀ p t, StairOf (plOf great p) t → StairOk t
  st : ∀ p s t, StairOf (plOf tab p) s → StairOf (plOf great p) t → t.length = s.length * k ∧ t.base = s.base ∧ t.rises = s.rises.map (fun r => k * (r - 1) + 1) ∧ t.step = s.step
  call : ∀ p s t, StairOf (plOf tab p) s → StairOf (plOf great p) t → ∀ m, 0 ≤ m → callOf t (k * m) = callOf s m ∧ callOf t (k * m + 1) = callOf s (m + 1)
  lng : ∀ p s t, StairOf (plOf tab p) s → StairOf (plOf great p) t → ∀ n, s.base ≤ n → longestOf t n = (longestOf s n).map fun v => k * v
  late : ∀ told sv : Str → Int, (∀ p ∈ tab.places, ∀ s, StairOf (plOf tab p) s → s.base ≤ sv p) → lateOf great (fun p => k * told p) sv = lateMap k (lateOf tab told sv)
theorem scaled_gd {tab great : Tab} {k : Int} (g : RowsG tab.L tab.rows) (hp : PlacesOf tab.rows tab.places) (hk : 1 ≤ k) (hL : tab.L * k ≤ 1000000000000) (got : TabGot (tab.L * k) (tab.rows.map (scaledT k)) great) : ScaledGd tab k great := by
  have g2 := scaled_rows g hk hL
  have gg : RowsG great.L great.rows := by rw [got.hL]; exact g2.perm got.hr
  have pd : ∀ p, PermD (timesD k (plOf tab p)) (plOf great p) := fun p => by
    rw [← place_scaled hk]
    show PermD _ (placeOf great.L great.rows p)
    rw [got.hL]
    exact permD_rows got.hr p
  have gt : ∀ p, PlaceG (timesD k (plOf tab p)) := fun p => by rw [← place_scaled hk]; exact g2.g p
  have es : ∀ p m, stockAt (plOf great p) m = stockAt (plOf tab p) (upK k m) := fun p m => by
    rw [(pd p).stock (gt p) (gg.g p), times_stock (g.g p) hk (gt p)]
  have eL : ∀ p, (plOf great p).L = (plOf tab p).L * k := fun p => got.hL
  have ec : ∀ p, (plOf great p).comings.length = (plOf tab p).comings.length := fun p => by
    rw [(pd p).c.length_eq]
    exact List.length_map _
  have e0 : upK k 0 = 0 := by unfold upK; simp
  have st : ∀ p s t, StairOf (plOf tab p) s → StairOf (plOf great p) t → t.length = s.length * k ∧ t.base = s.base ∧ t.rises = s.rises.map (fun r => k * (r - 1) + 1) ∧ t.step = s.step := fun p s t hs ht => by
    refine ⟨by rw [ht.l, hs.l]; exact eL p, by rw [ht.b, hs.b, es, e0], ?_, by rw [ht.st, hs.st, ec]⟩
    exact Rises.ext (gg.g p) (gg.g p) (stair_rises (gg.g p) ht) (times_rises (g.g p) hk (eL p) (es p) (stair_rises (g.g p) hs)) rfl fun _ _ _ => rfl
  have lng : ∀ p s t, StairOf (plOf tab p) s → StairOf (plOf great p) t → ∀ n, s.base ≤ n → longestOf t n = (longestOf s n).map fun v => k * v := fun p s t hs ht n hn => by
    obtain ⟨h1, h2, h3, h4⟩ := st p s t hs ht
    exact longest_scaled (stair_ok (g.g p) (g.ok p) hs) h1 h2 h3 h4 hn
  refine ⟨places_same hp got.hp fun x => places_map (f := scaledT k) (fun _ => rfl) (fun _ => rfl) x, by rw [got.hr.length_eq, List.length_map]; exact g.few, fun p => gg.ok p, fun p s hs => ⟨stair_ok (g.g p) (g.ok p) hs, ?_, ?_, ?_⟩, fun p t ht => stair_ok (gg.g p) (gg.ok p) ht, st, fun p s t hs ht m hm => ?_, lng, fun told sv h => ?_⟩
  · rw [hs.b]; exact stock_base (g.g p)
  · rw [hs.b]; exact (stock_bound (g.ok p) ⟨Int.le_refl _, by have := (g.ok p).L1; omega⟩).2
  · exact (stair_rises (g.g p) hs).b
  · have km := Int.mul_nonneg (show 0 ≤ k by omega) hm
    rw [call_stock (gg.g p) ht km, call_stock (gg.g p) ht (show 0 ≤ k * m + 1 by omega), call_stock (g.g p) hs hm, call_stock (g.g p) hs (by omega), es, es, upK_at hk, upK_next hk]
    exact ⟨rfl, rfl⟩
  · unfold lateOf
    have pm : great.places.Perm tab.places := places_same hp got.hp fun x => places_map (f := scaledT k) (fun _ => rfl) (fun _ => rfl) x
    rw [pm.foldl_eq' (fun x _ y _ z => minOpt_comm z _ _)]
    refine (fold_late hk (f := fun p => lateV (stairC (plOf tab p)) (sv p) (told p)) (i := none) fun p hpm => ?_)
    have hs := stairC_spec (plOf tab p)
    have ht := stairC_spec (plOf great p)
    unfold lateV
    rw [lng p _ _ hs ht _ (h p hpm _ hs)]
    cases longestOf (stairC (plOf tab p)) (sv p) with
    | none => rfl
    | some v =>
      show some (if k * told p ≤ k * v then k * v - k * told p else -1) = some (if (if told p ≤ v then v - told p else -1) < 0 then (if told p ≤ v then v - told p else -1) else k * (if told p ≤ v then v - told p else -1))
      congr 1
      by_cases q : told p ≤ v
      · have := Int.mul_le_mul_of_nonneg_left q (show 0 ≤ k by omega)
        rw [if_pos q, if_pos this, if_neg (by omega), Int.mul_sub]
      · have := Int.mul_lt_mul_of_pos_left (show v < told p by omega) (show 0 < k by omega)
        rw [if_neg q, if_neg (by omega), if_pos (by omega)]
end K6
set_option Elab.async false
set_option linter.all false
set_option maxHeartbeats 4000000
set_option maxRecDepth 100000
namespace K6
open PySem PySem.Spec PyProof.Rows L2
/-! ### a table moved on -/
def moveD (k : Int) (d : PlaceD) : PlaceD := ⟨d.L, d.leavings.map fun s => (s + k) % d.L, d.ends.map fun s => (s + k) % d.L, d.comings.map fun s => (s + k) % d.L⟩
def turns (L k : Int) (S : List Int) : Int := (S.map fun s => (s + k) / L).sum
def turnsD (k : Int) (d : PlaceD) : Int := turns d.L k d.leavings - turns d.L k d.ends - turns d.L k d.comings
theorem cnt_move {L : Int} (hL : 1 ≤ L) (k : Int) (S : List Int) (x : Int) : cnt L (S.map fun s => (s + k) % L) x = cnt L S (x - k) + turns L k S := by
  unfold cnt turns
  rw [List.map_map, ← sum_plus]
  refine sum_ext fun s _ => ?_
  show (x - (s + k) % L) / L + 1 = (x - k - s) / L + 1 + (s + k) / L
  have e := Int.emod_add_mul_ediv (s + k) L
  have e1 : x - (s + k) % L = (x - k - s) + (s + k) / L * L := by rw [Int.mul_comm _ L]; omega
  rw [e1, Int.add_mul_ediv_right _ _ (by omega)]
  omega
theorem move_Wd {d : PlaceD} (g : PlaceG d) (k x p : Int) : Wd (moveD k d) x p = Wd d (x - k) p + turnsD k d := by
  unfold Wd moveD turnsD
  simp only
  rw [cnt_move g.L1, cnt_move g.L1, cnt_move g.L1]
  have e : x - p - k = x - k - p := by omega
  rw [e]
  omega
theorem move_stock {d : PlaceD} (g : PlaceG d) (k : Int) (g' : PlaceG (moveD k d)) (p : Int) : stockAt (moveD k d) p = stockAt d p + turnsD k d := by
  have hn : (moveD k d).leavings = [] ↔ d.leavings = [] := List.map_eq_nil_iff
  have h0 : d.leavings = [] → turnsD k d = 0 := fun h => by
    have b := g.bal
    rw [h] at b
    have h1 : d.ends = [] := List.length_eq_zero_iff.mp (by simp at b; omega)
    have h2 : d.comings = [] := List.length_eq_zero_iff.mp (by simp at b; omega)
    unfold turnsD
    rw [h, h1, h2]
    rfl
  refine Int.le_antisymm ?_ ?_
  · refine stock_lub g' (fun c _ => ?_) fun e => by rw [stock_empty (hn.mp e), h0 (hn.mp e)]; omega
    rw [move_Wd g]
    have := Wd_le g (c - k) p
    omega
  · by_cases q : d.leavings = []
    · rw [stock_empty q, stock_empty (hn.mpr q), h0 q]; omega
    · obtain ⟨c, _, e⟩ := stock_in g q p
      have h := Wd_le g' (c + k) p
      rw [move_Wd g] at h
      have e2 : c + k - k = c := by omega
      rw [e2] at h
      omega
theorem move_rises {d d' : PlaceD} (g : PlaceG d) (g' : PlaceG d') (eL : d'.L = d.L) {z : Int} (es : ∀ p, stockAt d' p = stockAt d p + z) {l l' : List Int} (r : Rises d l) (r' : Rises d' l') : l = l' :=
  Rises.ext g g' r r' eL fun m _ _ => by rw [es, es]; omega
theorem place_moved {L k : Int} (hL : 1 ≤ L) (rows : List Trip) (p : Str) : placeOf L (rows.map (movedT L k)) p = moveD k (placeOf L rows p) := by
  have em : ∀ t : Trip, ((movedT L k t).leaves + (movedT L k t).takes) % L = ((t.leaves + t.takes) % L + k) % L := fun t => by
    show ((t.leaves + k) % L + t.takes) % L = _
    rw [Int.emod_add_emod, Int.emod_add_emod]
    congr 1
    omega
  unfold placeOf moveD
  simp only [List.filter_map, List.map_map]
  refine congr (congr (congr rfl ?_) ?_) ?_
  · exact List.map_congr_left fun t _ => rfl
  · exact List.map_congr_left fun t _ => em t
  · exact List.map_congr_left fun t _ => em t
theorem moved_bal {L k : Int} {rows : List Trip} (b : Balanced rows) : Balanced (rows.map (movedT L k)) := fun p => by
  rw [List.filter_map, List.filter_map, List.length_map, List.length_map]
  exact b p
theorem moved_rows {L : Int} (k : Int) {rows : List Trip} (g : RowsG L rows) : RowsG L (rows.map (movedT L k)) where
  L1 := g.L1
  L2 := g.L2
  few := by rw [List.length_map]; exact g.few
  lv := fun t ht => by
    obtain ⟨u, hu, rfl⟩ := List.mem_map.mp ht
    exact mod_in g.L1
  bal := moved_bal g.bal
theorem sum_zero {α : Type} : ∀ ps : List α, (ps.map fun _ => (0 : Int)).sum = 0
  | [] => rfl
  | p :: ps => by rw [List.map_cons, List.sum_cons, sum_zero ps]; rfl
/-- a sum over the places of the sums over the trips there -/
theorem sum_places (f : Trip → Int) (key : Trip → Str) : ∀ {ps : List Str}, ps.Nodup → ∀ rows : List Trip, (∀ t ∈ rows, key t ∈ ps) → (ps.map fun p => ((rows.filter fun t => decide (key t = p)).map f).sum).sum = (rows.map f).sum
  | ps, hn, [], _ => by
    show (ps.map fun _ => (0 : Int)).sum = 0
    exact sum_zero ps
  | ps, hn, t :: rows, h => by
    have ih := sum_places f key hn rows fun u hu => h u (List.mem_cons_of_mem _ hu)
    rw [List.map_cons, List.sum_cons, ← ih]
    have ht := h t List.mem_cons_self
    have e : ∀ p, (((t :: rows).filter fun t => decide (key t = p)).map f).sum = (if key t = p then f t else 0) + ((rows.filter fun t => decide (key t = p)).map f).sum := fun p => by
      rw [List.filter_cons]
      by_cases q : key t = p
      · rw [if_pos (by simpa using q), if_pos q, List.map_cons, List.sum_cons]
      · rw [if_neg (by simpa using q), if_neg q, Int.zero_add]
    rw [sum_ext fun p _ => e p, sum_plus]
    congr 1
    clear ih e h
    generalize key t = x at ht
    generalize f t = v
    induction ps with
    | nil => cases ht
    | cons p ps ih =>
      rw [List.map_cons, List.sum_cons]
      have h2 := List.nodup_cons.mp hn
      rcases List.mem_cons.mp ht with rfl | hm
      · rw [if_pos rfl]
        have z : (ps.map fun p => if x = p then v else 0).sum = 0 := by
          have e : (ps.map fun p => if x = p then v else 0) = ps.map fun _ => (0 : Int) := List.map_congr_left fun y hy => if_neg fun (e : x = y) => h2.1 (by rw [e]; exact hy)
          rw [e]
          exact sum_zero ps
        omega
      · rw [if_neg (fun (e : x = p) => h2.1 (by rw [← e]; exact hm)), ih h2.2 hm]
        omega
theorem sum_ends (f : Trip → Int) (p : Str) : ∀ rows : List Trip, ((rows.filter (isEnd p)).map f).sum + ((rows.filter (isComing p)).map f).sum = ((rows.filter fun t => decide (t.goal = p)).map f).sum
  | [] => rfl
  | t :: rows => by
    have ih := sum_ends f p rows
    rw [List.filter_cons, List.filter_cons, List.filter_cons]
    unfold isEnd isComing at ih ⊢
    by_cases q : t.goal = p
    · cases r : t.run
      · simp only [q, r]
        simp
        omega
      · simp only [q, r]
        simp
        omega
    · simp only [q]
      simp
      simpa using ih
theorem turns_place {L k : Int} (rows : List Trip) (p : Str) : turnsD k (placeOf L rows p) = ((rows.filter fun t => decide (t.start = p)).map fun t => (t.leaves + k) / L).sum - ((rows.filter fun t => decide (t.goal = p)).map fun t => ((t.leaves + t.takes) % L + k) / L).sum := by
  rw [← sum_ends]
  unfold turnsD turns placeOf
  simp only [List.map_map]
  show _ - _ - _ = _ - (_ + _)
  have e : ∀ a b c : Int, a - b - c = a - (b + c) := fun a b c => by omega
  rw [e]
  rfl
theorem under_moved {L k : Int} (hL : 1 ≤ L) {rows : List Trip} {ps : List Str} (h : PlacesOf rows ps) : (rows.map fun t => (t.leaves + t.takes) / L).sum = (rows.map fun t => ((movedT L k t).leaves + (movedT L k t).takes) / L).sum + (ps.map fun p => turnsD k (placeOf L rows p)).sum := by
  rw [sum_ext fun p _ => turns_place rows p, sum_minus, sum_places _ (·.start) h.1 rows (fun t ht => (h.2 _).mpr ⟨t, ht, .inl rfl⟩), sum_places _ (·.goal) h.1 rows (fun t ht => (h.2 _).mpr ⟨t, ht, .inr rfl⟩), ← sum_minus, ← sum_plus]
  refine sum_ext fun t _ => ?_
  show (t.leaves + t.takes) / L = ((t.leaves + k) % L + t.takes) / L + ((t.leaves + k) / L - ((t.leaves + t.takes) % L + k) / L)
  have e1 := Int.emod_add_mul_ediv (t.leaves + k) L
  have e2 := Int.emod_add_mul_ediv (t.leaves + t.takes) L
  have h1 : (t.leaves + k) % L + t.takes = (t.leaves + t.takes + k) + (-((t.leaves + k) / L)) * L := by rw [Int.neg_mul, Int.mul_comm _ L]; omega
  have h2 : (t.leaves + t.takes) % L + k = (t.leaves + t.takes + k) + (-((t.leaves + t.takes) / L)) * L := by rw [Int.neg_mul, Int.mul_comm _ L]; omega
  rw [h1, h2, Int.add_mul_ediv_right _ _ (by omega), Int.add_mul_ediv_right _ _ (by omega)]
  omega
end K6
set_option Elab.async false
set_option linter.all false
set_option maxRecDepth 100000
set_option maxHeartbeats 4000000
namespace K6
open PySem PySem.Spec PyProof.Rows L2
open He (ga ma)

theorem fnRG {K : PySem.W.Frag} {x qual : Str} {st : Stmt} {f : Addr} {P : Program} {w : World} {mg : Str → Option Value} {base : Heap} {N ps : List Str} {k : Nat} {sp : Sp} (h : ∃ fd, Fun K x qual st f fd) (S : FnScope N ps (defScope st))
    (hb : ∀ (kV doc pm : Value) (an : Option Addr) (cdv ct : Value) (us : List Value), us.length = ps.length → bindArgs (PySem.W.fnOf x qual (defArgs st) (defBody st) (defScope st) .none kV doc pm an cdv ct) ⟨us, []⟩ = pure (ps.zip us))
    (len : ∀ vs H Q E, sp vs H Q E → vs.length = ps.length)
    (hbody : ∀ (cdv : Value) (A : Around) (outer : List Env) (s : Shared) (H : Hp) (vs : List V) (Q : VK) (E : XK), A.guards = some [] → Room k (A.deeper (envOfC qual (defScope st) s.heap.objs.size f cdv)) → sp vs H Q E →
      ∃ t, PSs (cxOf CX0 P w K mg base N qual (defScope st) f cdv A outer s H E).nox (defBody st) t ∧ t { nx := fun _ H' => Q .non H', rt := Q } (start N vs) H) : FnRG P w K mg base CX0 (k + 1) f sp := by
  obtain ⟨fd, F⟩ := h
  refine fn_ofG (K6.Fun.funD F) S (F.binds hb) len fun cdv A outer s H vs Q E hg hr hsp => ?_
  obtain ⟨t, h1, h2⟩ := hbody cdv A outer s H vs Q E hg hr hsp
  exact ⟨t, PSs.nox h1, h2⟩

/-- what a table taken k times must be -/
structure ScaledOk (tab : Tab) (k : Int) : Prop where
  k1 : 1 ≤ k
  L5 : 5 ≤ tab.L
  s24 : tab.L ≤ 24
  kL : tab.L * k ≤ 1000000000000
  tr : ∀ t ∈ tab.rows, TripOk t ∧ t.takes * k ≤ 1000000000000 ∧ t.leaves < tab.L
  pre : TabPre (tab.L * k) (tab.rows.map (scaledT k))
  nd : tab.places.Nodup
  c : tab.places.length ≤ 8
  few : tab.rows.length ≤ 40
  nm : ∀ p ∈ tab.places, NameOk p
  po : ∀ p, PlaceOk (plOf tab p)
  gd : ∀ great, TabGot (tab.L * k) (tab.rows.map (scaledT k)) great → ScaledGd tab k great
theorem longest_bound {s : Stair} {M n v : Int} (o : StairOk s) (rz : ∀ z ∈ s.rises, 1 ≤ z ∧ z ≤ M) (hM : 0 ≤ M) (h0 : s.base ≤ n) (h1 : n ≤ s.base + 5) (h : longestOf s n = some v) : -1 ≤ v ∧ v ≤ M + s.length * 5 := by
  unfold longestOf at h
  by_cases q : s.step = 0
  · rw [if_pos q] at h; cases h
  · rw [if_neg q] at h
    obtain rfl := Option.some.inj h
    have hst := o.st
    have hp : 1 ≤ s.step := by omega
    have j0 := Int.ediv_nonneg (show 0 ≤ n - s.base by omega) (show 0 ≤ s.step by omega)
    have j1 : (n - s.base) / s.step ≤ 5 := Int.le_trans (Int.ediv_le_self _ (by omega)) (by omega)
    have l1 := o.l1
    have e0 := Int.mul_nonneg (show 0 ≤ s.length by omega) j0
    have e1 := Int.mul_le_mul_of_nonneg_left j1 (show 0 ≤ s.length by omega)
    have g : 0 ≤ s.rises.getD ((n - s.base) % s.step).toNat 0 ∧ s.rises.getD ((n - s.base) % s.step).toNat 0 ≤ M := by
      generalize ((n - s.base) % s.step).toNat = i
      rw [List.getD_eq_getElem?_getD]
      cases e : s.rises[i]? with
      | none => exact ⟨Int.le_refl _, hM⟩
      | some z =>
        have := rz z (List.mem_of_getElem? e)
        show 0 ≤ z ∧ z ≤ M
        omega
    omega
theorem fold_bound {B : Int} {f : Str → Option Int} : ∀ {ps : List Str} {i : Option Int}, (∀ p ∈ ps, ∀ v, f p = some v → -1 ≤ v ∧ v ≤ B) → (∀ v, i = some v → -1 ≤ v ∧ v ≤ B) → ∀ v, ps.foldl (fun a p => minOpt a (f p)) i = some v → -1 ≤ v ∧ v ≤ B
  | [], _, _, hi => hi
  | p :: ps, i, h, hi => by
    rw [List.foldl_cons]
    refine fold_bound (fun q hq => h q (List.mem_cons_of_mem _ hq)) fun v e => ?_
    have hp := h p List.mem_cons_self
    cases e1 : f p with
    | none => rw [e1] at e; exact hi v e
    | some w =>
      rw [e1] at e
      have hw := hp w e1
      cases i with
      | none => obtain rfl := Option.some.inj e; exact hw
      | some u =>
        have hu := hi u rfl
        obtain rfl := Option.some.inj (show some (if w < u then w else u) = some v from e)
        by_cases q : w < u
        · rw [if_pos q]; exact hw
        · rw [if_neg q]; exact hu
theorem late_bound {tab : Tab} {told sv : Str → Int} {B : Int} (h : ∀ p ∈ tab.places, 0 ≤ told p ∧ ∀ v, longestOf (stairC (plOf tab p)) (sv p) = some v → v ≤ B) (hB : -1 ≤ B) {v : Int} (e : lateOf tab told sv = some v) : -1 ≤ v ∧ v ≤ B := by
  unfold lateOf at e
  refine fold_bound (fun p hp w hw => ?_) (fun _ z => by cases z) v e
  unfold lateV at hw
  obtain ⟨h0, h1⟩ := h p hp
  cases q : longestOf (stairC (plOf tab p)) (sv p) with
  | none => rw [q] at hw; cases hw
  | some lg =>
    rw [q] at hw
    have := h1 lg q
    obtain rfl := Option.some.inj (show some (if told p ≤ lg then lg - told p else -1) = some w from hw)
    split <;> omega
theorem mergeK_new : ∀ {more kvs : List (Key × V)}, ((kvs ++ more).map (·.1)).Nodup → mergeK kvs more = kvs ++ more
  | [], kvs, _ => by unfold mergeK; simp
  | m :: more, kvs, h => by
    have hm : m.1 ∉ kvs.map (·.1) := fun z => by
      rw [List.map_append, List.map_cons] at h
      exact (List.nodup_append.mp h).2.2 _ z _ List.mem_cons_self rfl
    show mergeK (putK kvs m.1 m.2) more = _
    rw [putK_new hm, mergeK_new (by simpa using h)]
    simp
def mulZ (k : Int) (pz : List (Str × Int)) : List (Str × Int) := pz.map fun z => (z.1, k * z.2)
theorem pf_mul (k : Int) (pz : List (Str × Int)) (p : Str) : pfOf (mulZ k pz) p = k * pfOf pz p := by
  unfold pfOf mulZ
  induction pz with
  | nil => simp
  | cons z pz ih =>
    rw [List.map_cons, List.lookup_cons, List.lookup_cons]
    by_cases q : p = z.1
    · subst q; simp
    · rw [show (p == z.1) = false by simpa using q]; exact ih
theorem nodup_keys {pz : List (Str × Int)} (h : (pz.map (·.1)).Nodup) : ((tK (zsOf pz)).map (·.1)).Nodup := by
  unfold tK zsOf
  rw [List.map_map, List.map_map]
  have e : ((fun (z : Key × V) => z.1) ∘ fun (z : Str × V) => ((Sum.inr z.1 : Key), z.2)) ∘ (fun (z : Str × Int) => (z.1, V.int z.2)) = (fun (x : Str) => (Sum.inr x : Key)) ∘ fun (z : Str × Int) => z.1 := rfl
  show (pz.map (((fun (z : Key × V) => z.1) ∘ fun (z : Str × V) => ((Sum.inr z.1 : Key), z.2)) ∘ (fun (z : Str × Int) => (z.1, V.int z.2)))).Nodup
  rw [e, ← List.map_map]
  exact (List.pairwise_map.mpr (h.imp fun a => fun z => a (Sum.inr.inj z)))
def PairR (k : Int) (H : Hp) (z : Str × Int) (y : V) : Prop := ∃ q, y = .ref q ∧ H q = some (.tup [.str z.1, .int (k * z.2)])
theorem pair_dict {K : PySem.W.Frag} {H : Hp} {k : Int} {pz : List (Str × Int)} : ∀ {ys : List V}, Fa2 (PairR k H) pz ys → ∃ ps : List Addr, ys = ps.map V.ref ∧ Paired (fun p (kv : Key × V) => SqT K H p [kV kv.1, kv.2]) ps (tK (zsOf (mulZ k pz))) := by
  induction pz with
  | nil =>
    intro ys h
    cases ys with
    | nil => exact ⟨[], rfl, .nil⟩
    | cons y ys => exact h.elim
  | cons z pz ih =>
    intro ys h
    cases ys with
    | nil => exact h.elim
    | cons y ys =>
      obtain ⟨⟨q, e, hq⟩, h⟩ := h
      obtain ⟨ps, e2, hp⟩ := ih h
      subst e e2
      exact ⟨q :: ps, rfl, .cons (.inl (.inl hq)) hp⟩
abbrev rIsN0 : R2 := fun x y H Q => y = V.non ∧ Q (V.bl (decide (x = V.non))) H
abbrev rNotN0 : R2 := fun x y H Q => y = V.non ∧ Q (V.bl (!decide (x = V.non))) H
theorem far_test {σ : L2.St} {H : Hp} {ov : Option Int} {k : Int} {Q : Bool → Hp → Prop} (h3 : σ[3]? = some (some (V.int k))) (h14 : σ[14]? = some (some (optV ov))) (h15 : σ[15]? = some (some (optV (ov.map fun v => k * v)))) (hb : ∀ v, ov = some v → CMulW k v) (q : Q false H) :
    tOr (tTest (tOp rNe (tOp rIsN0 (tVar 15) (tC V.non)) (tOp rIsN0 (tVar 14) (tC V.non)))) (tAnd (tTest (tOp rNotN0 (tVar 14) (tC V.non))) (tTest (tOp rNe (tVar 15) (tOp (rI CMulW fun i j => V.int (i * j)) (tVar 3) (tVar 14))))) σ H Q := by
  cases ov with
  | none =>
    refine ⟨_, h15, rfl, _, h14, rfl, rfl, _, rfl, iteN (by simp [optV]) ?_⟩
    exact ⟨_, h14, rfl, _, rfl, iteN (by decide) q⟩
  | some v =>
    refine ⟨_, h15, rfl, _, h14, rfl, rfl, _, rfl, iteN (by simp [optV]) ?_⟩
    refine ⟨_, h14, rfl, _, rfl, iteP (by simp [optV]) ?_⟩
    refine ⟨_, h15, _, h3, _, h14, _, _, rfl, rfl, hb v rfl, rfl, _, rfl, ?_⟩
    have e : (!decide (optV (some v |>.map fun v => k * v) = V.int (k * v))) = false := by simp [optV]
    rw [e]
    exact q
def sp_scaled_right (K : PySem.W.Frag) : Sp := fun vs H Q _ => ∃ p pl x l B tab times, vs = [.ref p, pl, x, .int times] ∧ PenAt H p l B ∧ B + 100 < 2 ^ 20 ∧ TabAt K H tab x ∧ ScaledOk tab times ∧ ∀ H', SameX p H H' → PenAt H' p l (B + 24) → Q (.bl true) H'

abbrev N_law_scaled_right : List Str := ["_law_pen_here", "_law_plain_here", "_law_table_here", "_law_times", "_law_great", "_law_stocks", "_law_pauses", "_law_place", "_law_small", "_law_wide", "_law_due", "_law_rise", "_law_m", "_law_number", "_law_spot", "_law_far", "_law_late", "_law_later"]
theorem sc_law_scaled_right : FnScope N_law_scaled_right ["_law_pen_here", "_law_plain_here", "_law_table_here", "_law_times"] (defScope s_law_scaled_right) := ⟨rfl, rfl, rfl, by decide +kernel, rfl, by decide +kernel, by decide +kernel⟩
theorem ok_law_scaled_right {P : Program} {w : World} {K : PySem.W.Frag} {mg : Str → Option Value} {base : Heap} (T : Txt P K mg) : FnRG P w K mg base CX0 10 (ga K "_law_scaled_right") (sp_scaled_right K) := by
  have nd := sc_law_scaled_right.nd
  refine fnRG T.d_law_scaled_right sc_law_scaled_right (fun _ _ _ _ _ _ us hl => match us, hl with | [_, _, _, _], _ => rfl) (fun vs H Q E h => ?_) fun cdv A outer s H vs Q E hg hr h => ⟨_, (pss_cons (ps_asg (pe_tup (pa_cons (pe_methR (pv 2) T.cl_Table T.me_Table_scaled (ok_Table_scaled T) (hr.mono (by decide)) pass0 (pa_cons (pv 3) pa_nil)) (pa_cons pe_dnewK (pa_cons pe_dnewK pa_nil)))) (pg_tup rfl (pgs_cons (pg_name (i := 4) nd rfl (by first | exact Or.inl rfl | exact Or.inr rfl)) (pgs_cons (pg_name (i := 5) nd rfl (by first | exact Or.inl rfl | exact Or.inr rfl)) (pgs_cons (pg_name (i := 6) nd rfl (by first | exact Or.inl rfl | exact Or.inr rfl)) pgs_nil))))) (pss_cons (ps_for PassesOwn.never rfl (pi_tup (pe_fld (pv 2) rfl)) (pg_name (i := 7) nd rfl (by first | exact Or.inl rfl | exact Or.inr rfl)) (pss_cons (ps_par (i := 8) (j := 9) rfl nd rfl rfl (by decide) rfl rfl (pa_cons (pe_cal (ok_stair T) (hr.mono (by decide)) (kpOf T.d_stair) rfl T.g_stair pass0 (pa_cons (pv 2) (pa_cons (pv 7) pa_nil))) (pa_cons (pe_cal (ok_stair T) (hr.mono (by decide)) (kpOf T.d_stair) rfl T.g_stair pass0 (pa_cons (pv 4) (pa_cons (pv 7) pa_nil))) pa_nil)) rfl) (pss_cons (ps_set (i := 10) nd rfl (by first | exact Or.inl rfl | exact Or.inr rfl) (pe_callTy call_tuple_of rfl T.f_tuple bt_tuple (pa_cons (pe_lc (own := [("_law_rise", 11)]) (g := gName 11) (tt := tYes) (te := (tOp _ (tOp _ (tVar 3) (tOp _ (tVar 11) (tC _))) (tC _))) rfl nd (pi_tup (pe_fld (pv 8) rfl)) (blkOk_by (N := N_law_scaled_right) (sc := defScope s_law_scaled_right) (by decide +kernel)) (fun _ _ _ _ _ => pg_name (i := 11) nd rfl (by first | exact Or.inl rfl | exact Or.inr rfl)) (fun _ _ _ _ _ => pts_nil) (fun _ _ _ _ _ => (pe_op op_add (pe_op op_mulW (pv 3) (pe_op op_sub (pv 11) pe_int)) pe_int))) pa_nil))) (pss_cons (ps_if (pt_cmpR op_ne (pe_callB (cr_repS hr (show (A.deeper _).guards = some [] from hg)) rfl T.f_repr bt_repr (pa_cons (pe_lst (pa_cons (pe_fld (pv 9) rfl) (pa_cons (pe_fld (pv 9) rfl) (pa_cons (pe_fld (pv 9) rfl) (pa_cons (pe_fld (pv 9) rfl) pa_nil))))) pa_nil)) (pe_callB (cr_repS hr (show (A.deeper _).guards = some [] from hg)) rfl T.f_repr bt_repr (pa_cons (pe_lst (pa_cons (pe_op op_mulW (pe_fld (pv 8) rfl) (pv 3)) (pa_cons (pe_fld (pv 8) rfl) (pa_cons (pv 10) (pa_cons (pe_fld (pv 8) rfl) pa_nil))))) pa_nil)) (nomark _)) (pss_one (ps_ret pe_bl)) pss_nil) (pss_cons (ps_set (i := 12) nd rfl (by first | exact Or.inl rfl | exact Or.inr rfl) (pe_cal (ok_law_draw T) (hr.mono (by decide)) (kpOf T.d_law_draw) rfl T.g_law_draw pass0 (pa_cons (pv 0) (pa_cons (pe_op op_mulW pe_int (pe_fld (pv 8) rfl)) pa_nil)))) (pss_cons (ps_if (PW.pt (pw_or (pt_cmpR op_ne (StX.pe_callO (pv 9) ⟨T.fi_Stair_call, T.if_Stair_call, T.fn_Stair_call⟩ (ok_Stair_call T) (hr.mono (by decide)) pass0 (pa_cons (pe_op op_mulW (pv 3) (pv 12)) pa_nil)) (StX.pe_callO (pv 8) ⟨T.fi_Stair_call, T.if_Stair_call, T.fn_Stair_call⟩ (ok_Stair_call T) (hr.mono (by decide)) pass0 (pa_cons (pv 12) pa_nil)) (nomark _)) (pw_or1 (pt_cmpR op_ne (StX.pe_callO (pv 9) ⟨T.fi_Stair_call, T.if_Stair_call, T.fn_Stair_call⟩ (ok_Stair_call T) (hr.mono (by decide)) pass0 (pa_cons (pe_op op_add (pe_op op_mulW (pv 3) (pv 12)) pe_int) pa_nil)) (StX.pe_callO (pv 8) ⟨T.fi_Stair_call, T.if_Stair_call, T.fn_Stair_call⟩ (ok_Stair_call T) (hr.mono (by decide)) pass0 (pa_cons (pe_op op_add (pv 12) pe_int) pa_nil)) (nomark _))))) (pss_one (ps_ret pe_bl)) pss_nil) (pss_cons (ps_set (i := 13) nd rfl (by first | exact Or.inl rfl | exact Or.inr rfl) (pe_op op_add (pe_fld (pv 8) rfl) (pe_cal (ok_law_draw T) (hr.mono (by decide)) (kpOf T.d_law_draw) rfl T.g_law_draw pass0 (pa_cons (pv 0) (pa_cons pe_int pa_nil))))) (pss_cons (ps_par (i := 14) (j := 15) rfl nd rfl rfl (by decide) rfl rfl (pa_cons (pe_methR (pv 8) T.cl_Stair T.me_Stair_longest_pause (ok_Stair_longest_pause T) (hr.mono (by decide)) pass0 (pa_cons (pv 13) pa_nil)) (pa_cons (pe_methR (pv 9) T.cl_Stair T.me_Stair_longest_pause (ok_Stair_longest_pause T) (hr.mono (by decide)) pass0 (pa_cons (pv 13) pa_nil)) pa_nil)) rfl) (pss_cons (ps_if (PW.pt (pw_or (pt_cmpR op_ne (pe_cmpR op_isN (pv 15) pe_non (nomark _)) (pe_cmpR op_isN (pv 14) pe_non (nomark _)) (nomark _)) (pw_or1 (PW.pt (pw_and (pt_cmpR op_notN (pv 14) pe_non (nomark _)) (pw_and1 (pt_cmpR op_ne (pv 15) (pe_op op_mulW (pv 3) (pv 14)) (nomark _)))))))) (pss_one (ps_ret pe_bl)) pss_nil) (pss_one (ps_asg (pe_tup (pa_cons (pv 13) (pa_cons (pe_cal (ok_law_draw T) (hr.mono (by decide)) (kpOf T.d_law_draw) rfl T.g_law_draw pass0 (pa_cons (pv 0) (pa_cons pe_int pa_nil))) pa_nil))) (pg_tup rfl (pgs_cons (pg_sub (pv 5) (pv 7) (set_dict (hu_of hr))) (pgs_cons (pg_sub (pv 6) (pv 7) (set_dict (hu_of hr))) pgs_nil)))))))))))))) (pss_cons (ps_set (i := 16) nd rfl (by first | exact Or.inl rfl | exact Or.inr rfl) (pe_cal (ok_lateness T) (hr.mono (by decide)) (kpOf T.d_lateness) rfl T.g_lateness pass0 (pa_cons (pv 2) (pa_cons (pe_sta (pe_glob (v := .ref (ga K "Pauses")) rfl T.g_Pauses rfl) T.sta_Pauses_of (ok_Pauses_of T) (hr.mono (by decide)) pass0 (pa_cons (pv 6) pa_nil)) (pa_cons (pv 5) pa_nil))))) (pss_cons (ps_set (i := 6) nd rfl (by first | exact Or.inl rfl | exact Or.inr rfl) (pe_callTy (call_dictP rfl) rfl T.f_dict bt_dict (pa_cons (pe_lock (pe_lc (own := [("_law_place", 7)]) (g := gName 7) (tt := tYes) (te := (tTup (tCons (tVar 7) (tCons (tOp _ (tVar 3) (tDGet (tVar 6) (tVar 7))) tNil)))) rfl nd (pi_keys (pv 6)) (blkOk_by (N := N_law_scaled_right) (sc := defScope s_law_scaled_right) (by decide +kernel)) (fun _ _ _ _ _ => pg_name (i := 7) nd rfl (by first | exact Or.inl rfl | exact Or.inr rfl)) (fun _ _ _ _ _ => pts_nil) (fun _ _ _ _ _ => (pe_tup (pa_cons (pv 7) (pa_cons (pe_op op_mulW (pv 3) (pe_dget (hu_of hr) (pv 6) (pv 7) (fun _ _ => rfl))) pa_nil)))))) pa_nil))) (pss_cons (ps_set (i := 17) nd rfl (by first | exact Or.inl rfl | exact Or.inr rfl) (pe_cal (ok_lateness T) (hr.mono (by decide)) (kpOf T.d_lateness) rfl T.g_lateness pass0 (pa_cons (pv 4) (pa_cons (pe_sta (pe_glob (v := .ref (ga K "Pauses")) rfl T.g_Pauses rfl) T.sta_Pauses_of (ok_Pauses_of T) (hr.mono (by decide)) pass0 (pa_cons (pv 6) pa_nil)) (pa_cons (pv 5) pa_nil))))) (pss_one (ps_ret (pe_cmpR op_eq (pv 17) (pe_ifExp (PW.pt (pw_or (pt_cmpR op_isN (pv 16) pe_non (nomark _)) (pw_or1 (pt_cmpR op_lt (pv 16) pe_int (nomark _))))) (pv 16) (pe_op op_mulW (pv 3) (pv 16))) (nomark _))))))))), ?_⟩
  · obtain ⟨_, _, _, _, _, _, _, rfl, _⟩ := h; rfl
  · obtain ⟨p, pl, x, l, B, tab, k, rfl, hpen, hB, hx, ok, hq⟩ := h
    obtain ⟨a, dx, dd, n, pp, r, ras, rfl, ha, hd, hn, hp, hr2, hf⟩ := id hx
    have k1 := ok.k1
    have L5 := ok.L5
    refine ⟨_, rfl, a, dx, _, rfl, ha, rfl, _, rfl, _, tab, k, rfl, hx, ok.k1, (by omega), ok.kL, ok.tr, ok.pre, fun H1 great y s1 ht hg => ?_⟩
    have gd := ok.gd great hg
    have kb : k ≤ 1000000000000 := by
      have h1 := ok.kL
      have h2 := Int.mul_le_mul_of_nonneg_right (show 1 ≤ tab.L by omega) (show 0 ≤ k from by have := ok.k1; omega)
      omega
    have k64 : k.natAbs < 2 ^ 64 := by
      have := ok.k1
      have : (2 : Nat) ^ 64 = 18446744073709551616 := by decide
      omega
    refine fun d1 hd1 d2 hd2 => ⟨(by show 3 ≤ sizeLine; decide), fun tp htp => ?_⟩
    refine ⟨tp, _, rfl, .inl (.inl upd_same), rfl, _, _, rfl, _, _, rfl, _, _, rfl, rfl, ?_⟩
    have q1 := same_upd (o := .dK ([] : List (Key × V))) hd1
    have q2 := same_upd (o := .dK ([] : List (Key × V))) hd2
    have q3 := same_upd (o := .tup [y, .ref d1, .ref d2]) htp
    have s2 : Same H1 _ := Same.trans q1 (Same.trans q2 q3)
    have hd1' := Same.trans q2 q3 _ _ (upd_same (a := d1) (o := .dK []))
    have hd2' := q3 _ _ (upd_same (a := d2) (o := .dK []))
    have n12 : d2 ≠ d1 := ne_fs (H := upd H1 d1 (.dK [])) upd_same hd2
    have hp0 := Same.trans s1 s2 _ _ hp
    have pen1 := hpen.s s1
    have nd1 := penAt_ne pen1 hd1
    have nd2 := penAt_ne (pen1.s q1) hd2
    refine ⟨_, rfl, _, _, _, _, _, rfl, Same.trans s1 s2 _ _ ha, T.cl_Table, T.na_Table_places, rfl, pp, rfl, ⟨_, .inl (.inl hp0)⟩, for_tup (K := K) (fun i σ H' => SameX p H1 H' ∧ PenAt H' p l (B + 3 * i) ∧ (∃ sz pz : List (Str × Int), H' d1 = some (.dK (tK (zsOf sz))) ∧ H' d2 = some (.dK (tK (zsOf pz))) ∧ sz.map (·.1) = tab.places.take i ∧ pz.map (·.1) = tab.places.take i ∧ (∀ z ∈ sz, ∀ s, StairOf (plOf tab z.1) s → s.base ≤ z.2 ∧ z.2 ≤ s.base + 5) ∧ (∀ z ∈ pz, 0 ≤ z.2 ∧ z.2 ≤ 3)) ∧ ∃ u7 u8 u9 u10 u12 u13 u14 u15, σ = [some (.ref p), some pl, some (.ref a), some (.int k), some y, some (.ref d1), some (.ref d2), u7, u8, u9, u10, none, u12, u13, u14, u15, none, none]) ⟨sameX_of s2, (pen1.s s2).mono (by omega), ⟨[], [], hd1', hd2', rfl, rfl, fun _ h => (by cases h), fun _ h => (by cases h)⟩, none, none, none, none, none, none, none, none, rfl⟩ (fun i σ H' _ h => .inl (.inl (h.1 _ _ ?_ (s1 _ _ hp)))) (fun i v σ H3 hv hpv => ?_) fun σ H3 hpv => ?_⟩
    · intro e
      obtain ⟨_, _, _, e2, _⟩ := hpen
      rw [e, e2] at hp
      cases hp
    · obtain ⟨sx3, pen3, ⟨sz, pz, hz1, hz2, m1, m2, b1, b2⟩, u7, u8, u9, u10, u12, u13, u14, u15, rfl⟩ := hpv
      have hi : i < tab.places.length := by
        have := (List.getElem?_eq_some_iff.mp hv).1
        rw [List.length_map] at this
        exact this
      obtain ⟨q, hqi, rfl⟩ : ∃ q, tab.places[i]? = some q ∧ v = .str q := by
        rw [List.getElem?_map] at hv
        obtain ⟨q, h1, h2⟩ := Option.map_eq_some_iff.mp hv
        exact ⟨q, h1, h2.symm⟩
      have hqm : q ∈ tab.places := List.mem_of_getElem? hqi
      have si3 : SameI H1 H3 := pen1.sx sx3
      have hx3 : TabAt K H3 tab (.ref a) := (hx.si (SameI.of s1)).si si3
      have ht3 : TabAt K H3 great y := ht.si si3
      refine ⟨_, rfl, _, rfl, _, tab, q, rfl, hx3, hqm, ok.few, ok.po q, fun H4 s z1 s4 hs ho => ⟨_, rfl, _, rfl, _, great, q, rfl, ht3.si (SameI.of s4), gd.pm.mem_iff.mpr hqm, gd.few, gd.po q, fun H5 t z2 s5 ht2 ho2 => ⟨_, _, rfl, ?_⟩⟩⟩
      have hs5 := hs.si (SameI.of s5)
      obtain ⟨a1, dx1, r1, rfl, h1, hr1⟩ := id hs5
      obtain ⟨a2, dx2, r2, rfl, h2, hr2'⟩ := id ht2
      obtain ⟨ok1, bb0, bb1, rz⟩ := gd.ok q s ho
      have ok2 := gd.ok2 q t ho2
      obtain ⟨el, eb, er, es⟩ := gd.st q s t ho ho2
      have call2 := gd.call q s t ho ho2
      have lng := gd.lng q s t ho ho2
      have s24 := ok.s24
      refine ⟨_, rfl, _, _, _, _, _, rfl, h1, T.cl_Stair, T.na_Stair_rises, rfl, r1, rfl, ⟨_, .inl (.inl hr1)⟩, fun D hD => lcF walk_tup s.rises (by rw [List.length_map]) 11 (fun z x => x = .int z) (fun i H0 x H' z hz _ yy => yAt fa2_map i H0 x H' z hz yy) hD (fun H' s => .inl (.inl (s _ _ hr1))) (fun z => some (.int (k * (z - 1) + 1))) (by have := ok1.n; rw [sizeLine_eq]; omega) (fun z x H6 Kt Kf hz hx6 s6 k1 k2 => ?_) (fun _ => rfl) fun H6 s6 hD6 => ?_⟩
      · subst hx6
        obtain ⟨z1, z2⟩ := rz z hz
        refine tYes_k (iteT ⟨_, rfl, _, rfl, _, _, rfl, rfl, _, _, rfl, rfl, wide_mul (b := 64) k64 (by omega) (by decide) (by decide) (by decide), _, _, rfl, rfl, k1 _ _ (Same.refl _) rfl⟩)
      · rw [filterMap_some] at hD6
        have c1 := gd.ok q s ho
        have kz : ∀ z, 1 ≤ z → z ≤ tab.L → 0 ≤ k * (z - 1) ∧ k * (z - 1) + 1 ≤ 1000000000000 := fun z z1 z2 => by
          have e1 := Int.mul_nonneg (show 0 ≤ k by omega) (show 0 ≤ z - 1 by omega)
          have e2 := Int.mul_le_mul_of_nonneg_left z2 (show 0 ≤ k by omega)
          have e3 := ok.kL
          rw [Int.mul_comm tab.L k] at e3
          rw [Int.mul_sub] at e1 ⊢
          omega
        refine ⟨D, _, rfl, .inl ⟨.inl (.inl hD6), fun pd hpd => ?_⟩⟩
        have s7 : Same H5 (upd H6 pd (.tup (s.rises.map fun z => V.int (k * (z - 1) + 1)))) := same_up s6 hpd
        have hpd7 : upd H6 pd (.tup (s.rises.map fun z => V.int (k * (z - 1) + 1))) pd = some (.tup (s.rises.map fun z => V.int (k * (z - 1) + 1))) := upd_same
        generalize upd H6 pd (.tup (s.rises.map fun z => V.int (k * (z - 1) + 1))) = H7 at s7 hpd7 ⊢
        have h17 := s7 _ _ h1
        have h27 := s7 _ _ h2
        have hr17 := s7 _ _ hr1
        have hr27 := s7 _ _ hr2'
        have tl := ok2.l2
        have sl := ok1.l2
        have sl1 := ok1.l1
        have sn := ok1.n
        have sst := ok1.st
        have tn := ok2.n
        have tst := ok2.st
        have bi : (2 : Nat) ^ 64 = 18446744073709551616 := by decide
        have sm : ∀ z : Int, -1000000000000 ≤ z → z ≤ 1000000000000 → SmI z := fun z z1 z2 => by unfold SmI; omega
        have tz : ∀ z ∈ t.rises, SmI z := fun z hz => by
          rw [er] at hz
          obtain ⟨u, hu, rfl⟩ := List.mem_map.mp hz
          obtain ⟨u0, u1⟩ := rz u hu
          obtain ⟨u2, u3⟩ := kz u u0 u1
          exact sm _ (by omega) u3
        have req : repOf t.length t.base t.rises t.step = repOf (s.length * k) s.base (s.rises.map fun z => k * (z - 1) + 1) s.step := by rw [el, eb, er, es]
        have tl1 := ok2.l1
        refine ⟨_, rfl, _, _, _, _, _, rfl, h27, T.cl_Stair, T.na_Stair_length, rfl, _, rfl, _, _, _, _, _, rfl, h27, T.cl_Stair, T.na_Stair_base, rfl, _, rfl, _, _, _, _, _, rfl, h27, T.cl_Stair, T.na_Stair_rises, rfl, _, rfl, _, _, _, _, _, rfl, h27, T.cl_Stair, T.na_Stair_step, rfl, (by show 4 ≤ sizeLine; decide), fun l1 hl1 => ?_⟩
        refine ⟨l1, r2, t.length, t.base, t.step, t.rises, rfl, .inl (.inl upd_same), .inl (.inl ((same_upd hl1) _ _ hr27)), sm _ (by omega) tl, sm _ (by omega) (by omega), sm _ (by omega) (by omega), tz, by omega, ?_⟩
        have s8 : Same H7 (upd H7 l1 (.lst [.int t.length, .int t.base, .ref r2, .int t.step])) := same_upd hl1
        generalize upd H7 l1 (.lst [.int t.length, .int t.base, .ref r2, .int t.step]) = H8 at s8 ⊢
        have h18 := s8 _ _ h17
        refine ⟨_, rfl, _, _, _, _, _, rfl, h18, T.cl_Stair, T.na_Stair_length, rfl, _, rfl, _, _, rfl, rfl, wide_mul (a := 64) (b := 64) (by omega) k64 (by decide) (by decide) (by decide), _, rfl, _, _, _, _, _, rfl, h18, T.cl_Stair, T.na_Stair_base, rfl, _, rfl, _, rfl, _, _, _, _, _, rfl, h18, T.cl_Stair, T.na_Stair_step, rfl, (by show 4 ≤ sizeLine; decide), fun l2 hl2 => ?_⟩
        refine ⟨l2, pd, s.length * k, s.base, s.step, s.rises.map fun z => k * (z - 1) + 1, rfl, .inl (.inl upd_same), .inl (.inl (((same_upd hl2) _ _ (s8 _ _ hpd7)).trans (by rw [List.map_map]; rfl))), sm _ (by omega) (by omega), sm _ (by omega) (by omega), sm _ (by omega) (by omega), by rw [← er]; exact tz, by rw [List.length_map]; omega, rfl, _, rfl, ?_⟩
        refine iteN (by rw [req]; simp) ?_
        have s9 : Same H5 (upd H8 l2 (.lst [.int (s.length * k), .int s.base, .ref pd, .int s.step])) := same_up (Same.trans s7 s8) hl2
        generalize upd H8 l2 (.lst [.int (s.length * k), .int s.base, .ref pd, .int s.step]) = H9 at s9 ⊢
        have pen9 : PenAt H9 p l (B + 3 * i) := pen3.s (Same.trans s4 (Same.trans s5 s9))
        have i8 : i < 8 := by have := ok.c; omega
        have h19 := s9 _ _ h1
        have sL : s.length = tab.L := ho.l
        refine ⟨_, rfl, _, rfl, _, _, _, _, _, rfl, h19, T.cl_Stair, T.na_Stair_length, rfl, _, _, rfl, rfl, wide_mul (a := 64) (b := 64) (by decide) (by omega) (by decide) (by decide) (by decide), p, _, l, B + 3 * i, rfl, pen9, by omega, by omega, by omega, fun H10 m sx10 pen10 m0 mlt => ?_⟩
        have si10 := pen9.sx sx10
        have hs10 := (hs5.si (SameI.of s9)).si si10
        have ht10 := (ht2.si (SameI.of s9)).si si10
        have h110 := si10 _ _ h19 (fun _ z => nomatch z)
        have h210 := si10 _ _ (s9 _ _ h2) (fun _ z => nomatch z)
        have km0 : 0 ≤ k * m := Int.mul_nonneg (by omega) m0
        have b63 : (2 : Int) ^ 63 = 9223372036854775808 := by decide
        have km1 : k * m ≤ 3000000000000 := by
          have e1 := Int.mul_le_mul_of_nonneg_left (show m ≤ 3 * tab.L by omega) (show 0 ≤ k by omega)
          have e2 : k * (3 * tab.L) = 3 * (tab.L * k) := by rw [Int.mul_left_comm, Int.mul_comm k tab.L]
          have := ok.kL
          omega
        obtain ⟨cc1, cc2⟩ := call2 m m0
        refine ⟨_, rfl, a2, rfl, _, rfl, _, rfl, _, _, rfl, rfl, wide_mul (a := 64) (b := 64) k64 (by omega) (by decide) (by decide) (by decide), .inr ⟨_, _, h210⟩, .ref a2, t, k * m, rfl, ht10, ok2, km0, by omega, fun H11 s11 => ?_⟩
        refine ⟨_, rfl, a1, rfl, _, rfl, .inr ⟨_, _, s11 _ _ h110⟩, .ref a1, s, m, rfl, hs10.si (SameI.of s11), ok1, m0, by omega, fun H12 s12 => ⟨rfl, _, rfl, ?_⟩⟩
        refine iteN (by rw [cc1]; simp) ?_
        have s1012 := Same.trans s11 s12
        refine ⟨_, rfl, a2, rfl, _, rfl, _, rfl, _, _, rfl, rfl, wide_mul (a := 64) (b := 64) k64 (by omega) (by decide) (by decide) (by decide), _, _, rfl, rfl, .inr ⟨_, _, s1012 _ _ h210⟩, .ref a2, t, k * m + 1, rfl, ht10.si (SameI.of s1012), ok2, by omega, by omega, fun H13 s13 => ?_⟩
        have s1013 := Same.trans s1012 s13
        refine ⟨_, rfl, a1, rfl, _, rfl, _, _, rfl, rfl, .inr ⟨_, _, s1013 _ _ h110⟩, .ref a1, s, m + 1, rfl, hs10.si (SameI.of s1013), ok1, by omega, by omega, fun H14 s14 => ⟨rfl, _, rfl, ?_⟩⟩
        refine iteN (by rw [cc2]; simp) ?_
        have s1014 := Same.trans s1013 s14
        refine ⟨_, rfl, _, _, _, _, _, rfl, s1014 _ _ h110, T.cl_Stair, T.na_Stair_base, rfl, _, rfl, p, _, l, B + 3 * i + 1, rfl, pen10.s s1014, by omega, by omega, by omega, fun H15 r sx15 pen15 r0 r1 => ⟨_, _, rfl, rfl, ?_⟩⟩
        have si15 := (pen10.s s1014).sx sx15
        have hs15 := (hs10.si (SameI.of s1014)).si si15
        have ht15 := (ht10.si (SameI.of s1014)).si si15
        have h115 := si15 _ _ (s1014 _ _ h110) (fun _ z => nomatch z)
        have h215 := si15 _ _ (s1014 _ _ h210) (fun _ z => nomatch z)
        refine ⟨_, rfl, a1, _, _, rfl, h115, rfl, _, rfl, .ref a1, s, s.base + r, rfl, hs15, ok1, by omega, by omega, _, rfl, a2, _, _, rfl, h215, rfl, _, rfl, .ref a2, t, s.base + r, rfl, ht15, ok2, by omega, by omega, ⟨_, _, rfl, ?_⟩⟩
        rw [lng (s.base + r) (by omega)]
        have lb := fun v => longest_bound (v := v) ok1 rz (by omega) (show s.base ≤ s.base + r by omega) (by omega)
        refine far_test rfl rfl rfl (fun v hv => ?_) (iteF ?_)
        · obtain ⟨v0, v1⟩ := lb v hv
          exact wide_mul (a := 64) (b := 64) k64 (by omega) (by decide) (by decide) (by decide)
        refine ⟨_, rfl, _, rfl, p, _, l, B + 3 * i + 2, rfl, pen15, by omega, by omega, by omega, fun H17 w sx17 pen17 w0 w1 => ⟨by show 2 ≤ sizeLine; decide, fun pt hpt => ?_⟩⟩
        have si17 := pen15.sx sx17
        have sxA : SameX p H1 H17 := sameX_trans sx3 (sameX_trans (sameX_of (Same.trans s4 (Same.trans s5 s9))) (sameX_trans sx10 (sameX_trans (sameX_of s1014) (sameX_trans sx15 sx17))))
        have siA : SameI H3 H17 := (SameI.of (Same.trans s4 (Same.trans s5 s9))).trans (si10.trans ((SameI.of s1014).trans (si15.trans si17)))
        have z1' := siA _ _ hz1 (fun _ z => nomatch z)
        have z2' := siA _ _ hz2 (fun _ z => nomatch z)
        have npt := penAt_ne pen17 hpt
        have fpt : H1 pt = none := SameX.free sxA npt.1 hpt
        have fd2 : H1 d2 = none := by rw [upd_ne n12] at hd2; exact hd2
        have np1 : d1 ≠ pt := ne_fs z1' hpt |>.symm
        have np2 : d2 ≠ pt := ne_fs z2' hpt |>.symm
        have hqn : q ∉ tab.places.take i := by
          have hnd := ok.nd
          intro hin
          obtain ⟨j, hj, e⟩ := List.mem_iff_getElem.mp hin
          rw [List.length_take] at hj
          rw [List.getElem_take] at e
          have e2 := (List.getElem?_eq_some_iff.mp hqi).2
          have := (List.getElem_inj hnd).mp (e.trans e2.symm)
          omega
        have hz1k : (Sum.inr q : Key) ∉ (tK (zsOf sz)).map (·.1) := fun hin => hqn (by
          rw [← m1]
          obtain ⟨u, hu, e⟩ := List.mem_map.mp hin
          unfold tK zsOf at hu
          rw [List.map_map] at hu
          obtain ⟨v, hv, rfl⟩ := List.mem_map.mp hu
          exact List.mem_map.mpr ⟨v, hv, Sum.inr.inj e⟩)
        have hz2k : (Sum.inr q : Key) ∉ (tK (zsOf pz)).map (·.1) := fun hin => hqn (by
          rw [← m2]
          obtain ⟨u, hu, e⟩ := List.mem_map.mp hin
          unfold tK zsOf at hu
          rw [List.map_map] at hu
          obtain ⟨v, hv, rfl⟩ := List.mem_map.mp hu
          exact List.mem_map.mpr ⟨v, hv, Sum.inr.inj e⟩)
        have ln1 : (tK (zsOf sz)).length ≤ 8 := by
          have e := congrArg List.length m1
          rw [List.length_map, List.length_take] at e
          unfold tK zsOf
          rw [List.length_map, List.length_map]
          omega
        have ln2 : (tK (zsOf pz)).length ≤ 8 := by
          have e := congrArg List.length m2
          rw [List.length_map, List.length_take] at e
          unfold tK zsOf
          rw [List.length_map, List.length_map]
          omega
        refine ⟨pt, _, rfl, .inl (.inl upd_same), rfl, _, _, rfl, _, rfl, _, rfl, d1, _, rfl, DPut.k (k := .inr q) ((upd_ne np1).trans z1') (by rw [sizeLine_eq]; omega), _, _, rfl, _, rfl, _, rfl, d2, _, rfl, DPut.k (k := .inr q) ((upd_ne n12).trans ((upd_ne np2).trans z2')) (by rw [sizeLine_eq]; omega), rfl, ?_⟩
        rw [putK_new hz1k, putK_new hz2k]
        have tkq : tab.places.take (i + 1) = tab.places.take i ++ [q] := by rw [List.take_add_one, hqi]; rfl
        have zap : ∀ (zz : List (Str × Int)) (v : Int), tK (zsOf zz) ++ [((Sum.inr q : Key), V.int v)] = tK (zsOf (zz ++ [(q, v)])) := fun zz v => by
          unfold tK zsOf
          rw [List.map_append, List.map_append]
          rfl
        rw [zap, zap]
        refine ⟨SameX.put (SameX.put (SameX.put sxA fpt) hd1) fd2, ?_, ⟨sz ++ [(q, s.base + r)], pz ++ [(q, w)], (upd_ne n12.symm).trans upd_same, upd_same, by rw [List.map_append, m1, tkq]; rfl, by rw [List.map_append, m2, tkq]; rfl, fun z hz s' hs' => ?_, fun z hz => ?_⟩, _, _, _, _, _, _, _, _, rfl⟩
        · exact (penAt_upd (penAt_upd (penAt_upd pen17 npt.1 npt.2) nd1.1 nd1.2) nd2.1 nd2.2).mono (by omega)
        · rcases List.mem_append.mp hz with h | h
          · exact b1 z h s' hs'
          · rw [List.mem_singleton] at h
            subst h
            rw [stairOf_unique hs' ho]
            show s.base ≤ s.base + r ∧ s.base + r ≤ s.base + 5
            omega
        · rcases List.mem_append.mp hz with h | h
          · exact b2 z h
          · rw [List.mem_singleton] at h
            subst h
            show 0 ≤ w ∧ w ≤ 3
            omega
    · obtain ⟨sx3, pen3, ⟨sz, pz, hz1, hz2, m1, m2, b1, b2⟩, u7, u8, u9, u10, u12, u13, u14, u15, rfl⟩ := hpv
      rw [List.length_map, List.take_length] at m1 m2
      have len8 := ok.c
      have si3 : SameI H1 H3 := pen1.sx sx3
      have hx3 : TabAt K H3 tab (.ref a) := (hx.si (SameI.of s1)).si si3
      have ht3 : TabAt K H3 great y := ht.si si3
      have pk : ∀ j : Int, 1 ≤ j → j * 5 ≤ 1000000000000 → PzOk (mulZ j pz) := fun j j0 j1 => by
        have e : (mulZ j pz).map (·.1) = tab.places := by
          unfold mulZ
          rw [List.map_map, ← m2]
          rfl
        refine ⟨by rw [e]; exact ok.nd, fun z hz => ?_, fun z hz => ?_, ?_⟩
        · exact ok.nm _ (by rw [← e]; exact List.mem_map.mpr ⟨z, hz, rfl⟩)
        · obtain ⟨u, hu, rfl⟩ := List.mem_map.mp hz
          obtain ⟨u0, u1⟩ := b2 u hu
          have e1 := Int.mul_nonneg (show 0 ≤ j by omega) u0
          have e2 := Int.mul_le_mul_of_nonneg_left u1 (show 0 ≤ j by omega)
          show 0 ≤ j * u.2 ∧ j * u.2 ≤ _
          omega
        · have := congrArg List.length e
          rw [List.length_map] at this
          omega
      have m1z : mulZ 1 pz = pz := by unfold mulZ; simp
      have k5 : k * 5 ≤ 1000000000000 := by
        have h1 := ok.kL
        have h2 := Int.mul_le_mul_of_nonneg_left L5 (show 0 ≤ k by omega)
        rw [Int.mul_comm tab.L k] at h1
        omega
      have pk1 : PzOk pz := by have := pk 1 (by decide) (by decide); rw [m1z] at this; exact this
      have szb : ∀ p ∈ tab.places, ∀ s, StairOf (plOf tab p) s → s.base ≤ pfOf sz p ∧ pfOf sz p ≤ s.base + 5 := fun p hp s hs => by
        obtain ⟨v, hv, hin⟩ := lookup_mem (pz := sz) (n := p) (by rw [m1]; exact hp)
        have := b1 _ hin s hs
        unfold pfOf
        rw [hv]
        exact this
      have szn : ∀ z ∈ sz, 0 ≤ z.2 ∧ z.2 ≤ 1000000000000 := fun z hz => by
        have hs := stairC_spec (plOf tab z.1)
        have h1 := b1 z hz _ hs
        have h2 := gd.ok z.1 _ hs
        omega
      have lk : LateOk tab (pfOf pz) sz := ⟨by rw [m1]; exact ok.nd, ok.nd, ok.c, fun p => by rw [m1], szn, ok.few, ok.po, ok.nm, fun p hp s hs => by
        have h1 := szb p hp s hs
        have h2 := gd.ok p s hs
        exact ⟨h2.1, h1.1, by omega⟩⟩
      have gl : LateOk great (pfOf (mulZ k pz)) sz := ⟨by rw [m1]; exact ok.nd, gd.pm.nodup_iff.mpr ok.nd, by rw [gd.pm.length_eq]; exact ok.c, fun p => by rw [m1]; exact gd.pm.mem_iff.symm, szn, gd.few, gd.po, fun p hp => ok.nm p (gd.pm.mem_iff.mp hp), fun p hp t ht => by
        have hs := stairC_spec (plOf tab p)
        have h1 := szb p (gd.pm.mem_iff.mp hp) _ hs
        have h2 := gd.ok p _ hs
        have h3 := gd.st p _ t hs ht
        exact ⟨gd.ok2 p t ht, by omega, by omega⟩⟩
      have hlate : lateOf great (pfOf (mulZ k pz)) (pfOf sz) = lateMap k (lateOf tab (pfOf pz) (pfOf sz)) := by
        have e : pfOf (mulZ k pz) = fun p => k * pfOf pz p := funext fun p => pf_mul k pz p
        rw [e]
        exact gd.late _ _ fun p hp s hs => (szb p hp s hs).1
      have lb : ∀ v, lateOf tab (pfOf pz) (pfOf sz) = some v → -1 ≤ v ∧ v ≤ 200 := fun v hv => by
        refine late_bound (fun p hp => ⟨?_, fun w hw => ?_⟩) (by decide) hv
        · obtain ⟨v, hv, hin⟩ := lookup_mem (pz := pz) (n := p) (by rw [m2]; exact hp)
          have := b2 _ hin
          unfold pfOf
          rw [hv]
          exact this.1
        · have hs := stairC_spec (plOf tab p)
          obtain ⟨o1, o2, o3, o4⟩ := gd.ok p _ hs
          obtain ⟨z1, z2⟩ := szb p hp _ hs
          have s24 := ok.s24
          have sl : (stairC (plOf tab p)).length = tab.L := hs.l
          have := longest_bound o1 o4 (by omega) z1 z2 hw
          omega
      refine ⟨_, rfl, rfl, _, rfl, d2, pz, rfl, hz2, pk1, fun H4 yp s4 hp4 => ⟨_, rfl, _, _, d1, tab, pfOf pz, sz, rfl, hx3.si (SameI.of s4), hp4, s4 _ _ hz1, lk, fun H5 s5 => ?_⟩⟩
      have z25 := s5 _ _ (s4 _ _ hz2)
      refine ⟨d2, _, z25, trivial, fun od => ⟨_, rfl, d2, od, rfl, .inl ⟨tK (zsOf pz), upd_same, fun D hD => ?_⟩⟩⟩
      have hDd : D ≠ d2 := fun z => by rw [z, upd_same] at hD; cases hD
      have lpz : pz.length ≤ 8 := by
        have := congrArg List.length m2
        rw [List.length_map] at this
        omega
      refine lcRel walk_keys pz (by simp [tK, zsOf]) 7 (fun z v => v = .str z.1) (fun i H0 v H' z hz _ yy => ?_) hD (fun H' s => s _ _ upd_same) (PairR k) (fun H H' z y si ⟨q, e, h⟩ => ⟨q, e, si _ _ h (fun _ z => nomatch z)⟩) (by rw [sizeLine_eq]; omega) (fun z v H6 Kt hz hv s6 k0 => ?_) (fun _ => rfl) fun H6 ys s6 hD6 hys => ⟨s6 _ _ upd_same, ?_⟩
      · obtain ⟨e, kk, v', hkv, rfl⟩ := yy
        refine ⟨e, ?_⟩
        unfold tK zsOf at hkv
        rw [List.getElem?_map, List.getElem?_map, hz] at hkv
        have this : kk = .inr z.1 := (congrArg Prod.fst (Option.some.inj hkv)).symm
        rw [this]
        rfl
      · subst hv
        obtain ⟨w0, w1⟩ := b2 z hz
        have hg : DGet H6 d2 (kV (.inr z.1)) (some (.int z.2)) := by
          refine .inl ⟨tK (zsOf pz), .inr z.1, .inr ⟨od, s6 _ _ upd_same⟩, rfl, ?_⟩
          rw [valV_tK, lookup_zs]
          have hl : pz.lookup z.1 = some z.2 := by
            obtain ⟨i, h1, h2⟩ := lookup_mem (List.mem_map.mpr ⟨z, hz, rfl⟩ : z.1 ∈ pz.map (·.1))
            rw [h1]
            obtain ⟨j1, hj1, e1⟩ := List.mem_iff_getElem.mp h2
            obtain ⟨j2, hj2, e2⟩ := List.mem_iff_getElem.mp hz
            have hj : j1 = j2 := (List.getElem_inj (h₀ := by simpa using hj1) (h₁ := by simpa using hj2) (show (pz.map (·.1)).Nodup by rw [m2]; exact ok.nd)).mp (by rw [List.getElem_map, List.getElem_map, e1, e2])
            subst hj
            rw [e1] at e2
            rw [← e2]
          rw [hl]
          rfl
        exact ⟨_, rfl, _, rfl, _, rfl, _, rfl, d2, _, rfl, hg, _, _, rfl, rfl, wide_mul (a := 64) (b := 64) k64 (by omega) (by decide) (by decide) (by decide), (by show 2 ≤ sizeLine; decide), fun q hq => k0 _ _ (same_upd hq) ⟨q, rfl, upd_same⟩⟩
      have s7 : Same H5 (upd H6 d2 (.dK (tK (zsOf pz)))) := unlock_same z25 s6
      have hD7 : upd H6 d2 (.dK (tK (zsOf pz))) D = some (.lst ys) := (upd_ne hDd).trans hD6
      have hys7 : Fa2 (PairR k (upd H6 d2 (.dK (tK (zsOf pz))))) pz ys := hys.imp fun z y ⟨q, e, h⟩ => ⟨q, e, (upd_ne (fun e => by rw [e, s6 _ _ upd_same] at h; cases h)).trans h⟩
      generalize upd H6 d2 (.dK (tK (zsOf pz))) = H7 at s7 hD7 hys7 ⊢
      obtain ⟨ps, rfl, hps⟩ := pair_dict (K := K) hys7
      refine ⟨D, ps, _, rfl, .inl (.inl hD7), hps, fun pn hpn => ?_⟩
      have hpk : PzOk (mulZ k pz) := pk k k1 k5
      rw [mergeK_new (by rw [List.nil_append]; exact nodup_keys hpk.nd), List.nil_append]
      have s8 : Same H5 (upd H7 pn (.dK (tK (zsOf (mulZ k pz))))) := same_up s7 hpn
      have hpn8 : upd H7 pn (.dK (tK (zsOf (mulZ k pz)))) pn = some (.dK (tK (zsOf (mulZ k pz)))) := upd_same
      generalize upd H7 pn (.dK (tK (zsOf (mulZ k pz)))) = H8 at s8 hpn8 ⊢
      have s38 : Same H3 H8 := Same.trans s4 (Same.trans s5 s8)
      refine ⟨_, rfl, rfl, _, rfl, pn, mulZ k pz, rfl, hpn8, hpk, fun H9 yq s9 hp9 => ⟨_, rfl, _, _, d1, great, pfOf (mulZ k pz), sz, rfl, (ht3.si (SameI.of s38)).si (SameI.of s9), hp9, s9 _ _ (s38 _ _ hz1), gl, fun H10 s10 => ?_⟩⟩
      rw [hlate]
      have sxE : SameX p H H10 := sameX_trans (sameX_of s1) (sameX_trans sx3 (sameX_of (Same.trans s38 (Same.trans s9 s10))))
      have penE : PenAt H10 p l (B + 24) := (pen3.s (Same.trans s38 (Same.trans s9 s10))).mono (by rw [List.length_map]; omega)
      cases e1 : lateOf tab (pfOf pz) (pfOf sz) with
      | none =>
        refine ⟨_, rfl, _, rfl, rfl, true, rfl, iteP rfl (iteP rfl ⟨_, rfl, rfl, ?_⟩)⟩
        exact hq _ sxE penE
      | some v =>
        obtain ⟨v0, v1⟩ := lb v e1
        refine ⟨_, rfl, _, rfl, rfl, false, rfl, iteN (by decide) ⟨_, rfl, _, _, rfl, rfl, _, rfl, ?_⟩⟩
        have el : lateMap k (some v) = some (if v < 0 then v else k * v) := rfl
        by_cases q : v < 0
        · rw [if_pos q] at el
          refine iteP (decide_eq_true q) ⟨_, rfl, rfl, ?_⟩
          rw [el]
          have e2 : decide (optV (some v) = optV (some v)) = true := decide_eq_true rfl
          rw [e2]
          exact hq _ sxE penE
        · rw [if_neg q] at el
          refine iteN (by rw [decide_eq_false q]; decide) ⟨_, rfl, _, rfl, _, _, rfl, rfl, wide_mul (a := 64) (b := 64) k64 (by omega) (by decide) (by decide) (by decide), ?_, ?_⟩
          · rw [el]; rfl
          · have e2 : decide (optV (lateMap k (some v)) = V.int (k * v)) = true := decide_eq_true (by rw [el]; rfl)
            rw [e2]
            exact hq _ sxE penE
end K6
set_option Elab.async false
set_option linter.all false
set_option maxRecDepth 100000
set_option maxHeartbeats 4000000
namespace K6
open PySem PySem.Spec PyProof.Rows L2
open He (ga ma)

/-! ### an instance is called, within a comprehension -/
def InsC0 (H : Hp) (a C : Addr) : Prop := (∃ dx vs, SlX.Slt H a C dx vs) ∨ ∃ dx fs, H a = some (.ins C dx fs)
def tCallO0 (C : Addr) (sp : Sp) (E : XK) (tf : TE) (t : TA) : TE := fun σ H Q => tf σ H fun y H1 => ∃ a, y = V.ref a ∧ t σ H1 fun vs H2 => InsC0 H2 a C ∧ sp (V.ref a :: vs) H2 Q E
theorem pe_callO0 {X : Cx} {CX : CXT} {k : Nat} {C g : Addr} {sp : Sp} {E : XK} {fe e : Expr} {es : List Expr} {tf : TE} {t : TA} {pos : Pos} (hf : PE X fe tf) (c : StX.CallO X.K C g) (F : FnR X.prog X.w X.K X.mg X.base CX k g sp) (hr : Room k X.A) (hx : Passes CX X E) (ha : PA X (e :: es) t)
    (ht : eval (.Call fe (e :: es) [] pos) X.env = (do callWith pos (← eval fe X.env) [] (backTo pos (starEach (e :: es) X.env)) (backToKw pos (keywordEach [] X.env))) := by rfl)
    (he : starEach (e :: es) X.env = (false, eval e X.env) :: starEach es X.env := by rfl) (hpl : (backTo pos (starEach es X.env)).any (·.1) = false := by rfl) : PE X (.Call fe (e :: es) [] pos) (tCallO0 C sp E tf t) :=
  StX.pe_callO hf c F hr hx ha ht he hpl

theorem same_stair_mon {K : PySem.W.Frag} : ∀ a b H H', Ext H H' → SameStair K a b H → SameStair K a b H' := fun a b H H' e ⟨s, h1, h2⟩ => ⟨s, h1.si (SameI.of e), h2.si (SameI.of e)⟩
section
variable {J : It} {n : Nat} {G : Hp → Prop} {Y : Nat → Hp → V → Hp → Prop} {tt : TT} {te : TE} {vs : List Nat} {σ : L2.St} {H1 : Hp} {D : Addr} {Qd : Hp → Prop} {α : Type}
/-- [e for x in .. if t]: the items that pass are seen to be what they stand for -/
theorem lcRelF (w : Walk J n G Y) (l : List α) (hn : n = l.length) (j : Nat) (item : α → V → Prop) (hY : ∀ i H x H' (a : α), l[i]? = some a → G H → Y i H x H' → H' = H ∧ item a x)
    (hD : H1 D = none) (hG : ∀ H', Same H1 H' → G H') (P : α → Bool) (R : Hp → α → V → Prop) (hR : ∀ H H' a y, SameI H H' → R H a y → R H' a y) (hz : l.length < sizeLine)
    (step : ∀ (a : α) (x : V) (H : Hp) (Kt : V → Hp → Prop) (Kf : Hp → Prop), a ∈ l → item a x → Same H1 H → (P a = true → ∀ y H4, Same H H4 → R H4 a y → Kt y H4) → (P a = false → ∀ H3, Same H H3 → Kf H3) →
      tt ((wipe σ vs).set j (some x)) H fun b H3 => if b = true then te ((wipe σ vs).set j (some x)) H3 Kt else Kf H3)
    (wip : ∀ x, wipe ((wipe σ vs).set j (some x)) vs = wipe σ vs)
    (hQ : ∀ H' ys, Same H1 H' → H' D = some (.lst ys) → Fa2 (R H') (l.filter P) ys → Qd H') :
    ∃ W : Nat → Nat → Hp → Prop, (∃ m, W 0 m (upd H1 D (.lst []))) ∧ ∀ i m H, W i m H →
      (J.stop i H ∧ Qd H) ∨ (J.go i H ∧ ∃ Nx : Hp → Prop, (∀ H', Nx H' → ∃ m', m' < m ∧ W (i + 1) m' H') ∧ ∀ x H', J.yld i H x H' → gName j x (wipe σ vs) H' fun σ2 H2 => wipe σ2 vs = wipe σ vs ∧ tt σ2 H2 fun b H3 =>
        if b = true then te σ2 H3 fun y H4 => ∃ acc, H4 D = some (.lst acc) ∧ acc.length < sizeLine ∧ Nx (upd H4 D (.lst (acc ++ [y]))) else Nx H3) := by
  refine lc_it w (fun i H => Same H1 H ∧ ∃ ys, H D = some (.lst ys) ∧ Fa2 (R H) ((l.take i).filter P) ys) ⟨same_upd hD, [], by simp [upd_same], by simp [Fa2]⟩ (fun i H _ h => hG H h.1) (fun i x H H' hi ⟨hs, ys, hd, hf⟩ hy => ?_) (fun H ⟨hs, ys, hd, hf⟩ => hQ H ys hs hd (by rw [hn, List.take_length] at hf; exact hf))
  have hl : i < l.length := by omega
  have ha : l[i]? = some l[i] := by simp [hl]
  obtain ⟨rfl, hx⟩ := hY i H x H' l[i] ha (hG H hs) hy
  have tk : (l.take (i + 1)).filter P = (l.take i).filter P ++ (if P l[i] = true then [l[i]] else []) := by
    rw [List.take_add_one, ha, List.filter_append]
    show _ ++ List.filter P [l[i]] = _
    by_cases q : P l[i] = true
    · rw [List.filter_cons, if_pos q, if_pos q]; rfl
    · rw [List.filter_cons, if_neg q, if_neg q]; rfl
  refine ⟨wip x, step l[i] x H' _ _ (List.getElem_mem hl) hx hs (fun p y H4 h4 e => ⟨ys, h4 _ _ hd, ?_, same_put (Same.trans hs h4) hD, ys ++ [y], upd_same, ?_⟩) fun p H3 h3 => ⟨hs.trans h3, ys, h3 _ _ hd, ?_⟩⟩
  · have := hf.len
    have h2 := List.length_filter_le P (l.take i)
    rw [List.length_take] at h2
    omega
  · have si : SameI H4 (upd H4 D (.lst (ys ++ [y]))) := SameI.put SameI.rfl' (h4 _ _ hd)
    rw [tk, if_pos p]
    exact Fa2.snoc (hf.imp fun a b r => hR _ _ a b (SameI.trans (SameI.of h4) si) r) (hR _ _ _ _ si e)
  · rw [tk, if_neg (by rw [p]; decide), List.append_nil]
    exact hf.imp fun a b r => hR _ _ a b (SameI.of h3) r
end
theorem inV_str {p : Str} {l : List Str} : inV (.str p) (l.map V.str) = decide (p ∈ l) := by
  by_cases h : p ∈ l
  · rw [inV_mem h, decide_eq_true h]
  · rw [decide_eq_false h]
    unfold inV
    rw [List.any_eq_false]
    intro y hy
    obtain ⟨z, hz, rfl⟩ := List.mem_map.mp hy
    intro e
    exact h (by rw [← (show z = p by simpa [eqV] using e)]; exact hz)
def unitsAt (one two : Tab) (p : Str) : List Tab := [one, two].filter fun u => decide (p ∈ u.places)
/-- two tables and what they make together -/
structure JoinedGd (one two both : Tab) : Prop where
  f1 : one.rows.length ≤ 40
  f2 : two.rows.length ≤ 40
  f3 : both.rows.length ≤ 40
  p1 : ∀ p, PlaceOk (plOf one p)
  p2 : ∀ p, PlaceOk (plOf two p)
  p3 : ∀ p, PlaceOk (plOf both p)
  c : both.places.length ≤ 8
  c1 : one.places.length ≤ 8
  ok1 : ∀ p s, StairOf (plOf one p) s → StairOk s
  ok2 : ∀ p s, StairOf (plOf two p) s → StairOk s
  ok3 : ∀ p s, StairOf (plOf both p) s → StairOk s
  le : ∀ p s, StairOf (plOf both p) s → ∀ m, 0 ≤ m → 0 ≤ callOf s m ∧ callOf s m ≤ ((unitsAt one two p).map fun u => callOf (stairC (plOf u p)) m).sum
  st : ∀ p s, StairOf (plOf both p) s → s.step = ((unitsAt one two p).map fun u => (stairC (plOf u p)).step).sum
structure JoinedOk (size : Int) (trips others : List Trip) : Prop where
  s1 : 5 ≤ size
  s2 : size ≤ 24
  n1 : ∀ t ∈ trips, t.name.length ≤ 8
  n2 : ∀ t ∈ others, t.name.length ≤ 8
  t1 : ∀ t ∈ trips, TripOk t
  t2 : ∀ t ∈ others.map (renT "k"), TripOk t
  t3 : ∀ t ∈ trips.map (renT "n"), TripOk t
  p1 : TabPre size trips
  p2 : TabPre size (others.map (renT "k"))
  p3 : TabPre size (trips.map (renT "n"))
  pb : ∀ one two, TabGot size trips one → TabGot size (others.map (renT "k")) two → TabPre size (one.rows ++ two.rows)
  gd : ∀ one two both, TabGot size trips one → TabGot size (others.map (renT "k")) two → TabGot size (one.rows ++ two.rows) both → JoinedGd one two both
  re : ∀ one new, TabGot size trips one → TabGot size (trips.map (renT "n")) new → new.rows.length ≤ 40 ∧ (∀ p, PlaceOk (plOf new p)) ∧ (∀ p ∈ one.places, p ∈ new.places) ∧ ∀ p s t, StairOf (plOf one p) s → StairOf (plOf new p) t → s = t
def sp_joined_right (K : PySem.W.Frag) : Sp := fun vs H Q _ => ∃ p x y l B size trips others, vs = [.ref p, x, y] ∧ PenAt H p l B ∧ B + 100 < 2 ^ 20 ∧ PlainAt H p size trips x ∧ PlainAt H p size others y ∧ JoinedOk size trips others ∧
  ∀ H', SameX p H H' → PenAt H' p l (B + 16) → Q (.bl true) H'

abbrev N_law_joined_right : List Str := ["_law_pen_here", "_law_plain_here", "_law_other", "_law_one", "_law_two", "_law_both", "_law_place", "_law_some", "_law_unit", "_law_whole", "_law_m"]
theorem sc_law_joined_right : FnScope N_law_joined_right ["_law_pen_here", "_law_plain_here", "_law_other"] (defScope s_law_joined_right) := ⟨rfl, rfl, rfl, by decide +kernel, rfl, by decide +kernel, by decide +kernel⟩
theorem ok_law_joined_right {P : Program} {w : World} {K : PySem.W.Frag} {mg : Str → Option Value} {base : Heap} (T : Txt P K mg) : FnR P w K mg base CX0 12 (ga K "_law_joined_right") (sp_joined_right K) := by
  have nd := sc_law_joined_right.nd
  obtain ⟨fdE, hFe, hBe⟩ := ok_Stair_eq (P := P) (w := w) (mg := mg) (base := base) T
  refine fnR T.d_law_joined_right sc_law_joined_right (fun _ _ _ _ _ _ us hl => match us, hl with | [_, _, _], _ => rfl) (fun vs H Q E h => ?_) fun cdv A outer s H vs Q E hr h => ⟨_, (pss_cons (ps_asg (pe_tup (pa_cons (pe_cal (ok_law_table T) (hr.mono (by decide)) (kpOf T.d_law_table) rfl T.g_law_table pass0 (pa_cons (pv 1) pa_nil)) (pa_cons (pe_cal (ok_law_table T) (hr.mono (by decide)) (kpOf T.d_law_table) rfl T.g_law_table pass0 (pa_cons (pe_cal (ok_law_renamed T) (hr.mono (by decide)) (kpOf T.d_law_renamed) rfl T.g_law_renamed pass0 (pa_cons (pv 2) (pa_cons pe_str pa_nil))) pa_nil)) pa_nil))) (pg_tup rfl (pgs_cons (pg_name (i := 3) nd rfl (by first | exact Or.inl rfl | exact Or.inr rfl)) (pgs_cons (pg_name (i := 4) nd rfl (by first | exact Or.inl rfl | exact Or.inr rfl)) pgs_nil)))) (pss_cons (ps_set (i := 5) nd rfl (by first | exact Or.inl rfl | exact Or.inr rfl) (pe_op (op_own (ok_Table_add T) (hr.mono (by decide)) pass0 T.sf_Table T.fi_Table_add T.if_Table_add) (pv 3) (pv 4))) (pss_cons (ps_for PassesOwn.never rfl (pi_tup (pe_fld (pv 5) rfl)) (pg_name (i := 6) nd rfl (by first | exact Or.inl rfl | exact Or.inr rfl)) (pss_cons (ps_setLc (i := 7) (own := [("_law_unit", 8)]) (g := gName 8) (tt := (tTest (tOp (rIn K false) (tVar 6) (tFld K (tVar 8) "places")))) (te := (tCal (sp_stair K) E0 (tCons (tVar 8) (tCons (tVar 6) tNil)))) rfl nd rfl rfl (sw_true rfl rfl rfl (by decide +kernel)) (pi_tup (pe_tup (pa_cons (pv 3) (pa_cons (pv 4) pa_nil)))) (blkOk_by (N := N_law_joined_right) (sc := defScope s_law_joined_right) (by decide +kernel)) (fun _ _ _ _ _ => pg_name (i := 8) nd rfl (by first | exact Or.inl rfl | exact Or.inr rfl)) (fun _ _ _ _ _ => (pts_one (pt_cmpR op_in_seq (pv 6) (pe_fld (pv 8) rfl) rfl))) (fun _ _ _ _ _ => (pe_cal (ok_stair T) (hr.mono (by decide)) (kpOf T.d_stair) rfl T.g_stair pass0 (pa_cons (pv 8) (pa_cons (pv 6) pa_nil))))) (pss_cons (ps_set (i := 9) nd rfl (by first | exact Or.inl rfl | exact Or.inr rfl) (pe_cal (ok_stair T) (hr.mono (by decide)) (kpOf T.d_stair) rfl T.g_stair pass0 (pa_cons (pv 5) (pa_cons (pv 6) pa_nil)))) (pss_cons (ps_for PassesOwn.never rfl (pi_list (pe_lst (pa_cons pe_int (pa_cons (pe_cal (ok_law_draw T) (hr.mono (by decide)) (kpOf T.d_law_draw) rfl T.g_law_draw pass0 (pa_cons (pv 0) (pa_cons (pe_op op_mulW pe_int (pe_dget (hu_of hr) (pv 1) pe_str (fun _ _ => rfl))) pa_nil))) (pa_cons (pe_op op_add (pe_op op_pow pe_int pe_int) (pe_cal (ok_law_draw T) (hr.mono (by decide)) (kpOf T.d_law_draw) rfl T.g_law_draw pass0 (pa_cons (pv 0) (pa_cons pe_int pa_nil)))) pa_nil))))) (pg_name (i := 10) nd rfl (by first | exact Or.inl rfl | exact Or.inr rfl)) (pss_one (ps_if (PW.pt (pw_or (pt_cmpR op_gt (StX.pe_callO (pv 9) ⟨T.fi_Stair_call, T.if_Stair_call, T.fn_Stair_call⟩ (ok_Stair_call T) (hr.mono (by decide)) pass0 (pa_cons (pv 10) pa_nil)) (pe_callB (cr_sum rfl) rfl T.f_sum bt_sum (pa_cons (pe_lc (own := [("_law_unit", 8)]) (g := gName 8) (tt := tYes) (te := (tCallO0 (ga K "Stair") (sp_Stair_call K) E0 (tVar 8) (tCons (tVar 10) tNil))) rfl nd (pi_list (pv 7)) (blkOk_by (N := N_law_joined_right) (sc := defScope s_law_joined_right) (by decide +kernel)) (fun _ _ _ _ _ => pg_name (i := 8) nd rfl (by first | exact Or.inl rfl | exact Or.inr rfl)) (fun _ _ _ _ _ => pts_nil) (fun _ _ _ _ _ => (pe_callO0 (pv 8) ⟨T.fi_Stair_call, T.if_Stair_call, T.fn_Stair_call⟩ (ok_Stair_call T) (hr.mono (by decide)) pass0 (pa_cons (pv 10) pa_nil)))) pa_nil)) (nomark _)) (pw_or1 (pt_cmpR op_lt (StX.pe_callO (pv 9) ⟨T.fi_Stair_call, T.if_Stair_call, T.fn_Stair_call⟩ (ok_Stair_call T) (hr.mono (by decide)) pass0 (pa_cons (pv 10) pa_nil)) pe_int (nomark _))))) (pss_one (ps_ret pe_bl)) pss_nil))) (pss_one (ps_if (pt_cmpR op_ne (pe_fld (pv 9) rfl) (pe_callB (cr_sum rfl) rfl T.f_sum bt_sum (pa_cons (pe_lc (own := [("_law_unit", 8)]) (g := gName 8) (tt := tYes) (te := (tFld K (tVar 8) "step")) rfl nd (pi_list (pv 7)) (blkOk_by (N := N_law_joined_right) (sc := defScope s_law_joined_right) (by decide +kernel)) (fun _ _ _ _ _ => pg_name (i := 8) nd rfl (by first | exact Or.inl rfl | exact Or.inr rfl)) (fun _ _ _ _ _ => pts_nil) (fun _ _ _ _ _ => (pe_fld (pv 8) rfl))) pa_nil)) (nomark _)) (pss_one (ps_ret pe_bl)) pss_nil)))))) (pss_cons (ps_if (pt_cmpR (op_neL (mon_ins same_stair_mon) (eqG_ins (n := 1) hFe T.fi_Stair_eq T.if_Stair_eq hBe pass0) (hr.mono (by decide))) (pe_lc (own := [("_law_place", 6)]) (g := gName 6) (tt := tYes) (te := (tCal (sp_stair K) E0 (tCons (tVar 3) (tCons (tVar 6) tNil)))) rfl nd (pi_tup (pe_fld (pv 3) rfl)) (blkOk_by (N := N_law_joined_right) (sc := defScope s_law_joined_right) (by decide +kernel)) (fun _ _ _ _ _ => pg_name (i := 6) nd rfl (by first | exact Or.inl rfl | exact Or.inr rfl)) (fun _ _ _ _ _ => pts_nil) (fun _ _ _ _ _ => (pe_cal (ok_stair T) (hr.mono (by decide)) (kpOf T.d_stair) rfl T.g_stair pass0 (pa_cons (pv 3) (pa_cons (pv 6) pa_nil))))) (pe_lc (own := [("_law_place", 6)]) (g := gName 6) (tt := tYes) (te := (tCal (sp_stair K) E0 (tCons (tCal (sp_law_table K) E0 (tCons (tCal (sp_law_renamed K) E0 (tCons (tVar 1) (tCons (tC _) tNil))) tNil)) (tCons (tVar 6) tNil)))) rfl nd (pi_tup (pe_fld (pv 3) rfl)) (blkOk_by (N := N_law_joined_right) (sc := defScope s_law_joined_right) (by decide +kernel)) (fun _ _ _ _ _ => pg_name (i := 6) nd rfl (by first | exact Or.inl rfl | exact Or.inr rfl)) (fun _ _ _ _ _ => pts_nil) (fun _ _ _ _ _ => (pe_cal (ok_stair T) (hr.mono (by decide)) (kpOf T.d_stair) rfl T.g_stair pass0 (pa_cons (pe_cal (ok_law_table T) (hr.mono (by decide)) (kpOf T.d_law_table) rfl T.g_law_table pass0 (pa_cons (pe_cal (ok_law_renamed T) (hr.mono (by decide)) (kpOf T.d_law_renamed) rfl T.g_law_renamed pass0 (pa_cons (pv 1) (pa_cons pe_str pa_nil))) pa_nil)) (pa_cons (pv 6) pa_nil))))) (nomark _)) (pss_one (ps_ret pe_bl)) pss_nil) (pss_one (ps_ret pe_bl)))))), ?_⟩
  · obtain ⟨_, _, _, _, _, _, _, _, rfl, _⟩ := h; rfl
  · obtain ⟨p, x, y, l, B, size, trips, others, rfl, hpen, hB, hx, hy, ok, hq⟩ := h
    obtain ⟨_, _, _, hpe, _⟩ := id hpen
    have z1 := ok.s1
    have z2 := ok.s2
    have fewT := ok.p1.few
    have fewO := ok.p2.few
    rw [List.length_map] at fewO
    refine ⟨_, rfl, x, size, trips, rfl, hx.hp, by omega, by omega, ok.t1, ok.p1, fun H1 one y1 s1 ht1 hg1 => ?_⟩
    refine ⟨_, rfl, y, size, others, "k", rfl, (hy.sx hpe (sameX_of s1)).hp, fewO, ok.n2, by decide, fun H2 z s2 hz => ?_⟩
    refine ⟨z, size, others.map (renT "k"), rfl, hz, by omega, by omega, ok.t2, ok.p2, fun H3 two y2 s3 ht2 hg2 => ⟨by show 2 ≤ sizeLine; decide, fun tp htp => ?_⟩⟩
    have s4 := same_upd (o := .tup [y1, y2]) htp
    refine ⟨tp, _, rfl, .inl (.inl upd_same), rfl, _, _, rfl, _, _, rfl, rfl, ?_⟩
    generalize upd H3 tp (.tup [y1, y2]) = H4 at s4 ⊢
    have s14 : Same H1 H4 := Same.trans s2 (Same.trans s3 s4)
    have ht1' := ht1.si (SameI.of s14)
    have ht2' := ht2.si (SameI.of s4)
    obtain ⟨a1, dx1, dd1, n1, pp1, rr1, ras1, rfl, ha1, hd1, hn1, hp1, hr1, hf1⟩ := id ht1'
    obtain ⟨a2, dx2, dd2, n2, pp2, rr2, ras2, rfl, ha2, hd2, hn2, hp2, hr2, hf2⟩ := id ht2'
    refine ⟨_, rfl, _, rfl, a1, a2, _, _, _, _, rfl, rfl, ha1, ha2, _, _, one, two, rfl, ht1', ht2', by rw [hg1.hL, hg2.hL], by rw [hg1.hL]; exact ok.pb one two hg1 hg2, fun H5 both z s5 ht3 hg3 => ?_⟩
    rw [hg1.hL] at hg3
    have gd := ok.gd one two both hg1 hg2 hg3
    obtain ⟨a3, dx3, dd3, n3, pp3, rr3, ras3, rfl, ha3, hd3, hn3, hp3, hr3, hf3⟩ := id ht3
    have c8 := gd.c
    have s05 : Same H H5 := Same.trans s1 (Same.trans s14 s5)
    have pen5 : PenAt H5 p l B := hpen.s s05
    obtain ⟨_, _, _, hpe5, _⟩ := id pen5
    have np : ∀ (b : Addr) (o : HO), H5 b = some o → (∀ xs, o ≠ .lst xs) → b ≠ p := fun b o e n z => by
      obtain ⟨_, _, _, e2, _⟩ := pen5
      rw [z, e2] at e
      exact n _ (Option.some.inj e).symm
    refine ⟨_, rfl, _, _, _, _, _, rfl, ha3, T.cl_Table, T.na_Table_places, rfl, pp3, rfl, ⟨_, .inl (.inl hp3)⟩, for_tup (K := K) (fun i σ H' => SameX p H5 H' ∧ PenAt H' p l (B + 2 * i) ∧ ∃ u6 u7 u9 u10, σ = [some (.ref p), some x, some y, some (.ref a1), some (.ref a2), some (.ref a3), u6, u7, none, u9, u10]) ⟨sameX_of (Same.refl _), pen5, none, none, none, none, rfl⟩ (fun i σ H' _ h => .inl (.inl (h.1 _ _ (np _ _ hp3 (fun _ z => nomatch z)) hp3))) (fun i v σ H6 hv hpv => ?_) fun σ H6 hpv => ?_⟩
    · obtain ⟨sx6, pen6, u6, u7, u9, u10, rfl⟩ := hpv
      have hi : i < both.places.length := by
        have := (List.getElem?_eq_some_iff.mp hv).1
        rw [List.length_map] at this
        exact this
      obtain ⟨q, hqm, rfl⟩ : ∃ q, q ∈ both.places ∧ v = .str q := by
        obtain ⟨q, h1, h2⟩ := List.mem_map.mp (List.mem_of_getElem? hv)
        exact ⟨q, h1, h2.symm⟩
      have si6 : SameI H5 H6 := pen5.sx sx6
      have hT1 := (ht1'.si (SameI.of s5)).si si6
      have hT2 := (ht2'.si (SameI.of s5)).si si6
      have hT3 := ht3.si si6
      have pos1 : ∀ c ∈ [(one, V.ref a1), (two, V.ref a2)], TabAt K H6 c.1 c.2 ∧ c.1.rows.length ≤ 40 ∧ PlaceOk (plOf c.1 q) := by
        intro c hc
        simp only [List.mem_cons, List.not_mem_nil, or_false] at hc
        rcases hc with rfl | rfl
        · exact ⟨hT1, gd.f1, gd.p1 q⟩
        · exact ⟨hT2, gd.f2, gd.p2 q⟩
      refine ⟨_, rfl, _, rfl, (by show 2 ≤ sizeLine; decide), fun tq htq => ⟨tq, rfl, ⟨_, .inl (.inl upd_same)⟩, fun D hD => lcRelF walk_tup [(one, V.ref a1), (two, V.ref a2)] rfl 8 (fun c x => x = c.2) (fun i H0 x H' c hc _ yy => yAt (fa2_map (f := Prod.snd)) i H0 x H' c hc yy) hD (fun H' s => .inl (.inl (s _ _ upd_same))) (fun c => decide (q ∈ c.1.places)) (fun H c y => StairAt K H (stairC (plOf c.1 q)) y) (fun H H' c y s h => h.si s) (by show 2 < sizeLine; decide) (fun c x H7 Kt Kf hc hx7 s7 k1 k2 => ?_) (fun _ => rfl) fun H7 ys s7 hD7 hys => ?_⟩⟩
      · subst hx7
        obtain ⟨w1, w2, w3⟩ := pos1 c hc
        have w4 := w1.si (SameI.of (Same.trans (same_upd htq) s7))
        obtain ⟨ac, dc, ddc, nc, ppc, rrc, rasc, e, hac, hdc, hnc, hpc, hrc, hfc⟩ := id w4
        refine ⟨_, rfl, _, rfl, _, _, _, _, _, e, hac, T.cl_Table, T.na_Table_places, rfl, ppc, _, rfl, .inr (.inl (.inl hpc)), rfl, flat_strs _, _, rfl, ?_⟩
        by_cases hqc : q ∈ c.1.places
        · refine iteP (inV_mem hqc) ?_
          exact ⟨_, rfl, _, rfl, c.2, c.1, q, rfl, w4, hqc, w2, w3, fun H8 s y s8 hs ho => k1 (decide_eq_true hqc) _ _ s8 (by rw [← stairC_eq ho]; exact hs)⟩
        · refine iteN (fun z => ?_) (k2 (decide_eq_false hqc) _ (Same.refl _))
          have z2 : inV (.str q) (c.1.places.map V.str) = true := z
          rw [inV_str, decide_eq_false hqc] at z2
          cases z2
      have s67 : Same H6 H7 := Same.trans (same_upd htq) s7
      have hys2 : Fa2 (fun u y => StairAt K H7 (stairC (plOf u q)) y) (unitsAt one two q) ys := by
        have e : unitsAt one two q = ([(one, V.ref a1), (two, V.ref a2)].filter fun c => decide (q ∈ c.1.places)).map Prod.fst := by
          unfold unitsAt
          simp only [List.filter_cons, List.filter_nil]
          by_cases e1 : q ∈ one.places <;> by_cases e2 : q ∈ two.places <;> simp [e1, e2]
        rw [e]
        exact Fa2.map_l hys
      refine ⟨_, rfl, _, rfl, _, both, q, rfl, hT3.si (SameI.of s67), hqm, gd.f3, gd.p3 q, fun H8 w yw s8 hw how => ?_⟩
      obtain ⟨aw, dw, rw', rfl, haw, hrw⟩ := id hw
      have s68 := Same.trans s67 s8
      have sx8 : SameX p H5 H8 := sameX_trans sx6 (sameX_of s68)
      have pen8 : PenAt H8 p l (B + 2 * i) := pen6.s s68
      obtain ⟨axx, tlx, tsx, rfl, hax, htx, ntx, hfx⟩ := (hx.sx hpe (sameX_of s05)).sx hpe5 sx8
      have c9 : CPow 10 9 := ⟨by decide, by decide, by decide⟩
      have e9 : (10 : Int) ^ (9 : Int).toNat = 1000000000 := by decide
      refine ⟨_, rfl, _, rfl, axx, _, rfl, DGet.k (k := .inr "size") hax, _, _, rfl, rfl, wide_mul (a := 64) (b := 64) (by decide) (by omega) (by decide) (by decide) (by decide), p, _, l, B + 2 * i, rfl, pen8, by omega, by omega, by omega, fun H9 r1 sx9 pen9 r10 r11 => ?_⟩
      refine ⟨_, _, rfl, rfl, c9, _, rfl, p, _, l, B + 2 * i + 1, rfl, pen9, by decide, by decide, by omega, fun H10 r2 sx10 pen10 r20 r21 => ⟨_, _, rfl, rfl, (by show 3 ≤ sizeLine; decide), fun tl htl => ?_⟩⟩
      rw [e9]
      have sx810 : SameX p H8 H10 := sameX_trans sx9 sx10
      have s11 := same_upd (o := .lst [V.int 0, V.int r1, V.int (1000000000 + r2)]) htl
      have htl11 : upd H10 tl (.lst [V.int 0, V.int r1, V.int (1000000000 + r2)]) tl = some (.lst [V.int 0, V.int r1, V.int (1000000000 + r2)]) := upd_same
      generalize upd H10 tl (.lst [V.int 0, V.int r1, V.int (1000000000 + r2)]) = H11 at s11 htl11 ⊢
      have si811 : SameI H8 H11 := (pen8.sx sx810).trans (SameI.of s11)
      have hD11 : H11 D = some (.lst ys) := s11 _ _ (sx810 _ _ (fun z => by
        obtain ⟨_, _, _, e, _⟩ := pen6
        have e2 := (same_upd (o := .tup [V.ref a1, V.ref a2]) htq) _ _ e
        rw [z, e2] at hD
        cases hD) (s8 _ _ hD7))
      have hys11 : Fa2 (fun u y => StairAt K H11 (stairC (plOf u q)) y) (unitsAt one two q) ys := hys2.imp fun u y h => (h.si (SameI.of s8)).si si811
      have hw11 := hw.si si811
      have haw11 := si811 _ _ haw (fun _ z => nomatch z)
      have okw := gd.ok3 q w how
      have oku : ∀ u ∈ unitsAt one two q, StairOk (stairC (plOf u q)) := fun u hu => by
        have := (List.mem_filter.mp hu).1
        simp only [List.mem_cons, List.not_mem_nil, or_false] at this
        rcases this with rfl | rfl
        · exact gd.ok1 q _ (stairC_spec _)
        · exact gd.ok2 q _ (stairC_spec _)
      have lenU : (unitsAt one two q).length ≤ 2 := List.length_filter_le _ _
      refine ⟨tl, rfl, ⟨_, .inl (.inl htl11)⟩, for_list (K := K) (fun j σ H' => Same H11 H' ∧ ∃ u10, σ = [some (.ref p), some (.ref axx), some y, some (.ref a1), some (.ref a2), some (.ref a3), some (.str q), some (.ref D), none, some (.ref aw), u10]) ⟨Same.refl _, _, rfl⟩ (fun j σ H' _ h => .inl (.inl (h.1 _ _ htl11))) (fun j v σ H12 hv hpv => ?_) fun σ H12 hpv => ?_⟩
      · obtain ⟨s12, w10, rfl⟩ := hpv
        obtain ⟨m, m0, m1, rfl⟩ : ∃ m : Int, 0 ≤ m ∧ m < 2 ^ 63 ∧ v = .int m := by
          have b63 : (2 : Int) ^ 63 = 9223372036854775808 := by decide
          have hvm := List.mem_of_getElem? hv
          simp only [List.mem_cons, List.not_mem_nil, or_false] at hvm
          rcases hvm with rfl | rfl | rfl
          · exact ⟨0, by omega, by omega, rfl⟩
          · exact ⟨r1, by omega, by omega, rfl⟩
          · exact ⟨1000000000 + r2, by omega, by omega, rfl⟩
        obtain ⟨le0, le1⟩ := gd.le q w how m m0
        refine ⟨_, rfl, aw, rfl, _, rfl, .inr ⟨_, _, s12 _ _ haw11⟩, .ref aw, w, m, rfl, hw11.si (SameI.of s12), okw, m0, m1, fun H13 s13 => ?_⟩
        have s1113 := Same.trans s12 s13
        refine ⟨_, rfl, D, rfl, ⟨_, .inl (.inl (s1113 _ _ hD11))⟩, fun D2 hD2 => lcF walk_list (unitsAt one two q) hys11.len.symm 8 (fun u x => StairAt K H11 (stairC (plOf u q)) x) (fun k H0 x H' u hu _ yy => yAt hys11 k H0 x H' u hu yy) hD2 (fun H' s => .inl (.inl (s _ _ (s1113 _ _ hD11)))) (fun u => some (.int (callOf (stairC (plOf u q)) m))) (by rw [sizeLine_eq]; omega) (fun u x H14 Kt Kf hu hxu s14 k1 k2 => ?_) (fun _ => rfl) fun H14 s14 hD14 => ?_⟩
        · have hxu2 := hxu.si (SameI.of (Same.trans s1113 s14))
          obtain ⟨av, dv, rv, rfl, hav, hrv⟩ := id hxu2
          exact stepY ⟨_, rfl, av, rfl, _, rfl, .inr ⟨_, _, hav⟩, .ref av, _, m, rfl, hxu2, oku u hu, m0, m1, fun H15 s15 => k1 _ _ s15 rfl⟩
        · have e5 : (unitsAt one two q).filterMap (fun u => some (V.int (callOf (stairC (plOf u q)) m))) = ((unitsAt one two q).map fun u => callOf (stairC (plOf u q)) m).map V.int := by
            rw [filterMap_some, List.map_map]; rfl
          rw [e5] at hD14
          have s1114 := Same.trans s1113 s14
          refine ⟨D2, _, rfl, .inl (.inl hD14), _, _, rfl, rfl, _, rfl, iteN (by simpa using le1) ?_⟩
          refine ⟨_, rfl, aw, rfl, _, rfl, .inr ⟨_, _, s1114 _ _ haw11⟩, .ref aw, w, m, rfl, hw11.si (SameI.of s1114), okw, m0, m1, fun H15 s15 => ⟨_, _, rfl, rfl, _, rfl, iteN (by simpa using le0) ?_⟩⟩
          exact ⟨Same.trans s1114 s15, _, rfl⟩
      · obtain ⟨s12, w10, rfl⟩ := hpv
        refine ⟨_, rfl, _, _, _, _, _, rfl, s12 _ _ haw11, T.cl_Stair, T.na_Stair_step, rfl, _, rfl, D, rfl, ⟨_, .inl (.inl (s12 _ _ hD11))⟩, fun D2 hD2 => lcF walk_list (unitsAt one two q) hys11.len.symm 8 (fun u x => StairAt K H11 (stairC (plOf u q)) x) (fun k H0 x H' u hu _ yy => yAt hys11 k H0 x H' u hu yy) hD2 (fun H' s => .inl (.inl (s _ _ (s12 _ _ hD11)))) (fun u => some (.int (stairC (plOf u q)).step)) (by rw [sizeLine_eq]; omega) (fun u x H14 Kt Kf hu hxu s14 k1 k2 => ?_) (fun _ => rfl) fun H14 s14 hD14 => ?_⟩
        · have hxu2 := hxu.si (SameI.of (Same.trans s12 s14))
          obtain ⟨av, dv, rv, rfl, hav, hrv⟩ := id hxu2
          exact stepY ⟨_, rfl, _, _, _, _, _, rfl, hav, T.cl_Stair, T.na_Stair_step, rfl, k1 _ _ (Same.refl _) rfl⟩
        · have e5 : (unitsAt one two q).filterMap (fun u => some (V.int (stairC (plOf u q)).step)) = ((unitsAt one two q).map fun u => (stairC (plOf u q)).step).map V.int := by
            rw [filterMap_some, List.map_map]; rfl
          rw [e5] at hD14
          refine ⟨D2, _, rfl, .inl (.inl hD14), rfl, _, rfl, iteN (by rw [gd.st q w how]; simp) ?_⟩
          have sE : Same H11 H14 := Same.trans s12 s14
          exact ⟨sameX_trans sx8 (sameX_trans sx810 (sameX_of (Same.trans s11 sE))), ((pen10.s s11).s sE).mono (by omega), _, _, _, _, rfl⟩
    · obtain ⟨sx6, pen6, u6, u7, u9, u10, rfl⟩ := hpv
      have si6 : SameI H5 H6 := pen5.sx sx6
      have hT1 := (ht1'.si (SameI.of s5)).si si6
      have ha16 := si6 _ _ (s5 _ _ ha1) (fun _ z => nomatch z)
      have hp16 := si6 _ _ (s5 _ _ hp1) (fun _ z => nomatch z)
      have hx6 := (hx.sx hpe (sameX_of s05)).sx hpe5 sx6
      have c1 := gd.c1
      refine ⟨_, rfl, _, _, _, _, _, rfl, ha16, T.cl_Table, T.na_Table_places, rfl, pp1, rfl, ⟨_, .inl (.inl hp16)⟩, fun D1 hD1 => lcRel walk_tup one.places (by rw [List.length_map]) 6 (fun q x => x = .str q) (fun i H0 x H' q hq _ yy => yAt fa2_map i H0 x H' q hq yy) hD1 (fun H' s => .inl (.inl (s _ _ hp16))) (fun H q y => StairAt K H (stairC (plOf one q)) y) (fun H H' q y s h => h.si s) (by rw [sizeLine_eq]; omega) (fun q x H7 Kt hq hx7 s7 k1 => ?_) (fun _ => rfl) fun H7 ys s7 hD7 hys => ?_⟩
      · subst hx7
        exact ⟨_, rfl, _, rfl, _, one, q, rfl, hT1.si (SameI.of s7), hq, gd.f1, gd.p1 q, fun H8 s y s8 hs ho => k1 _ _ s8 (by rw [← stairC_eq ho]; exact hs)⟩
      · have hp17 := s7 _ _ hp16
        refine ⟨_, rfl, _, _, _, _, _, rfl, s7 _ _ ha16, T.cl_Table, T.na_Table_places, rfl, pp1, rfl, ⟨_, .inl (.inl hp17)⟩, fun D2 hD2 => lcRel walk_tup one.places (by rw [List.length_map]) 6 (fun q x => x = .str q) (fun i H0 x H' q hq _ yy => yAt fa2_map i H0 x H' q hq yy) hD2 (fun H' s => .inl (.inl (s _ _ hp17))) (fun H q y => StairAt K H (stairC (plOf one q)) y) (fun H H' q y s h => h.si s) (by rw [sizeLine_eq]; omega) (fun q x H8 Kt hq hx8 s8 k1 => ?_) (fun _ => rfl) fun H8 zs s8 hD8 hzs => ?_⟩
        · subst hx8
          have s68 : Same H6 H8 := Same.trans s7 s8
          obtain ⟨_, _, _, hpe6, _⟩ := id pen6
          refine ⟨_, rfl, _, size, trips, "n", rfl, (hx6.sx hpe6 (sameX_of s68)).hp, fewT, ok.n1, by decide, fun H9 z s9 hz => ?_⟩
          refine ⟨z, size, trips.map (renT "n"), rfl, hz, by omega, by omega, ok.t3, ok.p3, fun H10 new yn s10 hn hgn => ?_⟩
          obtain ⟨r1, r2, r3, r4⟩ := ok.re one new hg1 hgn
          refine ⟨_, rfl, yn, new, q, rfl, hn, r3 q hq, r1, r2 q, fun H11 s y s11 hs ho => k1 _ _ (Same.trans s9 (Same.trans s10 s11)) (by rw [r4 q _ _ (stairC_spec (plOf one q)) ho]; exact hs)⟩
        · have s68 : Same H6 H8 := Same.trans s7 s8
          refine ⟨⟨D1, D2, ys, zs, rfl, rfl, s8 _ _ hD7, hD8, by rw [← hys.len, ← hzs.len], fun i u v hu hv => ?_⟩, fun H9 s9 => ⟨_, rfl, iteF ?_⟩⟩
          · have hi : i < one.places.length := by rw [hys.len]; exact (List.getElem?_eq_some_iff.mp hu).1
            have hu2 := (hys.get (List.getElem?_eq_getElem hi) hu).si (SameI.of s8)
            have hv2 := hzs.get (List.getElem?_eq_getElem hi) hv
            obtain ⟨au, du, ru, rfl, hau, hru⟩ := id hu2
            obtain ⟨av, dv, rv, rfl, hav, hrv⟩ := id hv2
            exact ⟨au, av, _, _, _, _, rfl, rfl, hau, hav, _, hu2, hv2⟩
          · have sE : Same H6 H9 := Same.trans s68 s9
            exact hq _ (sameX_trans (sameX_of s05) (sameX_trans sx6 (sameX_of sE))) ((pen6.s sE).mono (by rw [List.length_map]; omega))
end K6
set_option Elab.async false
set_option linter.all false
set_option maxHeartbeats 4000000
set_option maxRecDepth 100000
namespace K6
open PySem PySem.Spec PyProof.Rows L2
/-! ### what a drawn table is good for -/
def six : List Str := ["a", "b", "c", "q", "p", "zzzzzzzz"]
def nameB (x : Str) : Bool := decide (1 ≤ x.length) && decide (x.length ≤ 8) && x.cps.toList.all fun c => decide (97 ≤ c ∧ c ≤ 122)
theorem nameB_ok {x : Str} (h : nameB x = true) : NameOk x := by
  unfold nameB at h
  simp only [Bool.and_eq_true, decide_eq_true_eq, List.all_eq_true] at h
  exact ⟨h.1.1, h.1.2, h.2⟩
theorem six_ok {x : Str} (h : x ∈ six) : NameOk x := nameB_ok (List.all_eq_true.mp (show six.all nameB = true by decide +kernel) x h)
theorem left_ok {x : Str} (h : x ∈ left12) : NameOk x := nameB_ok (List.all_eq_true.mp (show left12.all nameB = true by decide +kernel) x h)
def renN (c : Str) (x : Str) : Str := c ++ cut7 x
theorem ren_ok {c : Str} (hc : c = "k" ∨ c = "n") {x : Str} (h : x ∈ left12) : NameOk (renN c x) := by
  rcases hc with rfl | rfl
  · exact nameB_ok (List.all_eq_true.mp (show left12.all (fun x => nameB (renN "k" x)) = true by decide +kernel) x h)
  · exact nameB_ok (List.all_eq_true.mp (show left12.all (fun x => nameB (renN "n" x)) = true by decide +kernel) x h)
theorem ren_nd {c : Str} (hc : c = "k" ∨ c = "n") : (left12.map (renN c)).Nodup := by
  rcases hc with rfl | rfl
  · decide +kernel
  · decide +kernel
theorem ren_ne {x y : Str} (hx : x ∈ left12) (hy : y ∈ left12) : x ≠ renN "k" y := by
  have h := List.all_eq_true.mp (List.all_eq_true.mp (show left12.all (fun x => left12.all fun y => !decide (x = renN "k" y)) = true by decide +kernel) x hx) y hy
  simpa using h
theorem six_of {pls : List Str} (h : pls ∈ rowsPl) {x : Str} (hx : x ∈ pls) : x ∈ six := by
  have e := List.all_eq_true.mp (List.all_eq_true.mp (show rowsPl.all (fun pls => pls.all fun x => decide (x ∈ six)) = true by decide +kernel) pls h) x hx
  simpa using e
/-- trips that can be a table -/
structure TripsOk (L : Int) (rows : List Trip) : Prop where
  g : RowsG L rows
  nd : (rows.map (·.name)).Nodup
  pl : ∀ t ∈ rows, t.start ∈ six ∧ t.goal ∈ six
theorem places_few {rows : List Trip} (h : ∀ t ∈ rows, t.start ∈ six ∧ t.goal ∈ six) {ps : List Str} (p : PlacesOf rows ps) : (∀ x ∈ ps, x ∈ six) ∧ ps.length ≤ 8 := by
  have m : ∀ x ∈ ps, x ∈ six := fun x hx => by
    obtain ⟨t, ht, e⟩ := (p.2 x).mp hx
    rcases e with rfl | rfl
    · exact (h t ht).1
    · exact (h t ht).2
  have := nodup_le p.1 m
  have e : six.length = 6 := rfl
  exact ⟨m, by omega⟩
theorem TripsOk.pre {L : Int} {rows : List Trip} (h : TripsOk L rows) : TabPre L rows := ⟨h.nd, h.g.few, fun t ht => (h.g.lv t ht).2, fun ps p => (places_few h.pl p).2, h.g.bal⟩
theorem TripsOk.perm {L : Int} {rows rows' : List Trip} (h : TripsOk L rows) (p : rows'.Perm rows) : TripsOk L rows' :=
  ⟨h.g.perm p, (p.map _).nodup_iff.mpr h.nd, fun t ht => h.pl t (p.mem_iff.mp ht)⟩
theorem TripsOk.moved {L : Int} (k : Int) {rows : List Trip} (h : TripsOk L rows) : TripsOk L (rows.map (movedT L k)) :=
  ⟨moved_rows k h.g, by rw [List.map_map]; exact h.nd, fun t ht => by
    obtain ⟨u, hu, rfl⟩ := List.mem_map.mp ht
    exact h.pl u hu⟩
theorem TripsOk.scaled {L k : Int} {rows : List Trip} (h : TripsOk L rows) (hk : 1 ≤ k) (hL : L * k ≤ 1000000000000) : TripsOk (L * k) (rows.map (scaledT k)) :=
  ⟨scaled_rows h.g hk hL, by rw [List.map_map]; exact h.nd, fun t ht => by
    obtain ⟨u, hu, rfl⟩ := List.mem_map.mp ht
    exact h.pl u hu⟩
theorem ren_place (L : Int) (c : Str) (rows : List Trip) (p : Str) : placeOf L (rows.map (renT c)) p = placeOf L rows p := by
  unfold placeOf
  simp only [List.filter_map, List.map_map]
  rfl
theorem ren_bal {c : Str} {rows : List Trip} (b : Balanced rows) : Balanced (rows.map (renT c)) := fun p => by
  rw [List.filter_map, List.filter_map, List.length_map, List.length_map]
  exact b p
theorem ren_rows {L : Int} (c : Str) {rows : List Trip} (g : RowsG L rows) : RowsG L (rows.map (renT c)) where
  L1 := g.L1
  L2 := g.L2
  few := by rw [List.length_map]; exact g.few
  lv := fun t ht => by
    obtain ⟨u, hu, rfl⟩ := List.mem_map.mp ht
    exact g.lv u hu
  bal := ren_bal g.bal
theorem got_perm {L : Int} {rows : List Trip} {tab : Tab} (h : TripsOk L rows) (g : TabGot L rows tab) : TripsOk L tab.rows ∧ PlacesOf tab.rows tab.places ∧ (∀ x ∈ tab.places, x ∈ six) ∧ tab.places.length ≤ 8 := by
  have e := h.perm g.hr
  have p : PlacesOf tab.rows tab.places := ⟨g.hp.1, fun x => (g.hp.2 x).trans (by
    constructor
    · rintro ⟨t, ht, q⟩; exact ⟨t, g.hr.mem_iff.mpr ht, q⟩
    · rintro ⟨t, ht, q⟩; exact ⟨t, g.hr.mem_iff.mp ht, q⟩)⟩
  exact ⟨e, p, places_few e.pl p⟩
/-! ### taken so many times -/
theorem scaled_ok {L k : Int} {rows : List Trip} {tab : Tab} (h : TripsOk L rows) (ok : ∀ t ∈ rows, TripOk t) (tk : ∀ t ∈ rows, t.takes ≤ 3 * L) (g : TabGot L rows tab) (h5 : 5 ≤ L) (h24 : L ≤ 24) (hk : 1 ≤ k) (hL : 3 * L * k ≤ 1000000000000) : ScaledOk tab k := by
  obtain ⟨e, hp, h6, h8⟩ := got_perm h g
  obtain ⟨gL, gr, gp⟩ := g
  subst gL
  have kn := Int.mul_nonneg (show 0 ≤ tab.L by omega) (show 0 ≤ k by omega)
  have e3 : 3 * tab.L * k = 3 * (tab.L * k) := Int.mul_assoc _ _ _
  have kL : tab.L * k ≤ 1000000000000 := by omega
  refine ⟨hk, h5, h24, kL, fun t ht => ?_, (e.scaled hk kL).pre, gp.1, h8, e.g.few, fun p hpm => six_ok (h6 p hpm), fun p => e.g.ok p, fun great gg => scaled_gd e.g hp hk kL gg⟩
  have hm := gr.mem_iff.mp ht
  have q := Int.mul_le_mul_of_nonneg_right (tk t hm) (show 0 ≤ k by omega)
  exact ⟨ok t hm, by omega, (e.g.lv t ht).2⟩
/-! ### moved -/
theorem moved_ok {L : Int} (k : Int) {rows : List Trip} {tab : Tab} (h : TripsOk L rows) (g : TabGot L rows tab) : MovedOk tab k := by
  obtain ⟨e, hp, h6, h8⟩ := got_perm h g
  obtain ⟨gL, gr, gp⟩ := g
  subst gL
  have em := e.moved k
  refine ⟨em.pre, fun tab' g' => ?_⟩
  obtain ⟨e', hp', h6', h8'⟩ := got_perm em g'
  obtain ⟨gL', gr', gp'⟩ := g'
  have eg' : RowsG tab'.L tab'.rows := by rw [gL']; exact e'.g
  have L1 := e.g.L1
  have pd : ∀ p, PermD (moveD k (plOf tab p)) (plOf tab' p) := fun p => by
    rw [← place_moved L1]
    show PermD _ (placeOf tab'.L tab'.rows p)
    rw [gL']
    exact permD_rows gr' p
  have gt : ∀ p, PlaceG (moveD k (plOf tab p)) := fun p => by rw [← place_moved L1]; exact em.g.g p
  have es : ∀ p m, stockAt (plOf tab' p) m = stockAt (plOf tab p) m + turnsD k (plOf tab p) := fun p m => by
    rw [(pd p).stock (gt p) (eg'.g p), move_stock (e.g.g p) k (gt p)]
  have al : ∀ p s t, StairOf (plOf tab p) s → StairOf (plOf tab' p) t → s.rises = t.rises ∧ s.step = t.step := fun p s t hs ht =>
    ⟨move_rises (e.g.g p) (eg'.g p) gL' (es p) (stair_rises (e.g.g p) hs) (stair_rises (eg'.g p) ht), by
      rw [hs.st, ht.st, (pd p).c.length_eq]
      exact congrArg _ (List.length_map _).symm⟩
  have pm : tab'.places.Perm tab.places := places_same hp gp' fun x => places_map (f := movedT tab.L k) (fun _ => rfl) (fun _ => rfl) x
  refine ⟨⟨gL'.symm, L1, e.g.L2, e.g.few, eg'.few, e.g.ok, eg'.ok, fun p hpm => six_ok (h6 p hpm), fun p hpm => six_ok (h6' p hpm), h8, h8', fun p s t hs ht => ⟨stair_ok (e.g.g p) (e.g.ok p) hs, al p s t hs ht⟩⟩,
    ⟨gL', eg'.L1, eg'.L2, eg'.few, e.g.few, eg'.ok, e.g.ok, fun p hpm => six_ok (h6' p hpm), fun p hpm => six_ok (h6 p hpm), h8', h8, fun p s t hs ht => ⟨stair_ok (eg'.g p) (eg'.ok p) hs, (al p t s ht hs).1.symm, (al p t s ht hs).2.symm⟩⟩, pm, gp.1, ?_⟩
  have u := under_moved (k := k) L1 hp
  rw [sum_ext fun p _ => es p 0, sum_plus]
  have u2 : underOf tab' = (tab.rows.map fun t => ((movedT tab.L k t).leaves + (movedT tab.L k t).takes) / tab.L).sum := by
    unfold underOf
    rw [gL', perm_sum (gr'.map _), List.map_map]
    rfl
  have u1 : underOf tab = (tab.rows.map fun t => (t.leaves + t.takes) / tab.L).sum := rfl
  rw [u1, u2, u]
  show _ + _ + _ = _ + (_ + (tab.places.map fun p => turnsD k (placeOf tab.L tab.rows p)).sum)
  omega
/-! ### joined -/
theorem place_app (L : Int) (r1 r2 : List Trip) (p : Str) : placeOf L (r1 ++ r2) p = ⟨L, (placeOf L r1 p).leavings ++ (placeOf L r2 p).leavings, (placeOf L r1 p).ends ++ (placeOf L r2 p).ends, (placeOf L r1 p).comings ++ (placeOf L r2 p).comings⟩ := by
  unfold placeOf
  simp only [List.filter_append, List.map_append]
theorem app_Wd {L : Int} {r1 r2 : List Trip} (p : Str) (x m : Int) : Wd (placeOf L (r1 ++ r2) p) x m = Wd (placeOf L r1 p) x m + Wd (placeOf L r2 p) x m := by
  rw [place_app]
  unfold Wd
  show cnt L (_ ++ _) x - cnt L (_ ++ _) x - cnt L (_ ++ _) (x - m) = (cnt L _ x - cnt L _ x - cnt L _ (x - m)) + (cnt L _ x - cnt L _ x - cnt L _ (x - m))
  rw [cnt_app, cnt_app, cnt_app]
  omega
theorem app_stock {L : Int} {r1 r2 : List Trip} (g1 : RowsG L r1) (g2 : RowsG L r2) (g : RowsG L (r1 ++ r2)) (p : Str) (m : Int) : stockAt (placeOf L (r1 ++ r2) p) m ≤ stockAt (placeOf L r1 p) m + stockAt (placeOf L r2 p) m := by
  refine stock_lub (g.g p) (fun c _ => ?_) fun e => ?_
  · rw [app_Wd]
    have := Wd_le (g1.g p) c m
    have := Wd_le (g2.g p) c m
    omega
  · rw [place_app] at e
    have e := List.append_eq_nil_iff.mp e
    rw [stock_empty e.1, stock_empty e.2]
    omega
theorem no_place {L : Int} {rows : List Trip} {ps : List Str} (h : PlacesOf rows ps) {p : Str} (hp : p ∉ ps) : (placeOf L rows p).leavings = [] ∧ (placeOf L rows p).comings = [] := by
  have n : ∀ t ∈ rows, t.start ≠ p ∧ t.goal ≠ p := fun t ht => ⟨fun e => hp ((h.2 p).mpr ⟨t, ht, .inl e.symm⟩), fun e => hp ((h.2 p).mpr ⟨t, ht, .inr e.symm⟩)⟩
  unfold placeOf
  constructor
  · show (rows.filter fun t => decide (t.start = p)).map _ = []
    rw [List.filter_eq_nil_iff.mpr fun t ht => by simpa using (n t ht).1]
    rfl
  · show (rows.filter (isComing p)).map _ = []
    rw [List.filter_eq_nil_iff.mpr fun t ht => by unfold isComing; simp [(n t ht).2]]
    rfl
theorem units_sum {one two : Tab} {p : Str} {f : Tab → Int} (h1 : p ∉ one.places → f one = 0) (h2 : p ∉ two.places → f two = 0) : ((unitsAt one two p).map f).sum = f one + f two := by
  unfold unitsAt
  by_cases e1 : p ∈ one.places
  · by_cases e2 : p ∈ two.places
    · simp [e1, e2]
    · simp [e1, e2, h2 e2]
  · by_cases e2 : p ∈ two.places
    · simp [e1, e2, h1 e1]
    · simp [e1, e2, h1 e1, h2 e2]
theorem joined_gd {L : Int} {one two both : Tab} (o1 : TripsOk L one.rows) (o2 : TripsOk L two.rows) (ob : TripsOk L (one.rows ++ two.rows)) (l1 : one.L = L) (l2 : two.L = L) (p1 : PlacesOf one.rows one.places) (p2 : PlacesOf two.rows two.places) (c1 : one.places.length ≤ 8) (g : TabGot L (one.rows ++ two.rows) both) : JoinedGd one two both := by
  obtain ⟨eb, hpb, h6b, h8b⟩ := got_perm ob g
  obtain ⟨gL, gr, gp⟩ := g
  subst l1
  have w1 := o1.g
  have w2 : RowsG two.L two.rows := by rw [l2]; exact o2.g
  have w3 : RowsG both.L both.rows := by rw [gL]; exact eb.g
  have pd : ∀ p, PermD (placeOf one.L (one.rows ++ two.rows) p) (plOf both p) := fun p => by
    show PermD _ (placeOf both.L both.rows p)
    rw [gL]
    exact permD_rows gr p
  have e2 : ∀ p, plOf two p = placeOf one.L two.rows p := fun p => by show placeOf two.L two.rows p = _; rw [l2]
  have st : ∀ p m, stockAt (plOf both p) m ≤ stockAt (plOf one p) m + stockAt (plOf two p) m := fun p m => by
    rw [(pd p).stock (ob.g.g p) (w3.g p), e2]
    exact app_stock o1.g o2.g ob.g p m
  have cs : ∀ p, (plOf both p).comings.length = (plOf one p).comings.length + (plOf two p).comings.length := fun p => by
    rw [(pd p).c.length_eq, place_app, e2]
    exact List.length_append
  have z1 : ∀ p m, 0 ≤ m → callOf (stairC (plOf one p)) m = stockAt (plOf one p) m := fun p m hm => call_stock (w1.g p) (stairC_spec _) hm
  have z2 : ∀ p m, 0 ≤ m → callOf (stairC (plOf two p)) m = stockAt (plOf two p) m := fun p m hm => call_stock (w2.g p) (stairC_spec _) hm
  refine ⟨w1.few, w2.few, w3.few, w1.ok, w2.ok, w3.ok, h8b, c1, fun p s hs => stair_ok (w1.g p) (w1.ok p) hs, fun p s hs => stair_ok (w2.g p) (w2.ok p) hs, fun p s hs => stair_ok (w3.g p) (w3.ok p) hs, fun p s hs m hm => ?_, fun p s hs => ?_⟩
  · rw [call_stock (w3.g p) hs hm]
    constructor
    · exact Int.le_trans (stock_base (w3.g p)) (stock_mono (w3.g p) hm)
    · rw [units_sum (fun h => ?_) fun h => ?_, z1 p m hm, z2 p m hm]
      · exact st p m
      · rw [z1 p m hm]; exact stock_empty (no_place p1 h).1 m
      · rw [z2 p m hm]; exact stock_empty (no_place p2 h).1 m
  · rw [units_sum (fun h => ?_) fun h => ?_, hs.st, (stairC_spec (plOf one p)).st, (stairC_spec (plOf two p)).st, cs]
    · omega
    · rw [(stairC_spec (plOf one p)).st, (no_place p1 h).2]; rfl
    · rw [(stairC_spec (plOf two p)).st, (no_place p2 h).2]; rfl
/-! ### the drawn tables -/
theorem bal_of {trips : List Trip} (h : Bal trips) : Balanced trips := fun p => by
  have e : ∀ f : Trip → Str, (trips.filter fun t => decide (f t = p)).length = ((trips.map f).filter fun x => decide (x = p)).length := fun f => by
    rw [List.filter_map, List.length_map]
    rfl
  rw [e (·.goal), e (·.start)]
  exact (h.filter _).length_eq.symm
theorem plain_names {size : Int} {pls left : List Str} {trips : List Trip} {n : Nat} (h : Part size pls trips left n) : (∀ t ∈ trips, t.name ∈ left12) ∧ (trips.map (·.name)).Nodup ∧ ∀ c : Str, c = "k" ∨ c = "n" → ((trips.map (renT c)).map (·.name)).Nodup := by
  refine ⟨fun t ht => h.nm.mem_iff.mp (List.mem_append_left _ (List.mem_map.mpr ⟨t, ht, rfl⟩)), ?_, fun c hc => ?_⟩
  · have := h.nm.nodup_iff.mpr (show left12.Nodup by decide +kernel)
    exact (List.nodup_append.mp this).1
  · have := ((h.nm.map (renN c)).nodup_iff).mpr (ren_nd hc)
    rw [List.map_append] at this
    have e : (trips.map (renT c)).map (·.name) = (trips.map (·.name)).map (renN c) := by
      rw [List.map_map, List.map_map]; rfl
    rw [e]
    exact (List.nodup_append.mp this).1
theorem plain_rows {size : Int} {trips : List Trip} (h : PlainOk size trips) : RowsG size trips ∧ (∀ t ∈ trips, t.start ∈ six ∧ t.goal ∈ six) ∧ trips.length ≤ 7 := by
  obtain ⟨s1, s2, ne, ⟨pls, hp, left, part⟩, bal⟩ := h
  refine ⟨⟨by omega, by omega, by have := part.n; omega, fun t ht => ⟨(part.ok t ht).l0, (part.ok t ht).l1⟩, bal_of bal⟩, fun t ht => ⟨six_of hp (part.ok t ht).s, six_of hp (part.ok t ht).g⟩, part.n⟩
theorem plain_trips {size : Int} {trips : List Trip} (h : PlainOk size trips) : TripsOk size trips := by
  obtain ⟨g, pl, _⟩ := plain_rows h
  obtain ⟨s1, s2, ne, ⟨pls, hp, left, part⟩, bal⟩ := h
  exact ⟨g, (plain_names part).2.1, pl⟩
theorem plain_ren {size : Int} {trips : List Trip} (h : PlainOk size trips) {c : Str} (hc : c = "k" ∨ c = "n") : TripsOk size (trips.map (renT c)) := by
  obtain ⟨g, pl, _⟩ := plain_rows h
  obtain ⟨s1, s2, ne, ⟨pls, hp, left, part⟩, bal⟩ := h
  refine ⟨ren_rows c g, (plain_names part).2.2 c hc, fun t ht => ?_⟩
  obtain ⟨u, hu, rfl⟩ := List.mem_map.mp ht
  exact pl u hu
theorem plain_trip {size : Int} {trips : List Trip} (h : PlainOk size trips) : ∀ t ∈ trips, TripOk t ∧ t.takes ≤ 3 * size ∧ t.name ∈ left12 := fun t ht => by
  obtain ⟨g, pl, _⟩ := plain_rows h
  obtain ⟨s1, s2, ne, ⟨pls, hp, left, part⟩, bal⟩ := h
  have r := part.ok t ht
  have hn := (plain_names part).1 t ht
  have := r.l1
  have := r.t1
  exact ⟨⟨left_ok hn, six_ok (pl t ht).1, six_ok (pl t ht).2, r.l0, by omega, r.t0, by omega, r.st⟩, r.t1, hn⟩
theorem plain_trip_ren {size : Int} {trips : List Trip} (h : PlainOk size trips) {c : Str} (hc : c = "k" ∨ c = "n") : ∀ t ∈ trips.map (renT c), TripOk t := fun t ht => by
  obtain ⟨u, hu, rfl⟩ := List.mem_map.mp ht
  obtain ⟨o, _, hn⟩ := plain_trip h u hu
  exact ⟨ren_ok hc hn, o.s, o.g, o.l0, o.l1, o.t0, o.t1, o.st⟩
theorem joined_ok {size : Int} {trips others : List Trip} (h1 : PlainOk size trips) (h2 : PlainOk size others) : JoinedOk size trips others := by
  have a1 := plain_trips h1
  have a2 := plain_ren h2 (.inl rfl)
  have a3 := plain_ren h1 (.inr rfl)
  have n7 := (plain_rows h1).2.2
  have m7 := (plain_rows h2).2.2
  have ab : ∀ one two, TabGot size trips one → TabGot size (others.map (renT "k")) two → TripsOk size (one.rows ++ two.rows) := fun one two g1 g2 => by
    have e1 := (got_perm a1 g1).1
    have e2 := (got_perm a2 g2).1
    refine ⟨⟨e1.g.L1, e1.g.L2, ?_, fun t ht => ?_, fun p => ?_⟩, ?_, fun t ht => ?_⟩
    · rw [List.length_append, g1.hr.length_eq, g2.hr.length_eq, List.length_map]
      omega
    · rcases List.mem_append.mp ht with q | q
      · exact e1.g.lv t q
      · exact e2.g.lv t q
    · rw [List.filter_append, List.filter_append, List.length_append, List.length_append, e1.g.bal p, e2.g.bal p]
    · rw [List.map_append]
      refine List.nodup_append.mpr ⟨e1.nd, e2.nd, fun x hx y hy => ?_⟩
      obtain ⟨t, ht, rfl⟩ := List.mem_map.mp hx
      obtain ⟨u, hu, rfl⟩ := List.mem_map.mp hy
      obtain ⟨v, hv, rfl⟩ := List.mem_map.mp (g2.hr.mem_iff.mp hu)
      exact ren_ne (plain_trip h1 t (g1.hr.mem_iff.mp ht)).2.2 (plain_trip h2 v hv).2.2
    · rcases List.mem_append.mp ht with q | q
      · exact e1.pl t q
      · exact e2.pl t q
  refine ⟨h1.s1, h1.s2, fun t ht => (plain_trip h1 t ht).1.n.hi, fun t ht => (plain_trip h2 t ht).1.n.hi, fun t ht => (plain_trip h1 t ht).1, plain_trip_ren h2 (.inl rfl), plain_trip_ren h1 (.inr rfl), a1.pre, a2.pre, a3.pre, fun one two g1 g2 => (ab one two g1 g2).pre, fun one two both g1 g2 g3 => ?_, fun one new g1 g2 => ?_⟩
  · obtain ⟨e1, p1, _, c1⟩ := got_perm a1 g1
    obtain ⟨e2, p2, _, _⟩ := got_perm a2 g2
    exact joined_gd e1 e2 (ab one two g1 g2) g1.hL g2.hL p1 p2 c1 g3
  · obtain ⟨e1, p1, _, _⟩ := got_perm a1 g1
    obtain ⟨e2, p2, _, _⟩ := got_perm a3 g2
    have w2 : RowsG new.L new.rows := by rw [g2.hL]; exact e2.g
    refine ⟨w2.few, w2.ok, fun p hp => ?_, fun p s t hs ht => ?_⟩
    · exact (places_same g1.hp g2.hp fun x => places_map (f := renT "n") (fun _ => rfl) (fun _ => rfl) x).mem_iff.mpr hp
    · have hs' : StairOf (placeOf size trips p) s := stair_rows a1.g g1.hr (by rw [← g1.hL]; exact hs)
      have ht' : StairOf (placeOf size (trips.map (renT "n")) p) t := stair_rows a3.g g2.hr (by rw [← g2.hL]; exact ht)
      rw [ren_place] at ht'
      exact stairOf_unique hs' ht'
end K6
set_option Elab.async false
set_option linter.all false
set_option maxRecDepth 100000
set_option maxHeartbeats 4000000
namespace K6
open PySem PySem.Spec PyProof.Rows L2
open He (ga ma)

def sp_law (K : PySem.W.Frag) : Sp := fun vs H Q _ => ∃ (a : Addr) (ns : List Int), vs = [.ref a] ∧ SqL K H a (ns.map V.int) ∧ ∀ H', Q (.bl true) H'

abbrev N_law : List Str := ["_law_script", "_law_pen_here", "_law_turn", "_law_sizes", "_law_plain_here", "_law_other", "_law_table_here", "_law_times"]
theorem sc_law : FnScope N_law ["_law_script"] (defScope s_law) := ⟨rfl, rfl, rfl, by decide +kernel, rfl, by decide +kernel, by decide +kernel⟩
theorem ok_law {P : Program} {w : World} {K : PySem.W.Frag} {mg : Str → Option Value} {base : Heap} (T : Txt P K mg) : FnRG P w K mg base CX0 13 (ga K "law") (sp_law K) := by
  have nd := sc_law.nd
  refine fnRG T.d_law sc_law (fun _ _ _ _ _ _ us hl => match us, hl with | [_], _ => rfl) (fun vs H Q E h => ?_) fun cdv A outer s H vs Q E hg hr h => ⟨_, (pss_cons (ps_set (i := 1) nd rfl (by first | exact Or.inl rfl | exact Or.inr rfl) (pe_cal (ok_law_pen T) (hr.mono (by decide)) (kpOf T.d_law_pen) rfl T.g_law_pen pass0 (pa_cons (pv 0) pa_nil))) (pss_cons (ps_for PassesOwn.never rfl (pi_range1 rfl T.f_range (pa_cons pe_int pa_nil)) (pg_name (i := 2) nd rfl (by first | exact Or.inl rfl | exact Or.inr rfl)) (pss_cons (ps_set (i := 3) nd rfl (by first | exact Or.inl rfl | exact Or.inr rfl) (pe_lst (pa_cons (pe_cal (ok_law_pick T) (hr.mono (by decide)) (kpOf T.d_law_pick) rfl T.g_law_pick pass0 (pa_cons (pv 1) (pa_cons (pe_lst (pa_cons pe_int (pa_cons pe_int (pa_cons pe_int (pa_cons (pe_op op_add pe_int (pe_cal (ok_law_draw T) (hr.mono (by decide)) (kpOf T.d_law_draw) rfl T.g_law_draw pass0 (pa_cons (pv 1) (pa_cons pe_int pa_nil)))) pa_nil))))) pa_nil))) pa_nil))) (pss_cons (ps_par (i := 4) (j := 5) rfl nd rfl rfl (by decide) rfl rfl (pa_cons (pe_cal (ok_law_plain T) (hr.mono (by decide)) (kpOf T.d_law_plain) rfl T.g_law_plain pass0 (pa_cons (pv 1) (pa_cons (pv 3) (pa_cons pe_int pa_nil)))) (pa_cons (pe_cal (ok_law_plain T) (hr.mono (by decide)) (kpOf T.d_law_plain) rfl T.g_law_plain pass0 (pa_cons (pv 1) (pa_cons (pv 3) (pa_cons pe_int pa_nil)))) pa_nil)) rfl) (pss_cons (ps_set (i := 6) nd rfl (by first | exact Or.inl rfl | exact Or.inr rfl) (pe_cal (ok_law_table T) (hr.mono (by decide)) (kpOf T.d_law_table) rfl T.g_law_table pass0 (pa_cons (pv 4) pa_nil))) (pss_cons (ps_set (i := 7) nd rfl (by first | exact Or.inl rfl | exact Or.inr rfl) (pe_cal (ok_law_pick T) (hr.mono (by decide)) (kpOf T.d_law_pick) rfl T.g_law_pick pass0 (pa_cons (pv 1) (pa_cons (pe_lst (pa_cons pe_int (pa_cons pe_int (pa_cons (pe_op op_fdivW (pe_op op_pow pe_int pe_int) (pe_ix ix_list (pv 3) pe_int (fun _ _ => rfl))) (pa_cons (pe_op op_add pe_int (pe_cal (ok_law_draw T) (hr.mono (by decide)) (kpOf T.d_law_draw) rfl T.g_law_draw pass0 (pa_cons (pv 1) (pa_cons (pe_op op_pow pe_int pe_int) pa_nil)))) pa_nil))))) pa_nil)))) (pss_cons (ps_if (PW.pt (pw_or (pt_not (pt_val (pe_calG (show (A.deeper _).guards = some [] from hg) (ok_law_scaled_right T) (hr.mono (by decide)) (kpOf T.d_law_scaled_right) rfl T.g_law_scaled_right pass0 (pa_cons (pv 1) (pa_cons (pv 4) (pa_cons (pv 6) (pa_cons (pv 7) pa_nil))))))) (pw_or1 (pt_not (pt_val (pe_cal (ok_law_moved_right T) (hr.mono (by decide)) (kpOf T.d_law_moved_right) rfl T.g_law_moved_right pass0 (pa_cons (pv 1) (pa_cons (pv 6) pa_nil)))))))) (pss_one (ps_ret pe_bl)) pss_nil) (pss_one (ps_if (pt_not (pt_val (pe_cal (ok_law_joined_right T) (hr.mono (by decide)) (kpOf T.d_law_joined_right) rfl T.g_law_joined_right pass0 (pa_cons (pv 1) (pa_cons (pv 4) (pa_cons (pv 5) pa_nil)))))) (pss_one (ps_ret pe_bl)) pss_nil)))))))) (pss_one (ps_ret pe_bl)))), ?_⟩
  · obtain ⟨_, _, rfl, _⟩ := h; rfl
  · obtain ⟨a, ns, rfl, hs, hq⟩ := h
    refine ⟨_, rfl, a, ns, rfl, hs, fun H1 p l s1 _ _ pen1 => ?_⟩
    have c11 : CPow 10 11 := ⟨by decide, by decide, by decide⟩
    have c6 : CPow 10 6 := ⟨by decide, by decide, by decide⟩
    have e11 : (10 : Int) ^ (11 : Int).toNat = 100000000000 := by decide
    have e6 : (10 : Int) ^ (6 : Int).toNat = 1000000 := by decide
    refine ⟨3, rfl, by decide, by decide, for_range (n := (3 : Int).toNat) (fun i σ H' => PenAt H' p l (300 * i) ∧ ∃ u2 u3 u4 u5 u6 u7, σ = [some (.ref a), some (.ref p), u2, u3, u4, u5, u6, u7]) ⟨pen1, _, _, _, _, _, _, rfl⟩ (fun i σ H2 hi hpv => ?_) fun σ H2 hpv => ?_⟩
    · obtain ⟨pen2, u2, u3, u4, u5, u6, u7, rfl⟩ := hpv
      have i3 : i < 3 := hi
      refine ⟨_, rfl, _, rfl, p, 20, l, 300 * i, rfl, pen2, by decide, by decide, by omega, fun H3 r1 sx3 pen3 r10 r11 => ⟨_, _, rfl, rfl, (by show 4 ≤ sizeLine; decide), fun q1 hq1 => ?_⟩⟩
      have n1 := penAt_ne pen3 hq1
      have t1 := same_upd (o := .lst [V.int 24, .int 10, .int 7, .int (5 + r1)]) hq1
      refine ⟨p, q1, _, l, 300 * i + 1, rfl, pen3.s t1, upd_same, n1.1, by show 1 ≤ 4; decide, by show 4 ≤ 1000; decide, by omega, fun H4 v sx4 pen4 hv => ⟨(by show 1 ≤ sizeLine; decide), fun qs hqs => ?_⟩⟩
      obtain ⟨size, z1, z2, rfl⟩ : ∃ size : Int, 5 ≤ size ∧ size ≤ 24 ∧ v = .int size := by
        simp only [List.mem_cons, List.not_mem_nil, or_false] at hv
        rcases hv with rfl | rfl | rfl | rfl
        · exact ⟨_, by omega, by omega, rfl⟩
        · exact ⟨_, by omega, by omega, rfl⟩
        · exact ⟨_, by omega, by omega, rfl⟩
        · exact ⟨_, by omega, by omega, rfl⟩
      have n2 := penAt_ne pen4 hqs
      have t2 := same_upd (o := .lst [V.int size]) hqs
      have hqs5 : upd H4 qs (.lst [V.int size]) qs = some (.lst [V.int size]) := upd_same
      have pen5 := pen4.s t2
      generalize upd H4 qs (.lst [V.int size]) = H5 at t2 hqs5 pen5 ⊢
      refine ⟨_, rfl, _, rfl, p, qs, size, l, 300 * i + 1 + 1, rfl, pen5, hqs5, n2.1, z1, z2, by omega, fun H6 trips x sx6 pen6 ok1 hx => ?_⟩
      have hqs6 := sx6 _ _ n2.1 hqs5
      refine ⟨_, rfl, _, rfl, p, qs, size, l, 300 * i + 1 + 1 + 100, rfl, pen6, hqs6, n2.1, z1, z2, by omega, fun H7 others y sx7 pen7 ok2 hy => ⟨_, _, rfl, ?_⟩⟩
      have hqs7 := sx7 _ _ n2.1 hqs6
      obtain ⟨_, _, _, hpe6, _⟩ := id pen6
      have hx7 := hx.sx hpe6 sx7
      have ot := plain_trips ok1
      refine ⟨_, rfl, x, size, trips, rfl, hx7.hp, by omega, by omega, fun t ht => (plain_trip ok1 t ht).1, ot.pre, fun H8 tab ty s8 ht hg2 => ?_⟩
      have hqs8 := s8 _ _ hqs7
      refine ⟨_, rfl, _, _, rfl, rfl, c11, _, rfl, qs, _, 0, _, rfl, rfl, .inl (.inl hqs8), rfl, _, _, rfl, rfl, wide_div (b := 64) (by omega) (by omega) (by decide) (by decide), _, rfl, _, _, rfl, rfl, c6, p, _, l, 300 * i + 1 + 1 + 100 + 100, rfl, pen7.s s8, by rw [e6]; decide, by rw [e6]; decide, by omega, fun H9 r2 sx9 pen9 r20 r21 => ⟨_, _, rfl, rfl, (by show 4 ≤ sizeLine; decide), fun q2 hq2 => ?_⟩⟩
      rw [e6] at r21
      have n3 := penAt_ne pen9 hq2
      have t3 := same_upd (o := .lst [V.int 2, .int 1, .int ((10 : Int) ^ (11 : Int).toNat / size), .int (1 + r2)]) hq2
      refine ⟨p, q2, _, l, 300 * i + 1 + 1 + 100 + 100 + 1, rfl, pen9.s t3, upd_same, n3.1, by show 1 ≤ 4; decide, by show 4 ≤ 1000; decide, by omega, fun H10 v sx10 pen10 hv => ?_⟩
      obtain ⟨k, k1, k2, rfl⟩ : ∃ k : Int, 1 ≤ k ∧ 3 * size * k ≤ 1000000000000 ∧ v = .int k := by
        have small : ∀ k : Int, 0 ≤ k → k ≤ 1000000 → 3 * size * k ≤ 1000000000000 := fun k h0 h1 => by
          have e := Int.mul_le_mul_of_nonneg_right (show 3 * size ≤ 72 by omega) h0
          omega
        simp only [List.mem_cons, List.not_mem_nil, or_false] at hv
        rcases hv with rfl | rfl | rfl | rfl
        · exact ⟨_, by omega, small _ (by omega) (by omega), rfl⟩
        · exact ⟨_, by omega, small _ (by omega) (by omega), rfl⟩
        · refine ⟨_, ?_, ?_, rfl⟩
          · rw [e11]
            exact Int.le_ediv_of_mul_le (by omega) (by omega)
          · rw [e11, Int.mul_assoc]
            have := Int.mul_ediv_self_le (x := 100000000000) (k := size) (by omega)
            omega
        · exact ⟨_, by omega, small _ (by omega) (by omega), rfl⟩
      obtain ⟨_, _, _, hpe7, _⟩ := id pen7
      have sx710 : SameX p H7 H10 := sameX_trans (sameX_of s8) (sameX_trans sx9 (sameX_trans (sameX_of t3) sx10))
      have ht10 := ((ht.si ((pen7.s s8).sx sx9)).si (SameI.of t3)).si ((pen9.s t3).sx sx10)
      have hx10 := hx7.sx hpe7 sx710
      have hy10 := hy.sx hpe7 sx710
      have pt := plain_trip ok1
      obtain ⟨ot1, _, _, _⟩ := got_perm ot hg2
      have hL := hg2.hL
      refine ⟨_, rfl, _, rfl, _, rfl, _, rfl, p, x, ty, l, 300 * i + 1 + 1 + 100 + 100 + 1 + 1, tab, k, rfl, pen10, by omega, ht10, scaled_ok ot (fun t ht => (pt t ht).1) (fun t ht => (pt t ht).2.1) hg2 z1 z2 k1 k2, fun H11 sx11 pen11 => ⟨true, rfl, iteF ?_⟩⟩
      refine ⟨_, rfl, _, rfl, p, ty, l, 300 * i + 1 + 1 + 100 + 100 + 1 + 1 + 24, tab, rfl, pen11, by omega, ht10.si (pen10.sx sx11), by omega, by omega, fun t ht => (pt t (hg2.hr.mem_iff.mp ht)).1, fun k _ _ => moved_ok k ot hg2, fun H12 sx12 pen12 => ⟨true, rfl, iteF ?_⟩⟩
      obtain ⟨_, _, _, hpe10, _⟩ := id pen10
      have sx1012 := sameX_trans sx11 sx12
      refine ⟨_, rfl, _, rfl, _, rfl, p, x, y, l, 300 * i + 1 + 1 + 100 + 100 + 1 + 1 + 24 + 1, size, trips, others, rfl, pen12, by omega, hx10.sx hpe10 sx1012, hy10.sx hpe10 sx1012, joined_ok ok1 ok2, fun H13 sx13 pen13 => ⟨true, rfl, iteF ?_⟩⟩
      exact ⟨pen13.mono (by omega), _, _, _, _, _, _, rfl⟩
    · obtain ⟨pen2, u2, u3, u4, u5, u6, u7, rfl⟩ := hpv
      exact hq _

end K6
set_option Elab.async false
set_option linter.all false
set_option maxRecDepth 100000
set_option maxHeartbeats 0
namespace K6
open PySem PySem.Spec PyProof.Rows L2
theorem law_facts {P : Program} {w : World} {K : PySem.W.Frag} {h : Heap} {mg : Str → Option Value} {f : Addr} (hP : P.main.file = "/claim/cut.py") (ht : (P.main.scope.names.lookup ("super" : Str)).isSome = false) (X : K.In h) (G : h.Ns mainGlobals mg) (hfa : mg ("law" : Str) = some (.ref f)) (c : SaysX fa fn K) :
    ∀ base : Heap, K.In base → base.Ns mainGlobals mg → FnRG P w K mg base CX0 13 f (sp_law K) := by
  have T := txt_of hP ht X G c
  have e := hfa.symm.trans T.g_law
  cases e
  exact fun base _ _ => ok_law (P := P) (w := w) (base := base) T
end K6
set_option maxRecDepth 100000 in
set_option maxHeartbeats 0 in
open PySem PySem.W PySem.Calls PyProof.Rows in
theorem PySem.Challenge.cw_onelongturn_k60_whole_stairs_of_great_an_holds : PySem.Challenge.rw_onelongturn_k60_whole_stairs_of_great_an.Holds := by
  w_on; o_law
  refine HandSHeadRun.head_any (r := OpenLaw.row PySem.Challenge.rw_onelongturn_k60_whole_stairs_of_great_an) (q := K6.qv) (H := K6.hk) (ob := K6.ob) (M := 12000) (loose := K6.names) (d := HandSHeadRun.topDef (OpenLaw.row PySem.Challenge.rw_onelongturn_k60_whole_stairs_of_great_an).prog 84) (kwd := []) K6.ob_eq
    (by kernel_rfl) (fun s => by kernel_rfl) K6.run (by kernel_rfl) (by kernel_rfl) (by kernel_rfl) (by rfl) (by first | assumption | decide +kernel) (by decide +kernel) ⟨rfl, rfl, rfl, rfl, rfl, by decide +kernel⟩ ?hw ?hc
  case hw => w_witness2
  case hc =>
    refine K6.walk_ofG (l := PySem.Challenge.rw_onelongturn_k60_whole_stairs_of_great_an) (n := 63) (k := 13) (CX := L2.CX0) rfl (by decide) (by kernel_rfl) ⟨rfl, by decide, by decide⟩ ?F (fun _ _ _ _ z => z)
    intro w mg fa h Y G hmg0
    obtain ⟨K, KX, c⟩ := Y
    have hmg : mg ("law" : PySem.Str) = some (.ref fa) := by
      have e : (HandSHeadRun.topDef (OpenLaw.row PySem.Challenge.rw_onelongturn_k60_whole_stairs_of_great_an).prog 84).name = ("law" : PySem.Str) := by kernel_rfl
      rw [← e]
      exact hmg0
    exact ⟨K, K6.sp_law K, KX, fun H a ns hl _ hS => ⟨a, ns, rfl, hS, fun _ => rfl⟩, K6.law_facts (P := (PySem.Challenge.rw_onelongturn_k60_whole_stairs_of_great_an).prog) (w := w) (by kernel_rfl) (by kernel_rfl) KX G hmg c⟩
